import PyProof.Rows.All
import Wide.All
import OpenK.AllK
import Wide.FinOn
import PyProof.ExcArgs
import Lean
import PySem.Challenge.RW_no0155_01
set_option Elab.async false

section
set_option maxRecDepth 100000
set_option maxHeartbeats 8000000
set_option Elab.async false
namespace Mine
open PySem PySem.W PyProof.Rows
abbrev Lit {α : Type} (_ : α) : Type := α
abbrev Pick {α : Type} (x : α) : Type := (b : α) → b = x → Lit x
local macro_rules | `(tactic| walk_at "MY lit") => `(tactic| (refine (?f : Pick _) ?b ?h; (case f => exact fun b _ => b); (case h => (conv => rhs; whnf))))
noncomputable def stmtAt (i : Nat) : Stmt := (PySem.Challenge.pw_no0155_01.main.body.drop i).headD (.Pass ⟨0, 0, 0, 0⟩)
noncomputable def pick (i j : Nat) : Stmt := match j with
  | 0 => stmtAt i
  | j + 1 => match stmtAt i with
    | .ClassDef _ _ _ b .. => (b.drop j).headD (.Pass ⟨0, 0, 0, 0⟩)
    | s => s
noncomputable def fP (i j : Nat) : Arguments := match pick i j with | .FunctionDef _ a .. => a | _ => ⟨[], [], none, [], [], none, []⟩
noncomputable def fB (i j : Nat) : List Stmt := match pick i j with | .FunctionDef _ _ b .. => b | _ => []
noncomputable def fS (i j : Nat) : Scope := match pick i j with | .FunctionDef _ _ _ _ _ _ s .. => s | _ => ⟨.function, [], false, false, []⟩
noncomputable def hd.heap_39 : Params → Frag := fun P =>
(nat_lit 2, { cls := Value.none, data := Data.dict #[{ hash := PyData.keyHash P (Str.ofString "type.__subclasses__.Exception.0"), key := Value.str (Str.ofString "type.__subclasses__.Exception.0") 212, val := Value.int 31 0 }, { hash := PyData.keyHash P (Str.ofString "type.__subclasses__.Exception.n"), key := Value.str (Str.ofString "type.__subclasses__.Exception.n") 213, val := Value.int 1 0 }] 2 }) ::
(nat_lit 3, { cls := Value.type "dict", data := Data.dict (List.toArray ({ hash := PyData.keyHash P (Str.ofString "__name__"), key := Value.str (Str.ofString "__name__") 165, val := Value.str (Str.ofString "law_no0155_01") 466 } :: { hash := PyData.keyHash P (Str.ofString "__doc__"), key := Value.str (Str.ofString "__doc__") 166, val := Value.none } :: { hash := PyData.keyHash P (Str.ofString "__package__"), key := Value.str (Str.ofString "__package__") 167, val := Value.none } :: { hash := PyData.keyHash P (Str.ofString "__loader__"), key := Value.str (Str.ofString "__loader__") 168, val := Value.builtin "__main__.__loader__#opaque" } :: { hash := PyData.keyHash P (Str.ofString "__spec__"), key := Value.str (Str.ofString "__spec__") 169, val := Value.none } :: { hash := PyData.keyHash P (Str.ofString "__annotations__"), key := Value.str (Str.ofString "__annotations__") 170, val := Value.ref 6 } :: { hash := PyData.keyHash P (Str.ofString "__builtins__"), key := Value.str (Str.ofString "__builtins__") 171, val := Value.ref 4 } :: { hash := PyData.keyHash P (Str.ofString "__file__"), key := Value.str (Str.ofString "__file__") 173, val := Value.str (Str.ofString "/claim/cut.py") 172 } :: { hash := PyData.keyHash P (Str.ofString "__cached__"), key := Value.str (Str.ofString "__cached__") 174, val := Value.none } :: { hash := PyData.keyHash P (Str.ofString "_wall"), key := Value.str (Str.ofString "_wall") 193, val := Value.ref 21 } :: { hash := PyData.keyHash P (Str.ofString "ClausemillError"), key := Value.str (Str.ofString "ClausemillError") 215, val := Value.ref 31 } :: { hash := PyData.keyHash P (Str.ofString "PrologError"), key := Value.str (Str.ofString "PrologError") 240, val := Value.ref 51 } :: { hash := PyData.keyHash P (Str.ofString "A_NIL"), key := Value.str (Str.ofString "A_NIL") 242, val := Value.int 0 241 } :: { hash := PyData.keyHash P (Str.ofString "A_SYSTEM"), key := Value.str (Str.ofString "A_SYSTEM") 244, val := Value.int 25 243 } :: { hash := PyData.keyHash P (Str.ofString "F_DOT"), key := Value.str (Str.ofString "F_DOT") 246, val := Value.int 0 245 } :: { hash := PyData.keyHash P (Str.ofString "F_COMMA"), key := Value.str (Str.ofString "F_COMMA") 248, val := Value.int 1 247 } :: { hash := PyData.keyHash P (Str.ofString "F_SLASH"), key := Value.str (Str.ofString "F_SLASH") 250, val := Value.int 15 249 } :: { hash := PyData.keyHash P (Str.ofString "F_ERROR"), key := Value.str (Str.ofString "F_ERROR") 252, val := Value.int 16 251 } :: { hash := PyData.keyHash P (Str.ofString "fixed_atoms"), key := Value.str (Str.ofString "fixed_atoms") 258, val := Value.ref 60 } :: { hash := PyData.keyHash P (Str.ofString "fixed_functors"), key := Value.str (Str.ofString "fixed_functors") 264, val := Value.ref 67 } :: { hash := PyData.keyHash P (Str.ofString "Symbols"), key := Value.str (Str.ofString "Symbols") 383, val := Value.ref 154 } :: { hash := PyData.keyHash P (Str.ofString "list_items"), key := Value.str (Str.ofString "list_items") 393, val := Value.ref 165 } :: { hash := PyData.keyHash P (Str.ofString "system_error"), key := Value.str (Str.ofString "system_error") 400, val := Value.ref 172 } :: { hash := PyData.keyHash P (Str.ofString "formal_of"), key := Value.str (Str.ofString "formal_of") 411, val := Value.ref 179 } :: { hash := PyData.keyHash P (Str.ofString "instantiation_error"), key := Value.str (Str.ofString "instantiation_error") 418, val := Value.ref 186 } :: { hash := PyData.keyHash P (Str.ofString "type_error"), key := Value.str (Str.ofString "type_error") 427, val := Value.ref 193 } :: { hash := PyData.keyHash P (Str.ofString "domain_error"), key := Value.str (Str.ofString "domain_error") 436, val := Value.ref 200 } :: { hash := PyData.keyHash P (Str.ofString "read_indicator"), key := Value.str (Str.ofString "read_indicator") 448, val := Value.ref 207 } :: { hash := PyData.keyHash P (Str.ofString "read_list"), key := Value.str (Str.ofString "read_list") 454, val := Value.ref 212 } :: { hash := PyData.keyHash P (Str.ofString "read_indicators"), key := Value.str (Str.ofString "read_indicators") 465, val := Value.ref 219 } :: { hash := PyData.keyHash P (Str.ofString "_law_pick"), key := Value.str (Str.ofString "_law_pick") 477, val := Value.ref 226 } :: { hash := PyData.keyHash P (Str.ofString "_law_part"), key := Value.str (Str.ofString "_law_part") 487, val := Value.ref 233 } :: { hash := PyData.keyHash P (Str.ofString "_law_one"), key := Value.str (Str.ofString "_law_one") 499, val := Value.ref 240 } :: { hash := PyData.keyHash P (Str.ofString "_law_whole"), key := Value.str (Str.ofString "_law_whole") 512, val := Value.ref 247 } :: { hash := PyData.keyHash P (Str.ofString "_law_error"), key := Value.str (Str.ofString "_law_error") 522, val := Value.ref 254 } :: { hash := PyData.keyHash P (Str.ofString "_law_single"), key := Value.str (Str.ofString "_law_single") 532, val := Value.ref 261 } :: { hash := PyData.keyHash P (Str.ofString "_law_read"), key := Value.str (Str.ofString "_law_read") 547, val := Value.ref 268 } :: { hash := PyData.keyHash P (Str.ofString "law"), key := Value.str (Str.ofString "law") 561, val := Value.ref 275 } :: [])) 38 }) ::
(nat_lit 15, { cls := Value.type "tuple", data := Data.seq #[] }) ::
(nat_lit 17, { cls := Value.type "tuple", data := Data.seq #[Value.str (Str.ofString "k") 190] }) ::
(nat_lit 18, { cls := Value.type "tuple", data := Data.seq #[] }) ::
(nat_lit 20, { cls := Value.type "code", data := Data.fields #[Value.str (Str.ofString "_wall") 187, Value.str (Str.ofString "_wall") 188, Value.str (Str.ofString "/claim/cut.py") 189, Value.int 1 0, Value.int 1 0, Value.int 0 0, Value.int 0 0, Value.int 3 0, Value.ref 15, Value.bool true, Value.int 181 0, Value.ref 16, Value.none, Value.ref 17, Value.ref 18, Value.ref 19, Value.int 191 0, Value.int 1 0, Value.str (Str.ofString "/claim/cut.py") 192] }) ::
(nat_lit 21, { cls := Value.type "function", data := Data.func { name := Str.ofString "_wall", qualname := Str.ofString "_wall", params := (by walk_at "MY lit" : Lit (fP 0 0)), body := FuncBody.stmts (by walk_at "MY lit" : Lit (fB 0 0)), scope := (by walk_at "MY lit" : Lit (fS 0 0)), globals := 3, closure := [], defaults := Value.none, kwdefaults := Value.none, pyModule := Value.str (Str.ofString "__main__") 164, code := Value.ref 20 } }) ::
(nat_lit 22, { cls := Value.type "tuple", data := Data.seq #[Value.type "Exception"] }) ::
(nat_lit 29, { cls := Value.type "tuple", data := Data.seq #[] }) ::
(nat_lit 30, { cls := Value.type "dict", data := Data.dict #[{ hash := PyData.keyHash P (Str.ofString "__module__"), key := Value.str (Str.ofString "__module__") 203, val := Value.str (Str.ofString "clausemill.symbols") 194 }, { hash := PyData.keyHash P (Str.ofString "__firstlineno__"), key := Value.str (Str.ofString "__firstlineno__") 207, val := Value.int 5 206 }, { hash := PyData.keyHash P (Str.ofString "__static_attributes__"), key := Value.str (Str.ofString "__static_attributes__") 208, val := Value.ref 29 }, { hash := PyData.keyHash P (Str.ofString "__weakref__"), key := Value.str (Str.ofString "__weakref__") 210, val := Value.ref 32 }, { hash := PyData.keyHash P (Str.ofString "__doc__"), key := Value.str (Str.ofString "__doc__") 211, val := Value.none }] 3 }) ::
(nat_lit 31, { cls := Value.type "type", data := Data.cls { name := Str.ofString "ClausemillError", bases := [Value.type "Exception"], mro := [Value.ref 31, Value.type "Exception", Value.type "BaseException", Value.type "object"], ns := 30, qualname := Str.ofString "ClausemillError", subclasses := [Value.ref 51] }, slots := #[some (Value.ref 22), none, some (Value.str (Str.ofString "ClausemillError") 196), some (Value.str (Str.ofString "ClausemillError") 204), some (Value.builtin "Exception.__new__"), some (Value.bool true)] }) ::
(nat_lit 32, { cls := Value.type "getset_descriptor", data := Data.fields #[Value.str (Str.ofString "__weakref__") 209, Value.ref 31, Value.builtin "ExceptionGroup.__weakref__", Value.none] }) ::
(nat_lit 35, { cls := Value.type "tuple", data := Data.seq #[Value.ref 31] }) ::
(nat_lit 42, { cls := Value.type "tuple", data := Data.seq #[] }) ::
(nat_lit 44, { cls := Value.type "tuple", data := Data.seq #[Value.str (Str.ofString "self") 231, Value.str (Str.ofString "ball") 232] }) ::
(nat_lit 45, { cls := Value.type "tuple", data := Data.seq #[] }) ::
(nat_lit 47, { cls := Value.type "code", data := Data.fields #[Value.str (Str.ofString "__init__") 228, Value.str (Str.ofString "PrologError.__init__") 229, Value.str (Str.ofString "/claim/cut.py") 230, Value.int 9 0, Value.int 2 0, Value.int 0 0, Value.int 0 0, Value.int 3 0, Value.ref 42, Value.bool true, Value.int 181 0, Value.ref 43, Value.none, Value.ref 44, Value.ref 45, Value.ref 46, Value.int 233 0, Value.int 9 0, Value.str (Str.ofString "/claim/cut.py") 234] }) ::
(nat_lit 48, { cls := Value.type "function", data := Data.func { name := Str.ofString "__init__", qualname := Str.ofString "PrologError.__init__", params := (by walk_at "MY lit" : Lit (fP 3 1)), body := FuncBody.stmts (by walk_at "MY lit" : Lit (fB 3 1)), scope := (by walk_at "MY lit" : Lit (fS 3 1)), globals := 3, closure := [], defaults := Value.none, kwdefaults := Value.none, pyModule := Value.str (Str.ofString "clausemill.symbols") 194, code := Value.ref 47 } }) ::
(nat_lit 49, { cls := Value.type "tuple", data := Data.seq #[Value.str (Str.ofString "ball") 236] }) ::
(nat_lit 50, { cls := Value.type "dict", data := Data.dict #[{ hash := PyData.keyHash P (Str.ofString "__module__"), key := Value.str (Str.ofString "__module__") 223, val := Value.str (Str.ofString "clausemill.symbols") 194 }, { hash := PyData.keyHash P (Str.ofString "__firstlineno__"), key := Value.str (Str.ofString "__firstlineno__") 227, val := Value.int 7 226 }, { hash := PyData.keyHash P (Str.ofString "__init__"), key := Value.str (Str.ofString "__init__") 235, val := Value.ref 48 }, { hash := PyData.keyHash P (Str.ofString "__static_attributes__"), key := Value.str (Str.ofString "__static_attributes__") 237, val := Value.ref 49 }, { hash := PyData.keyHash P (Str.ofString "__doc__"), key := Value.str (Str.ofString "__doc__") 238, val := Value.none }] 2 }) ::
(nat_lit 51, { cls := Value.type "type", data := Data.cls { name := Str.ofString "PrologError", bases := [Value.ref 31], mro := [Value.ref 51, Value.ref 31, Value.type "Exception", Value.type "BaseException", Value.type "object"], ns := 50, qualname := Str.ofString "PrologError" }, slots := #[some (Value.ref 35), none, some (Value.str (Str.ofString "PrologError") 216), some (Value.str (Str.ofString "PrologError") 224), some (Value.builtin "Exception.__new__"), some (Value.bool true)] }) ::
(nat_lit 54, { cls := Value.type "tuple", data := Data.seq #[] }) ::
(nat_lit 56, { cls := Value.type "tuple", data := Data.seq #[] }) ::
(nat_lit 57, { cls := Value.type "tuple", data := Data.seq #[] }) ::
(nat_lit 59, { cls := Value.type "code", data := Data.fields #[Value.str (Str.ofString "fixed_atoms") 253, Value.str (Str.ofString "fixed_atoms") 254, Value.str (Str.ofString "/claim/cut.py") 255, Value.int 17 0, Value.int 0 0, Value.int 0 0, Value.int 0 0, Value.int 3 0, Value.ref 54, Value.bool true, Value.int 181 0, Value.ref 55, Value.none, Value.ref 56, Value.ref 57, Value.ref 58, Value.int 256 0, Value.int 17 0, Value.str (Str.ofString "/claim/cut.py") 257] }) ::
(nat_lit 60, { cls := Value.type "function", data := Data.func { name := Str.ofString "fixed_atoms", qualname := Str.ofString "fixed_atoms", params := (by walk_at "MY lit" : Lit (fP 10 0)), body := FuncBody.stmts (by walk_at "MY lit" : Lit (fB 10 0)), scope := (by walk_at "MY lit" : Lit (fS 10 0)), globals := 3, closure := [], defaults := Value.none, kwdefaults := Value.none, pyModule := Value.str (Str.ofString "clausemill.symbols") 194, code := Value.ref 59 } }) ::
(nat_lit 61, { cls := Value.type "tuple", data := Data.seq #[] }) ::
(nat_lit 63, { cls := Value.type "tuple", data := Data.seq #[] }) ::
(nat_lit 64, { cls := Value.type "tuple", data := Data.seq #[] }) ::
(nat_lit 66, { cls := Value.type "code", data := Data.fields #[Value.str (Str.ofString "fixed_functors") 259, Value.str (Str.ofString "fixed_functors") 260, Value.str (Str.ofString "/claim/cut.py") 261, Value.int 19 0, Value.int 0 0, Value.int 0 0, Value.int 0 0, Value.int 3 0, Value.ref 61, Value.bool true, Value.int 181 0, Value.ref 62, Value.none, Value.ref 63, Value.ref 64, Value.ref 65, Value.int 262 0, Value.int 19 0, Value.str (Str.ofString "/claim/cut.py") 263] }) ::
(nat_lit 67, { cls := Value.type "function", data := Data.func { name := Str.ofString "fixed_functors", qualname := Str.ofString "fixed_functors", params := (by walk_at "MY lit" : Lit (fP 11 0)), body := FuncBody.stmts (by walk_at "MY lit" : Lit (fB 11 0)), scope := (by walk_at "MY lit" : Lit (fS 11 0)), globals := 3, closure := [], defaults := Value.none, kwdefaults := Value.none, pyModule := Value.str (Str.ofString "clausemill.symbols") 194, code := Value.ref 66 } }) ::
(nat_lit 75, { cls := Value.type "tuple", data := Data.seq #[] }) ::
(nat_lit 77, { cls := Value.type "tuple", data := Data.seq #[Value.str (Str.ofString "self") 280, Value.str (Str.ofString "text") 281, Value.str (Str.ofString "row") 282] }) ::
(nat_lit 78, { cls := Value.type "tuple", data := Data.seq #[] }) ::
(nat_lit 80, { cls := Value.type "code", data := Data.fields #[Value.str (Str.ofString "__init__") 277, Value.str (Str.ofString "Symbols.__init__") 278, Value.str (Str.ofString "/claim/cut.py") 279, Value.int 23 0, Value.int 1 0, Value.int 0 0, Value.int 0 0, Value.int 3 0, Value.ref 75, Value.bool true, Value.int 181 0, Value.ref 76, Value.none, Value.ref 77, Value.ref 78, Value.ref 79, Value.int 283 0, Value.int 23 0, Value.str (Str.ofString "/claim/cut.py") 284] }) ::
(nat_lit 81, { cls := Value.type "function", data := Data.func { name := Str.ofString "__init__", qualname := Str.ofString "Symbols.__init__", params := (by walk_at "MY lit" : Lit (fP 12 1)), body := FuncBody.stmts (by walk_at "MY lit" : Lit (fB 12 1)), scope := (by walk_at "MY lit" : Lit (fS 12 1)), globals := 3, closure := [], defaults := Value.none, kwdefaults := Value.none, pyModule := Value.str (Str.ofString "clausemill.symbols") 194, code := Value.ref 80 } }) ::
(nat_lit 82, { cls := Value.type "tuple", data := Data.seq #[] }) ::
(nat_lit 84, { cls := Value.type "tuple", data := Data.seq #[Value.str (Str.ofString "self") 289, Value.str (Str.ofString "text") 290, Value.str (Str.ofString "found") 291, Value.str (Str.ofString "number") 292] }) ::
(nat_lit 85, { cls := Value.type "tuple", data := Data.seq #[] }) ::
(nat_lit 87, { cls := Value.type "code", data := Data.fields #[Value.str (Str.ofString "atom") 286, Value.str (Str.ofString "Symbols.atom") 287, Value.str (Str.ofString "/claim/cut.py") 288, Value.int 33 0, Value.int 2 0, Value.int 0 0, Value.int 0 0, Value.int 3 0, Value.ref 82, Value.bool true, Value.int 181 0, Value.ref 83, Value.none, Value.ref 84, Value.ref 85, Value.ref 86, Value.int 293 0, Value.int 33 0, Value.str (Str.ofString "/claim/cut.py") 294] }) ::
(nat_lit 88, { cls := Value.type "function", data := Data.func { name := Str.ofString "atom", qualname := Str.ofString "Symbols.atom", params := (by walk_at "MY lit" : Lit (fP 12 2)), body := FuncBody.stmts (by walk_at "MY lit" : Lit (fB 12 2)), scope := (by walk_at "MY lit" : Lit (fS 12 2)), globals := 3, closure := [], defaults := Value.none, kwdefaults := Value.none, pyModule := Value.str (Str.ofString "clausemill.symbols") 194, code := Value.ref 87 } }) ::
(nat_lit 89, { cls := Value.type "tuple", data := Data.seq #[] }) ::
(nat_lit 91, { cls := Value.type "tuple", data := Data.seq #[Value.str (Str.ofString "self") 299, Value.str (Str.ofString "number") 300] }) ::
(nat_lit 92, { cls := Value.type "tuple", data := Data.seq #[] }) ::
(nat_lit 94, { cls := Value.type "code", data := Data.fields #[Value.str (Str.ofString "text") 296, Value.str (Str.ofString "Symbols.text") 297, Value.str (Str.ofString "/claim/cut.py") 298, Value.int 42 0, Value.int 2 0, Value.int 0 0, Value.int 0 0, Value.int 3 0, Value.ref 89, Value.bool true, Value.int 181 0, Value.ref 90, Value.none, Value.ref 91, Value.ref 92, Value.ref 93, Value.int 301 0, Value.int 42 0, Value.str (Str.ofString "/claim/cut.py") 302] }) ::
(nat_lit 95, { cls := Value.type "function", data := Data.func { name := Str.ofString "text", qualname := Str.ofString "Symbols.text", params := (by walk_at "MY lit" : Lit (fP 12 3)), body := FuncBody.stmts (by walk_at "MY lit" : Lit (fB 12 3)), scope := (by walk_at "MY lit" : Lit (fS 12 3)), globals := 3, closure := [], defaults := Value.none, kwdefaults := Value.none, pyModule := Value.str (Str.ofString "clausemill.symbols") 194, code := Value.ref 94 } }) ::
(nat_lit 96, { cls := Value.type "tuple", data := Data.seq #[] }) ::
(nat_lit 98, { cls := Value.type "tuple", data := Data.seq #[Value.str (Str.ofString "self") 307, Value.str (Str.ofString "atom") 308, Value.str (Str.ofString "arity") 309, Value.str (Str.ofString "key") 310, Value.str (Str.ofString "found") 311, Value.str (Str.ofString "number") 312] }) ::
(nat_lit 99, { cls := Value.type "tuple", data := Data.seq #[] }) ::
(nat_lit 101, { cls := Value.type "code", data := Data.fields #[Value.str (Str.ofString "functor") 304, Value.str (Str.ofString "Symbols.functor") 305, Value.str (Str.ofString "/claim/cut.py") 306, Value.int 45 0, Value.int 3 0, Value.int 0 0, Value.int 0 0, Value.int 3 0, Value.ref 96, Value.bool true, Value.int 181 0, Value.ref 97, Value.none, Value.ref 98, Value.ref 99, Value.ref 100, Value.int 313 0, Value.int 45 0, Value.str (Str.ofString "/claim/cut.py") 314] }) ::
(nat_lit 102, { cls := Value.type "function", data := Data.func { name := Str.ofString "functor", qualname := Str.ofString "Symbols.functor", params := (by walk_at "MY lit" : Lit (fP 12 4)), body := FuncBody.stmts (by walk_at "MY lit" : Lit (fB 12 4)), scope := (by walk_at "MY lit" : Lit (fS 12 4)), globals := 3, closure := [], defaults := Value.none, kwdefaults := Value.none, pyModule := Value.str (Str.ofString "clausemill.symbols") 194, code := Value.ref 101 } }) ::
(nat_lit 103, { cls := Value.type "tuple", data := Data.seq #[] }) ::
(nat_lit 105, { cls := Value.type "tuple", data := Data.seq #[Value.str (Str.ofString "self") 319, Value.str (Str.ofString "text") 320, Value.str (Str.ofString "arity") 321] }) ::
(nat_lit 106, { cls := Value.type "tuple", data := Data.seq #[] }) ::
(nat_lit 108, { cls := Value.type "code", data := Data.fields #[Value.str (Str.ofString "func") 316, Value.str (Str.ofString "Symbols.func") 317, Value.str (Str.ofString "/claim/cut.py") 318, Value.int 55 0, Value.int 3 0, Value.int 0 0, Value.int 0 0, Value.int 3 0, Value.ref 103, Value.bool true, Value.int 181 0, Value.ref 104, Value.none, Value.ref 105, Value.ref 106, Value.ref 107, Value.int 322 0, Value.int 55 0, Value.str (Str.ofString "/claim/cut.py") 323] }) ::
(nat_lit 109, { cls := Value.type "function", data := Data.func { name := Str.ofString "func", qualname := Str.ofString "Symbols.func", params := (by walk_at "MY lit" : Lit (fP 12 5)), body := FuncBody.stmts (by walk_at "MY lit" : Lit (fB 12 5)), scope := (by walk_at "MY lit" : Lit (fS 12 5)), globals := 3, closure := [], defaults := Value.none, kwdefaults := Value.none, pyModule := Value.str (Str.ofString "clausemill.symbols") 194, code := Value.ref 108 } }) ::
(nat_lit 110, { cls := Value.type "tuple", data := Data.seq #[] }) ::
(nat_lit 112, { cls := Value.type "tuple", data := Data.seq #[Value.str (Str.ofString "self") 328, Value.str (Str.ofString "functor") 329] }) ::
(nat_lit 113, { cls := Value.type "tuple", data := Data.seq #[] }) ::
(nat_lit 115, { cls := Value.type "code", data := Data.fields #[Value.str (Str.ofString "name") 325, Value.str (Str.ofString "Symbols.name") 326, Value.str (Str.ofString "/claim/cut.py") 327, Value.int 58 0, Value.int 2 0, Value.int 0 0, Value.int 0 0, Value.int 3 0, Value.ref 110, Value.bool true, Value.int 181 0, Value.ref 111, Value.none, Value.ref 112, Value.ref 113, Value.ref 114, Value.int 330 0, Value.int 58 0, Value.str (Str.ofString "/claim/cut.py") 331] }) ::
(nat_lit 116, { cls := Value.type "function", data := Data.func { name := Str.ofString "name", qualname := Str.ofString "Symbols.name", params := (by walk_at "MY lit" : Lit (fP 12 6)), body := FuncBody.stmts (by walk_at "MY lit" : Lit (fB 12 6)), scope := (by walk_at "MY lit" : Lit (fS 12 6)), globals := 3, closure := [], defaults := Value.none, kwdefaults := Value.none, pyModule := Value.str (Str.ofString "clausemill.symbols") 194, code := Value.ref 115 } }) ::
(nat_lit 117, { cls := Value.type "tuple", data := Data.seq #[] }) ::
(nat_lit 119, { cls := Value.type "tuple", data := Data.seq #[Value.str (Str.ofString "self") 336, Value.str (Str.ofString "functor") 337] }) ::
(nat_lit 120, { cls := Value.type "tuple", data := Data.seq #[] }) ::
(nat_lit 122, { cls := Value.type "code", data := Data.fields #[Value.str (Str.ofString "arity") 333, Value.str (Str.ofString "Symbols.arity") 334, Value.str (Str.ofString "/claim/cut.py") 335, Value.int 61 0, Value.int 2 0, Value.int 0 0, Value.int 0 0, Value.int 3 0, Value.ref 117, Value.bool true, Value.int 181 0, Value.ref 118, Value.none, Value.ref 119, Value.ref 120, Value.ref 121, Value.int 338 0, Value.int 61 0, Value.str (Str.ofString "/claim/cut.py") 339] }) ::
(nat_lit 123, { cls := Value.type "function", data := Data.func { name := Str.ofString "arity", qualname := Str.ofString "Symbols.arity", params := (by walk_at "MY lit" : Lit (fP 12 7)), body := FuncBody.stmts (by walk_at "MY lit" : Lit (fB 12 7)), scope := (by walk_at "MY lit" : Lit (fS 12 7)), globals := 3, closure := [], defaults := Value.none, kwdefaults := Value.none, pyModule := Value.str (Str.ofString "clausemill.symbols") 194, code := Value.ref 122 } }) ::
(nat_lit 124, { cls := Value.type "tuple", data := Data.seq #[] }) ::
(nat_lit 126, { cls := Value.type "tuple", data := Data.seq #[Value.str (Str.ofString "self") 344, Value.str (Str.ofString "functor") 345] }) ::
(nat_lit 127, { cls := Value.type "tuple", data := Data.seq #[] }) ::
(nat_lit 129, { cls := Value.type "code", data := Data.fields #[Value.str (Str.ofString "label") 341, Value.str (Str.ofString "Symbols.label") 342, Value.str (Str.ofString "/claim/cut.py") 343, Value.int 64 0, Value.int 2 0, Value.int 0 0, Value.int 0 0, Value.int 3 0, Value.ref 124, Value.bool true, Value.int 181 0, Value.ref 125, Value.none, Value.ref 126, Value.ref 127, Value.ref 128, Value.int 346 0, Value.int 64 0, Value.str (Str.ofString "/claim/cut.py") 347] }) ::
(nat_lit 130, { cls := Value.type "function", data := Data.func { name := Str.ofString "label", qualname := Str.ofString "Symbols.label", params := (by walk_at "MY lit" : Lit (fP 12 8)), body := FuncBody.stmts (by walk_at "MY lit" : Lit (fB 12 8)), scope := (by walk_at "MY lit" : Lit (fS 12 8)), globals := 3, closure := [], defaults := Value.none, kwdefaults := Value.none, pyModule := Value.str (Str.ofString "clausemill.symbols") 194, code := Value.ref 129 } }) ::
(nat_lit 131, { cls := Value.type "tuple", data := Data.seq #[] }) ::
(nat_lit 133, { cls := Value.type "tuple", data := Data.seq #[Value.str (Str.ofString "self") 352] }) ::
(nat_lit 134, { cls := Value.type "tuple", data := Data.seq #[] }) ::
(nat_lit 136, { cls := Value.type "code", data := Data.fields #[Value.str (Str.ofString "count") 349, Value.str (Str.ofString "Symbols.count") 350, Value.str (Str.ofString "/claim/cut.py") 351, Value.int 67 0, Value.int 1 0, Value.int 0 0, Value.int 0 0, Value.int 3 0, Value.ref 131, Value.bool true, Value.int 181 0, Value.ref 132, Value.none, Value.ref 133, Value.ref 134, Value.ref 135, Value.int 353 0, Value.int 67 0, Value.str (Str.ofString "/claim/cut.py") 354] }) ::
(nat_lit 137, { cls := Value.type "function", data := Data.func { name := Str.ofString "count", qualname := Str.ofString "Symbols.count", params := (by walk_at "MY lit" : Lit (fP 12 9)), body := FuncBody.stmts (by walk_at "MY lit" : Lit (fB 12 9)), scope := (by walk_at "MY lit" : Lit (fS 12 9)), globals := 3, closure := [], defaults := Value.none, kwdefaults := Value.none, pyModule := Value.str (Str.ofString "clausemill.symbols") 194, code := Value.ref 136 } }) ::
(nat_lit 138, { cls := Value.type "tuple", data := Data.seq #[] }) ::
(nat_lit 140, { cls := Value.type "tuple", data := Data.seq #[Value.str (Str.ofString "self") 359] }) ::
(nat_lit 141, { cls := Value.type "tuple", data := Data.seq #[] }) ::
(nat_lit 143, { cls := Value.type "code", data := Data.fields #[Value.str (Str.ofString "functor_count") 356, Value.str (Str.ofString "Symbols.functor_count") 357, Value.str (Str.ofString "/claim/cut.py") 358, Value.int 70 0, Value.int 1 0, Value.int 0 0, Value.int 0 0, Value.int 3 0, Value.ref 138, Value.bool true, Value.int 181 0, Value.ref 139, Value.none, Value.ref 140, Value.ref 141, Value.ref 142, Value.int 360 0, Value.int 70 0, Value.str (Str.ofString "/claim/cut.py") 361] }) ::
(nat_lit 144, { cls := Value.type "function", data := Data.func { name := Str.ofString "functor_count", qualname := Str.ofString "Symbols.functor_count", params := (by walk_at "MY lit" : Lit (fP 12 10)), body := FuncBody.stmts (by walk_at "MY lit" : Lit (fB 12 10)), scope := (by walk_at "MY lit" : Lit (fS 12 10)), globals := 3, closure := [], defaults := Value.none, kwdefaults := Value.none, pyModule := Value.str (Str.ofString "clausemill.symbols") 194, code := Value.ref 143 } }) ::
(nat_lit 145, { cls := Value.type "tuple", data := Data.seq #[] }) ::
(nat_lit 147, { cls := Value.type "tuple", data := Data.seq #[Value.str (Str.ofString "self") 366, Value.str (Str.ofString "text") 367, Value.str (Str.ofString "arity") 368] }) ::
(nat_lit 148, { cls := Value.type "tuple", data := Data.seq #[] }) ::
(nat_lit 150, { cls := Value.type "code", data := Data.fields #[Value.str (Str.ofString "known") 363, Value.str (Str.ofString "Symbols.known") 364, Value.str (Str.ofString "/claim/cut.py") 365, Value.int 73 0, Value.int 3 0, Value.int 0 0, Value.int 0 0, Value.int 3 0, Value.ref 145, Value.bool true, Value.int 181 0, Value.ref 146, Value.none, Value.ref 147, Value.ref 148, Value.ref 149, Value.int 369 0, Value.int 73 0, Value.str (Str.ofString "/claim/cut.py") 370] }) ::
(nat_lit 151, { cls := Value.type "function", data := Data.func { name := Str.ofString "known", qualname := Str.ofString "Symbols.known", params := (by walk_at "MY lit" : Lit (fP 12 11)), body := FuncBody.stmts (by walk_at "MY lit" : Lit (fB 12 11)), scope := (by walk_at "MY lit" : Lit (fS 12 11)), globals := 3, closure := [], defaults := Value.none, kwdefaults := Value.none, pyModule := Value.str (Str.ofString "clausemill.symbols") 194, code := Value.ref 150 } }) ::
(nat_lit 152, { cls := Value.type "tuple", data := Data.seq #[Value.str (Str.ofString "atom_numbers") 372, Value.str (Str.ofString "functor_numbers") 373, Value.str (Str.ofString "functors") 374, Value.str (Str.ofString "texts") 375] }) ::
(nat_lit 153, { cls := Value.type "dict", data := Data.dict #[{ hash := PyData.keyHash P (Str.ofString "__module__"), key := Value.str (Str.ofString "__module__") 272, val := Value.str (Str.ofString "clausemill.symbols") 194 }, { hash := PyData.keyHash P (Str.ofString "__firstlineno__"), key := Value.str (Str.ofString "__firstlineno__") 276, val := Value.int 21 275 }, { hash := PyData.keyHash P (Str.ofString "__init__"), key := Value.str (Str.ofString "__init__") 285, val := Value.ref 81 }, { hash := PyData.keyHash P (Str.ofString "atom"), key := Value.str (Str.ofString "atom") 295, val := Value.ref 88 }, { hash := PyData.keyHash P (Str.ofString "text"), key := Value.str (Str.ofString "text") 303, val := Value.ref 95 }, { hash := PyData.keyHash P (Str.ofString "functor"), key := Value.str (Str.ofString "functor") 315, val := Value.ref 102 }, { hash := PyData.keyHash P (Str.ofString "func"), key := Value.str (Str.ofString "func") 324, val := Value.ref 109 }, { hash := PyData.keyHash P (Str.ofString "name"), key := Value.str (Str.ofString "name") 332, val := Value.ref 116 }, { hash := PyData.keyHash P (Str.ofString "arity"), key := Value.str (Str.ofString "arity") 340, val := Value.ref 123 }, { hash := PyData.keyHash P (Str.ofString "label"), key := Value.str (Str.ofString "label") 348, val := Value.ref 130 }, { hash := PyData.keyHash P (Str.ofString "count"), key := Value.str (Str.ofString "count") 355, val := Value.ref 137 }, { hash := PyData.keyHash P (Str.ofString "functor_count"), key := Value.str (Str.ofString "functor_count") 362, val := Value.ref 144 }, { hash := PyData.keyHash P (Str.ofString "known"), key := Value.str (Str.ofString "known") 371, val := Value.ref 151 }, { hash := PyData.keyHash P (Str.ofString "__static_attributes__"), key := Value.str (Str.ofString "__static_attributes__") 376, val := Value.ref 152 }, { hash := PyData.keyHash P (Str.ofString "__dict__"), key := Value.str (Str.ofString "__dict__") 378, val := Value.ref 155 }, { hash := PyData.keyHash P (Str.ofString "__weakref__"), key := Value.str (Str.ofString "__weakref__") 380, val := Value.ref 156 }, { hash := PyData.keyHash P (Str.ofString "__doc__"), key := Value.str (Str.ofString "__doc__") 381, val := Value.none }] 4 }) ::
(nat_lit 154, { cls := Value.type "type", data := Data.cls { name := Str.ofString "Symbols", bases := [Value.type "object"], mro := [Value.ref 154, Value.type "object"], ns := 153, qualname := Str.ofString "Symbols" }, slots := #[none, none, some (Value.str (Str.ofString "Symbols") 265), some (Value.str (Str.ofString "Symbols") 273), some (Value.builtin "object.__new__"), some (Value.bool true)] }) ::
(nat_lit 155, { cls := Value.type "getset_descriptor", data := Data.fields #[Value.str (Str.ofString "__dict__") 377, Value.ref 154, Value.builtin "function.__dict__", Value.builtin "function.__dict__#set"] }) ::
(nat_lit 156, { cls := Value.type "getset_descriptor", data := Data.fields #[Value.str (Str.ofString "__weakref__") 379, Value.ref 154, Value.builtin "ExceptionGroup.__weakref__", Value.none] }) ::
(nat_lit 159, { cls := Value.type "tuple", data := Data.seq #[] }) ::
(nat_lit 161, { cls := Value.type "tuple", data := Data.seq #[Value.str (Str.ofString "term") 389, Value.str (Str.ofString "items") 390] }) ::
(nat_lit 162, { cls := Value.type "tuple", data := Data.seq #[] }) ::
(nat_lit 164, { cls := Value.type "code", data := Data.fields #[Value.str (Str.ofString "list_items") 386, Value.str (Str.ofString "list_items") 387, Value.str (Str.ofString "/claim/cut.py") 388, Value.int 76 0, Value.int 1 0, Value.int 0 0, Value.int 0 0, Value.int 3 0, Value.ref 159, Value.bool true, Value.int 181 0, Value.ref 160, Value.none, Value.ref 161, Value.ref 162, Value.ref 163, Value.int 391 0, Value.int 76 0, Value.str (Str.ofString "/claim/cut.py") 392] }) ::
(nat_lit 165, { cls := Value.type "function", data := Data.func { name := Str.ofString "list_items", qualname := Str.ofString "list_items", params := (by walk_at "MY lit" : Lit (fP 14 0)), body := FuncBody.stmts (by walk_at "MY lit" : Lit (fB 14 0)), scope := (by walk_at "MY lit" : Lit (fS 14 0)), globals := 3, closure := [], defaults := Value.none, kwdefaults := Value.none, pyModule := Value.str (Str.ofString "clausemill.terms") 384, code := Value.ref 164 } }) ::
(nat_lit 166, { cls := Value.type "tuple", data := Data.seq #[] }) ::
(nat_lit 168, { cls := Value.type "tuple", data := Data.seq #[Value.str (Str.ofString "formal") 397] }) ::
(nat_lit 169, { cls := Value.type "tuple", data := Data.seq #[] }) ::
(nat_lit 171, { cls := Value.type "code", data := Data.fields #[Value.str (Str.ofString "system_error") 394, Value.str (Str.ofString "system_error") 395, Value.str (Str.ofString "/claim/cut.py") 396, Value.int 82 0, Value.int 1 0, Value.int 0 0, Value.int 0 0, Value.int 3 0, Value.ref 166, Value.bool true, Value.int 181 0, Value.ref 167, Value.none, Value.ref 168, Value.ref 169, Value.ref 170, Value.int 398 0, Value.int 82 0, Value.str (Str.ofString "/claim/cut.py") 399] }) ::
(nat_lit 172, { cls := Value.type "function", data := Data.func { name := Str.ofString "system_error", qualname := Str.ofString "system_error", params := (by walk_at "MY lit" : Lit (fP 15 0)), body := FuncBody.stmts (by walk_at "MY lit" : Lit (fB 15 0)), scope := (by walk_at "MY lit" : Lit (fS 15 0)), globals := 3, closure := [], defaults := Value.none, kwdefaults := Value.none, pyModule := Value.str (Str.ofString "clausemill.terms") 384, code := Value.ref 171 } }) ::
(nat_lit 173, { cls := Value.type "tuple", data := Data.seq #[] }) ::
(nat_lit 175, { cls := Value.type "tuple", data := Data.seq #[Value.str (Str.ofString "symbols") 404, Value.str (Str.ofString "name") 405, Value.str (Str.ofString "parts") 406, Value.str (Str.ofString "args") 407, Value.str (Str.ofString "part") 408] }) ::
(nat_lit 176, { cls := Value.type "tuple", data := Data.seq #[] }) ::
(nat_lit 178, { cls := Value.type "code", data := Data.fields #[Value.str (Str.ofString "formal_of") 401, Value.str (Str.ofString "formal_of") 402, Value.str (Str.ofString "/claim/cut.py") 403, Value.int 84 0, Value.int 3 0, Value.int 0 0, Value.int 0 0, Value.int 3 0, Value.ref 173, Value.bool true, Value.int 181 0, Value.ref 174, Value.none, Value.ref 175, Value.ref 176, Value.ref 177, Value.int 409 0, Value.int 84 0, Value.str (Str.ofString "/claim/cut.py") 410] }) ::
(nat_lit 179, { cls := Value.type "function", data := Data.func { name := Str.ofString "formal_of", qualname := Str.ofString "formal_of", params := (by walk_at "MY lit" : Lit (fP 16 0)), body := FuncBody.stmts (by walk_at "MY lit" : Lit (fB 16 0)), scope := (by walk_at "MY lit" : Lit (fS 16 0)), globals := 3, closure := [], defaults := Value.none, kwdefaults := Value.none, pyModule := Value.str (Str.ofString "clausemill.terms") 384, code := Value.ref 178 } }) ::
(nat_lit 180, { cls := Value.type "tuple", data := Data.seq #[] }) ::
(nat_lit 182, { cls := Value.type "tuple", data := Data.seq #[Value.str (Str.ofString "symbols") 415] }) ::
(nat_lit 183, { cls := Value.type "tuple", data := Data.seq #[] }) ::
(nat_lit 185, { cls := Value.type "code", data := Data.fields #[Value.str (Str.ofString "instantiation_error") 412, Value.str (Str.ofString "instantiation_error") 413, Value.str (Str.ofString "/claim/cut.py") 414, Value.int 89 0, Value.int 1 0, Value.int 0 0, Value.int 0 0, Value.int 3 0, Value.ref 180, Value.bool true, Value.int 181 0, Value.ref 181, Value.none, Value.ref 182, Value.ref 183, Value.ref 184, Value.int 416 0, Value.int 89 0, Value.str (Str.ofString "/claim/cut.py") 417] }) ::
(nat_lit 186, { cls := Value.type "function", data := Data.func { name := Str.ofString "instantiation_error", qualname := Str.ofString "instantiation_error", params := (by walk_at "MY lit" : Lit (fP 17 0)), body := FuncBody.stmts (by walk_at "MY lit" : Lit (fB 17 0)), scope := (by walk_at "MY lit" : Lit (fS 17 0)), globals := 3, closure := [], defaults := Value.none, kwdefaults := Value.none, pyModule := Value.str (Str.ofString "clausemill.terms") 384, code := Value.ref 185 } }) ::
(nat_lit 187, { cls := Value.type "tuple", data := Data.seq #[] }) ::
(nat_lit 189, { cls := Value.type "tuple", data := Data.seq #[Value.str (Str.ofString "symbols") 422, Value.str (Str.ofString "kind") 423, Value.str (Str.ofString "culprit") 424] }) ::
(nat_lit 190, { cls := Value.type "tuple", data := Data.seq #[] }) ::
(nat_lit 192, { cls := Value.type "code", data := Data.fields #[Value.str (Str.ofString "type_error") 419, Value.str (Str.ofString "type_error") 420, Value.str (Str.ofString "/claim/cut.py") 421, Value.int 91 0, Value.int 3 0, Value.int 0 0, Value.int 0 0, Value.int 3 0, Value.ref 187, Value.bool true, Value.int 181 0, Value.ref 188, Value.none, Value.ref 189, Value.ref 190, Value.ref 191, Value.int 425 0, Value.int 91 0, Value.str (Str.ofString "/claim/cut.py") 426] }) ::
(nat_lit 193, { cls := Value.type "function", data := Data.func { name := Str.ofString "type_error", qualname := Str.ofString "type_error", params := (by walk_at "MY lit" : Lit (fP 18 0)), body := FuncBody.stmts (by walk_at "MY lit" : Lit (fB 18 0)), scope := (by walk_at "MY lit" : Lit (fS 18 0)), globals := 3, closure := [], defaults := Value.none, kwdefaults := Value.none, pyModule := Value.str (Str.ofString "clausemill.terms") 384, code := Value.ref 192 } }) ::
(nat_lit 194, { cls := Value.type "tuple", data := Data.seq #[] }) ::
(nat_lit 196, { cls := Value.type "tuple", data := Data.seq #[Value.str (Str.ofString "symbols") 431, Value.str (Str.ofString "kind") 432, Value.str (Str.ofString "culprit") 433] }) ::
(nat_lit 197, { cls := Value.type "tuple", data := Data.seq #[] }) ::
(nat_lit 199, { cls := Value.type "code", data := Data.fields #[Value.str (Str.ofString "domain_error") 428, Value.str (Str.ofString "domain_error") 429, Value.str (Str.ofString "/claim/cut.py") 430, Value.int 93 0, Value.int 3 0, Value.int 0 0, Value.int 0 0, Value.int 3 0, Value.ref 194, Value.bool true, Value.int 181 0, Value.ref 195, Value.none, Value.ref 196, Value.ref 197, Value.ref 198, Value.int 434 0, Value.int 93 0, Value.str (Str.ofString "/claim/cut.py") 435] }) ::
(nat_lit 200, { cls := Value.type "function", data := Data.func { name := Str.ofString "domain_error", qualname := Str.ofString "domain_error", params := (by walk_at "MY lit" : Lit (fP 19 0)), body := FuncBody.stmts (by walk_at "MY lit" : Lit (fB 19 0)), scope := (by walk_at "MY lit" : Lit (fS 19 0)), globals := 3, closure := [], defaults := Value.none, kwdefaults := Value.none, pyModule := Value.str (Str.ofString "clausemill.terms") 384, code := Value.ref 199 } }) ::
(nat_lit 201, { cls := Value.type "tuple", data := Data.seq #[] }) ::
(nat_lit 203, { cls := Value.type "tuple", data := Data.seq #[Value.str (Str.ofString "symbols") 442, Value.str (Str.ofString "term") 443, Value.str (Str.ofString "name") 444, Value.str (Str.ofString "arity") 445] }) ::
(nat_lit 204, { cls := Value.type "tuple", data := Data.seq #[] }) ::
(nat_lit 206, { cls := Value.type "code", data := Data.fields #[Value.str (Str.ofString "read_indicator") 439, Value.str (Str.ofString "read_indicator") 440, Value.str (Str.ofString "/claim/cut.py") 441, Value.int 96 0, Value.int 2 0, Value.int 0 0, Value.int 0 0, Value.int 3 0, Value.ref 201, Value.bool true, Value.int 181 0, Value.ref 202, Value.none, Value.ref 203, Value.ref 204, Value.ref 205, Value.int 446 0, Value.int 96 0, Value.str (Str.ofString "/claim/cut.py") 447] }) ::
(nat_lit 207, { cls := Value.type "function", data := Data.func { name := Str.ofString "read_indicator", qualname := Str.ofString "read_indicator", params := (by walk_at "MY lit" : Lit (fP 21 0)), body := FuncBody.stmts (by walk_at "MY lit" : Lit (fB 21 0)), scope := (by walk_at "MY lit" : Lit (fS 21 0)), globals := 3, closure := [], defaults := Value.none, kwdefaults := Value.none, pyModule := Value.str (Str.ofString "clausemill.preds_data") 437, code := Value.ref 206 } }) ::
(nat_lit 208, { cls := Value.type "tuple", data := Data.seq #[] }) ::
(nat_lit 211, { cls := Value.type "code", data := Data.fields #[Value.str (Str.ofString "read_list") 449, Value.str (Str.ofString "read_list") 450, Value.str (Str.ofString "/claim/cut.py") 451, Value.int 111 0, Value.int 2 0, Value.int 0 0, Value.int 0 0, Value.int 3 0, Value.ref 208, Value.bool true, Value.int 181 0, Value.ref 209, Value.none, Value.none, Value.none, Value.ref 210, Value.int 452 0, Value.int 111 0, Value.str (Str.ofString "/claim/cut.py") 453] }) ::
(nat_lit 212, { cls := Value.type "function", data := Data.func { name := Str.ofString "read_list", qualname := Str.ofString "read_list", params := (by walk_at "MY lit" : Lit (fP 22 0)), body := FuncBody.stmts (by walk_at "MY lit" : Lit (fB 22 0)), scope := (by walk_at "MY lit" : Lit (fS 22 0)), globals := 3, closure := [], defaults := Value.none, kwdefaults := Value.none, pyModule := Value.str (Str.ofString "clausemill.preds_data") 437, code := Value.ref 211 } }) ::
(nat_lit 213, { cls := Value.type "tuple", data := Data.seq #[] }) ::
(nat_lit 215, { cls := Value.type "tuple", data := Data.seq #[Value.str (Str.ofString "symbols") 458, Value.str (Str.ofString "term") 459, Value.str (Str.ofString "found") 460, Value.str (Str.ofString "work") 461, Value.str (Str.ofString "part") 462] }) ::
(nat_lit 216, { cls := Value.type "tuple", data := Data.seq #[] }) ::
(nat_lit 218, { cls := Value.type "code", data := Data.fields #[Value.str (Str.ofString "read_indicators") 455, Value.str (Str.ofString "read_indicators") 456, Value.str (Str.ofString "/claim/cut.py") 457, Value.int 118 0, Value.int 2 0, Value.int 0 0, Value.int 0 0, Value.int 3 0, Value.ref 213, Value.bool true, Value.int 181 0, Value.ref 214, Value.none, Value.ref 215, Value.ref 216, Value.ref 217, Value.int 463 0, Value.int 118 0, Value.str (Str.ofString "/claim/cut.py") 464] }) ::
(nat_lit 219, { cls := Value.type "function", data := Data.func { name := Str.ofString "read_indicators", qualname := Str.ofString "read_indicators", params := (by walk_at "MY lit" : Lit (fP 23 0)), body := FuncBody.stmts (by walk_at "MY lit" : Lit (fB 23 0)), scope := (by walk_at "MY lit" : Lit (fS 23 0)), globals := 3, closure := [], defaults := Value.none, kwdefaults := Value.none, pyModule := Value.str (Str.ofString "clausemill.preds_data") 437, code := Value.ref 218 } }) ::
(nat_lit 220, { cls := Value.type "tuple", data := Data.seq #[] }) ::
(nat_lit 222, { cls := Value.type "tuple", data := Data.seq #[Value.str (Str.ofString "hand") 471, Value.str (Str.ofString "limit") 472, Value.str (Str.ofString "number") 473, Value.str (Str.ofString "digit") 474] }) ::
(nat_lit 223, { cls := Value.type "tuple", data := Data.seq #[] }) ::
(nat_lit 225, { cls := Value.type "code", data := Data.fields #[Value.str (Str.ofString "_law_pick") 468, Value.str (Str.ofString "_law_pick") 469, Value.str (Str.ofString "/claim/cut.py") 470, Value.int 132 0, Value.int 2 0, Value.int 0 0, Value.int 0 0, Value.int 3 0, Value.ref 220, Value.bool true, Value.int 181 0, Value.ref 221, Value.none, Value.ref 222, Value.ref 223, Value.ref 224, Value.int 475 0, Value.int 132 0, Value.str (Str.ofString "/claim/cut.py") 476] }) ::
(nat_lit 226, { cls := Value.type "function", data := Data.func { name := Str.ofString "_law_pick", qualname := Str.ofString "_law_pick", params := (by walk_at "MY lit" : Lit (fP 25 0)), body := FuncBody.stmts (by walk_at "MY lit" : Lit (fB 25 0)), scope := (by walk_at "MY lit" : Lit (fS 25 0)), globals := 3, closure := [], defaults := Value.none, kwdefaults := Value.none, pyModule := Value.str (Str.ofString "law_no0155_01") 466, code := Value.ref 225 } }) ::
(nat_lit 227, { cls := Value.type "tuple", data := Data.seq #[] }) ::
(nat_lit 229, { cls := Value.type "tuple", data := Data.seq #[Value.str (Str.ofString "hand") 481, Value.str (Str.ofString "names") 482, Value.str (Str.ofString "number") 483, Value.str (Str.ofString "kind") 484] }) ::
(nat_lit 230, { cls := Value.type "tuple", data := Data.seq #[] }) ::
(nat_lit 232, { cls := Value.type "code", data := Data.fields #[Value.str (Str.ofString "_law_part") 478, Value.str (Str.ofString "_law_part") 479, Value.str (Str.ofString "/claim/cut.py") 480, Value.int 143 0, Value.int 3 0, Value.int 0 0, Value.int 0 0, Value.int 3 0, Value.ref 227, Value.bool true, Value.int 181 0, Value.ref 228, Value.none, Value.ref 229, Value.ref 230, Value.ref 231, Value.int 485 0, Value.int 143 0, Value.str (Str.ofString "/claim/cut.py") 486] }) ::
(nat_lit 233, { cls := Value.type "function", data := Data.func { name := Str.ofString "_law_part", qualname := Str.ofString "_law_part", params := (by walk_at "MY lit" : Lit (fP 26 0)), body := FuncBody.stmts (by walk_at "MY lit" : Lit (fB 26 0)), scope := (by walk_at "MY lit" : Lit (fS 26 0)), globals := 3, closure := [], defaults := Value.none, kwdefaults := Value.none, pyModule := Value.str (Str.ofString "law_no0155_01") 466, code := Value.ref 232 } }) ::
(nat_lit 234, { cls := Value.type "tuple", data := Data.seq #[] }) ::
(nat_lit 236, { cls := Value.type "tuple", data := Data.seq #[Value.str (Str.ofString "hand") 491, Value.str (Str.ofString "names") 492, Value.str (Str.ofString "number") 493, Value.str (Str.ofString "kind") 494, Value.str (Str.ofString "first") 495, Value.str (Str.ofString "second") 496] }) ::
(nat_lit 237, { cls := Value.type "tuple", data := Data.seq #[] }) ::
(nat_lit 239, { cls := Value.type "code", data := Data.fields #[Value.str (Str.ofString "_law_one") 488, Value.str (Str.ofString "_law_one") 489, Value.str (Str.ofString "/claim/cut.py") 490, Value.int 150 0, Value.int 3 0, Value.int 0 0, Value.int 0 0, Value.int 3 0, Value.ref 234, Value.bool true, Value.int 181 0, Value.ref 235, Value.none, Value.ref 236, Value.ref 237, Value.ref 238, Value.int 497 0, Value.int 150 0, Value.str (Str.ofString "/claim/cut.py") 498] }) ::
(nat_lit 240, { cls := Value.type "function", data := Data.func { name := Str.ofString "_law_one", qualname := Str.ofString "_law_one", params := (by walk_at "MY lit" : Lit (fP 27 0)), body := FuncBody.stmts (by walk_at "MY lit" : Lit (fB 27 0)), scope := (by walk_at "MY lit" : Lit (fS 27 0)), globals := 3, closure := [], defaults := Value.none, kwdefaults := Value.none, pyModule := Value.str (Str.ofString "law_no0155_01") 466, code := Value.ref 239 } }) ::
(nat_lit 241, { cls := Value.type "tuple", data := Data.seq #[] }) ::
(nat_lit 243, { cls := Value.type "tuple", data := Data.seq #[Value.str (Str.ofString "hand") 503, Value.str (Str.ofString "names") 504, Value.str (Str.ofString "depth") 505, Value.str (Str.ofString "number") 506, Value.str (Str.ofString "kind") 507, Value.str (Str.ofString "end") 508, Value.str (Str.ofString "step") 509] }) ::
(nat_lit 244, { cls := Value.type "tuple", data := Data.seq #[] }) ::
(nat_lit 246, { cls := Value.type "code", data := Data.fields #[Value.str (Str.ofString "_law_whole") 500, Value.str (Str.ofString "_law_whole") 501, Value.str (Str.ofString "/claim/cut.py") 502, Value.int 157 0, Value.int 4 0, Value.int 0 0, Value.int 0 0, Value.int 3 0, Value.ref 241, Value.bool true, Value.int 181 0, Value.ref 242, Value.none, Value.ref 243, Value.ref 244, Value.ref 245, Value.int 510 0, Value.int 157 0, Value.str (Str.ofString "/claim/cut.py") 511] }) ::
(nat_lit 247, { cls := Value.type "function", data := Data.func { name := Str.ofString "_law_whole", qualname := Str.ofString "_law_whole", params := (by walk_at "MY lit" : Lit (fP 28 0)), body := FuncBody.stmts (by walk_at "MY lit" : Lit (fB 28 0)), scope := (by walk_at "MY lit" : Lit (fS 28 0)), globals := 3, closure := [], defaults := Value.none, kwdefaults := Value.none, pyModule := Value.str (Str.ofString "law_no0155_01") 466, code := Value.ref 246 } }) ::
(nat_lit 248, { cls := Value.type "tuple", data := Data.seq #[] }) ::
(nat_lit 250, { cls := Value.type "tuple", data := Data.seq #[Value.str (Str.ofString "names") 516, Value.str (Str.ofString "kind") 517, Value.str (Str.ofString "parts") 518, Value.str (Str.ofString "formal") 519] }) ::
(nat_lit 251, { cls := Value.type "tuple", data := Data.seq #[] }) ::
(nat_lit 253, { cls := Value.type "code", data := Data.fields #[Value.str (Str.ofString "_law_error") 513, Value.str (Str.ofString "_law_error") 514, Value.str (Str.ofString "/claim/cut.py") 515, Value.int 169 0, Value.int 3 0, Value.int 0 0, Value.int 0 0, Value.int 3 0, Value.ref 248, Value.bool true, Value.int 181 0, Value.ref 249, Value.none, Value.ref 250, Value.ref 251, Value.ref 252, Value.int 520 0, Value.int 169 0, Value.str (Str.ofString "/claim/cut.py") 521] }) ::
(nat_lit 254, { cls := Value.type "function", data := Data.func { name := Str.ofString "_law_error", qualname := Str.ofString "_law_error", params := (by walk_at "MY lit" : Lit (fP 29 0)), body := FuncBody.stmts (by walk_at "MY lit" : Lit (fB 29 0)), scope := (by walk_at "MY lit" : Lit (fS 29 0)), globals := 3, closure := [], defaults := Value.none, kwdefaults := Value.none, pyModule := Value.str (Str.ofString "law_no0155_01") 466, code := Value.ref 253 } }) ::
(nat_lit 255, { cls := Value.type "tuple", data := Data.seq #[] }) ::
(nat_lit 257, { cls := Value.type "tuple", data := Data.seq #[Value.str (Str.ofString "names") 526, Value.str (Str.ofString "tree") 527, Value.str (Str.ofString "first") 528, Value.str (Str.ofString "second") 529] }) ::
(nat_lit 258, { cls := Value.type "tuple", data := Data.seq #[] }) ::
(nat_lit 260, { cls := Value.type "code", data := Data.fields #[Value.str (Str.ofString "_law_single") 523, Value.str (Str.ofString "_law_single") 524, Value.str (Str.ofString "/claim/cut.py") 525, Value.int 174 0, Value.int 2 0, Value.int 0 0, Value.int 0 0, Value.int 3 0, Value.ref 255, Value.bool true, Value.int 181 0, Value.ref 256, Value.none, Value.ref 257, Value.ref 258, Value.ref 259, Value.int 530 0, Value.int 174 0, Value.str (Str.ofString "/claim/cut.py") 531] }) ::
(nat_lit 261, { cls := Value.type "function", data := Data.func { name := Str.ofString "_law_single", qualname := Str.ofString "_law_single", params := (by walk_at "MY lit" : Lit (fP 30 0)), body := FuncBody.stmts (by walk_at "MY lit" : Lit (fB 30 0)), scope := (by walk_at "MY lit" : Lit (fS 30 0)), globals := 3, closure := [], defaults := Value.none, kwdefaults := Value.none, pyModule := Value.str (Str.ofString "law_no0155_01") 466, code := Value.ref 260 } }) ::
(nat_lit 262, { cls := Value.type "tuple", data := Data.seq #[] }) ::
(nat_lit 264, { cls := Value.type "tuple", data := Data.seq #[Value.str (Str.ofString "names") 536, Value.str (Str.ofString "tree") 537, Value.str (Str.ofString "left") 538, Value.str (Str.ofString "right") 539, Value.str (Str.ofString "end") 540, Value.str (Str.ofString "parts") 541, Value.str (Str.ofString "found") 542, Value.str (Str.ofString "part") 543, Value.str (Str.ofString "one") 544] }) ::
(nat_lit 265, { cls := Value.type "tuple", data := Data.seq #[] }) ::
(nat_lit 267, { cls := Value.type "code", data := Data.fields #[Value.str (Str.ofString "_law_read") 533, Value.str (Str.ofString "_law_read") 534, Value.str (Str.ofString "/claim/cut.py") 535, Value.int 189 0, Value.int 2 0, Value.int 0 0, Value.int 0 0, Value.int 3 0, Value.ref 262, Value.bool true, Value.int 181 0, Value.ref 263, Value.none, Value.ref 264, Value.ref 265, Value.ref 266, Value.int 545 0, Value.int 189 0, Value.str (Str.ofString "/claim/cut.py") 546] }) ::
(nat_lit 268, { cls := Value.type "function", data := Data.func { name := Str.ofString "_law_read", qualname := Str.ofString "_law_read", params := (by walk_at "MY lit" : Lit (fP 31 0)), body := FuncBody.stmts (by walk_at "MY lit" : Lit (fB 31 0)), scope := (by walk_at "MY lit" : Lit (fS 31 0)), globals := 3, closure := [], defaults := Value.none, kwdefaults := Value.none, pyModule := Value.str (Str.ofString "law_no0155_01") 466, code := Value.ref 267 } }) ::
(nat_lit 269, { cls := Value.type "tuple", data := Data.seq #[] }) ::
(nat_lit 271, { cls := Value.type "tuple", data := Data.seq #[Value.str (Str.ofString "script") 551, Value.str (Str.ofString "cells") 552, Value.str (Str.ofString "hand") 553, Value.str (Str.ofString "names") 554, Value.str (Str.ofString "tree") 555, Value.str (Str.ofString "due") 556, Value.str (Str.ofString "told") 557, Value.str (Str.ofString "error") 558] }) ::
(nat_lit 272, { cls := Value.type "tuple", data := Data.seq #[] }) ::
(nat_lit 274, { cls := Value.type "code", data := Data.fields #[Value.str (Str.ofString "law") 548, Value.str (Str.ofString "law") 549, Value.str (Str.ofString "/claim/cut.py") 550, Value.int 214 0, Value.int 1 0, Value.int 0 0, Value.int 0 0, Value.int 3 0, Value.ref 269, Value.bool true, Value.int 181 0, Value.ref 270, Value.none, Value.ref 271, Value.ref 272, Value.ref 273, Value.int 559 0, Value.int 214 0, Value.str (Str.ofString "/claim/cut.py") 560] }) ::
(nat_lit 275, { cls := Value.type "function", data := Data.func { name := Str.ofString "law", qualname := Str.ofString "law", params := (by walk_at "MY lit" : Lit (fP 32 0)), body := FuncBody.stmts (by walk_at "MY lit" : Lit (fB 32 0)), scope := (by walk_at "MY lit" : Lit (fS 32 0)), globals := 3, closure := [], defaults := Value.none, kwdefaults := Value.none, pyModule := Value.str (Str.ofString "law_no0155_01") 466, code := Value.ref 274 } }) :: []
noncomputable def hd.view_39 : Program := { PySem.Challenge.rw_no0155_01.row.prog with main := { PySem.Challenge.rw_no0155_01.row.prog.main with body := [
(by walk_at "MY lit" : Lit (stmtAt 0)), (by walk_at "MY lit" : Lit (stmtAt 2)), (by walk_at "MY lit" : Lit (stmtAt 3)), (by walk_at "MY lit" : Lit (stmtAt 4)), (by walk_at "MY lit" : Lit (stmtAt 5)), (by walk_at "MY lit" : Lit (stmtAt 6)), (by walk_at "MY lit" : Lit (stmtAt 7)), (by walk_at "MY lit" : Lit (stmtAt 8)), (by walk_at "MY lit" : Lit (stmtAt 9)), (by walk_at "MY lit" : Lit (stmtAt 10)), (by walk_at "MY lit" : Lit (stmtAt 11)), (by walk_at "MY lit" : Lit (stmtAt 12)), (by walk_at "MY lit" : Lit (stmtAt 14)), (by walk_at "MY lit" : Lit (stmtAt 15)), (by walk_at "MY lit" : Lit (stmtAt 16)), (by walk_at "MY lit" : Lit (stmtAt 17)), (by walk_at "MY lit" : Lit (stmtAt 18)), (by walk_at "MY lit" : Lit (stmtAt 19)), (by walk_at "MY lit" : Lit (stmtAt 21)), (by walk_at "MY lit" : Lit (stmtAt 22)), (by walk_at "MY lit" : Lit (stmtAt 23)), (by walk_at "MY lit" : Lit (stmtAt 25)), (by walk_at "MY lit" : Lit (stmtAt 26)), (by walk_at "MY lit" : Lit (stmtAt 27)), (by walk_at "MY lit" : Lit (stmtAt 28)), (by walk_at "MY lit" : Lit (stmtAt 29)), (by walk_at "MY lit" : Lit (stmtAt 30)), (by walk_at "MY lit" : Lit (stmtAt 31)), (by walk_at "MY lit" : Lit (stmtAt 32))] } }
def hd.adr : List Addr := [2, 3, 15, 17, 18, 20, 21, 22, 29, 30, 31, 32, 35, 42, 44, 45, 47, 48, 49, 50, 51, 54, 56, 57, 59, 60, 61, 63, 64, 66, 67, 75, 77, 78, 80, 81, 82, 84, 85, 87, 88, 89, 91, 92, 94, 95, 96, 98, 99, 101, 102, 103, 105, 106, 108, 109, 110, 112, 113, 115, 116, 117, 119, 120, 122, 123, 124, 126, 127, 129, 130, 131, 133, 134, 136, 137, 138, 140, 141, 143, 144, 145, 147, 148, 150, 151, 152, 153, 154, 155, 156, 159, 161, 162, 164, 165, 166, 168, 169, 171, 172, 173, 175, 176, 178, 179, 180, 182, 183, 185, 186, 187, 189, 190, 192, 193, 194, 196, 197, 199, 200, 201, 203, 204, 206, 207, 208, 211, 212, 213, 215, 216, 218, 219, 220, 222, 223, 225, 226, 227, 229, 230, 232, 233, 234, 236, 237, 239, 240, 241, 243, 244, 246, 247, 248, 250, 251, 253, 254, 255, 257, 258, 260, 261, 262, 264, 265, 267, 268, 269, 271, 272, 274, 275]
noncomputable abbrev hd.hook : Hook := kHook hd.heap_39 hd.adr (fun _ => by kernel_rfl)
theorem hd.looks : looksOpen PySem.Challenge.rw_no0155_01.row.prog = true := by
  rw [Fast.te12908688711261696721]
  kernel_rfl
theorem hd.said : PySem.Challenge.rw_no0155_01.wellSaid = true := by
  unfold OpenLaw.wellSaid OpenRow.wellSaid OpenRow.partSaid
  rw [hd.looks, Fast.te17119622794617984870, Fast.named_eq]
  kernel_rfl
noncomputable def hd.q2 : Params → Obj := fun P => { cls := Value.none, data := Data.dict #[{ hash := PyData.keyHash P (Str.ofString "type.__subclasses__.Exception.0"), key := Value.str (Str.ofString "type.__subclasses__.Exception.0") 212, val := Value.int 31 0 }, { hash := PyData.keyHash P (Str.ofString "type.__subclasses__.Exception.n"), key := Value.str (Str.ofString "type.__subclasses__.Exception.n") 213, val := Value.int 1 0 }] 2 }
noncomputable def hd.q3 : Params → Obj := fun P => { cls := Value.type "dict", data := Data.dict (List.toArray ({ hash := PyData.keyHash P (Str.ofString "__name__"), key := Value.str (Str.ofString "__name__") 165, val := Value.str (Str.ofString "law_no0155_01") 466 } :: { hash := PyData.keyHash P (Str.ofString "__doc__"), key := Value.str (Str.ofString "__doc__") 166, val := Value.none } :: { hash := PyData.keyHash P (Str.ofString "__package__"), key := Value.str (Str.ofString "__package__") 167, val := Value.none } :: { hash := PyData.keyHash P (Str.ofString "__loader__"), key := Value.str (Str.ofString "__loader__") 168, val := Value.builtin "__main__.__loader__#opaque" } :: { hash := PyData.keyHash P (Str.ofString "__spec__"), key := Value.str (Str.ofString "__spec__") 169, val := Value.none } :: { hash := PyData.keyHash P (Str.ofString "__annotations__"), key := Value.str (Str.ofString "__annotations__") 170, val := Value.ref 6 } :: { hash := PyData.keyHash P (Str.ofString "__builtins__"), key := Value.str (Str.ofString "__builtins__") 171, val := Value.ref 4 } :: { hash := PyData.keyHash P (Str.ofString "__file__"), key := Value.str (Str.ofString "__file__") 173, val := Value.str (Str.ofString "/claim/cut.py") 172 } :: { hash := PyData.keyHash P (Str.ofString "__cached__"), key := Value.str (Str.ofString "__cached__") 174, val := Value.none } :: { hash := PyData.keyHash P (Str.ofString "_wall"), key := Value.str (Str.ofString "_wall") 193, val := Value.ref 21 } :: { hash := PyData.keyHash P (Str.ofString "ClausemillError"), key := Value.str (Str.ofString "ClausemillError") 215, val := Value.ref 31 } :: { hash := PyData.keyHash P (Str.ofString "PrologError"), key := Value.str (Str.ofString "PrologError") 240, val := Value.ref 51 } :: { hash := PyData.keyHash P (Str.ofString "A_NIL"), key := Value.str (Str.ofString "A_NIL") 242, val := Value.int 0 241 } :: { hash := PyData.keyHash P (Str.ofString "A_SYSTEM"), key := Value.str (Str.ofString "A_SYSTEM") 244, val := Value.int 25 243 } :: { hash := PyData.keyHash P (Str.ofString "F_DOT"), key := Value.str (Str.ofString "F_DOT") 246, val := Value.int 0 245 } :: { hash := PyData.keyHash P (Str.ofString "F_COMMA"), key := Value.str (Str.ofString "F_COMMA") 248, val := Value.int 1 247 } :: { hash := PyData.keyHash P (Str.ofString "F_SLASH"), key := Value.str (Str.ofString "F_SLASH") 250, val := Value.int 15 249 } :: { hash := PyData.keyHash P (Str.ofString "F_ERROR"), key := Value.str (Str.ofString "F_ERROR") 252, val := Value.int 16 251 } :: { hash := PyData.keyHash P (Str.ofString "fixed_atoms"), key := Value.str (Str.ofString "fixed_atoms") 258, val := Value.ref 60 } :: { hash := PyData.keyHash P (Str.ofString "fixed_functors"), key := Value.str (Str.ofString "fixed_functors") 264, val := Value.ref 67 } :: { hash := PyData.keyHash P (Str.ofString "Symbols"), key := Value.str (Str.ofString "Symbols") 383, val := Value.ref 154 } :: { hash := PyData.keyHash P (Str.ofString "list_items"), key := Value.str (Str.ofString "list_items") 393, val := Value.ref 165 } :: { hash := PyData.keyHash P (Str.ofString "system_error"), key := Value.str (Str.ofString "system_error") 400, val := Value.ref 172 } :: { hash := PyData.keyHash P (Str.ofString "formal_of"), key := Value.str (Str.ofString "formal_of") 411, val := Value.ref 179 } :: { hash := PyData.keyHash P (Str.ofString "instantiation_error"), key := Value.str (Str.ofString "instantiation_error") 418, val := Value.ref 186 } :: { hash := PyData.keyHash P (Str.ofString "type_error"), key := Value.str (Str.ofString "type_error") 427, val := Value.ref 193 } :: { hash := PyData.keyHash P (Str.ofString "domain_error"), key := Value.str (Str.ofString "domain_error") 436, val := Value.ref 200 } :: { hash := PyData.keyHash P (Str.ofString "read_indicator"), key := Value.str (Str.ofString "read_indicator") 448, val := Value.ref 207 } :: { hash := PyData.keyHash P (Str.ofString "read_list"), key := Value.str (Str.ofString "read_list") 454, val := Value.ref 212 } :: { hash := PyData.keyHash P (Str.ofString "read_indicators"), key := Value.str (Str.ofString "read_indicators") 465, val := Value.ref 219 } :: { hash := PyData.keyHash P (Str.ofString "_law_pick"), key := Value.str (Str.ofString "_law_pick") 477, val := Value.ref 226 } :: { hash := PyData.keyHash P (Str.ofString "_law_part"), key := Value.str (Str.ofString "_law_part") 487, val := Value.ref 233 } :: { hash := PyData.keyHash P (Str.ofString "_law_one"), key := Value.str (Str.ofString "_law_one") 499, val := Value.ref 240 } :: { hash := PyData.keyHash P (Str.ofString "_law_whole"), key := Value.str (Str.ofString "_law_whole") 512, val := Value.ref 247 } :: { hash := PyData.keyHash P (Str.ofString "_law_error"), key := Value.str (Str.ofString "_law_error") 522, val := Value.ref 254 } :: { hash := PyData.keyHash P (Str.ofString "_law_single"), key := Value.str (Str.ofString "_law_single") 532, val := Value.ref 261 } :: { hash := PyData.keyHash P (Str.ofString "_law_read"), key := Value.str (Str.ofString "_law_read") 547, val := Value.ref 268 } :: { hash := PyData.keyHash P (Str.ofString "law"), key := Value.str (Str.ofString "law") 561, val := Value.ref 275 } :: [])) 38 }
noncomputable def hd.q11 : Params → Obj := fun P => { cls := Value.type "tuple", data := Data.seq #[] }
noncomputable def hd.q12 : Params → Obj := fun P => { cls := Value.none, data := Data.fields (List.toArray (Value.int 1 0 :: Value.int 0 0 :: Value.ref 20 :: Value.int 5 0 :: Value.int 0 0 :: Value.ref 27 :: Value.int 7 0 :: Value.int 0 0 :: Value.ref 40 :: Value.int 17 0 :: Value.int 0 0 :: Value.ref 59 :: Value.int 19 0 :: Value.int 0 0 :: Value.ref 66 :: Value.int 21 0 :: Value.int 0 0 :: Value.ref 73 :: Value.int 76 0 :: Value.int 0 0 :: Value.ref 164 :: Value.int 82 0 :: Value.int 0 0 :: Value.ref 171 :: Value.int 84 0 :: Value.int 0 0 :: Value.ref 178 :: Value.int 89 0 :: Value.int 0 0 :: Value.ref 185 :: Value.int 91 0 :: Value.int 0 0 :: Value.ref 192 :: Value.int 93 0 :: Value.int 0 0 :: Value.ref 199 :: Value.int 96 0 :: Value.int 0 0 :: Value.ref 206 :: Value.int 111 0 :: Value.int 0 0 :: Value.ref 211 :: Value.int 118 0 :: Value.int 0 0 :: Value.ref 218 :: Value.int 132 0 :: Value.int 0 0 :: Value.ref 225 :: Value.int 143 0 :: Value.int 0 0 :: Value.ref 232 :: Value.int 150 0 :: Value.int 0 0 :: Value.ref 239 :: Value.int 157 0 :: Value.int 0 0 :: Value.ref 246 :: Value.int 169 0 :: Value.int 0 0 :: Value.ref 253 :: Value.int 174 0 :: Value.int 0 0 :: Value.ref 260 :: Value.int 189 0 :: Value.int 0 0 :: Value.ref 267 :: Value.int 214 0 :: Value.int 0 0 :: Value.ref 274 :: [])) }
noncomputable def hd.q13 : Params → Obj := fun P => { cls := Value.type "code", data := Data.fields #[Value.str (Str.ofString "<module>") 182, Value.str (Str.ofString "<module>") 183, Value.str (Str.ofString "/claim/cut.py") 184, Value.int 1 0, Value.int 0 0, Value.int 0 0, Value.int 0 0, Value.int 0 0, Value.ref 11, Value.bool false, Value.int 181 0, Value.ref 12, Value.none, Value.none, Value.none, Value.none, Value.int 185 0, Value.int 1 0, Value.str (Str.ofString "/claim/cut.py") 186] }
noncomputable def hd.q14 : Params → Obj := fun P => { cls := Value.type "frame", slots := #[some (Value.ref 13), some (Value.ref 3), some (Value.ref 3), none, some (Value.str (Str.ofString "__main__") 164), none, some (Value.ref 0)] }
noncomputable def hd.q15 : Params → Obj := fun P => { cls := Value.type "tuple", data := Data.seq #[] }
noncomputable def hd.q16 : Params → Obj := fun P => { cls := Value.none, data := Data.fields #[] }
noncomputable def hd.q17 : Params → Obj := fun P => { cls := Value.type "tuple", data := Data.seq #[Value.str (Str.ofString "k") 190] }
noncomputable def hd.q18 : Params → Obj := fun P => { cls := Value.type "tuple", data := Data.seq #[] }
noncomputable def hd.q19 : Params → Obj := fun P => { cls := Value.none, data := Data.func { name := Str.ofString "_wall", qualname := Str.ofString "_wall", params := (by walk_at "MY lit" : Lit (fP 0 0)), body := FuncBody.stmts (by walk_at "MY lit" : Lit (fB 0 0)), scope := (by walk_at "MY lit" : Lit (fS 0 0)), globals := 0, closure := [], defaults := Value.none, kwdefaults := Value.none } }
noncomputable def hd.q20 : Params → Obj := fun P => { cls := Value.type "code", data := Data.fields #[Value.str (Str.ofString "_wall") 187, Value.str (Str.ofString "_wall") 188, Value.str (Str.ofString "/claim/cut.py") 189, Value.int 1 0, Value.int 1 0, Value.int 0 0, Value.int 0 0, Value.int 3 0, Value.ref 15, Value.bool true, Value.int 181 0, Value.ref 16, Value.none, Value.ref 17, Value.ref 18, Value.ref 19, Value.int 191 0, Value.int 1 0, Value.str (Str.ofString "/claim/cut.py") 192] }
noncomputable def hd.q21 : Params → Obj := fun P => { cls := Value.type "function", data := Data.func { name := Str.ofString "_wall", qualname := Str.ofString "_wall", params := (by walk_at "MY lit" : Lit (fP 0 0)), body := FuncBody.stmts (by walk_at "MY lit" : Lit (fB 0 0)), scope := (by walk_at "MY lit" : Lit (fS 0 0)), globals := 3, closure := [], defaults := Value.none, kwdefaults := Value.none, pyModule := Value.str (Str.ofString "__main__") 164, code := Value.ref 20 } }
noncomputable def hd.q22 : Params → Obj := fun P => { cls := Value.type "tuple", data := Data.seq #[Value.type "Exception"] }
noncomputable def hd.q23 : Params → Obj := fun P => { cls := Value.type "builtin_function_or_method", data := Data.fields #[Value.builtin "type.__prepare__", Value.type "type"] }
noncomputable def hd.q24 : Params → Obj := fun P => { cls := Value.type "dict", data := Data.dict #[{ hash := PyData.keyHash P (Str.ofString "__module__"), key := Value.str (Str.ofString "__module__") 203, val := Value.str (Str.ofString "clausemill.symbols") 194 }, { hash := PyData.keyHash P (Str.ofString "__qualname__"), key := Value.str (Str.ofString "__qualname__") 205, val := Value.str (Str.ofString "ClausemillError") 204 }, { hash := PyData.keyHash P (Str.ofString "__firstlineno__"), key := Value.str (Str.ofString "__firstlineno__") 207, val := Value.int 5 206 }, { hash := PyData.keyHash P (Str.ofString "__static_attributes__"), key := Value.str (Str.ofString "__static_attributes__") 208, val := Value.ref 29 }] 4 }
noncomputable def hd.q25 : Params → Obj := fun P => { cls := Value.type "tuple", data := Data.seq #[] }
noncomputable def hd.q26 : Params → Obj := fun P => { cls := Value.none, data := Data.fields #[] }
noncomputable def hd.q27 : Params → Obj := fun P => { cls := Value.type "code", data := Data.fields #[Value.str (Str.ofString "ClausemillError") 198, Value.str (Str.ofString "ClausemillError") 199, Value.str (Str.ofString "/claim/cut.py") 200, Value.int 5 0, Value.int 0 0, Value.int 0 0, Value.int 0 0, Value.int 0 0, Value.ref 25, Value.bool false, Value.int 181 0, Value.ref 26, Value.none, Value.none, Value.none, Value.none, Value.int 201 0, Value.int 5 0, Value.str (Str.ofString "/claim/cut.py") 202] }
noncomputable def hd.q28 : Params → Obj := fun P => { cls := Value.type "frame", slots := #[some (Value.ref 27), some (Value.ref 3), some (Value.ref 24), none, some (Value.str (Str.ofString "clausemill.symbols") 194), none, some (Value.ref 0)] }
noncomputable def hd.q29 : Params → Obj := fun P => { cls := Value.type "tuple", data := Data.seq #[] }
noncomputable def hd.q30 : Params → Obj := fun P => { cls := Value.type "dict", data := Data.dict #[{ hash := PyData.keyHash P (Str.ofString "__module__"), key := Value.str (Str.ofString "__module__") 203, val := Value.str (Str.ofString "clausemill.symbols") 194 }, { hash := PyData.keyHash P (Str.ofString "__firstlineno__"), key := Value.str (Str.ofString "__firstlineno__") 207, val := Value.int 5 206 }, { hash := PyData.keyHash P (Str.ofString "__static_attributes__"), key := Value.str (Str.ofString "__static_attributes__") 208, val := Value.ref 29 }, { hash := PyData.keyHash P (Str.ofString "__weakref__"), key := Value.str (Str.ofString "__weakref__") 210, val := Value.ref 32 }, { hash := PyData.keyHash P (Str.ofString "__doc__"), key := Value.str (Str.ofString "__doc__") 211, val := Value.none }] 3 }
noncomputable def hd.q31 : Params → Obj := fun P => { cls := Value.type "type", data := Data.cls { name := Str.ofString "ClausemillError", bases := [Value.type "Exception"], mro := [Value.ref 31, Value.type "Exception", Value.type "BaseException", Value.type "object"], ns := 30, qualname := Str.ofString "ClausemillError", subclasses := [Value.ref 51] }, slots := #[some (Value.ref 22), none, some (Value.str (Str.ofString "ClausemillError") 196), some (Value.str (Str.ofString "ClausemillError") 204), some (Value.builtin "Exception.__new__"), some (Value.bool true)] }
noncomputable def hd.q32 : Params → Obj := fun P => { cls := Value.type "getset_descriptor", data := Data.fields #[Value.str (Str.ofString "__weakref__") 209, Value.ref 31, Value.builtin "ExceptionGroup.__weakref__", Value.none] }
noncomputable def hd.q33 : Params → Obj := fun P => { cls := Value.type "super", data := Data.fields #[Value.ref 31, Value.ref 31, Value.ref 31] }
noncomputable def hd.q34 : Params → Obj := fun P => { cls := Value.type "builtin_function_or_method", data := Data.fields #[Value.builtin "object.__init_subclass__", Value.ref 31] }
noncomputable def hd.q35 : Params → Obj := fun P => { cls := Value.type "tuple", data := Data.seq #[Value.ref 31] }
noncomputable def hd.q36 : Params → Obj := fun P => { cls := Value.type "builtin_function_or_method", data := Data.fields #[Value.builtin "type.__prepare__", Value.type "type"] }
noncomputable def hd.q37 : Params → Obj := fun P => { cls := Value.type "dict", data := Data.dict #[{ hash := PyData.keyHash P (Str.ofString "__module__"), key := Value.str (Str.ofString "__module__") 223, val := Value.str (Str.ofString "clausemill.symbols") 194 }, { hash := PyData.keyHash P (Str.ofString "__qualname__"), key := Value.str (Str.ofString "__qualname__") 225, val := Value.str (Str.ofString "PrologError") 224 }, { hash := PyData.keyHash P (Str.ofString "__firstlineno__"), key := Value.str (Str.ofString "__firstlineno__") 227, val := Value.int 7 226 }, { hash := PyData.keyHash P (Str.ofString "__init__"), key := Value.str (Str.ofString "__init__") 235, val := Value.ref 48 }, { hash := PyData.keyHash P (Str.ofString "__static_attributes__"), key := Value.str (Str.ofString "__static_attributes__") 237, val := Value.ref 49 }] 5 }
noncomputable def hd.q38 : Params → Obj := fun P => { cls := Value.type "tuple", data := Data.seq #[] }
noncomputable def hd.q39 : Params → Obj := fun P => { cls := Value.none, data := Data.fields #[Value.int 9 0, Value.int 4 0, Value.ref 47] }
noncomputable def hd.q40 : Params → Obj := fun P => { cls := Value.type "code", data := Data.fields #[Value.str (Str.ofString "PrologError") 218, Value.str (Str.ofString "PrologError") 219, Value.str (Str.ofString "/claim/cut.py") 220, Value.int 7 0, Value.int 0 0, Value.int 0 0, Value.int 0 0, Value.int 0 0, Value.ref 38, Value.bool false, Value.int 181 0, Value.ref 39, Value.none, Value.none, Value.none, Value.none, Value.int 221 0, Value.int 7 0, Value.str (Str.ofString "/claim/cut.py") 222] }
noncomputable def hd.q41 : Params → Obj := fun P => { cls := Value.type "frame", slots := #[some (Value.ref 40), some (Value.ref 3), some (Value.ref 37), none, some (Value.str (Str.ofString "clausemill.symbols") 194), none, some (Value.ref 0)] }
noncomputable def hd.q42 : Params → Obj := fun P => { cls := Value.type "tuple", data := Data.seq #[] }
noncomputable def hd.q43 : Params → Obj := fun P => { cls := Value.none, data := Data.fields #[] }
noncomputable def hd.q44 : Params → Obj := fun P => { cls := Value.type "tuple", data := Data.seq #[Value.str (Str.ofString "self") 231, Value.str (Str.ofString "ball") 232] }
noncomputable def hd.q45 : Params → Obj := fun P => { cls := Value.type "tuple", data := Data.seq #[] }
noncomputable def hd.q46 : Params → Obj := fun P => { cls := Value.none, data := Data.func { name := Str.ofString "__init__", qualname := Str.ofString "PrologError.__init__", params := (by walk_at "MY lit" : Lit (fP 3 1)), body := FuncBody.stmts (by walk_at "MY lit" : Lit (fB 3 1)), scope := (by walk_at "MY lit" : Lit (fS 3 1)), globals := 0, closure := [], defaults := Value.none, kwdefaults := Value.none } }
noncomputable def hd.q47 : Params → Obj := fun P => { cls := Value.type "code", data := Data.fields #[Value.str (Str.ofString "__init__") 228, Value.str (Str.ofString "PrologError.__init__") 229, Value.str (Str.ofString "/claim/cut.py") 230, Value.int 9 0, Value.int 2 0, Value.int 0 0, Value.int 0 0, Value.int 3 0, Value.ref 42, Value.bool true, Value.int 181 0, Value.ref 43, Value.none, Value.ref 44, Value.ref 45, Value.ref 46, Value.int 233 0, Value.int 9 0, Value.str (Str.ofString "/claim/cut.py") 234] }
noncomputable def hd.q48 : Params → Obj := fun P => { cls := Value.type "function", data := Data.func { name := Str.ofString "__init__", qualname := Str.ofString "PrologError.__init__", params := (by walk_at "MY lit" : Lit (fP 3 1)), body := FuncBody.stmts (by walk_at "MY lit" : Lit (fB 3 1)), scope := (by walk_at "MY lit" : Lit (fS 3 1)), globals := 3, closure := [], defaults := Value.none, kwdefaults := Value.none, pyModule := Value.str (Str.ofString "clausemill.symbols") 194, code := Value.ref 47 } }
noncomputable def hd.q49 : Params → Obj := fun P => { cls := Value.type "tuple", data := Data.seq #[Value.str (Str.ofString "ball") 236] }
noncomputable def hd.q50 : Params → Obj := fun P => { cls := Value.type "dict", data := Data.dict #[{ hash := PyData.keyHash P (Str.ofString "__module__"), key := Value.str (Str.ofString "__module__") 223, val := Value.str (Str.ofString "clausemill.symbols") 194 }, { hash := PyData.keyHash P (Str.ofString "__firstlineno__"), key := Value.str (Str.ofString "__firstlineno__") 227, val := Value.int 7 226 }, { hash := PyData.keyHash P (Str.ofString "__init__"), key := Value.str (Str.ofString "__init__") 235, val := Value.ref 48 }, { hash := PyData.keyHash P (Str.ofString "__static_attributes__"), key := Value.str (Str.ofString "__static_attributes__") 237, val := Value.ref 49 }, { hash := PyData.keyHash P (Str.ofString "__doc__"), key := Value.str (Str.ofString "__doc__") 238, val := Value.none }] 2 }
noncomputable def hd.q51 : Params → Obj := fun P => { cls := Value.type "type", data := Data.cls { name := Str.ofString "PrologError", bases := [Value.ref 31], mro := [Value.ref 51, Value.ref 31, Value.type "Exception", Value.type "BaseException", Value.type "object"], ns := 50, qualname := Str.ofString "PrologError" }, slots := #[some (Value.ref 35), none, some (Value.str (Str.ofString "PrologError") 216), some (Value.str (Str.ofString "PrologError") 224), some (Value.builtin "Exception.__new__"), some (Value.bool true)] }
noncomputable def hd.q52 : Params → Obj := fun P => { cls := Value.type "super", data := Data.fields #[Value.ref 51, Value.ref 51, Value.ref 51] }
noncomputable def hd.q53 : Params → Obj := fun P => { cls := Value.type "builtin_function_or_method", data := Data.fields #[Value.builtin "object.__init_subclass__", Value.ref 51] }
noncomputable def hd.q54 : Params → Obj := fun P => { cls := Value.type "tuple", data := Data.seq #[] }
noncomputable def hd.q55 : Params → Obj := fun P => { cls := Value.none, data := Data.fields #[] }
noncomputable def hd.q56 : Params → Obj := fun P => { cls := Value.type "tuple", data := Data.seq #[] }
noncomputable def hd.q57 : Params → Obj := fun P => { cls := Value.type "tuple", data := Data.seq #[] }
noncomputable def hd.q58 : Params → Obj := fun P => { cls := Value.none, data := Data.func { name := Str.ofString "fixed_atoms", qualname := Str.ofString "fixed_atoms", params := (by walk_at "MY lit" : Lit (fP 10 0)), body := FuncBody.stmts (by walk_at "MY lit" : Lit (fB 10 0)), scope := (by walk_at "MY lit" : Lit (fS 10 0)), globals := 0, closure := [], defaults := Value.none, kwdefaults := Value.none } }
noncomputable def hd.q59 : Params → Obj := fun P => { cls := Value.type "code", data := Data.fields #[Value.str (Str.ofString "fixed_atoms") 253, Value.str (Str.ofString "fixed_atoms") 254, Value.str (Str.ofString "/claim/cut.py") 255, Value.int 17 0, Value.int 0 0, Value.int 0 0, Value.int 0 0, Value.int 3 0, Value.ref 54, Value.bool true, Value.int 181 0, Value.ref 55, Value.none, Value.ref 56, Value.ref 57, Value.ref 58, Value.int 256 0, Value.int 17 0, Value.str (Str.ofString "/claim/cut.py") 257] }
noncomputable def hd.q60 : Params → Obj := fun P => { cls := Value.type "function", data := Data.func { name := Str.ofString "fixed_atoms", qualname := Str.ofString "fixed_atoms", params := (by walk_at "MY lit" : Lit (fP 10 0)), body := FuncBody.stmts (by walk_at "MY lit" : Lit (fB 10 0)), scope := (by walk_at "MY lit" : Lit (fS 10 0)), globals := 3, closure := [], defaults := Value.none, kwdefaults := Value.none, pyModule := Value.str (Str.ofString "clausemill.symbols") 194, code := Value.ref 59 } }
noncomputable def hd.q61 : Params → Obj := fun P => { cls := Value.type "tuple", data := Data.seq #[] }
noncomputable def hd.q62 : Params → Obj := fun P => { cls := Value.none, data := Data.fields #[] }
noncomputable def hd.q63 : Params → Obj := fun P => { cls := Value.type "tuple", data := Data.seq #[] }
noncomputable def hd.q64 : Params → Obj := fun P => { cls := Value.type "tuple", data := Data.seq #[] }
noncomputable def hd.q65 : Params → Obj := fun P => { cls := Value.none, data := Data.func { name := Str.ofString "fixed_functors", qualname := Str.ofString "fixed_functors", params := (by walk_at "MY lit" : Lit (fP 11 0)), body := FuncBody.stmts (by walk_at "MY lit" : Lit (fB 11 0)), scope := (by walk_at "MY lit" : Lit (fS 11 0)), globals := 0, closure := [], defaults := Value.none, kwdefaults := Value.none } }
noncomputable def hd.q66 : Params → Obj := fun P => { cls := Value.type "code", data := Data.fields #[Value.str (Str.ofString "fixed_functors") 259, Value.str (Str.ofString "fixed_functors") 260, Value.str (Str.ofString "/claim/cut.py") 261, Value.int 19 0, Value.int 0 0, Value.int 0 0, Value.int 0 0, Value.int 3 0, Value.ref 61, Value.bool true, Value.int 181 0, Value.ref 62, Value.none, Value.ref 63, Value.ref 64, Value.ref 65, Value.int 262 0, Value.int 19 0, Value.str (Str.ofString "/claim/cut.py") 263] }
noncomputable def hd.q67 : Params → Obj := fun P => { cls := Value.type "function", data := Data.func { name := Str.ofString "fixed_functors", qualname := Str.ofString "fixed_functors", params := (by walk_at "MY lit" : Lit (fP 11 0)), body := FuncBody.stmts (by walk_at "MY lit" : Lit (fB 11 0)), scope := (by walk_at "MY lit" : Lit (fS 11 0)), globals := 3, closure := [], defaults := Value.none, kwdefaults := Value.none, pyModule := Value.str (Str.ofString "clausemill.symbols") 194, code := Value.ref 66 } }
noncomputable def hd.q68 : Params → Obj := fun P => { cls := Value.type "tuple", data := Data.seq #[] }
noncomputable def hd.q69 : Params → Obj := fun P => { cls := Value.type "builtin_function_or_method", data := Data.fields #[Value.builtin "type.__prepare__", Value.type "type"] }
noncomputable def hd.q70 : Params → Obj := fun P => { cls := Value.type "dict", data := Data.dict #[{ hash := PyData.keyHash P (Str.ofString "__module__"), key := Value.str (Str.ofString "__module__") 272, val := Value.str (Str.ofString "clausemill.symbols") 194 }, { hash := PyData.keyHash P (Str.ofString "__qualname__"), key := Value.str (Str.ofString "__qualname__") 274, val := Value.str (Str.ofString "Symbols") 273 }, { hash := PyData.keyHash P (Str.ofString "__firstlineno__"), key := Value.str (Str.ofString "__firstlineno__") 276, val := Value.int 21 275 }, { hash := PyData.keyHash P (Str.ofString "__init__"), key := Value.str (Str.ofString "__init__") 285, val := Value.ref 81 }, { hash := PyData.keyHash P (Str.ofString "atom"), key := Value.str (Str.ofString "atom") 295, val := Value.ref 88 }, { hash := PyData.keyHash P (Str.ofString "text"), key := Value.str (Str.ofString "text") 303, val := Value.ref 95 }, { hash := PyData.keyHash P (Str.ofString "functor"), key := Value.str (Str.ofString "functor") 315, val := Value.ref 102 }, { hash := PyData.keyHash P (Str.ofString "func"), key := Value.str (Str.ofString "func") 324, val := Value.ref 109 }, { hash := PyData.keyHash P (Str.ofString "name"), key := Value.str (Str.ofString "name") 332, val := Value.ref 116 }, { hash := PyData.keyHash P (Str.ofString "arity"), key := Value.str (Str.ofString "arity") 340, val := Value.ref 123 }, { hash := PyData.keyHash P (Str.ofString "label"), key := Value.str (Str.ofString "label") 348, val := Value.ref 130 }, { hash := PyData.keyHash P (Str.ofString "count"), key := Value.str (Str.ofString "count") 355, val := Value.ref 137 }, { hash := PyData.keyHash P (Str.ofString "functor_count"), key := Value.str (Str.ofString "functor_count") 362, val := Value.ref 144 }, { hash := PyData.keyHash P (Str.ofString "known"), key := Value.str (Str.ofString "known") 371, val := Value.ref 151 }, { hash := PyData.keyHash P (Str.ofString "__static_attributes__"), key := Value.str (Str.ofString "__static_attributes__") 376, val := Value.ref 152 }] 15 }
noncomputable def hd.q71 : Params → Obj := fun P => { cls := Value.type "tuple", data := Data.seq #[] }
noncomputable def hd.q72 : Params → Obj := fun P => { cls := Value.none, data := Data.fields (List.toArray (Value.int 23 0 :: Value.int 4 0 :: Value.ref 80 :: Value.int 33 0 :: Value.int 4 0 :: Value.ref 87 :: Value.int 42 0 :: Value.int 4 0 :: Value.ref 94 :: Value.int 45 0 :: Value.int 4 0 :: Value.ref 101 :: Value.int 55 0 :: Value.int 4 0 :: Value.ref 108 :: Value.int 58 0 :: Value.int 4 0 :: Value.ref 115 :: Value.int 61 0 :: Value.int 4 0 :: Value.ref 122 :: Value.int 64 0 :: Value.int 4 0 :: Value.ref 129 :: Value.int 67 0 :: Value.int 4 0 :: Value.ref 136 :: Value.int 70 0 :: Value.int 4 0 :: Value.ref 143 :: Value.int 73 0 :: Value.int 4 0 :: Value.ref 150 :: [])) }
noncomputable def hd.q73 : Params → Obj := fun P => { cls := Value.type "code", data := Data.fields #[Value.str (Str.ofString "Symbols") 267, Value.str (Str.ofString "Symbols") 268, Value.str (Str.ofString "/claim/cut.py") 269, Value.int 21 0, Value.int 0 0, Value.int 0 0, Value.int 0 0, Value.int 0 0, Value.ref 71, Value.bool false, Value.int 181 0, Value.ref 72, Value.none, Value.none, Value.none, Value.none, Value.int 270 0, Value.int 21 0, Value.str (Str.ofString "/claim/cut.py") 271] }
noncomputable def hd.q74 : Params → Obj := fun P => { cls := Value.type "frame", slots := #[some (Value.ref 73), some (Value.ref 3), some (Value.ref 70), none, some (Value.str (Str.ofString "clausemill.symbols") 194), none, some (Value.ref 0)] }
noncomputable def hd.q75 : Params → Obj := fun P => { cls := Value.type "tuple", data := Data.seq #[] }
noncomputable def hd.q76 : Params → Obj := fun P => { cls := Value.none, data := Data.fields #[] }
noncomputable def hd.q77 : Params → Obj := fun P => { cls := Value.type "tuple", data := Data.seq #[Value.str (Str.ofString "self") 280, Value.str (Str.ofString "text") 281, Value.str (Str.ofString "row") 282] }
noncomputable def hd.q78 : Params → Obj := fun P => { cls := Value.type "tuple", data := Data.seq #[] }
noncomputable def hd.q79 : Params → Obj := fun P => { cls := Value.none, data := Data.func { name := Str.ofString "__init__", qualname := Str.ofString "Symbols.__init__", params := (by walk_at "MY lit" : Lit (fP 12 1)), body := FuncBody.stmts (by walk_at "MY lit" : Lit (fB 12 1)), scope := (by walk_at "MY lit" : Lit (fS 12 1)), globals := 0, closure := [], defaults := Value.none, kwdefaults := Value.none } }
noncomputable def hd.q80 : Params → Obj := fun P => { cls := Value.type "code", data := Data.fields #[Value.str (Str.ofString "__init__") 277, Value.str (Str.ofString "Symbols.__init__") 278, Value.str (Str.ofString "/claim/cut.py") 279, Value.int 23 0, Value.int 1 0, Value.int 0 0, Value.int 0 0, Value.int 3 0, Value.ref 75, Value.bool true, Value.int 181 0, Value.ref 76, Value.none, Value.ref 77, Value.ref 78, Value.ref 79, Value.int 283 0, Value.int 23 0, Value.str (Str.ofString "/claim/cut.py") 284] }
noncomputable def hd.q81 : Params → Obj := fun P => { cls := Value.type "function", data := Data.func { name := Str.ofString "__init__", qualname := Str.ofString "Symbols.__init__", params := (by walk_at "MY lit" : Lit (fP 12 1)), body := FuncBody.stmts (by walk_at "MY lit" : Lit (fB 12 1)), scope := (by walk_at "MY lit" : Lit (fS 12 1)), globals := 3, closure := [], defaults := Value.none, kwdefaults := Value.none, pyModule := Value.str (Str.ofString "clausemill.symbols") 194, code := Value.ref 80 } }
noncomputable def hd.q82 : Params → Obj := fun P => { cls := Value.type "tuple", data := Data.seq #[] }
noncomputable def hd.q83 : Params → Obj := fun P => { cls := Value.none, data := Data.fields #[] }
noncomputable def hd.q84 : Params → Obj := fun P => { cls := Value.type "tuple", data := Data.seq #[Value.str (Str.ofString "self") 289, Value.str (Str.ofString "text") 290, Value.str (Str.ofString "found") 291, Value.str (Str.ofString "number") 292] }
noncomputable def hd.q85 : Params → Obj := fun P => { cls := Value.type "tuple", data := Data.seq #[] }
noncomputable def hd.q86 : Params → Obj := fun P => { cls := Value.none, data := Data.func { name := Str.ofString "atom", qualname := Str.ofString "Symbols.atom", params := (by walk_at "MY lit" : Lit (fP 12 2)), body := FuncBody.stmts (by walk_at "MY lit" : Lit (fB 12 2)), scope := (by walk_at "MY lit" : Lit (fS 12 2)), globals := 0, closure := [], defaults := Value.none, kwdefaults := Value.none } }
noncomputable def hd.q87 : Params → Obj := fun P => { cls := Value.type "code", data := Data.fields #[Value.str (Str.ofString "atom") 286, Value.str (Str.ofString "Symbols.atom") 287, Value.str (Str.ofString "/claim/cut.py") 288, Value.int 33 0, Value.int 2 0, Value.int 0 0, Value.int 0 0, Value.int 3 0, Value.ref 82, Value.bool true, Value.int 181 0, Value.ref 83, Value.none, Value.ref 84, Value.ref 85, Value.ref 86, Value.int 293 0, Value.int 33 0, Value.str (Str.ofString "/claim/cut.py") 294] }
noncomputable def hd.q88 : Params → Obj := fun P => { cls := Value.type "function", data := Data.func { name := Str.ofString "atom", qualname := Str.ofString "Symbols.atom", params := (by walk_at "MY lit" : Lit (fP 12 2)), body := FuncBody.stmts (by walk_at "MY lit" : Lit (fB 12 2)), scope := (by walk_at "MY lit" : Lit (fS 12 2)), globals := 3, closure := [], defaults := Value.none, kwdefaults := Value.none, pyModule := Value.str (Str.ofString "clausemill.symbols") 194, code := Value.ref 87 } }
noncomputable def hd.q89 : Params → Obj := fun P => { cls := Value.type "tuple", data := Data.seq #[] }
noncomputable def hd.q90 : Params → Obj := fun P => { cls := Value.none, data := Data.fields #[] }
noncomputable def hd.q91 : Params → Obj := fun P => { cls := Value.type "tuple", data := Data.seq #[Value.str (Str.ofString "self") 299, Value.str (Str.ofString "number") 300] }
noncomputable def hd.q92 : Params → Obj := fun P => { cls := Value.type "tuple", data := Data.seq #[] }
noncomputable def hd.q93 : Params → Obj := fun P => { cls := Value.none, data := Data.func { name := Str.ofString "text", qualname := Str.ofString "Symbols.text", params := (by walk_at "MY lit" : Lit (fP 12 3)), body := FuncBody.stmts (by walk_at "MY lit" : Lit (fB 12 3)), scope := (by walk_at "MY lit" : Lit (fS 12 3)), globals := 0, closure := [], defaults := Value.none, kwdefaults := Value.none } }
noncomputable def hd.q94 : Params → Obj := fun P => { cls := Value.type "code", data := Data.fields #[Value.str (Str.ofString "text") 296, Value.str (Str.ofString "Symbols.text") 297, Value.str (Str.ofString "/claim/cut.py") 298, Value.int 42 0, Value.int 2 0, Value.int 0 0, Value.int 0 0, Value.int 3 0, Value.ref 89, Value.bool true, Value.int 181 0, Value.ref 90, Value.none, Value.ref 91, Value.ref 92, Value.ref 93, Value.int 301 0, Value.int 42 0, Value.str (Str.ofString "/claim/cut.py") 302] }
noncomputable def hd.q95 : Params → Obj := fun P => { cls := Value.type "function", data := Data.func { name := Str.ofString "text", qualname := Str.ofString "Symbols.text", params := (by walk_at "MY lit" : Lit (fP 12 3)), body := FuncBody.stmts (by walk_at "MY lit" : Lit (fB 12 3)), scope := (by walk_at "MY lit" : Lit (fS 12 3)), globals := 3, closure := [], defaults := Value.none, kwdefaults := Value.none, pyModule := Value.str (Str.ofString "clausemill.symbols") 194, code := Value.ref 94 } }
noncomputable def hd.q96 : Params → Obj := fun P => { cls := Value.type "tuple", data := Data.seq #[] }
noncomputable def hd.q97 : Params → Obj := fun P => { cls := Value.none, data := Data.fields #[] }
noncomputable def hd.q98 : Params → Obj := fun P => { cls := Value.type "tuple", data := Data.seq #[Value.str (Str.ofString "self") 307, Value.str (Str.ofString "atom") 308, Value.str (Str.ofString "arity") 309, Value.str (Str.ofString "key") 310, Value.str (Str.ofString "found") 311, Value.str (Str.ofString "number") 312] }
noncomputable def hd.q99 : Params → Obj := fun P => { cls := Value.type "tuple", data := Data.seq #[] }
noncomputable def hd.q100 : Params → Obj := fun P => { cls := Value.none, data := Data.func { name := Str.ofString "functor", qualname := Str.ofString "Symbols.functor", params := (by walk_at "MY lit" : Lit (fP 12 4)), body := FuncBody.stmts (by walk_at "MY lit" : Lit (fB 12 4)), scope := (by walk_at "MY lit" : Lit (fS 12 4)), globals := 0, closure := [], defaults := Value.none, kwdefaults := Value.none } }
noncomputable def hd.q101 : Params → Obj := fun P => { cls := Value.type "code", data := Data.fields #[Value.str (Str.ofString "functor") 304, Value.str (Str.ofString "Symbols.functor") 305, Value.str (Str.ofString "/claim/cut.py") 306, Value.int 45 0, Value.int 3 0, Value.int 0 0, Value.int 0 0, Value.int 3 0, Value.ref 96, Value.bool true, Value.int 181 0, Value.ref 97, Value.none, Value.ref 98, Value.ref 99, Value.ref 100, Value.int 313 0, Value.int 45 0, Value.str (Str.ofString "/claim/cut.py") 314] }
noncomputable def hd.q102 : Params → Obj := fun P => { cls := Value.type "function", data := Data.func { name := Str.ofString "functor", qualname := Str.ofString "Symbols.functor", params := (by walk_at "MY lit" : Lit (fP 12 4)), body := FuncBody.stmts (by walk_at "MY lit" : Lit (fB 12 4)), scope := (by walk_at "MY lit" : Lit (fS 12 4)), globals := 3, closure := [], defaults := Value.none, kwdefaults := Value.none, pyModule := Value.str (Str.ofString "clausemill.symbols") 194, code := Value.ref 101 } }
noncomputable def hd.q103 : Params → Obj := fun P => { cls := Value.type "tuple", data := Data.seq #[] }
noncomputable def hd.q104 : Params → Obj := fun P => { cls := Value.none, data := Data.fields #[] }
noncomputable def hd.q105 : Params → Obj := fun P => { cls := Value.type "tuple", data := Data.seq #[Value.str (Str.ofString "self") 319, Value.str (Str.ofString "text") 320, Value.str (Str.ofString "arity") 321] }
noncomputable def hd.q106 : Params → Obj := fun P => { cls := Value.type "tuple", data := Data.seq #[] }
noncomputable def hd.q107 : Params → Obj := fun P => { cls := Value.none, data := Data.func { name := Str.ofString "func", qualname := Str.ofString "Symbols.func", params := (by walk_at "MY lit" : Lit (fP 12 5)), body := FuncBody.stmts (by walk_at "MY lit" : Lit (fB 12 5)), scope := (by walk_at "MY lit" : Lit (fS 12 5)), globals := 0, closure := [], defaults := Value.none, kwdefaults := Value.none } }
noncomputable def hd.q108 : Params → Obj := fun P => { cls := Value.type "code", data := Data.fields #[Value.str (Str.ofString "func") 316, Value.str (Str.ofString "Symbols.func") 317, Value.str (Str.ofString "/claim/cut.py") 318, Value.int 55 0, Value.int 3 0, Value.int 0 0, Value.int 0 0, Value.int 3 0, Value.ref 103, Value.bool true, Value.int 181 0, Value.ref 104, Value.none, Value.ref 105, Value.ref 106, Value.ref 107, Value.int 322 0, Value.int 55 0, Value.str (Str.ofString "/claim/cut.py") 323] }
noncomputable def hd.q109 : Params → Obj := fun P => { cls := Value.type "function", data := Data.func { name := Str.ofString "func", qualname := Str.ofString "Symbols.func", params := (by walk_at "MY lit" : Lit (fP 12 5)), body := FuncBody.stmts (by walk_at "MY lit" : Lit (fB 12 5)), scope := (by walk_at "MY lit" : Lit (fS 12 5)), globals := 3, closure := [], defaults := Value.none, kwdefaults := Value.none, pyModule := Value.str (Str.ofString "clausemill.symbols") 194, code := Value.ref 108 } }
noncomputable def hd.q110 : Params → Obj := fun P => { cls := Value.type "tuple", data := Data.seq #[] }
noncomputable def hd.q111 : Params → Obj := fun P => { cls := Value.none, data := Data.fields #[] }
noncomputable def hd.q112 : Params → Obj := fun P => { cls := Value.type "tuple", data := Data.seq #[Value.str (Str.ofString "self") 328, Value.str (Str.ofString "functor") 329] }
noncomputable def hd.q113 : Params → Obj := fun P => { cls := Value.type "tuple", data := Data.seq #[] }
noncomputable def hd.q114 : Params → Obj := fun P => { cls := Value.none, data := Data.func { name := Str.ofString "name", qualname := Str.ofString "Symbols.name", params := (by walk_at "MY lit" : Lit (fP 12 6)), body := FuncBody.stmts (by walk_at "MY lit" : Lit (fB 12 6)), scope := (by walk_at "MY lit" : Lit (fS 12 6)), globals := 0, closure := [], defaults := Value.none, kwdefaults := Value.none } }
noncomputable def hd.q115 : Params → Obj := fun P => { cls := Value.type "code", data := Data.fields #[Value.str (Str.ofString "name") 325, Value.str (Str.ofString "Symbols.name") 326, Value.str (Str.ofString "/claim/cut.py") 327, Value.int 58 0, Value.int 2 0, Value.int 0 0, Value.int 0 0, Value.int 3 0, Value.ref 110, Value.bool true, Value.int 181 0, Value.ref 111, Value.none, Value.ref 112, Value.ref 113, Value.ref 114, Value.int 330 0, Value.int 58 0, Value.str (Str.ofString "/claim/cut.py") 331] }
noncomputable def hd.q116 : Params → Obj := fun P => { cls := Value.type "function", data := Data.func { name := Str.ofString "name", qualname := Str.ofString "Symbols.name", params := (by walk_at "MY lit" : Lit (fP 12 6)), body := FuncBody.stmts (by walk_at "MY lit" : Lit (fB 12 6)), scope := (by walk_at "MY lit" : Lit (fS 12 6)), globals := 3, closure := [], defaults := Value.none, kwdefaults := Value.none, pyModule := Value.str (Str.ofString "clausemill.symbols") 194, code := Value.ref 115 } }
noncomputable def hd.q117 : Params → Obj := fun P => { cls := Value.type "tuple", data := Data.seq #[] }
noncomputable def hd.q118 : Params → Obj := fun P => { cls := Value.none, data := Data.fields #[] }
noncomputable def hd.q119 : Params → Obj := fun P => { cls := Value.type "tuple", data := Data.seq #[Value.str (Str.ofString "self") 336, Value.str (Str.ofString "functor") 337] }
noncomputable def hd.q120 : Params → Obj := fun P => { cls := Value.type "tuple", data := Data.seq #[] }
noncomputable def hd.q121 : Params → Obj := fun P => { cls := Value.none, data := Data.func { name := Str.ofString "arity", qualname := Str.ofString "Symbols.arity", params := (by walk_at "MY lit" : Lit (fP 12 7)), body := FuncBody.stmts (by walk_at "MY lit" : Lit (fB 12 7)), scope := (by walk_at "MY lit" : Lit (fS 12 7)), globals := 0, closure := [], defaults := Value.none, kwdefaults := Value.none } }
noncomputable def hd.q122 : Params → Obj := fun P => { cls := Value.type "code", data := Data.fields #[Value.str (Str.ofString "arity") 333, Value.str (Str.ofString "Symbols.arity") 334, Value.str (Str.ofString "/claim/cut.py") 335, Value.int 61 0, Value.int 2 0, Value.int 0 0, Value.int 0 0, Value.int 3 0, Value.ref 117, Value.bool true, Value.int 181 0, Value.ref 118, Value.none, Value.ref 119, Value.ref 120, Value.ref 121, Value.int 338 0, Value.int 61 0, Value.str (Str.ofString "/claim/cut.py") 339] }
noncomputable def hd.q123 : Params → Obj := fun P => { cls := Value.type "function", data := Data.func { name := Str.ofString "arity", qualname := Str.ofString "Symbols.arity", params := (by walk_at "MY lit" : Lit (fP 12 7)), body := FuncBody.stmts (by walk_at "MY lit" : Lit (fB 12 7)), scope := (by walk_at "MY lit" : Lit (fS 12 7)), globals := 3, closure := [], defaults := Value.none, kwdefaults := Value.none, pyModule := Value.str (Str.ofString "clausemill.symbols") 194, code := Value.ref 122 } }
noncomputable def hd.q124 : Params → Obj := fun P => { cls := Value.type "tuple", data := Data.seq #[] }
noncomputable def hd.q125 : Params → Obj := fun P => { cls := Value.none, data := Data.fields #[] }
noncomputable def hd.q126 : Params → Obj := fun P => { cls := Value.type "tuple", data := Data.seq #[Value.str (Str.ofString "self") 344, Value.str (Str.ofString "functor") 345] }
noncomputable def hd.q127 : Params → Obj := fun P => { cls := Value.type "tuple", data := Data.seq #[] }
noncomputable def hd.q128 : Params → Obj := fun P => { cls := Value.none, data := Data.func { name := Str.ofString "label", qualname := Str.ofString "Symbols.label", params := (by walk_at "MY lit" : Lit (fP 12 8)), body := FuncBody.stmts (by walk_at "MY lit" : Lit (fB 12 8)), scope := (by walk_at "MY lit" : Lit (fS 12 8)), globals := 0, closure := [], defaults := Value.none, kwdefaults := Value.none } }
noncomputable def hd.q129 : Params → Obj := fun P => { cls := Value.type "code", data := Data.fields #[Value.str (Str.ofString "label") 341, Value.str (Str.ofString "Symbols.label") 342, Value.str (Str.ofString "/claim/cut.py") 343, Value.int 64 0, Value.int 2 0, Value.int 0 0, Value.int 0 0, Value.int 3 0, Value.ref 124, Value.bool true, Value.int 181 0, Value.ref 125, Value.none, Value.ref 126, Value.ref 127, Value.ref 128, Value.int 346 0, Value.int 64 0, Value.str (Str.ofString "/claim/cut.py") 347] }
noncomputable def hd.q130 : Params → Obj := fun P => { cls := Value.type "function", data := Data.func { name := Str.ofString "label", qualname := Str.ofString "Symbols.label", params := (by walk_at "MY lit" : Lit (fP 12 8)), body := FuncBody.stmts (by walk_at "MY lit" : Lit (fB 12 8)), scope := (by walk_at "MY lit" : Lit (fS 12 8)), globals := 3, closure := [], defaults := Value.none, kwdefaults := Value.none, pyModule := Value.str (Str.ofString "clausemill.symbols") 194, code := Value.ref 129 } }
noncomputable def hd.q131 : Params → Obj := fun P => { cls := Value.type "tuple", data := Data.seq #[] }
noncomputable def hd.q132 : Params → Obj := fun P => { cls := Value.none, data := Data.fields #[] }
noncomputable def hd.q133 : Params → Obj := fun P => { cls := Value.type "tuple", data := Data.seq #[Value.str (Str.ofString "self") 352] }
noncomputable def hd.q134 : Params → Obj := fun P => { cls := Value.type "tuple", data := Data.seq #[] }
noncomputable def hd.q135 : Params → Obj := fun P => { cls := Value.none, data := Data.func { name := Str.ofString "count", qualname := Str.ofString "Symbols.count", params := (by walk_at "MY lit" : Lit (fP 12 9)), body := FuncBody.stmts (by walk_at "MY lit" : Lit (fB 12 9)), scope := (by walk_at "MY lit" : Lit (fS 12 9)), globals := 0, closure := [], defaults := Value.none, kwdefaults := Value.none } }
noncomputable def hd.q136 : Params → Obj := fun P => { cls := Value.type "code", data := Data.fields #[Value.str (Str.ofString "count") 349, Value.str (Str.ofString "Symbols.count") 350, Value.str (Str.ofString "/claim/cut.py") 351, Value.int 67 0, Value.int 1 0, Value.int 0 0, Value.int 0 0, Value.int 3 0, Value.ref 131, Value.bool true, Value.int 181 0, Value.ref 132, Value.none, Value.ref 133, Value.ref 134, Value.ref 135, Value.int 353 0, Value.int 67 0, Value.str (Str.ofString "/claim/cut.py") 354] }
noncomputable def hd.q137 : Params → Obj := fun P => { cls := Value.type "function", data := Data.func { name := Str.ofString "count", qualname := Str.ofString "Symbols.count", params := (by walk_at "MY lit" : Lit (fP 12 9)), body := FuncBody.stmts (by walk_at "MY lit" : Lit (fB 12 9)), scope := (by walk_at "MY lit" : Lit (fS 12 9)), globals := 3, closure := [], defaults := Value.none, kwdefaults := Value.none, pyModule := Value.str (Str.ofString "clausemill.symbols") 194, code := Value.ref 136 } }
noncomputable def hd.q138 : Params → Obj := fun P => { cls := Value.type "tuple", data := Data.seq #[] }
noncomputable def hd.q139 : Params → Obj := fun P => { cls := Value.none, data := Data.fields #[] }
noncomputable def hd.q140 : Params → Obj := fun P => { cls := Value.type "tuple", data := Data.seq #[Value.str (Str.ofString "self") 359] }
noncomputable def hd.q141 : Params → Obj := fun P => { cls := Value.type "tuple", data := Data.seq #[] }
noncomputable def hd.q142 : Params → Obj := fun P => { cls := Value.none, data := Data.func { name := Str.ofString "functor_count", qualname := Str.ofString "Symbols.functor_count", params := (by walk_at "MY lit" : Lit (fP 12 10)), body := FuncBody.stmts (by walk_at "MY lit" : Lit (fB 12 10)), scope := (by walk_at "MY lit" : Lit (fS 12 10)), globals := 0, closure := [], defaults := Value.none, kwdefaults := Value.none } }
noncomputable def hd.q143 : Params → Obj := fun P => { cls := Value.type "code", data := Data.fields #[Value.str (Str.ofString "functor_count") 356, Value.str (Str.ofString "Symbols.functor_count") 357, Value.str (Str.ofString "/claim/cut.py") 358, Value.int 70 0, Value.int 1 0, Value.int 0 0, Value.int 0 0, Value.int 3 0, Value.ref 138, Value.bool true, Value.int 181 0, Value.ref 139, Value.none, Value.ref 140, Value.ref 141, Value.ref 142, Value.int 360 0, Value.int 70 0, Value.str (Str.ofString "/claim/cut.py") 361] }
noncomputable def hd.q144 : Params → Obj := fun P => { cls := Value.type "function", data := Data.func { name := Str.ofString "functor_count", qualname := Str.ofString "Symbols.functor_count", params := (by walk_at "MY lit" : Lit (fP 12 10)), body := FuncBody.stmts (by walk_at "MY lit" : Lit (fB 12 10)), scope := (by walk_at "MY lit" : Lit (fS 12 10)), globals := 3, closure := [], defaults := Value.none, kwdefaults := Value.none, pyModule := Value.str (Str.ofString "clausemill.symbols") 194, code := Value.ref 143 } }
noncomputable def hd.q145 : Params → Obj := fun P => { cls := Value.type "tuple", data := Data.seq #[] }
noncomputable def hd.q146 : Params → Obj := fun P => { cls := Value.none, data := Data.fields #[] }
noncomputable def hd.q147 : Params → Obj := fun P => { cls := Value.type "tuple", data := Data.seq #[Value.str (Str.ofString "self") 366, Value.str (Str.ofString "text") 367, Value.str (Str.ofString "arity") 368] }
noncomputable def hd.q148 : Params → Obj := fun P => { cls := Value.type "tuple", data := Data.seq #[] }
noncomputable def hd.q149 : Params → Obj := fun P => { cls := Value.none, data := Data.func { name := Str.ofString "known", qualname := Str.ofString "Symbols.known", params := (by walk_at "MY lit" : Lit (fP 12 11)), body := FuncBody.stmts (by walk_at "MY lit" : Lit (fB 12 11)), scope := (by walk_at "MY lit" : Lit (fS 12 11)), globals := 0, closure := [], defaults := Value.none, kwdefaults := Value.none } }
noncomputable def hd.q150 : Params → Obj := fun P => { cls := Value.type "code", data := Data.fields #[Value.str (Str.ofString "known") 363, Value.str (Str.ofString "Symbols.known") 364, Value.str (Str.ofString "/claim/cut.py") 365, Value.int 73 0, Value.int 3 0, Value.int 0 0, Value.int 0 0, Value.int 3 0, Value.ref 145, Value.bool true, Value.int 181 0, Value.ref 146, Value.none, Value.ref 147, Value.ref 148, Value.ref 149, Value.int 369 0, Value.int 73 0, Value.str (Str.ofString "/claim/cut.py") 370] }
noncomputable def hd.q151 : Params → Obj := fun P => { cls := Value.type "function", data := Data.func { name := Str.ofString "known", qualname := Str.ofString "Symbols.known", params := (by walk_at "MY lit" : Lit (fP 12 11)), body := FuncBody.stmts (by walk_at "MY lit" : Lit (fB 12 11)), scope := (by walk_at "MY lit" : Lit (fS 12 11)), globals := 3, closure := [], defaults := Value.none, kwdefaults := Value.none, pyModule := Value.str (Str.ofString "clausemill.symbols") 194, code := Value.ref 150 } }
noncomputable def hd.q152 : Params → Obj := fun P => { cls := Value.type "tuple", data := Data.seq #[Value.str (Str.ofString "atom_numbers") 372, Value.str (Str.ofString "functor_numbers") 373, Value.str (Str.ofString "functors") 374, Value.str (Str.ofString "texts") 375] }
noncomputable def hd.q153 : Params → Obj := fun P => { cls := Value.type "dict", data := Data.dict #[{ hash := PyData.keyHash P (Str.ofString "__module__"), key := Value.str (Str.ofString "__module__") 272, val := Value.str (Str.ofString "clausemill.symbols") 194 }, { hash := PyData.keyHash P (Str.ofString "__firstlineno__"), key := Value.str (Str.ofString "__firstlineno__") 276, val := Value.int 21 275 }, { hash := PyData.keyHash P (Str.ofString "__init__"), key := Value.str (Str.ofString "__init__") 285, val := Value.ref 81 }, { hash := PyData.keyHash P (Str.ofString "atom"), key := Value.str (Str.ofString "atom") 295, val := Value.ref 88 }, { hash := PyData.keyHash P (Str.ofString "text"), key := Value.str (Str.ofString "text") 303, val := Value.ref 95 }, { hash := PyData.keyHash P (Str.ofString "functor"), key := Value.str (Str.ofString "functor") 315, val := Value.ref 102 }, { hash := PyData.keyHash P (Str.ofString "func"), key := Value.str (Str.ofString "func") 324, val := Value.ref 109 }, { hash := PyData.keyHash P (Str.ofString "name"), key := Value.str (Str.ofString "name") 332, val := Value.ref 116 }, { hash := PyData.keyHash P (Str.ofString "arity"), key := Value.str (Str.ofString "arity") 340, val := Value.ref 123 }, { hash := PyData.keyHash P (Str.ofString "label"), key := Value.str (Str.ofString "label") 348, val := Value.ref 130 }, { hash := PyData.keyHash P (Str.ofString "count"), key := Value.str (Str.ofString "count") 355, val := Value.ref 137 }, { hash := PyData.keyHash P (Str.ofString "functor_count"), key := Value.str (Str.ofString "functor_count") 362, val := Value.ref 144 }, { hash := PyData.keyHash P (Str.ofString "known"), key := Value.str (Str.ofString "known") 371, val := Value.ref 151 }, { hash := PyData.keyHash P (Str.ofString "__static_attributes__"), key := Value.str (Str.ofString "__static_attributes__") 376, val := Value.ref 152 }, { hash := PyData.keyHash P (Str.ofString "__dict__"), key := Value.str (Str.ofString "__dict__") 378, val := Value.ref 155 }, { hash := PyData.keyHash P (Str.ofString "__weakref__"), key := Value.str (Str.ofString "__weakref__") 380, val := Value.ref 156 }, { hash := PyData.keyHash P (Str.ofString "__doc__"), key := Value.str (Str.ofString "__doc__") 381, val := Value.none }] 4 }
noncomputable def hd.q154 : Params → Obj := fun P => { cls := Value.type "type", data := Data.cls { name := Str.ofString "Symbols", bases := [Value.type "object"], mro := [Value.ref 154, Value.type "object"], ns := 153, qualname := Str.ofString "Symbols" }, slots := #[none, none, some (Value.str (Str.ofString "Symbols") 265), some (Value.str (Str.ofString "Symbols") 273), some (Value.builtin "object.__new__"), some (Value.bool true)] }
noncomputable def hd.q155 : Params → Obj := fun P => { cls := Value.type "getset_descriptor", data := Data.fields #[Value.str (Str.ofString "__dict__") 377, Value.ref 154, Value.builtin "function.__dict__", Value.builtin "function.__dict__#set"] }
noncomputable def hd.q156 : Params → Obj := fun P => { cls := Value.type "getset_descriptor", data := Data.fields #[Value.str (Str.ofString "__weakref__") 379, Value.ref 154, Value.builtin "ExceptionGroup.__weakref__", Value.none] }
noncomputable def hd.q157 : Params → Obj := fun P => { cls := Value.type "super", data := Data.fields #[Value.ref 154, Value.ref 154, Value.ref 154] }
noncomputable def hd.q158 : Params → Obj := fun P => { cls := Value.type "builtin_function_or_method", data := Data.fields #[Value.builtin "object.__init_subclass__", Value.ref 154] }
noncomputable def hd.q159 : Params → Obj := fun P => { cls := Value.type "tuple", data := Data.seq #[] }
noncomputable def hd.q160 : Params → Obj := fun P => { cls := Value.none, data := Data.fields #[] }
noncomputable def hd.q161 : Params → Obj := fun P => { cls := Value.type "tuple", data := Data.seq #[Value.str (Str.ofString "term") 389, Value.str (Str.ofString "items") 390] }
noncomputable def hd.q162 : Params → Obj := fun P => { cls := Value.type "tuple", data := Data.seq #[] }
noncomputable def hd.q163 : Params → Obj := fun P => { cls := Value.none, data := Data.func { name := Str.ofString "list_items", qualname := Str.ofString "list_items", params := (by walk_at "MY lit" : Lit (fP 14 0)), body := FuncBody.stmts (by walk_at "MY lit" : Lit (fB 14 0)), scope := (by walk_at "MY lit" : Lit (fS 14 0)), globals := 0, closure := [], defaults := Value.none, kwdefaults := Value.none } }
noncomputable def hd.q164 : Params → Obj := fun P => { cls := Value.type "code", data := Data.fields #[Value.str (Str.ofString "list_items") 386, Value.str (Str.ofString "list_items") 387, Value.str (Str.ofString "/claim/cut.py") 388, Value.int 76 0, Value.int 1 0, Value.int 0 0, Value.int 0 0, Value.int 3 0, Value.ref 159, Value.bool true, Value.int 181 0, Value.ref 160, Value.none, Value.ref 161, Value.ref 162, Value.ref 163, Value.int 391 0, Value.int 76 0, Value.str (Str.ofString "/claim/cut.py") 392] }
noncomputable def hd.q165 : Params → Obj := fun P => { cls := Value.type "function", data := Data.func { name := Str.ofString "list_items", qualname := Str.ofString "list_items", params := (by walk_at "MY lit" : Lit (fP 14 0)), body := FuncBody.stmts (by walk_at "MY lit" : Lit (fB 14 0)), scope := (by walk_at "MY lit" : Lit (fS 14 0)), globals := 3, closure := [], defaults := Value.none, kwdefaults := Value.none, pyModule := Value.str (Str.ofString "clausemill.terms") 384, code := Value.ref 164 } }
noncomputable def hd.q166 : Params → Obj := fun P => { cls := Value.type "tuple", data := Data.seq #[] }
noncomputable def hd.q167 : Params → Obj := fun P => { cls := Value.none, data := Data.fields #[] }
noncomputable def hd.q168 : Params → Obj := fun P => { cls := Value.type "tuple", data := Data.seq #[Value.str (Str.ofString "formal") 397] }
noncomputable def hd.q169 : Params → Obj := fun P => { cls := Value.type "tuple", data := Data.seq #[] }
noncomputable def hd.q170 : Params → Obj := fun P => { cls := Value.none, data := Data.func { name := Str.ofString "system_error", qualname := Str.ofString "system_error", params := (by walk_at "MY lit" : Lit (fP 15 0)), body := FuncBody.stmts (by walk_at "MY lit" : Lit (fB 15 0)), scope := (by walk_at "MY lit" : Lit (fS 15 0)), globals := 0, closure := [], defaults := Value.none, kwdefaults := Value.none } }
noncomputable def hd.q171 : Params → Obj := fun P => { cls := Value.type "code", data := Data.fields #[Value.str (Str.ofString "system_error") 394, Value.str (Str.ofString "system_error") 395, Value.str (Str.ofString "/claim/cut.py") 396, Value.int 82 0, Value.int 1 0, Value.int 0 0, Value.int 0 0, Value.int 3 0, Value.ref 166, Value.bool true, Value.int 181 0, Value.ref 167, Value.none, Value.ref 168, Value.ref 169, Value.ref 170, Value.int 398 0, Value.int 82 0, Value.str (Str.ofString "/claim/cut.py") 399] }
noncomputable def hd.q172 : Params → Obj := fun P => { cls := Value.type "function", data := Data.func { name := Str.ofString "system_error", qualname := Str.ofString "system_error", params := (by walk_at "MY lit" : Lit (fP 15 0)), body := FuncBody.stmts (by walk_at "MY lit" : Lit (fB 15 0)), scope := (by walk_at "MY lit" : Lit (fS 15 0)), globals := 3, closure := [], defaults := Value.none, kwdefaults := Value.none, pyModule := Value.str (Str.ofString "clausemill.terms") 384, code := Value.ref 171 } }
noncomputable def hd.q173 : Params → Obj := fun P => { cls := Value.type "tuple", data := Data.seq #[] }
noncomputable def hd.q174 : Params → Obj := fun P => { cls := Value.none, data := Data.fields #[] }
noncomputable def hd.q175 : Params → Obj := fun P => { cls := Value.type "tuple", data := Data.seq #[Value.str (Str.ofString "symbols") 404, Value.str (Str.ofString "name") 405, Value.str (Str.ofString "parts") 406, Value.str (Str.ofString "args") 407, Value.str (Str.ofString "part") 408] }
noncomputable def hd.q176 : Params → Obj := fun P => { cls := Value.type "tuple", data := Data.seq #[] }
noncomputable def hd.q177 : Params → Obj := fun P => { cls := Value.none, data := Data.func { name := Str.ofString "formal_of", qualname := Str.ofString "formal_of", params := (by walk_at "MY lit" : Lit (fP 16 0)), body := FuncBody.stmts (by walk_at "MY lit" : Lit (fB 16 0)), scope := (by walk_at "MY lit" : Lit (fS 16 0)), globals := 0, closure := [], defaults := Value.none, kwdefaults := Value.none } }
noncomputable def hd.q178 : Params → Obj := fun P => { cls := Value.type "code", data := Data.fields #[Value.str (Str.ofString "formal_of") 401, Value.str (Str.ofString "formal_of") 402, Value.str (Str.ofString "/claim/cut.py") 403, Value.int 84 0, Value.int 3 0, Value.int 0 0, Value.int 0 0, Value.int 3 0, Value.ref 173, Value.bool true, Value.int 181 0, Value.ref 174, Value.none, Value.ref 175, Value.ref 176, Value.ref 177, Value.int 409 0, Value.int 84 0, Value.str (Str.ofString "/claim/cut.py") 410] }
noncomputable def hd.q179 : Params → Obj := fun P => { cls := Value.type "function", data := Data.func { name := Str.ofString "formal_of", qualname := Str.ofString "formal_of", params := (by walk_at "MY lit" : Lit (fP 16 0)), body := FuncBody.stmts (by walk_at "MY lit" : Lit (fB 16 0)), scope := (by walk_at "MY lit" : Lit (fS 16 0)), globals := 3, closure := [], defaults := Value.none, kwdefaults := Value.none, pyModule := Value.str (Str.ofString "clausemill.terms") 384, code := Value.ref 178 } }
noncomputable def hd.q180 : Params → Obj := fun P => { cls := Value.type "tuple", data := Data.seq #[] }
noncomputable def hd.q181 : Params → Obj := fun P => { cls := Value.none, data := Data.fields #[] }
noncomputable def hd.q182 : Params → Obj := fun P => { cls := Value.type "tuple", data := Data.seq #[Value.str (Str.ofString "symbols") 415] }
noncomputable def hd.q183 : Params → Obj := fun P => { cls := Value.type "tuple", data := Data.seq #[] }
noncomputable def hd.q184 : Params → Obj := fun P => { cls := Value.none, data := Data.func { name := Str.ofString "instantiation_error", qualname := Str.ofString "instantiation_error", params := (by walk_at "MY lit" : Lit (fP 17 0)), body := FuncBody.stmts (by walk_at "MY lit" : Lit (fB 17 0)), scope := (by walk_at "MY lit" : Lit (fS 17 0)), globals := 0, closure := [], defaults := Value.none, kwdefaults := Value.none } }
noncomputable def hd.q185 : Params → Obj := fun P => { cls := Value.type "code", data := Data.fields #[Value.str (Str.ofString "instantiation_error") 412, Value.str (Str.ofString "instantiation_error") 413, Value.str (Str.ofString "/claim/cut.py") 414, Value.int 89 0, Value.int 1 0, Value.int 0 0, Value.int 0 0, Value.int 3 0, Value.ref 180, Value.bool true, Value.int 181 0, Value.ref 181, Value.none, Value.ref 182, Value.ref 183, Value.ref 184, Value.int 416 0, Value.int 89 0, Value.str (Str.ofString "/claim/cut.py") 417] }
noncomputable def hd.q186 : Params → Obj := fun P => { cls := Value.type "function", data := Data.func { name := Str.ofString "instantiation_error", qualname := Str.ofString "instantiation_error", params := (by walk_at "MY lit" : Lit (fP 17 0)), body := FuncBody.stmts (by walk_at "MY lit" : Lit (fB 17 0)), scope := (by walk_at "MY lit" : Lit (fS 17 0)), globals := 3, closure := [], defaults := Value.none, kwdefaults := Value.none, pyModule := Value.str (Str.ofString "clausemill.terms") 384, code := Value.ref 185 } }
noncomputable def hd.q187 : Params → Obj := fun P => { cls := Value.type "tuple", data := Data.seq #[] }
noncomputable def hd.q188 : Params → Obj := fun P => { cls := Value.none, data := Data.fields #[] }
noncomputable def hd.q189 : Params → Obj := fun P => { cls := Value.type "tuple", data := Data.seq #[Value.str (Str.ofString "symbols") 422, Value.str (Str.ofString "kind") 423, Value.str (Str.ofString "culprit") 424] }
noncomputable def hd.q190 : Params → Obj := fun P => { cls := Value.type "tuple", data := Data.seq #[] }
noncomputable def hd.q191 : Params → Obj := fun P => { cls := Value.none, data := Data.func { name := Str.ofString "type_error", qualname := Str.ofString "type_error", params := (by walk_at "MY lit" : Lit (fP 18 0)), body := FuncBody.stmts (by walk_at "MY lit" : Lit (fB 18 0)), scope := (by walk_at "MY lit" : Lit (fS 18 0)), globals := 0, closure := [], defaults := Value.none, kwdefaults := Value.none } }
noncomputable def hd.q192 : Params → Obj := fun P => { cls := Value.type "code", data := Data.fields #[Value.str (Str.ofString "type_error") 419, Value.str (Str.ofString "type_error") 420, Value.str (Str.ofString "/claim/cut.py") 421, Value.int 91 0, Value.int 3 0, Value.int 0 0, Value.int 0 0, Value.int 3 0, Value.ref 187, Value.bool true, Value.int 181 0, Value.ref 188, Value.none, Value.ref 189, Value.ref 190, Value.ref 191, Value.int 425 0, Value.int 91 0, Value.str (Str.ofString "/claim/cut.py") 426] }
noncomputable def hd.q193 : Params → Obj := fun P => { cls := Value.type "function", data := Data.func { name := Str.ofString "type_error", qualname := Str.ofString "type_error", params := (by walk_at "MY lit" : Lit (fP 18 0)), body := FuncBody.stmts (by walk_at "MY lit" : Lit (fB 18 0)), scope := (by walk_at "MY lit" : Lit (fS 18 0)), globals := 3, closure := [], defaults := Value.none, kwdefaults := Value.none, pyModule := Value.str (Str.ofString "clausemill.terms") 384, code := Value.ref 192 } }
noncomputable def hd.q194 : Params → Obj := fun P => { cls := Value.type "tuple", data := Data.seq #[] }
noncomputable def hd.q195 : Params → Obj := fun P => { cls := Value.none, data := Data.fields #[] }
noncomputable def hd.q196 : Params → Obj := fun P => { cls := Value.type "tuple", data := Data.seq #[Value.str (Str.ofString "symbols") 431, Value.str (Str.ofString "kind") 432, Value.str (Str.ofString "culprit") 433] }
noncomputable def hd.q197 : Params → Obj := fun P => { cls := Value.type "tuple", data := Data.seq #[] }
noncomputable def hd.q198 : Params → Obj := fun P => { cls := Value.none, data := Data.func { name := Str.ofString "domain_error", qualname := Str.ofString "domain_error", params := (by walk_at "MY lit" : Lit (fP 19 0)), body := FuncBody.stmts (by walk_at "MY lit" : Lit (fB 19 0)), scope := (by walk_at "MY lit" : Lit (fS 19 0)), globals := 0, closure := [], defaults := Value.none, kwdefaults := Value.none } }
noncomputable def hd.q199 : Params → Obj := fun P => { cls := Value.type "code", data := Data.fields #[Value.str (Str.ofString "domain_error") 428, Value.str (Str.ofString "domain_error") 429, Value.str (Str.ofString "/claim/cut.py") 430, Value.int 93 0, Value.int 3 0, Value.int 0 0, Value.int 0 0, Value.int 3 0, Value.ref 194, Value.bool true, Value.int 181 0, Value.ref 195, Value.none, Value.ref 196, Value.ref 197, Value.ref 198, Value.int 434 0, Value.int 93 0, Value.str (Str.ofString "/claim/cut.py") 435] }
noncomputable def hd.q200 : Params → Obj := fun P => { cls := Value.type "function", data := Data.func { name := Str.ofString "domain_error", qualname := Str.ofString "domain_error", params := (by walk_at "MY lit" : Lit (fP 19 0)), body := FuncBody.stmts (by walk_at "MY lit" : Lit (fB 19 0)), scope := (by walk_at "MY lit" : Lit (fS 19 0)), globals := 3, closure := [], defaults := Value.none, kwdefaults := Value.none, pyModule := Value.str (Str.ofString "clausemill.terms") 384, code := Value.ref 199 } }
noncomputable def hd.q201 : Params → Obj := fun P => { cls := Value.type "tuple", data := Data.seq #[] }
noncomputable def hd.q202 : Params → Obj := fun P => { cls := Value.none, data := Data.fields #[] }
noncomputable def hd.q203 : Params → Obj := fun P => { cls := Value.type "tuple", data := Data.seq #[Value.str (Str.ofString "symbols") 442, Value.str (Str.ofString "term") 443, Value.str (Str.ofString "name") 444, Value.str (Str.ofString "arity") 445] }
noncomputable def hd.q204 : Params → Obj := fun P => { cls := Value.type "tuple", data := Data.seq #[] }
noncomputable def hd.q205 : Params → Obj := fun P => { cls := Value.none, data := Data.func { name := Str.ofString "read_indicator", qualname := Str.ofString "read_indicator", params := (by walk_at "MY lit" : Lit (fP 21 0)), body := FuncBody.stmts (by walk_at "MY lit" : Lit (fB 21 0)), scope := (by walk_at "MY lit" : Lit (fS 21 0)), globals := 0, closure := [], defaults := Value.none, kwdefaults := Value.none } }
noncomputable def hd.q206 : Params → Obj := fun P => { cls := Value.type "code", data := Data.fields #[Value.str (Str.ofString "read_indicator") 439, Value.str (Str.ofString "read_indicator") 440, Value.str (Str.ofString "/claim/cut.py") 441, Value.int 96 0, Value.int 2 0, Value.int 0 0, Value.int 0 0, Value.int 3 0, Value.ref 201, Value.bool true, Value.int 181 0, Value.ref 202, Value.none, Value.ref 203, Value.ref 204, Value.ref 205, Value.int 446 0, Value.int 96 0, Value.str (Str.ofString "/claim/cut.py") 447] }
noncomputable def hd.q207 : Params → Obj := fun P => { cls := Value.type "function", data := Data.func { name := Str.ofString "read_indicator", qualname := Str.ofString "read_indicator", params := (by walk_at "MY lit" : Lit (fP 21 0)), body := FuncBody.stmts (by walk_at "MY lit" : Lit (fB 21 0)), scope := (by walk_at "MY lit" : Lit (fS 21 0)), globals := 3, closure := [], defaults := Value.none, kwdefaults := Value.none, pyModule := Value.str (Str.ofString "clausemill.preds_data") 437, code := Value.ref 206 } }
noncomputable def hd.q208 : Params → Obj := fun P => { cls := Value.type "tuple", data := Data.seq #[] }
noncomputable def hd.q209 : Params → Obj := fun P => { cls := Value.none, data := Data.fields #[] }
noncomputable def hd.q210 : Params → Obj := fun P => { cls := Value.none, data := Data.func { name := Str.ofString "read_list", qualname := Str.ofString "read_list", params := (by walk_at "MY lit" : Lit (fP 22 0)), body := FuncBody.stmts (by walk_at "MY lit" : Lit (fB 22 0)), scope := (by walk_at "MY lit" : Lit (fS 22 0)), globals := 0, closure := [], defaults := Value.none, kwdefaults := Value.none } }
noncomputable def hd.q211 : Params → Obj := fun P => { cls := Value.type "code", data := Data.fields #[Value.str (Str.ofString "read_list") 449, Value.str (Str.ofString "read_list") 450, Value.str (Str.ofString "/claim/cut.py") 451, Value.int 111 0, Value.int 2 0, Value.int 0 0, Value.int 0 0, Value.int 3 0, Value.ref 208, Value.bool true, Value.int 181 0, Value.ref 209, Value.none, Value.none, Value.none, Value.ref 210, Value.int 452 0, Value.int 111 0, Value.str (Str.ofString "/claim/cut.py") 453] }
noncomputable def hd.q212 : Params → Obj := fun P => { cls := Value.type "function", data := Data.func { name := Str.ofString "read_list", qualname := Str.ofString "read_list", params := (by walk_at "MY lit" : Lit (fP 22 0)), body := FuncBody.stmts (by walk_at "MY lit" : Lit (fB 22 0)), scope := (by walk_at "MY lit" : Lit (fS 22 0)), globals := 3, closure := [], defaults := Value.none, kwdefaults := Value.none, pyModule := Value.str (Str.ofString "clausemill.preds_data") 437, code := Value.ref 211 } }
noncomputable def hd.q213 : Params → Obj := fun P => { cls := Value.type "tuple", data := Data.seq #[] }
noncomputable def hd.q214 : Params → Obj := fun P => { cls := Value.none, data := Data.fields #[] }
noncomputable def hd.q215 : Params → Obj := fun P => { cls := Value.type "tuple", data := Data.seq #[Value.str (Str.ofString "symbols") 458, Value.str (Str.ofString "term") 459, Value.str (Str.ofString "found") 460, Value.str (Str.ofString "work") 461, Value.str (Str.ofString "part") 462] }
noncomputable def hd.q216 : Params → Obj := fun P => { cls := Value.type "tuple", data := Data.seq #[] }
noncomputable def hd.q217 : Params → Obj := fun P => { cls := Value.none, data := Data.func { name := Str.ofString "read_indicators", qualname := Str.ofString "read_indicators", params := (by walk_at "MY lit" : Lit (fP 23 0)), body := FuncBody.stmts (by walk_at "MY lit" : Lit (fB 23 0)), scope := (by walk_at "MY lit" : Lit (fS 23 0)), globals := 0, closure := [], defaults := Value.none, kwdefaults := Value.none } }
noncomputable def hd.q218 : Params → Obj := fun P => { cls := Value.type "code", data := Data.fields #[Value.str (Str.ofString "read_indicators") 455, Value.str (Str.ofString "read_indicators") 456, Value.str (Str.ofString "/claim/cut.py") 457, Value.int 118 0, Value.int 2 0, Value.int 0 0, Value.int 0 0, Value.int 3 0, Value.ref 213, Value.bool true, Value.int 181 0, Value.ref 214, Value.none, Value.ref 215, Value.ref 216, Value.ref 217, Value.int 463 0, Value.int 118 0, Value.str (Str.ofString "/claim/cut.py") 464] }
noncomputable def hd.q219 : Params → Obj := fun P => { cls := Value.type "function", data := Data.func { name := Str.ofString "read_indicators", qualname := Str.ofString "read_indicators", params := (by walk_at "MY lit" : Lit (fP 23 0)), body := FuncBody.stmts (by walk_at "MY lit" : Lit (fB 23 0)), scope := (by walk_at "MY lit" : Lit (fS 23 0)), globals := 3, closure := [], defaults := Value.none, kwdefaults := Value.none, pyModule := Value.str (Str.ofString "clausemill.preds_data") 437, code := Value.ref 218 } }
noncomputable def hd.q220 : Params → Obj := fun P => { cls := Value.type "tuple", data := Data.seq #[] }
noncomputable def hd.q221 : Params → Obj := fun P => { cls := Value.none, data := Data.fields #[] }
noncomputable def hd.q222 : Params → Obj := fun P => { cls := Value.type "tuple", data := Data.seq #[Value.str (Str.ofString "hand") 471, Value.str (Str.ofString "limit") 472, Value.str (Str.ofString "number") 473, Value.str (Str.ofString "digit") 474] }
noncomputable def hd.q223 : Params → Obj := fun P => { cls := Value.type "tuple", data := Data.seq #[] }
noncomputable def hd.q224 : Params → Obj := fun P => { cls := Value.none, data := Data.func { name := Str.ofString "_law_pick", qualname := Str.ofString "_law_pick", params := (by walk_at "MY lit" : Lit (fP 25 0)), body := FuncBody.stmts (by walk_at "MY lit" : Lit (fB 25 0)), scope := (by walk_at "MY lit" : Lit (fS 25 0)), globals := 0, closure := [], defaults := Value.none, kwdefaults := Value.none } }
noncomputable def hd.q225 : Params → Obj := fun P => { cls := Value.type "code", data := Data.fields #[Value.str (Str.ofString "_law_pick") 468, Value.str (Str.ofString "_law_pick") 469, Value.str (Str.ofString "/claim/cut.py") 470, Value.int 132 0, Value.int 2 0, Value.int 0 0, Value.int 0 0, Value.int 3 0, Value.ref 220, Value.bool true, Value.int 181 0, Value.ref 221, Value.none, Value.ref 222, Value.ref 223, Value.ref 224, Value.int 475 0, Value.int 132 0, Value.str (Str.ofString "/claim/cut.py") 476] }
noncomputable def hd.q226 : Params → Obj := fun P => { cls := Value.type "function", data := Data.func { name := Str.ofString "_law_pick", qualname := Str.ofString "_law_pick", params := (by walk_at "MY lit" : Lit (fP 25 0)), body := FuncBody.stmts (by walk_at "MY lit" : Lit (fB 25 0)), scope := (by walk_at "MY lit" : Lit (fS 25 0)), globals := 3, closure := [], defaults := Value.none, kwdefaults := Value.none, pyModule := Value.str (Str.ofString "law_no0155_01") 466, code := Value.ref 225 } }
noncomputable def hd.q227 : Params → Obj := fun P => { cls := Value.type "tuple", data := Data.seq #[] }
noncomputable def hd.q228 : Params → Obj := fun P => { cls := Value.none, data := Data.fields #[] }
noncomputable def hd.q229 : Params → Obj := fun P => { cls := Value.type "tuple", data := Data.seq #[Value.str (Str.ofString "hand") 481, Value.str (Str.ofString "names") 482, Value.str (Str.ofString "number") 483, Value.str (Str.ofString "kind") 484] }
noncomputable def hd.q230 : Params → Obj := fun P => { cls := Value.type "tuple", data := Data.seq #[] }
noncomputable def hd.q231 : Params → Obj := fun P => { cls := Value.none, data := Data.func { name := Str.ofString "_law_part", qualname := Str.ofString "_law_part", params := (by walk_at "MY lit" : Lit (fP 26 0)), body := FuncBody.stmts (by walk_at "MY lit" : Lit (fB 26 0)), scope := (by walk_at "MY lit" : Lit (fS 26 0)), globals := 0, closure := [], defaults := Value.none, kwdefaults := Value.none } }
noncomputable def hd.q232 : Params → Obj := fun P => { cls := Value.type "code", data := Data.fields #[Value.str (Str.ofString "_law_part") 478, Value.str (Str.ofString "_law_part") 479, Value.str (Str.ofString "/claim/cut.py") 480, Value.int 143 0, Value.int 3 0, Value.int 0 0, Value.int 0 0, Value.int 3 0, Value.ref 227, Value.bool true, Value.int 181 0, Value.ref 228, Value.none, Value.ref 229, Value.ref 230, Value.ref 231, Value.int 485 0, Value.int 143 0, Value.str (Str.ofString "/claim/cut.py") 486] }
noncomputable def hd.q233 : Params → Obj := fun P => { cls := Value.type "function", data := Data.func { name := Str.ofString "_law_part", qualname := Str.ofString "_law_part", params := (by walk_at "MY lit" : Lit (fP 26 0)), body := FuncBody.stmts (by walk_at "MY lit" : Lit (fB 26 0)), scope := (by walk_at "MY lit" : Lit (fS 26 0)), globals := 3, closure := [], defaults := Value.none, kwdefaults := Value.none, pyModule := Value.str (Str.ofString "law_no0155_01") 466, code := Value.ref 232 } }
noncomputable def hd.q234 : Params → Obj := fun P => { cls := Value.type "tuple", data := Data.seq #[] }
noncomputable def hd.q235 : Params → Obj := fun P => { cls := Value.none, data := Data.fields #[] }
noncomputable def hd.q236 : Params → Obj := fun P => { cls := Value.type "tuple", data := Data.seq #[Value.str (Str.ofString "hand") 491, Value.str (Str.ofString "names") 492, Value.str (Str.ofString "number") 493, Value.str (Str.ofString "kind") 494, Value.str (Str.ofString "first") 495, Value.str (Str.ofString "second") 496] }
noncomputable def hd.q237 : Params → Obj := fun P => { cls := Value.type "tuple", data := Data.seq #[] }
noncomputable def hd.q238 : Params → Obj := fun P => { cls := Value.none, data := Data.func { name := Str.ofString "_law_one", qualname := Str.ofString "_law_one", params := (by walk_at "MY lit" : Lit (fP 27 0)), body := FuncBody.stmts (by walk_at "MY lit" : Lit (fB 27 0)), scope := (by walk_at "MY lit" : Lit (fS 27 0)), globals := 0, closure := [], defaults := Value.none, kwdefaults := Value.none } }
noncomputable def hd.q239 : Params → Obj := fun P => { cls := Value.type "code", data := Data.fields #[Value.str (Str.ofString "_law_one") 488, Value.str (Str.ofString "_law_one") 489, Value.str (Str.ofString "/claim/cut.py") 490, Value.int 150 0, Value.int 3 0, Value.int 0 0, Value.int 0 0, Value.int 3 0, Value.ref 234, Value.bool true, Value.int 181 0, Value.ref 235, Value.none, Value.ref 236, Value.ref 237, Value.ref 238, Value.int 497 0, Value.int 150 0, Value.str (Str.ofString "/claim/cut.py") 498] }
noncomputable def hd.q240 : Params → Obj := fun P => { cls := Value.type "function", data := Data.func { name := Str.ofString "_law_one", qualname := Str.ofString "_law_one", params := (by walk_at "MY lit" : Lit (fP 27 0)), body := FuncBody.stmts (by walk_at "MY lit" : Lit (fB 27 0)), scope := (by walk_at "MY lit" : Lit (fS 27 0)), globals := 3, closure := [], defaults := Value.none, kwdefaults := Value.none, pyModule := Value.str (Str.ofString "law_no0155_01") 466, code := Value.ref 239 } }
noncomputable def hd.q241 : Params → Obj := fun P => { cls := Value.type "tuple", data := Data.seq #[] }
noncomputable def hd.q242 : Params → Obj := fun P => { cls := Value.none, data := Data.fields #[] }
noncomputable def hd.q243 : Params → Obj := fun P => { cls := Value.type "tuple", data := Data.seq #[Value.str (Str.ofString "hand") 503, Value.str (Str.ofString "names") 504, Value.str (Str.ofString "depth") 505, Value.str (Str.ofString "number") 506, Value.str (Str.ofString "kind") 507, Value.str (Str.ofString "end") 508, Value.str (Str.ofString "step") 509] }
noncomputable def hd.q244 : Params → Obj := fun P => { cls := Value.type "tuple", data := Data.seq #[] }
noncomputable def hd.q245 : Params → Obj := fun P => { cls := Value.none, data := Data.func { name := Str.ofString "_law_whole", qualname := Str.ofString "_law_whole", params := (by walk_at "MY lit" : Lit (fP 28 0)), body := FuncBody.stmts (by walk_at "MY lit" : Lit (fB 28 0)), scope := (by walk_at "MY lit" : Lit (fS 28 0)), globals := 0, closure := [], defaults := Value.none, kwdefaults := Value.none } }
noncomputable def hd.q246 : Params → Obj := fun P => { cls := Value.type "code", data := Data.fields #[Value.str (Str.ofString "_law_whole") 500, Value.str (Str.ofString "_law_whole") 501, Value.str (Str.ofString "/claim/cut.py") 502, Value.int 157 0, Value.int 4 0, Value.int 0 0, Value.int 0 0, Value.int 3 0, Value.ref 241, Value.bool true, Value.int 181 0, Value.ref 242, Value.none, Value.ref 243, Value.ref 244, Value.ref 245, Value.int 510 0, Value.int 157 0, Value.str (Str.ofString "/claim/cut.py") 511] }
noncomputable def hd.q247 : Params → Obj := fun P => { cls := Value.type "function", data := Data.func { name := Str.ofString "_law_whole", qualname := Str.ofString "_law_whole", params := (by walk_at "MY lit" : Lit (fP 28 0)), body := FuncBody.stmts (by walk_at "MY lit" : Lit (fB 28 0)), scope := (by walk_at "MY lit" : Lit (fS 28 0)), globals := 3, closure := [], defaults := Value.none, kwdefaults := Value.none, pyModule := Value.str (Str.ofString "law_no0155_01") 466, code := Value.ref 246 } }
noncomputable def hd.q248 : Params → Obj := fun P => { cls := Value.type "tuple", data := Data.seq #[] }
noncomputable def hd.q249 : Params → Obj := fun P => { cls := Value.none, data := Data.fields #[] }
noncomputable def hd.q250 : Params → Obj := fun P => { cls := Value.type "tuple", data := Data.seq #[Value.str (Str.ofString "names") 516, Value.str (Str.ofString "kind") 517, Value.str (Str.ofString "parts") 518, Value.str (Str.ofString "formal") 519] }
noncomputable def hd.q251 : Params → Obj := fun P => { cls := Value.type "tuple", data := Data.seq #[] }
noncomputable def hd.q252 : Params → Obj := fun P => { cls := Value.none, data := Data.func { name := Str.ofString "_law_error", qualname := Str.ofString "_law_error", params := (by walk_at "MY lit" : Lit (fP 29 0)), body := FuncBody.stmts (by walk_at "MY lit" : Lit (fB 29 0)), scope := (by walk_at "MY lit" : Lit (fS 29 0)), globals := 0, closure := [], defaults := Value.none, kwdefaults := Value.none } }
noncomputable def hd.q253 : Params → Obj := fun P => { cls := Value.type "code", data := Data.fields #[Value.str (Str.ofString "_law_error") 513, Value.str (Str.ofString "_law_error") 514, Value.str (Str.ofString "/claim/cut.py") 515, Value.int 169 0, Value.int 3 0, Value.int 0 0, Value.int 0 0, Value.int 3 0, Value.ref 248, Value.bool true, Value.int 181 0, Value.ref 249, Value.none, Value.ref 250, Value.ref 251, Value.ref 252, Value.int 520 0, Value.int 169 0, Value.str (Str.ofString "/claim/cut.py") 521] }
noncomputable def hd.q254 : Params → Obj := fun P => { cls := Value.type "function", data := Data.func { name := Str.ofString "_law_error", qualname := Str.ofString "_law_error", params := (by walk_at "MY lit" : Lit (fP 29 0)), body := FuncBody.stmts (by walk_at "MY lit" : Lit (fB 29 0)), scope := (by walk_at "MY lit" : Lit (fS 29 0)), globals := 3, closure := [], defaults := Value.none, kwdefaults := Value.none, pyModule := Value.str (Str.ofString "law_no0155_01") 466, code := Value.ref 253 } }
noncomputable def hd.q255 : Params → Obj := fun P => { cls := Value.type "tuple", data := Data.seq #[] }
noncomputable def hd.q256 : Params → Obj := fun P => { cls := Value.none, data := Data.fields #[] }
noncomputable def hd.q257 : Params → Obj := fun P => { cls := Value.type "tuple", data := Data.seq #[Value.str (Str.ofString "names") 526, Value.str (Str.ofString "tree") 527, Value.str (Str.ofString "first") 528, Value.str (Str.ofString "second") 529] }
noncomputable def hd.q258 : Params → Obj := fun P => { cls := Value.type "tuple", data := Data.seq #[] }
noncomputable def hd.q259 : Params → Obj := fun P => { cls := Value.none, data := Data.func { name := Str.ofString "_law_single", qualname := Str.ofString "_law_single", params := (by walk_at "MY lit" : Lit (fP 30 0)), body := FuncBody.stmts (by walk_at "MY lit" : Lit (fB 30 0)), scope := (by walk_at "MY lit" : Lit (fS 30 0)), globals := 0, closure := [], defaults := Value.none, kwdefaults := Value.none } }
noncomputable def hd.q260 : Params → Obj := fun P => { cls := Value.type "code", data := Data.fields #[Value.str (Str.ofString "_law_single") 523, Value.str (Str.ofString "_law_single") 524, Value.str (Str.ofString "/claim/cut.py") 525, Value.int 174 0, Value.int 2 0, Value.int 0 0, Value.int 0 0, Value.int 3 0, Value.ref 255, Value.bool true, Value.int 181 0, Value.ref 256, Value.none, Value.ref 257, Value.ref 258, Value.ref 259, Value.int 530 0, Value.int 174 0, Value.str (Str.ofString "/claim/cut.py") 531] }
noncomputable def hd.q261 : Params → Obj := fun P => { cls := Value.type "function", data := Data.func { name := Str.ofString "_law_single", qualname := Str.ofString "_law_single", params := (by walk_at "MY lit" : Lit (fP 30 0)), body := FuncBody.stmts (by walk_at "MY lit" : Lit (fB 30 0)), scope := (by walk_at "MY lit" : Lit (fS 30 0)), globals := 3, closure := [], defaults := Value.none, kwdefaults := Value.none, pyModule := Value.str (Str.ofString "law_no0155_01") 466, code := Value.ref 260 } }
noncomputable def hd.q262 : Params → Obj := fun P => { cls := Value.type "tuple", data := Data.seq #[] }
noncomputable def hd.q263 : Params → Obj := fun P => { cls := Value.none, data := Data.fields #[] }
noncomputable def hd.q264 : Params → Obj := fun P => { cls := Value.type "tuple", data := Data.seq #[Value.str (Str.ofString "names") 536, Value.str (Str.ofString "tree") 537, Value.str (Str.ofString "left") 538, Value.str (Str.ofString "right") 539, Value.str (Str.ofString "end") 540, Value.str (Str.ofString "parts") 541, Value.str (Str.ofString "found") 542, Value.str (Str.ofString "part") 543, Value.str (Str.ofString "one") 544] }
noncomputable def hd.q265 : Params → Obj := fun P => { cls := Value.type "tuple", data := Data.seq #[] }
noncomputable def hd.q266 : Params → Obj := fun P => { cls := Value.none, data := Data.func { name := Str.ofString "_law_read", qualname := Str.ofString "_law_read", params := (by walk_at "MY lit" : Lit (fP 31 0)), body := FuncBody.stmts (by walk_at "MY lit" : Lit (fB 31 0)), scope := (by walk_at "MY lit" : Lit (fS 31 0)), globals := 0, closure := [], defaults := Value.none, kwdefaults := Value.none } }
noncomputable def hd.q267 : Params → Obj := fun P => { cls := Value.type "code", data := Data.fields #[Value.str (Str.ofString "_law_read") 533, Value.str (Str.ofString "_law_read") 534, Value.str (Str.ofString "/claim/cut.py") 535, Value.int 189 0, Value.int 2 0, Value.int 0 0, Value.int 0 0, Value.int 3 0, Value.ref 262, Value.bool true, Value.int 181 0, Value.ref 263, Value.none, Value.ref 264, Value.ref 265, Value.ref 266, Value.int 545 0, Value.int 189 0, Value.str (Str.ofString "/claim/cut.py") 546] }
noncomputable def hd.q268 : Params → Obj := fun P => { cls := Value.type "function", data := Data.func { name := Str.ofString "_law_read", qualname := Str.ofString "_law_read", params := (by walk_at "MY lit" : Lit (fP 31 0)), body := FuncBody.stmts (by walk_at "MY lit" : Lit (fB 31 0)), scope := (by walk_at "MY lit" : Lit (fS 31 0)), globals := 3, closure := [], defaults := Value.none, kwdefaults := Value.none, pyModule := Value.str (Str.ofString "law_no0155_01") 466, code := Value.ref 267 } }
noncomputable def hd.q269 : Params → Obj := fun P => { cls := Value.type "tuple", data := Data.seq #[] }
noncomputable def hd.q270 : Params → Obj := fun P => { cls := Value.none, data := Data.fields #[] }
noncomputable def hd.q271 : Params → Obj := fun P => { cls := Value.type "tuple", data := Data.seq #[Value.str (Str.ofString "script") 551, Value.str (Str.ofString "cells") 552, Value.str (Str.ofString "hand") 553, Value.str (Str.ofString "names") 554, Value.str (Str.ofString "tree") 555, Value.str (Str.ofString "due") 556, Value.str (Str.ofString "told") 557, Value.str (Str.ofString "error") 558] }
noncomputable def hd.q272 : Params → Obj := fun P => { cls := Value.type "tuple", data := Data.seq #[] }
noncomputable def hd.q273 : Params → Obj := fun P => { cls := Value.none, data := Data.func { name := Str.ofString "law", qualname := Str.ofString "law", params := (by walk_at "MY lit" : Lit (fP 32 0)), body := FuncBody.stmts (by walk_at "MY lit" : Lit (fB 32 0)), scope := (by walk_at "MY lit" : Lit (fS 32 0)), globals := 0, closure := [], defaults := Value.none, kwdefaults := Value.none } }
noncomputable def hd.q274 : Params → Obj := fun P => { cls := Value.type "code", data := Data.fields #[Value.str (Str.ofString "law") 548, Value.str (Str.ofString "law") 549, Value.str (Str.ofString "/claim/cut.py") 550, Value.int 214 0, Value.int 1 0, Value.int 0 0, Value.int 0 0, Value.int 3 0, Value.ref 269, Value.bool true, Value.int 181 0, Value.ref 270, Value.none, Value.ref 271, Value.ref 272, Value.ref 273, Value.int 559 0, Value.int 214 0, Value.str (Str.ofString "/claim/cut.py") 560] }
noncomputable def hd.q275 : Params → Obj := fun P => { cls := Value.type "function", data := Data.func { name := Str.ofString "law", qualname := Str.ofString "law", params := (by walk_at "MY lit" : Lit (fP 32 0)), body := FuncBody.stmts (by walk_at "MY lit" : Lit (fB 32 0)), scope := (by walk_at "MY lit" : Lit (fS 32 0)), globals := 3, closure := [], defaults := Value.none, kwdefaults := Value.none, pyModule := Value.str (Str.ofString "law_no0155_01") 466, code := Value.ref 274 } }
noncomputable def hd.hF : Params → Heap := fun P => { objs := Array.mk (boot_o_0 P :: boot_o_1 P :: hd.q2 P :: hd.q3 P :: boot_o_4 P :: boot_o_5 P :: boot_o_6 P :: boot_o_7 P :: boot_o_8 P :: boot_o_9 P :: boot_o_10 P :: hd.q11 P :: hd.q12 P :: hd.q13 P :: hd.q14 P :: hd.q15 P :: hd.q16 P :: hd.q17 P :: hd.q18 P :: hd.q19 P :: hd.q20 P :: hd.q21 P :: hd.q22 P :: hd.q23 P :: hd.q24 P :: hd.q25 P :: hd.q26 P :: hd.q27 P :: hd.q28 P :: hd.q29 P :: hd.q30 P :: hd.q31 P :: hd.q32 P :: hd.q33 P :: hd.q34 P :: hd.q35 P :: hd.q36 P :: hd.q37 P :: hd.q38 P :: hd.q39 P :: hd.q40 P :: hd.q41 P :: hd.q42 P :: hd.q43 P :: hd.q44 P :: hd.q45 P :: hd.q46 P :: hd.q47 P :: hd.q48 P :: hd.q49 P :: hd.q50 P :: hd.q51 P :: hd.q52 P :: hd.q53 P :: hd.q54 P :: hd.q55 P :: hd.q56 P :: hd.q57 P :: hd.q58 P :: hd.q59 P :: hd.q60 P :: hd.q61 P :: hd.q62 P :: hd.q63 P :: hd.q64 P :: hd.q65 P :: hd.q66 P :: hd.q67 P :: hd.q68 P :: hd.q69 P :: hd.q70 P :: hd.q71 P :: hd.q72 P :: hd.q73 P :: hd.q74 P :: hd.q75 P :: hd.q76 P :: hd.q77 P :: hd.q78 P :: hd.q79 P :: hd.q80 P :: hd.q81 P :: hd.q82 P :: hd.q83 P :: hd.q84 P :: hd.q85 P :: hd.q86 P :: hd.q87 P :: hd.q88 P :: hd.q89 P :: hd.q90 P :: hd.q91 P :: hd.q92 P :: hd.q93 P :: hd.q94 P :: hd.q95 P :: hd.q96 P :: hd.q97 P :: hd.q98 P :: hd.q99 P :: hd.q100 P :: hd.q101 P :: hd.q102 P :: hd.q103 P :: hd.q104 P :: hd.q105 P :: hd.q106 P :: hd.q107 P :: hd.q108 P :: hd.q109 P :: hd.q110 P :: hd.q111 P :: hd.q112 P :: hd.q113 P :: hd.q114 P :: hd.q115 P :: hd.q116 P :: hd.q117 P :: hd.q118 P :: hd.q119 P :: hd.q120 P :: hd.q121 P :: hd.q122 P :: hd.q123 P :: hd.q124 P :: hd.q125 P :: hd.q126 P :: hd.q127 P :: hd.q128 P :: hd.q129 P :: hd.q130 P :: hd.q131 P :: hd.q132 P :: hd.q133 P :: hd.q134 P :: hd.q135 P :: hd.q136 P :: hd.q137 P :: hd.q138 P :: hd.q139 P :: hd.q140 P :: hd.q141 P :: hd.q142 P :: hd.q143 P :: hd.q144 P :: hd.q145 P :: hd.q146 P :: hd.q147 P :: hd.q148 P :: hd.q149 P :: hd.q150 P :: hd.q151 P :: hd.q152 P :: hd.q153 P :: hd.q154 P :: hd.q155 P :: hd.q156 P :: hd.q157 P :: hd.q158 P :: hd.q159 P :: hd.q160 P :: hd.q161 P :: hd.q162 P :: hd.q163 P :: hd.q164 P :: hd.q165 P :: hd.q166 P :: hd.q167 P :: hd.q168 P :: hd.q169 P :: hd.q170 P :: hd.q171 P :: hd.q172 P :: hd.q173 P :: hd.q174 P :: hd.q175 P :: hd.q176 P :: hd.q177 P :: hd.q178 P :: hd.q179 P :: hd.q180 P :: hd.q181 P :: hd.q182 P :: hd.q183 P :: hd.q184 P :: hd.q185 P :: hd.q186 P :: hd.q187 P :: hd.q188 P :: hd.q189 P :: hd.q190 P :: hd.q191 P :: hd.q192 P :: hd.q193 P :: hd.q194 P :: hd.q195 P :: hd.q196 P :: hd.q197 P :: hd.q198 P :: hd.q199 P :: hd.q200 P :: hd.q201 P :: hd.q202 P :: hd.q203 P :: hd.q204 P :: hd.q205 P :: hd.q206 P :: hd.q207 P :: hd.q208 P :: hd.q209 P :: hd.q210 P :: hd.q211 P :: hd.q212 P :: hd.q213 P :: hd.q214 P :: hd.q215 P :: hd.q216 P :: hd.q217 P :: hd.q218 P :: hd.q219 P :: hd.q220 P :: hd.q221 P :: hd.q222 P :: hd.q223 P :: hd.q224 P :: hd.q225 P :: hd.q226 P :: hd.q227 P :: hd.q228 P :: hd.q229 P :: hd.q230 P :: hd.q231 P :: hd.q232 P :: hd.q233 P :: hd.q234 P :: hd.q235 P :: hd.q236 P :: hd.q237 P :: hd.q238 P :: hd.q239 P :: hd.q240 P :: hd.q241 P :: hd.q242 P :: hd.q243 P :: hd.q244 P :: hd.q245 P :: hd.q246 P :: hd.q247 P :: hd.q248 P :: hd.q249 P :: hd.q250 P :: hd.q251 P :: hd.q252 P :: hd.q253 P :: hd.q254 P :: hd.q255 P :: hd.q256 P :: hd.q257 P :: hd.q258 P :: hd.q259 P :: hd.q260 P :: hd.q261 P :: hd.q262 P :: hd.q263 P :: hd.q264 P :: hd.q265 P :: hd.q266 P :: hd.q267 P :: hd.q268 P :: hd.q269 P :: hd.q270 P :: hd.q271 P :: hd.q272 P :: hd.q273 P :: hd.q274 P :: hd.q275 P :: []), life := {} }
theorem hd.boot : opening PySem.Challenge.rw_no0155_01.row.prog = plainProg PySem.Challenge.rw_no0155_01.row.prog.main.scope.names := by kernel_rfl
theorem hd.size (w : World) : ((boot_heap w.params).isNs mainGlobals && (Array.mk [] : Array GenState).size == 0, (boot_heap w.params).objs.size, (boot_heap w.params).nsMap mainGlobals "__annotations__") = (true, 11, some (Value.ref 6)) := by kernel_rfl
theorem hd.run (w : World) (os : OsState) : Fast.tw14082659384304107361 Fast.tw14364793385576792824 PySem.Challenge.rw_no0155_01.row.prog w 11 (some (Value.ref 6)) 1800 ⟨boot_heap w.params, Array.mk [], boot_drawn, boot_toks, os⟩ (topStub PySem.Challenge.rw_no0155_01.row.prog) = some ⟨hd.hF w.params, #[], {}, 562, os⟩ := by kernel_rfl
theorem hd.look0 (w : World) (os : OsState) : (staticsOk (importedModules PySem.Challenge.rw_no0155_01.row.prog.main.body) (boot_heap w.params) (hd.hF w.params) && namesBound PySem.Challenge.rw_no0155_01.row.prog (hd.hF w.params) && gensDone ⟨hd.hF w.params, #[], {}, 562, os⟩ && laidKept (boot_heap w.params) (hd.hF w.params)) = true := by kernel_rfl
theorem hd.look1 (w : World) (os : OsState) : Fast.tw4187177175401517315 hd.view_39 [] (importedModules PySem.Challenge.rw_no0155_01.row.prog.main.body) (fun s => xlAt hd.view_39 [] s && recOk PySem.Challenge.rw_no0155_01.row.records s) true ⟨hd.hF w.params, #[], {}, 562, os⟩ = openGood hd.view_39 [] := by kernel_rfl
theorem hd.look2 (w : World) (os : OsState) : hd.hook.obs ⟨hd.hF w.params, #[], {}, 562, os⟩ = hd.hook.val w := by kernel_rfl
theorem hd.left : LeftO PySem.Challenge.rw_no0155_01.row.prog hd.view_39 [] (fun s => xlAt hd.view_39 [] s && recOk PySem.Challenge.rw_no0155_01.row.records s) hd.hook.obs hd.hook.val 3550 :=
  LeftO.of_pieces (boot_open hd.boot rfl fun _ => rfl) hd.size (fun w os => by rw [Fast.te14082659384304107361, Fast.te14364793385576792824]; exact hd.run w os) (by rfl : Nat.ble 1800 3550 = true)
    (fun w => funext fun os => looks_pair (hd.look0 w os) (looks_pair (by rw [Fast.te4187177175401517315]; exact hd.look1 w os) (hd.look2 w os)))
theorem hd {d : DefRec} {kwd : List (Str × PySem.Expr)} (hdef : defOf hd.view_39 PySem.Challenge.rw_no0155_01.row.name = some (d, kwd)) (hp : PySem.Challenge.rw_no0155_01.row.prog.theDef PySem.Challenge.rw_no0155_01.row.name = some (d.params, d.body, d.scope))
    (hk : kwWritten? d.params.kwonlyargs d.params.kw_defaults = some kwd) (walk : WalkO hd.view_39 [] (XL hd.view_39 []) hd.hook.says PySem.Challenge.rw_no0155_01.row.toRowW d kwd fun f vs => PySem.call f vs) : PySem.Challenge.rw_no0155_01.Holds :=
  holds_law hd.said fun said => holds_open hd.left (Hook.of hd.hook) (Hook.keeps hd.hook) (fun s e => xl_of s (Bool.and_eq_true_iff.mp e).1) XL.keeps hdef hp hk (fun s e => recFacts_of (Bool.and_eq_true_iff.mp e).2) (by rfl) said (by decide +kernel)
    ⟨rfl, rfl, rfl, rfl, rfl, by decide +kernel⟩ ⟨[.list []], by decide +kernel, by decide +kernel⟩ walk
end Mine
end

section
set_option maxRecDepth 100000
namespace Mine
open PySem PySem.W PyProof.Rows PySem.Calls PyProof.V PySem.Spec

noncomputable abbrev LOO : List Str := looseW hd.view_39 []
noncomputable abbrev PR : Program := PySem.Challenge.rw_no0155_01.row.prog

/-! ## plain data: terms, the table of symbols -/
inductive Tm where
  | v (n : Int)
  | a (n : Int)
  | i (n : Int)
  | s1 (f : Int) (x : Tm)
  | s2 (f : Int) (x y : Tm)

structure Sym where
  A : List (Str × Int)
  G : List ((Int × Int) × Int)

def Sym.le (σ τ : Sym) : Prop := (∀ x n, σ.A.lookup x = some n → τ.A.lookup x = some n) ∧ (∀ x n, σ.G.lookup x = some n → τ.G.lookup x = some n) ∧ σ.G.length ≤ τ.G.length
theorem Sym.le_refl (σ : Sym) : σ.le σ := ⟨fun _ _ h => h, fun _ _ h => h, Nat.le_refl _⟩
theorem Sym.le_trans {σ τ υ : Sym} (h : σ.le τ) (k : τ.le υ) : σ.le υ := ⟨fun x n e => k.1 x n (h.1 x n e), fun x n e => k.2.1 x n (h.2.1 x n e), Nat.le_trans h.2.2 k.2.2⟩
def Sym.atom (τ : Sym) (x : Str) : Int := (τ.A.lookup x).getD (-1)
def Sym.fn (τ : Sym) (a k : Int) : Int := (τ.G.lookup (a, k)).getD (-1)

/-- whatever the table grows to, f says r of it -/
def Says {α : Type} (σ : Sym) (f : Sym → α) (r : α) : Prop := ∀ τ, σ.le τ → f τ = r
theorem Says.mono {α : Type} {σ σ' : Sym} {f : Sym → α} {r : α} (h : Says σ f r) (l : σ.le σ') : Says σ' f r := fun τ k => h τ (Sym.le_trans l k)

/-- the texts that may be entered -/
def uni : List Str := (["[]", ".", "{}", "-", "+", "*", "/", ",", "|", ";", "->", "\\+", ":-", "?-", "-->", "!", "true", "fail", "false", "call", "=", "^", "error", "", "end_of_file", "system", "$VAR", "catch", "throw"] : List Str) ++
  (["f", "p", "q", "instantiation_error", "type_error", "domain_error", "predicate_indicator", "integer", "atom", "not_less_than_zero", "list"] : List Str)

structure Sym.Good (σ : Sym) : Prop where
  av : ∀ p ∈ σ.A, 0 ≤ p.2 ∧ p.2 < σ.A.length
  an : (σ.A.map (·.1)).Nodup
  au : ∀ p ∈ σ.A, p.1 ∈ uni
  gv : ∀ p ∈ σ.G, 0 ≤ p.2 ∧ p.2 < σ.G.length ∧ (p.2 = 0 ∨ p.2 = 1 ∨ p.2 = 15 → p.1.2 = 2)
  gn : (σ.G.map (·.1)).Nodup
  gk : ∀ p ∈ σ.G, 0 ≤ p.1.1 ∧ p.1.1 < 64 ∧ 0 ≤ p.1.2 ∧ p.1.2 < 16

theorem Sym.Good.alen {σ : Sym} (h : σ.Good) : σ.A.length ≤ 40 := by
  have := List.Nodup.length_le_of_subset h.an (l₂ := uni) (fun x hx => by obtain ⟨p, hp, rfl⟩ := List.mem_map.mp hx; exact h.au p hp)
  rw [List.length_map] at this
  exact Nat.le_trans this (by decide)
def pairs : List (Int × Int) := (List.range 64).flatMap fun (a : Nat) => (List.range 16).map fun (k : Nat) => ((a : Int), (k : Int))
theorem mem_pairs {a k : Int} (h0 : 0 ≤ a) (h1 : a < 64) (h2 : 0 ≤ k) (h3 : k < 16) : (a, k) ∈ pairs := by
  unfold pairs
  refine List.mem_flatMap.mpr ⟨a.toNat, List.mem_range.mpr (by omega), List.mem_map.mpr ⟨k.toNat, List.mem_range.mpr (by omega), ?_⟩⟩
  rw [Int.toNat_of_nonneg h0, Int.toNat_of_nonneg h2]
theorem pairs_len : pairs.length = 1024 := by decide +kernel
theorem Sym.Good.glen {σ : Sym} (h : σ.Good) : σ.G.length ≤ 1024 := by
  have := List.Nodup.length_le_of_subset h.gn (l₂ := pairs) (fun x hx => by
    obtain ⟨p, hp, rfl⟩ := List.mem_map.mp hx
    obtain ⟨h0, h1, h2, h3⟩ := h.gk p hp
    exact mem_pairs h0 h1 h2 h3)
  rw [List.length_map, pairs_len] at this
  exact this

/-! ## the ledger -/
structure Cx where
  hd : Addr
  cl : Addr
  sy : Addr
  dx : Addr
  tx : Addr
  an : Addr
  fn : Addr
  ff : Addr
  k1 : Tok
  k2 : Tok
  k3 : Tok
  k4 : Tok
  cv : List Value

structure St where
  ho : Obj
  tv : Obj
  av : Obj
  fv : Obj
  gv : Obj

abbrev tupO (vs : Array Value) : Obj := { cls := .type "tuple", data := .seq vs }
abbrev symD (w : World) (c : Cx) : Obj := dictOf [⟨PyData.keyHash w.params (Str.ofString "texts"), .str (Str.ofString "texts") c.k1, .ref c.tx⟩, ⟨PyData.keyHash w.params (Str.ofString "atom_numbers"), .str (Str.ofString "atom_numbers") c.k2, .ref c.an⟩,
  ⟨PyData.keyHash w.params (Str.ofString "functors"), .str (Str.ofString "functors") c.k3, .ref c.fn⟩, ⟨PyData.keyHash w.params (Str.ofString "functor_numbers"), .str (Str.ofString "functor_numbers") c.k4, .ref c.ff⟩] 4

/-- the hand, the cells, the symbols, then all else -/
def led (w : World) (c : Cx) (S : St) (T : List (Addr × Obj)) : List (Addr × Obj) :=
  (c.hd, S.ho) :: (c.cl, listOf c.cv.toArray 0) :: (c.sy, instObj 154 c.dx) :: (c.dx, symD w c) :: (c.tx, S.tv) :: (c.an, S.av) :: (c.fn, S.fv) :: (c.ff, S.gv) :: T

section
variable {w : World} {c : Cx} {S : St} {T : List (Addr × Obj)}
theorem led_hd : (c.hd, S.ho) ∈ led w c S T := by simp [led]
theorem led_cl : (c.cl, listOf c.cv.toArray 0) ∈ led w c S T := by simp [led]
theorem led_sy : (c.sy, instObj 154 c.dx) ∈ led w c S T := by simp [led]
theorem led_dx : (c.dx, symD w c) ∈ led w c S T := by simp [led]
theorem led_ff : (c.ff, S.gv) ∈ led w c S T := by simp [led]
theorem led_T {p : Addr × Obj} (h : p ∈ T) : p ∈ led w c S T := by simp [led, h]
theorem ne_of_raw {B T : List (Addr × Obj)} {d : Addr} (h : ∀ p ∈ B, p.1 < d) (k : ∀ p ∈ T, p ∈ B) : ∀ p ∈ T, p.1 ≠ d := fun p hp => Nat.ne_of_lt (h p (k p hp))
theorem raw_lt {B : List (Addr × Obj)} {x d : Addr} {o : Obj} (h : ∀ p ∈ B, p.1 < d) (k : (x, o) ∈ B) : @LT.lt Nat _ x d := h _ k
end
def Cx.Ok (c : Cx) : Prop := (@LT.lt Nat _ c.cl c.hd ∧ @LT.lt Nat _ c.hd c.dx ∧ @LT.lt Nat _ c.dx c.sy ∧ @LT.lt Nat _ c.sy c.tx ∧ @LT.lt Nat _ c.tx c.an ∧ @LT.lt Nat _ c.an c.fn ∧ @LT.lt Nat _ c.fn c.ff) ∧ (∀ v ∈ c.cv, ∃ j t, v = Value.int j t) ∧ c.cv.length ≤ 63

def HandOk (c : Cx) (o : Obj) : Prop := ∃ i n z t1 t2 t3 ep, o = listOf #[.ref c.cl, .int i t1, .int n t2, .int z t3] ep ∧ 0 ≤ i ∧ i ≤ c.cv.length ∧ 0 ≤ z ∧ z < 2147483647

def aD (σ : Sym) : List (PyData × PyData) := σ.A.map fun p => (PyData.str p.1, PyData.int p.2)
def gD (σ : Sym) : List (PyData × PyData) := σ.G.map fun p => (encTuple PyData.int [p.1.1, p.1.2], PyData.int p.2)

def AOk (w : World) (o : Obj) (D : List (PyData × PyData)) : Prop := ∃ kvs, o.IsDictOf (strKind PySem.Challenge.rw_no0155_01.row.prog w) kvs ∧ FlatPairs PyData.str kvs D
def GOk (w : World) (o : Obj) (T : List (Addr × Obj)) (D : List (PyData × PyData)) : Prop :=
  ∃ es ep xs, o.ExactDict ∧ o.data = .dict es ep ∧ es.toList = xs.map (entryOfKey (tupleKind (intKind PySem.Challenge.rw_no0155_01.row.prog w))) ∧ (xs.map (·.1)).Nodup ∧
    (∀ x ∈ xs, ∃ ok, (x.2.1, ok) ∈ T ∧ TupKeyObj (intKind PySem.Challenge.rw_no0155_01.row.prog w) x.1 ok) ∧ FlatPairs (encTuple PyData.int) (kvsOf xs) D

structure StOk (w : World) (c : Cx) (σ : Sym) (S : St) (T : List (Addr × Obj)) : Prop where
  cx : c.Ok
  hand : HandOk c S.ho
  good : σ.Good
  tv : ∃ its e, S.tv = listOf its e ∧ its.size = σ.A.length
  fv : ∃ its e, S.fv = listOf its e ∧ its.size = σ.G.length
  an : (c.an == sysModules) = false
  ff : (c.ff == sysModules) = false
  av : AOk w S.av (aD σ)
  gv : GOk w S.gv T (gD σ)
theorem GOk.mono {w : World} {o : Obj} {T T' : List (Addr × Obj)} {D : List (PyData × PyData)} (h : GOk w o T D) (k : ∀ p ∈ T, p ∈ T') : GOk w o T' D := by
  obtain ⟨es, ep, xs, h1, h2, h3, h4, h5, h6⟩ := h
  exact ⟨es, ep, xs, h1, h2, h3, h4, fun x hx => let ⟨ok, a, b⟩ := h5 x hx; ⟨ok, k _ a, b⟩, h6⟩
/-- every tuple of T stands in T' -/
def SubT (T T' : List (Addr × Obj)) : Prop := ∀ a o, (a, o) ∈ T → o.cls = .type "tuple" → (a, o) ∈ T'
theorem SubT.of {T T' : List (Addr × Obj)} (k : ∀ p ∈ T, p ∈ T') : SubT T T' := fun _ _ h _ => k _ h
theorem SubT.refl {T : List (Addr × Obj)} : SubT T T := fun _ _ h _ => h
theorem SubT.skip {T T' : List (Addr × Obj)} {p : Addr × Obj} (h : p.2.cls ≠ .type "tuple") (k : SubT T T') : SubT (p :: T) T' := fun a o hm hc => by
  rcases List.mem_cons.mp hm with e | hm
  · exact absurd (by rw [← e]; exact hc) h
  · exact k a o hm hc
theorem SubT.cons {T T' : List (Addr × Obj)} {p : Addr × Obj} (k : SubT T T') : SubT (p :: T) (p :: T') := fun a o hm hc => by
  rcases List.mem_cons.mp hm with e | hm
  · rw [e]; exact .head _
  · exact .tail _ (k a o hm hc)
theorem SubT.app {T T' X : List (Addr × Obj)} (k : SubT T T') : SubT (X ++ T) (X ++ T') := fun a o hm hc => by
  rcases List.mem_append.mp hm with hm | hm
  · exact List.mem_append_left _ hm
  · exact List.mem_append_right _ (k a o hm hc)
theorem SubT.front {T F T2 : List (Addr × Obj)} (h : ∀ p ∈ F, p.2.cls ≠ .type "tuple") : SubT (T2 ++ (F ++ T)) (T2 ++ T) := SubT.app fun a o hm hc => by
  rcases List.mem_append.mp hm with hm | hm
  · exact absurd hc (h _ hm)
  · exact hm
theorem GOk.of_subT {w : World} {o : Obj} {T T' : List (Addr × Obj)} {D : List (PyData × PyData)} (h : GOk w o T D) (k : SubT T T') : GOk w o T' D := by
  obtain ⟨es, ep, xs, h1, h2, h3, h4, h5, h6⟩ := h
  exact ⟨es, ep, xs, h1, h2, h3, h4, fun x hx => let ⟨ok, a, b⟩ := h5 x hx; ⟨ok, k _ _ a b.1, b⟩, h6⟩
theorem StOk.of_subT {w : World} {c : Cx} {σ : Sym} {S : St} {T T' : List (Addr × Obj)} (h : StOk w c σ S T) (k : SubT T T') : StOk w c σ S T' :=
  ⟨h.cx, h.hand, h.good, h.tv, h.fv, h.an, h.ff, h.av, h.gv.of_subT k⟩
theorem StOk.mono {w : World} {c : Cx} {σ : Sym} {S : St} {T T' : List (Addr × Obj)} (h : StOk w c σ S T) (k : ∀ p ∈ T, p ∈ T') : StOk w c σ S T' :=
  ⟨h.cx, h.hand, h.good, h.tv, h.fv, h.an, h.ff, h.av, h.gv.mono k⟩

def Apart (c : Cx) (T : List (Addr × Obj)) : Prop := ∀ p ∈ T, @LT.lt Nat _ c.ff p.1
def Over (c : Cx) (T : List (Addr × Obj)) (x : Addr) : Prop := @LT.lt Nat _ c.ff x ∧ ∀ p ∈ T, @LT.lt Nat _ p.1 x
theorem Apart.cons {c : Cx} {T : List (Addr × Obj)} {p : Addr × Obj} (h : @LT.lt Nat _ c.ff p.1) (k : Apart c T) : Apart c (p :: T) := fun q hq => by
  rcases List.mem_cons.mp hq with rfl | hq
  · exact h
  · exact k q hq
theorem Apart.app {c : Cx} {T T2 : List (Addr × Obj)} (h : ∀ p ∈ T2, Over c T p.1) (k : Apart c T) : Apart c (T2 ++ T) := fun q hq => by
  rcases List.mem_append.mp hq with hq | hq
  · exact (h q hq).1
  · exact k q hq
theorem Over.mono {c : Cx} {T T' : List (Addr × Obj)} {x : Addr} (h : Over c T' x) (k : ∀ p ∈ T, p ∈ T') : Over c T x := ⟨h.1, fun p hp => h.2 p (k p hp)⟩
theorem over_of {c : Cx} {T B : List (Addr × Obj)} {x : Addr} {o : Obj} (h : ∀ p ∈ B, p.1 < x) (hf : (c.ff, o) ∈ B) (k : ∀ p ∈ T, p ∈ B) : Over c T x := ⟨h _ hf, fun p hp => h p (k p hp)⟩

theorem over_nil {c : Cx} {T : List (Addr × Obj)} : ∀ p ∈ ([] : List (Addr × Obj)), Over c T p.1 := fun _ h => nomatch h
theorem over_cons {c : Cx} {T T2 : List (Addr × Obj)} {x : Addr} {o : Obj} (h : Over c T x) (k : ∀ p ∈ T2, Over c T p.1) : ∀ p ∈ (x, o) :: T2, Over c T p.1 := fun p hp => by
  rcases List.mem_cons.mp hp with rfl | hp
  · exact h
  · exact k p hp
theorem over_app {c : Cx} {T T2 T3 : List (Addr × Obj)} (h : ∀ p ∈ T2, Over c T p.1) (k : ∀ p ∈ T3, Over c T p.1) : ∀ p ∈ T2 ++ T3, Over c T p.1 := fun p hp => by
  rcases List.mem_append.mp hp with hp | hp
  · exact h p hp
  · exact k p hp
theorem over_mono {c : Cx} {T T' T2 : List (Addr × Obj)} (h : ∀ p ∈ T2, Over c T' p.1) (k : ∀ p ∈ T, p ∈ T') : ∀ p ∈ T2, Over c T p.1 := fun p hp => (h p hp).mono k

/-! ## where a call stands -/
structure At (w : World) (mean : ExcName → Option Value) (mg mb : Str → Option Value) (A : Around) (env : Env) (outer : List Env) (base h₀ : Heap) (L : Addr) (m : Str → Option Value) (news : List (Addr × Obj)) (s : Shared) : Prop where
  B : ∃ A₀, Below A₀ base outer h₀
  F : Fr h₀ L s.heap m
  X : (hd.heap_39 w.params).In h₀
  N : News h₀ L s.heap news
  T : Top hd.view_39 LOO mean mg mb h₀
  fr : A.frames = some (env :: outer)
  fl : env.frame = some L
  ki : env.scope.kind = .function
  ha : A.handled = none

/-- a call that comes back -/
def Ctr (w : World) (mean : ExcName → Option Value) (mg mb : Str → Option Value) (c : Cx) (f : Addr) (D U : Nat) (vs : List Value) (σ : Sym) (T : List (Addr × Obj)) (Post : Sym → List (Addr × Obj) → List (Addr × Obj) → Value → Prop) : Prop :=
  ∀ (S : St) (A : Around) (env : Env) (outer : List Env) (base h₀ : Heap) (L : Addr) (m : Str → Option Value) (s : Shared) (Q E : Value → Shared → Prop),
    StOk w c σ S T → Apart c T → At w mean mg mb A env outer base h₀ L m (led w c S T) s → A.depth + D < recursionLimit → A.units + U < cLine →
    (∀ r σ' S' T2 T' h' tk', Fr h₀ L h' m → News h₀ L h' (led w c S' T') → StOk w c σ' S' T' → T' = T2 ++ T → σ.le σ' → (∀ p ∈ T2, Over c T p.1) → Post σ' T2 T' r → Q r { s with heap := h', toks := tk' }) →
    wpAny (model PySem.Challenge.rw_no0155_01.row.prog w) A (call (.ref f) vs) Q E s

/-- the caller's ledger: fresh tuples in front go to T, lists stay in front -/
inductive Rot (w : World) (c : Cx) (S : St) : List (Addr × Obj) → List (Addr × Obj) → List (Addr × Obj) → Prop
  | base {T} : Rot w c S (led w c S T) T []
  | push {news T F p} : Rot w c S news T F → Rot w c S (p :: news) (p :: T) F
  | keep {news T F p} : Rot w c S news T F → Rot w c S (p :: news) T (p :: F)
  | drop {news T F p} : Rot w c S news T F → Rot w c S (p :: news) T F
theorem Rot.pushT {w : World} {c : Cx} {S : St} {news T F : List (Addr × Obj)} {a : Addr} {its : Array Value} {n : Nat} (h : Rot w c S news T F) : Rot w c S ((a, { cls := .type "tuple", data := .seq its n }) :: news) ((a, { cls := .type "tuple", data := .seq its n }) :: T) F := .push h
theorem Rot.pushL {w : World} {c : Cx} {S : St} {news T F : List (Addr × Obj)} {a : Addr} {its : Array Value} {n : Nat} (h : Rot w c S news T F) : Rot w c S ((a, listOf its n) :: news) ((a, listOf its n) :: T) F := .push h
theorem Rot.sub {w : World} {c : Cx} {S : St} {news T F : List (Addr × Obj)} (R : Rot w c S news T F) : ∀ p ∈ led w c S (F ++ T), p ∈ news := by
  have key : (∀ p ∈ led w c S [], p ∈ news) ∧ (∀ p ∈ F, p ∈ news) ∧ ∀ p ∈ T, p ∈ news := by
    induction R with
    | base => exact ⟨fun p hp => by simp only [led, List.mem_cons, List.not_mem_nil, or_false] at hp ⊢; grind, fun p hp => (nomatch hp), fun p hp => by simp only [led, List.mem_cons, hp, or_true]⟩
    | push _ ih => exact ⟨fun p hp => .tail _ (ih.1 p hp), fun p hp => .tail _ (ih.2.1 p hp), fun p hp => by
        rcases List.mem_cons.mp hp with rfl | hp
        · exact .head _
        · exact .tail _ (ih.2.2 p hp)⟩
    | keep _ ih => exact ⟨fun p hp => .tail _ (ih.1 p hp), fun p hp => by
        rcases List.mem_cons.mp hp with rfl | hp
        · exact .head _
        · exact .tail _ (ih.2.1 p hp), fun p hp => .tail _ (ih.2.2 p hp)⟩
    | drop _ ih => exact ⟨fun p hp => .tail _ (ih.1 p hp), fun p hp => .tail _ (ih.2.1 p hp), fun p hp => .tail _ (ih.2.2 p hp)⟩
  intro p hp
  have h3 : p ∈ led w c S [] ∨ p ∈ F ++ T := by simp only [led, List.mem_cons] at hp ⊢; grind
  rcases h3 with h3 | h3
  · exact key.1 p h3
  · exact (List.mem_append.mp h3).elim (key.2.1 p) (key.2.2 p)
theorem led_front {w : World} {c : Cx} {S : St} {T2 F T : List (Addr × Obj)} : ∀ p ∈ F ++ led w c S (T2 ++ T), p ∈ led w c S (T2 ++ (F ++ T)) := by
  intro p hp
  simp only [led, List.mem_cons, List.mem_append] at hp ⊢
  grind
theorem News.sub {h₀ h : Heap} {L : Addr} {A B : List (Addr × Obj)} (N : News h₀ L h A) (k : ∀ p ∈ B, p ∈ A) : News h₀ L h B := fun p hp => N p (k p hp)
theorem At.sub {w : World} {mean : ExcName → Option Value} {mg mb : Str → Option Value} {A : Around} {env : Env} {outer : List Env} {base h₀ : Heap} {L : Addr} {m : Str → Option Value} {news news' : List (Addr × Obj)} {s : Shared}
    (x : At w mean mg mb A env outer base h₀ L m news s) (k : ∀ p ∈ news', p ∈ news) : At w mean mg mb A env outer base h₀ L m news' s :=
  ⟨x.B, x.F, x.X, News.sub x.N k, x.T, x.fr, x.fl, x.ki, x.ha⟩

theorem News.led {w : World} {c : Cx} {S : St} {h₀ h : Heap} {L : Addr} {news T' : List (Addr × Obj)} (N : News h₀ L h news) (R : Rot w c S news T' []) : News h₀ L h (Mine.led w c S T') := News.sub N R.sub
theorem suf_nil {T : List (Addr × Obj)} : T = [] ++ T := rfl
theorem suf_cons {T T' T2 : List (Addr × Obj)} {e : Addr × Obj} (h : T' = T2 ++ T) : e :: T' = (e :: T2) ++ T := by rw [h]; rfl
theorem suf_app {T T' T2 X : List (Addr × Obj)} (h : T' = T2 ++ T) : X ++ T' = (X ++ T2) ++ T := by rw [h, List.append_assoc]
theorem Ctr.use {w : World} {mean : ExcName → Option Value} {mg mb : Str → Option Value} {c : Cx} {f : Addr} {D U : Nat} {vs : List Value} {σ : Sym} {T F T₁ news : List (Addr × Obj)} {Post : Sym → List (Addr × Obj) → List (Addr × Obj) → Value → Prop}
    {S : St} {A : Around} {env : Env} {outer : List Env} {base h₀ : Heap} {L : Addr} {m : Str → Option Value} {s : Shared} {Q E : Value → Shared → Prop}
    (x : At w mean mg mb A env outer base h₀ L m news s) (R : Rot w c S news T F) (hS : StOk w c σ S T₁) (hs : ∀ p ∈ T₁, p ∈ F ++ T) (ha : Apart c (F ++ T)) (hF : ∀ p ∈ F, p.2.cls ≠ .type "tuple") (C : Ctr w mean mg mb c f D U vs σ (F ++ T) Post)
    (hd : A.depth + D < recursionLimit) (hu : A.units + U < cLine)
    (k : ∀ r σ' S' T2 h' tk', Fr h₀ L h' m → News h₀ L h' (F ++ led w c S' (T2 ++ T)) → (∀ p ∈ T2, Over c (F ++ T) p.1) → σ.le σ' → StOk w c σ' S' (T2 ++ T) → Apart c (T2 ++ T) → Post σ' T2 (T2 ++ (F ++ T)) r → Q r { s with heap := h', toks := tk' }) :
    wpAny (model PySem.Challenge.rw_no0155_01.row.prog w) A (call (.ref f) vs) Q E s :=
  C S A env outer base h₀ L m s Q E (hS.mono hs) ha (x.sub R.sub) hd hu fun r σ' S' T2 T' h' tk' F' N' S'' e' l' o' P' => by
    subst e'
    exact k r σ' S' T2 h' tk' F' (News.sub N' led_front) o' l' (S''.of_subT (SubT.front hF)) (Apart.app (fun p hp => (o' p hp).mono fun q hq => List.mem_append_right _ hq) fun p hp => ha p (List.mem_append_right _ hp)) P'
/-! ## terms on the ledger -/
inductive TmIn (T : List (Addr × Obj)) : Addr → Tm → Prop
  | v {a n t1 t2} : (a, tupO #[.str (Str.ofString "v") t1, .int n t2]) ∈ T → TmIn T a (.v n)
  | a {a n t1 t2} : (a, tupO #[.str (Str.ofString "a") t1, .int n t2]) ∈ T → TmIn T a (.a n)
  | i {a n t1 t2} : (a, tupO #[.str (Str.ofString "i") t1, .int n t2]) ∈ T → TmIn T a (.i n)
  | s1 {a b f t1 t2 x tx} : (a, tupO #[.str (Str.ofString "s") t1, .int f t2, .ref b]) ∈ T → (b, tupO #[.ref x]) ∈ T → TmIn T x tx → TmIn T a (.s1 f tx)
  | s2 {a b f t1 t2 x y tx ty} : (a, tupO #[.str (Str.ofString "s") t1, .int f t2, .ref b]) ∈ T → (b, tupO #[.ref x, .ref y]) ∈ T → TmIn T x tx → TmIn T y ty → TmIn T a (.s2 f tx ty)
theorem TmIn.of_sub {T T' : List (Addr × Obj)} {a : Addr} {t : Tm} (h : TmIn T a t) (k : ∀ a vs, (a, tupO vs) ∈ T → (a, tupO vs) ∈ T') : TmIn T' a t := by
  induction h with
  | v h => exact .v (k _ _ h)
  | a h => exact .a (k _ _ h)
  | i h => exact .i (k _ _ h)
  | s1 h1 h2 _ ih => exact .s1 (k _ _ h1) (k _ _ h2) ih
  | s2 h1 h2 _ _ ih1 ih2 => exact .s2 (k _ _ h1) (k _ _ h2) ih1 ih2
theorem TmIn.of_subT {T T' : List (Addr × Obj)} {a : Addr} {t : Tm} (h : TmIn T a t) (k : SubT T T') : TmIn T' a t := h.of_sub fun a vs m => k a _ m rfl
theorem TmIn.mono {T T' : List (Addr × Obj)} {a : Addr} {t : Tm} (h : TmIn T a t) (k : ∀ p ∈ T, p ∈ T') : TmIn T' a t := h.of_sub fun _ _ m => k _ m
def Tm.Ok : Tm → Prop
  | .v _ => True
  | .a n => 0 ≤ n ∧ n < 64
  | .i n => -1 ≤ n ∧ n < 16
  | .s1 f x => (f ≠ 0 ∧ f ≠ 1 ∧ f ≠ 15) ∧ x.Ok
  | .s2 _ x y => x.Ok ∧ y.Ok
def Tm.size : Tm → Nat
  | .v _ => 1
  | .a _ => 1
  | .i _ => 1
  | .s1 _ x => 1 + x.size
  | .s2 _ x y => 1 + x.size + y.size
/-- how deep commas stand in commas -/
def Tm.rows : Tm → Nat
  | .s2 f x y => if f = 1 then 1 + max x.rows y.rows else 0
  | _ => 0
end Mine
end

section
set_option maxRecDepth 100000
set_option Elab.async false
namespace Mine
open PySem PySem.W PyProof.Rows PySem.Calls PyProof.V PySem.Spec

/-- a turn's end: the iterator's object I stays, the ledger is another one -/
def Turn (h₀ : Heap) (L : Addr) (I : Addr) (o : Obj) (Jn : (Str → Option Value) → List (Addr × Obj) → Prop) (s₁ : Shared) (Qr : Value → Shared → Prop) (Qb : Shared → Prop) (f : Flow) (s₂ : Shared) : Prop :=
  match f with
  | .ret v => Qr v s₂
  | .brk => Qb s₂
  | _ => ∃ h' tk m₂ news₂, s₂ = { s₁ with heap := h', toks := tk } ∧ Fr h₀ L h' m₂ ∧ News h₀ L h' ((I, o) :: news₂) ∧ (∀ p ∈ news₂, p.1 ≠ I) ∧ Jn m₂ news₂

theorem Turn.intro {h₀ h' : Heap} {L I : Addr} {o : Obj} {Jn : (Str → Option Value) → List (Addr × Obj) → Prop} {s₁ : Shared} {Qr : Value → Shared → Prop} {Qb : Shared → Prop} {tk : Nat} {m₂ : Str → Option Value} {news₂ : List (Addr × Obj)}
    (F : Fr h₀ L h' m₂) (N : News h₀ L h' ((I, o) :: news₂)) (off : ∀ p ∈ news₂, p.1 ≠ I) (hJ : Jn m₂ news₂) : Turn h₀ L I o Jn s₁ Qr Qb .next { s₁ with heap := h', toks := tk } := ⟨h', tk, m₂, news₂, rfl, F, N, off, hJ⟩
section
variable {prog : Program} {w : World} {A : Around} {s : Shared} {env : Env} {h₀ : Heap} {x : Str} {body : List Stmt} {Q : Flow → Shared → Prop} {E : Value → Shared → Prop} {I : Addr} {fp : List Addr} {n : Nat} {P : Nat → Value → Prop} {St : Nat → Heap → Prop}
  {m : Str → Option Value} {news : List (Addr × Obj)}
theorem loop_core (W : Walks prog w A I fp [I] n P St) (hI : ∀ i h, St i h → ∃ o, h.get? I = some o ∧ o.cls ≠ .type "tuple") (hL : env.locals ∉ fp) (hn : h₀.get? I = none) (hnw : ∀ p ∈ news, p.1 ≠ I) (hst : St 0 s.heap)
    (F : Fr h₀ env.locals s.heap m) (N : News h₀ env.locals s.heap news) (J : Nat → (Str → Option Value) → List (Addr × Obj) → Prop) (ob : Addr → Obj) (keep : ∀ i m news, J i m news → ∀ b ∈ fp, b ≠ I → (b, ob b) ∈ news) (h0 : J 0 m news)
    (step : ∀ i v m₁ news₁ s₁ o, (∃ h tk, s₁ = { s with heap := h, toks := tk }) → o.cls ≠ .type "tuple" → i < n → P i v → J i m₁ news₁ → (∀ p ∈ news₁, p.1 ≠ I) → Fr h₀ env.locals s₁.heap (fun y => if y = x then some v else m₁ y) → News h₀ env.locals s₁.heap ((I, o) :: news₁) →
      wpAny (model prog w) A (execs body env) (Turn h₀ env.locals I o (J (i + 1)) s₁ (fun v s' => Q (.ret v) s') fun s' => Q .next s') E s₁)
    (done : ∀ h' tk m' news', Fr h₀ env.locals h' m' → News h₀ env.locals h' news' → J n m' news' → Q .next { s with heap := h', toks := tk }) :
    LoopAtV prog w A h₀ env x body Q E (.ref I) s := by
  have hIf : I ∈ fp := W.sub _ (List.mem_singleton.mpr rfl)
  refine ⟨I, fp, [I], n, P, St, m, news, J, rfl, W, hL, fun b hb => by rw [List.mem_singleton.mp hb]; exact hn, fun p hp q => hnw p hp (List.mem_singleton.mp q), hst, F, N, h0, ?_, fun h' tk m' news' F' N' _ hJ => done h' tk m' news' F' N' hJ⟩
  intro i v m₁ news₁ s₁ own hs hi hP hJ hoff hfp hget hmem hst' F₁ N₁
  obtain ⟨o, ho, hoc⟩ := hI _ _ hst'
  have hmI := hmem I hIf hn o ho
  have N2 : News h₀ env.locals s₁.heap ((I, o) :: news₁) := fun p hp => by
    rcases List.mem_cons.mp hp with rfl | hp
    · exact N₁ _ (List.mem_append_left _ hmI)
    · exact N₁ _ (List.mem_append_right _ hp)
  have fin : ∀ s₂, (∃ h' tk m₂ news₂, s₂ = { s₁ with heap := h', toks := tk } ∧ Fr h₀ env.locals h' m₂ ∧ News h₀ env.locals h' ((I, o) :: news₂) ∧ (∀ p ∈ news₂, p.1 ≠ I) ∧ J (i + 1) m₂ news₂) →
      LoopStepU h₀ env.locals [I] own (J (i + 1)) s₁ .next s₂ := by
    rintro s₂ ⟨h', tk, m₂, news₂, rfl, F', N', off', hJ'⟩
    refine ⟨rfl, h', tk, m₂, news₂, rfl, F', fun p hp => ?_, fun p hp q => off' p hp (List.mem_singleton.mp q), hJ'⟩
    rcases List.mem_append.mp hp with hp | hp
    · by_cases hpI : p.1 = I
      · have e := hget p hp
        rw [hpI, ho] at e
        obtain ⟨p1, p2⟩ := p
        cases hpI
        cases Option.some.inj e
        exact N' _ (.head _)
      · have e := hget p hp
        have k1 := keep i m₁ news₁ hJ p.1 (hfp p hp) hpI
        have k2 := keep (i + 1) m₂ news₂ hJ' p.1 (hfp p hp) hpI
        have e1 := (N2 _ (.tail _ k1)).1
        rw [e] at e1
        have e2 : p = (p.1, ob p.1) := Prod.ext rfl (Option.some.inj e1)
        rw [e2]
        exact N' _ (.tail _ k2)
    · exact N' _ (.tail _ hp)
  refine wpAny_mono (step i v m₁ news₁ s₁ o hs hoc hi hP hJ (fun p hp q => hoff p hp (List.mem_singleton.mpr q)) F₁ N2) (fun f s₂ h₂ => ?_) fun _ _ e => e
  cases f with
  | ret v => exact h₂
  | brk => exact h₂
  | cont => exact fin s₂ h₂
  | next => exact fin s₂ h₂

theorem new_ne (N : News h₀ env.locals s.heap news) : ∀ p ∈ news, p.1 ≠ s.heap.objs.size := fun p hp e => absurd (Heap.lt_size (N p hp).1) (e ▸ Nat.lt_irrefl _)
theorem fr_ne (F : Fr h₀ env.locals s.heap m) : env.locals ≠ s.heap.objs.size := fun e => absurd F.ns.lt (e ▸ Nat.lt_irrefl _)
theorem h0_new (F : Fr h₀ env.locals s.heap m) : h₀.get? s.heap.objs.size = none := by
  cases q : h₀.get? s.heap.objs.size with
  | none => rfl
  | some o => exact absurd (Heap.lt_size (F.keep _ _ q)) (Nat.lt_irrefl _)
theorem news_push {o : Obj} (N : News h₀ env.locals s.heap news) : News h₀ env.locals (s.heap.push o) news := fun p hp => ⟨Heap.get?_push_of_some _ (N p hp).1, (N p hp).2⟩

/-- over range(k), k small -/
theorem range_loop {r : Addr} {k : Int} {t₀ u₀ v₀ : Tok} (hh : A.handled = none) (hr : IsRange s.heap r 0 k 1 t₀ u₀ v₀) (h0 : 0 ≤ k) (h1 : k < 1000) (F : Fr h₀ env.locals s.heap m) (N : News h₀ env.locals s.heap news)
    (J : Nat → (Str → Option Value) → List (Addr × Obj) → Prop) (j0 : J 0 m news)
    (step : ∀ i v I m₁ news₁ s₁ o, (∃ h tk, s₁ = { s with heap := h, toks := tk }) → o.cls ≠ .type "tuple" → i < k.toNat → (∃ t, v = Value.int (i : Int) t) → J i m₁ news₁ → (∀ p ∈ news₁, p.1 ≠ I) → (∀ p ∈ news, @LT.lt Nat _ p.1 I) → Fr h₀ env.locals s₁.heap (fun y => if y = x then some v else m₁ y) → News h₀ env.locals s₁.heap ((I, o) :: news₁) →
      wpAny (model prog w) A (execs body env) (Turn h₀ env.locals I o (J (i + 1)) s₁ (fun v s' => Q (.ret v) s') fun s' => Q .next s') E s₁)
    (done : ∀ h' tk m' news', Fr h₀ env.locals h' m' → News h₀ env.locals h' news' → J k.toNat m' news' → Q .next { s with heap := h', toks := tk }) :
    wpAny (model prog w) A (pyIter (.ref r)) (fun it s₂ => LoopAtV prog w A h₀ env x body Q E it s₂) E s := by
  obtain ⟨n, rfl⟩ := Int.eq_ofNat_of_zero_le h0
  have hsz : Builtin.Range.rangeSize 0 (n : Int) 1 = (n : Int) := by
    rw [rangeSize_one]
    split <;> omega
  have hsm : Builtin.Range.small 0 (n : Int) 1 = true := small_one (by decide) (by decide) (by omega) (by omega)
  refine wpAny_pyIter_range hr hsm ?_
  rw [hsz]
  refine loop_core (Walks.range hh s.heap.objs.size 0 1 n) (fun i h st => ⟨_, st, show Value.type "range_iterator" ≠ Value.type "tuple" by decide⟩) (fun q => fr_ne F (List.mem_singleton.mp q)) (h0_new F) (new_ne N) ?_ (F.push _) (news_push N) J (fun _ => default) (fun i m news hJ b hb hne => absurd (List.mem_singleton.mp hb) hne) j0 ?_ done
  · simp only [Int.natCast_zero, Int.zero_mul, Int.zero_add, Int.sub_zero]
    exact Heap.get?_push_size _ rfl
  · intro i v m₁ news₁ s₁ o hs hoc hi hP hJ hoff F₁ N₁
    obtain ⟨t, rfl⟩ := hP
    exact step i _ _ m₁ news₁ s₁ o hs hoc (by simpa using hi) ⟨t, by simp⟩ hJ hoff (fun p hp => Heap.lt_size (N p hp).1) F₁ N₁

/-- over a tuple of the ledger -/
theorem tuple_loop {a : Addr} {its : Array Value} {ep : Nat} (hh : A.handled = none) (ht : (a, ({ cls := .type "tuple", data := .seq its ep } : Obj)) ∈ news) (F : Fr h₀ env.locals s.heap m) (N : News h₀ env.locals s.heap news)
    (J : Nat → (Str → Option Value) → List (Addr × Obj) → Prop) (keep : ∀ i m news, J i m news → (a, ({ cls := .type "tuple", data := .seq its ep } : Obj)) ∈ news) (j0 : J 0 m news)
    (step : ∀ i v I m₁ news₁ s₁ o, (∃ h tk, s₁ = { s with heap := h, toks := tk }) → o.cls ≠ .type "tuple" → i < its.size → its[i]? = some v → J i m₁ news₁ → (∀ p ∈ news₁, p.1 ≠ I) → (∀ p ∈ news, @LT.lt Nat _ p.1 I) → Fr h₀ env.locals s₁.heap (fun y => if y = x then some v else m₁ y) → News h₀ env.locals s₁.heap ((I, o) :: news₁) →
      wpAny (model prog w) A (execs body env) (Turn h₀ env.locals I o (J (i + 1)) s₁ (fun v s' => Q (.ret v) s') fun s' => Q .next s') E s₁)
    (done : ∀ h' tk m' news', Fr h₀ env.locals h' m' → News h₀ env.locals h' news' → J its.size m' news' → Q .next { s with heap := h', toks := tk }) :
    wpAny (model prog w) A (pyIter (.ref a)) (fun it s₂ => LoopAtV prog w A h₀ env x body Q E it s₂) E s := by
  have hT : s.heap.IsTuple a its := ⟨_, (N _ ht).1, rfl, _, rfl⟩
  have hne : a ≠ s.heap.objs.size := Nat.ne_of_lt (Heap.lt_size (N _ ht).1)
  refine wpAny_pyIter_tuple hT ?_
  refine loop_core (Walks.tuple hh s.heap.objs.size a hne its) (fun i h st => let ⟨o, ho, hc, _⟩ := st.1; ⟨o, ho, by rw [hc]; decide⟩) (fun q => ?_) (h0_new F) (new_ne N) ?_ (F.push _) (news_push N) J (fun _ => { cls := .type "tuple", data := .seq its ep }) (fun i m news hJ b hb hne' => ?_) j0 ?_ done
  · rcases List.mem_cons.mp q with q | q
    · exact fr_ne F q
    · exact (N _ ht).2.1 (List.mem_singleton.mp q).symm
  · refine ⟨⟨_, Heap.get?_push_size _ rfl, rfl, rfl⟩, ?_⟩
    exact ⟨_, Heap.get?_push_of_some _ (N _ ht).1, rfl, _, rfl⟩
  · rcases List.mem_cons.mp hb with q | q
    · exact absurd q hne'
    · rw [List.mem_singleton.mp q]; exact keep i m news hJ
  · intro i v m₁ news₁ s₁ o hs hoc hi hP hJ hoff F₁ N₁
    exact step i v _ m₁ news₁ s₁ o hs hoc hi hP hJ hoff (fun p hp => Heap.lt_size (N p hp).1) F₁ N₁

/-- over a list of the ledger that no turn changes -/
theorem list_loop {a : Addr} {its : Array Value} {ep : Nat} (hh : A.handled = none) (ht : (a, listOf its ep) ∈ news) (F : Fr h₀ env.locals s.heap m) (N : News h₀ env.locals s.heap news)
    (J : Nat → (Str → Option Value) → List (Addr × Obj) → Prop) (keep : ∀ i m news, J i m news → (a, listOf its ep) ∈ news) (j0 : J 0 m news)
    (step : ∀ i v I m₁ news₁ s₁ o, (∃ h tk, s₁ = { s with heap := h, toks := tk }) → o.cls ≠ .type "tuple" → i < its.size → its[i]? = some v → J i m₁ news₁ → (∀ p ∈ news₁, p.1 ≠ I) → (∀ p ∈ news, @LT.lt Nat _ p.1 I) → Fr h₀ env.locals s₁.heap (fun y => if y = x then some v else m₁ y) → News h₀ env.locals s₁.heap ((I, o) :: news₁) →
      wpAny (model prog w) A (execs body env) (Turn h₀ env.locals I o (J (i + 1)) s₁ (fun v s' => Q (.ret v) s') fun s' => Q .next s') E s₁)
    (done : ∀ h' tk m' news', Fr h₀ env.locals h' m' → News h₀ env.locals h' news' → J its.size m' news' → Q .next { s with heap := h', toks := tk }) :
    wpAny (model prog w) A (pyIter (.ref a)) (fun it s₂ => LoopAtV prog w A h₀ env x body Q E it s₂) E s := by
  have hT : s.heap.IsList a its := ⟨_, (N _ ht).1, rfl, _, rfl⟩
  have hne : a ≠ s.heap.objs.size := Nat.ne_of_lt (Heap.lt_size (N _ ht).1)
  refine wpAny_pyIter_list hT ?_
  refine loop_core (Walks.list hh s.heap.objs.size a hne its) (fun i h st => let ⟨o, ho, hc, _⟩ := st.1; ⟨o, ho, by rw [hc]; decide⟩) (fun q => ?_) (h0_new F) (new_ne N) ?_ (F.push _) (news_push N) J (fun _ => listOf its ep) (fun i m news hJ b hb hne' => ?_) j0 ?_ done
  · rcases List.mem_cons.mp q with q | q
    · exact fr_ne F q
    · exact (N _ ht).2.1 (List.mem_singleton.mp q).symm
  · refine ⟨⟨_, Heap.get?_push_size _ rfl, rfl, rfl⟩, ?_⟩
    exact ⟨_, Heap.get?_push_of_some _ (N _ ht).1, rfl, _, rfl⟩
  · rcases List.mem_cons.mp hb with q | q
    · exact absurd q hne'
    · rw [List.mem_singleton.mp q]; exact keep i m news hJ
  · intro i v m₁ news₁ s₁ o hs hoc hi hP hJ hoff F₁ N₁
    exact step i v _ m₁ news₁ s₁ o hs hoc hi hP hJ hoff (fun p hp => Heap.lt_size (N p hp).1) F₁ N₁
end
end Mine
namespace Mine
open PySem PySem.W PyProof.Rows PySem.Calls
theorem led_off {w : World} {c : Cx} {S S' : St} {T T' : List (Addr × Obj)} {I : Addr} (h : ∀ p ∈ led w c S T, p.1 ≠ I) (k : ∀ p ∈ T', p.1 ≠ I) : ∀ p ∈ led w c S' T', p.1 ≠ I := by
  simp only [led, List.forall_mem_cons] at h ⊢
  exact ⟨h.1, h.2.1, h.2.2.1, h.2.2.2.1, h.2.2.2.2.1, h.2.2.2.2.2.1, h.2.2.2.2.2.2.1, h.2.2.2.2.2.2.2.1, k⟩
theorem led_offT {w : World} {c : Cx} {S : St} {T : List (Addr × Obj)} {I : Addr} (h : ∀ p ∈ led w c S T, p.1 ≠ I) : ∀ p ∈ T, p.1 ≠ I := fun p hp => h p (by simp only [led, List.mem_cons, hp, or_true])
theorem off_app {c : Cx} {T T2 : List (Addr × Obj)} {I : Addr} {o : Obj} (h : ∀ p ∈ T2, Over c T p.1) (k : (I, o) ∈ T) : ∀ p ∈ T2, p.1 ≠ I := fun p hp e => by
  have := (h p hp).2 _ k
  rw [e] at this
  exact absurd this (Nat.lt_irrefl _)
theorem off_cons {T : List (Addr × Obj)} {p : Addr × Obj} {I : Addr} (h : @LT.lt Nat _ I p.1) (k : ∀ q ∈ T, q.1 ≠ I) : ∀ q ∈ p :: T, q.1 ≠ I := fun q hq => by
  rcases List.mem_cons.mp hq with rfl | hq
  · exact Nat.ne_of_gt h
  · exact k q hq
theorem off_join {T T' : List (Addr × Obj)} {I : Addr} (h : ∀ q ∈ T, q.1 ≠ I) (k : ∀ q ∈ T', q.1 ≠ I) : ∀ q ∈ T ++ T', q.1 ≠ I := fun q hq => (List.mem_append.mp hq).elim (h q) (k q)
theorem map_two {m : Str → Option Value} {x y : Str} {v : Value} (h : m x = some v) : m = fun z => if z = x then some v else if z = y then m y else m z := by
  funext z
  by_cases h1 : z = x
  · rw [if_pos h1, h1, h]
  · rw [if_neg h1]
    by_cases h2 : z = y
    · rw [if_pos h2, h2]
    · rw [if_neg h2]
theorem map_turn {m : Str → Option Value} {x y : Str} {v v' : Value} {o o' : Option Value} : (fun z => if z = x then some v' else if z = y then o' else if z = x then some v else if z = y then o else m z) = fun z => if z = x then some v' else if z = y then o' else m z := by
  funext z
  by_cases h1 : z = x
  · simp only [h1, if_true]
  · simp only [if_neg h1]
    by_cases h2 : z = y
    · simp only [h2, if_true]
    · simp only [if_neg h2]
/-- the ledger behind a turn: the iterator in front or within -/
theorem News.turn {w : World} {c : Cx} {S : St} {h₀ h : Heap} {L : Addr} {news T : List (Addr × Obj)} {e : Addr × Obj} (N : News h₀ L h news) (R : Rot w c S news T [e]) : News h₀ L h (e :: Mine.led w c S T) :=
  News.sub N fun p hp => R.sub p (by
    have : p ∈ [e] ++ Mine.led w c S ([] ++ T) := hp
    exact led_front p this)
theorem led_ne {w : World} {c : Cx} {S' : St} {T' : List (Addr × Obj)} {d : Addr} (ok : c.Ok) (hc : @LT.lt Nat _ c.ff d) (k : ∀ p ∈ T', p.1 ≠ d) : ∀ p ∈ led w c S' T', p.1 ≠ d := by
  obtain ⟨⟨o1, o2, o3, o4, o5, o6, o7⟩, _, _⟩ := ok
  intro p hp
  simp only [led, List.mem_cons] at hp
  rcases hp with rfl | rfl | rfl | rfl | rfl | rfl | rfl | rfl | hp
  · exact Nat.ne_of_lt (by omega)
  · exact Nat.ne_of_lt (by omega)
  · exact Nat.ne_of_lt (by omega)
  · exact Nat.ne_of_lt (by omega)
  · exact Nat.ne_of_lt (by omega)
  · exact Nat.ne_of_lt (by omega)
  · exact Nat.ne_of_lt (by omega)
  · exact Nat.ne_of_lt hc
  · exact k p hp
end Mine
end

section
set_option maxRecDepth 100000
namespace Mine
open PySem PySem.W PyProof.Rows PySem.Calls

/-! ## what a term reads as, over a table τ -/
def ball (f : Tm) : Tm := .s2 16 f (.a 25)
def instE (τ : Sym) : Tm := ball (.a (τ.atom (Str.ofString "instantiation_error")))
def kindE (τ : Sym) (e k : Str) (t : Tm) : Tm := ball (.s2 (τ.fn (τ.atom e) 2) (.a (τ.atom k)) t)
abbrev typeE (τ : Sym) (k : Str) (t : Tm) : Tm := kindE τ (Str.ofString "type_error") k t
abbrev domE (τ : Sym) (t : Tm) : Tm := kindE τ (Str.ofString "domain_error") (Str.ofString "not_less_than_zero") t
def Tm.isV : Tm → Bool
  | .v _ => true
  | _ => false
def single (τ : Sym) (t : Tm) : Except Tm Int := match t with
  | .v _ => .error (instE τ)
  | .s2 f x y =>
    if f = 15 then
      if x.isV || y.isV then .error (instE τ)
      else match y with
        | .i k => (match x with
          | .a m => if k < 0 then .error (domE τ y) else .ok (τ.fn m k)
          | _ => .error (typeE τ (Str.ofString "atom") x))
        | _ => .error (typeE τ (Str.ofString "integer") y)
    else .error (typeE τ (Str.ofString "predicate_indicator") (.s2 f x y))
  | t => .error (typeE τ (Str.ofString "predicate_indicator") t)
def singles (τ : Sym) : List Tm → Except Tm (List Int)
  | [] => .ok []
  | t :: r => match single τ t with
    | .error e => .error e
    | .ok n => match singles τ r with
      | .error e => .error e
      | .ok l => .ok (n :: l)
def Tm.items : Tm → List Tm
  | .s2 f x y => if f = 0 then x :: y.items else []
  | _ => []
def Tm.tail : Tm → Tm
  | .s2 f x y => if f = 0 then y.tail else .s2 f x y
  | t => t
def readList (τ : Sym) (t : Tm) : Except Tm (List Int) := match t.tail with
  | .v _ => .error (instE τ)
  | .a n => if n = 0 then singles τ t.items else .error (typeE τ (Str.ofString "list") t)
  | _ => .error (typeE τ (Str.ofString "list") t)
def one (τ : Sym) (t : Tm) : Except Tm (List Int) := match single τ t with
  | .error e => .error e
  | .ok n => .ok [n]
def join (a b : Except Tm (List Int)) : Except Tm (List Int) := match a with
  | .error e => .error e
  | .ok l => match b with
    | .error e => .error e
    | .ok r => .ok (l ++ r)
def read (τ : Sym) : Tm → Except Tm (List Int)
  | .s2 f x y => if f = 1 then join (read τ x) (read τ y) else if f = 0 then readList τ (.s2 f x y) else one τ (.s2 f x y)
  | .a n => if n = 0 then readList τ (.a n) else one τ (.a n)
  | t => one τ t
def readAll (τ : Sym) : List Tm → Except Tm (List Int)
  | [] => .ok []
  | t :: r => join (read τ t) (readAll τ r)
theorem join_nil (b : Except Tm (List Int)) : join b (.ok []) = b := by cases b <;> simp [join]
theorem nil_join (b : Except Tm (List Int)) : join (.ok []) b = b := by cases b <;> simp [join]
theorem join_assoc (a b c : Except Tm (List Int)) : join (join a b) c = join a (join b c) := by
  cases a <;> cases b <;> cases c <;> simp [join]

/-! ## a result of the law's reading on the ledger -/
def TSays {α : Type} (σ : Sym) (f : Sym → α) (r : α) : Prop := Says σ f r
end Mine
end

section
set_option maxRecDepth 100000
namespace Mine
open PySem PySem.W PyProof.Rows PySem.Calls PySem.SeqAt

def Tm.isNil : Tm → Bool
  | .a n => n == 0
  | _ => false

theorem tup_of {h₀ h : Heap} {L a : Addr} {news : List (Addr × Obj)} {vs : Array Value} (N : News h₀ L h news) (hm : (a, tupO vs) ∈ news) : h.IsTuple a vs := ⟨_, (N _ hm).1, rfl, _, rfl⟩

/-- what a term's tuple holds ahead -/
theorem TmIn.head {T : List (Addr × Obj)} {a : Addr} {t : Tm} (h : TmIn T a t) : ∃ vs tg t1 n t2, (a, tupO vs) ∈ T ∧ vs[0]? = some (.str tg t1) ∧ vs[1]? = some (.int n t2) ∧ (decide (tg = Str.ofString "a") && (n == 0) && (vs.size == 2)) = t.isNil := by
  cases h with
  | v p => exact ⟨_, _, _, _, _, p, rfl, rfl, by rw [show decide (Str.ofString "v" = Str.ofString "a") = false by decide]; rfl⟩
  | a p => exact ⟨_, _, _, _, _, p, rfl, rfl, by rw [show decide (Str.ofString "a" = Str.ofString "a") = true by decide]; simp [Tm.isNil]⟩
  | i p => exact ⟨_, _, _, _, _, p, rfl, rfl, by rw [show decide (Str.ofString "i" = Str.ofString "a") = false by decide]; rfl⟩
  | s1 p _ _ => exact ⟨_, _, _, _, _, p, rfl, rfl, by rw [show decide (Str.ofString "s" = Str.ofString "a") = false by decide]; rfl⟩
  | s2 p _ _ _ => exact ⟨_, _, _, _, _, p, rfl, rfl, by rw [show decide (Str.ofString "s" = Str.ofString "a") = false by decide]; rfl⟩

section
variable {A : Around} {s : Shared} {h₀ : Heap} {L a b : Addr} {T news : List (Addr × Obj)} {t : Tm} {tb ub : Tok}
def nilE (tg : Str) (n : Int) (j : Nat) : Bool := if j = 0 then (tg == Str.ofString "a") else (n == 0)
theorem nil_items {vs : Array Value} {tg : Str} {n : Int} {t1 t2 : Tok} (A : Around) (s : Shared) (h0 : vs[0]? = some (.str tg t1)) (h1 : vs[1]? = some (.int n t2)) (tb ub : Tok) :
    ∀ j (h1 : j < vs.size) (h2 : j < (#[Value.str (Str.ofString "a") tb, Value.int 0 ub] : Array Value).size), EqAt A s vs[j] (#[Value.str (Str.ofString "a") tb, Value.int 0 ub] : Array Value)[j] (nilE tg n j) := by
  intro j hj hj2
  have : j = 0 ∨ j = 1 := by simp at hj2; omega
  rcases this with rfl | rfl
  · have e := Array.getElem?_eq_some_iff.mp h0
    obtain ⟨_, e⟩ := e
    rw [e]
    exact EqAt.str_str _ _ _ _
  · have e := Array.getElem?_eq_some_iff.mp h1
    obtain ⟨_, e⟩ := e
    rw [e]
    exact EqAt.int_int _ _ _ _
theorem nil_all {vs : Array Value} {tg : Str} {n : Int} {t1 t2 : Tok} (h0 : vs[0]? = some (.str tg t1)) (h1 : vs[1]? = some (.int n t2)) :
    ((List.range (min vs.size (#[Value.str (Str.ofString "a") tb, Value.int 0 ub] : Array Value).size)).all (nilE tg n) && vs.size == (#[Value.str (Str.ofString "a") tb, Value.int 0 ub] : Array Value).size) = (decide (tg = Str.ofString "a") && (n == 0) && (vs.size == 2)) := by
  obtain ⟨q1, _⟩ := Array.getElem?_eq_some_iff.mp h1
  have : min vs.size (#[Value.str (Str.ofString "a") tb, Value.int 0 ub] : Array Value).size = 2 := by
    show min vs.size 2 = 2
    omega
  rw [this]
  have e : (tg == Str.ofString "a") = decide (tg = Str.ofString "a") := by rw [Bool.eq_iff_iff]; simp
  show (([0, 1] : List Nat).all (nilE tg n) && _) = _
  simp only [List.all_cons, List.all_nil, nilE, if_true, Bool.and_true, e]
  rfl
theorem rc_nil (N : News h₀ L s.heap news) (hT : ∀ p ∈ T, p ∈ news) (ht : TmIn T a t) (hb : (b, tupO #[.str (Str.ofString "a") tb, .int 0 ub]) ∈ news) (hu : A.units < cLine) : RcAt A s (.ref a) (.ref b) t.isNil := by
  obtain ⟨vs, tg, t1, n, t2, hm, h0, h1, e⟩ := ht.head
  have := RcAt.tuples (A := A) (tup_of N (hT _ hm)) (tup_of N hb) hu (nil_items A.in1 s h0 h1 tb ub)
  rw [nil_all h0 h1, e] at this
  exact this
theorem ne_nil (N : News h₀ L s.heap news) (hT : ∀ p ∈ T, p ∈ news) (ht : TmIn T a t) (hb : (b, tupO #[.str (Str.ofString "a") tb, .int 0 ub]) ∈ news) (hu : A.units < cLine) : RcNeAt A s (.ref a) (.ref b) (!t.isNil) := by
  obtain ⟨vs, tg, t1, n, t2, hm, h0, h1, e⟩ := ht.head
  have := RcNeAt.tuples (A := A) (tup_of N (hT _ hm)) (tup_of N hb) hu (nil_items A.in1 s h0 h1 tb ub)
  rw [nil_all h0 h1, e] at this
  exact this
variable {w : World} {E : Value → Shared → Prop} {Q : Value → Shared → Prop}
theorem eq_nil_w (N : News h₀ L s.heap news) (ht : TmIn T a t) (hT : ∀ p ∈ T, p ∈ news) (hb : (b, tupO #[.str (Str.ofString "a") tb, .int 0 ub]) ∈ news) (hu : A.units < cLine) (h : Q (.bool t.isNil) s) :
    wpAny (model PySem.Challenge.rw_no0155_01.row.prog w) A (compareOp .Eq (.ref a) (.ref b)) Q E s := rc_nil N hT ht hb hu _ w E Q h
theorem ne_nil_w (N : News h₀ L s.heap news) (ht : TmIn T a t) (hT : ∀ p ∈ T, p ∈ news) (hb : (b, tupO #[.str (Str.ofString "a") tb, .int 0 ub]) ∈ news) (hu : A.units < cLine) (h : Q (.bool (!t.isNil)) s) :
    wpAny (model PySem.Challenge.rw_no0155_01.row.prog w) A (compareOp .NotEq (.ref a) (.ref b)) Q E s := ne_nil N hT ht hb hu _ w E Q h

theorem all_tt (n k : Nat) : ((List.range n).all (fun _ => true) && k == k) = true := by
  rw [List.all_eq_true.mpr (fun _ _ => rfl)]
  simp
/-- two readings of one term are equal -/
theorem tm_eq (N : News h₀ L s.heap news) : ∀ (t : Tm) (A : Around) (a b : Addr), A.units + 2 * t.size < cLine → TmIn news a t → TmIn news b t → EqAt A s (.ref a) (.ref b) true
  | t, A, a, b, hu, ha, hb => by
    by_cases hab : a = b
    · subst hab; exact EqAt.same _
    refine EqAt.of_refs hab ?_
    have leaf : ∀ {vs ws : Array Value}, (a, tupO vs) ∈ news → (b, tupO ws) ∈ news → vs.size = ws.size → (∀ j (h1 : j < vs.size) (h2 : j < ws.size), EqAt A.in1 s vs[j] ws[j] true) → RcAt A s (.ref a) (.ref b) true := by
      intro vs ws h1 h2 h3 h4
      have := RcAt.tuples (A := A) (e := fun _ => true) (tup_of N h1) (tup_of N h2) (by omega) h4
      rw [h3, all_tt] at this
      exact this
    have strE : ∀ (A : Around) (x : Str) (u v : Tok), EqAt A s (.str x u) (.str x v) true := fun A x u v => by
      have := EqAt.str_str (A := A) (s := s) x u x v
      rwa [beq_self_eq_true] at this
    have intE : ∀ (A : Around) (x : Int) (u v : Tok), EqAt A s (.int x u) (.int x v) true := fun A x u v => by
      have := EqAt.int_int (A := A) (s := s) x u x v
      rwa [beq_self_eq_true] at this
    have two : ∀ (vs ws : Array Value) (A : Around) (x : Str) (n : Int) (t1 t2 u1 u2 : Tok), vs = #[.str x t1, .int n t2] → ws = #[.str x u1, .int n u2] → ∀ j (h1 : j < vs.size) (h2 : j < ws.size), EqAt A s vs[j] ws[j] true := by
      rintro _ _ A x n t1 t2 u1 u2 rfl rfl j h1 h2
      have : j = 0 ∨ j = 1 := by simp at h1; omega
      rcases this with rfl | rfl
      · exact strE _ _ _ _
      · exact intE _ _ _ _
    cases ha with
    | v p => cases hb with | v q => exact leaf p q rfl (two _ _ _ _ _ _ _ _ _ rfl rfl)
    | a p => cases hb with | a q => exact leaf p q rfl (two _ _ _ _ _ _ _ _ _ rfl rfl)
    | i p => cases hb with | i q => exact leaf p q rfl (two _ _ _ _ _ _ _ _ _ rfl rfl)
    | s1 p1 p2 p3 =>
      cases hb with
      | s1 q1 q2 q3 =>
        rename_i a2 f _ _ x tx b2 _ _ y
        refine leaf p1 q1 rfl fun j h1 h2 => ?_
        have : j = 0 ∨ j = 1 ∨ j = 2 := by simp at h1; omega
        rcases this with rfl | rfl | rfl
        · exact strE _ _ _ _
        · exact intE _ _ _ _
        · show EqAt A.in1 s (.ref a2) (.ref b2) true
          by_cases h3 : a2 = b2
          · subst h3; exact EqAt.same _
          refine EqAt.of_refs h3 ?_
          have hsz : (Tm.s1 f tx).size = 1 + tx.size := rfl
          have := RcAt.tuples (A := A.in1) (e := fun _ => true) (tup_of N p2) (tup_of N q2) (by rw [Around.in1_units]; omega) (fun j h1 h2 => by
            have : j = 0 := by simp at h1; omega
            subst this
            exact tm_eq N tx A.in1.in1 x y (by simp only [Around.in1_units]; omega) p3 q3)
          exact (all_tt _ _ ▸ this)
    | s2 p1 p2 p3 p4 =>
      cases hb with
      | s2 q1 q2 q3 q4 =>
        rename_i a2 f _ _ x1 x2 tx ty b2 _ _ y1 y2
        refine leaf p1 q1 rfl fun j h1 h2 => ?_
        have : j = 0 ∨ j = 1 ∨ j = 2 := by simp at h1; omega
        rcases this with rfl | rfl | rfl
        · exact strE _ _ _ _
        · exact intE _ _ _ _
        · show EqAt A.in1 s (.ref a2) (.ref b2) true
          by_cases h3 : a2 = b2
          · subst h3; exact EqAt.same _
          refine EqAt.of_refs h3 ?_
          have hsz : (Tm.s2 f tx ty).size = 1 + tx.size + ty.size := rfl
          have := RcAt.tuples (A := A.in1) (e := fun _ => true) (tup_of N p2) (tup_of N q2) (by rw [Around.in1_units]; omega) (fun j h1 h2 => by
            have : j = 0 ∨ j = 1 := by simp at h1; omega
            rcases this with rfl | rfl
            · exact tm_eq N tx A.in1.in1 x1 y1 (by simp only [Around.in1_units]; omega) p3 q3
            · exact tm_eq N ty A.in1.in1 x2 y2 (by simp only [Around.in1_units]; omega) p4 q4)
          exact (all_tt _ _ ▸ this)
end
end Mine
namespace Mine
open PySem PySem.W PyProof.Rows PySem.Calls PySem.SeqAt
section
variable {A : Around} {s : Shared} {h₀ : Heap} {L a b : Addr} {T news : List (Addr × Obj)} {t : Tm} {tb ub : Tok} {w : World} {E : Value → Shared → Prop} {Q : Value → Shared → Prop}
theorem ne_nil_t (e : t.isNil = false) (N : News h₀ L s.heap news) (ht : TmIn T a t) (hT : ∀ p ∈ T, p ∈ news) (hb : (b, tupO #[.str (Str.ofString "a") tb, .int 0 ub]) ∈ news) (hu : A.units < cLine) (h : Q (.bool true) s) :
    wpAny (model PySem.Challenge.rw_no0155_01.row.prog w) A (compareOp .NotEq (.ref a) (.ref b)) Q E s := ne_nil_w N ht hT hb hu (by rw [e]; exact h)
theorem ne_nil_f (e : t.isNil = true) (N : News h₀ L s.heap news) (ht : TmIn T a t) (hT : ∀ p ∈ T, p ∈ news) (hb : (b, tupO #[.str (Str.ofString "a") tb, .int 0 ub]) ∈ news) (hu : A.units < cLine) (h : Q (.bool false) s) :
    wpAny (model PySem.Challenge.rw_no0155_01.row.prog w) A (compareOp .NotEq (.ref a) (.ref b)) Q E s := ne_nil_w N ht hT hb hu (by rw [e]; exact h)
theorem eq_nil_f (e : t.isNil = false) (N : News h₀ L s.heap news) (ht : TmIn T a t) (hT : ∀ p ∈ T, p ∈ news) (hb : (b, tupO #[.str (Str.ofString "a") tb, .int 0 ub]) ∈ news) (hu : A.units < cLine) (h : Q (.bool false) s) :
    wpAny (model PySem.Challenge.rw_no0155_01.row.prog w) A (compareOp .Eq (.ref a) (.ref b)) Q E s := eq_nil_w N ht hT hb hu (by rw [e]; exact h)
theorem eq_nil_t (e : t.isNil = true) (N : News h₀ L s.heap news) (ht : TmIn T a t) (hT : ∀ p ∈ T, p ∈ news) (hb : (b, tupO #[.str (Str.ofString "a") tb, .int 0 ub]) ∈ news) (hu : A.units < cLine) (h : Q (.bool true) s) :
    wpAny (model PySem.Challenge.rw_no0155_01.row.prog w) A (compareOp .Eq (.ref a) (.ref b)) Q E s := eq_nil_w N ht hT hb hu (by rw [e]; exact h)
end
end Mine
end

section
set_option maxRecDepth 100000
set_option maxHeartbeats 1000000
set_option Elab.async false
namespace Mine
open PySem PySem.W PyProof.Rows PySem.Calls PySem.Spec
/-- a tree that changes no object's dict and calls nothing -/
def Meek {α : Type} : Sem α → Prop
  | .pure _ | .raise _ | .unsupported _ | .finish _ => True
  | .rule _ k | .at _ k | .point _ k => Meek (k ())
  | .load _ _ k => ∀ o, Meek (k o)
  | .update _ _ f k => (∀ o : Obj, (f o).dict = o.dict ∧ (o.isFreed = false → (f o).isFreed = false)) ∧ Meek (k ())
  | .loadIfAlive _ k => ∀ o, Meek (k o)
  | .alloc _ k => ∀ a, Meek (k a)
  | .fresh k => ∀ t, Meek (k t)
  | .ask k => ∀ x, Meek (k x)
  | .handled _ k => ∀ v, Meek (k v)
  | .stack k => ∀ l, Meek (k l)
  | .thread k => ∀ n, Meek (k n)
  | _ => False
/-- every object keeps its dict -/
def Dicts (h h' : Heap) : Prop := ∀ b o, h.get? b = some o → ∃ o', h'.get? b = some o' ∧ o'.dict = o.dict
theorem Dicts.refl (h : Heap) : Dicts h h := fun _ o e => ⟨o, e, rfl⟩
theorem Dicts.trans {h h' h'' : Heap} (x : Dicts h h') (y : Dicts h' h'') : Dicts h h'' := fun b o e => let ⟨_, e1, d1⟩ := x b o e; let ⟨o2, e2, d2⟩ := y b _ e1; ⟨o2, e2, d2.trans d1⟩
theorem Dicts.push (h : Heap) (o : Obj) : Dicts h (h.push o) := fun _ o e => ⟨o, Heap.get?_push_of_some _ e, rfl⟩
theorem Dicts.update (h : Heap) (a : Addr) (f : Obj → Obj) (hf : ∀ o : Obj, (f o).dict = o.dict ∧ (o.isFreed = false → (f o).isFreed = false)) : Dicts h (h.update a f) := fun b o e => by
  by_cases hab : a = b
  · subst hab
    exact ⟨f o, Heap.get?_update_self f e ((hf o).2 (Heap.get?_some_iff.mp e).2), (hf o).1⟩
  · exact ⟨o, by rw [Heap.get?_update_other _ _ hab]; exact e, rfl⟩
theorem wp_meek {α : Type} {M : Model} {Γ : PySem.Ctx} {t : Sem α} : ∀ {Q : α → Pos → Shared → Prop} {E : Value → Pos → Shared → Prop} {p : Pos} {s : Shared}, Meek t → Sem.wp M Γ t Q E p s → Sem.wp M Γ t (fun a p' s' => Q a p' s' ∧ Dicts s.heap s'.heap) E p s := by
  induction t with
  | pure a => intro Q E p s _ h; rw [Sem.wp] at h ⊢; exact ⟨h, Dicts.refl _⟩
  | raise e => intro Q E p s _ h; rw [Sem.wp] at h ⊢; exact h
  | unsupported w => intro Q E p s _ h; rw [Sem.wp] at h; exact h.elim
  | finish w => intro Q E p s _ h; rw [Sem.wp] at h; exact h.elim
  | rule g k ih => intro Q E p s m h; rw [Sem.wp] at h ⊢; exact ih () m h
  | «at» g k ih => intro Q E p s m h; rw [Sem.wp] at h ⊢; exact ih () m h
  | point g k ih => intro Q E p s m h; rw [Sem.wp] at h ⊢; exact ih () m h
  | load a part k ih => intro Q E p s m h; rw [Sem.wp] at h ⊢; obtain ⟨o, e, h⟩ := h; exact ⟨o, e, ih o (m o) h⟩
  | update a part f k ih =>
    intro Q E p s m h; rw [Sem.wp] at h ⊢
    refine ⟨h.1, Sem.wp_mono _ _ _ (fun _ p' s' x => ⟨x.1, (Dicts.update s.heap a _ m.1).trans x.2⟩) (fun _ _ _ x => x) _ _ (ih () m.2 h.2)⟩
  | loadIfAlive a k ih => intro Q E p s m h; rw [Sem.wp] at h ⊢; exact ih _ (m _) h
  | alloc o k ih =>
    intro Q E p s m h; rw [Sem.wp] at h ⊢
    exact Sem.wp_mono _ _ _ (fun a p' s' x => ⟨x.1, (Dicts.push s.heap o).trans x.2⟩) (fun _ _ _ x => x) _ _ (ih _ (m _) h)
  | fresh k ih => intro Q E p s m h; rw [Sem.wp] at h ⊢; exact ih _ (m _) h
  | ask k ih => intro Q E p s m h; rw [Sem.wp] at h ⊢; exact ih _ (m _) h
  | handled o k ih => intro Q E p s m h; rw [Sem.wp] at h ⊢; exact ih _ (m _) h
  | stack k ih => intro Q E p s m h; rw [Sem.wp] at h ⊢; exact ih _ (m _) h
  | thread k ih => intro Q E p s m h; rw [Sem.wp] at h ⊢; exact ih _ (m _) h
  | _ => intro Q E p s m; exact absurd m (by unfold Meek; exact fun x => x)
theorem wpAny_meek {α : Type} {M : Model} {A : Around} {t : Sem α} {Q : α → Shared → Prop} {E : Value → Shared → Prop} {s : Shared} (m : Meek t) (h : wpAny M A t Q E s) : wpAny M A t (fun a s' => Q a s' ∧ Dicts s.heap s'.heap) E s :=
  fun Γ p hΓ => wp_meek m (h Γ p hΓ)
theorem Meek.bind {α β : Type} {t : Sem α} {f : α → Sem β} (h : Meek t) (k : ∀ a, Meek (f a)) : Meek (t >>= f) := by
  show Meek (t.bind f)
  induction t with
  | pure a => exact k a
  | raise e => exact trivial
  | unsupported w => exact trivial
  | finish w => exact trivial
  | rule g q ih => exact ih () h
  | «at» g q ih => exact ih () h
  | point g q ih => exact ih () h
  | load a part q ih => exact fun o => ih o (h o)
  | update a part g q ih => exact ⟨h.1, ih () h.2⟩
  | loadIfAlive a q ih => exact fun o => ih o (h o)
  | alloc o q ih => exact fun a => ih a (h a)
  | fresh q ih => exact fun a => ih a (h a)
  | ask q ih => exact fun a => ih a (h a)
  | handled o q ih => exact fun a => ih a (h a)
  | stack q ih => exact fun a => ih a (h a)
  | thread q ih => exact fun a => ih a (h a)
  | _ => exact absurd h (by unfold Meek; exact fun x => x)
theorem Meek.pure {α : Type} (a : α) : Meek (Pure.pure a : Sem α) := trivial
theorem Meek.map {α β : Type} {t : Sem α} {f : α → β} (h : Meek t) : Meek (f <$> t) := Meek.bind h fun a => Meek.pure (f a)
theorem meek_load (a : Addr) : Meek (load a) := fun _ => trivial
theorem meek_stack : Meek stack := fun _ => trivial
theorem meek_alloc (o : Obj) : Meek (alloc o) := fun _ => trivial
theorem meek_unsup {α : Type} (x : String) : Meek (unsupported x : Sem α) := trivial

theorem Meek.ite {α : Type} {c : Prop} [Decidable c] {a b : Sem α} (h : Meek a) (k : Meek b) : Meek (if c then a else b) := by split <;> assumption
theorem meek_fieldsOf (v : Value) : Meek (fieldsOf v) := by
  unfold fieldsOf
  split
  · refine Meek.bind (meek_load _) fun o => ?_
    split
    · exact Meek.pure _
    · exact meek_unsup _
  · exact meek_unsup _
theorem meek_field (v : Value) (i : Nat) : Meek (field v i) := by
  unfold field
  refine Meek.bind (meek_fieldsOf _) fun vs => ?_
  split
  · exact Meek.pure _
  · exact meek_unsup _
theorem fields_free (o : Obj) (f : Array Value → Array Value) : (Obj.mapFields f o).dict = o.dict ∧ (o.isFreed = false → (Obj.mapFields f o).isFreed = false) := by
  obtain ⟨c, d, dt, sl⟩ := o
  cases dt <;> exact ⟨rfl, fun h => h⟩
theorem meek_setField (v : Value) (i : Nat) (x : Value) : Meek (setField v i x) := by
  unfold setField
  split
  · unfold updateField
    refine Meek.bind (meek_load _) fun o => ?_
    split
    · refine Meek.ite ⟨fun o => fields_free o _, trivial⟩ (meek_unsup _)
    · exact meek_unsup _
  · exact meek_unsup _
theorem meek_setFlight (v : Value) (f : Option Addr) : Meek (setFlight v f) := by
  unfold setFlight
  refine Meek.bind (meek_field _ _) fun tb => ?_
  split
  · exact meek_setField _ _ _
  · exact Meek.pure _
theorem meek_import (env : Env) (outer : List Env) : Meek (behindIsImport env outer) := by
  unfold behindIsImport
  repeat first | exact Meek.pure _ | (refine Meek.ite ?_ ?_) | exact Meek.bind (meek_field _ _) fun _ => Meek.pure _ | (refine Meek.bind (Meek.pure _) fun _ => ?_)
theorem meek_kept (env : Env) (b : Bool) (outer : List Env) : Meek (keptBack env b outer) := by
  unfold keptBack
  split
  · refine Meek.ite (Meek.pure _) (Meek.bind ?_ fun _ => Meek.pure _)
    unfold underTheClaimsCaller
    exact Meek.bind meek_stack fun _ => Meek.pure _
  · exact Meek.pure _
theorem meek_ready : ∀ l : List Env, Meek (readyFrames l)
  | [] => Meek.pure _
  | env :: outer => by
    unfold readyFrames
    split
    · refine Meek.bind (meek_load _) fun o => ?_
      refine Meek.ite (Meek.pure _) ?_
      refine Meek.bind (meek_import _ _) fun b => Meek.bind (meek_kept _ _ _) fun v => Meek.bind ⟨fun o => ⟨rfl, fun h => by obtain ⟨c, d, dt, sl⟩ := o; cases dt <;> exact h⟩, trivial⟩ fun _ => meek_ready outer
    · exact meek_unsup _
theorem meek_frameOf (env : Env) : Meek (PySem.frameOf env) := by
  unfold PySem.frameOf
  refine Meek.bind (Meek.bind meek_stack fun _ => Meek.pure _) fun l => ?_
  refine Meek.bind ?_ fun r => ?_
  · unfold frameObject
    split
    · exact Meek.pure _
    · exact Meek.bind (meek_ready _) fun _ => Meek.pure _
  · split
    · exact Meek.pure _
    · exact meek_unsup _
theorem meek_place (f : Addr) (b : Bool) : Meek (entryPlaceOf f b) := by
  unfold entryPlaceOf
  refine Meek.bind meek_stack fun l => ?_
  split <;> exact Meek.pure _
theorem meek_newFields (ty : String) (vs : List Value) : Meek (newFields ty vs) := by
  unfold newFields newObj
  have tl : Meek (newObjAsIs (.type ty) (.fields vs.toArray)) := by
    unfold newObjAsIs
    exact Meek.bind (meek_alloc _) fun a => Meek.pure _
  dsimp only
  exact Meek.ite (Meek.bind (meek_unsup _) fun _ => tl) tl
theorem meek_note (e : Value) (env : Env) : Meek (noteFrame e env) := by
  unfold noteFrame
  split
  · refine Meek.bind (meek_field _ _) fun h => ?_
    have tl : ∀ h : Value, Meek (do setField e 1 (← EntryCells.newEntry h (← frameOf env) .none (rawInt ‹Addr›) .none (← entryPlaceOf ‹Addr› (h != .none))) : Sem Unit) := fun h => by
      refine Meek.bind (meek_frameOf _) fun fr => Meek.bind (meek_place _ _) fun pl => Meek.bind ?_ fun en => meek_setField _ _ _
      unfold EntryCells.newEntry
      exact meek_newFields _ _
    split
    · refine Meek.bind (meek_field _ _) fun q => ?_
      split
      · exact Meek.pure _
      · exact Meek.bind (meek_setField _ _ _) fun _ => tl h
    · exact tl h
  · exact meek_unsup _
theorem meek_leaving (env : Env) (e : Value) : Meek (leaving env e) := Meek.bind (meek_note _ _) fun _ => meek_setFlight _ _
end Mine
end

section
set_option maxRecDepth 100000
set_option maxHeartbeats 1000000
set_option Elab.async false
namespace Mine
open PySem PySem.W PyProof.Rows PySem.Calls PyProof.V PySem.Spec
/-- the tag and the number of a term's tuple -/
def Tm.tag : Tm → Str
  | .v _ => Str.ofString "v"
  | .a _ => Str.ofString "a"
  | .i _ => Str.ofString "i"
  | _ => Str.ofString "s"
def Tm.nm : Tm → Int
  | .v n => n
  | .a n => n
  | .i n => n
  | .s1 f _ => f
  | .s2 f _ _ => f
theorem TmIn.top {T : List (Addr × Obj)} {e : Addr} {t : Tm} (h : TmIn T e t) : ∃ l t1 t2, (e, tupO (Value.str t.tag t1 :: Value.int t.nm t2 :: l).toArray) ∈ T := by
  cases h with
  | v p => exact ⟨[], _, _, p⟩
  | a p => exact ⟨[], _, _, p⟩
  | i p => exact ⟨[], _, _, p⟩
  | s1 p _ _ => exact ⟨[_], _, _, p⟩
  | s2 p _ _ _ => exact ⟨[_], _, _, p⟩
/-- a row, a list's cell or an indicator: opened -/
theorem TmIn.open {T : List (Addr × Obj)} {e : Addr} {t : Tm} {f : Int} (h : TmIn T e t) (ok : t.Ok) (ht : t.tag = Str.ofString "s") (hn : t.nm = f) (hf : f = 0 ∨ f = 1 ∨ f = 15) :
    ∃ b x y t1 t2 tx ty, t = .s2 f tx ty ∧ (e, tupO #[.str (Str.ofString "s") t1, .int f t2, .ref b]) ∈ T ∧ (b, tupO #[.ref x, .ref y]) ∈ T ∧ TmIn T x tx ∧ TmIn T y ty ∧ tx.Ok ∧ ty.Ok ∧ t.size = 1 + tx.size + ty.size := by
  cases h with
  | v p => exact absurd ht (show ¬ (Str.ofString "v" = Str.ofString "s") by decide)
  | a p => exact absurd ht (show ¬ (Str.ofString "a" = Str.ofString "s") by decide)
  | i p => exact absurd ht (show ¬ (Str.ofString "i" = Str.ofString "s") by decide)
  | s1 p _ _ =>
    subst hn
    obtain ⟨⟨h1, h2, h3⟩, _⟩ := ok
    rcases hf with q | q | q
    · exact absurd q h1
    · exact absurd q h2
    · exact absurd q h3
  | s2 p q r u => subst hn; exact ⟨_, _, _, _, _, _, _, rfl, p, q, r, u, ok.1, ok.2, rfl⟩
theorem idx0 (n : Nat) : seqIndex? 0 (n + 1 + 1) = some 0 := by
  unfold seqIndex?
  simp
  omega
theorem idx1 (n : Nat) : seqIndex? 1 (n + 1 + 1) = some 1 := by
  unfold seqIndex?
  simp
  all_goals omega
section
variable {prog : Program} {w : World} {A : Around} {E : Value → Shared → Prop} {s : Shared} {h₀ : Heap} {L a : Addr} {m : Str → Option Value} {cn : Str} {cs : Scope} {ccd : Value} {cl : List (Str × Addr)} {x : Str} {p1 p2 p3 p4 p5 : Pos} {k1 k2 : Nat} {e : Addr} {t : Tm} {T news : List (Addr × Obj)}
/-- x[0] -/
theorem sub_tag {Q : Value → Shared → Prop} (F : Fr h₀ L s.heap m) (hx : m x = some (.ref e)) (N : News h₀ L s.heap news) (ht : TmIn T e t) (hT : ∀ p ∈ T, p ∈ news)
    (h : ∀ tk tt, Q (.str t.tag tk) { s with toks := tt })
    (hk : cs.kind = .function := by rfl) (hl : (envX cn cs L a ccd cl).kindOf x = some .local := by rfl) (hd : (x == ("__debug__" : Str)) = false := by decide) :
    wpAny (model prog w) A (eval (.Subscript (.Name x p1) (.Constant (.int 0) k1 p2) p3) (envX cn cs L a ccd cl)) Q E s := by
  obtain ⟨l, t1, t2, hm⟩ := ht.top
  refine Subscript_ (nameX_L F hx (wpAny_Constant_int ?_) hk hl hd)
  exact item_tupleT (News.isTup N (hT _ hm)) (by decide) (by decide) (j := 0) (idx0 _) rfl (h _ _)
/-- x[1] -/
theorem sub_num {Q : Value → Shared → Prop} (F : Fr h₀ L s.heap m) (hx : m x = some (.ref e)) (N : News h₀ L s.heap news) (ht : TmIn T e t) (hT : ∀ p ∈ T, p ∈ news)
    (h : ∀ tk tt, Q (.int t.nm tk) { s with toks := tt })
    (hk : cs.kind = .function := by rfl) (hl : (envX cn cs L a ccd cl).kindOf x = some .local := by rfl) (hd : (x == ("__debug__" : Str)) = false := by decide) :
    wpAny (model prog w) A (eval (.Subscript (.Name x p1) (.Constant (.int 1) k1 p2) p3) (envX cn cs L a ccd cl)) Q E s := by
  obtain ⟨l, t1, t2, hm⟩ := ht.top
  refine Subscript_ (nameX_L F hx (wpAny_Constant_int ?_) hk hl hd)
  exact item_tupleT (News.isTup N (hT _ hm)) (by decide) (by decide) (j := 1) (idx1 _) rfl (h _ _)
/-- x[2] -/
theorem sub_two {Q : Value → Shared → Prop} {v0 v1 : Value} {b : Addr} (F : Fr h₀ L s.heap m) (hx : m x = some (.ref e)) (N : News h₀ L s.heap news) (hm : (e, tupO #[v0, v1, .ref b]) ∈ news)
    (h : ∀ tt, Q (.ref b) { s with toks := tt })
    (hk : cs.kind = .function := by rfl) (hl : (envX cn cs L a ccd cl).kindOf x = some .local := by rfl) (hd : (x == ("__debug__" : Str)) = false := by decide) :
    wpAny (model prog w) A (eval (.Subscript (.Name x p1) (.Constant (.int 2) k1 p2) p3) (envX cn cs L a ccd cl)) Q E s := by
  refine Subscript_ (nameX_L F hx (wpAny_Constant_int ?_) hk hl hd)
  exact item_tupleT (l := [v0, v1, .ref b]) (News.isTup N hm) (by decide) (by decide) (j := 2) (by rfl) rfl (h _)
/-- x[2][0], x[2][1] -/
theorem sub_kid {Q : Value → Shared → Prop} {v0 v1 y0 y1 : Value} {b : Addr} (F : Fr h₀ L s.heap m) (hx : m x = some (.ref e)) (N : News h₀ L s.heap news) (hm : (e, tupO #[v0, v1, .ref b]) ∈ news) (hb : (b, tupO #[y0, y1]) ∈ news)
    (h : ∀ tt, Q y0 { s with toks := tt })
    (hk : cs.kind = .function := by rfl) (hl : (envX cn cs L a ccd cl).kindOf x = some .local := by rfl) (hd : (x == ("__debug__" : Str)) = false := by decide) :
    wpAny (model prog w) A (eval (.Subscript (.Subscript (.Name x p1) (.Constant (.int 2) k1 p2) p3) (.Constant (.int 0) k2 p4) p5) (envX cn cs L a ccd cl)) Q E s := by
  refine Subscript_ (sub_two F hx N hm (fun tt => wpAny_Constant_int ?_) hk hl hd)
  exact item_tupleT (l := [y0, y1]) (News.isTup N hb) (by decide) (by decide) (j := 0) (by rfl) rfl (h _)
theorem sub_kid1 {Q : Value → Shared → Prop} {v0 v1 y0 y1 : Value} {b : Addr} (F : Fr h₀ L s.heap m) (hx : m x = some (.ref e)) (N : News h₀ L s.heap news) (hm : (e, tupO #[v0, v1, .ref b]) ∈ news) (hb : (b, tupO #[y0, y1]) ∈ news)
    (h : ∀ tt, Q y1 { s with toks := tt })
    (hk : cs.kind = .function := by rfl) (hl : (envX cn cs L a ccd cl).kindOf x = some .local := by rfl) (hd : (x == ("__debug__" : Str)) = false := by decide) :
    wpAny (model prog w) A (eval (.Subscript (.Subscript (.Name x p1) (.Constant (.int 2) k1 p2) p3) (.Constant (.int 1) k2 p4) p5) (envX cn cs L a ccd cl)) Q E s := by
  refine Subscript_ (sub_two F hx N hm (fun tt => wpAny_Constant_int ?_) hk hl hd)
  exact item_tupleT (l := [y0, y1]) (News.isTup N hb) (by decide) (by decide) (j := 1) (by rfl) rfl (h _)
theorem eq_strD {u v : Tok} {x y : Str} {Q : Value → Shared → Prop} (h1 : x = y → Q (.bool true) s) (h2 : x ≠ y → Q (.bool false) s) : wpAny (model prog w) A (compareOp .Eq (.str x u) (.str y v)) Q E s := by
  refine PySem.P.eq_str ?_
  by_cases h : x = y
  · subst h; rw [beq_self_eq_true]; exact h1 rfl
  · rw [beq_eq_false_iff_ne.mpr fun q => h (by cases x; cases y; exact congrArg Str.mk (Array.toList_inj.mp q))]; exact h2 h
theorem ne_strD {u v : Tok} {x y : Str} {Q : Value → Shared → Prop} (h1 : x ≠ y → Q (.bool true) s) (h2 : x = y → Q (.bool false) s) : wpAny (model prog w) A (compareOp .NotEq (.str x u) (.str y v)) Q E s := by
  refine PySem.P.ne_str ?_
  by_cases h : x = y
  · subst h; rw [bne_self_eq_false]; exact h2 rfl
  · rw [bne, beq_eq_false_iff_ne.mpr fun q => h (by cases x; cases y; exact congrArg Str.mk (Array.toList_inj.mp q))]; exact h1 h
/-- x[0] == 'c' -/
theorem test_tag {c : Str} {whole : Sem Value} {Q : Bool → Shared → Prop} (F : Fr h₀ L s.heap m) (hx : m x = some (.ref e)) (N : News h₀ L s.heap news) (ht : TmIn T e t) (hT : ∀ p ∈ T, p ∈ news)
    (h1 : t.tag = c → ∀ tt, Q true { s with toks := tt }) (h2 : t.tag ≠ c → ∀ tt, Q false { s with toks := tt })
    (hk : cs.kind = .function := by rfl) (hl : (envX cn cs L a ccd cl).kindOf x = some .local := by rfl) (hd : (x == ("__debug__" : Str)) = false := by decide) :
    wpAny (model prog w) A (isTrue (.Compare (.Subscript (.Name x p1) (.Constant (.int 0) k1 p2) p3) [.Eq] [.Constant (.str c) k2 p4] p5) (envX cn cs L a ccd cl) whole) Q E s := by
  refine wpAny_isTrue_Compare1 (sub_tag F hx N ht hT (fun tk tt => wpAny_Constant_str (eq_strD (fun q => wpAny_truthy_bool ?_) (fun q => wpAny_truthy_bool ?_))) hk hl hd) (by rfl)
  · exact h1 q _
  · exact h2 q _
/-- x[0] != 'c' -/
theorem test_tagN {c : Str} {whole : Sem Value} {Q : Bool → Shared → Prop} (F : Fr h₀ L s.heap m) (hx : m x = some (.ref e)) (N : News h₀ L s.heap news) (ht : TmIn T e t) (hT : ∀ p ∈ T, p ∈ news)
    (h1 : t.tag ≠ c → ∀ tt, Q true { s with toks := tt }) (h2 : t.tag = c → ∀ tt, Q false { s with toks := tt })
    (hk : cs.kind = .function := by rfl) (hl : (envX cn cs L a ccd cl).kindOf x = some .local := by rfl) (hd : (x == ("__debug__" : Str)) = false := by decide) :
    wpAny (model prog w) A (isTrue (.Compare (.Subscript (.Name x p1) (.Constant (.int 0) k1 p2) p3) [.NotEq] [.Constant (.str c) k2 p4] p5) (envX cn cs L a ccd cl) whole) Q E s := by
  refine wpAny_isTrue_Compare1 (sub_tag F hx N ht hT (fun tk tt => wpAny_Constant_str (ne_strD (fun q => wpAny_truthy_bool ?_) (fun q => wpAny_truthy_bool ?_))) hk hl hd) (by rfl)
  · exact h1 q _
  · exact h2 q _
section
variable {K : Frag} {mg mb : Str → Option Value} {p : Program} {loose : List Str} {y : Str} {f : Int} {u : Tok} {whole : Sem Value} {Q : Bool → Shared → Prop}
/-- x[1] == F -/
theorem test_num (F : Fr h₀ L s.heap m) (hx : m x = some (.ref e)) (N : News h₀ L s.heap news) (ht : TmIn T e t) (hT : ∀ p ∈ T, p ∈ news) (X : K.In h₀) (R : TopRead p loose mg mb h₀) (hy : nsIn K mainGlobals y = some (some (.int f u)))
    (h1 : t.nm = f → ∀ tt, Q true { s with toks := tt }) (h2 : t.nm ≠ f → ∀ tt, Q false { s with toks := tt })
    (hk : cs.kind = .function := by rfl) (hl : (envX cn cs L a ccd cl).kindOf x = some .local := by rfl) (hg : (envX cn cs L a ccd cl).kindOf y = some .globalImplicit := by rfl) (hd : (x == ("__debug__" : Str)) = false := by decide) (hd2 : (y == ("__debug__" : Str)) = false := by decide) :
    wpAny (model prog w) A (isTrue (.Compare (.Subscript (.Name x p1) (.Constant (.int 1) k1 p2) p3) [.Eq] [.Name y p4] p5) (envX cn cs L a ccd cl) whole) Q E s := by
  refine wpAny_isTrue_Compare1 (sub_num F hx N ht hT (fun tk tt => nameX_K (s := { s with toks := tt }) F X R hy (P.eq_int ?_) hk hg hd2) hk hl hd) (by rfl)
  refine wpAny_truthy_bool ?_
  by_cases q : t.nm = f
  · rw [beq_iff_eq.mpr q]; exact h1 q _
  · rw [beq_eq_false_iff_ne.mpr q]; exact h2 q _
/-- x[1] != F -/
theorem test_numN (F : Fr h₀ L s.heap m) (hx : m x = some (.ref e)) (N : News h₀ L s.heap news) (ht : TmIn T e t) (hT : ∀ p ∈ T, p ∈ news) (X : K.In h₀) (R : TopRead p loose mg mb h₀) (hy : nsIn K mainGlobals y = some (some (.int f u)))
    (h1 : t.nm ≠ f → ∀ tt, Q true { s with toks := tt }) (h2 : t.nm = f → ∀ tt, Q false { s with toks := tt })
    (hk : cs.kind = .function := by rfl) (hl : (envX cn cs L a ccd cl).kindOf x = some .local := by rfl) (hg : (envX cn cs L a ccd cl).kindOf y = some .globalImplicit := by rfl) (hd : (x == ("__debug__" : Str)) = false := by decide) (hd2 : (y == ("__debug__" : Str)) = false := by decide) :
    wpAny (model prog w) A (isTrue (.Compare (.Subscript (.Name x p1) (.Constant (.int 1) k1 p2) p3) [.NotEq] [.Name y p4] p5) (envX cn cs L a ccd cl) whole) Q E s := by
  refine wpAny_isTrue_Compare1 (sub_num F hx N ht hT (fun tk tt => nameX_K (s := { s with toks := tt }) F X R hy (P.ne_int ?_) hk hg hd2) hk hl hd) (by rfl)
  refine wpAny_truthy_bool ?_
  by_cases q : t.nm = f
  · rw [bne, beq_iff_eq.mpr q]; exact h2 q _
  · rw [bne, beq_eq_false_iff_ne.mpr q]; exact h1 q _
/-- x[1] < 0 -/
theorem test_neg (F : Fr h₀ L s.heap m) (hx : m x = some (.ref e)) (N : News h₀ L s.heap news) (ht : TmIn T e t) (hT : ∀ p ∈ T, p ∈ news)
    (h1 : t.nm < 0 → ∀ tt, Q true { s with toks := tt }) (h2 : ¬ t.nm < 0 → ∀ tt, Q false { s with toks := tt })
    (hk : cs.kind = .function := by rfl) (hl : (envX cn cs L a ccd cl).kindOf x = some .local := by rfl) (hd : (x == ("__debug__" : Str)) = false := by decide) :
    wpAny (model prog w) A (isTrue (.Compare (.Subscript (.Name x p1) (.Constant (.int 1) k1 p2) p3) [.Lt] [.Constant (.int 0) k2 p4] p5) (envX cn cs L a ccd cl) whole) Q E s := by
  refine wpAny_isTrue_Compare1 (sub_num F hx N ht hT (fun tk tt => wpAny_Constant_int (P.lt_int ?_)) hk hl hd) (by rfl)
  refine wpAny_truthy_bool ?_
  by_cases q : t.nm < 0
  · rw [decide_eq_true q]; exact h1 q _
  · rw [decide_eq_false q]; exact h2 q _
end
/-- 'c' in [a text, a text] -/
theorem in_two {l : Addr} {x y c : Str} {t1 t2 u : Tok} {n : Nat} {Q : Value → Shared → Prop} (N : News h₀ L s.heap news) (hm : (l, listOf [.str x t1, .str y t2].toArray n) ∈ news)
    (h1 : x = c ∨ y = c → Q (.bool true) s) (h2 : x ≠ c → y ≠ c → Q (.bool false) s) : wpAny (model prog w) A (compareOp .In (.str c u) (.ref l)) Q E s := by
  refine in_list_strs (News.isList N hm) (.cons _ _ (.cons _ _ .nil)) ?_
  by_cases q1 : x = c
  · rw [show ([x, y].any fun z => z == c) = true by simp [q1]]; exact h1 (.inl q1)
  · by_cases q2 : y = c
    · rw [show ([x, y].any fun z => z == c) = true by simp [q2]]; exact h1 (.inr q2)
    · rw [show ([x, y].any fun z => z == c) = false by simp [q1, q2]]; exact h2 q1 q2
end
end Mine
end

section
set_option maxRecDepth 100000
set_option maxHeartbeats 1000000
set_option Elab.async false
namespace Mine
open PySem PySem.W PyProof.Rows PySem.Calls PyProof.V PySem.Spec
section
variable {prog : Program} {w : World} {A : Around} {E : Value → Shared → Prop} {s : Shared} {h₀ : Heap} {L a : Addr} {m mg mb : Str → Option Value} {cn : Str} {cs : Scope} {ccd : Value} {cl : List (Str × Addr)} {x : Str} {p1 pos : Pos} {k1 : Nat} {v : Value} {K : Frag} {p : Program} {loose : List Str} {rest : List PySem.Expr} {e : PySem.Expr}
section
variable {Q : List Value → Shared → Prop}
/-- an argument that is a local name, a name of the top, a written text or int: one step -/
theorem arg_name (F : Fr h₀ L s.heap m) (hx : m x = some v) (h : wpAny (model prog w) A (spliced (backTo pos (starEach (e :: rest) (envX cn cs L a ccd cl)))) (fun vs s₂ => Q (v :: vs) s₂) E s)
    (hk : cs.kind = .function := by rfl) (hl : (envX cn cs L a ccd cl).kindOf x = some .local := by rfl) (hd : (x == ("__debug__" : Str)) = false := by decide) :
    wpAny (model prog w) A (spliced (backTo pos (starEach (.Name x p1 :: e :: rest) (envX cn cs L a ccd cl)))) Q E s := args_cons (nameX_L F hx h hk hl hd)
theorem arg_glob {y : Value} (F : Fr h₀ L s.heap m) (X : K.In h₀) (R : TopRead p loose mg mb h₀) (hy : nsIn K mainGlobals x = some (some y)) (h : wpAny (model prog w) A (spliced (backTo pos (starEach (e :: rest) (envX cn cs L a ccd cl)))) (fun vs s₂ => Q (y :: vs) s₂) E s)
    (hk : cs.kind = .function := by rfl) (hl : (envX cn cs L a ccd cl).kindOf x = some .globalImplicit := by rfl) (hd : (x == ("__debug__" : Str)) = false := by decide) :
    wpAny (model prog w) A (spliced (backTo pos (starEach (.Name x p1 :: e :: rest) (envX cn cs L a ccd cl)))) Q E s := args_cons (nameX_K F X R hy h hk hl hd)
theorem arg_str {env : Env} {c : Str} (h : ∀ tk tt, wpAny (model prog w) A (spliced (backTo pos (starEach (e :: rest) env))) (fun vs s₂ => Q (.str c tk :: vs) s₂) E { s with toks := tt }) :
    wpAny (model prog w) A (spliced (backTo pos (starEach (.Constant (.str c) k1 p1 :: e :: rest) env))) Q E s := args_cons (wpAny_Constant_str (h _ _))
theorem arg_int {env : Env} {c : Int} (h : ∀ tk tt, wpAny (model prog w) A (spliced (backTo pos (starEach (e :: rest) env))) (fun vs s₂ => Q (.int c tk :: vs) s₂) E { s with toks := tt }) :
    wpAny (model prog w) A (spliced (backTo pos (starEach (.Constant (.int c) k1 p1 :: e :: rest) env))) Q E s := args_cons (wpAny_Constant_int (h _ _))
/-- the same of the last argument -/
theorem arz_name (F : Fr h₀ L s.heap m) (hx : m x = some v) (h : Q [v] s)
    (hk : cs.kind = .function := by rfl) (hl : (envX cn cs L a ccd cl).kindOf x = some .local := by rfl) (hd : (x == ("__debug__" : Str)) = false := by decide) :
    wpAny (model prog w) A (spliced (backTo pos (starEach (.Name x p1 :: []) (envX cn cs L a ccd cl)))) Q E s := args_cons (nameX_L F hx (args_nil h) hk hl hd)
theorem arz_glob {y : Value} (F : Fr h₀ L s.heap m) (X : K.In h₀) (R : TopRead p loose mg mb h₀) (hy : nsIn K mainGlobals x = some (some y)) (h : Q [y] s)
    (hk : cs.kind = .function := by rfl) (hl : (envX cn cs L a ccd cl).kindOf x = some .globalImplicit := by rfl) (hd : (x == ("__debug__" : Str)) = false := by decide) :
    wpAny (model prog w) A (spliced (backTo pos (starEach (.Name x p1 :: []) (envX cn cs L a ccd cl)))) Q E s := args_cons (nameX_K F X R hy (args_nil h) hk hl hd)
theorem arz_str {env : Env} {c : Str} (h : ∀ tk tt, Q [.str c tk] { s with toks := tt }) :
    wpAny (model prog w) A (spliced (backTo pos (starEach (.Constant (.str c) k1 p1 :: []) env))) Q E s := args_cons (wpAny_Constant_str (args_nil (h _ _)))
theorem arz_int {env : Env} {c : Int} (h : ∀ tk tt, Q [.int c tk] { s with toks := tt }) :
    wpAny (model prog w) A (spliced (backTo pos (starEach (.Constant (.int c) k1 p1 :: []) env))) Q E s := args_cons (wpAny_Constant_int (args_nil (h _ _)))
end
section
variable {Q : Value → Shared → Prop} {f : Addr}
/-- f(..) of a def of the top -/
theorem call_top (F : Fr h₀ L s.heap m) (X : K.In h₀) (R : TopRead p loose mg mb h₀) (hy : nsIn K mainGlobals x = some (some (.ref f))) (hf : keepIn K (.ref f) = true)
    (h : wpAny (model prog w) A (spliced (backTo pos (starEach (e :: rest) (envX cn cs L a ccd cl)))) (fun vs s₁ => K.In s₁.heap ∧ wpAny (model prog w) A (call (.ref f) vs) Q E s₁) E s)
    (h1 : starEach (e :: rest) (envX cn cs L a ccd cl) = (false, eval e (envX cn cs L a ccd cl)) :: starEach rest (envX cn cs L a ccd cl) := by rfl) (h2 : ((backTo pos (starEach rest (envX cn cs L a ccd cl))).any fun x => x.fst) = false := by rfl)
    (hk : cs.kind = .function := by rfl) (hl : (envX cn cs L a ccd cl).kindOf x = some .globalImplicit := by rfl) (hd : (x == ("__debug__" : Str)) = false := by decide) :
    wpAny (model prog w) A (eval (.Call (.Name x p1) (e :: rest) [] pos) (envX cn cs L a ccd cl)) Q E s :=
  Call_ (nameX_K F X R hy (callWith_K X hf h h1 h2) hk hl hd)
end
end
end Mine
end

section
set_option maxRecDepth 100000
set_option maxHeartbeats 1000000
set_option Elab.async false
namespace Mine
open PySem PySem.W PyProof.Rows PySem.Calls PyProof.V PySem.Spec
theorem nil_tag {t : Tm} (h : t.isNil = true) : t.tag = Str.ofString "a" := by
  cases t with
  | a n => rfl
  | _ => exact Bool.noConfusion h
theorem nil_eq {t : Tm} (h : t.isNil = true) : t = .a 0 := by
  cases t with
  | a n => exact congrArg Tm.a (beq_iff_eq.mp h)
  | _ => exact Bool.noConfusion h
section
variable {w : World} {A : Around} {E : Value → Shared → Prop} {s : Shared} {h₀ : Heap} {L a : Addr} {m mg mb : Str → Option Value} {cn : Str} {cs : Scope} {ccd : Value} {cl : List (Str × Addr)} {x y z : Str} {p2' p3' p1 p2 p3 p4 p5 p6 p7 p8 p9 q1 q2 q3 q4 q5 q6 : Pos} {k1 k2 k3 k4 k5 : Nat}
  {e : Addr} {t : Tm} {T news : List (Addr × Obj)} {K : Frag} {p : Program} {loose : List Str} {u u1 : Tok} {whole : Sem Value}
/-- against ('a', A_NIL): the pair made for the look is dropped -/
theorem nil_core {Q : Value → Shared → Prop} (F : Fr h₀ L s.heap m) (N : News h₀ L s.heap news) (ht : TmIn T e t) (hT : ∀ p ∈ T, p ∈ news) (X : K.In h₀) (R : TopRead p loose mg mb h₀) (hz : nsIn K mainGlobals z = some (some (.int 0 u))) (hu : A.units < cLine)
    (h : ∀ h' tt, Fr h₀ L h' m → News h₀ L h' news → Q (.bool !t.isNil) { s with heap := h', toks := tt })
    (hk : cs.kind = .function := by rfl) (hg : (envX cn cs L a ccd cl).kindOf z = some .globalImplicit := by rfl) (hd1 : (z == ("__debug__" : Str)) = false := by decide) :
    wpAny (model PySem.Challenge.rw_no0155_01.row.prog w) A (eval (.Tuple [.Constant (.str (Str.ofString "a")) k1 p2, .Name z p3] k2 p4) (envX cn cs L a ccd cl)) (fun b s₂ => wpAny (model PySem.Challenge.rw_no0155_01.row.prog w) A (compareOp .NotEq (.ref e) b) Q E s₂) E s :=
  Tuple_ (args_cons (wpAny_Constant_str (args_cons (nameX_K (s := { s with toks := s.toks + 1 }) F X R hz (args_nil (kup_newTuple (s := { s with toks := s.toks + 1 }) F N (fun D h' F' N' _ =>
    ne_nil_w (s := { s with heap := h', toks := s.toks + 1 }) N' ht (fun p hp => List.mem_cons_of_mem _ (hT p hp)) List.mem_cons_self hu (h h' _ F' (News.sub N' fun p hp => List.mem_cons_of_mem _ hp))) (show 2 ≤ sizeLine by decide))) hk hg hd1))))
theorem nil_coreE {Q : Value → Shared → Prop} (F : Fr h₀ L s.heap m) (N : News h₀ L s.heap news) (ht : TmIn T e t) (hT : ∀ p ∈ T, p ∈ news) (X : K.In h₀) (R : TopRead p loose mg mb h₀) (hz : nsIn K mainGlobals z = some (some (.int 0 u))) (hu : A.units < cLine)
    (h : ∀ h' tt, Fr h₀ L h' m → News h₀ L h' news → Q (.bool t.isNil) { s with heap := h', toks := tt })
    (hk : cs.kind = .function := by rfl) (hg : (envX cn cs L a ccd cl).kindOf z = some .globalImplicit := by rfl) (hd1 : (z == ("__debug__" : Str)) = false := by decide) :
    wpAny (model PySem.Challenge.rw_no0155_01.row.prog w) A (eval (.Tuple [.Constant (.str (Str.ofString "a")) k1 p2, .Name z p3] k2 p4) (envX cn cs L a ccd cl)) (fun b s₂ => wpAny (model PySem.Challenge.rw_no0155_01.row.prog w) A (compareOp .Eq (.ref e) b) Q E s₂) E s :=
  Tuple_ (args_cons (wpAny_Constant_str (args_cons (nameX_K (s := { s with toks := s.toks + 1 }) F X R hz (args_nil (kup_newTuple (s := { s with toks := s.toks + 1 }) F N (fun D h' F' N' _ =>
    eq_nil_w (s := { s with heap := h', toks := s.toks + 1 }) N' ht (fun p hp => List.mem_cons_of_mem _ (hT p hp)) List.mem_cons_self hu (h h' _ F' (News.sub N' fun p hp => List.mem_cons_of_mem _ hp))) (show 2 ≤ sizeLine by decide))) hk hg hd1))))
/-- x != ('a', A_NIL) -/
theorem test_nil {Q : Bool → Shared → Prop} (F : Fr h₀ L s.heap m) (hx : m x = some (.ref e)) (N : News h₀ L s.heap news) (ht : TmIn T e t) (hT : ∀ p ∈ T, p ∈ news) (X : K.In h₀) (R : TopRead p loose mg mb h₀) (hz : nsIn K mainGlobals z = some (some (.int 0 u))) (hu : A.units < cLine)
    (h1 : t.isNil = false → ∀ h' tt, Fr h₀ L h' m → News h₀ L h' news → Q true { s with heap := h', toks := tt }) (h2 : t.isNil = true → ∀ h' tt, Fr h₀ L h' m → News h₀ L h' news → Q false { s with heap := h', toks := tt })
    (hk : cs.kind = .function := by rfl) (hl : (envX cn cs L a ccd cl).kindOf x = some .local := by rfl) (hg : (envX cn cs L a ccd cl).kindOf z = some .globalImplicit := by rfl) (hd : (x == ("__debug__" : Str)) = false := by decide) (hd1 : (z == ("__debug__" : Str)) = false := by decide) :
    wpAny (model PySem.Challenge.rw_no0155_01.row.prog w) A (isTrue (.Compare (.Name x p1) [.NotEq] [(.Tuple [.Constant (.str (Str.ofString "a")) k1 p2, .Name z p3] k2 p4)] p5) (envX cn cs L a ccd cl) whole) Q E s := by
  refine wpAny_isTrue_Compare1 (nameX_L F hx (nil_core F N ht hT X R hz hu (fun h' tt F' N' => wpAny_truthy_bool ?_) hk hg hd1) hk hl hd) (by rfl)
  cases hn : t.isNil with
  | true => exact h2 hn h' tt F' N'
  | false => exact h1 hn h' tt F' N'
/-- x != ('a', A_NIL) and (x[0] != 's' or x[1] != F) -/
theorem test_leaf {Q : Bool → Shared → Prop} (F : Fr h₀ L s.heap m) (hx : m x = some (.ref e)) (N : News h₀ L s.heap news) (ht : TmIn T e t) (hT : ∀ p ∈ T, p ∈ news) (X : K.In h₀) (R : TopRead p loose mg mb h₀) (hz : nsIn K mainGlobals z = some (some (.int 0 u))) (hu : A.units < cLine) (hy : nsIn K mainGlobals y = some (some (.int 0 u1)))
    (h1 : t.isNil = false ∧ (t.tag ≠ Str.ofString "s" ∨ t.nm ≠ 0) → ∀ h' tt, Fr h₀ L h' m → News h₀ L h' news → Q true { s with heap := h', toks := tt })
    (h2 : t.isNil = true ∨ (t.tag = Str.ofString "s" ∧ t.nm = 0) → ∀ h' tt, Fr h₀ L h' m → News h₀ L h' news → Q false { s with heap := h', toks := tt })
    (hk : cs.kind = .function := by rfl) (hl : (envX cn cs L a ccd cl).kindOf x = some .local := by rfl) (hg : (envX cn cs L a ccd cl).kindOf z = some .globalImplicit := by rfl) (hd : (x == ("__debug__" : Str)) = false := by decide) (hd1 : (z == ("__debug__" : Str)) = false := by decide) (hg2 : (envX cn cs L a ccd cl).kindOf y = some .globalImplicit := by rfl) (hd2 : (y == ("__debug__" : Str)) = false := by decide) :
    wpAny (model PySem.Challenge.rw_no0155_01.row.prog w) A (isTrue (.BoolOp .And [.Compare (.Name x p1) [.NotEq] [(.Tuple [.Constant (.str (Str.ofString "a")) k1 p2, .Name z p3] k2 p4)] p5, .BoolOp .Or [.Compare (.Subscript (.Name x p6) (.Constant (.int 0) k3 p7) p8) [.NotEq] [.Constant (.str (Str.ofString "s")) k4 p9] q1, .Compare (.Subscript (.Name x q2) (.Constant (.int 1) k5 q3) q4) [.NotEq] [.Name y q5] q6] p2'] p3') (envX cn cs L a ccd cl) whole) Q E s := by
  refine isTrue_and (test_nil F hx N ht hT X R hz hu (fun n h' tt F' N' => ?_) (fun n h' tt F' N' => h2 (.inl n) h' tt F' N') hk hl hg hd hd1)
  refine isTrue_and (isTrue_or (test_tagN (s := { s with heap := h', toks := tt }) F' hx N' ht hT (fun q t2 => ?_) (fun q t2 => ?_) hk hl hd))
  · exact isTrue_and_nil (h1 ⟨n, .inl q⟩ h' t2 F' N')
  · refine isTrue_or (test_numN (s := { s with heap := h', toks := t2 }) F' hx N' ht hT X R hy (fun r t3 => ?_) (fun r t3 => ?_) hk hl hg2 hd hd2)
    · exact isTrue_and_nil (h1 ⟨n, .inr r⟩ h' t3 F' N')
    · exact isTrue_or_nil (h2 (.inr ⟨q, r⟩) h' t3 F' N')
/-- x == ('a', A_NIL) or (x[0] == 's' and x[1] == F) -/
theorem test_list {Q : Bool → Shared → Prop} (F : Fr h₀ L s.heap m) (hx : m x = some (.ref e)) (N : News h₀ L s.heap news) (ht : TmIn T e t) (hT : ∀ p ∈ T, p ∈ news) (X : K.In h₀) (R : TopRead p loose mg mb h₀) (hz : nsIn K mainGlobals z = some (some (.int 0 u))) (hu : A.units < cLine) (hy : nsIn K mainGlobals y = some (some (.int 0 u1)))
    (h1 : t.isNil = true ∨ (t.tag = Str.ofString "s" ∧ t.nm = 0) → ∀ h' tt, Fr h₀ L h' m → News h₀ L h' news → Q true { s with heap := h', toks := tt })
    (h2 : t.isNil = false ∧ (t.tag ≠ Str.ofString "s" ∨ t.nm ≠ 0) → ∀ h' tt, Fr h₀ L h' m → News h₀ L h' news → Q false { s with heap := h', toks := tt })
    (hk : cs.kind = .function := by rfl) (hl : (envX cn cs L a ccd cl).kindOf x = some .local := by rfl) (hg : (envX cn cs L a ccd cl).kindOf z = some .globalImplicit := by rfl) (hd : (x == ("__debug__" : Str)) = false := by decide) (hd1 : (z == ("__debug__" : Str)) = false := by decide) (hg2 : (envX cn cs L a ccd cl).kindOf y = some .globalImplicit := by rfl) (hd2 : (y == ("__debug__" : Str)) = false := by decide) :
    wpAny (model PySem.Challenge.rw_no0155_01.row.prog w) A (isTrue (.BoolOp .Or [.Compare (.Name x p1) [.Eq] [(.Tuple [.Constant (.str (Str.ofString "a")) k1 p2, .Name z p3] k2 p4)] p5, .BoolOp .And [.Compare (.Subscript (.Name x p6) (.Constant (.int 0) k3 p7) p8) [.Eq] [.Constant (.str (Str.ofString "s")) k4 p9] q1, .Compare (.Subscript (.Name x q2) (.Constant (.int 1) k5 q3) q4) [.Eq] [.Name y q5] q6] p2'] p3') (envX cn cs L a ccd cl) whole) Q E s := by
  refine isTrue_or (wpAny_isTrue_Compare1 (nameX_L F hx (nil_coreE F N ht hT X R hz hu (fun h' tt F' N' => wpAny_truthy_bool ?_) hk hg hd1) hk hl hd) (by rfl))
  cases n : t.isNil with
  | true => exact h1 (.inl n) h' tt F' N'
  | false =>
    refine isTrue_or (isTrue_and (test_tag (s := { s with heap := h', toks := tt }) F' hx N' ht hT (fun q t2 => ?_) (fun q t2 => ?_) hk hl hd))
    · refine isTrue_and (test_num (s := { s with heap := h', toks := t2 }) F' hx N' ht hT X R hy (fun r t3 => ?_) (fun r t3 => ?_) hk hl hg2 hd hd2)
      · exact isTrue_and_nil (h1 (.inr ⟨q, r⟩) h' t3 F' N')
      · exact isTrue_or_nil (h2 ⟨n, .inr r⟩ h' t3 F' N')
    · exact isTrue_or_nil (h2 ⟨n, .inl q⟩ h' t2 F' N')
/-- x[0] == c and x[1] == F -/
theorem test_both {c : Str} {f : Int} {Q : Bool → Shared → Prop} (F : Fr h₀ L s.heap m) (hx : m x = some (.ref e)) (N : News h₀ L s.heap news) (ht : TmIn T e t) (hT : ∀ p ∈ T, p ∈ news) (X : K.In h₀) (R : TopRead p loose mg mb h₀) (hy : nsIn K mainGlobals y = some (some (.int f u1)))
    (h1 : t.tag = c ∧ t.nm = f → ∀ tt, Q true { s with toks := tt }) (h2 : t.tag ≠ c ∨ t.nm ≠ f → ∀ tt, Q false { s with toks := tt }) (hk : cs.kind = .function := by rfl) (hl : (envX cn cs L a ccd cl).kindOf x = some .local := by rfl) (hg2 : (envX cn cs L a ccd cl).kindOf y = some .globalImplicit := by rfl) (hd : (x == ("__debug__" : Str)) = false := by decide) (hd2 : (y == ("__debug__" : Str)) = false := by decide) :
    wpAny (model PySem.Challenge.rw_no0155_01.row.prog w) A (isTrue (.BoolOp .And [.Compare (.Subscript (.Name x p6) (.Constant (.int 0) k3 p7) p8) [.Eq] [.Constant (.str c) k4 p9] q1, .Compare (.Subscript (.Name x q2) (.Constant (.int 1) k5 q3) q4) [.Eq] [.Name y q5] q6] p2') (envX cn cs L a ccd cl) whole) Q E s := by
  refine isTrue_and (test_tag F hx N ht hT (fun q t2 => ?_) (fun q t2 => h2 (.inl q) t2) hk hl hd)
  refine isTrue_and (test_num (s := { s with toks := t2 }) F hx N ht hT X R hy (fun r t3 => ?_) (fun r t3 => h2 (.inr r) t3) hk hl hg2 hd hd2)
  exact isTrue_and_nil (h1 ⟨q, r⟩ t3)
/-- x[0] != c or x[1] != F -/
theorem test_either {c : Str} {f : Int} {Q : Bool → Shared → Prop} (F : Fr h₀ L s.heap m) (hx : m x = some (.ref e)) (N : News h₀ L s.heap news) (ht : TmIn T e t) (hT : ∀ p ∈ T, p ∈ news) (X : K.In h₀) (R : TopRead p loose mg mb h₀) (hy : nsIn K mainGlobals y = some (some (.int f u1)))
    (h1 : t.tag ≠ c ∨ t.nm ≠ f → ∀ tt, Q true { s with toks := tt }) (h2 : t.tag = c ∧ t.nm = f → ∀ tt, Q false { s with toks := tt }) (hk : cs.kind = .function := by rfl) (hl : (envX cn cs L a ccd cl).kindOf x = some .local := by rfl) (hg2 : (envX cn cs L a ccd cl).kindOf y = some .globalImplicit := by rfl) (hd : (x == ("__debug__" : Str)) = false := by decide) (hd2 : (y == ("__debug__" : Str)) = false := by decide) :
    wpAny (model PySem.Challenge.rw_no0155_01.row.prog w) A (isTrue (.BoolOp .Or [.Compare (.Subscript (.Name x p6) (.Constant (.int 0) k3 p7) p8) [.NotEq] [.Constant (.str c) k4 p9] q1, .Compare (.Subscript (.Name x q2) (.Constant (.int 1) k5 q3) q4) [.NotEq] [.Name y q5] q6] p2') (envX cn cs L a ccd cl) whole) Q E s := by
  refine isTrue_or (test_tagN F hx N ht hT (fun q t2 => h1 (.inl q) t2) (fun q t2 => ?_) hk hl hd)
  refine isTrue_or (test_numN (s := { s with toks := t2 }) F hx N ht hT X R hy (fun r t3 => h1 (.inr r) t3) (fun r t3 => ?_) hk hl hg2 hd hd2)
  exact isTrue_or_nil (h2 ⟨q, r⟩ t3)
end
end Mine
end

section
set_option maxRecDepth 100000
set_option maxHeartbeats 1000000
set_option Elab.async false
namespace Mine
open PySem PySem.W PyProof.Rows PySem.Calls PySem.Spec Builtin Builtin.ObjectAttr
theorem slot_bga : Slot "BaseException" "__getattribute__" "BaseException.__getattribute__" :=
  .of (owner := "BaseException") (n := "__getattribute__") (by rw [typeLookup_type, builtinLookup_eq_fast]; kernel_rfl) (by decide +kernel) (by decide +kernel) (by decide +kernel)
    (by first | exact .inl (by decide +kernel) | exact .inr (by decide +kernel)) (by rw [isSubtype_type]; kernel_rfl)
section
variable {prog : Program} {w : World} {A : Around} {E : Value → Shared → Prop} {s : Shared} {K : Frag} {x C : Addr} {ox : Obj} {od : Option Obj} {name : Str} {expr : Bool} {Q : Value → Shared → Prop}
/-- an attribute of an exception's own dict, read by BaseException's own entry -/
theorem get_valueX {v : Value} {hook : Option Value} (X : K.In s.heap) (I : InstAt s.heap x ox C od) (hga : findIn K (.ref C) "__getattribute__" = some (some (.builtin "BaseException.__getattribute__")))
    (hgg : findIn K (.ref C) "__getattr__" = some hook) (hm : mroIn K C (.type "BaseException") = some true)
    (hf : findObj K C od name = some (.value v)) (hh : handedIn v = true) (h : Q v { s with toks := s.toks + 1 }) : wpAny (model prog w) A (getAttr (.ref x) name expr) Q E s := by
  have T := I.type (M := model prog w)
  have G := looks_findIn (M := model prog w) X hga
  have H : Looks (model prog w) s.heap (hookBefore (.ref C)) hook := looks_findIn (M := model prog w) X hgg
  have B : Looks (model prog w) s.heap (isInstance (.ref x) (.type "BaseException")) true := T.andThen (looks_mroIn X hm)
  have D := looks_find (M := model prog w) X I hf
  refine wpAny_bind (wpAny_mkText (wpAny_holding (wpAny_bind (T _ _ _ _ (fun _ _ e => e) (wpAny_bind (G _ _ _ _ (fun _ _ e => e) ?_))))))
  dsimp only
  rw [show (onTheHeap (Value.ref C) && Value.builtin "BaseException.__getattribute__" == Value.builtin "object.__getattribute__") = false from by rw [show (Value.builtin "BaseException.__getattribute__" == Value.builtin "object.__getattribute__") = false from by decide +kernel, Bool.and_false], if_neg (by decide)]
  refine wpAny_bind (H _ _ _ _ (fun _ _ e => e) (wpAny_bind (wpAny_attempt (wpAny_holding ?_))))
  unfold callGetattribute
  rw [show (expr && onTheHeap (Value.builtin "BaseException.__getattribute__")) = false from Bool.and_false _, if_neg (by decide)]
  unfold boundAndCalled
  rw [slot_bga.bind]
  refine wpAny_bind (wpAny_pure ?_)
  show wpAny _ _ (call (.builtin "BaseException.__getattribute__") [.ref x, .str name s.toks]) _ _ _
  refine wpAny_call ?_
  refine codeAny_call_builtin slot_bga.plain F.entry_bexc_ga ?_
  refine @check_slot (model prog w) _ _ { s with toks := s.toks + 1 } "BaseException.__getattribute__" "BaseException" "__getattribute__" (.ref x) [.str name s.toks] [] _ (by decide +kernel) (by decide +kernel) B (F.args_bexc_ga (.ref x) (.str name s.toks)) ?_
  unfold Builtin.«object.__getattribute__»
  refine wpAny_bind (wpAny_pure (wpAny_bind (wpAny_pure (wpAny_bind (T _ _ _ _ (fun _ _ e => e) (wpAny_bind (D _ _ _ _ (fun _ _ e => e) ?_)))))))
  refine wpAny_pure ?_
  show wpAny _ _ (handedOut v) _ _ _
  rw [handedOut_of hh]; exact wpAny_pure h
theorem get_ownX {h₀ : Heap} {L : Addr} {m : Str → Option Value} {es : List DictEntry} {n : Nat} {v : Value} {attr hook : Option Value} (F : Fr h₀ L s.heap m) (X₀ : K.In h₀) (I : InstAt s.heap x ox C (some (dictOf es n))) (hga : findIn K (.ref C) "__getattribute__" = some (some (.builtin "BaseException.__getattribute__")))
    (hgg : findIn K (.ref C) "__getattr__" = some hook) (hm : mroIn K C (.type "BaseException") = some true) (hh : hasDictIn K C = true)
    (ha : findIn K (.ref C) name = some attr) (hn : noGet K attr = true) (hl : getL name es = some (some v)) (hv : handedIn v = true) (h : Q v { s with toks := s.toks + 1 }) :
    wpAny (model prog w) A (getAttr (.ref x) name expr) Q E s :=
  get_valueX (X₀.keeps F.keep) I hga hgg hm (findObj_own hh ha hn hl) hv h
end
end Mine
end

section
set_option maxRecDepth 100000
set_option maxHeartbeats 1000000
set_option Elab.async false
namespace Mine
open PySem PySem.W PyProof.Rows PySem.Calls PySem.Spec
theorem fill_hereX (w : World) (h : Heap) (X : (hd.heap_39 w.params).In h) (hp : PySem.Challenge.rw_no0155_01.prog = PySem.Challenge.rw_no0155_01.prog) : (hd.heap_39 w.params).In h ∧ PySem.Challenge.rw_no0155_01.prog = PySem.Challenge.rw_no0155_01.prog := by
  k_fill
  exact ⟨X, hp⟩
theorem hold {α : Type} {a b : α} {P : Prop} (h : a = b) (k : a = b → P) : P := k h
/-- what is behind Exception -/
def excBm : List Value := [.type "Exception", .type "BaseException", .type "object"]
theorem exc_obj {w : World} {h : Heap} (X : (hd.heap_39 w.params).In h) : ∃ nm q bs sn sub ab col dd k0 k1 k2 k3 k5, h.get? 51 = some (excClassObj nm q 51 50 bs (.ref 31 :: excBm) true sn sub ab col dd k0 k1 k2 k3 k5 "Exception.__new__") := by
  refine' hold (a := (hd.heap_39 w.params).lookup 51) ?q ?_
  case q => k_is
  intro h1
  exact ⟨_, _, _, _, _, _, _, _, _, _, _, _, _, X _ _ h1⟩
theorem exc_tail {w : World} {h : Heap} (X : (hd.heap_39 w.params).In h) : OwnTail h excBm (.ref 31 :: excBm) := tail_of_in X (by kernel_rfl)
abbrev excO (t : Addr) : Obj := { cls := .ref 51, data := .fields #[.ref t, .none, .none, .none, .bool false, .none] }
abbrev excD (t d : Addr) : Obj := { cls := .ref 51, dict := some d, data := .fields #[.ref t, .none, .none, .none, .bool false, .none] }
section
variable {prog : Program} {w : World} {A : Around} {E : Value → Shared → Prop} {s : Shared} {h₀ : Heap} {L : Addr} {m : Str → Option Value} {news : List (Addr × Obj)} {v : Value} {Q : Value → Shared → Prop}
theorem make_exc (F : Fr h₀ L s.heap m) (N : News h₀ L s.heap news) (X₀ : (hd.heap_39 w.params).In h₀)
    (h : ∀ e t h', Fr h₀ L h' m → News h₀ L h' ((e, excO t) :: (t, tupO #[v]) :: news) → (∀ p ∈ news, p.1 < t) → (∀ p ∈ (t, tupO #[v]) :: news, p.1 < e) →
      wpAny (model prog w) (A.under (.builtin "type.__call__" ⟨[.ref 51, v], []⟩)) (call (.ref 48) [.ref e, v]) (fun r s' => r = .none ∧ Q (.ref e) s') E { s with heap := h' }) :
    wpAny (model prog w) A (call (.ref 51) [v]) Q E s := by
  have X := X₀.keeps F.keep
  obtain ⟨hh, g, d, tk, os⟩ := s
  obtain ⟨nm, q, bs, sn, sub, ab, col, dd, k0, k1, k2, k3, k5, hC⟩ := exc_obj X
  have T := exc_tail X
  have FB := PySem.F.excBase_Exception
  have f1 := tc_lookup
  have f2 := tc_bind (.ref 51)
  have hT : (⟨hh, g, d, tk, os⟩ : Shared).TypeIs (.ref 51) "type" := ⟨_, hC, rfl⟩
  refine wpAny_call (codeAny_of_tree ?_)
  show wpAny _ _ (callAny (.ref 51) _) _ _ _
  repeat (any_goals (first | assumption | with_reducible refine wpAny_loadPart_at hC ?_ | wp_step))
  refine ⟨rfl, ?_⟩
  refine codeAny_call_builtin_at (Code.quiet_builtin _ (by decide +kernel)) entry_typeCall (wpAny_check_type_call_sub hC ?_)
  unfold Builtin.«type.__call__»
  repeat (first | with_reducible refine wpAny_loadPart_at hC ?_ | with_reducible refine wpAny_madeBy_exc hC ?_ | wp_step)
  refine codeAny_call_builtin_code (Code.quiet_builtin _ FB.quiet) (wpAny_check_new_subT FB T hC ?_)
  refine codeAny_exc_new_subT FB T hC ?_ (by show 1 ≤ sizeLine; rw [sizeLine_eq]; decide)
  show wpAny _ _ _ _ _ _
  have F' : Fr h₀ L ((hh.push (tupO #[v])).push (excO hh.objs.size)) m := (F.push _).push _
  have N' : News h₀ L ((hh.push (tupO #[v])).push (excO hh.objs.size)) ((hh.objs.size + 1, excO hh.objs.size) :: (hh.objs.size, tupO #[v]) :: news) := by
    have := (N.push F (tupO #[v])).push (F.push _) (excO hh.objs.size)
    rwa [Heap.size_push] at this
  have X' := X₀.keeps F'.keep
  have I : InstAt ((hh.push (tupO #[v])).push (excO hh.objs.size)) (hh.objs.size + 1) (excO hh.objs.size) 51 none := ⟨(N' _ (.head _)).1, rfl, rfl, trivial⟩
  have L1 := I.type (M := model prog w)
  have L2 : Looks (model prog w) ((hh.push (tupO #[v])).push (excO hh.objs.size)) (isSubtype (.ref 51) (.ref 51)) true := by
    refine' hold (a := mroIn (hd.heap_39 w.params) 51 (.ref 51)) ?q ?_
    case q => k_is
    exact looks_mroIn X'
  have L3 : Looks (model prog w) ((hh.push (tupO #[v])).push (excO hh.objs.size)) (isInstance (.ref (hh.objs.size + 1)) (.ref 51)) true := L1.andThen L2
  have e1 : findIn (hd.heap_39 w.params) (.ref 51) "__init__" = some (some (.ref 48)) := by k_is
  have e2 : typeIn (hd.heap_39 w.params) (.ref 48) = some (.type "function") := by k_is
  refine wpAny_bind (L3.at ?_)
  show wpAny _ _ (holding _ _ >>= _) _ _ _
  refine wpAny_bind (wpAny_holding (special_fn X' I e1 e2 ?_))
  refine wpAny_mono (h _ hh.objs.size _ F' N' (fun p hp => Heap.lt_size (N p hp).1) (fun p hp => by
      rcases List.mem_cons.mp hp with rfl | hp
      · exact Nat.lt_succ_self _
      · exact Nat.lt_succ_of_lt (Heap.lt_size (N p hp).1))) (fun r s' hr => ?_) fun _ _ x => x
  obtain ⟨rfl, hQ⟩ := hr
  wp_walk
  exact hQ
end
end Mine
end

section
set_option maxRecDepth 100000
set_option maxHeartbeats 1000000
set_option Elab.async false
namespace Mine
open PySem PySem.W PyProof.Rows PySem.Calls PySem.Spec
theorem fill_hereX2 (w : World) (h : Heap) (X : (hd.heap_39 w.params).In h) (hp : PySem.Challenge.rw_no0155_01.prog = PySem.Challenge.rw_no0155_01.prog) : (hd.heap_39 w.params).In h ∧ PySem.Challenge.rw_no0155_01.prog = PySem.Challenge.rw_no0155_01.prog := by
  k_fill
  exact ⟨X, hp⟩
abbrev ballD (w : World) (v : Value) (k : Tok) : Obj := dictOf [⟨PyData.keyHash w.params (Str.ofString "ball"), .str (Str.ofString "ball") k, v⟩] 1
/-- as osa_dict in the library, for an exception with no dict yet -/
theorem set_ball {prog : Program} {w : World} {A : Around} {E : Value → Shared → Prop} {s : Shared} {h₀ : Heap} {L x t : Addr} {m : Str → Option Value} {news : List (Addr × Obj)} {nn : Addr → List (Addr × Obj)} {v : Value} {Q : Unit → Shared → Prop}
    (F : Fr h₀ L s.heap m) (N : News h₀ L s.heap news) (X₀ : (hd.heap_39 w.params).In h₀) (U : ∀ d, Upd x (excO t) (excD t d) news (nn d))
    (h : ∀ d k h' tk', Fr h₀ L h' m → News h₀ L h' ((d, ballD w v k) :: nn d) → (∀ p ∈ news, p.1 < d) → Q () { s with heap := h', toks := tk' }) :
    wpAny (model prog w) A (setAttr (.ref x) (Str.ofString "ball") v) Q E s := by
  have X := X₀.keeps F.keep
  obtain ⟨hh, g, d, tk, os⟩ := s
  have hmx : (x, excO t) ∈ news := by
    obtain ⟨pre, post, e, _⟩ := (U 0).split
    rw [e]; simp
  have Nx := N _ hmx
  have hx := Nx.1
  dsimp only at hx X
  have I : InstAt hh x (excO t) 51 none := ⟨hx, rfl, rfl, trivial⟩
  have SF := PySem.F.store_Exception
  have e1 : findIn (hd.heap_39 w.params) (.ref 51) "__setattr__" = some (some (.builtin "object.__setattr__")) := by k_is
  have e2 : findIn (hd.heap_39 w.params) (.ref 51) (Str.ofString "ball") = some none := by k_is
  have e3 : mroIn (hd.heap_39 w.params) 51 (.type "object") = some true := by k_is
  refine' hold (a := clsIn (hd.heap_39 w.params) 51) ?q ?_
  case q => k_is
  intro hc
  refine set_plain X I e1 ?_
  have sub : Looks (model prog w) hh (isInstance (.ref x) (.type "object")) true := I.type.andThen (looks_mroIn X e3)
  refine codeAny_call_builtin SF.slot.plain SF.entry (@check_slot (model prog w) _ _ _ "object.__setattr__" "object" "__setattr__" (.ref x) [.str (Str.ofString "ball") tk, v] [] _ SF.kind SF.split sub (SF.args (.ref x) (.str (Str.ofString "ball") tk) v) ?_)
  have hmro : Looks (model prog w) hh (mroOf (.ref 51)) (.ref 51 :: .ref 31 :: excBm) := by
    exact (looks_clsIn X hc).andThen .now
  rw [osa_eq, refuse_eq]
  refine wpAny_bind (wpAny_bind (I.type.here (wpAny_bind (hmro.here ?_))))
  rw [refuseLoop_ref, refuseLoop_ref, show excBm = [.type "Exception", .type "BaseException", .type "object"] from rfl, SF.passes]
  refine wpAny_pure (wpAny_bind (I.type.here (wpAny_bind ((looks_findIn X e2).here (wpAny_bind (wpAny_pure ?_))))))
  refine wpAny_bind (wpAny_pure (wpAny_bind (wpAny_bind (wpAny_loadPart hx (wpAny_bind ((looks_clsIn X hc).here ?_))))))
  have hx₁ : (hh.push { cls := .type "dict", data := .dict #[] }).get? x = some (excO t) := Heap.get?_push_of_some _ hx
  have hlt : ∀ p ∈ news, @LT.lt Nat _ p.1 hh.objs.size := fun p hp => Heap.lt_size (N p hp).1
  refine wpAny_bind (wpAny_alloc' (wpAny_bind (wpAny_update' hx₁ (wpAny_pure (a := some _) ?_))))
  dsimp only
  obtain ⟨pre, post, e7, e8, o1, o2⟩ := (U hh.objs.size).split
  have hne : ∀ p ∈ news, p.1 ≠ hh.objs.size := fun p hp => Nat.ne_of_lt (hlt p hp)
  have Np := N.push F (dictOf [] 0)
  have U1 := news_upd (f := fun o => { cls := o.cls, dict := some hh.objs.size, data := o.data, slots := o.slots }) (pre := (hh.objs.size, dictOf [] 0) :: pre) (post := post) (o := excO t) (o' := excD t hh.objs.size) (F.push (dictOf [] 0))
    (by rw [e7] at Np; exact Np) (fun p hp => by
      rcases List.mem_cons.mp hp with rfl | hp
      · exact (hne _ hmx).symm
      · exact o1 p hp) o2 rfl rfl
  obtain ⟨F2, N2⟩ := U1
  have N2' : News h₀ L ((hh.push (dictOf [] 0)).update x fun o => { cls := o.cls, dict := some hh.objs.size, data := o.data, slots := o.slots }) ([] ++ (hh.objs.size, dictOf [] 0) :: nn hh.objs.size) := by
    rw [e8]; exact N2
  have D := (N2' (hh.objs.size, dictOf [] 0) (by simp)).1
  have hnn : ∀ p ∈ nn hh.objs.size, p.1 ≠ hh.objs.size := fun p hp => by
    rw [e8] at hp
    rcases List.mem_append.mp hp with hp | hp
    · exact hne p (by rw [e7]; exact List.mem_append_left _ hp)
    · rcases List.mem_cons.mp hp with rfl | hp
      · exact hne (x, excO t) hmx
      · exact hne p (by rw [e7]; exact List.mem_append_right _ (.tail _ hp))
  obtain ⟨F3, N3⟩ := news_upd (f := Obj.putName (Str.ofString "ball") (PyData.keyHash w.params (Str.ofString "ball")) (.str (Str.ofString "ball") (tk + 1)) v) (o' := ballD w v (tk + 1)) F2 N2' (fun _ h => nomatch h) hnn (by rw [putName_dict]; rfl) rfl
  have D' := (N3 (hh.objs.size, ballD w v (tk + 1)) (by simp)).1
  unfold Builtin.ObjectAttr.storeInDict Builtin.ObjectAttr.newKeyGuard
  refine wpAny_bind (wpAny_pure (wpAny_bind ?_))
  unfold nsSet
  refine wpAny_bind (wpAny_bind (wpAny_askSetting (wpAny_pure (wpAny_bind (wpAny_mkText (wpAny_bind (wpAny_loadPart D ?_)))))))
  refine wpAny_updatePart D ?_
  refine wpAny_bind (wpAny_lookBehind D' (by exact pastItsLine_dict (by rw [sizeLine_eq]; show 1 ≤ _; decide)) ?_)
  exact wpAny_pure (h _ _ _ _ F3 N3 hlt)
end Mine
end

section
set_option maxRecDepth 100000
set_option maxHeartbeats 1000000
set_option Elab.async false
namespace Mine
open PySem PySem.W PyProof.Rows PySem.Calls PySem.Spec
/-- an exception e in flight: its ball reads as a term with P, T is kept -/
def RaisedD (w : World) (base : Heap) (l : List Env) (e : Addr) (T : List (Addr × Obj)) (P : Tm → Prop) (h : Heap) : Prop :=
  ∃ b u news, RaisedN base l e (.ref 51) news h ∧ (∃ d k oe, (d, ballD w (.ref b) k) ∈ news ∧ h.get? e = some oe ∧ oe.dict = some d) ∧ (∀ p ∈ T, p ∈ news) ∧ TmIn news b u ∧ P u
theorem RaisedD.imp {w : World} {base : Heap} {l : List Env} {e : Addr} {T T' : List (Addr × Obj)} {P P' : Tm → Prop} {h : Heap} (R : RaisedD w base l e T P h) (k : ∀ u, P u → P' u) (t : ∀ p ∈ T', p ∈ T) : RaisedD w base l e T' P' h :=
  let ⟨b, u, news, r, d, s, tm, p⟩ := R
  ⟨b, u, news, r, d, fun q hq => s q (t q hq), tm, k u p⟩
section
variable {M : Model} {A : Around} {E : Value → Shared → Prop} {s : Shared}
theorem looks_D {base : Heap} {env : Env} {outer : List Env} {L e : Addr} {cls a0 : Value} {Q : Unit → Shared → Prop}
    (hfr : A.frames = some (env :: outer)) (hf : env.frame = some L) (hfl : Heap.FlyingW base (env :: outer) e cls a0 s.heap)
    (hQ : ∀ h', Heap.HeldW base (env :: outer) e cls a0 L h' → s.heap.UpToSlots h' → Dicts s.heap h' → Q () { s with heap := h' }) : wpAny M A (noteFrame (.ref e) env) Q E s := by
  refine wpAny_mono (wpAny_meek (meek_note _ _) (wpAny_looks_onW hfr hf hfl (Q := fun _ s' => ∃ h', s' = { s with heap := h' } ∧ Heap.HeldW base (env :: outer) e cls a0 L h' ∧ s.heap.UpToSlots h') (fun h' a b => ⟨h', rfl, a, b⟩))) (fun _ s' hh => ?_) fun _ _ x => x
  obtain ⟨⟨h', rfl, a, b⟩, c⟩ := hh
  exact hQ h' a b c
theorem lands_D {base : Heap} {l : List Env} {e L : Addr} {cls a0 : Value} {Q : Unit → Shared → Prop} (hh : Heap.HeldW base l e cls a0 L s.heap)
    (hQ : ∀ h', Heap.FlyingW base l e cls a0 h' → s.heap.UpToSlots h' → Dicts s.heap h' → Q () { s with heap := h' }) : wpAny M A (setFlight (.ref e) none) Q E s := by
  refine wpAny_mono (wpAny_meek (meek_setFlight _ _) (wpAny_landsW hh (Q := fun _ s' => ∃ h', s' = { s with heap := h' } ∧ Heap.FlyingW base l e cls a0 h' ∧ s.heap.UpToSlots h') (fun h' a b => ⟨h', rfl, a, b⟩))) (fun _ s' hh => ?_) fun _ _ x => x
  obtain ⟨⟨h', rfl, a, b⟩, c⟩ := hh
  exact hQ h' a b c
theorem landsA_D {base : Heap} {l : List Env} {e : Addr} {cls a0 : Value} {Q : Unit → Shared → Prop} (hh : Heap.FlyingW base l e cls a0 s.heap)
    (hQ : ∀ h', Heap.FlyingW base l e cls a0 h' → s.heap.UpToSlots h' → Dicts s.heap h' → Q () { s with heap := h' }) : wpAny M A (setFlight (.ref e) none) Q E s := by
  refine wpAny_mono (wpAny_meek (meek_setFlight _ _) (lands_againW hh (Q := fun _ s' => ∃ h', s' = { s with heap := h' } ∧ Heap.FlyingW base l e cls a0 h' ∧ s.heap.UpToSlots h') (fun h' a b => ⟨h', rfl, a, b⟩))) (fun _ s' hh => ?_) fun _ _ x => x
  obtain ⟨⟨h', rfl, a, b⟩, c⟩ := hh
  exact hQ h' a b c
end
section
variable {M : Model} {A : Around} {E : Value → Shared → Prop} {s' : Shared} {base g g₂ : Heap} {outer : List Env} {L a e : Addr} {m : Str → Option Value} {name : Str} {scope : Scope} {cd : Value} {Q : Unit → Shared → Prop} {w : World}
/-- the first frame left, the exception on the ledger -/
theorem leave_newD {t d b : Addr} {k : Tok} {news T T' : List (Addr × Obj)} {u : Tm} (K : Below A base outer g) (F : Fr g L s'.heap m) (N : News g L s'.heap news) (he : (e, excD t d) ∈ news) (hd : (d, ballD w (.ref b) k) ∈ news)
    (hT' : ∀ p ∈ T', p ∈ news) (htm : TmIn T' b u) (hT : ∀ p ∈ T, p ∈ news) (hTe : ∀ p ∈ T, p.1 ≠ e)
    (hQ : ∀ h', RaisedD w base outer e T (fun x => x = u) h' → g.UpToSlots h' → Q () { s' with heap := h' }) (hk : scope.kind = .function := by rfl) :
    wpAny M (A.deeper (envOf name scope L a cd)) (leaving (envOf name scope L a cd) (.ref e)) Q E s' := by
  have K' := K.push (name := name) (a := a) (cd := cd) F hk
  have hin : ∀ env ∈ (envOf name scope L a cd :: outer), ∀ b, env.frame = some b → b ∈ e :: (envOf name scope L a cd :: outer).filterMap (·.frame) := fun env he b hb => .tail _ (List.mem_filterMap.mpr ⟨env, he, hb⟩)
  have Ne := N _ he
  have hbe : base.get? e = none := fresh_of_stays K.stays Ne.2.2
  have st : base.StaysIn (hideAll s'.heap (e :: (envOf name scope L a cd :: outer).filterMap (·.frame))) := fun b o q => hideAll_get _ (K'.stays b o q) fun hm => by
    rcases List.mem_cons.mp hm with rfl | hm
    · rw [hbe] at q; cases q
    · rw [(K'.frames.mem hm).1] at q; cases q
  have nfr : ∀ q ∈ news, q.1 ∉ (envOf name scope L a cd :: outer).filterMap (·.frame) := fun q hq hm => by
    obtain ⟨env, he, hf⟩ := List.mem_filterMap.mp hm
    rcases List.mem_cons.mp he with rfl | he
    · exact (N q hq).2.1 (Option.some.inj hf).symm
    · obtain ⟨o, ho, _⟩ := (K.frames.mem (List.mem_filterMap.mpr ⟨env, he, hf⟩)).2
      rw [(N q hq).2.2] at ho; cases ho
  have hl : ∀ q ∈ news, q.1 ≠ e → (hideAll s'.heap (e :: (envOf name scope L a cd :: outer).filterMap (·.frame))).get? q.1 = some q.2 ∧ base.get? q.1 = none := fun q hq hqe => by
    refine ⟨hideAll_get _ (N q hq).1 fun hm => ?_, fresh_of_stays K.stays (N q hq).2.2⟩
    rcases List.mem_cons.mp hm with q1 | q1
    · exact hqe q1
    · exact nfr q hq q1
  have hen : (hideAll s'.heap (e :: (envOf name scope L a cd :: outer).filterMap (·.frame))).get? e = none := hideAll_none _ (.head _)
  have hde : d ≠ e := fun q => by
    have z := (N _ hd).1
    have z2 := Ne.1
    dsimp only at z z2
    rw [q, z2] at z
    cases z
  refine wpAny_mono (wpAny_meek (meek_leaving _ _) (wpAny_leaving_firstW (Q := fun _ s₂ => ∃ h', s₂ = { s' with heap := h' } ∧ Heap.LeftW (hideAll s'.heap (e :: (envOf name scope L a cd :: outer).filterMap (·.frame))) (envOf name scope L a cd :: outer) e (.ref 51) (.ref t) s'.heap h')
    (a0 := .ref t) (oe := excD t d) K'.stack (funFrames_hide K'.frames hin) rfl Ne.1 (fun b o q => of_hideAll _ q) hen rfl rfl rfl fun h' hL => ⟨h', rfl, hL⟩)) (fun _ s₂ hh => ?_) fun _ _ x => x
  obtain ⟨⟨h', rfl, hL⟩, hD⟩ := hh
  obtain ⟨k1, ⟨_, _, k2⟩, k3, k4⟩ := hL
  obtain ⟨oe, hoe, hod⟩ := hD e _ Ne.1
  refine hQ h' ⟨b, u, news.filter (fun p => decide (p.1 ≠ e)), ⟨_, .ref t, st, fun q hq => ?_, k1, hen, k2, k3⟩, ⟨d, k, oe, ?_, hoe, hod⟩, fun p hp => ?_, ?_, rfl⟩ ((Heap.UpToSlots.of_keeps F.keep).trans k4)
  · obtain ⟨q1, q2⟩ := List.mem_filter.mp hq
    exact hl q q1 (of_decide_eq_true q2)
  · exact List.mem_filter.mpr ⟨hd, decide_eq_true hde⟩
  · exact List.mem_filter.mpr ⟨hT p hp, decide_eq_true (hTe p hp)⟩
  · refine htm.of_sub fun x vs hx => List.mem_filter.mpr ⟨hT' _ hx, decide_eq_true fun q => ?_⟩
    have z := (N _ (hT' _ hx)).1
    have z2 := Ne.1
    dsimp only at z z2 q
    rw [q, z2] at z
    cases z
theorem leave_onD {T : List (Addr × Obj)} {P : Tm → Prop} (K : Below A base outer g) (F : Fr g L g₂ m) (R : RaisedD w base (envOf name scope L a cd :: outer) e T P s'.heap) (hsm : g₂.UpToSlots s'.heap)
    (hQ : ∀ h', RaisedD w base outer e T P h' → g.UpToSlots h' → Q () { s' with heap := h' }) :
    wpAny M (A.deeper (envOf name scope L a cd)) (leaving (envOf name scope L a cd) (.ref e)) Q E s' := by
  obtain ⟨b, u, news, R, ⟨d, k, oe, hd, hoe, hod⟩, hT, htm, hP⟩ := R
  refine wpAny_mono (wpAny_meek (meek_leaving _ _) (leave_onN (Q := fun _ s₂ => ∃ h', s₂ = { s' with heap := h' } ∧ RaisedN base outer e (.ref 51) news h' ∧ g.UpToSlots h') K F R hsm fun h' x y => ⟨h', rfl, x, y⟩)) (fun _ s₂ hh => ?_) fun _ _ x => x
  obtain ⟨⟨h', rfl, x, y⟩, hD⟩ := hh
  obtain ⟨oe', hoe', hod'⟩ := hD e _ hoe
  exact hQ h' ⟨b, u, news, x, ⟨d, k, oe', hd, hoe', hod'.trans hod⟩, hT, htm, hP⟩ y
end
section
variable {prog : Program} {w : World} {A₀ : Around} {E : Value → Shared → Prop} {s' : Shared} {h₀ h : Heap} {outer : List Env} {L a e : Addr} {m : Str → Option Value} {name : Str} {scope : Scope} {cd : Value}
  {n : Str} {b₀ : Stmt} {suite : List Stmt} {pos np : Pos} {rest : List ExceptHandler} {Q : Flow → Shared → Prop} {T : List (Addr × Obj)} {P : Tm → Prop}
  {p : Program} {loose : List Str} {mean : ExcName → Option Value} {mg mb : Str → Option Value} {x : Str}
/-- the law's own clause -/
theorem caught_D (K : Below A₀ h₀ outer h₀) (F : Fr h₀ L h m) (hsm : h.UpToSlots s'.heap) (R : RaisedD w h₀ (envOf name scope L a cd :: outer) e T P s'.heap)
    (X₀ : (hd.heap_39 w.params).In h₀) (T₀ : TopRead p loose mg mb h₀) (ex : nsIn (hd.heap_39 w.params) mainGlobals x = some (some (.ref 51)))
    (k : ∀ h' tk news b u d k oe, Fr h₀ L h' (fun y => if y = n then some (.ref e) else m y) → News h₀ L h' ((e, oe) :: news) → oe.cls = .ref 51 → oe.dict = some d → (∃ vs, oe.data = .fields vs) → (d, ballD w (.ref b) k) ∈ news → TmIn news b u → P u → (∀ p ∈ T, p ∈ news) →
      wpAny (model prog w) ((A₀.deeper (envOf name scope L a cd)).mark (some (.ref e))) (execs (b₀ :: suite) (envOf name scope L a cd))
        (fun f s₄ => wpAny (model prog w) (A₀.deeper (envOf name scope L a cd)) (do bindName (envOf name scope L a cd) n .none; unbindBehindTheSuite (envOf name scope L a cd) n pos) (fun _ s₅ => Q f s₅) E s₄)
        (AsSuiteRaised (model prog w) ((A₀.deeper (envOf name scope L a cd)).mark (some (.ref e))) (envOf name scope L a cd) n pos (notedBy (model prog w) ((A₀.deeper (envOf name scope L a cd)).mark (some (.ref e))) (envOf name scope L a cd) (cameBackBy (model prog w) (A₀.deeper (envOf name scope L a cd)) (envOf name scope L a cd) E)))
        { s' with heap := h', toks := tk })
    (hk : scope.kind = .function := by rfl) (hlo : (envOf name scope L a cd).kindOf n = some .local := by rfl) (hx : (envOf name scope L a cd).kindOf x = some .globalImplicit := by rfl) (hd : (x == ("__debug__" : Str)) = false := by decide) :
    wpAny (model prog w) (A₀.deeper (envOf name scope L a cd)) (noteFrame (.ref e) (envOf name scope L a cd))
      (fun _ s₂ => wpAny (model prog w) (A₀.deeper (envOf name scope L a cd)) (setFlight (.ref e) none) (fun _ s₃ =>
        wpAny (model prog w) (A₀.deeper (envOf name scope L a cd)) (handleBy (.ref e) (envOf name scope L a cd) (.ExceptHandler (some (.Name x np)) (some n) (b₀ :: suite) pos :: rest)) Q E s₃) E s₂) E s' := by
  obtain ⟨b, u, news, ⟨B, a0, hB, hl, hfl⟩, ⟨d, k₀, oe, hdm, hoe, hod⟩, hT, htm, hP⟩ := R
  have hL : B.get? L = none := by
    obtain ⟨_, ⟨L', _, hf, hn', _⟩, _⟩ := hfl.2.2.1
    obtain rfl : L = L' := Option.some.inj hf
    exact hn'
  refine looks_D (Around.frames_deeper K.stack) rfl hfl fun h₄ hheld₄ hsm₄ D₄ => ?_
  refine lands_D hheld₄ fun h₅ hheld hsm₅' D₅ => ?_
  have hsm₅ := hsm₄.trans hsm₅'
  have hheld' := flyingW_base hB hheld
  have F₅ := F.of_stays hheld'.1 (hsm.trans hsm₅)
  obtain ⟨ob, hob, hobc⟩ := hheld'.there
  obtain ⟨nm, q, bs, sn, sub, ab, col, dd, k0, k1, k2, k3, k5, hC⟩ := exc_obj (X₀.keeps F₅.keep)
  refine wpAny_handleBy_cons (codeAny_handlers_test (name_K F₅ X₀ T₀ ex ?_ hk hx hd)) (by intro q; cases q)
  refine wpAny_excMatches_sub_self hC hob hobc (by decide) (codeAny_handlers_suite_as ?_)
  refine landsA_D hheld fun h₆ hfl₆ hsm₆ D₆ => ?_
  have hfl₆' := flyingW_base hB hfl₆
  have F₆ := F.of_stays hfl₆'.1 ((hsm.trans hsm₅).trans hsm₆)
  obtain ⟨oe', hoe', hod'⟩ := ((D₄.trans D₅).trans D₆) e _ hoe
  obtain ⟨oe₁, vs, hoe₁, hc₁, hd₁, _⟩ := hfl₆'.first
  obtain rfl : oe' = oe₁ := Option.some.inj (hoe'.symm.trans hoe₁)
  have hLe : e ≠ L := fun z => by
    obtain ⟨oL, es, ep, hL2, hL3, _⟩ := F₆.ns
    rw [← z, hoe₁] at hL2
    obtain rfl := Option.some.inj hL2
    rw [hd₁] at hL3
    cases hL3
  have Nl : News h₀ L h₆ ((e, oe') :: news) := fun q hq => by
    rcases List.mem_cons.mp hq with rfl | hq
    · exact ⟨hoe', hLe, hfl₆'.2.1⟩
    · exact ⟨hfl₆.1 _ _ (hl q hq).1, (fun z => by have := (hl q hq).1; rw [z, hL] at this; cases this), (hl q hq).2⟩
  refine stN F₆ Nl (fun h₇ F₇ N₇ => ?_) hk hlo
  exact k h₇ _ news b u d k₀ oe' F₇ N₇ hc₁ (hod'.trans hod) ⟨vs, hd₁⟩ hdm htm hP hT
end
end Mine
end

section
set_option maxRecDepth 100000
set_option maxHeartbeats 1000000
set_option Elab.async false
namespace Mine
open PySem PySem.W PyProof.Rows PySem.Calls PySem.Spec
theorem fill_hereX4 (w : World) (h : Heap) (X : (hd.heap_39 w.params).In h) (hp : PySem.Challenge.rw_no0155_01.prog = PySem.Challenge.rw_no0155_01.prog) : (hd.heap_39 w.params).In h ∧ PySem.Challenge.rw_no0155_01.prog = PySem.Challenge.rw_no0155_01.prog := by
  k_fill
  exact ⟨X, hp⟩
/-- a raise's value: a PrologError that has not flown yet -/
def RaiseEnd (w : World) (E : Value → Shared → Prop) (v : Value) (s₁ : Shared) : Prop :=
  ∃ a t d, v = .ref a ∧ s₁.heap.get? a = some (excD t d) ∧ (hd.heap_39 w.params).In s₁.heap ∧ E (.ref a) s₁
theorem raiseEnd {w : World} {E : Value → Shared → Prop} {s : Shared} {h₀ : Heap} {L a t d : Addr} {m : Str → Option Value} {news : List (Addr × Obj)} (F : Fr h₀ L s.heap m) (X : (hd.heap_39 w.params).In h₀) (N : News h₀ L s.heap news)
    (hm : (a, excD t d) ∈ news) (h : E (.ref a) s) : RaiseEnd w E (.ref a) s := ⟨a, t, d, rfl, (N _ hm).1, X.keeps F.keep, h⟩
theorem Raise_D {prog : Program} {w : World} {A : Around} {E : Value → Shared → Prop} {s : Shared} {env : Env} {e : Expr} {pos : Pos} {Q : Flow → Shared → Prop} (hh : A.handled = none)
    (h : wpAny (model prog w) A (eval e env) (RaiseEnd w E) E s) : wpAny (model prog w) A (exec (.Raise (some e) none pos) env) Q E s := by
  show wpAny _ A (do standAt pos; raiseStmt env (some (do let v ← eval e env; standAt pos; pure v)) none) Q E s
  refine wpAny_bind (wpAny_standAt ?_)
  unfold raiseStmt
  dsimp only
  refine wpAny_bind (wpAny_bind (wpAny_mono h (fun v s₁ h₁ => wpAny_bind (wpAny_standAt (wpAny_pure ?_))) fun _ _ x => x))
  obtain ⟨a, t, d, rfl, ha, X, hE⟩ := h₁
  have hnt : ∀ {Q' : Bool → Shared → Prop}, Q' false s₁ → wpAny (model prog w) A (isType (.ref a)) Q' E s₁ := by
    intro Q' hq
    simp only [isType, loadHead]
    refine wpAny_bind (wpAny_loadPart ha ?_)
    exact wpAny_pure hq
  have e1 : mroIn (hd.heap_39 w.params) 51 (.type "BaseException") = some true := by k_is
  have e2 : typeIn (hd.heap_39 w.params) (.ref 51) = some (.type "type") := by k_is
  have T1 : Looks (model prog w) s₁.heap (typeOf (.ref a)) (.ref 51) := (Looks.ld (part := some headPart) ha).andThen .now
  have T2 : Looks (model prog w) s₁.heap (isInstance (.ref a) (.type "BaseException")) true := T1.andThen (looks_mroIn X e1)
  refine wpAny_bind (wpAny_pure ?_)
  dsimp only
  refine wpAny_bind (wpAny_holding ?_)
  unfold excFromValue isExcClass
  refine wpAny_bind (wpAny_bind (hnt ?_))
  simp only [Bool.false_eq_true, if_false]
  refine wpAny_pure ?_
  simp only [Bool.false_eq_true, if_false]
  refine wpAny_bind (T2.here ?_)
  simp only [if_true]
  refine wpAny_pure ?_
  refine wpAny_bind (hnt ?_)
  simp only [Bool.false_eq_true, if_false]
  unfold raisedInstance
  refine wpAny_bind (wpAny_bind (T1.here (wpAny_bind ((looks_typeIn X e2).here ?_))))
  rw [if_pos (show (Value.type "type" == Value.type "type") = true from beq_self_eq_true _)]
  refine wpAny_pure ?_
  unfold setFlight raiseNew
  refine wpAny_bind (wpAny_bind (wpAny_field (i := 1) (x := .none) ha rfl rfl ?_))
  rw [if_neg (by decide)]
  refine wpAny_pure (wpAny_bind (wpAny_handled ?_))
  rw [hh]
  first
    | exact wpAny_throw hE
    | exact wpAny_bind (wpAny_pure (wpAny_throw hE))
end Mine
end

section
set_option maxRecDepth 100000
set_option maxHeartbeats 1000000
set_option Elab.async false
namespace Mine
open PySem PySem.W PyProof.Rows PySem.Calls PySem.Spec
theorem pushE {A : Around} {base h₀ h : Heap} {outer : List Env} {env : Env} {L : Addr} {m : Str → Option Value} (K : Below A base outer h₀) (F : Fr h₀ L h m) (hf : env.frame = some L) (hk : env.scope.kind = .function) : Below (A.deeper env) base (env :: outer) h := by
  have hnew : base.get? L = none := by
    cases hq : base.get? L with
    | none => rfl
    | some o => exact absurd (Nat.lt_of_lt_of_le (Heap.lt_size (K.stays L o hq)) F.above) (Nat.lt_irrefl _)
  refine ⟨Around.frames_deeper K.stack, fun b o e => F.keep b o (K.stays b o e), ?_⟩
  exact .cons (by rw [hk]; decide) hf F.ns hnew (K.frames.of_keeps fun b o e _ => ⟨o, F.keep b o e, rfl⟩)
/-- as RaisedD, the flight's mark whatever -/
def RaisedF (w : World) (base : Heap) (l : List Env) (e : Addr) (T : List (Addr × Obj)) (P : Tm → Prop) (h : Heap) : Prop :=
  ∃ b u news B a0 fl, base.StaysIn B ∧ (∀ q ∈ news, B.get? q.1 = some q.2 ∧ base.get? q.1 = none) ∧ (B.StaysIn h ∧ B.get? e = none ∧ h.FunFrames B l ∧ h.TracedAtW B e (.ref 51) a0 fl) ∧
    (∃ d k oe, (d, ballD w (.ref b) k) ∈ news ∧ h.get? e = some oe ∧ oe.dict = some d) ∧ (∀ p ∈ T, p ∈ news) ∧ TmIn news b u ∧ P u
theorem RaisedD.toF {w : World} {base : Heap} {l : List Env} {e : Addr} {T : List (Addr × Obj)} {P : Tm → Prop} {h : Heap} (R : RaisedD w base l e T P h) : RaisedF w base l e T P h :=
  let ⟨b, u, news, ⟨B, a0, hB, hl, f1, f2, f3, f4⟩, d, t, tm, p⟩ := R
  ⟨b, u, news, B, a0, .none, hB, hl, ⟨f1, f2, f3, f4⟩, d, t, tm, p⟩
section
variable {M : Model} {A : Around} {E : Value → Shared → Prop} {s : Shared}
theorem leave_any {base : Heap} {env : Env} {outer : List Env} {L e : Addr} {cls a0 fl : Value} {Q : Unit → Shared → Prop} (hfr : A.frames = some (env :: outer)) (hf : env.frame = some L)
    (hkb : base.StaysIn s.heap) (hen : base.get? e = none) (hl : s.heap.FunFrames base (env :: outer)) (ht : s.heap.TracedAtW base e cls a0 fl)
    (h : ∀ h', Heap.LeftW base (env :: outer) e cls a0 s.heap h' → Q () { s with heap := h' }) : wpAny M A (leaving env (.ref e)) Q E s := by
  by_cases hfl : fl = rawInt L
  · subst hfl
    unfold leaving
    refine wpAny_bind (wpAny_noteFrame_againW hf ht ?_)
    exact wpAny_landsW (cls := cls) (a0 := a0) (L := L) (l := env :: outer) ⟨hkb, hen, hl, ht⟩ fun h' k sm => h h' ⟨k.1, k.2.2.1, k.2.2.2, sm⟩
  · obtain ⟨oe, vs, T, oT, ts, he, ⟨hcls, h0⟩, hd, h1, hnT, hTe, hT, hdT, h3⟩ := ht
    subst hcls
    unfold leaving noteFrame
    simp only [hf]
    refine wpAny_bind (wpAny_bind (wpAny_field he hd h1 ?_))
    rw [if_pos (show (Value.ref T != Value.none) = true from by simp)]
    refine wpAny_bind (wpAny_field hT hdT h3 ?_)
    rw [if_neg (by simpa using hfl)]
    refine wpAny_bind (wpAny_setField hT hdT (Array.getElem?_eq_some_iff.mp h3).1 ?_)
    have keep : ∀ b o, s.heap.get? b = some o → b ≠ T → (s.heap.update T (Obj.mapFields (·.setIfInBounds 3 Value.none))).get? b = some o := fun b o q hb => (Heap.get?_update_other _ _ (Ne.symm hb)).trans q
    have notT : ∀ b o, s.heap.get? b = some o → (∀ vs, o.data ≠ .fields vs) → b ≠ T := fun b o q hnf z => by
      rw [z, hT] at q; cases q; exact hnf ts hdT
    refine wpAny_newEntryW hfr (hl.of_keeps fun b o q hnf => ⟨o, keep b o q (notT b o q hnf), rfl⟩) hf (keep e _ he (Ne.symm hTe)) (fun b o q => keep b o (hkb b o q) fun z => by rw [z, hnT] at q; cases q) hen hd
      (Array.getElem?_eq_some_iff.mp h1).1 h0 fun h' hL => h h' ?_
    obtain ⟨x1, x2, x3, x4⟩ := hL
    exact ⟨x1, x2, x3, fun b o q hnf => x4 b o (keep b o q (notT b o q hnf)) hnf⟩
end
section
variable {M : Model} {A : Around} {E : Value → Shared → Prop} {s' : Shared} {base g g₂ : Heap} {env : Env} {outer : List Env} {L e : Addr} {m : Str → Option Value} {Q : Unit → Shared → Prop} {w : World}
theorem leave_F {T : List (Addr × Obj)} {P : Tm → Prop} (K : Below A base outer g) (F : Fr g L g₂ m) (R : RaisedF w base (env :: outer) e T P s'.heap) (hsm : g₂.UpToSlots s'.heap) (hf : env.frame = some L)
    (hQ : ∀ h', RaisedD w base outer e T P h' → g.UpToSlots h' → Q () { s' with heap := h' }) :
    wpAny M (A.deeper env) (leaving env (.ref e)) Q E s' := by
  obtain ⟨b, u, news, B, a0, fl, hB, hl, ⟨f1, f2, f3, f4⟩, ⟨d, k, oe, hd, hoe, hod⟩, hT, htm, hP⟩ := R
  refine wpAny_mono (wpAny_meek (meek_leaving _ _) (leave_any (Q := fun _ s₂ => ∃ h', s₂ = { s' with heap := h' } ∧ Heap.LeftW B (env :: outer) e (.ref 51) a0 s'.heap h') (Around.frames_deeper K.stack) hf f1 f2 f3 f4 fun h' x => ⟨h', rfl, x⟩)) (fun _ s₂ hh => ?_) fun _ _ x => x
  obtain ⟨⟨h', rfl, ⟨x1, ⟨_, _, x2⟩, x3, x4⟩⟩, hD⟩ := hh
  obtain ⟨oe', hoe', hod'⟩ := hD e _ hoe
  exact hQ h' ⟨b, u, news, ⟨B, a0, hB, hl, x1, f2, x2, x3⟩, ⟨d, k, oe', hd, hoe', hod'.trans hod⟩, hT, htm, hP⟩ ((Heap.UpToSlots.of_keeps F.keep).trans (hsm.trans x4))
theorem leave_newE {t d b : Addr} {k : Tok} {news T T' : List (Addr × Obj)} {u : Tm} (K : Below A base outer g) (F : Fr g L s'.heap m) (N : News g L s'.heap news) (he : (e, excD t d) ∈ news) (hd : (d, ballD w (.ref b) k) ∈ news)
    (hT' : ∀ p ∈ T', p ∈ news) (htm : TmIn T' b u) (hT : ∀ p ∈ T, p ∈ news) (hTe : ∀ p ∈ T, p.1 ≠ e) (hf : env.frame = some L) (hk : env.scope.kind = .function)
    (hQ : ∀ h', RaisedD w base outer e T (fun x => x = u) h' → g.UpToSlots h' → Q () { s' with heap := h' }) :
    wpAny M (A.deeper env) (leaving env (.ref e)) Q E s' := by
  have K' := pushE K F hf hk
  have hin : ∀ env' ∈ (env :: outer), ∀ b, env'.frame = some b → b ∈ e :: (env :: outer).filterMap (·.frame) := fun env he b hb => .tail _ (List.mem_filterMap.mpr ⟨env, he, hb⟩)
  have Ne := N _ he
  have hbe : base.get? e = none := fresh_of_stays K.stays Ne.2.2
  have st : base.StaysIn (hideAll s'.heap (e :: (env :: outer).filterMap (·.frame))) := fun b o q => hideAll_get _ (K'.stays b o q) fun hm => by
    rcases List.mem_cons.mp hm with rfl | hm
    · rw [hbe] at q; cases q
    · rw [(K'.frames.mem hm).1] at q; cases q
  have nfr : ∀ q ∈ news, q.1 ∉ (env :: outer).filterMap (·.frame) := fun q hq hm => by
    obtain ⟨env', he, hf'⟩ := List.mem_filterMap.mp hm
    rcases List.mem_cons.mp he with rfl | he
    · rw [hf] at hf'
      exact (N q hq).2.1 (Option.some.inj hf').symm
    · obtain ⟨o, ho, _⟩ := (K.frames.mem (List.mem_filterMap.mpr ⟨env', he, hf'⟩)).2
      rw [(N q hq).2.2] at ho; cases ho
  have hl : ∀ q ∈ news, q.1 ≠ e → (hideAll s'.heap (e :: (env :: outer).filterMap (·.frame))).get? q.1 = some q.2 ∧ base.get? q.1 = none := fun q hq hqe => by
    refine ⟨hideAll_get _ (N q hq).1 fun hm => ?_, fresh_of_stays K.stays (N q hq).2.2⟩
    rcases List.mem_cons.mp hm with q1 | q1
    · exact hqe q1
    · exact nfr q hq q1
  have hen : (hideAll s'.heap (e :: (env :: outer).filterMap (·.frame))).get? e = none := hideAll_none _ (.head _)
  have hde : d ≠ e := fun q => by
    have z := (N _ hd).1
    have z2 := Ne.1
    dsimp only at z z2
    rw [q, z2] at z
    cases z
  refine wpAny_mono (wpAny_meek (meek_leaving _ _) (wpAny_leaving_firstW (Q := fun _ s₂ => ∃ h', s₂ = { s' with heap := h' } ∧ Heap.LeftW (hideAll s'.heap (e :: (env :: outer).filterMap (·.frame))) (env :: outer) e (.ref 51) (.ref t) s'.heap h')
    (a0 := .ref t) (oe := excD t d) K'.stack (funFrames_hide K'.frames hin) hf Ne.1 (fun b o q => of_hideAll _ q) hen rfl rfl rfl fun h' hL => ⟨h', rfl, hL⟩)) (fun _ s₂ hh => ?_) fun _ _ x => x
  obtain ⟨⟨h', rfl, hL⟩, hD⟩ := hh
  obtain ⟨k1, ⟨_, _, k2⟩, k3, k4⟩ := hL
  obtain ⟨oe, hoe, hod⟩ := hD e _ Ne.1
  refine hQ h' ⟨b, u, news.filter (fun p => decide (p.1 ≠ e)), ⟨_, .ref t, st, fun q hq => ?_, k1, hen, k2, k3⟩, ⟨d, k, oe, ?_, hoe, hod⟩, fun p hp => ?_, ?_, rfl⟩ ((Heap.UpToSlots.of_keeps F.keep).trans k4)
  · obtain ⟨q1, q2⟩ := List.mem_filter.mp hq
    exact hl q q1 (of_decide_eq_true q2)
  · exact List.mem_filter.mpr ⟨hd, decide_eq_true hde⟩
  · exact List.mem_filter.mpr ⟨hT p hp, decide_eq_true (hTe p hp)⟩
  · refine htm.of_sub fun x vs hx => List.mem_filter.mpr ⟨hT' _ hx, decide_eq_true fun q => ?_⟩
    have z := (N _ (hT' _ hx)).1
    have z2 := Ne.1
    dsimp only at z z2 q
    rw [q, z2] at z
    cases z
end
/-- an exception out of a comprehension's turn: the comprehension's names C go -/
theorem comp_raised {M : Model} {A : Around} {E E' : Value → Shared → Prop} {s : Shared} {base : Heap} {env : Env} {outer : List Env} {L e C : Addr} {scope : Scope} {cl : List (Str × Addr)} {w : World} {T : List (Addr × Obj)} {P : Tm → Prop} {oC : Obj} {m₂ : Str → Option Value} {Q : Value → Shared → Prop} {acc : Value} {use : Option (Value → Sem Unit)}
    (hfr : A.frames = some (env :: outer)) (hf : env.frame = some L) (R : RaisedD w base (env :: outer) e T P s.heap) (hC : (C, oC) ∈ T) (hN : LCg.NsObj oC m₂) (hb : ∀ v k, oC ≠ ballD w v k)
    (hE : ∀ h', RaisedF w base (env :: outer) e (T.filter fun p => decide (p.1 ≠ C)) P h' → (∀ g : Heap, g.get? C = none → g.UpToSlots s.heap → g.UpToSlots h') → E (.ref e) { s with heap := h' }) :
    wpAny M A (noteFrame (.ref e) (compEnvC scope cl C env)) (fun _ s' => compPost M A E use Q acc C (.error (.ref e)) s') E' s := by
  obtain ⟨b, u, news, ⟨B, a0, hB, hl, hfl⟩, ⟨d, k₀, oe, hdm, hoe, hod⟩, hT, htm, hP⟩ := R
  have same : noteFrame (.ref e) (compEnvC scope cl C env) = noteFrame (.ref e) env := rfl
  rw [same]
  obtain ⟨es, ep, hdC, _, _⟩ := id hN
  have hBC := (hl _ (hT _ hC)).1
  have hbC := (hl _ (hT _ hC)).2
  dsimp only at hBC hbC
  refine looks_D hfr hf hfl fun h₄ hheld hsm D₄ => ?_
  obtain ⟨k1, k2, k3, k4⟩ := hheld
  refine (show ∃ m, h₄.Ns C m ∧ _ from ⟨m₂, hN.ns (k1 _ _ hBC), fun h' hs' cenv hce => ?_⟩)
  obtain ⟨oe₄, vs, Tr, oT, ts, he, ⟨hcls, h0⟩, hd, h1, hnT, hTe, hTr, hdT, h3⟩ := k4
  have hCe : e ≠ C := fun z => by rw [z, hBC] at k2; cases k2
  have hCT : Tr ≠ C := fun z => by rw [z, hBC] at hnT; cases hnT
  have he' : h'.get? e = some oe₄ := (hs'.2 e hCe).trans he
  have hTr' : h'.get? Tr = some oT := (hs'.2 Tr hCT).trans hTr
  unfold PySem.passOn
  refine wpAny_bind (wpAny_field he' hd h1 ?_)
  rw [if_neg (show ¬ ((Value.ref Tr == Value.none) = true) from by simp)]
  have hsz3 : 3 < ts.size := (Array.getElem?_eq_some_iff.mp h3).1
  have fin : wpAny M A (setFlight (.ref e) cenv.frame) (fun _ s' => E (.ref e) s') E { s with heap := h' } := by
    unfold setFlight
    refine wpAny_bind (wpAny_field he' hd h1 ?_)
    rw [if_pos (show (Value.ref Tr != Value.none) = true from by simp)]
    refine wpAny_setField hTr' hdT hsz3 ?_
    have other : ∀ b o, h₄.get? b = some o → b ≠ C → b ≠ Tr → (h'.update Tr (Obj.mapFields (·.setIfInBounds 3 (cenv.frame.elim Value.none fun f => rawInt f)))).get? b = some o := fun b o q n1 n2 =>
      (Heap.get?_update_other _ _ (Ne.symm n2)).trans ((hs'.2 b n1).trans q)
    have B1 : ∀ b o, (hideAll B [C]).get? b = some o → B.get? b = some o ∧ b ≠ C := fun b o q => ⟨of_hideAll _ q, fun z => by rw [z, hideAll_none [C] (.head _)] at q; cases q⟩
    have B2 : ∀ b o, B.get? b = some o → b ≠ C → (hideAll B [C]).get? b = some o := fun b o q n => hideAll_get _ q fun hm => n (List.mem_singleton.mp hm)
    have ff : ∀ {l : List Env}, h₄.FunFrames B l → (h'.update Tr (Obj.mapFields (·.setIfInBounds 3 (cenv.frame.elim Value.none fun f => rawInt f)))).FunFrames (hideAll B [C]) l := by
      intro l
      induction l with
      | nil => exact fun _ => trivial
      | cons x r ih =>
        rintro ⟨q1, ⟨L1, o1, q2, q3, q4, q5⟩, q6⟩
        refine ⟨q1, ⟨L1, o1, q2, ?_, other L1 o1 q4 (fun z => by rw [z, hBC] at q3; cases q3) (fun z => by rw [z, hTr] at q4; cases q4; exact q5 _ hdT), q5⟩, ih q6⟩
        cases z : (hideAll B [C]).get? L1 with
        | none => rfl
        | some o => rw [(B1 _ _ z).1] at q3; cases q3
    obtain ⟨oe', hoe', hod'⟩ := D₄ e _ hoe
    have hee : oe' = oe₄ := Option.some.inj (hoe'.symm.trans he)
    subst hee
    have hdC2 : d ≠ C := fun z => by
      have q := (hl _ hdm).1
      dsimp only at q
      rw [z, hBC] at q
      exact hb _ _ (Option.some.inj q)
    refine hE _ ⟨b, u, news.filter fun p => decide (p.1 ≠ C), hideAll B [C], a0, cenv.frame.elim Value.none (fun f => rawInt f), fun b o q => B2 b o (hB b o q) (fun z => by rw [z, hbC] at q; cases q), fun q hq => ?_, ⟨fun b o q => ?_, ?_, ff k3, ?_⟩, ⟨d, k₀, oe', ?_, other e oe' he hCe (Ne.symm hTe), hod'.trans hod⟩, fun p hp => ?_, ?_, hP⟩ fun g hgC hg b o q hnf => ?_
    · obtain ⟨q1, q2⟩ := List.mem_filter.mp hq
      exact ⟨B2 _ _ (hl q q1).1 (of_decide_eq_true q2), (hl q q1).2⟩
    · obtain ⟨q1, q2⟩ := B1 b o q
      exact other b o (k1 b o q1) q2 fun z => by rw [z, hnT] at q1; cases q1
    · cases z : (hideAll B [C]).get? e with
      | none => rfl
      | some o => rw [(B1 _ _ z).1] at k2; cases k2
    · refine ⟨oe', vs, Tr, _, _, other e oe' he hCe (Ne.symm hTe), ⟨hcls, h0⟩, hd, h1, ?_, hTe, Heap.get?_update_self _ hTr' (Obj.isFreed_of_fields (Obj.data_mapFields hdT _)), Obj.data_mapFields hdT _, by simp [hsz3]⟩
      cases z : (hideAll B [C]).get? Tr with
      | none => rfl
      | some o => rw [(B1 _ _ z).1] at hnT; cases hnT
    · exact List.mem_filter.mpr ⟨hdm, decide_eq_true hdC2⟩
    · obtain ⟨q1, q2⟩ := List.mem_filter.mp hp
      exact List.mem_filter.mpr ⟨hT p q1, q2⟩
    · refine htm.of_sub fun x vs hx => List.mem_filter.mpr ⟨hx, decide_eq_true fun q => ?_⟩
      have z := (hl _ hx).1
      dsimp only at z q
      rw [q, hBC] at z
      rw [Option.some.inj z] at hdC
      cases hdC
    · have hbC2 : b ≠ C := fun z => by rw [z, hgC] at q; cases q
      obtain ⟨sl, z⟩ := hg b o q hnf
      obtain ⟨sl2, z2⟩ := hsm b _ z hnf
      refine ⟨sl2, other b _ z2 hbC2 fun y => ?_⟩
      rw [y, hTr] at z2
      cases z2
      exact hnf _ hdT
  first
    | exact wpAny_bind (wpAny_pure (wpAny_bind (wpAny_mono fin (fun _ _ x => wpAny_throw x) fun _ _ x => x)))
    | exact wpAny_bind (wpAny_mono fin (fun _ _ x => wpAny_throw x) fun _ _ x => x)
end Mine
end

section
set_option maxRecDepth 100000
set_option maxHeartbeats 1000000
set_option Elab.async false
namespace Mine
open PySem PySem.W PyProof.Rows PySem.Calls PySem.Spec
section
variable {prog : Program} {w : World} {A : Around} {E : Value → Shared → Prop} {s : Shared} {h₀ : Heap} {L : Addr} {m : Str → Option Value} {env : Env}
/-- one turn of a comprehension over a list of the ledger -/
def CTurn (prog : Program) (w : World) (A : Around) (E : Value → Shared → Prop) (h₀ : Heap) (L : Addr) (m : Str → Option Value) (env : Env) (elt : Expr) (x : Str) (scope : Scope) (cl : List (Str × Addr)) (Q : Value → Shared → Prop) (s₁ : Shared) (news : List (Addr × Obj)) (its : Array Value) (J : Nat → List Value → List (Addr × Obj) → Prop) : Prop :=
  ∀ (i : Nat) v ys nw I oI C oC D m₂ h tk, its[i]? = some v → J i ys nw → ys.length = i → oI.cls ≠ .type "tuple" → LCg.NsObj oC m₂ → m₂ x = some v → Fr h₀ L h m → News h₀ L h ((I, oI) :: (C, oC) :: (D, LCg.lst ys) :: nw) →
    (∀ p ∈ nw, p.1 ≠ I ∧ p.1 ≠ C ∧ p.1 ≠ D) → (I ≠ C ∧ I ≠ D ∧ C ≠ D) → (∀ p ∈ news, p.1 < I) → (∀ p ∈ news, p.1 < C) → (∀ p ∈ news, p.1 < D) →
    wpAny (model prog w) A (eval elt (compEnvC scope cl C env)) (fun y s₂ => ∃ h' tk' nw', s₂ = { s₁ with heap := h', toks := tk' } ∧ Fr h₀ L h' m ∧ News h₀ L h' ((I, oI) :: (C, oC) :: (D, LCg.lst ys) :: nw') ∧ (∀ p ∈ nw', p.1 ≠ I ∧ p.1 ≠ C ∧ p.1 ≠ D) ∧ J (i + 1) (ys ++ [y]) nw')
      (notedBy (model prog w) A (compEnvC scope cl C env) (fun e s' => compPost (model prog w) A E none Q (.ref D) C (.error e) s')) { s₁ with heap := h, toks := tk }
theorem listcomp_J {elt iter : Expr} {x : Str} {px : Pos} {scope : Scope} {cl : List (Str × Addr)} {pos : Pos} {Q : Value → Shared → Prop} (hh : A.handled = none)
    (hclos : closureFor scope env = pure cl) (hcell : ∀ y ∈ scope.names, y.2 ≠ .cell) (hkind : scope.kind = .function)
    (hnames : ∀ y ∈ scope.names, y.2 = .local → scope.names.lookup y.1 = some .local) (hx : scope.names.lookup x = some .local)
    (h : wpAny (model prog w) A (eval iter env) (fun xv s₁ => ∃ ax its ep news, ∃ J : Nat → List Value → List (Addr × Obj) → Prop, xv = .ref ax ∧ Fr h₀ L s₁.heap m ∧ News h₀ L s₁.heap news ∧ J 0 [] news ∧ (∀ i ys nw, J i ys nw → (ax, listOf its ep) ∈ nw) ∧ its.size ≤ sizeLine ∧
      CTurn prog w A E h₀ L m env elt x scope cl Q s₁ news its J ∧
      (∀ D ys nw h tk, J its.size ys nw → Fr h₀ L h m → News h₀ L h ((D, LCg.lst ys) :: nw) → (∀ p ∈ nw, p.1 ≠ D) → (∀ p ∈ news, p.1 < D) → Q (.ref D) { s₁ with heap := h, toks := tk })) E s)
    (hs : ∀ x, foldedSetIterable iter env x = pure x := by intro _; rfl) :
    wpAny (model prog w) A (eval (.ListComp elt [⟨.Name x px, iter, [], 0⟩] scope pos) env) Q E s := by
  rw [eval_ListComp]
  refine wpAny_comprehension_free (use := none) rfl hs hclos hkind hnames (wpAny_mono h (fun xv s₁ h₁ => ?_) fun _ _ e => e)
  obtain ⟨ax, its, ep, news, J, rfl, F, N, j0, keep, hsz, turn, done⟩ := h₁
  have hl : s₁.heap.IsList ax its := News.isList N (keep _ _ _ j0)
  have hlt : ax < s₁.heap.objs.size := by obtain ⟨_, e, _⟩ := hl; exact Heap.lt_size e
  refine wpAny_pyIter_list hl ?_
  generalize hI : s₁.heap.objs.size = I at *
  have W := Walks.list (prog := prog) (w := w) hh I ax (Nat.ne_of_lt hlt) its
  refine wpAny_newObj_type (wpAny_newFunctionEnv hcell (by intro y hy; simp at hy) (fun h₁ hns₁ hsb₁ => ?_) hkind)
  dsimp only at hns₁ hsb₁ ⊢
  generalize hP : s₁.heap.push ({ cls := .type "list_iterator", data := .fields #[.ref ax, .int 0 0] } : Obj) = P at *
  have hPs : P.objs.size = I + 1 := by rw [← hP, Heap.size_push, hI]
  generalize hD : P.objs.size = D at *
  generalize hH : P.push ({ cls := .type "list", dict := none, data := .seq ([] : List Value).toArray } : Obj) = H at *
  have hHs : H.objs.size = D + 1 := by rw [← hH, Heap.size_push, hD]
  generalize hC : H.objs.size = C at *
  have oldP : ∀ b o, s₁.heap.get? b = some o → P.get? b = some o := fun b o e => by rw [← hP]; exact Heap.get?_push_of_some _ e
  have oldH : ∀ b o, P.get? b = some o → H.get? b = some o := fun b o e => by rw [← hH]; exact Heap.get?_push_of_some _ e
  have ltI : ∀ b o, s₁.heap.get? b = some o → b < I := fun b o e => by rw [← hI]; exact Heap.lt_size e
  have hIC : @LT.lt Nat _ I C := by have a : C = D + 1 := hHs; have b : D = I + 1 := hPs; omega
  have hID : @LT.lt Nat _ I D := by have b : D = I + 1 := hPs; omega
  have hDC : @LT.lt Nat _ D C := by have a : C = D + 1 := hHs; omega
  have upH : ∀ b o, H.get? b = some o → h₁.get? b = some o := fun b o e => hsb₁.extBut b o (fun q => by have := Heap.lt_size e; rw [hC] at this; exact absurd (q ▸ this) (Nat.lt_irrefl _)) (Heap.get?_push_of_some _ e)
  have old : ∀ b o, s₁.heap.get? b = some o → h₁.get? b = some o := fun b o e => upH b o (oldH b o (oldP b o e))
  have hnone : ∀ a, @LE.le Nat _ I a → h₀.get? a = none := fun a ha => by
    cases e : h₀.get? a with
    | none => rfl
    | some o => exact absurd (ltI _ _ (F.keep _ _ e)) (Nat.not_lt.mpr ha)
  have hL : @LT.lt Nat _ L I := by rw [← hI]; exact F.ns.lt
  have gI : h₁.get? I = some ({ cls := .type "list_iterator", data := .fields #[.ref ax, .int 0 0] } : Obj) := upH _ _ (oldH _ _ (by rw [← hP, ← hI]; exact Heap.get?_push_size _ rfl))
  have gD : h₁.get? D = some (LCg.lst []) := upH _ _ (by rw [← hH, ← hD]; exact Heap.get?_push_size _ rfl)
  have n1 : ∀ p ∈ news, @LT.lt Nat _ p.1 I := fun p hp => ltI _ _ (N p hp).1
  have loop : ∀ s₃ : Shared, s₃ = { s₁ with heap := h₁, toks := s₁.toks + ([] : List (Str × Value)).length } →
      codeAny (model prog w) A (.compLoop (.ListComp elt [⟨.Name x px, iter, [], 0⟩] scope pos) 0 (.ref I) (.ref D) (compEnvC scope cl C env)) (compPost (model prog w) A E none Q (.ref D) C) s₃ := by
    rintro s₃ rfl
    refine codeAny_compLoop_tests
      (fun k s' => ∃ h' tk i ys nw, s' = { s₁ with heap := h', toks := tk } ∧ i ≤ its.size ∧ k = its.size + 1 - i ∧ ys.length = i ∧ (h'.IsListIter I ax i ∧ h'.IsList ax its) ∧ Fr h₀ L h' m ∧ (∃ m', h'.Ns C m') ∧ News h₀ L h' ((D, LCg.lst ys) :: nw) ∧
        (∀ p ∈ nw, p.1 ≠ I ∧ p.1 ≠ C ∧ p.1 ≠ D) ∧ J i ys nw) ?_ (its.size + 1)
      ⟨h₁, _, 0, [], news, rfl, Nat.zero_le _, rfl, rfl, ⟨⟨_, gI, rfl, rfl⟩, ?_⟩, F.keeps old, ⟨_, hns₁⟩, fun p hp => ?_, fun p hp => ?_, j0⟩
    · rintro k s' ⟨h', tk, i, ys, nw, rfl, hi, rfl, hyl, hst, F', ⟨m', hn'⟩, N', off, j⟩
      have hnC : ∀ b o, h₀.get? b = some o → b ≠ C := fun b o e q => by rw [q, hnone _ (Nat.le_of_lt hIC)] at e; cases e
      by_cases hlt2 : i < its.size
      · refine W.item i _ _ _ hlt2 hst fun v h₂ tk₂ hPv hst₂ hk₂ => ?_
        have k2 : ∀ b o, b ≠ I → h'.get? b = some o → h₂.get? b = some o := fun b o q e => hk₂ b o (fun hm => q (List.mem_singleton.mp hm)) e
        refine wpAny_assign_Name (wpAny_storeName_local (lookup_relabel_local hx) (hn'.at' fun o e => k2 _ o (Nat.ne_of_gt hIC) e) (fun h₃ hn₃ hs₃ => ?_) (by simp [compEnvC, relabel, hkind]))
        refine wpAny_tests_nil ?_
        simp only [if_true]
        have k3 : ∀ b o, b ≠ C → h₂.get? b = some o → h₃.get? b = some o := fun b o q e => hs₃.extBut b o q e
        have k23 : ∀ b o, b ≠ I → b ≠ C → h'.get? b = some o → h₃.get? b = some o := fun b o q1 q2 e => k3 b o q2 (k2 b o q1 e)
        obtain ⟨⟨oI, gI₂, dI⟩, lI⟩ := hst₂
        have gI₃ : h₃.get? I = some oI := k3 _ _ (Nat.ne_of_lt hIC) gI₂
        obtain ⟨oC, gC, hoC⟩ := LCg.ns_obj hn₃
        have hIb : ∀ b o, h₀.get? b = some o → b ≠ I := fun b o e q => by rw [q, hnone _ (Nat.le_refl _)] at e; cases e
        have F₃ : Fr h₀ L h₃ m := ⟨F'.ns.at' fun o e => k23 L o (Nat.ne_of_lt hL) (Nat.ne_of_lt (Nat.lt_trans hL hIC)) e, fun b o e => k23 b o (hIb b o e) (hnC b o e) (F'.keep b o e), F'.above⟩
        have N₃ : News h₀ L h₃ ((I, oI) :: (C, oC) :: (D, LCg.lst ys) :: nw) := fun p hp => by
          rcases List.mem_cons.mp hp with rfl | hp
          · exact ⟨gI₃, Nat.ne_of_gt hL, hnone _ (Nat.le_refl _)⟩
          · rcases List.mem_cons.mp hp with rfl | hp
            · exact ⟨gC, Nat.ne_of_gt (Nat.lt_trans hL hIC), hnone _ (Nat.le_of_lt hIC)⟩
            · have z := N' p hp
              refine ⟨k23 _ _ ?_ ?_ z.1, z.2⟩
              · rcases List.mem_cons.mp hp with rfl | hp
                · exact Nat.ne_of_gt hID
                · exact (off p hp).1
              · rcases List.mem_cons.mp hp with rfl | hp
                · exact Nat.ne_of_lt hDC
                · exact (off p hp).2.1
        refine wpAny_mono (turn i v ys nw I oI C oC D _ h₃ _ hPv j hyl (by rw [dI.1]; decide) hoC (by simp) F₃ N₃ off ⟨Nat.ne_of_lt hIC, Nat.ne_of_lt hID, Nat.ne_of_gt hDC⟩ n1 (fun p hp => Nat.lt_trans (n1 p hp) hIC) (fun p hp => Nat.lt_trans (n1 p hp) hID)) (fun y s₄ h₄ => ?_) fun _ _ e => e
        obtain ⟨h₄, tk₄, nw₄, rfl, F₄, N₄, off₄, j₄⟩ := h₄
        have zI := (N₄ (I, oI) (.head _)).1
        have zC := (N₄ (C, oC) (.tail _ (.head _))).1
        have zD := (N₄ (D, LCg.lst ys) (.tail _ (.tail _ (.head _)))).1
        dsimp only at zI zC zD
        refine append_at (hsz := by show ys.toArray.size ≤ sizeLine; rw [List.size_toArray, hyl]; exact Nat.le_trans hi hsz) zD fun h₅ hs₅ hD₅ => ?_
        have k5 : ∀ b o, b ≠ D → h₄.get? b = some o → h₅.get? b = some o := fun b o q e => hs₅.extBut b o q e
        refine ⟨its.size + 1 - (i + 1), by omega, h₅, tk₄, i + 1, ys ++ [y], nw₄, rfl, hlt2, rfl, by rw [List.length_append, List.length_singleton, hyl], ⟨⟨oI, k5 _ _ (Nat.ne_of_lt hID) zI, dI⟩, ?_⟩,
          F₄.change hs₅ (Nat.ne_of_gt (Nat.lt_trans hL hID)) (hnone _ (Nat.le_of_lt hID)), ⟨_, hoC.ns (k5 _ _ (Nat.ne_of_gt hDC) zC)⟩, fun p hp => ?_, off₄, j₄⟩
        · have q := keep _ _ _ j₄
          refine ⟨_, k5 _ _ (off₄ _ q).2.2 (N₄ _ (.tail _ (.tail _ (.tail _ q)))).1, rfl, _, rfl⟩
        · rcases List.mem_cons.mp hp with rfl | hp
          · exact ⟨hD₅.trans (congrArg some (LCg.lst_snoc ys y)), Nat.ne_of_gt (Nat.lt_trans hL hID), hnone _ (Nat.le_of_lt hID)⟩
          · have z := N₄ p (.tail _ (.tail _ (.tail _ hp)))
            exact ⟨k5 _ _ (off₄ p hp).2.2 z.1, z.2⟩
      · obtain rfl : i = its.size := Nat.le_antisymm hi (Nat.not_lt.mp hlt2)
        refine W.done _ _ _ hst fun h₂ tk₂ hk₂ => ?_
        have k2 : ∀ b o, b ≠ I → h'.get? b = some o → h₂.get? b = some o := fun b o q e => hk₂ b o (fun hm => q (List.mem_singleton.mp hm)) e
        have hIb : ∀ b o, h₀.get? b = some o → b ≠ I := fun b o e q => by rw [q, hnone _ (Nat.le_refl _)] at e; cases e
        refine (show ∃ m, _ ∧ _ from ⟨m', hn'.at' fun o e => k2 _ o (Nat.ne_of_gt hIC) e, fun h'' hs'' => ?_⟩)
        have k4 : ∀ b o, b ≠ I → b ≠ C → h'.get? b = some o → h''.get? b = some o := fun b o q1 q2 e => hs''.extBut b o q2 (k2 b o q1 e)
        refine done D ys nw h'' tk₂ j ⟨F'.ns.at' fun o e => k4 L o (Nat.ne_of_lt hL) (Nat.ne_of_lt (Nat.lt_trans hL hIC)) e, fun b o e => k4 b o (hIb b o e) (hnC b o e) (F'.keep b o e), F'.above⟩ (fun p hp => ?_) (fun p hp => (off p hp).2.2) fun p hp => Nat.lt_trans (n1 p hp) hID
        have z := N' p hp
        refine ⟨k4 _ _ ?_ ?_ z.1, z.2⟩
        · rcases List.mem_cons.mp hp with rfl | hp
          · exact Nat.ne_of_gt hID
          · exact (off p hp).1
        · rcases List.mem_cons.mp hp with rfl | hp
          · exact Nat.ne_of_lt hDC
          · exact (off p hp).2.1
    · obtain ⟨o, e, r⟩ := hl; exact ⟨o, old _ _ e, r⟩
    · rcases List.mem_cons.mp hp with rfl | hp
      · exact ⟨gD, Nat.ne_of_gt (Nat.lt_trans hL hID), hnone _ (Nat.le_of_lt hID)⟩
      · exact ⟨old _ _ (N p hp).1, (N p hp).2⟩
    · exact ⟨Nat.ne_of_lt (n1 p hp), Nat.ne_of_lt (Nat.lt_trans (n1 p hp) hIC), Nat.ne_of_lt (Nat.lt_trans (n1 p hp) hID)⟩
  exact codeAny_compStart_list (loop _ rfl) (W.self 0 _ _ _ ⟨⟨_, gI, rfl, rfl⟩, by obtain ⟨o, e, r⟩ := hl; exact ⟨o, old _ _ e, r⟩⟩ (loop _ rfl))
end
end Mine
end

section
set_option maxRecDepth 100000
set_option maxHeartbeats 8000000
set_option Elab.async false
namespace Mine
open PySem PySem.W PyProof.Rows PySem.Calls PyProof.V PySem.Spec

theorem fill_here1 (w : World) (h : Heap) (X : (hd.heap_39 w.params).In h) (hp : PySem.Challenge.rw_no0155_01.prog = PySem.Challenge.rw_no0155_01.prog) : (hd.heap_39 w.params).In h ∧ PySem.Challenge.rw_no0155_01.prog = PySem.Challenge.rw_no0155_01.prog := by
  k_fill
  exact ⟨X, hp⟩

theorem item_int {prog : Program} {w : World} {A : Around} {E : Value → Shared → Prop} {s : Shared} {value slice : PySem.Expr} {l : Addr} {vs : List Value} {k : Int} {u : Tok} {Q : Value → Shared → Prop}
    (hl : s.heap.IsList l vs.toArray) (h0 : 0 ≤ k) (hlt : k < vs.length) (hsz : vs.length ≤ 63) (hall : ∀ v ∈ vs, ∃ j t, v = Value.int j t) (h : ∀ j t, Q (.int j t) s)
    (hs : subscripted slice false (.ref l) (.int k u) = operate [.ref l, .int k u] (getItem (.ref l) (.int k u)) := by with_unfolding_all rfl) :
    wpAny (model prog w) A (subscriptTail value slice (.ref l) (.int k u)) Q E s := by
  obtain ⟨n, rfl⟩ := Int.eq_ofNat_of_zero_le h0
  have hn : n < vs.length := by omega
  obtain ⟨j, t, hj⟩ := hall _ (List.getElem_mem hn)
  exact tail_any hl.typeIs slot_list_getitem.lookup (wpAny_getItem_list hl h0 (by omega) (by simp [hn, hj]) (h j t)) hs
theorem item_list {prog : Program} {w : World} {A : Around} {E : Value → Shared → Prop} {s : Shared} {value slice : PySem.Expr} {l : Addr} {vs : List Value} {k : Int} {u : Tok} {v : Value} {Q : Value → Shared → Prop}
    (hl : s.heap.IsList l vs.toArray) (h0 : 0 ≤ k) (hhi : k < 2 ^ 63) (hx : vs[k.toNat]? = some v) (h : Q v s)
    (hs : subscripted slice false (.ref l) (.int k u) = operate [.ref l, .int k u] (getItem (.ref l) (.int k u)) := by with_unfolding_all rfl) :
    wpAny (model prog w) A (subscriptTail value slice (.ref l) (.int k u)) Q E s :=
  tail_any hl.typeIs slot_list_getitem.lookup (wpAny_getItem_list hl h0 hhi (by simpa using hx) h) hs
theorem len_list {prog : Program} {w : World} {A : Around} {E : Value → Shared → Prop} {s : Shared} {l : Addr} {vs : List Value} {Q : Value → Shared → Prop}
    (hl : s.heap.IsList l vs.toArray) (hz : vs.length ≤ 1000) (h : Q (.int vs.length (s.toks + 1)) { s with toks := s.toks + 1 + 1 }) :
    wpAny (model prog w) A (call (.builtin "len") [.ref l]) Q E s := kun_lenL hl (by simp) (by omega) h
theorem ne_of_apart {c : Cx} {T : List (Addr × Obj)} {d : Addr} (h : Apart c T) (k : @LE.le Nat _ d c.ff) : ∀ p ∈ T, p.1 ≠ d := fun p hp e => by
  have h1 : c.ff < p.1 := h p hp
  rw [e] at h1
  exact absurd (Nat.lt_of_lt_of_le h1 k) (Nat.lt_irrefl _)
theorem StOk.setHand {w : World} {c : Cx} {σ : Sym} {T : List (Addr × Obj)} {ho ho' tv av fv gv : Obj} (h : StOk w c σ ⟨ho, tv, av, fv, gv⟩ T) (k : HandOk c ho') : StOk w c σ ⟨ho', tv, av, fv, gv⟩ T :=
  ⟨h.cx, k, h.good, h.tv, h.fv, h.an, h.ff, h.av, h.gv⟩
end Mine
end

section
open Mine PySem PySem.W PyProof.Rows PySem.Calls PyProof.V PySem.Spec
local macro_rules | `(tactic| ktr_room) => `(tactic| ((try simp only [depth_under_make, depth_under_kw, depth_in1, depth_deeper, depth_caller] at *); omega))
local macro_rules | `(tactic| k_mem) => `(tactic| walk_at "MY mem")
local macro_rules | `(tactic| k_all) => `(tactic| first | assumption | exact ne_of_apart (by assumption) (by omega) | exact ne_of_raw (by assumption) (by walk_at "MY sub"))
local macro_rules | `(tactic| k_lt $h:ident) => `(tactic| (have ltraw := $h; replace $h := allLt_of $h; simp only [AllLt, and_true] at $h:ident))
local macro_rules | `(tactic| walk_at $s:str) => do
  let t := Lean.Syntax.mkStrLit ("@" ++ s.getString)
  `(tactic| k_extra $t)

section
set_option maxRecDepth 100000
set_option maxHeartbeats 8000000
set_option Elab.async false
namespace Mine
open PySem PySem.W PyProof.Rows PySem.Calls PyProof.V PySem.Spec

theorem words_P1 : True := by
  k_with_none
  k_with "@MY mem" => (first | with_reducible assumption | exact List.mem_cons_self | (with_reducible refine List.mem_cons_of_mem _ ?_; walk_at "MY mem") | (with_reducible refine List.mem_append_left _ ?_; walk_at "MY mem") | (with_reducible refine List.mem_append_right _ ?_; walk_at "MY mem"))
  k_with "@call builtin:len" => ((k_here; (with_reducible show wpAny _ _ (call (Value.builtin "len") [Value.ref _]) _ _ _); k_dflt (refine len_list (by exact News.isList (by k_asm) (by walk_at "MY mem")) (by omega) ?_; k_whole)))
  k_with "@subscriptTail Subscript Name Constant Subscript ref int" => ((k_here; (with_reducible show wpAny _ _ (subscriptTail _ _ (Value.ref _) (Value.int _ _)) _ _ _); k_dflt (refine item_int (by exact News.isList (by k_asm) (by walk_at "MY mem")) (by omega) (by omega) (by omega) (by assumption) ?_; k_whole); intro j tj))
  k_with "@subscriptTail Name Constant ref int" => ((k_here; k_dflt (first | (refine item_list (by exact News.isList (by k_asm) (by walk_at "MY mem")) (by decide) (by decide) (by rfl) ?_; k_whole) | (refine item_tupleT (by exact News.isTup (by k_asm) (by walk_at "MY mem")) (by decide) (by decide) (by rfl) (by rfl) ?_; k_whole))))
  k_with "@subscriptTail Subscript Name Constant Constant ref int" => ((k_here; k_dflt (refine item_tupleT (by exact News.isTup (by k_asm) (by walk_at "MY mem")) (by decide) (by decide) (by rfl) (by rfl) ?_; k_whole)))
  k_with "@MY sub" => ((intro p9 hp9; walk_at "MY mem"))
  k_with "@MY units" => (((try simp only [units_in1, units_deeper, Around.mark_units, units_caller] at *); omega))
  k_with "@MY over" => (first | exact over_nil | assumption | (refine over_cons (over_of (by assumption) (by walk_at "MY mem") (by walk_at "MY sub")) ?_; walk_at "MY over") | (refine over_app ?_ ?_ <;> walk_at "MY over") | exact over_mono (by assumption) (by walk_at "MY sub"))
  k_with "@MY rot" => (first | exact Rot.base | (apply Rot.pushT; walk_at "MY rot") | (apply Rot.pushL; walk_at "MY rot") | (apply Rot.keep; walk_at "MY rot") | (apply Rot.drop; walk_at "MY rot"))
  k_with "@MY front" => (first | exact List.forall_mem_nil _ | (refine List.forall_mem_cons.mpr ⟨by first | assumption | decide, ?_⟩; walk_at "MY front"))
  k_with "@MY subT" => (first | exact SubT.front (by walk_at "MY front") | exact SubT.refl)
  k_with "@MY frames" => (first | exact Around.frames_deeper (by assumption) | (simp only [Around.in1_frames]; exact Around.frames_deeper (by assumption)))
  k_with "@MY handled" => (first | assumption | (simp only [Around.in1_handled]; assumption))
  k_with "@MY apart" => (((try simp only [List.nil_append, List.cons_append]); first | assumption | (refine Apart.cons (by (try dsimp only); omega) ?_; walk_at "MY apart")))
  k_with "@MY le" => (first | exact Sym.le_refl _ | assumption | (refine Sym.le_trans ?_ (by assumption); walk_at "MY le"))
  k_with "@MY suf" => (first | exact suf_nil | (apply suf_cons; walk_at "MY suf") | (apply suf_app; walk_at "MY suf"))
  k_with "@MY off" => (first | exact led_offT (by assumption) | (refine off_cons (by (try dsimp only); omega) ?_; walk_at "MY off") | (refine off_join (off_app (by assumption) (by walk_at "MY mem")) ?_; walk_at "MY off"))
  trivial


theorem pick_ok {w : World} {mean : ExcName → Option Value} {mg mb : Str → Option Value} {c : Cx} {σ : Sym} {T : List (Addr × Obj)} {limit : Int} {tl : Tok} (hl : 0 < limit) (hl2 : limit ≤ 12) :
    Ctr w mean mg mb c 226 5 60 [.ref c.hd, .int limit tl] σ T (fun _ _ _ r => ∃ d t, r = .int d t ∧ 0 ≤ d ∧ d < limit) := by
  intro S A env outer base h₀ L m s Q E hS hT at' hA hU hret
  obtain ⟨⟨A₀, B⟩, F, X, N, T', hfr, hfl, hki, hha⟩ := at'
  obtain ⟨ho, tv, av, fv, gv⟩ := S
  obtain ⟨i, n, z, t1, t2, t3, ep, hho, hi, hi2, hz, hz2⟩ := hS.hand
  obtain ⟨⟨o1, o2, o3, o4, o5, o6, o7⟩, hI, hlen⟩ := hS.cx
  dsimp only at hho
  subst hho
  dsimp only [led] at N
  refine wpAny_call ?_
  k_dflt (refine' code_def (binds := [(Str.ofString "hand", .ref c.hd), (Str.ofString "limit", .int limit tl)]) ?k1 ?k2 ?k3 ?k4 ?k5 ?kA ?kF ?kK ?k6 ?k7 ?k8 ?k9 ?kB ?_ ?c2 ?c3 ?c4 ?c5; (case kA => assumption); (case kF => assumption); (case kK => assumption); (case k1 => k_asm); (case k2 => k_asm); (case k3 => k_asm); (case k4 => k_asm); (case k5 => k_asm); (case k6 => k_is); (case k7 => k_is); (case k8 => ktr_room); (case k9 => exact BindsTo.of_eq rfl); (case c5 => decide); (case kB => exact locs rfl); (case c2 => exact rfl); (case c3 => exact rfl); (case c4 => exact rfl); k_whole; intro g' L' h' FG' F' N' B' X' T''; (try dsimp only); (try k_fold))
  k_steps
  all_goals (refine hret _ σ ⟨_, tv, av, fv, gv⟩ [] T _ _ (by assumption) (by assumption) (hS.setHand ⟨_, _, _, _, _, _, _, rfl, ?_, ?_, ?_, ?_⟩) rfl (Sym.le_refl _) (fun _ h => nomatch h) ⟨_, _, rfl, ?_, ?_⟩)
  all_goals (first | omega | exact Int.fmod_nonneg_of_pos _ (by omega) | exact Int.fmod_lt_of_pos _ (by omega))
end Mine
end

section
set_option maxRecDepth 100000
set_option maxHeartbeats 8000000
set_option Elab.async false
namespace Mine
open PySem PySem.W PyProof.Rows PySem.Calls PyProof.V PySem.Spec

theorem fill_here2 (w : World) (h : Heap) (X : (hd.heap_39 w.params).In h) (hp : PySem.Challenge.rw_no0155_01.prog = PySem.Challenge.rw_no0155_01.prog) : (hd.heap_39 w.params).In h ∧ PySem.Challenge.rw_no0155_01.prog = PySem.Challenge.rw_no0155_01.prog := by
  k_fill
  exact ⟨X, hp⟩

theorem lookup_gen {α : Type} [BEq α] [LawfulBEq α] (enc : α → PyData) (he : ∀ a b, same (enc a) (enc b) = (a == b)) (x : α) : ∀ A : List (α × Int), lookup (enc x) (A.map fun p => (enc p.1, PyData.int p.2)) = (A.lookup x).map PyData.int
  | [] => rfl
  | (y, n) :: r => by
    have e : (y == x) = (x == y) := Bool.eq_iff_iff.mpr (by simp only [beq_iff_eq]; exact ⟨Eq.symm, Eq.symm⟩)
    rw [List.map_cons, PySem.Spec.lookup, he, List.lookup_cons, e]
    cases h : (x == y) with
    | true => simp
    | false => simpa using lookup_gen enc he x r
theorem any_gen {α : Type} [BEq α] [LawfulBEq α] (enc : α → PyData) (he : ∀ a b, same (enc a) (enc b) = (a == b)) (x : α) : ∀ A : List (α × Int), A.lookup x = none → ((A.map fun p => (enc p.1, PyData.int p.2)).any fun p => same p.1 (enc x)) = false
  | [], _ => rfl
  | (y, n) :: r, h => by
    have e : (y == x) = (x == y) := Bool.eq_iff_iff.mpr (by simp only [beq_iff_eq]; exact ⟨Eq.symm, Eq.symm⟩)
    rw [List.lookup_cons] at h
    rw [List.map_cons, List.any_cons, he, e]
    cases k : (x == y) with
    | true => rw [k] at h; cases h
    | false => rw [k] at h; simpa using any_gen enc he x r h
theorem put_gen {α : Type} [BEq α] [LawfulBEq α] (enc : α → PyData) (he : ∀ a b, same (enc a) (enc b) = (a == b)) (x : α) (n : Int) (A : List (α × Int)) (h : A.lookup x = none) :
    putD (enc x) (.int n) (A.map fun p => (enc p.1, PyData.int p.2)) = (A ++ [(x, n)]).map fun p => (enc p.1, PyData.int p.2) := by
  unfold putD
  rw [any_gen enc he x A h]
  simp
def encP (p : Int × Int) : PyData := encTuple PyData.int [p.1, p.2]
theorem same_encP (a b : Int × Int) : same (encP a) (encP b) = (a == b) := by
  unfold encP
  rw [same_encTuple PyProof.V.same_int]
  obtain ⟨a1, a2⟩ := a
  obtain ⟨b1, b2⟩ := b
  rw [Bool.eq_iff_iff]
  simp
theorem aD_lookup (σ : Sym) (x : Str) : PySem.Spec.lookup (.str x) (aD σ) = (σ.A.lookup x).map PyData.int := lookup_gen PyData.str (fun _ _ => rfl) x σ.A
theorem gD_lookup (σ : Sym) (a k : Int) : PySem.Spec.lookup (encTuple PyData.int [a, k]) (gD σ) = (σ.G.lookup (a, k)).map PyData.int := lookup_gen encP same_encP (a, k) σ.G
def Sym.addA (σ : Sym) (x : Str) : Sym := { σ with A := σ.A ++ [(x, (σ.A.length : Int))] }
def Sym.addG (σ : Sym) (a k : Int) : Sym := { σ with G := σ.G ++ [((a, k), (σ.G.length : Int))] }
def Sym.inA (σ : Sym) (x : Str) : Sym := if (σ.A.lookup x).isSome then σ else σ.addA x
def Sym.inG (σ : Sym) (a k : Int) : Sym := if (σ.G.lookup (a, k)).isSome then σ else σ.addG a k
theorem inA_new {σ : Sym} {x : Str} (h : σ.A.lookup x = none) : σ.addA x = σ.inA x := by unfold Sym.inA; rw [h]; rfl
theorem inA_old {σ : Sym} {x : Str} {n : Int} (h : σ.A.lookup x = some n) : σ = σ.inA x := by unfold Sym.inA; rw [h]; rfl
theorem inG_new {σ : Sym} {a k : Int} (h : σ.G.lookup (a, k) = none) : σ.addG a k = σ.inG a k := by unfold Sym.inG; rw [h]; rfl
theorem inG_old {σ : Sym} {a k n : Int} (h : σ.G.lookup (a, k) = some n) : σ = σ.inG a k := by unfold Sym.inG; rw [h]; rfl
theorem inA_G (σ : Sym) (x : Str) : (σ.inA x).G = σ.G := by unfold Sym.inA; split <;> rfl
theorem aD_put {σ : Sym} {x : Str} (h : σ.A.lookup x = none) : putD (.str x) (.int (σ.A.length : Int)) (aD σ) = aD (σ.addA x) := put_gen PyData.str (fun _ _ => rfl) x _ σ.A h
theorem gD_put {σ : Sym} {a k : Int} (h : σ.G.lookup (a, k) = none) : putD (encTuple PyData.int [a, k]) (.int (σ.G.length : Int)) (gD σ) = gD (σ.addG a k) := put_gen encP same_encP (a, k) _ σ.G h
theorem lookup_append_some {α : Type} [BEq α] {A B : List (α × Int)} {x : α} {n : Int} (h : A.lookup x = some n) : (A ++ B).lookup x = some n := by
  induction A with
  | nil => cases h
  | cons p r ih =>
    obtain ⟨y, m⟩ := p
    rw [List.lookup_cons] at h
    rw [List.cons_append, List.lookup_cons]
    cases k : (x == y) with
    | true => rw [k] at h; exact h
    | false => rw [k] at h; exact ih h
theorem lookup_append_new {α : Type} [BEq α] [LawfulBEq α] {A : List (α × Int)} {x : α} {n : Int} (h : A.lookup x = none) : (A ++ [(x, n)]).lookup x = some n := by
  induction A with
  | nil => simp [List.lookup]
  | cons p r ih =>
    obtain ⟨y, m⟩ := p
    rw [List.lookup_cons] at h
    rw [List.cons_append, List.lookup_cons]
    cases k : (x == y) with
    | true => rw [k] at h; cases h
    | false => rw [k] at h; exact ih h
theorem mem_of_lookup {α : Type} [BEq α] [LawfulBEq α] {A : List (α × Int)} {x : α} {n : Int} (h : A.lookup x = some n) : (x, n) ∈ A := by
  induction A with
  | nil => cases h
  | cons p r ih =>
    obtain ⟨y, m⟩ := p
    rw [List.lookup_cons] at h
    cases k : (x == y) with
    | true => rw [k] at h; rw [beq_iff_eq] at k; cases h; subst k; exact .head _
    | false => rw [k] at h; exact .tail _ (ih h)
theorem not_mem_of_lookup {α : Type} [BEq α] [LawfulBEq α] {A : List (α × Int)} {x : α} (h : A.lookup x = none) : x ∉ A.map (·.1) := by
  induction A with
  | nil => simp
  | cons p r ih =>
    obtain ⟨y, m⟩ := p
    rw [List.lookup_cons] at h
    cases k : (x == y) with
    | true => rw [k] at h; cases h
    | false =>
      rw [k] at h
      have := beq_eq_false_iff_ne.mp k
      simp only [List.map_cons, List.mem_cons, not_or]
      exact ⟨this, ih h⟩
theorem le_addA (σ : Sym) (x : Str) : σ.le (σ.addA x) := ⟨fun _ _ h => lookup_append_some h, fun _ _ h => h, Nat.le_refl _⟩
theorem le_addG (σ : Sym) (a k : Int) : σ.le (σ.addG a k) := ⟨fun _ _ h => h, fun _ _ h => lookup_append_some h, by simp [Sym.addG]⟩
theorem addA_atom {σ : Sym} {x : Str} (h : σ.A.lookup x = none) : Says (σ.addA x) (fun τ => τ.atom x) (σ.A.length : Int) := fun τ l => by
  have := l.1 x _ (lookup_append_new (n := (σ.A.length : Int)) h)
  show (τ.A.lookup x).getD (-1) = _
  rw [this]; rfl
theorem addG_fn {σ : Sym} {a k : Int} (h : σ.G.lookup (a, k) = none) : Says (σ.addG a k) (fun τ => τ.fn a k) (σ.G.length : Int) := fun τ l => by
  have := l.2.1 (a, k) _ (lookup_append_new (n := (σ.G.length : Int)) h)
  show (τ.G.lookup (a, k)).getD (-1) = _
  rw [this]; rfl
theorem old_atom {σ : Sym} {x : Str} {n : Int} (h : σ.A.lookup x = some n) : Says σ (fun τ => τ.atom x) n := fun τ l => by
  show (τ.A.lookup x).getD (-1) = _
  rw [l.1 x _ h]; rfl
theorem old_fn {σ : Sym} {a k n : Int} (h : σ.G.lookup (a, k) = some n) : Says σ (fun τ => τ.fn a k) n := fun τ l => by
  show (τ.G.lookup (a, k)).getD (-1) = _
  rw [l.2.1 _ _ h]; rfl
theorem nodup_snoc {α : Type} {l : List α} {x : α} (h : l.Nodup) (k : x ∉ l) : (l ++ [x]).Nodup := by
  rw [List.nodup_append]
  exact ⟨h, by simp, fun a ha b hb => by rw [List.mem_singleton] at hb; subst hb; exact fun e => k (e ▸ ha)⟩
theorem Sym.Good.addA {σ : Sym} (h : σ.Good) {x : Str} (hx : σ.A.lookup x = none) (hu : x ∈ uni) : (σ.addA x).Good := by
  refine ⟨fun p hp => ?_, ?_, fun p hp => ?_, h.gv, h.gn, h.gk⟩
  · have e : (σ.addA x).A.length = σ.A.length + 1 := by simp [Sym.addA]
    rw [e]
    rcases List.mem_append.mp hp with hp | hp
    · have := h.av p hp; omega
    · rw [List.mem_singleton] at hp; subst hp; dsimp only; omega
  · show ((σ.A ++ [(x, (σ.A.length : Int))]).map (·.1)).Nodup
    rw [List.map_append]
    exact nodup_snoc h.an (not_mem_of_lookup hx)
  · rcases List.mem_append.mp hp with hp | hp
    · exact h.au p hp
    · rw [List.mem_singleton] at hp; subst hp; exact hu
theorem Sym.Good.addG {σ : Sym} (h : σ.Good) {a k : Int} (hx : σ.G.lookup (a, k) = none) (h0 : 0 ≤ a) (h1 : a < 64) (h2 : 0 ≤ k) (h3 : k < 16) (hk : k = 2 ∨ (σ.G.length ≠ 0 ∧ σ.G.length ≠ 1 ∧ σ.G.length ≠ 15)) : (σ.addG a k).Good := by
  refine ⟨h.av, h.an, h.au, fun p hp => ?_, ?_, fun p hp => ?_⟩
  · have e : (σ.addG a k).G.length = σ.G.length + 1 := by simp [Sym.addG]
    rw [e]
    rcases List.mem_append.mp hp with hp | hp
    · have := h.gv p hp; exact ⟨this.1, by omega, this.2.2⟩
    · rw [List.mem_singleton] at hp; subst hp; dsimp only; omega
  · show ((σ.G ++ [((a, k), (σ.G.length : Int))]).map (·.1)).Nodup
    rw [List.map_append]
    exact nodup_snoc h.gn (not_mem_of_lookup hx)
  · rcases List.mem_append.mp hp with hp | hp
    · exact h.gk p hp
    · rw [List.mem_singleton] at hp; subst hp; exact ⟨h0, h1, h2, h3⟩
theorem Sym.Good.atomBound {σ : Sym} (h : σ.Good) {x : Str} {n : Int} (hx : σ.A.lookup x = some n) : 0 ≤ n ∧ n < 64 := by
  have := h.av _ (mem_of_lookup hx)
  have := h.alen
  dsimp only at *
  omega
end Mine
end

section
set_option maxRecDepth 100000
set_option maxHeartbeats 8000000
set_option Elab.async false
namespace Mine
open PySem PySem.W PyProof.Rows PySem.Calls PyProof.V PySem.Spec

theorem fill_here3 (w : World) (h : Heap) (X : (hd.heap_39 w.params).In h) (hp : PySem.Challenge.rw_no0155_01.prog = PySem.Challenge.rw_no0155_01.prog) : (hd.heap_39 w.params).In h ∧ PySem.Challenge.rw_no0155_01.prog = PySem.Challenge.rw_no0155_01.prog := by
  k_fill
  exact ⟨X, hp⟩

theorem StOk.strTab {w : World} {c : Cx} {σ : Sym} {S : St} {T news : List (Addr × Obj)} {h₀ h : Heap} {L : Addr} (hS : StOk w c σ S T) (N : News h₀ L h news) (hm : (c.an, S.av) ∈ news) : StrTab PySem.Challenge.rw_no0155_01.row.prog w h c.an (aD σ) := by
  obtain ⟨kvs, hd, hf⟩ := hS.av
  exact ⟨hS.an, kvs, Heap.dictOf_iff.mpr ⟨_, N.get hm, hd⟩, hf⟩
theorem flat_int {v : Value} {n : Int} (h : Flat v (.int n)) : ∃ t, v = .int n t := by
  have q := h { objs := #[] }
  cases q
  exact ⟨_, rfl⟩
section
variable {w : World} {A : Around} {E : Value → Shared → Prop} {s : Shared} {c : Cx} {σ : Sym} {S : St} {T news : List (Addr × Obj)} {h₀ : Heap} {L : Addr} {m : Str → Option Value} {x : Str} {t u : Tok}
theorem atom_get_old {n : Int} {Q : Value → Shared → Prop} (hS : StOk w c σ S T) (N : News h₀ L s.heap news) (hm : (c.an, S.av) ∈ news) (hx : σ.A.lookup x = some n) (h : ∀ tk, Q (.int n tk) { s with toks := s.toks + 1 }) :
    wpAny (model PySem.Challenge.rw_no0155_01.row.prog w) A (call (.builtin "dict.get") [.ref c.an, .str x t, .int (-1) u]) Q E s := by
  refine call_get2_strTab (hS.strTab N hm) (Flat.int (-1) u) fun v hv => ?_
  rw [aD_lookup, hx] at hv
  obtain ⟨tk, rfl⟩ := flat_int hv
  exact h tk
theorem atom_get_new {Q : Value → Shared → Prop} (hS : StOk w c σ S T) (N : News h₀ L s.heap news) (hm : (c.an, S.av) ∈ news) (hx : σ.A.lookup x = none) (h : ∀ tk, Q (.int (-1) tk) { s with toks := s.toks + 1 }) :
    wpAny (model PySem.Challenge.rw_no0155_01.row.prog w) A (call (.builtin "dict.get") [.ref c.an, .str x t, .int (-1) u]) Q E s := by
  refine call_get2_strTab (hS.strTab N hm) (Flat.int (-1) u) fun v hv => ?_
  rw [aD_lookup, hx] at hv
  obtain ⟨tk, rfl⟩ := flat_int hv
  exact h tk
theorem aD_len (σ : Sym) : (aD σ).length = σ.A.length := by simp [aD]
theorem gD_len (σ : Sym) : (gD σ).length = σ.G.length := by simp [gD]
theorem atom_set {g : Obj → List (Addr × Obj)} {Q : Unit → Shared → Prop} (F : Fr h₀ L s.heap m) (hS : StOk w c σ S T) (N : News h₀ L s.heap news) (U : UpdF c.an S.av news g) (hx : σ.A.lookup x = none)
    (h : ∀ h' o', Fr h₀ L h' m → News h₀ L h' (g o') → AOk w o' (aD (σ.addA x)) → Q () { s with heap := h', toks := s.toks + 1 }) :
    wpAny (model PySem.Challenge.rw_no0155_01.row.prog w) A (setItem (.ref c.an) (.str x t) (.int (σ.A.length : Int) u)) Q E s := by
  obtain ⟨kvs, hd, hf⟩ := hS.av
  refine setItem_K PyProof.V.same_str (strKind_is _ _ _ _) (Flat.int _ _) F N U hd hf (fun h' o' F' N' hd' hf' => h h' o' F' N' ⟨_, hd', by rw [aD_put hx] at hf'; exact hf'⟩) ?_
  have := hS.good.alen
  rw [aD_len, sizeLine_eq]
  omega
end

theorem words_P3 : True := by
  k_with_none
  k_with "@MY mem" => (first | with_reducible assumption | exact List.mem_cons_self | (with_reducible refine List.mem_cons_of_mem _ ?_; walk_at "MY mem") | (with_reducible refine List.mem_append_left _ ?_; walk_at "MY mem") | (with_reducible refine List.mem_append_right _ ?_; walk_at "MY mem"))
  k_with "@call builtin:len" => ((k_here; (with_reducible show wpAny _ _ (call (Value.builtin "len") [Value.ref _]) _ _ _); k_dflt (refine len_list (by exact News.isList (by k_asm) (by walk_at "MY mem")) (by omega) ?_; k_whole)))
  k_with "@subscriptTail Subscript Name Constant Subscript ref int" => ((k_here; (with_reducible show wpAny _ _ (subscriptTail _ _ (Value.ref _) (Value.int _ _)) _ _ _); k_dflt (refine item_int (by exact News.isList (by k_asm) (by walk_at "MY mem")) (by omega) (by omega) (by omega) (by assumption) ?_; k_whole); intro j tj))
  k_with "@subscriptTail Name Constant ref int" => ((k_here; k_dflt (first | (refine item_list (by exact News.isList (by k_asm) (by walk_at "MY mem")) (by decide) (by decide) (by rfl) ?_; k_whole) | (refine item_tupleT (by exact News.isTup (by k_asm) (by walk_at "MY mem")) (by decide) (by decide) (by rfl) (by rfl) ?_; k_whole))))
  k_with "@subscriptTail Subscript Name Constant Constant ref int" => ((k_here; k_dflt (refine item_tupleT (by exact News.isTup (by k_asm) (by walk_at "MY mem")) (by decide) (by decide) (by rfl) (by rfl) ?_; k_whole)))
  k_with "@MY sub" => ((intro p9 hp9; walk_at "MY mem"))
  k_with "@MY units" => (((try simp only [units_in1, units_deeper, Around.mark_units, units_caller] at *); omega))
  k_with "@MY over" => (first | exact over_nil | assumption | (refine over_cons (over_of (by assumption) (by walk_at "MY mem") (by walk_at "MY sub")) ?_; walk_at "MY over") | (refine over_app ?_ ?_ <;> walk_at "MY over") | exact over_mono (by assumption) (by walk_at "MY sub"))
  k_with "@MY rot" => (first | exact Rot.base | (apply Rot.pushT; walk_at "MY rot") | (apply Rot.pushL; walk_at "MY rot") | (apply Rot.keep; walk_at "MY rot") | (apply Rot.drop; walk_at "MY rot"))
  k_with "@MY front" => (first | exact List.forall_mem_nil _ | (refine List.forall_mem_cons.mpr ⟨by first | assumption | decide, ?_⟩; walk_at "MY front"))
  k_with "@MY subT" => (first | exact SubT.front (by walk_at "MY front") | exact SubT.refl)
  k_with "@MY frames" => (first | exact Around.frames_deeper (by assumption) | (simp only [Around.in1_frames]; exact Around.frames_deeper (by assumption)))
  k_with "@MY handled" => (first | assumption | (simp only [Around.in1_handled]; assumption))
  k_with "@MY apart" => (((try simp only [List.nil_append, List.cons_append]); first | assumption | (refine Apart.cons (by (try dsimp only); omega) ?_; walk_at "MY apart")))
  k_with "@MY le" => (first | exact Sym.le_refl _ | assumption | (refine Sym.le_trans ?_ (by assumption); walk_at "MY le"))
  k_with "@MY suf" => (first | exact suf_nil | (apply suf_cons; walk_at "MY suf") | (apply suf_app; walk_at "MY suf"))
  k_with "@MY off" => (first | exact led_offT (by assumption) | (refine off_cons (by (try dsimp only); omega) ?_; walk_at "MY off") | (refine off_join (off_app (by assumption) (by walk_at "MY mem")) ?_; walk_at "MY off"))
  k_with "@getMethod ref" => ((k_here; (with_reducible show wpAny _ _ (getMethod (Value.ref (Cx.an _)) (Str.ofString "get") _) _ _ _); k_dflt (refine getMethod_strTab_get (StOk.strTab (by assumption) (by k_asm) (by walk_at "MY mem")) ?_)))
  k_with "@call builtin:dict.get" => ((k_here; (with_reducible show wpAny _ _ (call (Value.builtin "dict.get") [Value.ref (Cx.an _), Value.str _ _, Value.int (-1) _]) _ _ _); k_dflt (first | (refine atom_get_old (by assumption) (by k_asm) (by walk_at "MY mem") (by assumption) ?_; k_whole) | (refine atom_get_new (by assumption) (by k_asm) (by walk_at "MY mem") (by assumption) ?_; k_whole)); intro tkg))
  k_with "@setItem ref str" => ((k_here; (with_reducible show wpAny _ _ (setItem (Value.ref (Cx.an _)) _ _) _ _ _); k_dflt (refine atom_set (by k_asm) (by assumption) (by k_asm) (by k_updF) (by assumption) ?_; k_whole); intro h' o' F' N' hA'; (try dsimp only at N'); (try k_sweep)))
  k_with "@call builtin:list.append" => ((k_here; (with_reducible show wpAny _ _ (call (Value.builtin _) [Value.ref _, _]) _ _ _); k_dflt (refine append_K (by k_asm) (by k_asm) (by k_upd) ?_ (by (rw [sizeLine_eq]; simp only [List.size_toArray, List.length_cons, List.length_nil]; omega)); k_whole); intro h' F' N'; (try k_sweep)))
  k_with "@call builtin:len" => ((k_here; (with_reducible show wpAny _ _ (call (Value.builtin "len") [Value.ref _]) _ _ _); k_dflt (refine kun_lenL (by exact News.isList (by k_asm) (by walk_at "MY mem")) (by first | exact congrArg Nat.cast (by assumption) | rfl) (by omega) ?_; k_whole)))
  trivial


theorem atom_ok {w : World} {mean : ExcName → Option Value} {mg mb : Str → Option Value} {c : Cx} {σ : Sym} {T : List (Addr × Obj)} {x : Str} {tx : Tok} (hu : x ∈ uni) :
    Ctr w mean mg mb c 88 5 60 [.ref c.sy, .str x tx] σ T (fun σ' T2 _ r => T2 = [] ∧ ∃ n t, r = .int n t ∧ 0 ≤ n ∧ n < 64 ∧ Says σ' (fun τ => τ.atom x) n ∧ σ' = σ.inA x) := by
  intro S A env outer base h₀ L m s Q E hS hT at' hA hU hret
  obtain ⟨⟨A₀, B⟩, F, X, N, T', hfr, hfl, hki, hha⟩ := at'
  obtain ⟨ho, tv, av, fv, gv⟩ := S
  obtain ⟨⟨o1, o2, o3, o4, o5, o6, o7⟩, hI, hlen⟩ := hS.cx
  obtain ⟨its, e, hits, hsz⟩ := hS.tv
  have hal := hS.good.alen
  dsimp only at hits
  subst hits
  dsimp only [led] at N
  rcases hx : σ.A.lookup x with _ | n
  · skip
    refine wpAny_call ?_
    k_dflt (refine' code_def (binds := [(Str.ofString "self", .ref c.sy), (Str.ofString "text", .str x tx)]) ?k1 ?k2 ?k3 ?k4 ?k5 ?kA ?kF ?kK ?k6 ?k7 ?k8 ?k9 ?kB ?_ ?c2 ?c3 ?c4 ?c5; (case kA => assumption); (case kF => assumption); (case kK => assumption); (case k1 => k_asm); (case k2 => k_asm); (case k3 => k_asm); (case k4 => k_asm); (case k5 => k_asm); (case k6 => k_is); (case k7 => k_is); (case k8 => ktr_room); (case k9 => exact BindsTo.of_eq rfl); (case c5 => decide); (case kB => exact locs rfl); (case c2 => exact rfl); (case c3 => exact rfl); (case c4 => exact rfl); k_whole; intro g' L' h' FG' F' N' B' X' T''; (try dsimp only); (try k_fold))
    k_steps
    refine hret _ (σ.addA x) ⟨ho, _, _, fv, gv⟩ [] T _ _ (by assumption) (by assumption) ?_ rfl (le_addA σ x) (fun _ h => nomatch h) ⟨rfl, _, _, rfl, by omega, by omega, addA_atom hx, inA_new hx⟩
    exact ⟨hS.cx, hS.hand, hS.good.addA hx hu, ⟨_, _, rfl, by simp [Sym.addA, hsz]⟩, hS.fv, hS.an, hS.ff, by assumption, hS.gv⟩
  · obtain ⟨hn0, hn1⟩ := hS.good.atomBound hx
    refine wpAny_call ?_
    k_dflt (refine' code_def (binds := [(Str.ofString "self", .ref c.sy), (Str.ofString "text", .str x tx)]) ?k1 ?k2 ?k3 ?k4 ?k5 ?kA ?kF ?kK ?k6 ?k7 ?k8 ?k9 ?kB ?_ ?c2 ?c3 ?c4 ?c5; (case kA => assumption); (case kF => assumption); (case kK => assumption); (case k1 => k_asm); (case k2 => k_asm); (case k3 => k_asm); (case k4 => k_asm); (case k5 => k_asm); (case k6 => k_is); (case k7 => k_is); (case k8 => ktr_room); (case k9 => exact BindsTo.of_eq rfl); (case c5 => decide); (case kB => exact locs rfl); (case c2 => exact rfl); (case c3 => exact rfl); (case c4 => exact rfl); k_whole; intro g' L' h' FG' F' N' B' X' T''; (try dsimp only); (try k_fold))
    k_steps
    exact hret _ σ ⟨ho, _, av, fv, gv⟩ [] T _ _ (by assumption) (by assumption) hS rfl (Sym.le_refl σ) (fun _ h => nomatch h) ⟨rfl, _, _, rfl, hn0, hn1, old_atom hx, inA_old hx⟩
end Mine
end

section
set_option maxRecDepth 100000
set_option maxHeartbeats 8000000
set_option Elab.async false
namespace Mine
open PySem PySem.W PyProof.Rows PySem.Calls PyProof.V PySem.Spec

theorem fill_here4 (w : World) (h : Heap) (X : (hd.heap_39 w.params).In h) (hp : PySem.Challenge.rw_no0155_01.prog = PySem.Challenge.rw_no0155_01.prog) : (hd.heap_39 w.params).In h ∧ PySem.Challenge.rw_no0155_01.prog = PySem.Challenge.rw_no0155_01.prog := by
  k_fill
  exact ⟨X, hp⟩

section
variable {w : World} {A : Around} {E : Value → Shared → Prop} {s : Shared} {c : Cx} {σ : Sym} {S : St} {T news : List (Addr × Obj)} {h₀ : Heap} {L : Addr} {m : Str → Option Value} {a k : Int} {ta tk u : Tok} {kt : Addr}
theorem StOk.tupTab (hS : StOk w c σ S T) (hm : (c.ff, S.gv) ∈ news) (hT : ∀ p ∈ T, p ∈ news) : TupTab (intKind PySem.Challenge.rw_no0155_01.row.prog w) PyData.int news c.ff (gD σ) := by
  obtain ⟨es, ep, xs, h1, h2, h3, h4, h5, h6⟩ := hS.gv
  exact ⟨hS.ff, S.gv, es, ep, xs, hm, h1, h2, h3, h4, fun x hx => let ⟨ok, p, q⟩ := h5 x hx; ⟨ok, hT _ p, q⟩, h6⟩
theorem keyObj (w : World) (a k : Int) (ta tk : Tok) : TupKeyObj (intKind PySem.Challenge.rw_no0155_01.row.prog w) [a, k] (tupO #[.int a ta, .int k tk]) :=
  TupKeyObj.made (.cons (intKind_is _ _ _ _) (.cons (intKind_is _ _ _ _) .nil))
theorem fn_get_old {n : Int} {Q : Value → Shared → Prop} (hu : A.units + 1 < cLine) (hS : StOk w c σ S T) (N : News h₀ L s.heap news) (hm : (c.ff, S.gv) ∈ news) (hT : ∀ p ∈ T, p ∈ news) (hk : (kt, tupO #[.int a ta, .int k tk]) ∈ news)
    (hx : σ.G.lookup (a, k) = some n) (h : ∀ tk', Q (.int n tk') { s with toks := s.toks + 3 }) :
    wpAny (model PySem.Challenge.rw_no0155_01.row.prog w) A (call (.builtin "dict.get") [.ref c.ff, .ref kt, .int (-1) u]) Q E s := by
  refine call_get2_tupTab PyProof.V.same_int hu N (hS.tupTab hm hT) hk (keyObj w a k ta tk) (Flat.int (-1) u) fun v hv => ?_
  rw [gD_lookup, hx] at hv
  obtain ⟨t', rfl⟩ := flat_int hv
  exact h t'
theorem fn_get_new {Q : Value → Shared → Prop} (hu : A.units + 1 < cLine) (hS : StOk w c σ S T) (N : News h₀ L s.heap news) (hm : (c.ff, S.gv) ∈ news) (hT : ∀ p ∈ T, p ∈ news) (hk : (kt, tupO #[.int a ta, .int k tk]) ∈ news)
    (hx : σ.G.lookup (a, k) = none) (h : ∀ tk', Q (.int (-1) tk') { s with toks := s.toks + 3 }) :
    wpAny (model PySem.Challenge.rw_no0155_01.row.prog w) A (call (.builtin "dict.get") [.ref c.ff, .ref kt, .int (-1) u]) Q E s := by
  refine call_get2_tupTab PyProof.V.same_int hu N (hS.tupTab hm hT) hk (keyObj w a k ta tk) (Flat.int (-1) u) fun v hv => ?_
  rw [gD_lookup, hx] at hv
  obtain ⟨t', rfl⟩ := flat_int hv
  exact h t'
theorem fn_set {g : Obj → List (Addr × Obj)} {Q : Unit → Shared → Prop} (hu : A.units + 1 < cLine) (F : Fr h₀ L s.heap m) (hS : StOk w c σ S T) (N : News h₀ L s.heap news) (U : UpdF c.ff S.gv news g) (hT : ∀ p ∈ T, p ∈ news)
    (hk : (kt, tupO #[.int a ta, .int k tk]) ∈ news) (hx : σ.G.lookup (a, k) = none)
    (h : ∀ h' o', Fr h₀ L h' m → News h₀ L h' (g o') → GOk w o' ((kt, tupO #[.int a ta, .int k tk]) :: T) (gD (σ.addG a k)) → Q () { s with heap := h', toks := s.toks + 3 }) :
    wpAny (model PySem.Challenge.rw_no0155_01.row.prog w) A (setItem (.ref c.ff) (.ref kt) (.int (σ.G.length : Int) u)) Q E s := by
  obtain ⟨es, ep, xs, h1, h2, h3, h4, h5, h6⟩ := hS.gv
  obtain ⟨pre, post, hnews, hg, p1, p2⟩ := U.split
  have hm : (c.ff, S.gv) ∈ news := by rw [hnews]; simp
  have z := N _ hm
  have hD : s.heap.DictOfH (tupleKind (intKind PySem.Challenge.rw_no0155_01.row.prog w)) c.ff xs :=
    ⟨S.gv, es, ep, N.get hm, h1, h2, h3, fun x hx => let ⟨_, p, t⟩ := h5 x hx; t.key (N.get (hT _ p)), h4⟩
  have hxs : xs.length ≤ sizeLine := by
    have e := h6.length
    have := hS.good.glen
    simp only [kvsOf, List.length_map] at e
    rw [gD_len] at e
    rw [sizeLine_eq]
    omega
  refine wpAny_setItem_heap (hsz := hxs) (knd := tupleKind (intKind PySem.Challenge.rw_no0155_01.row.prog w)) (tupleKind_room_in1 hu) ((keyObj w a k ta tk).key (N.get hk)) hD fun h' hm' hs => ?_
  obtain ⟨o', es', ep', ho', hc', hd', he', _, hn'⟩ := hm'
  rw [hnews] at N
  refine h h' o' (F.change hs z.2.1 z.2.2) (by rw [hg]; exact news_set N p1 p2 hs ho') ⟨es', ep', _, hc', hd', he', hn', fun x hx => ?_, ?_⟩
  · rcases mem_storedH hx with ⟨y, hy, e1, e2⟩ | ⟨e1, e2⟩
    · obtain ⟨oky, hmk, t⟩ := h5 y hy
      exact ⟨oky, by rw [e2]; exact .tail _ hmk, by rw [e1]; exact t⟩
    · exact ⟨_, by rw [e2]; exact .head _, by rw [e1]; exact keyObj w a k ta tk⟩
  · rw [kvsOf_storedH, ← gD_put hx]
    exact h6.stored (same_encTuple PyProof.V.same_int) [a, k] (Flat.int _ _)
end

theorem words_P4 : True := by
  k_with_none
  k_with "@MY mem" => (first | with_reducible assumption | exact List.mem_cons_self | (with_reducible refine List.mem_cons_of_mem _ ?_; walk_at "MY mem") | (with_reducible refine List.mem_append_left _ ?_; walk_at "MY mem") | (with_reducible refine List.mem_append_right _ ?_; walk_at "MY mem"))
  k_with "@call builtin:len" => ((k_here; (with_reducible show wpAny _ _ (call (Value.builtin "len") [Value.ref _]) _ _ _); k_dflt (refine len_list (by exact News.isList (by k_asm) (by walk_at "MY mem")) (by omega) ?_; k_whole)))
  k_with "@subscriptTail Subscript Name Constant Subscript ref int" => ((k_here; (with_reducible show wpAny _ _ (subscriptTail _ _ (Value.ref _) (Value.int _ _)) _ _ _); k_dflt (refine item_int (by exact News.isList (by k_asm) (by walk_at "MY mem")) (by omega) (by omega) (by omega) (by assumption) ?_; k_whole); intro j tj))
  k_with "@subscriptTail Name Constant ref int" => ((k_here; k_dflt (first | (refine item_list (by exact News.isList (by k_asm) (by walk_at "MY mem")) (by decide) (by decide) (by rfl) ?_; k_whole) | (refine item_tupleT (by exact News.isTup (by k_asm) (by walk_at "MY mem")) (by decide) (by decide) (by rfl) (by rfl) ?_; k_whole))))
  k_with "@subscriptTail Subscript Name Constant Constant ref int" => ((k_here; k_dflt (refine item_tupleT (by exact News.isTup (by k_asm) (by walk_at "MY mem")) (by decide) (by decide) (by rfl) (by rfl) ?_; k_whole)))
  k_with "@MY sub" => ((intro p9 hp9; walk_at "MY mem"))
  k_with "@MY units" => (((try simp only [units_in1, units_deeper, Around.mark_units, units_caller] at *); omega))
  k_with "@MY over" => (first | exact over_nil | assumption | (refine over_cons (over_of (by assumption) (by walk_at "MY mem") (by walk_at "MY sub")) ?_; walk_at "MY over") | (refine over_app ?_ ?_ <;> walk_at "MY over") | exact over_mono (by assumption) (by walk_at "MY sub"))
  k_with "@MY rot" => (first | exact Rot.base | (apply Rot.pushT; walk_at "MY rot") | (apply Rot.pushL; walk_at "MY rot") | (apply Rot.keep; walk_at "MY rot") | (apply Rot.drop; walk_at "MY rot"))
  k_with "@MY front" => (first | exact List.forall_mem_nil _ | (refine List.forall_mem_cons.mpr ⟨by first | assumption | decide, ?_⟩; walk_at "MY front"))
  k_with "@MY subT" => (first | exact SubT.front (by walk_at "MY front") | exact SubT.refl)
  k_with "@MY frames" => (first | exact Around.frames_deeper (by assumption) | (simp only [Around.in1_frames]; exact Around.frames_deeper (by assumption)))
  k_with "@MY handled" => (first | assumption | (simp only [Around.in1_handled]; assumption))
  k_with "@MY apart" => (((try simp only [List.nil_append, List.cons_append]); first | assumption | (refine Apart.cons (by (try dsimp only); omega) ?_; walk_at "MY apart")))
  k_with "@MY le" => (first | exact Sym.le_refl _ | assumption | (refine Sym.le_trans ?_ (by assumption); walk_at "MY le"))
  k_with "@MY suf" => (first | exact suf_nil | (apply suf_cons; walk_at "MY suf") | (apply suf_app; walk_at "MY suf"))
  k_with "@MY off" => (first | exact led_offT (by assumption) | (refine off_cons (by (try dsimp only); omega) ?_; walk_at "MY off") | (refine off_join (off_app (by assumption) (by walk_at "MY mem")) ?_; walk_at "MY off"))
  k_with "@getMethod ref" => ((k_here; (with_reducible show wpAny _ _ (getMethod (Value.ref (Cx.an _)) (Str.ofString "get") _) _ _ _); k_dflt (refine getMethod_strTab_get (StOk.strTab (by assumption) (by k_asm) (by walk_at "MY mem")) ?_)))
  k_with "@call builtin:dict.get" => ((k_here; (with_reducible show wpAny _ _ (call (Value.builtin "dict.get") [Value.ref (Cx.an _), Value.str _ _, Value.int (-1) _]) _ _ _); k_dflt (first | (refine atom_get_old (by assumption) (by k_asm) (by walk_at "MY mem") (by assumption) ?_; k_whole) | (refine atom_get_new (by assumption) (by k_asm) (by walk_at "MY mem") (by assumption) ?_; k_whole)); intro tkg))
  k_with "@setItem ref str" => ((k_here; (with_reducible show wpAny _ _ (setItem (Value.ref (Cx.an _)) _ _) _ _ _); k_dflt (refine atom_set (by k_asm) (by assumption) (by k_asm) (by k_updF) (by assumption) ?_; k_whole); intro h' o' F' N' hA'; (try dsimp only at N'); (try k_sweep)))
  k_with "@call builtin:list.append" => ((k_here; (with_reducible show wpAny _ _ (call (Value.builtin _) [Value.ref _, _]) _ _ _); k_dflt (refine append_K (by k_asm) (by k_asm) (by k_upd) ?_ (by (rw [sizeLine_eq]; simp only [List.size_toArray, List.length_cons, List.length_nil]; omega)); k_whole); intro h' F' N'; (try k_sweep)))
  k_with "@call builtin:len" => ((k_here; (with_reducible show wpAny _ _ (call (Value.builtin "len") [Value.ref _]) _ _ _); k_dflt (refine kun_lenL (by exact News.isList (by k_asm) (by walk_at "MY mem")) (by first | exact congrArg Nat.cast (by assumption) | rfl) (by omega) ?_; k_whole)))
  k_with "@getMethod ref" => ((k_here; (with_reducible show wpAny _ _ (getMethod (Value.ref (Cx.ff _)) (Str.ofString "get") _) _ _ _); k_dflt (refine getMethod_tupTab_get (by k_asm) (StOk.tupTab (by assumption) (by walk_at "MY mem") (by walk_at "MY sub")) ?_)))
  k_with "@call builtin:dict.get" => ((k_here; (with_reducible show wpAny _ _ (call (Value.builtin "dict.get") [Value.ref (Cx.ff _), Value.ref _, Value.int (-1) _]) _ _ _); k_dflt (first | (refine fn_get_old (by walk_at "MY units") (by assumption) (by k_asm) (by walk_at "MY mem") (by walk_at "MY sub") (by walk_at "MY mem") (by assumption) ?_; k_whole) | (refine fn_get_new (by walk_at "MY units") (by assumption) (by k_asm) (by walk_at "MY mem") (by walk_at "MY sub") (by walk_at "MY mem") (by assumption) ?_; k_whole)); intro tkg))
  k_with "@setItem ref" => ((k_here; (with_reducible show wpAny _ _ (setItem (Value.ref (Cx.ff _)) _ _) _ _ _); k_dflt (refine fn_set (by walk_at "MY units") (by k_asm) (by assumption) (by k_asm) (by k_updF) (by walk_at "MY sub") (by walk_at "MY mem") (by assumption) ?_; k_whole); intro h' o' F' N' hA'; (try dsimp only at N'); (try k_sweep)))
  trivial


theorem functor_ok {w : World} {mean : ExcName → Option Value} {mg mb : Str → Option Value} {c : Cx} {σ : Sym} {T : List (Addr × Obj)} {a k : Int} {ta tK : Tok} (h0 : 0 ≤ a) (h1 : a < 64) (h2 : 0 ≤ k) (h3 : k < 16)
    (hk : k = 2 ∨ (σ.G.length ≠ 0 ∧ σ.G.length ≠ 1 ∧ σ.G.length ≠ 15)) :
    Ctr w mean mg mb c 102 5 60 [.ref c.sy, .int a ta, .int k tK] σ T (fun σ' _ _ r => ∃ n t, r = .int n t ∧ (k ≠ 2 → n ≠ 0 ∧ n ≠ 1 ∧ n ≠ 15) ∧ Says σ' (fun τ => τ.fn a k) n ∧ σ' = σ.inG a k) := by
  intro S A env outer base h₀ L m s Q E hS hT at' hA hU hret
  obtain ⟨⟨A₀, B⟩, F, X, N, T', hfr, hfl, hki, hha⟩ := at'
  obtain ⟨ho, tv, av, fv, gv⟩ := S
  obtain ⟨⟨o1, o2, o3, o4, o5, o6, o7⟩, hI, hlen⟩ := hS.cx
  obtain ⟨its, e, hits, hsz⟩ := hS.fv
  have hal := hS.good.glen
  dsimp only at hits
  subst hits
  dsimp only [led] at N
  rcases hx : σ.G.lookup (a, k) with _ | n
  · skip
    refine wpAny_call ?_
    k_dflt (refine' code_def (binds := [(Str.ofString "self", .ref c.sy), (Str.ofString "atom", .int a ta), (Str.ofString "arity", .int k tK)]) ?k1 ?k2 ?k3 ?k4 ?k5 ?kA ?kF ?kK ?k6 ?k7 ?k8 ?k9 ?kB ?_ ?c2 ?c3 ?c4 ?c5; (case kA => assumption); (case kF => assumption); (case kK => assumption); (case k1 => k_asm); (case k2 => k_asm); (case k3 => k_asm); (case k4 => k_asm); (case k5 => k_asm); (case k6 => k_is); (case k7 => k_is); (case k8 => ktr_room); (case k9 => exact BindsTo.of_eq rfl); (case c5 => decide); (case kB => exact locs rfl); (case c2 => exact rfl); (case c3 => exact rfl); (case c4 => exact rfl); k_whole; intro g' L' h' FG' F' N' B' X' T''; (try dsimp only); (try k_fold))
    k_steps
    (with_reducible rename GOk _ _ _ _ => hAo)
    refine hret _ (σ.addG a k) ⟨ho, tv, av, _, _⟩ [(_, tupO #[.int a ta, .int k tK])] ((_, tupO #[.int a ta, .int k tK]) :: T) _ _ (by assumption) (News.led (by assumption) (by walk_at "MY rot")) ?_ rfl (le_addG σ a k) (by walk_at "MY over") ⟨_, _, rfl, by omega, addG_fn hx, inG_new hx⟩
    exact ⟨hS.cx, hS.hand, hS.good.addG hx h0 h1 h2 h3 hk, hS.tv, ⟨_, _, rfl, by simp [Sym.addG, hsz]⟩, hS.an, hS.ff, hS.av, hAo⟩
  · have hn0 := hS.good.gv _ (mem_of_lookup hx)
    dsimp only at hn0
    obtain ⟨hn0, hn1, hn2⟩ := hn0
    refine wpAny_call ?_
    k_dflt (refine' code_def (binds := [(Str.ofString "self", .ref c.sy), (Str.ofString "atom", .int a ta), (Str.ofString "arity", .int k tK)]) ?k1 ?k2 ?k3 ?k4 ?k5 ?kA ?kF ?kK ?k6 ?k7 ?k8 ?k9 ?kB ?_ ?c2 ?c3 ?c4 ?c5; (case kA => assumption); (case kF => assumption); (case kK => assumption); (case k1 => k_asm); (case k2 => k_asm); (case k3 => k_asm); (case k4 => k_asm); (case k5 => k_asm); (case k6 => k_is); (case k7 => k_is); (case k8 => ktr_room); (case k9 => exact BindsTo.of_eq rfl); (case c5 => decide); (case kB => exact locs rfl); (case c2 => exact rfl); (case c3 => exact rfl); (case c4 => exact rfl); k_whole; intro g' L' h' FG' F' N' B' X' T''; (try dsimp only); (try k_fold))
    k_steps
    exact hret _ σ ⟨ho, tv, av, _, gv⟩ [] T _ _ (by assumption) (News.led (by assumption) (by walk_at "MY rot")) hS rfl (Sym.le_refl σ) over_nil ⟨_, _, rfl, by omega, old_fn hx, inG_old hx⟩
end Mine
end

end

section
open Mine PySem PySem.W PyProof.Rows PySem.Calls PyProof.V PySem.Spec
local macro_rules | `(tactic| ktr_room) => `(tactic| ((try simp only [depth_under_make, depth_under_kw, depth_in1, depth_deeper, depth_caller] at *); omega))
local macro_rules | `(tactic| k_mem) => `(tactic| walk_at "MY mem")
local macro_rules | `(tactic| k_all) => `(tactic| first | assumption | exact ne_of_raw (by assumption) (by walk_at "MY sub") | exact ne_of_apart (by assumption) (by omega))
local macro_rules | `(tactic| k_ne) => `(tactic| exact Nat.ne_of_gt (raw_lt (by assumption) (by walk_at "MY mem")))
local macro_rules | `(tactic| k_lt $h:ident) => `(tactic| (have ltraw := $h; clear $h))
local macro_rules | `(tactic| walk_at $s:str) => do
  let t := Lean.Syntax.mkStrLit ("@" ++ s.getString)
  `(tactic| k_extra $t)

section
set_option maxRecDepth 100000
set_option maxHeartbeats 8000000
set_option Elab.async false
namespace Mine
open PySem PySem.W PyProof.Rows PySem.Calls PyProof.V PySem.Spec

theorem fill_here5 (w : World) (h : Heap) (X : (hd.heap_39 w.params).In h) (hp : PySem.Challenge.rw_no0155_01.prog = PySem.Challenge.rw_no0155_01.prog) : (hd.heap_39 w.params).In h ∧ PySem.Challenge.rw_no0155_01.prog = PySem.Challenge.rw_no0155_01.prog := by
  k_fill
  exact ⟨X, hp⟩

theorem words_P5 : True := by
  k_with_none
  k_with "@MY mem" => (first | with_reducible assumption | exact List.mem_cons_self | (with_reducible refine List.mem_cons_of_mem _ ?_; walk_at "MY mem") | (with_reducible refine List.mem_append_left _ ?_; walk_at "MY mem") | (with_reducible refine List.mem_append_right _ ?_; walk_at "MY mem") | exact led_sy | exact led_dx | exact led_ff | exact led_hd | exact led_cl | (with_reducible refine led_T ?_; walk_at "MY mem"))
  k_with "@call builtin:len" => ((k_here; (with_reducible show wpAny _ _ (call (Value.builtin "len") [Value.ref _]) _ _ _); k_dflt (refine len_list (by exact News.isList (by k_asm) (by walk_at "MY mem")) (by omega) ?_; k_whole)))
  k_with "@subscriptTail Subscript Name Constant Subscript ref int" => ((k_here; (with_reducible show wpAny _ _ (subscriptTail _ _ (Value.ref _) (Value.int _ _)) _ _ _); k_dflt (refine item_int (by exact News.isList (by k_asm) (by walk_at "MY mem")) (by omega) (by omega) (by omega) (by assumption) ?_; k_whole); intro j tj))
  k_with "@subscriptTail Name Constant ref int" => ((k_here; k_dflt (first | (refine item_list (by exact News.isList (by k_asm) (by walk_at "MY mem")) (by decide) (by decide) (by rfl) ?_; k_whole) | (refine item_tupleT (by exact News.isTup (by k_asm) (by walk_at "MY mem")) (by decide) (by decide) (by rfl) (by rfl) ?_; k_whole))))
  k_with "@subscriptTail Subscript Name Constant Constant ref int" => ((k_here; k_dflt (refine item_tupleT (by exact News.isTup (by k_asm) (by walk_at "MY mem")) (by decide) (by decide) (by rfl) (by rfl) ?_; k_whole)))
  k_with "@MY sub" => ((intro p9 hp9; walk_at "MY mem"))
  k_with "@MY units" => (((try simp only [units_in1, units_deeper, Around.mark_units, units_caller] at *); omega))
  k_with "@MY over" => (first | exact over_nil | assumption | (refine over_cons (over_of (by assumption) (by walk_at "MY mem") (by walk_at "MY sub")) ?_; walk_at "MY over") | (refine over_app ?_ ?_ <;> walk_at "MY over") | exact over_mono (by assumption) (by walk_at "MY sub"))
  k_with "@MY rot" => (first | exact Rot.base | (apply Rot.pushT; walk_at "MY rot") | (apply Rot.pushL; walk_at "MY rot") | (apply Rot.keep; walk_at "MY rot") | (apply Rot.drop; walk_at "MY rot"))
  k_with "@MY front" => (first | exact List.forall_mem_nil _ | (refine List.forall_mem_cons.mpr ⟨by first | assumption | decide, ?_⟩; walk_at "MY front"))
  k_with "@MY subT" => (first | exact SubT.front (by walk_at "MY front") | exact SubT.refl)
  k_with "@MY frames" => (first | exact Around.frames_deeper (by assumption) | (simp only [Around.in1_frames]; exact Around.frames_deeper (by assumption)))
  k_with "@MY handled" => (first | assumption | (simp only [Around.in1_handled]; assumption))
  k_with "@MY apart" => (((try simp only [List.nil_append, List.cons_append]); first | assumption | (refine Apart.cons (by first | with_reducible assumption | exact raw_lt (by assumption) (by walk_at "MY mem") | ((try dsimp only); omega)) ?_; walk_at "MY apart")))
  k_with "@MY le" => (first | exact Sym.le_refl _ | assumption | (refine Sym.le_trans ?_ (by assumption); walk_at "MY le"))
  k_with "@MY suf" => (first | exact suf_nil | (apply suf_cons; walk_at "MY suf") | (apply suf_app; walk_at "MY suf"))
  k_with "@MY off" => (first | exact led_offT (by assumption) | (refine off_cons (by first | exact raw_lt (by assumption) (by walk_at "MY mem") | ((try dsimp only); omega)) ?_; walk_at "MY off") | (refine off_join (off_app (by assumption) (by walk_at "MY mem")) ?_; walk_at "MY off"))
  k_with "@call ref" => ((k_here; (with_reducible show wpAny _ _ (call (Value.ref 88) _) _ _ _); k_dflt ((refine Ctr.use (by exact ⟨⟨_, by k_asm⟩, by k_asm, by k_asm, by k_asm, by k_asm, by walk_at "MY frames", rfl, rfl, by walk_at "MY handled"⟩) (by walk_at "MY rot") (by assumption) (by walk_at "MY sub") (by walk_at "MY apart") (by walk_at "MY front") (atom_ok (by first | assumption | decide)) (by ktr_room) (by walk_at "MY units") ?_; k_whole; intro r1 σ1 S1 T21 h1 tk1 F1 N1 ho1 hl1 hS1 hap1 hP1; (have hg1 := hl1.2.2); (try simp only [List.nil_append] at ho1 hP1); (try dsimp only [List.nil_append, List.cons_append] at N1); obtain ⟨hT1, n1, t1, hr1, hn1, hn2, hy1, he1⟩ := hP1; subst hr1; subst hT1; (try simp only [List.nil_append] at hS1 hap1 N1); (try k_sweep); (try dsimp only)))))
  k_with "@call ref" => ((k_here; (with_reducible show wpAny _ _ (call (Value.ref 102) _) _ _ _); k_dflt ((refine Ctr.use (by exact ⟨⟨_, by k_asm⟩, by k_asm, by k_asm, by k_asm, by k_asm, by walk_at "MY frames", rfl, rfl, by walk_at "MY handled"⟩) (by walk_at "MY rot") (by assumption) (by walk_at "MY sub") (by walk_at "MY apart") (by walk_at "MY front") (functor_ok (by omega) (by omega) (by omega) (by omega) (by first | assumption | omega | ((with_reducible rename _ = Sym.inA _ _ => he9); rw [he9, inA_G]; assumption))) (by ktr_room) (by walk_at "MY units") ?_; k_whole; intro r1 σ1 S1 T21 h1 tk1 F1 N1 ho1 hl1 hS1 hap1 hP1; (have hg1 := hl1.2.2); (try simp only [List.nil_append] at ho1 hP1); (try dsimp only [List.nil_append, List.cons_append] at N1); obtain ⟨n1, t1, hr1, hk1, hy1, he1⟩ := hP1; subst hr1; (try k_sweep); (try dsimp only)))))
  trivial


theorem says_func {σ σ' : Sym} {x : Str} {a k n : Int} (h : Says σ (fun τ => τ.atom x) a) (l : σ.le σ') (k' : Says σ' (fun τ => τ.fn a k) n) : Says σ' (fun τ => τ.fn (τ.atom x) k) n := fun τ q => by
  have e := h τ (Sym.le_trans l q)
  dsimp only at e ⊢
  rw [e]
  exact k' τ q
theorem func_ok {w : World} {mean : ExcName → Option Value} {mg mb : Str → Option Value} {c : Cx} {σ : Sym} {T : List (Addr × Obj)} {x : Str} {k : Int} {tX tK : Tok} (hu : x ∈ uni) (h2 : 0 ≤ k) (h3 : k < 16)
    (hk : k = 2 ∨ (σ.G.length ≠ 0 ∧ σ.G.length ≠ 1 ∧ σ.G.length ≠ 15)) :
    Ctr w mean mg mb c 109 10 100 [.ref c.sy, .str x tX, .int k tK] σ T (fun σ' _ _ r => ∃ n t, r = .int n t ∧ (k ≠ 2 → n ≠ 0 ∧ n ≠ 1 ∧ n ≠ 15) ∧ Says σ' (fun τ => τ.fn (τ.atom x) k) n ∧ ∃ a, σ' = (σ.inA x).inG a k ∧ Says (σ.inA x) (fun τ => τ.atom x) a) := by
  intro S A env outer base h₀ L m s Q E hS hT at' hA hU hret
  obtain ⟨⟨A₀, B⟩, F, X, N, T', hfr, hfl, hki, hha⟩ := at'
  obtain ⟨⟨o1, o2, o3, o4, o5, o6, o7⟩, hI, hlen⟩ := hS.cx
  refine wpAny_call ?_
  k_dflt (refine' code_def (binds := [(Str.ofString "self", .ref c.sy), (Str.ofString "text", .str x tX), (Str.ofString "arity", .int k tK)]) ?k1 ?k2 ?k3 ?k4 ?k5 ?kA ?kF ?kK ?k6 ?k7 ?k8 ?k9 ?kB ?_ ?c2 ?c3 ?c4 ?c5; (case kA => assumption); (case kF => assumption); (case kK => assumption); (case k1 => k_asm); (case k2 => k_asm); (case k3 => k_asm); (case k4 => k_asm); (case k5 => k_asm); (case k6 => k_is); (case k7 => k_is); (case k8 => ktr_room); (case k9 => exact BindsTo.of_eq rfl); (case c5 => decide); (case kB => exact locs rfl); (case c2 => exact rfl); (case c3 => exact rfl); (case c4 => exact rfl); k_whole; intro g' L' h' FG' F' N' B' X' T''; (try dsimp only); (try k_fold))
  k_steps
  refine hret _ _ _ _ _ _ _ (by assumption) (News.led (by assumption) (by walk_at "MY rot")) (StOk.mono (by assumption) (by walk_at "MY sub")) (by walk_at "MY suf") (by walk_at "MY le") (by walk_at "MY over") ⟨_, _, rfl, by assumption, says_func (by assumption) (by assumption) (by assumption), _, by subst_vars; rfl, by subst_vars; assumption⟩
end Mine
end

section
set_option maxRecDepth 100000
set_option maxHeartbeats 8000000
set_option Elab.async false
namespace Mine
open PySem PySem.W PyProof.Rows PySem.Calls PyProof.V PySem.Spec

theorem fill_here6 (w : World) (h : Heap) (X : (hd.heap_39 w.params).In h) (hp : PySem.Challenge.rw_no0155_01.prog = PySem.Challenge.rw_no0155_01.prog) : (hd.heap_39 w.params).In h ∧ PySem.Challenge.rw_no0155_01.prog = PySem.Challenge.rw_no0155_01.prog := by
  k_fill
  exact ⟨X, hp⟩

theorem item_menu {prog : Program} {w : World} {A : Around} {E : Value → Shared → Prop} {s : Shared} {value slice : PySem.Expr} {l : Addr} {vs : List Value} {k : Int} {u : Tok} {Q : Value → Shared → Prop}
    (hl : s.heap.IsList l vs.toArray) (h0 : 0 ≤ k) (hlt : k < vs.length) (hsz : vs.length ≤ 63) (hall : ∀ v ∈ vs, ∃ x t, v = Value.str x t ∧ x ∈ uni) (h : ∀ x t, x ∈ uni → Q (.str x t) s)
    (hs : subscripted slice false (.ref l) (.int k u) = operate [.ref l, .int k u] (getItem (.ref l) (.int k u)) := by with_unfolding_all rfl) :
    wpAny (model prog w) A (subscriptTail value slice (.ref l) (.int k u)) Q E s := by
  obtain ⟨n, rfl⟩ := Int.eq_ofNat_of_zero_le h0
  have hn : n < vs.length := by omega
  obtain ⟨x, t, hj, hx⟩ := hall _ (List.getElem_mem hn)
  exact tail_any hl.typeIs slot_list_getitem.lookup (wpAny_getItem_list hl h0 (by omega) (by simp [hn, hj]) (h x t hx)) hs

theorem words_P6 : True := by
  k_with_none
  k_with "@MY mem" => (first | with_reducible assumption | exact List.mem_cons_self | (with_reducible refine List.mem_cons_of_mem _ ?_; walk_at "MY mem") | (with_reducible refine List.mem_append_left _ ?_; walk_at "MY mem") | (with_reducible refine List.mem_append_right _ ?_; walk_at "MY mem") | exact led_sy | exact led_dx | exact led_ff | exact led_hd | exact led_cl | (with_reducible refine led_T ?_; walk_at "MY mem"))
  k_with "@call builtin:len" => ((k_here; (with_reducible show wpAny _ _ (call (Value.builtin "len") [Value.ref _]) _ _ _); k_dflt (refine len_list (by exact News.isList (by k_asm) (by walk_at "MY mem")) (by omega) ?_; k_whole)))
  k_with "@subscriptTail Subscript Name Constant Subscript ref int" => ((k_here; (with_reducible show wpAny _ _ (subscriptTail _ _ (Value.ref _) (Value.int _ _)) _ _ _); k_dflt (refine item_int (by exact News.isList (by k_asm) (by walk_at "MY mem")) (by omega) (by omega) (by omega) (by assumption) ?_; k_whole); intro j tj))
  k_with "@subscriptTail Name Constant ref int" => ((k_here; k_dflt (first | (refine item_list (by exact News.isList (by k_asm) (by walk_at "MY mem")) (by decide) (by decide) (by rfl) ?_; k_whole) | (refine item_tupleT (by exact News.isTup (by k_asm) (by walk_at "MY mem")) (by decide) (by decide) (by rfl) (by rfl) ?_; k_whole))))
  k_with "@subscriptTail Subscript Name Constant Constant ref int" => ((k_here; k_dflt (refine item_tupleT (by exact News.isTup (by k_asm) (by walk_at "MY mem")) (by decide) (by decide) (by rfl) (by rfl) ?_; k_whole)))
  k_with "@MY sub" => ((intro p9 hp9; walk_at "MY mem"))
  k_with "@MY units" => (((try simp only [units_in1, units_deeper, Around.mark_units, units_caller] at *); omega))
  k_with "@MY over" => (first | exact over_nil | assumption | (refine over_cons (over_of (by assumption) (by walk_at "MY mem") (by walk_at "MY sub")) ?_; walk_at "MY over") | (refine over_app ?_ ?_ <;> walk_at "MY over") | exact over_mono (by assumption) (by walk_at "MY sub"))
  k_with "@MY rot" => (first | exact Rot.base | (apply Rot.pushT; walk_at "MY rot") | (apply Rot.pushL; walk_at "MY rot") | (apply Rot.keep; walk_at "MY rot") | (apply Rot.drop; walk_at "MY rot"))
  k_with "@MY front" => (first | exact List.forall_mem_nil _ | (refine List.forall_mem_cons.mpr ⟨by first | assumption | decide, ?_⟩; walk_at "MY front"))
  k_with "@MY subT" => (first | exact SubT.front (by walk_at "MY front") | exact SubT.refl)
  k_with "@MY frames" => (first | exact Around.frames_deeper (by assumption) | (simp only [Around.in1_frames]; exact Around.frames_deeper (by assumption)))
  k_with "@MY handled" => (first | assumption | (simp only [Around.in1_handled]; assumption))
  k_with "@MY apart" => (((try simp only [List.nil_append, List.cons_append]); first | assumption | (refine Apart.cons (by first | with_reducible assumption | exact raw_lt (by assumption) (by walk_at "MY mem") | ((try dsimp only); omega)) ?_; walk_at "MY apart")))
  k_with "@MY le" => (first | exact Sym.le_refl _ | assumption | (refine Sym.le_trans ?_ (by assumption); walk_at "MY le"))
  k_with "@MY suf" => (first | exact suf_nil | (apply suf_cons; walk_at "MY suf") | (apply suf_app; walk_at "MY suf"))
  k_with "@MY off" => (first | exact led_offT (by assumption) | (refine off_cons (by first | exact raw_lt (by assumption) (by walk_at "MY mem") | ((try dsimp only); omega)) ?_; walk_at "MY off") | (refine off_join (off_app (by assumption) (by walk_at "MY mem")) ?_; walk_at "MY off"))
  k_with "@call builtin:list.append" => ((k_here; (with_reducible show wpAny _ _ (call (Value.builtin _) [Value.ref _, _]) _ _ _); k_dflt (refine append_K (by k_asm) (by k_asm) (by k_upd) ?_ (by (rw [sizeLine_eq]; simp only [List.size_toArray, List.length_cons, List.length_nil]; omega)); k_whole); intro h' F' N'; (try k_sweep)))
  k_with "@call builtin:len" => ((k_here; (with_reducible show wpAny _ _ (call (Value.builtin "len") [Value.ref _]) _ _ _); k_dflt (refine kun_lenL (by exact News.isList (by k_asm) (by walk_at "MY mem")) (by first | exact congrArg Nat.cast (by assumption) | rfl) (by omega) ?_; k_whole)))
  k_with "@call ref" => ((k_here; (with_reducible show wpAny _ _ (call (Value.ref 88) _) _ _ _); k_dflt ((refine Ctr.use (by exact ⟨⟨_, by k_asm⟩, by k_asm, by k_asm, by k_asm, by k_asm, by walk_at "MY frames", rfl, rfl, by walk_at "MY handled"⟩) (by walk_at "MY rot") (by assumption) (by walk_at "MY sub") (by walk_at "MY apart") (by walk_at "MY front") (atom_ok (by first | assumption | decide)) (by ktr_room) (by walk_at "MY units") ?_; k_whole; intro r1 σ1 S1 T21 h1 tk1 F1 N1 ho1 hl1 hS1 hap1 hP1; (have hg1 := hl1.2.2); (try simp only [List.nil_append] at ho1 hP1); (try dsimp only [List.nil_append, List.cons_append] at N1); obtain ⟨hT1, n1, t1, hr1, hn1, hn2, hy1, he1⟩ := hP1; subst hr1; subst hT1; (try simp only [List.nil_append] at hS1 hap1 N1); (try k_sweep); (try dsimp only)))))
  k_with "@call ref" => ((k_here; (with_reducible show wpAny _ _ (call (Value.ref 102) _) _ _ _); k_dflt ((refine Ctr.use (by exact ⟨⟨_, by k_asm⟩, by k_asm, by k_asm, by k_asm, by k_asm, by walk_at "MY frames", rfl, rfl, by walk_at "MY handled"⟩) (by walk_at "MY rot") (by assumption) (by walk_at "MY sub") (by walk_at "MY apart") (by walk_at "MY front") (functor_ok (by omega) (by omega) (by omega) (by omega) (by first | assumption | omega | ((with_reducible rename _ = Sym.inA _ _ => he9); rw [he9, inA_G]; assumption))) (by ktr_room) (by walk_at "MY units") ?_; k_whole; intro r1 σ1 S1 T21 h1 tk1 F1 N1 ho1 hl1 hS1 hap1 hP1; (have hg1 := hl1.2.2); (try simp only [List.nil_append] at ho1 hP1); (try dsimp only [List.nil_append, List.cons_append] at N1); obtain ⟨n1, t1, hr1, hk1, hy1, he1⟩ := hP1; subst hr1; (try k_sweep); (try dsimp only)))))
  k_with "@call ref" => ((k_here; (with_reducible show wpAny _ _ (call (Value.ref 226) _) _ _ _); k_dflt ((refine Ctr.use (by exact ⟨⟨_, by k_asm⟩, by k_asm, by k_asm, by k_asm, by k_asm, by walk_at "MY frames", rfl, rfl, by walk_at "MY handled"⟩) (by walk_at "MY rot") (by assumption) (by walk_at "MY sub") (by walk_at "MY apart") (by walk_at "MY front") (pick_ok (by decide) (by decide)) (by ktr_room) (by walk_at "MY units") ?_; k_whole; intro r1 σ1 S1 T21 h1 tk1 F1 N1 ho1 hl1 hS1 hap1 hP1; (have hg1 := hl1.2.2); (try simp only [List.nil_append] at ho1 hP1); (try dsimp only [List.nil_append, List.cons_append] at N1); obtain ⟨d1, t1, hr1, hd1, hd2⟩ := hP1; subst hr1; (try k_sweep); (try dsimp only)))))
  k_with "@call ref" => ((k_here; (with_reducible show wpAny _ _ (call (Value.ref 109) _) _ _ _); k_dflt ((refine Ctr.use (by exact ⟨⟨_, by k_asm⟩, by k_asm, by k_asm, by k_asm, by k_asm, by walk_at "MY frames", rfl, rfl, by walk_at "MY handled"⟩) (by walk_at "MY rot") (by assumption) (by walk_at "MY sub") (by walk_at "MY apart") (by walk_at "MY front") (func_ok (by first | assumption | decide) (by decide) (by decide) (by omega)) (by ktr_room) (by walk_at "MY units") ?_; k_whole; intro r1 σ1 S1 T21 h1 tk1 F1 N1 ho1 hl1 hS1 hap1 hP1; (have hg1 := hl1.2.2); (try simp only [List.nil_append] at ho1 hP1); (try dsimp only [List.nil_append, List.cons_append] at N1); obtain ⟨n1, t1, hr1, hk1, hy1, he1⟩ := hP1; subst hr1; (try replace hk1 := hk1 (by decide)); (try k_sweep); (try dsimp only)))))
  k_with "@MY texts" => ((simp only [List.forall_mem_cons]; (repeat' apply And.intro); all_goals first | exact ⟨_, _, rfl, by decide⟩ | exact List.forall_mem_nil _))
  k_with "@subscriptTail Name Name ref int" => ((k_here; (with_reducible show wpAny _ _ (subscriptTail _ _ (Value.ref _) (Value.int _ _)) _ _ _); k_dflt (refine item_menu (by exact News.isList (by k_asm) (by walk_at "MY mem")) (by omega) (by simp only [List.length_cons, List.length_nil]; omega) (by simp only [List.length_cons, List.length_nil]; omega) (by walk_at "MY texts") ?_; k_whole); intro xm tm hxm))
  k_with "@subscriptTail Name Call ref int" => ((k_here; (with_reducible show wpAny _ _ (subscriptTail _ _ (Value.ref _) (Value.int _ _)) _ _ _); k_dflt (refine item_menu (by exact News.isList (by k_asm) (by walk_at "MY mem")) (by omega) (by simp only [List.length_cons, List.length_nil]; omega) (by simp only [List.length_cons, List.length_nil]; omega) (by walk_at "MY texts") ?_; k_whole); intro xm tm hxm))
  k_with "@subscriptTail List" => ((k_here; (with_reducible show wpAny _ _ (subscriptTail _ _ (Value.ref _) (Value.int _ _)) _ _ _); k_dflt (refine item_menu (by exact News.isList (by k_asm) (by walk_at "MY mem")) (by omega) (by simp only [List.length_cons, List.length_nil]; omega) (by simp only [List.length_cons, List.length_nil]; omega) (by walk_at "MY texts") ?_; k_whole); intro xm tm hxm))
  trivial


theorem part_ok {w : World} {mean : ExcName → Option Value} {mg mb : Str → Option Value} {c : Cx} {σ : Sym} {T : List (Addr × Obj)} {number : Int} {tn : Tok} (hb : 16 ≤ σ.G.length) :
    Ctr w mean mg mb c 233 20 200 [.ref c.hd, .ref c.sy, .int number tn] σ T (fun _ _ T' r => ∃ a t, r = .ref a ∧ TmIn T' a t ∧ t.Ok ∧ t.size ≤ 2 ∧ t.rows = 0) := by
  intro S A env outer base h₀ L m s Q E hS hT at' hA hU hret
  obtain ⟨⟨A₀, B⟩, F, X, N, T', hfr, hfl, hki, hha⟩ := at'
  obtain ⟨⟨o1, o2, o3, o4, o5, o6, o7⟩, hI, hlen⟩ := hS.cx
  refine wpAny_call ?_
  k_dflt (refine' code_def (binds := [(Str.ofString "hand", .ref c.hd), (Str.ofString "names", .ref c.sy), (Str.ofString "number", .int number tn)]) ?k1 ?k2 ?k3 ?k4 ?k5 ?kA ?kF ?kK ?k6 ?k7 ?k8 ?k9 ?kB ?_ ?c2 ?c3 ?c4 ?c5; (case kA => assumption); (case kF => assumption); (case kK => assumption); (case k1 => k_asm); (case k2 => k_asm); (case k3 => k_asm); (case k4 => k_asm); (case k5 => k_asm); (case k6 => k_is); (case k7 => k_is); (case k8 => ktr_room); (case k9 => exact BindsTo.of_eq rfl); (case c5 => decide); (case kB => exact locs rfl); (case c2 => exact rfl); (case c3 => exact rfl); (case c4 => exact rfl); k_whole; intro g' L' h' FG' F' N' B' X' T''; (try dsimp only); (try k_fold))
  k_steps
  all_goals (refine hret _ _ _ _ _ _ _ (by assumption) (News.led (by assumption) (by walk_at "MY rot")) (StOk.mono (by assumption) (by walk_at "MY sub")) (by walk_at "MY suf") (by walk_at "MY le") (by walk_at "MY over") ⟨_, _, rfl, (by first | exact TmIn.v (by walk_at "MY mem") | exact TmIn.i (by walk_at "MY mem") | exact TmIn.a (by walk_at "MY mem") | exact TmIn.s1 (by walk_at "MY mem") (by walk_at "MY mem") (TmIn.v (by walk_at "MY mem"))), (by first | exact trivial | (simp only [Tm.Ok, and_true]; omega)), by simp only [Tm.size]; omega, rfl⟩)
end Mine
end

section
set_option maxRecDepth 100000
set_option maxHeartbeats 8000000
set_option Elab.async false
namespace Mine
open PySem PySem.W PyProof.Rows PySem.Calls PyProof.V PySem.Spec

theorem fill_here7 (w : World) (h : Heap) (X : (hd.heap_39 w.params).In h) (hp : PySem.Challenge.rw_no0155_01.prog = PySem.Challenge.rw_no0155_01.prog) : (hd.heap_39 w.params).In h ∧ PySem.Challenge.rw_no0155_01.prog = PySem.Challenge.rw_no0155_01.prog := by
  k_fill
  exact ⟨X, hp⟩

theorem words_P7 : True := by
  k_with_none
  k_with "@MY mem" => (first | with_reducible assumption | exact List.mem_cons_self | (with_reducible refine List.mem_cons_of_mem _ ?_; walk_at "MY mem") | (with_reducible refine List.mem_append_left _ ?_; walk_at "MY mem") | (with_reducible refine List.mem_append_right _ ?_; walk_at "MY mem") | exact led_sy | exact led_dx | exact led_ff | exact led_hd | exact led_cl | (with_reducible refine led_T ?_; walk_at "MY mem"))
  k_with "@call builtin:len" => ((k_here; (with_reducible show wpAny _ _ (call (Value.builtin "len") [Value.ref _]) _ _ _); k_dflt (refine len_list (by exact News.isList (by k_asm) (by walk_at "MY mem")) (by omega) ?_; k_whole)))
  k_with "@subscriptTail Subscript Name Constant Subscript ref int" => ((k_here; (with_reducible show wpAny _ _ (subscriptTail _ _ (Value.ref _) (Value.int _ _)) _ _ _); k_dflt (refine item_int (by exact News.isList (by k_asm) (by walk_at "MY mem")) (by omega) (by omega) (by omega) (by assumption) ?_; k_whole); intro j tj))
  k_with "@subscriptTail Name Constant ref int" => ((k_here; k_dflt (first | (refine item_list (by exact News.isList (by k_asm) (by walk_at "MY mem")) (by decide) (by decide) (by rfl) ?_; k_whole) | (refine item_tupleT (by exact News.isTup (by k_asm) (by walk_at "MY mem")) (by decide) (by decide) (by rfl) (by rfl) ?_; k_whole))))
  k_with "@subscriptTail Subscript Name Constant Constant ref int" => ((k_here; k_dflt (refine item_tupleT (by exact News.isTup (by k_asm) (by walk_at "MY mem")) (by decide) (by decide) (by rfl) (by rfl) ?_; k_whole)))
  k_with "@MY sub" => ((intro p9 hp9; walk_at "MY mem"))
  k_with "@MY units" => (((try simp only [units_in1, units_deeper, Around.mark_units, units_caller] at *); omega))
  k_with "@MY over" => (first | exact over_nil | assumption | (refine over_cons (over_of (by assumption) (by walk_at "MY mem") (by walk_at "MY sub")) ?_; walk_at "MY over") | (refine over_app ?_ ?_ <;> walk_at "MY over") | exact over_mono (by assumption) (by walk_at "MY sub"))
  k_with "@MY rot" => (first | exact Rot.base | (apply Rot.pushT; walk_at "MY rot") | (apply Rot.pushL; walk_at "MY rot") | (apply Rot.keep; walk_at "MY rot") | (apply Rot.drop; walk_at "MY rot"))
  k_with "@MY front" => (first | exact List.forall_mem_nil _ | (refine List.forall_mem_cons.mpr ⟨by first | assumption | decide, ?_⟩; walk_at "MY front"))
  k_with "@MY subT" => (first | exact SubT.front (by walk_at "MY front") | exact SubT.refl)
  k_with "@MY frames" => (first | exact Around.frames_deeper (by assumption) | (simp only [Around.in1_frames]; exact Around.frames_deeper (by assumption)))
  k_with "@MY handled" => (first | assumption | (simp only [Around.in1_handled]; assumption))
  k_with "@MY apart" => (((try simp only [List.nil_append, List.cons_append]); first | assumption | (refine Apart.cons (by first | with_reducible assumption | exact raw_lt (by assumption) (by walk_at "MY mem") | ((try dsimp only); omega)) ?_; walk_at "MY apart")))
  k_with "@MY le" => (first | exact Sym.le_refl _ | assumption | (refine Sym.le_trans ?_ (by assumption); walk_at "MY le"))
  k_with "@MY suf" => (first | exact suf_nil | (apply suf_cons; walk_at "MY suf") | (apply suf_app; walk_at "MY suf"))
  k_with "@MY off" => (first | exact led_offT (by assumption) | (refine off_cons (by first | exact raw_lt (by assumption) (by walk_at "MY mem") | ((try dsimp only); omega)) ?_; walk_at "MY off") | (refine off_join (off_app (by assumption) (by walk_at "MY mem")) ?_; walk_at "MY off"))
  k_with "@call builtin:list.append" => ((k_here; (with_reducible show wpAny _ _ (call (Value.builtin _) [Value.ref _, _]) _ _ _); k_dflt (refine append_K (by k_asm) (by k_asm) (by k_upd) ?_ (by (rw [sizeLine_eq]; simp only [List.size_toArray, List.length_cons, List.length_nil]; omega)); k_whole); intro h' F' N'; (try k_sweep)))
  k_with "@call builtin:len" => ((k_here; (with_reducible show wpAny _ _ (call (Value.builtin "len") [Value.ref _]) _ _ _); k_dflt (refine kun_lenL (by exact News.isList (by k_asm) (by walk_at "MY mem")) (by first | exact congrArg Nat.cast (by assumption) | rfl) (by omega) ?_; k_whole)))
  k_with "@call ref" => ((k_here; (with_reducible show wpAny _ _ (call (Value.ref 88) _) _ _ _); k_dflt ((refine Ctr.use (by exact ⟨⟨_, by k_asm⟩, by k_asm, by k_asm, by k_asm, by k_asm, by walk_at "MY frames", rfl, rfl, by walk_at "MY handled"⟩) (by walk_at "MY rot") (by assumption) (by walk_at "MY sub") (by walk_at "MY apart") (by walk_at "MY front") (atom_ok (by first | assumption | decide)) (by ktr_room) (by walk_at "MY units") ?_; k_whole; intro r1 σ1 S1 T21 h1 tk1 F1 N1 ho1 hl1 hS1 hap1 hP1; (have hg1 := hl1.2.2); (try simp only [List.nil_append] at ho1 hP1); (try dsimp only [List.nil_append, List.cons_append] at N1); obtain ⟨hT1, n1, t1, hr1, hn1, hn2, hy1, he1⟩ := hP1; subst hr1; subst hT1; (try simp only [List.nil_append] at hS1 hap1 N1); (try k_sweep); (try dsimp only)))))
  k_with "@call ref" => ((k_here; (with_reducible show wpAny _ _ (call (Value.ref 102) _) _ _ _); k_dflt ((refine Ctr.use (by exact ⟨⟨_, by k_asm⟩, by k_asm, by k_asm, by k_asm, by k_asm, by walk_at "MY frames", rfl, rfl, by walk_at "MY handled"⟩) (by walk_at "MY rot") (by assumption) (by walk_at "MY sub") (by walk_at "MY apart") (by walk_at "MY front") (functor_ok (by omega) (by omega) (by omega) (by omega) (by first | assumption | omega | ((with_reducible rename _ = Sym.inA _ _ => he9); rw [he9, inA_G]; assumption))) (by ktr_room) (by walk_at "MY units") ?_; k_whole; intro r1 σ1 S1 T21 h1 tk1 F1 N1 ho1 hl1 hS1 hap1 hP1; (have hg1 := hl1.2.2); (try simp only [List.nil_append] at ho1 hP1); (try dsimp only [List.nil_append, List.cons_append] at N1); obtain ⟨n1, t1, hr1, hk1, hy1, he1⟩ := hP1; subst hr1; (try k_sweep); (try dsimp only)))))
  k_with "@call ref" => ((k_here; (with_reducible show wpAny _ _ (call (Value.ref 226) _) _ _ _); k_dflt ((refine Ctr.use (by exact ⟨⟨_, by k_asm⟩, by k_asm, by k_asm, by k_asm, by k_asm, by walk_at "MY frames", rfl, rfl, by walk_at "MY handled"⟩) (by walk_at "MY rot") (by assumption) (by walk_at "MY sub") (by walk_at "MY apart") (by walk_at "MY front") (pick_ok (by decide) (by decide)) (by ktr_room) (by walk_at "MY units") ?_; k_whole; intro r1 σ1 S1 T21 h1 tk1 F1 N1 ho1 hl1 hS1 hap1 hP1; (have hg1 := hl1.2.2); (try simp only [List.nil_append] at ho1 hP1); (try dsimp only [List.nil_append, List.cons_append] at N1); obtain ⟨d1, t1, hr1, hd1, hd2⟩ := hP1; subst hr1; (try k_sweep); (try dsimp only)))))
  k_with "@call ref" => ((k_here; (with_reducible show wpAny _ _ (call (Value.ref 109) _) _ _ _); k_dflt ((refine Ctr.use (by exact ⟨⟨_, by k_asm⟩, by k_asm, by k_asm, by k_asm, by k_asm, by walk_at "MY frames", rfl, rfl, by walk_at "MY handled"⟩) (by walk_at "MY rot") (by assumption) (by walk_at "MY sub") (by walk_at "MY apart") (by walk_at "MY front") (func_ok (by first | assumption | decide) (by decide) (by decide) (by omega)) (by ktr_room) (by walk_at "MY units") ?_; k_whole; intro r1 σ1 S1 T21 h1 tk1 F1 N1 ho1 hl1 hS1 hap1 hP1; (have hg1 := hl1.2.2); (try simp only [List.nil_append] at ho1 hP1); (try dsimp only [List.nil_append, List.cons_append] at N1); obtain ⟨n1, t1, hr1, hk1, hy1, he1⟩ := hP1; subst hr1; (try replace hk1 := hk1 (by decide)); (try k_sweep); (try dsimp only)))))
  k_with "@call ref" => ((k_here; (with_reducible show wpAny _ _ (call (Value.ref 233) _) _ _ _); k_dflt ((refine Ctr.use (by exact ⟨⟨_, by k_asm⟩, by k_asm, by k_asm, by k_asm, by k_asm, by walk_at "MY frames", rfl, rfl, by walk_at "MY handled"⟩) (by walk_at "MY rot") (by assumption) (by walk_at "MY sub") (by walk_at "MY apart") (by walk_at "MY front") (part_ok (by omega)) (by ktr_room) (by walk_at "MY units") ?_; k_whole; intro r1 σ1 S1 T21 h1 tk1 F1 N1 ho1 hl1 hS1 hap1 hP1; (have hg1 := hl1.2.2); (try simp only [List.nil_append] at ho1 hP1); (try dsimp only [List.nil_append, List.cons_append] at N1); obtain ⟨a1, t1, hr1, ht1, hok1, hsz1, hro1⟩ := hP1; subst hr1; (try replace ht1 := TmIn.of_subT ht1 (by walk_at "MY subT")); (try k_sweep); (try dsimp only)))))
  k_with "@MY texts" => ((simp only [List.forall_mem_cons]; (repeat' apply And.intro); all_goals first | exact ⟨_, _, rfl, by decide⟩ | exact List.forall_mem_nil _))
  k_with "@subscriptTail Name Name ref int" => ((k_here; (with_reducible show wpAny _ _ (subscriptTail _ _ (Value.ref _) (Value.int _ _)) _ _ _); k_dflt (refine item_menu (by exact News.isList (by k_asm) (by walk_at "MY mem")) (by omega) (by simp only [List.length_cons, List.length_nil]; omega) (by simp only [List.length_cons, List.length_nil]; omega) (by walk_at "MY texts") ?_; k_whole); intro xm tm hxm))
  k_with "@subscriptTail Name Call ref int" => ((k_here; (with_reducible show wpAny _ _ (subscriptTail _ _ (Value.ref _) (Value.int _ _)) _ _ _); k_dflt (refine item_menu (by exact News.isList (by k_asm) (by walk_at "MY mem")) (by omega) (by simp only [List.length_cons, List.length_nil]; omega) (by simp only [List.length_cons, List.length_nil]; omega) (by walk_at "MY texts") ?_; k_whole); intro xm tm hxm))
  k_with "@subscriptTail List" => ((k_here; (with_reducible show wpAny _ _ (subscriptTail _ _ (Value.ref _) (Value.int _ _)) _ _ _); k_dflt (refine item_menu (by exact News.isList (by k_asm) (by walk_at "MY mem")) (by omega) (by simp only [List.length_cons, List.length_nil]; omega) (by simp only [List.length_cons, List.length_nil]; omega) (by walk_at "MY texts") ?_; k_whole); intro xm tm hxm))
  k_with "@MY tm" => (first | assumption | exact TmIn.mono (by assumption) (by walk_at "MY sub") | exact TmIn.v (by walk_at "MY mem") | exact TmIn.i (by walk_at "MY mem") | exact TmIn.a (by walk_at "MY mem") | (apply TmIn.s2; (walk_at "MY mem"); (walk_at "MY mem"); (walk_at "MY tm"); (walk_at "MY tm")))
  trivial


theorem one_ok {w : World} {mean : ExcName → Option Value} {mg mb : Str → Option Value} {c : Cx} {σ : Sym} {T : List (Addr × Obj)} {number : Int} {tn : Tok} (hb : 16 ≤ σ.G.length) :
    Ctr w mean mg mb c 240 30 300 [.ref c.hd, .ref c.sy, .int number tn] σ T (fun _ _ T' r => ∃ a t, r = .ref a ∧ TmIn T' a t ∧ t.Ok ∧ t.size ≤ 5 ∧ t.rows = 0) := by
  intro S A env outer base h₀ L m s Q E hS hT at' hA hU hret
  obtain ⟨⟨A₀, B⟩, F, X, N, T', hfr, hfl, hki, hha⟩ := at'
  obtain ⟨⟨o1, o2, o3, o4, o5, o6, o7⟩, hI, hlen⟩ := hS.cx
  refine wpAny_call ?_
  k_dflt (refine' code_def (binds := [(Str.ofString "hand", .ref c.hd), (Str.ofString "names", .ref c.sy), (Str.ofString "number", .int number tn)]) ?k1 ?k2 ?k3 ?k4 ?k5 ?kA ?kF ?kK ?k6 ?k7 ?k8 ?k9 ?kB ?_ ?c2 ?c3 ?c4 ?c5; (case kA => assumption); (case kF => assumption); (case kK => assumption); (case k1 => k_asm); (case k2 => k_asm); (case k3 => k_asm); (case k4 => k_asm); (case k5 => k_asm); (case k6 => k_is); (case k7 => k_is); (case k8 => ktr_room); (case k9 => exact BindsTo.of_eq rfl); (case c5 => decide); (case kB => exact locs rfl); (case c2 => exact rfl); (case c3 => exact rfl); (case c4 => exact rfl); k_whole; intro g' L' h' FG' F' N' B' X' T''; (try dsimp only); (try k_fold))
  k_steps
  all_goals (refine hret _ _ _ _ _ _ _ (by assumption) (News.led (by assumption) (by walk_at "MY rot")) (StOk.mono (by assumption) (by walk_at "MY sub")) (by walk_at "MY suf") (by walk_at "MY le") (by walk_at "MY over") ⟨_, _, rfl, (by walk_at "MY tm"), (by first | assumption | (simp only [Tm.Ok, and_true]; first | omega | exact ⟨by first | assumption | omega, by first | assumption | omega⟩)), (by (try simp only [Tm.size]); omega), (by first | assumption | exact if_neg (by decide))⟩)
end Mine
end

section
set_option maxRecDepth 100000
set_option maxHeartbeats 8000000
set_option Elab.async false
namespace Mine
open PySem PySem.W PyProof.Rows PySem.Calls PyProof.V PySem.Spec

theorem fill_here8 (w : World) (h : Heap) (X : (hd.heap_39 w.params).In h) (hp : PySem.Challenge.rw_no0155_01.prog = PySem.Challenge.rw_no0155_01.prog) : (hd.heap_39 w.params).In h ∧ PySem.Challenge.rw_no0155_01.prog = PySem.Challenge.rw_no0155_01.prog := by
  k_fill
  exact ⟨X, hp⟩

/-- a menu of terms, one of them is taken -/
theorem item_term {prog : Program} {w : World} {A : Around} {E : Value → Shared → Prop} {s : Shared} {value slice : PySem.Expr} {l : Addr} {vs : List Value} {T : List (Addr × Obj)} {k : Int} {u : Tok} {Q : Value → Shared → Prop}
    (hl : s.heap.IsList l vs.toArray) (h0 : 0 ≤ k) (h2 : k < vs.length) (hsz : vs.length ≤ 63) (hall : ∀ v ∈ vs, ∃ a t, v = .ref a ∧ TmIn T a t ∧ t.Ok ∧ t.size ≤ 1 ∧ t.rows = 0) (p : ∀ a t, TmIn T a t → t.Ok → t.size ≤ 1 → t.rows = 0 → Q (.ref a) s)
    (hs : subscripted slice false (.ref l) (.int k u) = operate [.ref l, .int k u] (getItem (.ref l) (.int k u)) := by with_unfolding_all rfl) :
    wpAny (model prog w) A (subscriptTail value slice (.ref l) (.int k u)) Q E s := by
  obtain ⟨n, rfl⟩ := Int.eq_ofNat_of_zero_le h0
  have hn : n < vs.length := by omega
  obtain ⟨a, t, hj, hx, h3, h4, h5⟩ := hall _ (List.getElem_mem hn)
  exact tail_any hl.typeIs slot_list_getitem.lookup (wpAny_getItem_list hl h0 (by omega) (by simp [hn, hj]) (p a t hx h3 h4 h5)) hs
def Whole (w : World) (mean : ExcName → Option Value) (mg mb : Str → Option Value) (d : Nat) : Prop :=
  ∀ {c : Cx} {σ : Sym} {T : List (Addr × Obj)} {number z : Int} {tn tz : Tok}, z = d → 16 ≤ σ.G.length →
    Ctr w mean mg mb c 247 (40 + 5 * d) (400 + 20 * d) [.ref c.hd, .ref c.sy, .int z tz, .int number tn] σ T (fun _ _ T' r => ∃ a t, r = .ref a ∧ TmIn T' a t ∧ t.Ok ∧ t.size + 1 ≤ 16 * 2 ^ d ∧ t.rows ≤ d)
theorem whole_use {w : World} {mean : ExcName → Option Value} {mg mb : Str → Option Value} {d : Nat} {c : Cx} {σ : Sym} {T : List (Addr × Obj)} {number z : Int} {tn tz : Tok} (H : Whole w mean mg mb d) (hz : z = d) (hb : 16 ≤ σ.G.length) :
    Ctr w mean mg mb c 247 (40 + 5 * d) (400 + 20 * d) [.ref c.hd, .ref c.sy, .int z tz, .int number tn] σ T (fun _ _ T' r => ∃ a t, r = .ref a ∧ TmIn T' a t ∧ t.Ok ∧ t.size + 1 ≤ 16 * 2 ^ d ∧ t.rows ≤ d) := H hz hb

abbrev stT {w : World} {c : Cx} {σ : Sym} {S : St} {T : List (Addr × Obj)} (_ : StOk w c σ S T) : List (Addr × Obj) := T
/-- the loop that builds a list: what holds ahead of turn i -/
def JW (w : World) (c : Cx) (σ₀ : Sym) (T₀ : List (Addr × Obj)) (m₀ : Str → Option Value) (i : Nat) (m : Str → Option Value) (news : List (Addr × Obj)) : Prop :=
  ∃ σ S T2 T' a t sv, news = led w c S T' ∧ StOk w c σ S T' ∧ T' = T2 ++ T₀ ∧ Apart c T' ∧ σ₀.le σ ∧ (∀ p ∈ T2, Over c T₀ p.1) ∧ TmIn T' a t ∧ t.Ok ∧ t.size ≤ 1 + 6 * i ∧ t.rows = 0 ∧ m = fun z => if z = Str.ofString "end" then some (.ref a) else if z = Str.ofString "step" then sv else m₀ z
theorem JW.intro {w : World} {c : Cx} {σ₀ σ : Sym} {S : St} {T₀ T' T2 : List (Addr × Obj)} {m₀ m : Str → Option Value} {i : Nat} {a : Addr} {t : Tm} {sv : Option Value} (hS : StOk w c σ S T') (e : T' = T2 ++ T₀) (hap : Apart c T') (hle : σ₀.le σ) (hov : ∀ p ∈ T2, Over c T₀ p.1)
    (ht : TmIn T' a t) (hok : t.Ok) (hsz : t.size ≤ 1 + 6 * i) (hro : t.rows = 0) (hm : m = fun z => if z = Str.ofString "end" then some (.ref a) else if z = Str.ofString "step" then sv else m₀ z) : JW w c σ₀ T₀ m₀ i m (led w c S T') :=
  ⟨σ, S, T2, T', a, t, sv, rfl, hS, e, hap, hle, hov, ht, hok, hsz, hro, hm⟩
theorem whole_loop {w : World} {A : Around} {s : Shared} {env : Env} {h₀ : Heap} {x : Str} {body : List Stmt} {Q : Flow → Shared → Prop} {E : Value → Shared → Prop} {m : Str → Option Value} {c : Cx} {σ₀ : Sym} {S : St} {T₀ : List (Addr × Obj)} {a : Addr} {t : Tm}
    {r : Addr} {k : Int} {t₀ u₀ v₀ : Tok} (hh : A.handled = none) (hr : IsRange s.heap r 0 k 1 t₀ u₀ v₀) (h0 : 0 ≤ k) (h1 : k < 3) (F : Fr h₀ env.locals s.heap m) (N : News h₀ env.locals s.heap (led w c S T₀)) (hS : StOk w c σ₀ S T₀) (hap : Apart c T₀)
    (hm : m (Str.ofString "end") = some (.ref a)) (ht : TmIn T₀ a t) (hok : t.Ok) (hsz : t.size ≤ 1) (hro : t.rows = 0)
    (step : ∀ (i : Nat) (tv : Tok) I h tk o σ S' T2 a t sv, o.cls ≠ .type "tuple" → i < 2 → StOk w c σ S' (T2 ++ T₀) → Apart c (T2 ++ T₀) → σ₀.le σ → (∀ p ∈ T2, Over c T₀ p.1) → TmIn (T2 ++ T₀) a t → t.Ok → t.size ≤ 1 + 6 * i → t.rows = 0 → (∀ p ∈ led w c S' (T2 ++ T₀), p.1 ≠ I) → @LT.lt Nat _ c.ff I →
      Fr h₀ env.locals h (fun y => if y = x then some (.int (i : Int) tv) else if y = Str.ofString "end" then some (.ref a) else if y = Str.ofString "step" then sv else m y) → News h₀ env.locals h ((I, o) :: led w c S' (T2 ++ T₀)) →
      wpAny (model PySem.Challenge.rw_no0155_01.row.prog w) A (execs body env) (Turn h₀ env.locals I o (JW w c σ₀ T₀ m (i + 1)) { s with heap := h, toks := tk } (fun v s' => Q (.ret v) s') fun s' => Q .next s') E { s with heap := h, toks := tk })
    (done : ∀ h' tk σ S' T2 a t sv, StOk w c σ S' (T2 ++ T₀) → σ₀.le σ → (∀ p ∈ T2, Over c T₀ p.1) → TmIn (T2 ++ T₀) a t → t.Ok → t.size ≤ 13 → t.rows = 0 → Fr h₀ env.locals h' (fun y => if y = Str.ofString "end" then some (.ref a) else if y = Str.ofString "step" then sv else m y) → News h₀ env.locals h' (led w c S' (T2 ++ T₀)) → Q .next { s with heap := h', toks := tk }) :
    wpAny (model PySem.Challenge.rw_no0155_01.row.prog w) A (pyIter (.ref r)) (fun it s₂ => LoopAtV PySem.Challenge.rw_no0155_01.row.prog w A h₀ env x body Q E it s₂) E s := by
  refine range_loop hh hr h0 (by omega) F N (JW w c σ₀ T₀ m) ⟨σ₀, S, [], T₀, a, t, _, rfl, hS, rfl, hap, Sym.le_refl _, over_nil, ht, hok, by omega, hro, map_two hm⟩ ?_ ?_
  · intro i v I m₁ news₁ s₁ o hs hoc hi hP hJ hoff hlt F₁ N₁
    obtain ⟨σ, S', T2, T', a', t', sv, rfl, hS', rfl, hap', hle, hov, ht', hok', hsz', hro', rfl⟩ := hJ
    obtain ⟨h, tk, rfl⟩ := hs
    obtain ⟨tv, rfl⟩ := hP
    exact step i tv I h tk o σ S' T2 a' t' sv hoc (by omega) hS' hap' hle hov ht' hok' hsz' hro' hoff (hlt (c.ff, S.gv) (by simp [led])) F₁ N₁
  · intro h' tk m' news' F' N' hJ
    obtain ⟨σ, S', T2, T', a', t', sv, rfl, hS', rfl, hap', hle, hov, ht', hok', hsz', hro', rfl⟩ := hJ
    exact done h' tk σ S' T2 a' t' sv hS' hle hov ht' hok' (by omega) hro' F' N'

theorem words_P8 : True := by
  k_with_none
  k_with "@MY mem" => (first | with_reducible assumption | exact List.mem_cons_self | (with_reducible refine List.mem_cons_of_mem _ ?_; walk_at "MY mem") | (with_reducible refine List.mem_append_left _ ?_; walk_at "MY mem") | (with_reducible refine List.mem_append_right _ ?_; walk_at "MY mem") | exact led_sy | exact led_dx | exact led_ff | exact led_hd | exact led_cl | (with_reducible refine led_T ?_; walk_at "MY mem"))
  k_with "@call builtin:len" => ((k_here; (with_reducible show wpAny _ _ (call (Value.builtin "len") [Value.ref _]) _ _ _); k_dflt (refine len_list (by exact News.isList (by k_asm) (by walk_at "MY mem")) (by omega) ?_; k_whole)))
  k_with "@subscriptTail Subscript Name Constant Subscript ref int" => ((k_here; (with_reducible show wpAny _ _ (subscriptTail _ _ (Value.ref _) (Value.int _ _)) _ _ _); k_dflt (refine item_int (by exact News.isList (by k_asm) (by walk_at "MY mem")) (by omega) (by omega) (by omega) (by assumption) ?_; k_whole); intro j tj))
  k_with "@subscriptTail Name Constant ref int" => ((k_here; k_dflt (first | (refine item_list (by exact News.isList (by k_asm) (by walk_at "MY mem")) (by decide) (by decide) (by rfl) ?_; k_whole) | (refine item_tupleT (by exact News.isTup (by k_asm) (by walk_at "MY mem")) (by decide) (by decide) (by rfl) (by rfl) ?_; k_whole))))
  k_with "@subscriptTail Subscript Name Constant Constant ref int" => ((k_here; k_dflt (refine item_tupleT (by exact News.isTup (by k_asm) (by walk_at "MY mem")) (by decide) (by decide) (by rfl) (by rfl) ?_; k_whole)))
  k_with "@MY sub" => ((intro p9 hp9; walk_at "MY mem"))
  k_with "@MY units" => (((try simp only [units_in1, units_deeper, Around.mark_units, units_caller] at *); omega))
  k_with "@MY over" => (first | exact over_nil | assumption | (refine over_cons (over_of (by assumption) (by walk_at "MY mem") (by walk_at "MY sub")) ?_; walk_at "MY over") | (refine over_app ?_ ?_ <;> walk_at "MY over") | exact over_mono (by assumption) (by walk_at "MY sub"))
  k_with "@MY rot" => (first | exact Rot.base | (apply Rot.pushT; walk_at "MY rot") | (apply Rot.pushL; walk_at "MY rot") | (apply Rot.keep; walk_at "MY rot") | (apply Rot.drop; walk_at "MY rot"))
  k_with "@MY front" => (first | exact List.forall_mem_nil _ | (refine List.forall_mem_cons.mpr ⟨by first | assumption | decide, ?_⟩; walk_at "MY front"))
  k_with "@MY subT" => (first | exact SubT.front (by walk_at "MY front") | exact SubT.refl)
  k_with "@MY frames" => (first | exact Around.frames_deeper (by assumption) | (simp only [Around.in1_frames]; exact Around.frames_deeper (by assumption)))
  k_with "@MY handled" => (first | assumption | (simp only [Around.in1_handled]; assumption))
  k_with "@MY apart" => (((try simp only [List.nil_append, List.cons_append]); first | assumption | (refine Apart.cons (by first | with_reducible assumption | exact raw_lt (by assumption) (by walk_at "MY mem") | ((try dsimp only); omega)) ?_; walk_at "MY apart")))
  k_with "@MY le" => (first | exact Sym.le_refl _ | assumption | (refine Sym.le_trans ?_ (by assumption); walk_at "MY le"))
  k_with "@MY suf" => (first | exact suf_nil | (apply suf_cons; walk_at "MY suf") | (apply suf_app; walk_at "MY suf"))
  k_with "@MY off" => (first | exact led_offT (by assumption) | (refine off_cons (by first | exact raw_lt (by assumption) (by walk_at "MY mem") | ((try dsimp only); omega)) ?_; walk_at "MY off") | (refine off_join (off_app (by assumption) (by walk_at "MY mem")) ?_; walk_at "MY off"))
  k_with "@call builtin:list.append" => ((k_here; (with_reducible show wpAny _ _ (call (Value.builtin _) [Value.ref _, _]) _ _ _); k_dflt (refine append_K (by k_asm) (by k_asm) (by k_upd) ?_ (by (rw [sizeLine_eq]; simp only [List.size_toArray, List.length_cons, List.length_nil]; omega)); k_whole); intro h' F' N'; (try k_sweep)))
  k_with "@call builtin:len" => ((k_here; (with_reducible show wpAny _ _ (call (Value.builtin "len") [Value.ref _]) _ _ _); k_dflt (refine kun_lenL (by exact News.isList (by k_asm) (by walk_at "MY mem")) (by first | exact congrArg Nat.cast (by assumption) | rfl) (by omega) ?_; k_whole)))
  k_with "@call ref" => ((k_here; (with_reducible show wpAny _ _ (call (Value.ref 88) _) _ _ _); k_dflt ((refine Ctr.use (by exact ⟨⟨_, by k_asm⟩, by k_asm, by k_asm, by k_asm, by k_asm, by walk_at "MY frames", rfl, rfl, by walk_at "MY handled"⟩) (by walk_at "MY rot") (by assumption) (by walk_at "MY sub") (by walk_at "MY apart") (by walk_at "MY front") (atom_ok (by first | assumption | decide)) (by ktr_room) (by walk_at "MY units") ?_; k_whole; intro r1 σ1 S1 T21 h1 tk1 F1 N1 ho1 hl1 hS1 hap1 hP1; (have hg1 := hl1.2.2); (try simp only [List.nil_append] at ho1 hP1); (try dsimp only [List.nil_append, List.cons_append] at N1); obtain ⟨hT1, n1, t1, hr1, hn1, hn2, hy1, he1⟩ := hP1; subst hr1; subst hT1; (try simp only [List.nil_append] at hS1 hap1 N1); (try k_sweep); (try dsimp only)))))
  k_with "@call ref" => ((k_here; (with_reducible show wpAny _ _ (call (Value.ref 102) _) _ _ _); k_dflt ((refine Ctr.use (by exact ⟨⟨_, by k_asm⟩, by k_asm, by k_asm, by k_asm, by k_asm, by walk_at "MY frames", rfl, rfl, by walk_at "MY handled"⟩) (by walk_at "MY rot") (by assumption) (by walk_at "MY sub") (by walk_at "MY apart") (by walk_at "MY front") (functor_ok (by omega) (by omega) (by omega) (by omega) (by first | assumption | omega | ((with_reducible rename _ = Sym.inA _ _ => he9); rw [he9, inA_G]; assumption))) (by ktr_room) (by walk_at "MY units") ?_; k_whole; intro r1 σ1 S1 T21 h1 tk1 F1 N1 ho1 hl1 hS1 hap1 hP1; (have hg1 := hl1.2.2); (try simp only [List.nil_append] at ho1 hP1); (try dsimp only [List.nil_append, List.cons_append] at N1); obtain ⟨n1, t1, hr1, hk1, hy1, he1⟩ := hP1; subst hr1; (try k_sweep); (try dsimp only)))))
  k_with "@call ref" => ((k_here; (with_reducible show wpAny _ _ (call (Value.ref 226) _) _ _ _); k_dflt ((refine Ctr.use (by exact ⟨⟨_, by k_asm⟩, by k_asm, by k_asm, by k_asm, by k_asm, by walk_at "MY frames", rfl, rfl, by walk_at "MY handled"⟩) (by walk_at "MY rot") (by assumption) (by walk_at "MY sub") (by walk_at "MY apart") (by walk_at "MY front") (pick_ok (by decide) (by decide)) (by ktr_room) (by walk_at "MY units") ?_; k_whole; intro r1 σ1 S1 T21 h1 tk1 F1 N1 ho1 hl1 hS1 hap1 hP1; (have hg1 := hl1.2.2); (try simp only [List.nil_append] at ho1 hP1); (try dsimp only [List.nil_append, List.cons_append] at N1); obtain ⟨d1, t1, hr1, hd1, hd2⟩ := hP1; subst hr1; (try k_sweep); (try dsimp only)))))
  k_with "@call ref" => ((k_here; (with_reducible show wpAny _ _ (call (Value.ref 109) _) _ _ _); k_dflt ((refine Ctr.use (by exact ⟨⟨_, by k_asm⟩, by k_asm, by k_asm, by k_asm, by k_asm, by walk_at "MY frames", rfl, rfl, by walk_at "MY handled"⟩) (by walk_at "MY rot") (by assumption) (by walk_at "MY sub") (by walk_at "MY apart") (by walk_at "MY front") (func_ok (by first | assumption | decide) (by decide) (by decide) (by omega)) (by ktr_room) (by walk_at "MY units") ?_; k_whole; intro r1 σ1 S1 T21 h1 tk1 F1 N1 ho1 hl1 hS1 hap1 hP1; (have hg1 := hl1.2.2); (try simp only [List.nil_append] at ho1 hP1); (try dsimp only [List.nil_append, List.cons_append] at N1); obtain ⟨n1, t1, hr1, hk1, hy1, he1⟩ := hP1; subst hr1; (try replace hk1 := hk1 (by decide)); (try k_sweep); (try dsimp only)))))
  k_with "@call ref" => ((k_here; (with_reducible show wpAny _ _ (call (Value.ref 240) _) _ _ _); k_dflt ((refine Ctr.use (by exact ⟨⟨_, by k_asm⟩, by k_asm, by k_asm, by k_asm, by k_asm, by walk_at "MY frames", rfl, rfl, by walk_at "MY handled"⟩) (by walk_at "MY rot") (by assumption) (by walk_at "MY sub") (by walk_at "MY apart") (by walk_at "MY front") (one_ok (by omega)) (by ktr_room) (by walk_at "MY units") ?_; k_whole; intro r1 σ1 S1 T21 h1 tk1 F1 N1 ho1 hl1 hS1 hap1 hP1; (have hg1 := hl1.2.2); (try simp only [List.nil_append] at ho1 hP1); (try dsimp only [List.nil_append, List.cons_append] at N1); obtain ⟨a1, t1, hr1, ht1, hok1, hsz1, hro1⟩ := hP1; subst hr1; (try replace ht1 := TmIn.of_subT ht1 (by walk_at "MY subT")); (try k_sweep); (try dsimp only)))))
  k_with "@call ref" => ((k_here; (with_reducible show wpAny _ _ (call (Value.ref 247) _) _ _ _); k_dflt ((refine Ctr.use (by exact ⟨⟨_, by k_asm⟩, by k_asm, by k_asm, by k_asm, by k_asm, by walk_at "MY frames", rfl, rfl, by walk_at "MY handled"⟩) (by walk_at "MY rot") (by assumption) (by walk_at "MY sub") (by walk_at "MY apart") (by walk_at "MY front") (whole_use (by assumption) (by omega) (by omega)) (by ktr_room) (by walk_at "MY units") ?_; k_whole; intro r1 σ1 S1 T21 h1 tk1 F1 N1 ho1 hl1 hS1 hap1 hP1; (have hg1 := hl1.2.2); (try simp only [List.nil_append] at ho1 hP1); (try dsimp only [List.nil_append, List.cons_append] at N1); obtain ⟨a1, t1, hr1, ht1, hok1, hsz1, hro1⟩ := hP1; subst hr1; (try replace ht1 := TmIn.of_subT ht1 (by walk_at "MY subT")); (try k_sweep); (try dsimp only)))))
  k_with "@MY texts" => ((simp only [List.forall_mem_cons]; (repeat' apply And.intro); all_goals first | exact ⟨_, _, rfl, by decide⟩ | exact List.forall_mem_nil _))
  k_with "@subscriptTail Name Name ref int" => ((k_here; (with_reducible show wpAny _ _ (subscriptTail _ _ (Value.ref _) (Value.int _ _)) _ _ _); k_dflt (refine item_menu (by exact News.isList (by k_asm) (by walk_at "MY mem")) (by omega) (by simp only [List.length_cons, List.length_nil]; omega) (by simp only [List.length_cons, List.length_nil]; omega) (by walk_at "MY texts") ?_; k_whole); intro xm tm hxm))
  k_with "@subscriptTail Name Call ref int" => ((k_here; (with_reducible show wpAny _ _ (subscriptTail _ _ (Value.ref _) (Value.int _ _)) _ _ _); k_dflt (refine item_menu (by exact News.isList (by k_asm) (by walk_at "MY mem")) (by omega) (by simp only [List.length_cons, List.length_nil]; omega) (by simp only [List.length_cons, List.length_nil]; omega) (by walk_at "MY texts") ?_; k_whole); intro xm tm hxm))
  k_with "@subscriptTail List" => ((k_here; (with_reducible show wpAny _ _ (subscriptTail _ _ (Value.ref _) (Value.int _ _)) _ _ _); k_dflt (refine item_menu (by exact News.isList (by k_asm) (by walk_at "MY mem")) (by omega) (by simp only [List.length_cons, List.length_nil]; omega) (by simp only [List.length_cons, List.length_nil]; omega) (by walk_at "MY texts") ?_; k_whole); intro xm tm hxm))
  k_with "@MY tm" => (first | assumption | exact TmIn.mono (by assumption) (by walk_at "MY sub") | exact TmIn.v (by walk_at "MY mem") | exact TmIn.i (by walk_at "MY mem") | exact TmIn.a (by walk_at "MY mem") | (apply TmIn.s2; (walk_at "MY mem"); (walk_at "MY mem"); (walk_at "MY tm"); (walk_at "MY tm")))
  k_with "@MY two" => ((k_here; (with_reducible show wpAny _ _ (subscriptTail _ _ (Value.ref _) (Value.int _ _)) _ _ _); (with_reducible rename Mine.StOk _ _ _ _ _ => hS9); k_dflt ((refine item_term (T := by exact stT hS9) (by exact News.isList (by k_asm) (by walk_at "MY mem")) (by omega) (by simp only [List.length_cons, List.length_nil]; omega) (by simp only [List.length_cons, List.length_nil]; omega) (by (simp only [List.forall_mem_cons]; (repeat' apply And.intro); all_goals first | exact ⟨_, _, rfl, by first | exact TmIn.v (by walk_at "MY mem") | exact TmIn.a (by walk_at "MY mem"), by first | exact trivial | (simp only [Tm.Ok]; omega), Nat.le_refl _, rfl⟩ | exact List.forall_mem_nil _)) ?_; k_whole); intro a1 t1 ht1 hok1 hsz1 hro1)))
  k_with "@subscriptTail List" => (walk_at "MY two")
  k_with "@subscriptTail Name Call ref int" => (walk_at "MY two")
  k_with "@MY loop" => ((refine whole_loop (by walk_at "MY handled") (by assumption) (by omega) (by omega) (by assumption) (by assumption) (by assumption) (by walk_at "MY apart") (by rfl) (by walk_at "MY tm") (by first | assumption | (simp only [Tm.Ok]; omega)) (by first | assumption | exact Nat.le_refl _) (by first | assumption | rfl) ?_ ?_))
  trivial


theorem whole0 {w : World} {mean : ExcName → Option Value} {mg mb : Str → Option Value}  : Whole w mean mg mb 0 := by
  have h2dd : 1 ≤ 2 ^ (0) := Nat.one_le_two_pow
  intro c σ T number z tn tz hz hb S A env outer base h₀ L m s Q E hS hT at' hA hU hret
  obtain ⟨⟨A₀, B⟩, F, X, N, T', hfr, hfl, hki, hha⟩ := at'
  obtain ⟨⟨o1, o2, o3, o4, o5, o6, o7⟩, hI, hlen⟩ := hS.cx
  subst hz
  refine wpAny_call ?_
  k_dflt (refine' code_def (binds := [(Str.ofString "hand", .ref c.hd), (Str.ofString "names", .ref c.sy), (Str.ofString "depth", .int (((0 : Nat) : Int)) tz), (Str.ofString "number", .int number tn)]) ?k1 ?k2 ?k3 ?k4 ?k5 ?kA ?kF ?kK ?k6 ?k7 ?k8 ?k9 ?kB ?_ ?c2 ?c3 ?c4 ?c5; (case kA => assumption); (case kF => assumption); (case kK => assumption); (case k1 => k_asm); (case k2 => k_asm); (case k3 => k_asm); (case k4 => k_asm); (case k5 => k_asm); (case k6 => k_is); (case k7 => k_is); (case k8 => ktr_room); (case k9 => exact BindsTo.of_eq rfl); (case c5 => decide); (case kB => exact locs rfl); (case c2 => exact rfl); (case c3 => exact rfl); (case c4 => exact rfl); k_whole; intro g' L' h' FG' F' N' B' X' T''; (try dsimp only); (try k_fold))
  k_steps
  all_goals (refine hret _ _ _ _ _ _ _ (by assumption) (News.led (by assumption) (by walk_at "MY rot")) (StOk.mono (by assumption) (by walk_at "MY sub")) (by walk_at "MY suf") (by walk_at "MY le") (by walk_at "MY over") ⟨_, _, rfl, (by walk_at "MY tm"), (by first | assumption | exact ⟨by assumption, by assumption⟩), (by simp only [Tm.size, Nat.pow_succ] at *; first | omega | (have h2d := h2dd; omega)), (by simp only [Tm.rows] at *; first | omega | (split <;> omega))⟩)

theorem wholeS {w : World} {mean : ExcName → Option Value} {mg mb : Str → Option Value} {d : Nat} (H : Whole w mean mg mb d) : Whole w mean mg mb (d + 1) := by
  have h2dd : 1 ≤ 2 ^ (d) := Nat.one_le_two_pow
  intro c σ T number z tn tz hz hb S A env outer base h₀ L m s Q E hS hT at' hA hU hret
  obtain ⟨⟨A₀, B⟩, F, X, N, T', hfr, hfl, hki, hha⟩ := at'
  obtain ⟨⟨o1, o2, o3, o4, o5, o6, o7⟩, hI, hlen⟩ := hS.cx
  refine wpAny_call ?_
  k_dflt (refine' code_def (binds := [(Str.ofString "hand", .ref c.hd), (Str.ofString "names", .ref c.sy), (Str.ofString "depth", .int (z) tz), (Str.ofString "number", .int number tn)]) ?k1 ?k2 ?k3 ?k4 ?k5 ?kA ?kF ?kK ?k6 ?k7 ?k8 ?k9 ?kB ?_ ?c2 ?c3 ?c4 ?c5; (case kA => assumption); (case kF => assumption); (case kK => assumption); (case k1 => k_asm); (case k2 => k_asm); (case k3 => k_asm); (case k4 => k_asm); (case k5 => k_asm); (case k6 => k_is); (case k7 => k_is); (case k8 => ktr_room); (case k9 => exact BindsTo.of_eq rfl); (case c5 => decide); (case kB => exact locs rfl); (case c2 => exact rfl); (case c3 => exact rfl); (case c4 => exact rfl); k_whole; intro g' L' h' FG' F' N' B' X' T''; (try dsimp only); (try k_fold))
  k_steps
  refine hret _ _ _ _ _ _ _ (by assumption) (News.led (by assumption) (by walk_at "MY rot")) (StOk.mono (by assumption) (by walk_at "MY sub")) (by walk_at "MY suf") (by walk_at "MY le") (by walk_at "MY over") ⟨_, _, rfl, (by walk_at "MY tm"), (by first | assumption | exact ⟨by assumption, by assumption⟩), (by simp only [Tm.size, Nat.pow_succ] at *; first | omega | (have h2d := h2dd; omega)), (by simp only [Tm.rows] at *; first | omega | (split <;> omega))⟩
  refine hret _ _ _ _ _ _ _ (by assumption) (News.led (by assumption) (by walk_at "MY rot")) (StOk.mono (by assumption) (by walk_at "MY sub")) (by walk_at "MY suf") (by walk_at "MY le") (by walk_at "MY over") ⟨_, _, rfl, (by walk_at "MY tm"), (by first | assumption | exact ⟨by assumption, by assumption⟩), (by simp only [Tm.size, Nat.pow_succ] at *; first | omega | (have h2d := h2dd; omega)), (by simp only [Tm.rows] at *; first | omega | (split <;> omega))⟩
  refine hret _ _ _ _ _ _ _ (by assumption) (News.led (by assumption) (by walk_at "MY rot")) (StOk.mono (by assumption) (by walk_at "MY sub")) (by walk_at "MY suf") (by walk_at "MY le") (by walk_at "MY over") ⟨_, _, rfl, (by walk_at "MY tm"), (by first | assumption | exact ⟨by assumption, by assumption⟩), (by simp only [Tm.size, Nat.pow_succ] at *; first | omega | (have h2d := h2dd; omega)), (by simp only [Tm.rows] at *; first | omega | (split <;> omega))⟩
  all_goals walk_at "MY loop"
  · intro i tv I h5 tk5 o5 σ5 S5 T5 a5 t5 sv5 hoc hi5 hS5 hap5 hl5 hov5 ht5 hok5 hsz5 hro5 hoff hIf F5 N5
    have hg5 := hl5.2.2
    dsimp only
    k_steps
    all_goals (refine Turn.intro (by assumption) (News.turn (by assumption) (by walk_at "MY rot")) (led_off hoff (by walk_at "MY off")) (JW.intro (StOk.mono (by assumption) (by walk_at "MY sub")) (by walk_at "MY suf") (by walk_at "MY apart") (by walk_at "MY le") (by walk_at "MY over") (by walk_at "MY tm") (by first | assumption | exact ⟨by first | assumption | (simp only [Tm.Ok]; omega), by assumption⟩) (by (try simp only [Tm.size] at *); omega) (by first | assumption | exact if_neg (by decide)) map_turn))
  · intro h5 tk5 σ5 S5 T5 a5 t5 sv5 hS5 hl5 hov5 ht5 hok5 hsz5 hro5 F5 N5
    (try dsimp only)
    k_steps
    refine hret _ _ _ _ _ _ _ (by assumption) (News.led (by assumption) (by walk_at "MY rot")) (StOk.mono (by assumption) (by walk_at "MY sub")) (by walk_at "MY suf") (by walk_at "MY le") (by walk_at "MY over") ⟨_, _, rfl, ht5, hok5, (by simp only [Nat.pow_succ]; omega), (by omega)⟩
  · intro i tv I h5 tk5 o5 σ5 S5 T5 a5 t5 sv5 hoc hi5 hS5 hap5 hl5 hov5 ht5 hok5 hsz5 hro5 hoff hIf F5 N5
    have hg5 := hl5.2.2
    dsimp only
    k_steps
    all_goals (refine Turn.intro (by assumption) (News.turn (by assumption) (by walk_at "MY rot")) (led_off hoff (by walk_at "MY off")) (JW.intro (StOk.mono (by assumption) (by walk_at "MY sub")) (by walk_at "MY suf") (by walk_at "MY apart") (by walk_at "MY le") (by walk_at "MY over") (by walk_at "MY tm") (by first | assumption | exact ⟨by first | assumption | (simp only [Tm.Ok]; omega), by assumption⟩) (by (try simp only [Tm.size] at *); omega) (by first | assumption | exact if_neg (by decide)) map_turn))
  · intro h5 tk5 σ5 S5 T5 a5 t5 sv5 hS5 hl5 hov5 ht5 hok5 hsz5 hro5 F5 N5
    (try dsimp only)
    k_steps
    refine hret _ _ _ _ _ _ _ (by assumption) (News.led (by assumption) (by walk_at "MY rot")) (StOk.mono (by assumption) (by walk_at "MY sub")) (by walk_at "MY suf") (by walk_at "MY le") (by walk_at "MY over") ⟨_, _, rfl, ht5, hok5, (by simp only [Nat.pow_succ]; omega), (by omega)⟩

theorem whole_all {w : World} {mean : ExcName → Option Value} {mg mb : Str → Option Value} : ∀ d, Whole w mean mg mb d
  | 0 => whole0
  | d + 1 => wholeS (whole_all d)
end Mine
end

section
set_option maxRecDepth 100000
set_option maxHeartbeats 8000000
set_option Elab.async false
namespace Mine
open PySem PySem.W PyProof.Rows PySem.Calls PyProof.V PySem.Spec

theorem fill_here9 (w : World) (h : Heap) (X : (hd.heap_39 w.params).In h) (hp : PySem.Challenge.rw_no0155_01.prog = PySem.Challenge.rw_no0155_01.prog) : (hd.heap_39 w.params).In h ∧ PySem.Challenge.rw_no0155_01.prog = PySem.Challenge.rw_no0155_01.prog := by
  k_fill
  exact ⟨X, hp⟩

theorem words_P9 : True := by
  k_with_none
  k_with "@MY mem" => (first | with_reducible assumption | exact List.mem_cons_self | (with_reducible refine List.mem_cons_of_mem _ ?_; walk_at "MY mem") | (with_reducible refine List.mem_append_left _ ?_; walk_at "MY mem") | (with_reducible refine List.mem_append_right _ ?_; walk_at "MY mem") | exact led_sy | exact led_dx | exact led_ff | exact led_hd | exact led_cl | (with_reducible refine led_T ?_; walk_at "MY mem"))
  k_with "@call builtin:len" => ((k_here; (with_reducible show wpAny _ _ (call (Value.builtin "len") [Value.ref _]) _ _ _); k_dflt (refine len_list (by exact News.isList (by k_asm) (by walk_at "MY mem")) (by omega) ?_; k_whole)))
  k_with "@subscriptTail Subscript Name Constant Subscript ref int" => ((k_here; (with_reducible show wpAny _ _ (subscriptTail _ _ (Value.ref _) (Value.int _ _)) _ _ _); k_dflt (refine item_int (by exact News.isList (by k_asm) (by walk_at "MY mem")) (by omega) (by omega) (by omega) (by assumption) ?_; k_whole); intro j tj))
  k_with "@subscriptTail Name Constant ref int" => ((k_here; k_dflt (first | (refine item_list (by exact News.isList (by k_asm) (by walk_at "MY mem")) (by decide) (by decide) (by rfl) ?_; k_whole) | (refine item_tupleT (by exact News.isTup (by k_asm) (by walk_at "MY mem")) (by decide) (by decide) (by rfl) (by rfl) ?_; k_whole))))
  k_with "@subscriptTail Subscript Name Constant Constant ref int" => ((k_here; k_dflt (refine item_tupleT (by exact News.isTup (by k_asm) (by walk_at "MY mem")) (by decide) (by decide) (by rfl) (by rfl) ?_; k_whole)))
  k_with "@MY sub" => ((intro p9 hp9; walk_at "MY mem"))
  k_with "@MY units" => (((try simp only [units_in1, units_deeper, Around.mark_units, units_caller] at *); omega))
  k_with "@MY over" => (first | exact over_nil | assumption | (refine over_cons (over_of (by assumption) (by walk_at "MY mem") (by walk_at "MY sub")) ?_; walk_at "MY over") | (refine over_app ?_ ?_ <;> walk_at "MY over") | exact over_mono (by assumption) (by walk_at "MY sub"))
  k_with "@MY rot" => (first | exact Rot.base | (apply Rot.pushT; walk_at "MY rot") | (apply Rot.pushL; walk_at "MY rot") | (apply Rot.keep; walk_at "MY rot") | (apply Rot.drop; walk_at "MY rot"))
  k_with "@MY front" => (first | exact List.forall_mem_nil _ | (refine List.forall_mem_cons.mpr ⟨by first | assumption | decide, ?_⟩; walk_at "MY front"))
  k_with "@MY subT" => (first | exact SubT.front (by walk_at "MY front") | exact SubT.refl)
  k_with "@MY frames" => (first | exact Around.frames_deeper (by assumption) | (simp only [Around.in1_frames]; exact Around.frames_deeper (by assumption)))
  k_with "@MY handled" => (first | assumption | (simp only [Around.in1_handled]; assumption))
  k_with "@MY apart" => (((try simp only [List.nil_append, List.cons_append]); first | assumption | (refine Apart.cons (by first | with_reducible assumption | exact raw_lt (by assumption) (by walk_at "MY mem") | ((try dsimp only); omega)) ?_; walk_at "MY apart")))
  k_with "@MY le" => (first | exact Sym.le_refl _ | assumption | (refine Sym.le_trans ?_ (by assumption); walk_at "MY le"))
  k_with "@MY suf" => (first | exact suf_nil | (apply suf_cons; walk_at "MY suf") | (apply suf_app; walk_at "MY suf"))
  k_with "@MY off" => (first | exact led_offT (by assumption) | (refine off_cons (by first | exact raw_lt (by assumption) (by walk_at "MY mem") | ((try dsimp only); omega)) ?_; walk_at "MY off") | (refine off_join (off_app (by assumption) (by walk_at "MY mem")) ?_; walk_at "MY off"))
  k_with "@call builtin:list.append" => ((k_here; (with_reducible show wpAny _ _ (call (Value.builtin _) [Value.ref _, _]) _ _ _); k_dflt (refine append_K (by k_asm) (by k_asm) (by k_upd) ?_ (by (rw [sizeLine_eq]; simp only [List.size_toArray, List.length_cons, List.length_nil]; omega)); k_whole); intro h' F' N'; (try k_sweep)))
  k_with "@call builtin:len" => ((k_here; (with_reducible show wpAny _ _ (call (Value.builtin "len") [Value.ref _]) _ _ _); k_dflt (refine kun_lenL (by exact News.isList (by k_asm) (by walk_at "MY mem")) (by first | exact congrArg Nat.cast (by assumption) | rfl) (by omega) ?_; k_whole)))
  k_with "@call ref" => ((k_here; (with_reducible show wpAny _ _ (call (Value.ref 88) _) _ _ _); k_dflt ((refine Ctr.use (by exact ⟨⟨_, by k_asm⟩, by k_asm, by k_asm, by k_asm, by k_asm, by walk_at "MY frames", rfl, rfl, by walk_at "MY handled"⟩) (by walk_at "MY rot") (by assumption) (by walk_at "MY sub") (by walk_at "MY apart") (by walk_at "MY front") (atom_ok (by first | assumption | decide)) (by ktr_room) (by walk_at "MY units") ?_; k_whole; intro r1 σ1 S1 T21 h1 tk1 F1 N1 ho1 hl1 hS1 hap1 hP1; (have hg1 := hl1.2.2); (try simp only [List.nil_append] at ho1 hP1); (try dsimp only [List.nil_append, List.cons_append] at N1); obtain ⟨hT1, n1, t1, hr1, hn1, hn2, hy1, he1⟩ := hP1; subst hr1; subst hT1; (try simp only [List.nil_append] at hS1 hap1 N1); (try k_sweep); (try dsimp only)))))
  k_with "@call ref" => ((k_here; (with_reducible show wpAny _ _ (call (Value.ref 102) _) _ _ _); k_dflt ((refine Ctr.use (by exact ⟨⟨_, by k_asm⟩, by k_asm, by k_asm, by k_asm, by k_asm, by walk_at "MY frames", rfl, rfl, by walk_at "MY handled"⟩) (by walk_at "MY rot") (by assumption) (by walk_at "MY sub") (by walk_at "MY apart") (by walk_at "MY front") (functor_ok (by omega) (by omega) (by omega) (by omega) (by first | assumption | omega | ((with_reducible rename _ = Sym.inA _ _ => he9); rw [he9, inA_G]; assumption))) (by ktr_room) (by walk_at "MY units") ?_; k_whole; intro r1 σ1 S1 T21 h1 tk1 F1 N1 ho1 hl1 hS1 hap1 hP1; (have hg1 := hl1.2.2); (try simp only [List.nil_append] at ho1 hP1); (try dsimp only [List.nil_append, List.cons_append] at N1); obtain ⟨n1, t1, hr1, hk1, hy1, he1⟩ := hP1; subst hr1; (try k_sweep); (try dsimp only)))))
  k_with "@call ref" => ((k_here; (with_reducible show wpAny _ _ (call (Value.ref 109) _) _ _ _); k_dflt ((refine Ctr.use (by exact ⟨⟨_, by k_asm⟩, by k_asm, by k_asm, by k_asm, by k_asm, by walk_at "MY frames", rfl, rfl, by walk_at "MY handled"⟩) (by walk_at "MY rot") (by assumption) (by walk_at "MY sub") (by walk_at "MY apart") (by walk_at "MY front") (func_ok (by first | assumption | decide) (by decide) (by decide) (by omega)) (by ktr_room) (by walk_at "MY units") ?_; k_whole; intro r1 σ1 S1 T21 h1 tk1 F1 N1 ho1 hl1 hS1 hap1 hP1; (have hg1 := hl1.2.2); (try simp only [List.nil_append] at ho1 hP1); (try dsimp only [List.nil_append, List.cons_append] at N1); obtain ⟨n1, t1, hr1, hk1, hy1, he1⟩ := hP1; subst hr1; (try replace hk1 := hk1 (by decide)); (try k_sweep); (try dsimp only)))))
  k_with "@MY texts" => ((simp only [List.forall_mem_cons]; (repeat' apply And.intro); all_goals first | exact ⟨_, _, rfl, by decide⟩ | exact List.forall_mem_nil _))
  k_with "@subscriptTail Name Name ref int" => ((k_here; (with_reducible show wpAny _ _ (subscriptTail _ _ (Value.ref _) (Value.int _ _)) _ _ _); k_dflt (refine item_menu (by exact News.isList (by k_asm) (by walk_at "MY mem")) (by omega) (by simp only [List.length_cons, List.length_nil]; omega) (by simp only [List.length_cons, List.length_nil]; omega) (by walk_at "MY texts") ?_; k_whole); intro xm tm hxm))
  k_with "@subscriptTail Name Call ref int" => ((k_here; (with_reducible show wpAny _ _ (subscriptTail _ _ (Value.ref _) (Value.int _ _)) _ _ _); k_dflt (refine item_menu (by exact News.isList (by k_asm) (by walk_at "MY mem")) (by omega) (by simp only [List.length_cons, List.length_nil]; omega) (by simp only [List.length_cons, List.length_nil]; omega) (by walk_at "MY texts") ?_; k_whole); intro xm tm hxm))
  k_with "@subscriptTail List" => ((k_here; (with_reducible show wpAny _ _ (subscriptTail _ _ (Value.ref _) (Value.int _ _)) _ _ _); k_dflt (refine item_menu (by exact News.isList (by k_asm) (by walk_at "MY mem")) (by omega) (by simp only [List.length_cons, List.length_nil]; omega) (by simp only [List.length_cons, List.length_nil]; omega) (by walk_at "MY texts") ?_; k_whole); intro xm tm hxm))
  k_with "@MY tm" => (first | assumption | exact TmIn.mono (by assumption) (by walk_at "MY sub") | exact TmIn.v (by walk_at "MY mem") | exact TmIn.i (by walk_at "MY mem") | exact TmIn.a (by walk_at "MY mem") | (apply TmIn.s2; (walk_at "MY mem"); (walk_at "MY mem"); (walk_at "MY tm"); (walk_at "MY tm")))
  k_with "@compareOp Eq ref ref" => ((k_here; k_dflt (refine PySem.SeqAt.eq_list_lengthsAt (by exact News.isList (by k_asm) (by walk_at "MY mem")) (by exact News.isList (by k_asm) (by walk_at "MY mem")) (by rfl) (by walk_at "MY units") ?_; k_whole)))
  trivial


theorem error2_ok {w : World} {mean : ExcName → Option Value} {mg mb : Str → Option Value} {c : Cx} {σ : Sym} {T : List (Addr × Obj)} {kind : Str} {tk : Tok} {p x y : Addr} {n : Nat} {tx ty : Tm} (hb : 16 ≤ σ.G.length) (hu : kind ∈ uni)
    (hp : (p, listOf #[.ref x, .ref y] n) ∈ T) (hx : TmIn T x tx) (hy : TmIn T y ty) :
    Ctr w mean mg mb c 254 20 200 [.ref c.sy, .str kind tk, .ref p] σ T (fun σ' T2 T' r => ∃ a e f, r = .ref a ∧ (a, tupO #[.bool false, .ref e]) ∈ T2 ∧ TmIn T' e (ball (.s2 f tx ty)) ∧ Says σ' (fun τ => τ.fn (τ.atom kind) 2) f) := by
  intro S A env outer base h₀ L m s Q E hS hT at' hA hU hret
  obtain ⟨⟨A₀, B⟩, F, X, N, T', hfr, hfl, hki, hha⟩ := at'
  obtain ⟨⟨o1, o2, o3, o4, o5, o6, o7⟩, hI, hlen⟩ := hS.cx
  refine wpAny_call ?_
  k_dflt (refine' code_def (binds := [(Str.ofString "names", .ref c.sy), (Str.ofString "kind", .str kind tk), (Str.ofString "parts", .ref p)]) ?k1 ?k2 ?k3 ?k4 ?k5 ?kA ?kF ?kK ?k6 ?k7 ?k8 ?k9 ?kB ?_ ?c2 ?c3 ?c4 ?c5; (case kA => assumption); (case kF => assumption); (case kK => assumption); (case k1 => k_asm); (case k2 => k_asm); (case k3 => k_asm); (case k4 => k_asm); (case k5 => k_asm); (case k6 => k_is); (case k7 => k_is); (case k8 => ktr_room); (case k9 => exact BindsTo.of_eq rfl); (case c5 => decide); (case kB => exact locs rfl); (case c2 => exact rfl); (case c3 => exact rfl); (case c4 => exact rfl); k_whole; intro g' L' h' FG' F' N' B' X' T''; (try dsimp only); (try k_fold))
  k_steps
  refine hret _ _ _ _ _ _ _ (by assumption) (News.led (by assumption) (by walk_at "MY rot")) (StOk.mono (by assumption) (by walk_at "MY sub")) (by walk_at "MY suf") (by walk_at "MY le") (by walk_at "MY over") ⟨_, _, _, rfl, (by walk_at "MY mem"), (by unfold ball; walk_at "MY tm"), by assumption⟩
theorem error0_ok {w : World} {mean : ExcName → Option Value} {mg mb : Str → Option Value} {c : Cx} {σ : Sym} {T : List (Addr × Obj)} {kind : Str} {tk : Tok} {p : Addr} {n : Nat} (hb : 16 ≤ σ.G.length) (hu : kind ∈ uni)
    (hp : (p, listOf #[] n) ∈ T) :
    Ctr w mean mg mb c 254 20 200 [.ref c.sy, .str kind tk, .ref p] σ T (fun σ' T2 T' r => ∃ a e k, r = .ref a ∧ (a, tupO #[.bool false, .ref e]) ∈ T2 ∧ TmIn T' e (ball (.a k)) ∧ Says σ' (fun τ => τ.atom kind) k) := by
  intro S A env outer base h₀ L m s Q E hS hT at' hA hU hret
  obtain ⟨⟨A₀, B⟩, F, X, N, T', hfr, hfl, hki, hha⟩ := at'
  obtain ⟨⟨o1, o2, o3, o4, o5, o6, o7⟩, hI, hlen⟩ := hS.cx
  refine wpAny_call ?_
  k_dflt (refine' code_def (binds := [(Str.ofString "names", .ref c.sy), (Str.ofString "kind", .str kind tk), (Str.ofString "parts", .ref p)]) ?k1 ?k2 ?k3 ?k4 ?k5 ?kA ?kF ?kK ?k6 ?k7 ?k8 ?k9 ?kB ?_ ?c2 ?c3 ?c4 ?c5; (case kA => assumption); (case kF => assumption); (case kK => assumption); (case k1 => k_asm); (case k2 => k_asm); (case k3 => k_asm); (case k4 => k_asm); (case k5 => k_asm); (case k6 => k_is); (case k7 => k_is); (case k8 => ktr_room); (case k9 => exact BindsTo.of_eq rfl); (case c5 => decide); (case kB => exact locs rfl); (case c2 => exact rfl); (case c3 => exact rfl); (case c4 => exact rfl); k_whole; intro g' L' h' FG' F' N' B' X' T''; (try dsimp only); (try k_fold))
  k_steps
  refine hret _ _ _ _ _ _ _ (by assumption) (News.led (by assumption) (by walk_at "MY rot")) (StOk.mono (by assumption) (by walk_at "MY sub")) (by walk_at "MY suf") (by walk_at "MY le") (by walk_at "MY over") ⟨_, _, _, rfl, (by walk_at "MY mem"), (by unfold ball; walk_at "MY tm"), by assumption⟩
end Mine
end

section
set_option maxRecDepth 100000
set_option maxHeartbeats 8000000
set_option Elab.async false
namespace Mine
open PySem PySem.W PyProof.Rows PySem.Calls PyProof.V PySem.Spec

theorem fill_here10 (w : World) (h : Heap) (X : (hd.heap_39 w.params).In h) (hp : PySem.Challenge.rw_no0155_01.prog = PySem.Challenge.rw_no0155_01.prog) : (hd.heap_39 w.params).In h ∧ PySem.Challenge.rw_no0155_01.prog = PySem.Challenge.rw_no0155_01.prog := by
  k_fill
  exact ⟨X, hp⟩

/-- what the law's reader hands back: (True, a list of ints) or (False, an error's term) -/
def LRes (σ : Sym) (T2 T' : List (Addr × Obj)) (b : Addr) (f : Sym → Except Tm (List Int)) : Prop :=
  (∃ l vs n k, Says σ f (.ok l) ∧ (b, tupO #[.bool true, .ref k]) ∈ T2 ∧ (k, listOf vs.toArray n) ∈ T2 ∧ IntsAre vs l) ∨ ∃ u e, Says σ f (.error u) ∧ (b, tupO #[.bool false, .ref e]) ∈ T2 ∧ TmIn T' e u
theorem says_kind {σ σ' : Sym} {e k : Str} {n f : Int} {t : Tm} (h : Says σ (fun τ => τ.atom k) n) (l : σ.le σ') (q : Says σ' (fun τ => τ.fn (τ.atom e) 2) f) : Says σ' (fun τ => kindE τ e k t) (ball (.s2 f (.a n) t)) := fun τ r => by
  have e1 := h τ (Sym.le_trans l r)
  have e2 := q τ r
  dsimp only at e1 e2
  unfold kindE
  dsimp only
  rw [e1, e2]
theorem says_inst {σ : Sym} {k : Int} (h : Says σ (fun τ => τ.atom (Str.ofString "instantiation_error")) k) : Says σ instE (ball (.a k)) := fun τ r => by
  have e1 := h τ r
  dsimp only at e1
  unfold instE
  rw [e1]
theorem says_err {α : Type} {σ : Sym} {f : Sym → Except Tm α} {g : Sym → Tm} {u : Tm} (h : ∀ τ, f τ = .error (g τ)) (k : Says σ g u) : Says σ f (.error u) := fun τ r => by
  rw [h τ, k τ r]
theorem says_one {σ : Sym} {t : Tm} {m k n : Int} (h : ∀ τ, single τ t = .ok (τ.fn m k)) (q : Says σ (fun τ => τ.fn m k) n) : Says σ (fun τ => one τ t) (.ok [n]) := fun τ r => by
  have e := q τ r
  dsimp only at e ⊢
  unfold one
  rw [h τ, e]

theorem tag_ne : Str.ofString "v" ≠ Str.ofString "i" ∧ Str.ofString "a" ≠ Str.ofString "i" ∧ Str.ofString "s" ≠ Str.ofString "i" ∧ Str.ofString "v" ≠ Str.ofString "a" ∧ Str.ofString "i" ≠ Str.ofString "a" ∧ Str.ofString "s" ≠ Str.ofString "a" := by decide
theorem ok_a {t : Tm} (h : t.Ok) (k : t.tag = Str.ofString "a") : 0 ≤ t.nm ∧ t.nm < 64 := by
  cases t with
  | a n => exact h
  | _ => exact absurd k (by simp only [Tm.tag]; decide)
theorem ok_i {t : Tm} (h : t.Ok) (k : t.tag = Str.ofString "i") : -1 ≤ t.nm ∧ t.nm < 16 := by
  cases t with
  | i n => exact h
  | _ => exact absurd k (by simp only [Tm.tag]; decide)
theorem one_err {τ : Sym} {t : Tm} {e : Tm} (h : single τ t = .error e) : one τ t = .error e := by unfold one; rw [h]
theorem single_v {τ : Sym} {t : Tm} (h : t.tag = Str.ofString "v") : single τ t = .error (instE τ) := by
  cases t with
  | v n => rfl
  | _ => exact absurd h (by simp only [Tm.tag]; decide)
theorem single_p {τ : Sym} {t : Tm} (h : t.tag ≠ Str.ofString "v") (k : t.tag ≠ Str.ofString "s" ∨ t.nm ≠ 15) : single τ t = .error (typeE τ (Str.ofString "predicate_indicator") t) := by
  cases t with
  | v n => exact absurd rfl h
  | a n => rfl
  | i n => rfl
  | s1 f x => rfl
  | s2 f x y =>
    have : f ≠ 15 := k.resolve_left fun q => q rfl
    exact if_neg this
theorem isV_tag {t : Tm} : t.isV = true ↔ t.tag = Str.ofString "v" := by
  cases t with
  | v n => exact ⟨fun _ => rfl, fun _ => rfl⟩
  | _ => exact ⟨fun h => Bool.noConfusion h, fun h => absurd h (by simp only [Tm.tag]; decide)⟩
theorem single_slash (τ : Sym) (x y : Tm) : single τ (.s2 15 x y) = if x.tag = Str.ofString "v" ∨ y.tag = Str.ofString "v" then .error (instE τ) else if y.tag = Str.ofString "i" then (if x.tag = Str.ofString "a" then (if y.nm < 0 then .error (domE τ y) else .ok (τ.fn x.nm y.nm)) else .error (typeE τ (Str.ofString "atom") x)) else .error (typeE τ (Str.ofString "integer") y) := by
  have h1 : ¬ (Str.ofString "v" = Str.ofString "i") := by decide
  have h2 : ¬ (Str.ofString "a" = Str.ofString "i") := by decide
  have h3 : ¬ (Str.ofString "s" = Str.ofString "i") := by decide
  have h4 : ¬ (Str.ofString "v" = Str.ofString "a") := by decide
  have h5 : ¬ (Str.ofString "i" = Str.ofString "a") := by decide
  have h6 : ¬ (Str.ofString "s" = Str.ofString "a") := by decide
  have h7 : ¬ (Str.ofString "a" = Str.ofString "v") := by decide
  have h8 : ¬ (Str.ofString "i" = Str.ofString "v") := by decide
  have h9 : ¬ (Str.ofString "s" = Str.ofString "v") := by decide
  cases x <;> cases y <;> simp only [single, Tm.isV, Tm.tag, Tm.nm, h1, h2, h3, h4, h5, h6, h7, h8, h9, if_true, if_false, Bool.or_true, Bool.true_or, Bool.or_false, Bool.false_eq_true, or_self, or_true, true_or] <;> first | rfl | (split <;> rfl)
theorem single_sv {τ : Sym} {x y : Tm} (h : x.tag = Str.ofString "v" ∨ y.tag = Str.ofString "v") : single τ (.s2 15 x y) = .error (instE τ) := by
  rw [single_slash, if_pos h]
theorem single_si {τ : Sym} {x y : Tm} (h1 : x.tag ≠ Str.ofString "v") (h2 : y.tag ≠ Str.ofString "v") (h : y.tag ≠ Str.ofString "i") : single τ (.s2 15 x y) = .error (typeE τ (Str.ofString "integer") y) := by
  rw [single_slash, if_neg (not_or.mpr ⟨h1, h2⟩), if_neg h]
theorem single_sa {τ : Sym} {x y : Tm} (h1 : x.tag ≠ Str.ofString "v") (h2 : y.tag ≠ Str.ofString "v") (h : y.tag = Str.ofString "i") (k : x.tag ≠ Str.ofString "a") : single τ (.s2 15 x y) = .error (typeE τ (Str.ofString "atom") x) := by
  rw [single_slash, if_neg (not_or.mpr ⟨h1, h2⟩), if_pos h, if_neg k]
theorem tag_av {x : Tm} (k : x.tag = Str.ofString "a") : x.tag ≠ Str.ofString "v" := by rw [k]; decide
theorem tag_iv {x : Tm} (k : x.tag = Str.ofString "i") : x.tag ≠ Str.ofString "v" := by rw [k]; decide
theorem single_sn {τ : Sym} {x y : Tm} (h : y.tag = Str.ofString "i") (k : x.tag = Str.ofString "a") (q : y.nm < 0) : single τ (.s2 15 x y) = .error (domE τ y) := by
  rw [single_slash, if_neg (not_or.mpr ⟨tag_av k, tag_iv h⟩), if_pos h, if_pos k, if_pos q]
theorem single_ok {τ : Sym} {x y : Tm} (h : y.tag = Str.ofString "i") (k : x.tag = Str.ofString "a") (q : ¬ y.nm < 0) : single τ (.s2 15 x y) = .ok (τ.fn x.nm y.nm) := by
  rw [single_slash, if_neg (not_or.mpr ⟨tag_av k, tag_iv h⟩), if_pos h, if_pos k, if_neg q]

theorem words_N10 : True := by
  k_with_none
  k_with "@MY mem" => (first | with_reducible assumption | exact List.mem_cons_self | (with_reducible refine List.mem_cons_of_mem _ ?_; walk_at "MY mem") | (with_reducible refine List.mem_append_left _ ?_; walk_at "MY mem") | (with_reducible refine List.mem_append_right _ ?_; walk_at "MY mem") | exact led_sy | exact led_dx | exact led_ff | exact led_hd | exact led_cl | (with_reducible refine led_T ?_; walk_at "MY mem"))
  k_with "@call builtin:len" => ((k_here; (with_reducible show wpAny _ _ (call (Value.builtin "len") [Value.ref _]) _ _ _); k_dflt (refine len_list (by exact News.isList (by k_asm) (by walk_at "MY mem")) (by omega) ?_; k_whole)))
  k_with "@subscriptTail Subscript Name Constant Subscript ref int" => ((k_here; (with_reducible show wpAny _ _ (subscriptTail _ _ (Value.ref _) (Value.int _ _)) _ _ _); k_dflt (refine item_int (by exact News.isList (by k_asm) (by walk_at "MY mem")) (by omega) (by omega) (by omega) (by assumption) ?_; k_whole); intro j tj))
  k_with "@subscriptTail Name Constant ref int" => ((k_here; k_dflt (first | (refine item_list (by exact News.isList (by k_asm) (by walk_at "MY mem")) (by decide) (by decide) (by rfl) ?_; k_whole) | (refine item_tupleT (by exact News.isTup (by k_asm) (by walk_at "MY mem")) (by decide) (by decide) (by rfl) (by rfl) ?_; k_whole))))
  k_with "@subscriptTail Subscript Name Constant Constant ref int" => ((k_here; k_dflt (refine item_tupleT (by exact News.isTup (by k_asm) (by walk_at "MY mem")) (by decide) (by decide) (by rfl) (by rfl) ?_; k_whole)))
  k_with "@MY sub" => ((intro p9 hp9; walk_at "MY mem"))
  k_with "@MY units" => (((try simp only [units_in1, units_deeper, Around.mark_units, units_caller] at *); omega))
  k_with "@MY over" => (first | exact over_nil | assumption | (refine over_cons (over_of (by assumption) (by walk_at "MY mem") (by walk_at "MY sub")) ?_; walk_at "MY over") | (refine over_app ?_ ?_ <;> walk_at "MY over") | exact over_mono (by assumption) (by walk_at "MY sub"))
  k_with "@MY rot" => (first | exact Rot.base | (apply Rot.pushT; walk_at "MY rot") | (apply Rot.pushL; walk_at "MY rot") | (apply Rot.keep; walk_at "MY rot") | (apply Rot.drop; walk_at "MY rot"))
  k_with "@MY front" => (first | exact List.forall_mem_nil _ | (refine List.forall_mem_cons.mpr ⟨by first | assumption | decide, ?_⟩; walk_at "MY front"))
  k_with "@MY subT" => (first | exact SubT.front (by walk_at "MY front") | exact SubT.refl)
  k_with "@MY frames" => (first | exact Around.frames_deeper (by assumption) | (simp only [Around.in1_frames]; exact Around.frames_deeper (by assumption)))
  k_with "@MY handled" => (first | assumption | (simp only [Around.in1_handled]; assumption))
  k_with "@MY apart" => (((try simp only [List.nil_append, List.cons_append]); first | assumption | (refine Apart.cons (by first | with_reducible assumption | exact raw_lt (by assumption) (by walk_at "MY mem") | ((try dsimp only); omega)) ?_; walk_at "MY apart")))
  k_with "@MY le" => (first | exact Sym.le_refl _ | assumption | (refine Sym.le_trans ?_ (by assumption); walk_at "MY le"))
  k_with "@MY suf" => (first | exact suf_nil | (apply suf_cons; walk_at "MY suf") | (apply suf_app; walk_at "MY suf"))
  k_with "@MY off" => (first | exact led_offT (by assumption) | (refine off_cons (by first | exact raw_lt (by assumption) (by walk_at "MY mem") | ((try dsimp only); omega)) ?_; walk_at "MY off") | (refine off_join (off_app (by assumption) (by walk_at "MY mem")) ?_; walk_at "MY off"))
  k_with "@call builtin:list.append" => ((k_here; (with_reducible show wpAny _ _ (call (Value.builtin _) [Value.ref _, _]) _ _ _); k_dflt (refine append_K (by k_asm) (by k_asm) (by k_upd) ?_ (by (rw [sizeLine_eq]; simp only [List.size_toArray, List.length_cons, List.length_nil]; omega)); k_whole); intro h' F' N'; (try k_sweep)))
  k_with "@call builtin:len" => ((k_here; (with_reducible show wpAny _ _ (call (Value.builtin "len") [Value.ref _]) _ _ _); k_dflt (refine kun_lenL (by exact News.isList (by k_asm) (by walk_at "MY mem")) (by first | exact congrArg Nat.cast (by assumption) | rfl) (by omega) ?_; k_whole)))
  k_with "@call ref" => ((k_here; (with_reducible show wpAny _ _ (call (Value.ref 88) _) _ _ _); k_dflt ((refine Ctr.use (by exact ⟨⟨_, by k_asm⟩, by k_asm, by k_asm, by k_asm, by k_asm, by walk_at "MY frames", rfl, rfl, by walk_at "MY handled"⟩) (by walk_at "MY rot") (by assumption) (by walk_at "MY sub") (by walk_at "MY apart") (by walk_at "MY front") (atom_ok (by first | assumption | decide)) (by ktr_room) (by walk_at "MY units") ?_; k_whole; intro r1 σ1 S1 T21 h1 tk1 F1 N1 ho1 hl1 hS1 hap1 hP1; (have hg1 := hl1.2.2); (try simp only [List.nil_append] at ho1 hP1); (try dsimp only [List.nil_append, List.cons_append] at N1); obtain ⟨hT1, n1, t1, hr1, hn1, hn2, hy1, he1⟩ := hP1; subst hr1; subst hT1; (try simp only [List.nil_append] at hS1 hap1 N1); (try k_sweep); (try dsimp only)))))
  k_with "@call ref" => ((k_here; (with_reducible show wpAny _ _ (call (Value.ref 102) _) _ _ _); k_dflt ((refine Ctr.use (by exact ⟨⟨_, by k_asm⟩, by k_asm, by k_asm, by k_asm, by k_asm, by walk_at "MY frames", rfl, rfl, by walk_at "MY handled"⟩) (by walk_at "MY rot") (by assumption) (by walk_at "MY sub") (by walk_at "MY apart") (by walk_at "MY front") (functor_ok (by omega) (by omega) (by omega) (by omega) (by first | assumption | omega | ((with_reducible rename _ = Sym.inA _ _ => he9); rw [he9, inA_G]; assumption))) (by ktr_room) (by walk_at "MY units") ?_; k_whole; intro r1 σ1 S1 T21 h1 tk1 F1 N1 ho1 hl1 hS1 hap1 hP1; (have hg1 := hl1.2.2); (try simp only [List.nil_append] at ho1 hP1); (try dsimp only [List.nil_append, List.cons_append] at N1); obtain ⟨n1, t1, hr1, hk1, hy1, he1⟩ := hP1; subst hr1; (try k_sweep); (try dsimp only)))))
  k_with "@call ref" => ((k_here; (with_reducible show wpAny _ _ (call (Value.ref 254) _) _ _ _); k_dflt ((refine Ctr.use (by exact ⟨⟨_, by k_asm⟩, by k_asm, by k_asm, by k_asm, by k_asm, by walk_at "MY frames", rfl, rfl, by walk_at "MY handled"⟩) (by walk_at "MY rot") (by assumption) (by walk_at "MY sub") (by walk_at "MY apart") (by walk_at "MY front") (error2_ok (by omega) (by decide) (by walk_at "MY mem") (by walk_at "MY tm") (by walk_at "MY tm")) (by ktr_room) (by walk_at "MY units") ?_; k_whole; intro r1 σ1 S1 T21 h1 tk1 F1 N1 ho1 hl1 hS1 hap1 hP1; (have hg1 := hl1.2.2); (try simp only [List.nil_append] at ho1 hP1); (try dsimp only [List.nil_append, List.cons_append] at N1); obtain ⟨a1, e1, f1, hr1, hm1, ht1, hy1⟩ := hP1; subst hr1; (try replace ht1 := TmIn.of_subT ht1 (by walk_at "MY subT")); (try k_sweep); (try dsimp only)))))
  k_with "@call ref" => ((k_here; (with_reducible show wpAny _ _ (call (Value.ref 254) _) _ _ _); k_dflt ((refine Ctr.use (by exact ⟨⟨_, by k_asm⟩, by k_asm, by k_asm, by k_asm, by k_asm, by walk_at "MY frames", rfl, rfl, by walk_at "MY handled"⟩) (by walk_at "MY rot") (by assumption) (by walk_at "MY sub") (by walk_at "MY apart") (by walk_at "MY front") (error0_ok (by omega) (by decide) (by walk_at "MY mem")) (by ktr_room) (by walk_at "MY units") ?_; k_whole; intro r1 σ1 S1 T21 h1 tk1 F1 N1 ho1 hl1 hS1 hap1 hP1; (have hg1 := hl1.2.2); (try simp only [List.nil_append] at ho1 hP1); (try dsimp only [List.nil_append, List.cons_append] at N1); obtain ⟨a1, e1, f1, hr1, hm1, ht1, hy1⟩ := hP1; subst hr1; (try replace ht1 := TmIn.of_subT ht1 (by walk_at "MY subT")); (try k_sweep); (try dsimp only)))))
  k_with "@MY tm" => (first | assumption | exact TmIn.mono (by assumption) (by walk_at "MY sub") | exact TmIn.v (by walk_at "MY mem") | exact TmIn.i (by walk_at "MY mem") | exact TmIn.a (by walk_at "MY mem") | (apply TmIn.s2; (walk_at "MY mem"); (walk_at "MY mem"); (walk_at "MY tm"); (walk_at "MY tm")))
  k_with "@compareOp Eq ref ref" => ((k_here; k_dflt (refine PySem.SeqAt.eq_list_lengthsAt (by exact News.isList (by k_asm) (by walk_at "MY mem")) (by exact News.isList (by k_asm) (by walk_at "MY mem")) (by rfl) (by walk_at "MY units") ?_; k_whole)))
  k_with "@assign Tuple" => ((k_here; (with_reducible show wpAny _ _ (assign (Expr.Tuple _ _ _) _ (Value.ref _)) _ _ _); k_dflt (refine unpackN_ (by k_asm) (by k_asm) (by exact News.isTup (by k_asm) (by walk_at "MY mem")) (by walk_at "MY handled") (by exact rfl) (by exact rfl) ?_; k_whole); intro h' F' N'; (try k_sweep)))
  k_with "@isTrue Compare" => ((k_here; focus (k_dflt (first | ((with_reducible show wpAny _ _ (isTrue (PySem.Expr.Compare (PySem.Expr.Subscript (PySem.Expr.Name _ _) (PySem.Expr.Constant (PySem.Const.int 0) _ _) _) [CmpOp.Eq] [PySem.Expr.Constant (PySem.Const.str _) _ _] _) _ _) _ _ _); refine test_tag (by k_asm) (by rfl) (by k_asm) (by assumption) (by walk_at "MY sub") ?_ ?_; k_whole) | ((with_reducible show wpAny _ _ (isTrue (PySem.Expr.Compare (PySem.Expr.Subscript (PySem.Expr.Name _ _) (PySem.Expr.Constant (PySem.Const.int 0) _ _) _) [CmpOp.NotEq] [PySem.Expr.Constant (PySem.Const.str _) _ _] _) _ _) _ _ _); refine test_tagN (by k_asm) (by rfl) (by k_asm) (by assumption) (by walk_at "MY sub") ?_ ?_; k_whole) | ((with_reducible show wpAny _ _ (isTrue (PySem.Expr.Compare (PySem.Expr.Subscript (PySem.Expr.Name _ _) (PySem.Expr.Constant (PySem.Const.int 1) _ _) _) [CmpOp.Eq] [PySem.Expr.Name _ _] _) _ _) _ _ _); refine test_num (by k_asm) (by rfl) (by k_asm) (by assumption) (by walk_at "MY sub") (by k_asm) (by k_asm) (by k_is) ?_ ?_; k_whole) | ((with_reducible show wpAny _ _ (isTrue (PySem.Expr.Compare (PySem.Expr.Subscript (PySem.Expr.Name _ _) (PySem.Expr.Constant (PySem.Const.int 1) _ _) _) [CmpOp.NotEq] [PySem.Expr.Name _ _] _) _ _) _ _ _); refine test_numN (by k_asm) (by rfl) (by k_asm) (by assumption) (by walk_at "MY sub") (by k_asm) (by k_asm) (by k_is) ?_ ?_; k_whole) | ((with_reducible show wpAny _ _ (isTrue (PySem.Expr.Compare (PySem.Expr.Subscript (PySem.Expr.Name _ _) (PySem.Expr.Constant (PySem.Const.int 1) _ _) _) [CmpOp.Lt] [PySem.Expr.Constant (PySem.Const.int _) _ _] _) _ _) _ _ _); refine test_neg (by k_asm) (by rfl) (by k_asm) (by assumption) (by walk_at "MY sub") ?_ ?_; k_whole)); (all_goals (intro htag ttg)); (all_goals (try (first | exact absurd (by assumption) htag | exact absurd htag (by assumption) | exact absurd (htag.symm.trans (by assumption)) (by decide)))); (all_goals (try (have hop9 := TmIn.open (by assumption) (by assumption) (by assumption) htag (by decide); obtain ⟨bq, xq, yq, tq1, tq2, txq, tyq, eq9, mq1, mq2, hxq, hyq, okxq, okyq, hszq⟩ := hop9; (try subst eq9)))); (all_goals ((try (have hbq := ok_a (by assumption) htag)); (try (have hbq := ok_i (by assumption) htag)))); (all_goals (try dsimp only)))))
  k_with "@eval Subscript" => ((k_here; k_dflt (first | ((with_reducible show wpAny _ _ (eval (PySem.Expr.Subscript (PySem.Expr.Name _ _) (PySem.Expr.Constant (PySem.Const.int 0) _ _) _) _) _ _ _); refine sub_tag (by k_asm) (by rfl) (by k_asm) (by assumption) (by walk_at "MY sub") ?_; k_whole; intro tkg ttg) | ((with_reducible show wpAny _ _ (eval (PySem.Expr.Subscript (PySem.Expr.Name _ _) (PySem.Expr.Constant (PySem.Const.int 1) _ _) _) _) _ _ _); refine sub_num (by k_asm) (by rfl) (by k_asm) (by assumption) (by walk_at "MY sub") ?_; k_whole; intro tkg ttg) | ((with_reducible show wpAny _ _ (eval (PySem.Expr.Subscript (PySem.Expr.Name _ _) (PySem.Expr.Constant (PySem.Const.int 2) _ _) _) _) _ _ _); refine sub_two (by k_asm) (by rfl) (by k_asm) (by walk_at "MY mem") ?_; k_whole; intro ttg) | ((with_reducible show wpAny _ _ (eval (PySem.Expr.Subscript (PySem.Expr.Subscript (PySem.Expr.Name _ _) (PySem.Expr.Constant (PySem.Const.int 2) _ _) _) (PySem.Expr.Constant (PySem.Const.int 0) _ _) _) _) _ _ _); refine sub_kid (by k_asm) (by rfl) (by k_asm) (by walk_at "MY mem") (by walk_at "MY mem") ?_; k_whole; intro ttg) | ((with_reducible show wpAny _ _ (eval (PySem.Expr.Subscript (PySem.Expr.Subscript (PySem.Expr.Name _ _) (PySem.Expr.Constant (PySem.Const.int 2) _ _) _) (PySem.Expr.Constant (PySem.Const.int 1) _ _) _) _) _ _ _); refine sub_kid1 (by k_asm) (by rfl) (by k_asm) (by walk_at "MY mem") (by walk_at "MY mem") ?_; k_whole; intro ttg)); (try dsimp only)))
  k_with "@compareOp In str ref" => ((k_here; k_dflt (refine in_two (by k_asm) (by walk_at "MY mem") ?_ ?_; k_whole); (rotate_left; (intro htx hty; (try dsimp only)); rotate_right); intro htag; (try dsimp only)))
  k_with "@spliced" => ((k_here; k_dflt (first | ((with_reducible show wpAny _ _ (spliced (backTo _ (starEach (PySem.Expr.Name _ _ :: _ :: _) _))) _ _ _); first | (refine arg_name (by k_asm) (by rfl) ?_; k_whole) | (refine arg_glob (by k_asm) (by k_asm) (by k_asm) (by k_is) ?_; k_whole)) | ((with_reducible show wpAny _ _ (spliced (backTo _ (starEach (PySem.Expr.Name _ _ :: []) _))) _ _ _); first | (refine arz_name (by k_asm) (by rfl) ?_; k_whole) | (refine arz_glob (by k_asm) (by k_asm) (by k_asm) (by k_is) ?_; k_whole)) | ((with_reducible show wpAny _ _ (spliced (backTo _ (starEach (PySem.Expr.Constant (PySem.Const.str _) _ _ :: _ :: _) _))) _ _ _); refine arg_str ?_; k_whole; intro tka tta) | ((with_reducible show wpAny _ _ (spliced (backTo _ (starEach (PySem.Expr.Constant (PySem.Const.str _) _ _ :: []) _))) _ _ _); refine arz_str ?_; k_whole; intro tka tta) | ((with_reducible show wpAny _ _ (spliced (backTo _ (starEach (PySem.Expr.Constant (PySem.Const.int _) _ _ :: _ :: _) _))) _ _ _); refine arg_int ?_; k_whole; intro tka tta) | ((with_reducible show wpAny _ _ (spliced (backTo _ (starEach (PySem.Expr.Constant (PySem.Const.int _) _ _ :: []) _))) _ _ _); refine arz_int ?_; k_whole; intro tka tta)); (try dsimp only)))
  k_with "@eval Call" => ((k_here; (with_reducible show wpAny _ _ (eval (PySem.Expr.Call (PySem.Expr.Name _ _) (_ :: _) [] _) _) _ _ _); k_dflt (refine call_top (by k_asm) (by k_asm) (by k_asm) (by k_is) (by k_is) ?_; k_whole)))
  trivial


theorem lsingle_ok {w : World} {mean : ExcName → Option Value} {mg mb : Str → Option Value} {c : Cx} {σ : Sym} {T : List (Addr × Obj)} {a : Addr} {t : Tm} (hb : 16 ≤ σ.G.length) (ht : TmIn T a t) (hok : t.Ok) :
    Ctr w mean mg mb c 261 30 300 [.ref c.sy, .ref a] σ T (fun σ' T2 T' r => ∃ b, r = .ref b ∧ LRes σ' T2 T' b (fun τ => one τ t)) := by
  intro S A env outer base h₀ L m s Q E hS hT at' hA hU hret
  obtain ⟨⟨A₀, B⟩, F, X, N, T', hfr, hfl, hki, hha⟩ := at'
  obtain ⟨⟨o1, o2, o3, o4, o5, o6, o7⟩, hI, hlen⟩ := hS.cx
  refine wpAny_call ?_
  k_dflt (refine' code_def (binds := [(Str.ofString "names", .ref c.sy), (Str.ofString "tree", .ref a)]) ?z1k1 ?z1k2 ?z1k3 ?z1k4 ?z1k5 ?z1kA ?z1kF ?z1kK ?z1k6 ?z1k7 ?z1k8 ?z1k9 ?z1kB ?_ ?z1c2 ?z1c3 ?z1c4 ?z1c5; (case z1kA => assumption); (case z1kF => assumption); (case z1kK => assumption); (case z1k1 => k_asm); (case z1k2 => k_asm); (case z1k3 => k_asm); (case z1k4 => k_asm); (case z1k5 => k_asm); (case z1k6 => k_is); (case z1k7 => k_is); (case z1k8 => ktr_room); (case z1k9 => exact BindsTo.of_eq rfl); (case z1c5 => decide); (case z1kB => exact locs rfl); (case z1c2 => exact rfl); (case z1c3 => exact rfl); (case z1c4 => exact rfl); k_whole; intro g' L' h' FG' F' N' B' X' T''; (try dsimp only); (try k_fold))
  k_steps
  · refine hret _ _ _ _ _ _ _ (by assumption) (News.led (by assumption) (by walk_at "MY rot")) (StOk.mono (by assumption) (by walk_at "MY sub")) (by walk_at "MY suf") (by walk_at "MY le") (by walk_at "MY over") ⟨_, rfl, .inr ⟨_, _, says_err (g := instE) (fun τ => one_err (single_v (by assumption))) (says_inst (by assumption)), by walk_at "MY mem", by assumption⟩⟩
  · refine hret _ _ _ _ _ _ _ (by assumption) (News.led (by assumption) (by walk_at "MY rot")) (StOk.mono (by assumption) (by walk_at "MY sub")) (by walk_at "MY suf") (by walk_at "MY le") (by walk_at "MY over") ⟨_, rfl, .inr ⟨_, _, says_err (g := fun τ => typeE τ (Str.ofString "predicate_indicator") t) (fun τ => one_err (single_p (by assumption) (.inl (by assumption)))) (says_kind (by assumption) (by assumption) (by assumption)), by walk_at "MY mem", by assumption⟩⟩
  · refine hret _ _ _ _ _ _ _ (by assumption) (News.led (by assumption) (by walk_at "MY rot")) (StOk.mono (by assumption) (by walk_at "MY sub")) (by walk_at "MY suf") (by walk_at "MY le") (by walk_at "MY over") ⟨_, rfl, .inr ⟨_, _, says_err (g := fun τ => typeE τ (Str.ofString "predicate_indicator") t) (fun τ => one_err (single_p (by assumption) (.inr (by assumption)))) (says_kind (by assumption) (by assumption) (by assumption)), by walk_at "MY mem", by assumption⟩⟩
  · refine hret _ _ _ _ _ _ _ (by assumption) (News.led (by assumption) (by walk_at "MY rot")) (StOk.mono (by assumption) (by walk_at "MY sub")) (by walk_at "MY suf") (by walk_at "MY le") (by walk_at "MY over") ⟨_, rfl, .inr ⟨_, _, says_err (g := instE) (fun τ => one_err (single_sv (by assumption))) (says_inst (by assumption)), by walk_at "MY mem", by assumption⟩⟩
  · refine hret _ _ _ _ _ _ _ (by assumption) (News.led (by assumption) (by walk_at "MY rot")) (StOk.mono (by assumption) (by walk_at "MY sub")) (by walk_at "MY suf") (by walk_at "MY le") (by walk_at "MY over") ⟨_, rfl, .inr ⟨_, _, says_err (g := fun τ => typeE τ (Str.ofString "integer") _) (fun τ => one_err (single_si (by assumption) (by assumption) (by assumption))) (says_kind (by assumption) (by assumption) (by assumption)), by walk_at "MY mem", by assumption⟩⟩
  · refine hret _ _ _ _ _ _ _ (by assumption) (News.led (by assumption) (by walk_at "MY rot")) (StOk.mono (by assumption) (by walk_at "MY sub")) (by walk_at "MY suf") (by walk_at "MY le") (by walk_at "MY over") ⟨_, rfl, .inr ⟨_, _, says_err (g := fun τ => typeE τ (Str.ofString "atom") _) (fun τ => one_err (single_sa (by assumption) (by assumption) (by assumption) (by assumption))) (says_kind (by assumption) (by assumption) (by assumption)), by walk_at "MY mem", by assumption⟩⟩
  · refine hret _ _ _ _ _ _ _ (by assumption) (News.led (by assumption) (by walk_at "MY rot")) (StOk.mono (by assumption) (by walk_at "MY sub")) (by walk_at "MY suf") (by walk_at "MY le") (by walk_at "MY over") ⟨_, rfl, .inr ⟨_, _, says_err (g := fun τ => domE τ _) (fun τ => one_err (single_sn (by assumption) (by assumption) (by assumption))) (says_kind (by assumption) (by assumption) (by assumption)), by walk_at "MY mem", by assumption⟩⟩
  · refine hret _ _ _ _ _ _ _ (by assumption) (News.led (by assumption) (by walk_at "MY rot")) (StOk.mono (by assumption) (by walk_at "MY sub")) (by walk_at "MY suf") (by walk_at "MY le") (by walk_at "MY over") ⟨_, rfl, .inl ⟨_, [.int _ _], _, _, says_one (fun τ => single_ok (by assumption) (by assumption) (by assumption)) (by assumption), by walk_at "MY mem", by walk_at "MY mem", .cons _ _ .nil⟩⟩
end Mine
end

section
set_option maxRecDepth 100000
set_option maxHeartbeats 8000000
set_option Elab.async false
namespace Mine
open PySem PySem.W PyProof.Rows PySem.Calls PyProof.V PySem.Spec

theorem one_len {τ : Sym} {t : Tm} {l : List Int} (h : one τ t = .ok l) : l.length = 1 := by
  unfold one at h
  split at h
  · cases h
  · cases h; rfl
theorem singles_len {τ : Sym} : ∀ {ts : List Tm} {l : List Int}, singles τ ts = .ok l → l.length = ts.length
  | [], l, h => by cases h; rfl
  | t :: r, l, h => by
    unfold singles at h
    split at h
    · cases h
    · split at h
      · cases h
      · rename_i e; cases h; simp [singles_len e]
theorem items_len : ∀ t : Tm, t.items.length ≤ t.size
  | .s2 f x y => by
    unfold Tm.items Tm.size
    split
    · have := items_len y; simp only [List.length_cons]; omega
    · simp
  | .v _ => by simp [Tm.items]
  | .a _ => by simp [Tm.items]
  | .i _ => by simp [Tm.items]
  | .s1 _ _ => by simp [Tm.items]
theorem readList_len {τ : Sym} {t : Tm} {l : List Int} (h : readList τ t = .ok l) : l.length ≤ t.size := by
  unfold readList at h
  split at h
  · cases h
  · split at h
    · rw [singles_len h]; exact items_len t
    · cases h
  · cases h
theorem size_pos (t : Tm) : 1 ≤ t.size := by cases t <;> simp only [Tm.size] <;> omega
theorem join_len {a b : Except Tm (List Int)} {l : List Int} (h : join a b = .ok l) : ∃ x y, a = .ok x ∧ b = .ok y ∧ l = x ++ y := by
  unfold join at h
  split at h
  · cases h
  · split at h
    · cases h
    · cases h; exact ⟨_, _, rfl, rfl, rfl⟩
theorem read_len {τ : Sym} : ∀ {t : Tm} {l : List Int}, read τ t = .ok l → l.length ≤ t.size
  | .s2 f x y, l, h => by
    unfold read at h
    split at h
    · obtain ⟨u, v, h1, h2, rfl⟩ := join_len h
      have e1 := read_len h1
      have e2 := read_len h2
      simp only [List.length_append, Tm.size]
      omega
    · split at h
      · exact readList_len h
      · rw [one_len h]; exact size_pos _
  | .a n, l, h => by
    unfold read at h
    split at h
    · exact readList_len h
    · rw [one_len h]; exact size_pos _
  | .v _, l, h => by rw [one_len h]; exact size_pos _
  | .i _, l, h => by rw [one_len h]; exact size_pos _
  | .s1 _ _, l, h => by rw [one_len h]; exact size_pos _
theorem ints_app {vs us : List Value} {l r : List Int} (h : IntsAre vs l) (k : IntsAre us r) : IntsAre (vs ++ us) (l ++ r) := by
  induction h with
  | nil => exact k
  | cons n t _ ih => exact .cons n t ih
theorem says_len {σ : Sym} {t : Tm} {l : List Int} {vs : List Value} (h : Says σ (fun τ => read τ t) (.ok l)) (k : IntsAre vs l) : vs.length ≤ t.size := by
  have e := read_len (h σ (Sym.le_refl σ))
  rw [← k.length] at e
  exact e
theorem says_row {σ σ' : Sym} {x y : Tm} {l r : List Int} (h : Says σ (fun τ => read τ x) (.ok l)) (q : σ.le σ') (k : Says σ' (fun τ => read τ y) (.ok r)) : Says σ' (fun τ => read τ (.s2 1 x y)) (.ok (l ++ r)) := fun τ z => by
  have e1 := h τ (Sym.le_trans q z)
  have e2 := k τ z
  dsimp only at e1 e2 ⊢
  unfold read
  rw [if_pos rfl, e1, e2]; rfl
theorem says_row1 {σ : Sym} {x y : Tm} {u : Tm} (h : Says σ (fun τ => read τ x) (.error u)) : Says σ (fun τ => read τ (.s2 1 x y)) (.error u) := fun τ z => by
  have e1 := h τ z
  dsimp only at e1 ⊢
  unfold read
  rw [if_pos rfl, e1]; rfl
theorem says_row2 {σ σ' : Sym} {x y : Tm} {l : List Int} {u : Tm} (h : Says σ (fun τ => read τ x) (.ok l)) (q : σ.le σ') (k : Says σ' (fun τ => read τ y) (.error u)) : Says σ' (fun τ => read τ (.s2 1 x y)) (.error u) := fun τ z => by
  have e1 := h τ (Sym.le_trans q z)
  have e2 := k τ z
  dsimp only at e1 e2 ⊢
  unfold read
  rw [if_pos rfl, e1, e2]; rfl
theorem add_K {prog : Program} {w : World} {A : Around} {E : Value → Shared → Prop} {s : Shared} {h₀ : Heap} {L : Addr} {m : Str → Option Value} {news : List (Addr × Obj)} {l b : Addr} {vs ws : List Value} {n1 n2 : Nat} {Q : Value → Shared → Prop}
    (F : Fr h₀ L s.heap m) (N : News h₀ L s.heap news) (hl : (l, listOf vs.toArray n1) ∈ news) (hb : (b, listOf ws.toArray n2) ∈ news) (hsz : vs.length + ws.length ≤ 1000)
    (h : ∀ D h', Fr h₀ L h' m → News h₀ L h' ((D, listOf (vs ++ ws).toArray 0) :: news) → (∀ p ∈ news, p.1 < D) → Q (.ref D) { s with heap := h' }) :
    wpAny (model prog w) A (binaryOp .Add (.ref l) (.ref b)) Q E s :=
  add_lists F N (News.isList N hl) (News.isList N hb) (fun h' F' N' => h _ h' F' N' fun p hp => Heap.lt_size (N p hp).1) (by rw [sizeLine_eq]; omega)
def LR (w : World) (mean : ExcName → Option Value) (mg mb : Str → Option Value) (k : Nat) : Prop :=
  ∀ {c : Cx} {σ : Sym} {T : List (Addr × Obj)} {a : Addr} {t : Tm}, t.rows ≤ k → TmIn T a t → t.Ok → t.size ≤ 200 → 16 ≤ σ.G.length →
    Ctr w mean mg mb c 268 (80 + 5 * k) (800 + 20 * k) [.ref c.sy, .ref a] σ T (fun σ' T2 T' r => ∃ b, r = .ref b ∧ LRes σ' T2 T' b (fun τ => read τ t))
theorem lr_use {w : World} {mean : ExcName → Option Value} {mg mb : Str → Option Value} {k : Nat} {c : Cx} {σ : Sym} {T : List (Addr × Obj)} {a : Addr} {t : Tm} (H : LR w mean mg mb k) (ht : TmIn T a t) (h : t.rows ≤ k) (hok : t.Ok) (hs : t.size ≤ 200) (hb : 16 ≤ σ.G.length) :
    Ctr w mean mg mb c 268 (80 + 5 * k) (800 + 20 * k) [.ref c.sy, .ref a] σ T (fun σ' T2 T' r => ∃ b, r = .ref b ∧ LRes σ' T2 T' b (fun τ => read τ t)) := H h ht hok hs hb

/-- no row, no list: read as one -/
def Tm.leaf : Tm → Prop
  | .s2 f _ _ => f ≠ 0 ∧ f ≠ 1
  | .a n => n ≠ 0
  | _ => True
theorem read_leaf {τ : Sym} {t : Tm} (h : t.leaf) : read τ t = one τ t := by
  cases t with
  | s2 f x y => unfold read; rw [if_neg h.2, if_neg h.1]
  | a n => unfold read; exact if_neg h
  | _ => rfl
theorem LRes.of {σ : Sym} {T2 T' : List (Addr × Obj)} {b : Addr} {f g : Sym → Except Tm (List Int)} (h : ∀ τ, g τ = f τ) (k : LRes σ T2 T' b f) : LRes σ T2 T' b g := by
  rcases k with ⟨l, vs, n, k, h1, h2⟩ | ⟨u, e, h1, h2⟩
  · exact .inl ⟨l, vs, n, k, fun τ z => by rw [h τ]; exact h1 τ z, h2⟩
  · exact .inr ⟨u, e, fun τ z => by rw [h τ]; exact h1 τ z, h2⟩
theorem LRes.mono {σ : Sym} {T2 T3 T' : List (Addr × Obj)} {b : Addr} {f : Sym → Except Tm (List Int)} (k : LRes σ T2 T' b f) (h : ∀ p ∈ T2, p ∈ T3) : LRes σ T3 T' b f := by
  rcases k with ⟨l, vs, n, k, h1, h2, h3, h4⟩ | ⟨u, e, h1, h2, h3⟩
  · exact .inl ⟨l, vs, n, k, h1, h _ h2, h _ h3, h4⟩
  · exact .inr ⟨u, e, h1, h _ h2, h3⟩

theorem leaf_of {t : Tm} (h : t.isNil = false ∧ (t.tag ≠ Str.ofString "s" ∨ t.nm ≠ 0)) (k : t.tag ≠ Str.ofString "s" ∨ t.nm ≠ 1) : t.leaf := by
  cases t with
  | a n => exact beq_eq_false_iff_ne.mp h.1
  | s2 f x y => exact ⟨h.2.resolve_left fun q => q rfl, k.resolve_left fun q => q rfl⟩
  | _ => trivial
theorem tail_self {t : Tm} (h : t.tag ≠ Str.ofString "s" ∨ t.nm ≠ 0) : t.tail = t ∧ t.items = [] := by
  cases t with
  | s2 f x y =>
    have : f ≠ 0 := h.resolve_left fun q => q rfl
    exact ⟨if_neg this, if_neg this⟩
  | _ => exact ⟨rfl, rfl⟩
theorem rl_vT {τ : Sym} {t te : Tm} (h : t.tail = te) (k : te.tag = Str.ofString "v") : readList τ t = .error (instE τ) := by
  unfold readList
  rw [h]
  cases te with
  | v n => rfl
  | _ => exact absurd k (by simp only [Tm.tag]; decide)
theorem rl_badT {τ : Sym} {t te : Tm} (h : t.tail = te) (hv : te.tag ≠ Str.ofString "v") (hn : te.isNil = false) : readList τ t = .error (typeE τ (Str.ofString "list") t) := by
  unfold readList
  rw [h]
  cases te with
  | v n => exact absurd rfl hv
  | a n => exact if_neg (beq_eq_false_iff_ne.mp hn)
  | _ => rfl
theorem read_list {τ : Sym} {t : Tm} (ok : t.Ok) (h : t.isNil = true ∨ (t.tag = Str.ofString "s" ∧ t.nm = 0)) : read τ t = readList τ t := by
  cases t with
  | v n =>
    rcases h with h | ⟨h, _⟩
    · exact Bool.noConfusion h
    · exact absurd h (by simp only [Tm.tag]; decide)
  | a n =>
    rcases h with h | ⟨h, _⟩
    · have : n = 0 := beq_iff_eq.mp h
      subst this
      exact if_pos rfl
    · exact absurd h (by simp only [Tm.tag]; decide)
  | i n =>
    rcases h with h | ⟨h, _⟩
    · exact Bool.noConfusion h
    · exact absurd h (by simp only [Tm.tag]; decide)
  | s1 f x =>
    rcases h with h | ⟨_, h⟩
    · exact Bool.noConfusion h
    · exact absurd h ok.1.1
  | s2 f x y =>
    rcases h with h | ⟨_, h⟩
    · exact Bool.noConfusion h
    · have : f = 0 := h
      subst this
      unfold read; rw [if_neg (by decide), if_pos rfl]
theorem size_look1 {t : Tm} {P : Prop} (_ : t.isNil = false ∧ P) : 1 ≤ t.size := size_pos t
theorem size_look2 {t : Tm} {P : Prop} (_ : t.isNil = true ∨ P) : 1 ≤ t.size := size_pos t
theorem rows_row {x y : Tm} {k : Nat} (h : (Tm.s2 1 x y).rows ≤ k) : x.rows + 1 ≤ k ∧ y.rows + 1 ≤ k := by
  simp only [Tm.rows, if_true] at h
  omega
end Mine
end

section
set_option maxRecDepth 100000
set_option maxHeartbeats 4000000
set_option Elab.async false
namespace Mine
open PySem PySem.W PyProof.Rows PySem.Calls PyProof.V PySem.Spec

def ItemsR (T : List (Addr × Obj)) (vs : List Value) (ts : List Tm) : Prop := vs.length = ts.length ∧ ∀ i (h : i < ts.length), ∃ a, vs[i]? = some (.ref a) ∧ TmIn T a ts[i]
theorem ItemsR.nil {T : List (Addr × Obj)} : ItemsR T [] [] := ⟨rfl, fun i h => absurd h (Nat.not_lt_zero _)⟩
theorem ItemsR.snoc {T : List (Addr × Obj)} {vs : List Value} {ts : List Tm} {a : Addr} {t : Tm} (h : ItemsR T vs ts) (k : TmIn T a t) : ItemsR T (vs ++ [.ref a]) (ts ++ [t]) := by
  obtain ⟨h1, h2⟩ := h
  refine ⟨by simp [h1], fun i hi => ?_⟩
  by_cases hlt : i < ts.length
  · obtain ⟨b, e, q⟩ := h2 i hlt
    refine ⟨b, ?_, ?_⟩
    · rw [List.getElem?_append_left (by omega)]; exact e
    · rw [List.getElem_append_left hlt]; exact q
  · have hi' : i = ts.length := by simp at hi; omega
    subst hi'
    refine ⟨a, ?_, ?_⟩
    · rw [← h1]; simp
    · simpa using k
theorem ItemsR.mono {T T' : List (Addr × Obj)} {vs : List Value} {ts : List Tm} (h : ItemsR T vs ts) (k : SubT T T') : ItemsR T' vs ts := ⟨h.1, fun i hi => let ⟨a, e, q⟩ := h.2 i hi; ⟨a, e, q.of_subT k⟩⟩
/-- the loop down a list: what holds ahead of a turn -/
def JC (w : World) (c : Cx) (S : St) (T₀ : List (Addr × Obj)) (p : Addr) (m₀ : Str → Option Value) (t : Tm) (n : Nat) (m : Str → Option Value) (news : List (Addr × Obj)) : Prop :=
  ∃ e te its k done, n = te.size ∧ news = (p, listOf its k) :: led w c S T₀ ∧ TmIn T₀ e te ∧ ItemsR T₀ its.toList done ∧ t.items = done ++ te.items ∧ t.tail = te.tail ∧ te.Ok ∧ te.size ≤ t.size ∧ done.length + te.size ≤ t.size ∧ m = fun z => if z = Str.ofString "end" then some (.ref e) else m₀ z
theorem map_one {m : Str → Option Value} {x : Str} {v : Value} (h : m x = some v) : m = fun z => if z = x then some v else m z := by
  funext z
  by_cases h1 : z = x
  · rw [if_pos h1, h1, h]
  · rw [if_neg h1]
theorem map_same {m : Str → Option Value} {x : Str} {v v' : Value} : (fun z => if z = x then some v' else if z = x then some v else m z) = fun z => if z = x then some v' else m z := by
  funext z
  by_cases h1 : z = x
  · simp only [h1, if_true]
  · simp only [if_neg h1]
theorem items_dot (x y : Tm) : (Tm.s2 0 x y).items = x :: y.items := by show (if (0 : Int) = 0 then _ else _) = _; rw [if_pos rfl]
theorem tail_dot (x y : Tm) : (Tm.s2 0 x y).tail = y.tail := by show (if (0 : Int) = 0 then _ else _) = _; rw [if_pos rfl]
theorem read_dot {τ : Sym} {x y : Tm} : read τ (.s2 0 x y) = readList τ (.s2 0 x y) := by unfold read; rw [if_neg (by decide), if_pos rfl]
theorem rl_v {τ : Sym} {t : Tm} {n : Int} (h : t.tail = .v n) : readList τ t = .error (instE τ) := by unfold readList; rw [h]
theorem rl_bad {τ : Sym} {t te : Tm} (h : t.tail = te) (hv : te.isV = false) (hn : te.isNil = false) : readList τ t = .error (typeE τ (Str.ofString "list") t) := by
  unfold readList
  rw [h]
  cases te with
  | v n => cases hv
  | a n => exact if_neg (beq_eq_false_iff_ne.mp hn)
  | _ => rfl
theorem tail_ndot {f : Int} {x y : Tm} (h : f ≠ 0) : (Tm.s2 f x y).tail = .s2 f x y := by show (if f = 0 then _ else _) = _; rw [if_neg h]
theorem JC.intro {w : World} {c : Cx} {S : St} {T₀ : List (Addr × Obj)} {p e : Addr} {m₀ m : Str → Option Value} {t te : Tm} {its : Array Value} {k : Nat} {done : List Tm} (h1 : TmIn T₀ e te) (h2 : ItemsR T₀ its.toList done) (h3 : t.items = done ++ te.items) (h4 : t.tail = te.tail) (h5 : te.Ok) (h6 : te.size ≤ t.size)
    (h7 : done.length + te.size ≤ t.size) (hm : m = fun z => if z = Str.ofString "end" then some (.ref e) else m₀ z) : JC w c S T₀ p m₀ t te.size m ((p, listOf its k) :: led w c S T₀) := ⟨e, te, its, k, done, rfl, rfl, h1, h2, h3, h4, h5, h6, h7, hm⟩
theorem chain_loop {w : World} {A : Around} {s : Shared} {env : Env} {h₀ : Heap} {L p a : Addr} {test : Expr} {body : List Stmt} {pos : Pos} {Q : Flow → Shared → Prop} {E : Value → Shared → Prop} {m : Str → Option Value} {c : Cx} {S : St} {T₀ : List (Addr × Obj)} {t : Tm}
    (F : Fr h₀ L s.heap m) (N : News h₀ L s.heap ((p, listOf #[] 0) :: led w c S T₀)) (hm : m (Str.ofString "end") = some (.ref a)) (ht : TmIn T₀ a t) (hok : t.Ok)
    (turn : ∀ e te (its : Array Value) k done h₁ tk₁, TmIn T₀ e te → its.size = done.length → ItemsR T₀ its.toList done → t.items = done ++ te.items → t.tail = te.tail → te.Ok → te.size ≤ t.size → done.length + te.size ≤ t.size → Fr h₀ L h₁ (fun z => if z = Str.ofString "end" then some (.ref e) else m z) → News h₀ L h₁ ((p, listOf its k) :: led w c S T₀) →
      wpAny (model PySem.Challenge.rw_no0155_01.row.prog w) A (isTrue test env (eval test env)) (fun b s₂ =>
        if b = true then wpAny (model PySem.Challenge.rw_no0155_01.row.prog w) A (execs body env) (WhileStep h₀ L s (JC w c S T₀ p m t) te.size) E s₂ else Q .next s₂) E { s with heap := h₁, toks := tk₁ })
    (hE : PassesOwn (model PySem.Challenge.rw_no0155_01.row.prog w) A env E := by passes_own) : wpAny (model PySem.Challenge.rw_no0155_01.row.prog w) A (exec (.While test body [] pos) env) Q E s := by
  refine While_inv (JC w c S T₀ p m t) (n₀ := t.size) F N ⟨a, t, #[], 0, [], rfl, rfl, ht, .nil, rfl, rfl, hok, Nat.le_refl _, by simp, map_one hm⟩ ?_ hE
  rintro n m₁ news₁ h₁ tk₁ F₁ N₁ ⟨e, te, its, k, done, rfl, rfl, h1, h2, h3, h4, h5, h6, h7, rfl⟩
  exact turn e te its k done h₁ tk₁ h1 (by rw [← h2.1]; simp) h2 h3 h4 h5 h6 h7 F₁ N₁

/-! ## lists extended in place -/
def bump (vs ws : List Value) (n : Nat) : Nat := if (vs.toArray ++ ws.toArray).size == vs.toArray.size then n else n + 1
theorem fills_iadd : fillsInplaceSlot (.type "list") "add" (Operator.Add == .Add) = pure false := by
  unfold fillsInplaceSlot
  show (typeLookup (.type "list") (dunderI "add") >>= fun fi => pure (fi.isSome && !isSeqSlot fi)) = pure false
  rw [PySem.F.slot_list_iadd.lookup]
  simp only [pure_bind]
  rw [show isSeqSlot (some (.builtin "list.__iadd__")) = true by decide +kernel]
  rfl
theorem iadd_K {w : World} {A : Around} {E : Value → Shared → Prop} {s : Shared} {h₀ : Heap} {L : Addr} {m : Str → Option Value} {news news' : List (Addr × Obj)} {l b : Addr} {vs ws : List Value} {n n2 : Nat} {Q : Value → Shared → Prop} {prog : Program}
    (F : Fr h₀ L s.heap m) (N : News h₀ L s.heap news) (U : Upd l (listOf vs.toArray n) (listOf (vs ++ ws).toArray (bump vs ws n)) news news') (hb : (b, listOf ws.toArray n2) ∈ news) (hsz : vs.length + ws.length ≤ 1000)
    (h : ∀ h', Fr h₀ L h' m → News h₀ L h' news' → Q (.ref l) { s with heap := h' }) : wpAny (model prog w) A (inplaceOp .Add (.ref l) (.ref b)) Q E s := by
  obtain ⟨pre, post, rfl, rfl, a, c⟩ := U.split
  have z := N (l, listOf vs.toArray n) (List.mem_append.mpr (.inr (.head _)))
  have zb := N _ hb
  have ta : s.TypeIs (.ref l) "list" := ⟨_, z.1, rfl⟩
  have tb : s.TypeIs (.ref b) "list" := ⟨_, zb.1, rfl⟩
  unfold inplaceOp
  refine wpAny_holding (wpAny_bind (wpAny_typeOf ta (wpAny_bind (wpAny_of_eq fills_iadd ?_))))
  show wpAny _ A (if false = true then _ else _) Q E s
  rw [if_neg Bool.false_ne_true]
  refine wpAny_bind (wpAny_binaryOp1_none (nm := "add") ta tb noFill_list_add ?_)
  refine wpAny_bind (wpAny_of_eq (PyProof.Rows.seqSlot_of PySem.F.slot_list_iadd.lookup (by decide +kernel)) ?_)
  refine wpAny_bind (wpAny_rule ?_)
  have e1 : (vs.toArray ++ ws.toArray) = (vs ++ ws).toArray := by simp
  refine call_meets PySem.F.slot_list_iadd ta PySem.F.entry_list_iadd (PySem.F.args_list_iadd_2 _ _) (PySem.AutoSeq1.list___iadd___list_list_0 l vs.toArray n b ws.toArray n2 ?_ (by rw [sizeLine_eq]; simp; omega) (by rw [sizeLine_eq]; simp; omega)) ⟨z.1, zb.1, ?_⟩
  · intro q
    simp only [Builtin.List.listTooLong, Bool.and_eq_true, decide_eq_true_eq] at q
    have := q.2
    rw [sizeLine_eq] at this
    simp only [List.size_toArray] at this
    omega
  · have hs := Heap.SameBut.update s.heap l (Obj.mapSeq fun x => x ++ ws.toArray)
    have hm : Obj.mapSeq (fun x => x ++ ws.toArray) (listOf vs.toArray n) = listOf (vs ++ ws).toArray (bump vs ws n) := by
      rw [← e1]; rfl
    have hg : (s.heap.update l (Obj.mapSeq fun x => x ++ ws.toArray)).get? l = some (listOf (vs ++ ws).toArray (bump vs ws n)) := by
      rw [Heap.get?_update_self _ z.1 (by rw [hm]; rfl), hm]
    exact h _ (F.change hs z.2.1 z.2.2) (news_set N a c hs hg)

/-! ## the loop over the parts -/
theorem one_ok' {τ : Sym} {t : Tm} {l : List Int} (h : one τ t = .ok l) : ∃ n, single τ t = .ok n ∧ l = [n] := by
  unfold one at h
  split at h
  · cases h
  · rename_i n e; cases h; exact ⟨n, e, rfl⟩
theorem one_err' {τ : Sym} {t : Tm} {u : Tm} (h : one τ t = .error u) : single τ t = .error u := by
  unfold one at h
  split at h
  · rename_i e; cases h; exact e
  · cases h
theorem singles_app {τ : Sym} {ts : List Tm} {t : Tm} : ∀ {l : List Int} {n : Int}, singles τ ts = .ok l → single τ t = .ok n → singles τ (ts ++ [t]) = .ok (l ++ [n]) := by
  induction ts with
  | nil => intro l n h k; cases h; simp only [List.nil_append, singles, k]
  | cons x r ih =>
    intro l n h k
    simp only [List.cons_append, singles] at h ⊢
    split at h
    · cases h
    · rename_i e
      split at h
      · cases h
      · rename_i e2; cases h
        rw [ih e2 k]; rfl
theorem singles_bad {τ : Sym} {ts r : List Tm} {t u : Tm} : ∀ {l : List Int}, singles τ ts = .ok l → single τ t = .error u → singles τ (ts ++ t :: r) = .error u := by
  induction ts with
  | nil => intro l h k; simp only [List.nil_append, singles, k]
  | cons x q ih =>
    intro l h k
    simp only [List.cons_append, singles] at h ⊢
    split at h
    · cases h
    · rename_i e
      split at h
      · cases h
      · rename_i e2
        rw [ih e2 k]
theorem take_snoc {ts : List Tm} {i : Nat} (h : i < ts.length) : ts.take (i + 1) = ts.take i ++ [ts[i]] := by simp
theorem split_at {ts : List Tm} {i : Nat} (h : i < ts.length) : ts = ts.take i ++ ts[i] :: ts.drop (i + 1) := by simp
theorem says_step {σ σ' : Sym} {ts : List Tm} {i : Nat} {l r : List Int} (h : i < ts.length) (q : Says σ (fun τ => singles τ (ts.take i)) (.ok l)) (e : σ.le σ') (k : Says σ' (fun τ => one τ ts[i]) (.ok r)) : Says σ' (fun τ => singles τ (ts.take (i + 1))) (.ok (l ++ r)) := fun τ z => by
  obtain ⟨n, e1, rfl⟩ := one_ok' (k τ z)
  dsimp only
  rw [take_snoc h]
  exact singles_app (q τ (Sym.le_trans e z)) e1
theorem says_stop {σ σ' : Sym} {ts : List Tm} {i : Nat} {l : List Int} {u : Tm} (h : i < ts.length) (q : Says σ (fun τ => singles τ (ts.take i)) (.ok l)) (e : σ.le σ') (k : Says σ' (fun τ => one τ ts[i]) (.error u)) : Says σ' (fun τ => singles τ ts) (.error u) := fun τ z => by
  have e1 := one_err' (k τ z)
  dsimp only
  rw [split_at h]
  exact singles_bad (q τ (Sym.le_trans e z)) e1
theorem says_one_len {σ : Sym} {t : Tm} {l : List Int} {vs : List Value} (h : Says σ (fun τ => one τ t) (.ok l)) (k : IntsAre vs l) : vs.length = 1 := by
  have e := one_len (h σ (Sym.le_refl σ))
  rw [← k.length] at e
  exact e
def JP (w : World) (c : Cx) (σ₀ : Sym) (T₀ : List (Addr × Obj)) (fd : Addr) (m₀ : Str → Option Value) (ts : List Tm) (i : Nat) (m : Str → Option Value) (news : List (Addr × Obj)) : Prop :=
  ∃ σ S T2 T' vs k l pv ov, news = (fd, listOf vs.toArray k) :: led w c S T' ∧ StOk w c σ S T' ∧ T' = T2 ++ T₀ ∧ Apart c T' ∧ (∀ p ∈ T', p.1 ≠ fd) ∧ σ₀.le σ ∧ (∀ p ∈ T2, Over c T₀ p.1) ∧ Says σ (fun τ => singles τ (ts.take i)) (.ok l) ∧ IntsAre vs l ∧ vs.length ≤ i ∧ m = fun z => if z = Str.ofString "part" then pv else if z = Str.ofString "one" then ov else m₀ z
theorem JP.intro {w : World} {c : Cx} {σ₀ σ : Sym} {S : St} {T₀ T' T2 : List (Addr × Obj)} {fd : Addr} {m₀ m : Str → Option Value} {ts : List Tm} {i k : Nat} {vs : List Value} {l : List Int} {pv ov : Option Value} (hS : StOk w c σ S T') (e : T' = T2 ++ T₀) (hap : Apart c T') (hf : ∀ p ∈ T', p.1 ≠ fd) (hle : σ₀.le σ) (hov : ∀ p ∈ T2, Over c T₀ p.1)
    (hy : Says σ (fun τ => singles τ (ts.take i)) (.ok l)) (hi : IntsAre vs l) (hl : vs.length ≤ i) (hm : m = fun z => if z = Str.ofString "part" then pv else if z = Str.ofString "one" then ov else m₀ z) : JP w c σ₀ T₀ fd m₀ ts i m ((fd, listOf vs.toArray k) :: led w c S T') :=
  ⟨σ, S, T2, T', vs, k, l, pv, ov, rfl, hS, e, hap, hf, hle, hov, hy, hi, hl, hm⟩
theorem map_id2 {m : Str → Option Value} {x y : Str} : m = fun z => if z = x then m x else if z = y then m y else m z := by
  funext z
  by_cases h1 : z = x
  · rw [if_pos h1, h1]
  · rw [if_neg h1]
    by_cases h2 : z = y
    · rw [if_pos h2, h2]
    · rw [if_neg h2]
theorem parts_loop {w : World} {A : Around} {s : Shared} {env : Env} {h₀ : Heap} {body : List Stmt} {Q : Flow → Shared → Prop} {E : Value → Shared → Prop} {m : Str → Option Value} {c : Cx} {σ₀ : Sym} {S : St} {T₀ : List (Addr × Obj)} {p fd : Addr} {its : Array Value} {k : Nat} {ts : List Tm}
    (hh : A.handled = none) (F : Fr h₀ env.locals s.heap m) (N : News h₀ env.locals s.heap ((fd, listOf #[] 0) :: led w c S T₀)) (hp : (p, listOf its k) ∈ T₀) (hI : ItemsR T₀ its.toList ts) (hS : StOk w c σ₀ S T₀) (hap : Apart c T₀) (hf : ∀ p ∈ T₀, p.1 ≠ fd)
    (step : ∀ (i : Nat) (hi : i < ts.length) x I h tk o σ S' T2 vs k l pv ov, o.cls ≠ .type "tuple" → StOk w c σ S' (T2 ++ T₀) → Apart c (T2 ++ T₀) → (∀ p ∈ T2 ++ T₀, p.1 ≠ fd) → σ₀.le σ → (∀ p ∈ T2, Over c T₀ p.1) → TmIn (T2 ++ T₀) x ts[i] → Says σ (fun τ => singles τ (ts.take i)) (.ok l) → IntsAre vs l → vs.length ≤ i →
      (∀ p ∈ led w c S' (T2 ++ T₀), p.1 ≠ I) → @LT.lt Nat _ c.ff I → @LT.lt Nat _ fd I →
      Fr h₀ env.locals h (fun y => if y = Str.ofString "part" then some (.ref x) else if y = Str.ofString "part" then pv else if y = Str.ofString "one" then ov else m y) → News h₀ env.locals h ((I, o) :: (fd, listOf vs.toArray k) :: led w c S' (T2 ++ T₀)) →
      wpAny (model PySem.Challenge.rw_no0155_01.row.prog w) A (execs body env) (Turn h₀ env.locals I o (JP w c σ₀ T₀ fd m ts (i + 1)) { s with heap := h, toks := tk } (fun v s' => Q (.ret v) s') fun s' => Q .next s') E { s with heap := h, toks := tk })
    (done : ∀ h' tk σ S' T2 vs k l pv ov, StOk w c σ S' (T2 ++ T₀) → Apart c (T2 ++ T₀) → σ₀.le σ → (∀ p ∈ T2, Over c T₀ p.1) → Says σ (fun τ => singles τ ts) (.ok l) → IntsAre vs l → Fr h₀ env.locals h' (fun y => if y = Str.ofString "part" then pv else if y = Str.ofString "one" then ov else m y) → News h₀ env.locals h' ((fd, listOf vs.toArray k) :: led w c S' (T2 ++ T₀)) → Q .next { s with heap := h', toks := tk }) :
    wpAny (model PySem.Challenge.rw_no0155_01.row.prog w) A (pyIter (.ref p)) (fun it s₂ => LoopAtV PySem.Challenge.rw_no0155_01.row.prog w A h₀ env (Str.ofString "part") body Q E it s₂) E s := by
  have hlen : its.size = ts.length := by have := hI.1; simpa using this
  refine list_loop hh (a := p) (its := its) (ep := k) (List.mem_cons_of_mem _ (by simp only [led, List.mem_cons, hp, or_true])) F N (JP w c σ₀ T₀ fd m ts) ?_ ⟨σ₀, S, [], T₀, [], 0, [], _, _, rfl, hS, rfl, hap, hf, Sym.le_refl _, over_nil, fun τ _ => rfl, .nil, Nat.le_refl _, map_id2⟩ ?_ ?_
  · rintro i m news ⟨σ, S', T2, T', vs, k', l, pv, ov, rfl, hS', rfl, _⟩
    exact List.mem_cons_of_mem _ (by simp only [led, List.mem_cons, List.mem_append, hp, or_true])
  · intro i v I m₁ news₁ s₁ o hs hoc hi hv hJ hoff hlt F₁ N₁
    obtain ⟨σ, S', T2, T', vs, k', l, pv, ov, rfl, hS', rfl, hap', hf', hle, hov, hy, hii, hll, rfl⟩ := hJ
    obtain ⟨h, tk, rfl⟩ := hs
    have hi' : i < ts.length := by omega
    obtain ⟨x, ex, tx⟩ := hI.2 i hi'
    have : v = .ref x := by
      rw [Array.getElem?_toList] at ex
      rw [hv] at ex
      exact Option.some.inj ex
    subst this
    exact step i hi' x I h tk o σ S' T2 vs k' l pv ov hoc hS' hap' hf' hle hov (tx.mono fun q hq => List.mem_append_right _ hq) hy hii hll (fun q hq => hoff q (List.mem_cons_of_mem _ hq)) (hlt (c.ff, S.gv) (by simp [led])) (hlt (fd, listOf #[] 0) (by simp)) F₁ N₁
  · intro h' tk m' news' F' N' hJ
    obtain ⟨σ, S', T2, T', vs, k', l, pv, ov, rfl, hS', rfl, hap', hf', hle, hov, hy, hii, hll, rfl⟩ := hJ
    refine done h' tk σ S' T2 vs k' l pv ov hS' hap' hle hov ?_ hii F' N'
    rw [hlen, List.take_length] at hy
    exact hy
end Mine
end

section
set_option maxRecDepth 100000
set_option maxHeartbeats 8000000
set_option Elab.async false
namespace Mine
open PySem PySem.W PyProof.Rows PySem.Calls PyProof.V PySem.Spec

theorem fill_here12 (w : World) (h : Heap) (X : (hd.heap_39 w.params).In h) (hp : PySem.Challenge.rw_no0155_01.prog = PySem.Challenge.rw_no0155_01.prog) : (hd.heap_39 w.params).In h ∧ PySem.Challenge.rw_no0155_01.prog = PySem.Challenge.rw_no0155_01.prog := by
  k_fill
  exact ⟨X, hp⟩

theorem items_ok : ∀ {t : Tm}, t.Ok → ∀ u ∈ t.items, u.Ok
  | .s2 f x y, h, u, hu => by
    unfold Tm.items at hu
    split at hu
    · rcases List.mem_cons.mp hu with rfl | hu
      · exact h.1
      · exact items_ok h.2 u hu
    · cases hu
  | .v _, _, _, hu => by cases hu
  | .a _, _, _, hu => by cases hu
  | .i _, _, _, hu => by cases hu
  | .s1 _ _, _, _, hu => by cases hu
theorem list_nt {its : Array Value} {n : Nat} : (listOf its n).cls ≠ .type "tuple" := by show Value.type "list" ≠ Value.type "tuple"; decide
theorem News.turn2 {w : World} {c : Cx} {S : St} {h₀ h : Heap} {L : Addr} {news T : List (Addr × Obj)} {e1 e2 : Addr × Obj} (N : News h₀ L h news) (R : Rot w c S news T [e1, e2]) : News h₀ L h (e1 :: e2 :: Mine.led w c S T) :=
  News.sub N fun p hp => R.sub p (led_front (F := [e1, e2]) (T2 := []) p hp)
theorem says_list {σ : Sym} {t : Tm} {ts : List Tm} {l : List Int} (h1 : t.tail = .a 0) (h2 : t.items = ts) (h : Says σ (fun τ => singles τ ts) (.ok l)) : Says σ (fun τ => readList τ t) (.ok l) := fun τ z => by
  have e := h τ z
  dsimp only at e ⊢
  unfold readList
  rw [h1, h2]
  exact (if_pos rfl).trans e
theorem says_listE {σ : Sym} {t : Tm} {ts : List Tm} {u : Tm} (h1 : t.tail = .a 0) (h2 : t.items = ts) (h : Says σ (fun τ => singles τ ts) (.error u)) : Says σ (fun τ => readList τ t) (.error u) := fun τ z => by
  have e := h τ z
  dsimp only at e ⊢
  unfold readList
  rw [h1, h2]
  exact (if_pos rfl).trans e
theorem says_dot {σ : Sym} {x y : Tm} {r : Except Tm (List Int)} (h : Says σ (fun τ => readList τ (.s2 0 x y)) r) : Says σ (fun τ => read τ (.s2 0 x y)) r := fun τ z => read_dot.trans (h τ z)
theorem sub_cons {e : Addr × Obj} {T B : List (Addr × Obj)} (h : e ∈ B) (k : ∀ p ∈ T, p ∈ B) : ∀ p ∈ e :: T, p ∈ B := fun p hp => by
  rcases List.mem_cons.mp hp with rfl | hp
  · exact h
  · exact k p hp
theorem sub_app {S T B : List (Addr × Obj)} (h : ∀ p ∈ S, p ∈ B) (k : ∀ p ∈ T, p ∈ B) : ∀ p ∈ S ++ T, p ∈ B := fun p hp => (List.mem_append.mp hp).elim (h p) (k p)
theorem map_two' {m m₀ : Str → Option Value} {x y : Str} (h : ∀ z, z ≠ x → z ≠ y → m z = m₀ z) : m = fun z => if z = x then m x else if z = y then m y else m₀ z := by
  funext z
  by_cases h1 : z = x
  · rw [if_pos h1, h1]
  · rw [if_neg h1]
    by_cases h2 : z = y
    · rw [if_pos h2, h2]
    · rw [if_neg h2]; exact h z h1 h2
theorem items_a {t : Tm} {n : Int} {ds : List Tm} (h : t.items = ds ++ (Tm.a n).items) : t.items = ds := by rw [h]; exact List.append_nil _
local macro_rules | `(tactic| k_all) => `(tactic| first | exact off_join (off_app (by assumption) (by walk_at "MY mem")) (by assumption) | exact led_ne (StOk.cx (by assumption)) (raw_lt (by assumption) (by walk_at "MY mem")) (off_join (off_app (by assumption) (by walk_at "MY mem")) (by assumption)))

theorem words_N12 : True := by
  k_with_none
  k_with "@MY mem" => (first | with_reducible assumption | exact List.mem_cons_self | (with_reducible refine List.mem_cons_of_mem _ ?_; walk_at "MY mem") | (with_reducible refine List.mem_append_left _ ?_; walk_at "MY mem") | (with_reducible refine List.mem_append_right _ ?_; walk_at "MY mem") | exact led_sy | exact led_dx | exact led_ff | exact led_hd | exact led_cl | (with_reducible refine led_T ?_; walk_at "MY mem"))
  k_with "@call builtin:len" => ((k_here; (with_reducible show wpAny _ _ (call (Value.builtin "len") [Value.ref _]) _ _ _); k_dflt (refine len_list (by exact News.isList (by k_asm) (by walk_at "MY mem")) (by omega) ?_; k_whole)))
  k_with "@subscriptTail Subscript Name Constant Subscript ref int" => ((k_here; (with_reducible show wpAny _ _ (subscriptTail _ _ (Value.ref _) (Value.int _ _)) _ _ _); k_dflt (refine item_int (by exact News.isList (by k_asm) (by walk_at "MY mem")) (by omega) (by omega) (by omega) (by assumption) ?_; k_whole); intro j tj))
  k_with "@subscriptTail Name Constant ref int" => ((k_here; k_dflt (first | (refine item_list (by exact News.isList (by k_asm) (by walk_at "MY mem")) (by decide) (by decide) (by rfl) ?_; k_whole) | (refine item_tupleT (by exact News.isTup (by k_asm) (by walk_at "MY mem")) (by decide) (by decide) (by rfl) (by rfl) ?_; k_whole))))
  k_with "@subscriptTail Subscript Name Constant Constant ref int" => ((k_here; k_dflt (refine item_tupleT (by exact News.isTup (by k_asm) (by walk_at "MY mem")) (by decide) (by decide) (by rfl) (by rfl) ?_; k_whole)))
  k_with "@MY sub" => ((intro p9 hp9; walk_at "MY mem"))
  k_with "@MY units" => (((try simp only [units_in1, units_deeper, Around.mark_units, units_caller] at *); omega))
  k_with "@MY over" => (first | exact over_nil | assumption | (refine over_cons (over_of (by assumption) (by walk_at "MY mem") (by walk_at "MY sub")) ?_; walk_at "MY over") | (refine over_app ?_ ?_ <;> walk_at "MY over") | exact over_mono (by assumption) (by walk_at "MY sub"))
  k_with "@MY rot" => (first | exact Rot.base | (apply Rot.pushT; walk_at "MY rot") | (apply Rot.pushL; walk_at "MY rot") | (apply Rot.keep; walk_at "MY rot") | (apply Rot.drop; walk_at "MY rot"))
  k_with "@MY front" => (first | exact List.forall_mem_nil _ | (refine List.forall_mem_cons.mpr ⟨by first | assumption | decide, ?_⟩; walk_at "MY front"))
  k_with "@MY subT" => (first | exact SubT.front (by walk_at "MY front") | exact SubT.refl)
  k_with "@MY frames" => (first | exact Around.frames_deeper (by assumption) | (simp only [Around.in1_frames]; exact Around.frames_deeper (by assumption)))
  k_with "@MY handled" => (first | assumption | (simp only [Around.in1_handled]; assumption))
  k_with "@MY apart" => (((try simp only [List.nil_append, List.cons_append]); first | assumption | (refine Apart.cons (by first | with_reducible assumption | exact raw_lt (by assumption) (by walk_at "MY mem") | ((try dsimp only); omega)) ?_; walk_at "MY apart")))
  k_with "@MY le" => (first | exact Sym.le_refl _ | assumption | (refine Sym.le_trans ?_ (by assumption); walk_at "MY le"))
  k_with "@MY suf" => (first | exact suf_nil | (apply suf_cons; walk_at "MY suf") | (apply suf_app; walk_at "MY suf"))
  k_with "@MY off" => (first | exact led_offT (by assumption) | (refine off_cons (by first | exact raw_lt (by assumption) (by walk_at "MY mem") | ((try dsimp only); omega)) ?_; walk_at "MY off") | (refine off_join (off_app (by assumption) (by walk_at "MY mem")) ?_; walk_at "MY off"))
  k_with "@call builtin:list.append" => ((k_here; (with_reducible show wpAny _ _ (call (Value.builtin _) [Value.ref _, _]) _ _ _); k_dflt (refine append_K (by k_asm) (by k_asm) (by k_upd) ?_ (by (rw [sizeLine_eq]; simp only [List.size_toArray, List.length_cons, List.length_nil]; omega)); k_whole); intro h' F' N'; (try k_sweep)))
  k_with "@call builtin:len" => ((k_here; (with_reducible show wpAny _ _ (call (Value.builtin "len") [Value.ref _]) _ _ _); k_dflt (refine kun_lenL (by exact News.isList (by k_asm) (by walk_at "MY mem")) (by first | exact congrArg Nat.cast (by assumption) | rfl) (by omega) ?_; k_whole)))
  k_with "@call ref" => ((k_here; (with_reducible show wpAny _ _ (call (Value.ref 88) _) _ _ _); k_dflt ((refine Ctr.use (by exact ⟨⟨_, by k_asm⟩, by k_asm, by k_asm, by k_asm, by k_asm, by walk_at "MY frames", rfl, rfl, by walk_at "MY handled"⟩) (by walk_at "MY rot") (by assumption) (by walk_at "MY sub") (by walk_at "MY apart") (by walk_at "MY front") (atom_ok (by first | assumption | decide)) (by ktr_room) (by walk_at "MY units") ?_; k_whole; intro r1 σ1 S1 T21 h1 tk1 F1 N1 ho1 hl1 hS1 hap1 hP1; (have hg1 := hl1.2.2); (try simp only [List.nil_append] at ho1 hP1); (try dsimp only [List.nil_append, List.cons_append] at N1); obtain ⟨hT1, n1, t1, hr1, hn1, hn2, hy1, he1⟩ := hP1; subst hr1; subst hT1; (try simp only [List.nil_append] at hS1 hap1 N1); (try k_sweep); (try dsimp only)))))
  k_with "@call ref" => ((k_here; (with_reducible show wpAny _ _ (call (Value.ref 102) _) _ _ _); k_dflt ((refine Ctr.use (by exact ⟨⟨_, by k_asm⟩, by k_asm, by k_asm, by k_asm, by k_asm, by walk_at "MY frames", rfl, rfl, by walk_at "MY handled"⟩) (by walk_at "MY rot") (by assumption) (by walk_at "MY sub") (by walk_at "MY apart") (by walk_at "MY front") (functor_ok (by omega) (by omega) (by omega) (by omega) (by first | assumption | omega | ((with_reducible rename _ = Sym.inA _ _ => he9); rw [he9, inA_G]; assumption))) (by ktr_room) (by walk_at "MY units") ?_; k_whole; intro r1 σ1 S1 T21 h1 tk1 F1 N1 ho1 hl1 hS1 hap1 hP1; (have hg1 := hl1.2.2); (try simp only [List.nil_append] at ho1 hP1); (try dsimp only [List.nil_append, List.cons_append] at N1); obtain ⟨n1, t1, hr1, hk1, hy1, he1⟩ := hP1; subst hr1; (try k_sweep); (try dsimp only)))))
  k_with "@call ref" => ((k_here; (with_reducible show wpAny _ _ (call (Value.ref 254) _) _ _ _); k_dflt ((refine Ctr.use (by exact ⟨⟨_, by k_asm⟩, by k_asm, by k_asm, by k_asm, by k_asm, by walk_at "MY frames", rfl, rfl, by walk_at "MY handled"⟩) (by walk_at "MY rot") (by assumption) (by walk_at "MY sub") (by walk_at "MY apart") (by walk_at "MY front") (error2_ok (by omega) (by decide) (by walk_at "MY mem") (by walk_at "MY tm") (by walk_at "MY tm")) (by ktr_room) (by walk_at "MY units") ?_; k_whole; intro r1 σ1 S1 T21 h1 tk1 F1 N1 ho1 hl1 hS1 hap1 hP1; (have hg1 := hl1.2.2); (try simp only [List.nil_append] at ho1 hP1); (try dsimp only [List.nil_append, List.cons_append] at N1); obtain ⟨a1, e1, f1, hr1, hm1, ht1, hy1⟩ := hP1; subst hr1; (try replace ht1 := TmIn.of_subT ht1 (by walk_at "MY subT")); (try k_sweep); (try dsimp only)))))
  k_with "@call ref" => ((k_here; (with_reducible show wpAny _ _ (call (Value.ref 254) _) _ _ _); k_dflt ((refine Ctr.use (by exact ⟨⟨_, by k_asm⟩, by k_asm, by k_asm, by k_asm, by k_asm, by walk_at "MY frames", rfl, rfl, by walk_at "MY handled"⟩) (by walk_at "MY rot") (by assumption) (by walk_at "MY sub") (by walk_at "MY apart") (by walk_at "MY front") (error0_ok (by omega) (by decide) (by walk_at "MY mem")) (by ktr_room) (by walk_at "MY units") ?_; k_whole; intro r1 σ1 S1 T21 h1 tk1 F1 N1 ho1 hl1 hS1 hap1 hP1; (have hg1 := hl1.2.2); (try simp only [List.nil_append] at ho1 hP1); (try dsimp only [List.nil_append, List.cons_append] at N1); obtain ⟨a1, e1, f1, hr1, hm1, ht1, hy1⟩ := hP1; subst hr1; (try replace ht1 := TmIn.of_subT ht1 (by walk_at "MY subT")); (try k_sweep); (try dsimp only)))))
  k_with "@call ref" => ((k_here; (with_reducible show wpAny _ _ (call (Value.ref 261) _) _ _ _); k_dflt ((refine Ctr.use (by exact ⟨⟨_, by k_asm⟩, by k_asm, by k_asm, by k_asm, by k_asm, by walk_at "MY frames", rfl, rfl, by walk_at "MY handled"⟩) (by walk_at "MY rot") (by assumption) (by walk_at "MY sub") (by walk_at "MY apart") (by walk_at "MY front") (lsingle_ok (by omega) (by walk_at "MY tm") (by first | assumption | exact hok)) (by ktr_room) (by walk_at "MY units") ?_; k_whole; intro r1 σ1 S1 T21 h1 tk1 F1 N1 ho1 hl1 hS1 hap1 hP1; (have hg1 := hl1.2.2); (try simp only [List.nil_append] at ho1 hP1); (try dsimp only [List.nil_append, List.cons_append] at N1); obtain ⟨b1, hr1, hL1⟩ := hP1; subst hr1; (try k_sweep); (try dsimp only)))))
  k_with "@call ref" => ((k_here; (with_reducible show wpAny _ _ (call (Value.ref 268) _) _ _ _); k_dflt ((refine Ctr.use (by exact ⟨⟨_, by k_asm⟩, by k_asm, by k_asm, by k_asm, by k_asm, by walk_at "MY frames", rfl, rfl, by walk_at "MY handled"⟩) (by walk_at "MY rot") (by assumption) (by walk_at "MY sub") (by walk_at "MY apart") (by walk_at "MY front") (Hr (by walk_at "MY tm") (by omega) (by assumption) (by omega) (by omega)) (by ktr_room) (by walk_at "MY units") ?_; k_whole; intro r1 σ1 S1 T21 h1 tk1 F1 N1 ho1 hl1 hS1 hap1 hP1; (have hg1 := hl1.2.2); (try simp only [List.nil_append] at ho1 hP1); (try dsimp only [List.nil_append, List.cons_append] at N1); obtain ⟨b1, hr1, hL1⟩ := hP1; subst hr1; rcases hL1 with ⟨l1, vs1, e1, k1, hy1, hm1, hm2, hi1⟩ | ⟨u1, e1, hy1, hm1, ht1⟩; (all_goals (first | (have hv1 := says_len hy1 hi1) | (try replace ht1 := TmIn.of_subT ht1 (by walk_at "MY subT")))); (try k_sweep); (try dsimp only)))))
  k_with "@MY tm" => (first | assumption | exact TmIn.mono (by assumption) (by walk_at "MY sub") | exact TmIn.v (by walk_at "MY mem") | exact TmIn.i (by walk_at "MY mem") | exact TmIn.a (by walk_at "MY mem") | (apply TmIn.s2; (walk_at "MY mem"); (walk_at "MY mem"); (walk_at "MY tm"); (walk_at "MY tm")))
  k_with "@compareOp Eq ref ref" => ((k_here; k_dflt (refine PySem.SeqAt.eq_list_lengthsAt (by exact News.isList (by k_asm) (by walk_at "MY mem")) (by exact News.isList (by k_asm) (by walk_at "MY mem")) (by rfl) (by walk_at "MY units") ?_; k_whole)))
  k_with "@assign Tuple" => ((k_here; (with_reducible show wpAny _ _ (assign (Expr.Tuple _ _ _) _ (Value.ref _)) _ _ _); k_dflt (refine unpackN_ (by k_asm) (by k_asm) (by exact News.isTup (by k_asm) (by walk_at "MY mem")) (by walk_at "MY handled") (by exact rfl) (by exact rfl) ?_; k_whole); intro h' F' N'; (try k_sweep)))
  k_with "@binaryOp Add ref ref" => ((k_here; k_dflt (refine add_K (by k_asm) (by k_asm) (by walk_at "MY mem") (by walk_at "MY mem") (by omega) ?_; k_whole); intro D' h' F' N' l1; (try k_lt l1); (try k_sweep)))
  k_with "@compareOp NotEq ref ref" => ((k_here; k_dflt (first | (refine ne_nil_t (by first | assumption | rfl) (by k_asm) (by assumption) (by walk_at "MY sub") (by walk_at "MY mem") (by walk_at "MY units") ?_; k_whole) | (refine ne_nil_f (by first | assumption | rfl) (by k_asm) (by assumption) (by walk_at "MY sub") (by walk_at "MY mem") (by walk_at "MY units") ?_; k_whole))))
  k_with "@exec While" => ((k_here; (with_reducible rename Mine.StOk _ _ _ _ _ => hS9); k_dflt (refine chain_loop (T₀ := _) (by k_asm) (by exact News.turn (by k_asm) (by (apply Rot.keep; walk_at "MY rot"))) (by rfl) (by exact TmIn.mono (by assumption) (by walk_at "MY sub")) (by assumption) ?_)))
  k_with "@MY sub" => (first | (intro p9 hp9; walk_at "MY mem") | (refine sub_cons (by walk_at "MY mem") ?_; walk_at "MY sub") | (refine sub_app ?_ ?_ <;> walk_at "MY sub"))
  k_with "@exec For Name Name cons nil" => ((k_here; k_dflt ((rename Fr _ _ _ _ => lF'); (with_unfolding_all refine' For_invVF lF' ?k1 ?k2 ?_; (case k1 => exact rfl); (case k2 => exact rfl); k_whole))))
  k_with "@inplaceOp Add ref ref" => ((k_here; k_dflt (refine iadd_K (by k_asm) (by k_asm) (by k_upd) (by walk_at "MY mem") (by omega) ?_; k_whole); intro h' F' N'; (try k_sweep)))
  k_with "@MY front" => ((refine List.forall_mem_cons.mpr ⟨list_nt, ?_⟩; walk_at "MY front"))
  k_with "@call ref" => ((k_here; (with_reducible show wpAny _ _ (call (Value.ref 261) _) _ _ _); k_dflt ((refine Ctr.use (by exact ⟨⟨_, by k_asm⟩, by k_asm, by k_asm, by k_asm, by k_asm, by walk_at "MY frames", rfl, rfl, by walk_at "MY handled"⟩) (by (apply Rot.keep; apply Rot.keep; exact Rot.base)) (by assumption) (by walk_at "MY sub") (by walk_at "MY apart") (by walk_at "MY front") (lsingle_ok (by omega) (by walk_at "MY tm") (by assumption)) (by ktr_room) (by walk_at "MY units") ?_; k_whole; intro r1 σ1 S1 T21 h1 tk1 F1 N1 ho1 hl1 hS1 hap1 hP1; (have hg1 := hl1.2.2); (try simp only [List.nil_append] at ho1 hP1); (try dsimp only [List.nil_append, List.cons_append] at N1); obtain ⟨b1, hr1, hL1⟩ := hP1; subst hr1; rcases hL1 with ⟨l1, vs1, e1, k1, hy1, hm1, hm2, hi1⟩ | ⟨u1, e1, hy1, hm1, ht1⟩; (all_goals (first | (have hv1 := says_one_len hy1 hi1) | (try replace ht1 := TmIn.of_subT ht1 (by walk_at "MY subT")))); (try k_sweep); (try dsimp only)))))
  k_with "@isTrue Compare" => ((k_here; focus (k_dflt (first | ((with_reducible show wpAny _ _ (isTrue (PySem.Expr.Compare (PySem.Expr.Subscript (PySem.Expr.Name _ _) (PySem.Expr.Constant (PySem.Const.int 0) _ _) _) [CmpOp.Eq] [PySem.Expr.Constant (PySem.Const.str _) _ _] _) _ _) _ _ _); refine test_tag (by k_asm) (by rfl) (by k_asm) (by assumption) (by walk_at "MY sub") ?_ ?_; k_whole) | ((with_reducible show wpAny _ _ (isTrue (PySem.Expr.Compare (PySem.Expr.Subscript (PySem.Expr.Name _ _) (PySem.Expr.Constant (PySem.Const.int 0) _ _) _) [CmpOp.NotEq] [PySem.Expr.Constant (PySem.Const.str _) _ _] _) _ _) _ _ _); refine test_tagN (by k_asm) (by rfl) (by k_asm) (by assumption) (by walk_at "MY sub") ?_ ?_; k_whole) | ((with_reducible show wpAny _ _ (isTrue (PySem.Expr.Compare (PySem.Expr.Subscript (PySem.Expr.Name _ _) (PySem.Expr.Constant (PySem.Const.int 1) _ _) _) [CmpOp.Eq] [PySem.Expr.Name _ _] _) _ _) _ _ _); refine test_num (by k_asm) (by rfl) (by k_asm) (by assumption) (by walk_at "MY sub") (by k_asm) (by k_asm) (by k_is) ?_ ?_; k_whole) | ((with_reducible show wpAny _ _ (isTrue (PySem.Expr.Compare (PySem.Expr.Subscript (PySem.Expr.Name _ _) (PySem.Expr.Constant (PySem.Const.int 1) _ _) _) [CmpOp.NotEq] [PySem.Expr.Name _ _] _) _ _) _ _ _); refine test_numN (by k_asm) (by rfl) (by k_asm) (by assumption) (by walk_at "MY sub") (by k_asm) (by k_asm) (by k_is) ?_ ?_; k_whole) | ((with_reducible show wpAny _ _ (isTrue (PySem.Expr.Compare (PySem.Expr.Subscript (PySem.Expr.Name _ _) (PySem.Expr.Constant (PySem.Const.int 1) _ _) _) [CmpOp.Lt] [PySem.Expr.Constant (PySem.Const.int _) _ _] _) _ _) _ _ _); refine test_neg (by k_asm) (by rfl) (by k_asm) (by assumption) (by walk_at "MY sub") ?_ ?_; k_whole)); (all_goals (intro htag ttg)); (all_goals (try (first | exact absurd (by assumption) htag | exact absurd htag (by assumption) | exact absurd (htag.symm.trans (by assumption)) (by decide)))); (all_goals (try (have hop9 := TmIn.open (by assumption) (by assumption) (by assumption) htag (by decide); obtain ⟨bq, xq, yq, tq1, tq2, txq, tyq, eq9, mq1, mq2, hxq, hyq, okxq, okyq, hszq⟩ := hop9; (try subst eq9)))); (all_goals ((try (have hbq := ok_a (by assumption) htag)); (try (have hbq := ok_i (by assumption) htag)))); (all_goals (try dsimp only)))))
  k_with "@eval Subscript" => ((k_here; k_dflt (first | ((with_reducible show wpAny _ _ (eval (PySem.Expr.Subscript (PySem.Expr.Name _ _) (PySem.Expr.Constant (PySem.Const.int 0) _ _) _) _) _ _ _); refine sub_tag (by k_asm) (by rfl) (by k_asm) (by assumption) (by walk_at "MY sub") ?_; k_whole; intro tkg ttg) | ((with_reducible show wpAny _ _ (eval (PySem.Expr.Subscript (PySem.Expr.Name _ _) (PySem.Expr.Constant (PySem.Const.int 1) _ _) _) _) _ _ _); refine sub_num (by k_asm) (by rfl) (by k_asm) (by assumption) (by walk_at "MY sub") ?_; k_whole; intro tkg ttg) | ((with_reducible show wpAny _ _ (eval (PySem.Expr.Subscript (PySem.Expr.Name _ _) (PySem.Expr.Constant (PySem.Const.int 2) _ _) _) _) _ _ _); refine sub_two (by k_asm) (by rfl) (by k_asm) (by walk_at "MY mem") ?_; k_whole; intro ttg) | ((with_reducible show wpAny _ _ (eval (PySem.Expr.Subscript (PySem.Expr.Subscript (PySem.Expr.Name _ _) (PySem.Expr.Constant (PySem.Const.int 2) _ _) _) (PySem.Expr.Constant (PySem.Const.int 0) _ _) _) _) _ _ _); refine sub_kid (by k_asm) (by rfl) (by k_asm) (by walk_at "MY mem") (by walk_at "MY mem") ?_; k_whole; intro ttg) | ((with_reducible show wpAny _ _ (eval (PySem.Expr.Subscript (PySem.Expr.Subscript (PySem.Expr.Name _ _) (PySem.Expr.Constant (PySem.Const.int 2) _ _) _) (PySem.Expr.Constant (PySem.Const.int 1) _ _) _) _) _ _ _); refine sub_kid1 (by k_asm) (by rfl) (by k_asm) (by walk_at "MY mem") (by walk_at "MY mem") ?_; k_whole; intro ttg)); (try dsimp only)))
  k_with "@compareOp In str ref" => ((k_here; k_dflt (refine in_two (by k_asm) (by walk_at "MY mem") ?_ ?_; k_whole); (rotate_left; (intro htx hty; (try dsimp only)); rotate_right); intro htag; (try dsimp only)))
  k_with "@isTrue BoolOp" => ((k_here; focus (first | ((k_dflt (first | ((with_reducible show wpAny _ _ (isTrue (PySem.Expr.BoolOp BoolOp.And [PySem.Expr.Compare (PySem.Expr.Subscript _ _ _) [CmpOp.Eq] _ _, PySem.Expr.Compare (PySem.Expr.Subscript _ _ _) [CmpOp.Eq] _ _] _) _ _) _ _ _); refine test_both (by k_asm) (by rfl) (by k_asm) (by assumption) (by walk_at "MY sub") (by k_asm) (by k_asm) (by k_is) ?_ ?_; k_whole) | ((with_reducible show wpAny _ _ (isTrue (PySem.Expr.BoolOp BoolOp.Or [PySem.Expr.Compare (PySem.Expr.Subscript _ _ _) [CmpOp.NotEq] _ _, PySem.Expr.Compare (PySem.Expr.Subscript _ _ _) [CmpOp.NotEq] _ _] _) _ _) _ _ _); refine test_either (by k_asm) (by rfl) (by k_asm) (by assumption) (by walk_at "MY sub") (by k_asm) (by k_asm) (by k_is) ?_ ?_; k_whole))); (all_goals (intro htag ttg)); (all_goals (try (first | exact absurd htag.1 (by assumption) | exact absurd (htag.1.symm.trans (by assumption)) (by decide)))); (all_goals (try (have hop9 := TmIn.open (by assumption) (by assumption) htag.1 htag.2 (by decide); obtain ⟨bq, xq, yq, tq1, tq2, txq, tyq, eq9, mq1, mq2, hxq, hyq, okxq, okyq, hszq⟩ := hop9; (try subst eq9); (try (have hrrq := rows_row (by assumption)))))); (all_goals (try dsimp only))) | ((k_dflt (first | ((with_reducible show wpAny _ _ (isTrue (PySem.Expr.BoolOp BoolOp.And [PySem.Expr.Compare (PySem.Expr.Name _ _) [CmpOp.NotEq] _ _, PySem.Expr.BoolOp _ _ _] _) _ _) _ _ _); refine test_leaf (by k_asm) (by rfl) (by k_asm) (by assumption) (by walk_at "MY sub") (by k_asm) (by k_asm) (by k_is) (by walk_at "MY units") (by k_is) ?_ ?_; k_whole) | ((with_reducible show wpAny _ _ (isTrue (PySem.Expr.BoolOp BoolOp.Or [PySem.Expr.Compare (PySem.Expr.Name _ _) [CmpOp.Eq] _ _, PySem.Expr.BoolOp _ _ _] _) _ _) _ _ _); refine test_list (by k_asm) (by rfl) (by k_asm) (by assumption) (by walk_at "MY sub") (by k_asm) (by k_asm) (by k_is) (by walk_at "MY units") (by k_is) ?_ ?_; k_whole))); (all_goals (intro htag hq tq FQ NQ)); (all_goals (try dsimp only))))))
  k_with "@isTrue Compare" => ((k_here; focus ((with_reducible show wpAny _ _ (isTrue (PySem.Expr.Compare (PySem.Expr.Name _ _) [CmpOp.NotEq] [PySem.Expr.Tuple _ _ _] _) _ _) _ _ _); k_dflt (refine test_nil (by k_asm) (by rfl) (by k_asm) (by assumption) (by walk_at "MY sub") (by k_asm) (by k_asm) (by k_is) (by walk_at "MY units") ?_ ?_; k_whole); (all_goals (intro htag hq tq FQ NQ)); (all_goals (try (exact absurd ((nil_tag htag).symm.trans (by assumption)) (by decide)))); (all_goals (try dsimp only)))))
  k_with "@spliced" => ((k_here; k_dflt (first | ((with_reducible show wpAny _ _ (spliced (backTo _ (starEach (PySem.Expr.Name _ _ :: _ :: _) _))) _ _ _); first | (refine arg_name (by k_asm) (by rfl) ?_; k_whole) | (refine arg_glob (by k_asm) (by k_asm) (by k_asm) (by k_is) ?_; k_whole)) | ((with_reducible show wpAny _ _ (spliced (backTo _ (starEach (PySem.Expr.Name _ _ :: []) _))) _ _ _); first | (refine arz_name (by k_asm) (by rfl) ?_; k_whole) | (refine arz_glob (by k_asm) (by k_asm) (by k_asm) (by k_is) ?_; k_whole)) | ((with_reducible show wpAny _ _ (spliced (backTo _ (starEach (PySem.Expr.Constant (PySem.Const.str _) _ _ :: _ :: _) _))) _ _ _); refine arg_str ?_; k_whole; intro tka tta) | ((with_reducible show wpAny _ _ (spliced (backTo _ (starEach (PySem.Expr.Constant (PySem.Const.str _) _ _ :: []) _))) _ _ _); refine arz_str ?_; k_whole; intro tka tta) | ((with_reducible show wpAny _ _ (spliced (backTo _ (starEach (PySem.Expr.Constant (PySem.Const.int _) _ _ :: _ :: _) _))) _ _ _); refine arg_int ?_; k_whole; intro tka tta) | ((with_reducible show wpAny _ _ (spliced (backTo _ (starEach (PySem.Expr.Constant (PySem.Const.int _) _ _ :: []) _))) _ _ _); refine arz_int ?_; k_whole; intro tka tta)); (try dsimp only)))
  k_with "@eval Call" => ((k_here; (with_reducible show wpAny _ _ (eval (PySem.Expr.Call (PySem.Expr.Name _ _) (_ :: _) [] _) _) _ _ _); k_dflt (refine call_top (by k_asm) (by k_asm) (by k_asm) (by k_is) (by k_is) ?_; k_whole)))
  trivial


theorem Ctr.less {w : World} {mean : ExcName → Option Value} {mg mb : Str → Option Value} {c : Cx} {f : Addr} {D U D' U' : Nat} {vs : List Value} {σ : Sym} {T : List (Addr × Obj)} {Post : Sym → List (Addr × Obj) → List (Addr × Obj) → Value → Prop}
    (h : Ctr w mean mg mb c f D U vs σ T Post) (hd : D ≤ D') (hu : U ≤ U') : Ctr w mean mg mb c f D' U' vs σ T Post :=
  fun S A env outer base h₀ L m s Q E hS hT at' hA hU hret => h S A env outer base h₀ L m s Q E hS hT at' (by omega) (by omega) hret
theorem Says.congr {α : Type} {σ : Sym} {f g : Sym → α} {r : α} (h : Says σ f r) (k : ∀ τ, g τ = f τ) : Says σ g r := fun τ z => (k τ).trans (h τ z)
theorem lread_step {w : World} {mean : ExcName → Option Value} {mg mb : Str → Option Value} {k : Nat} (H : ∀ j, j + 1 = k → LR w mean mg mb j) : LR w mean mg mb k := by
  intro c σ T a t hr ht hok hsz hb
  have Hr : ∀ {c : Cx} {σ : Sym} {T : List (Addr × Obj)} {a : Addr} {t : Tm}, TmIn T a t → t.rows + 1 ≤ k → t.Ok → t.size ≤ 200 → 16 ≤ σ.G.length →
      Ctr w mean mg mb c 268 (80 + 5 * (k - 1)) (800 + 20 * (k - 1)) [.ref c.sy, .ref a] σ T (fun σ' T2 T' r => ∃ b, r = .ref b ∧ LRes σ' T2 T' b (fun τ => read τ t)) := by
    intro c σ T a t ht hr hok hsz hb
    exact H (k - 1) (by omega) (by omega) ht hok hsz hb
  intro S A env outer base h₀ L m s Q E hS hT at' hA hU hret
  obtain ⟨⟨A₀, B⟩, F, X, N, T', hfr, hfl, hki, hha⟩ := at'
  obtain ⟨⟨o1, o2, o3, o4, o5, o6, o7⟩, hI, hlen⟩ := hS.cx
  refine wpAny_call ?_
  k_dflt (refine' code_def (binds := [(Str.ofString "names", .ref c.sy), (Str.ofString "tree", .ref a)]) ?z6k1 ?z6k2 ?z6k3 ?z6k4 ?z6k5 ?z6kA ?z6kF ?z6kK ?z6k6 ?z6k7 ?z6k8 ?z6k9 ?z6kB ?_ ?z6c2 ?z6c3 ?z6c4 ?z6c5; (case z6kA => assumption); (case z6kF => assumption); (case z6kK => assumption); (case z6k1 => k_asm); (case z6k2 => k_asm); (case z6k3 => k_asm); (case z6k4 => k_asm); (case z6k5 => k_asm); (case z6k6 => k_is); (case z6k7 => k_is); (case z6k8 => ktr_room); (case z6k9 => exact BindsTo.of_eq rfl); (case z6c5 => decide); (case z6kB => exact locs rfl); (case z6c2 => exact rfl); (case z6c3 => exact rfl); (case z6c4 => exact rfl); k_whole; intro g' L' h' FG' F' N' B' X' T''; (try dsimp only); (try k_fold))
  k_steps
  · refine hret _ _ _ _ _ _ _ (by assumption) (News.led (by assumption) (by walk_at "MY rot")) (StOk.mono (by assumption) (by walk_at "MY sub")) (by walk_at "MY suf") (by walk_at "MY le") (by walk_at "MY over") ⟨_, rfl, .inl ⟨_, _, _, _, says_row (by assumption) (by assumption) (by assumption), by walk_at "MY mem", by walk_at "MY mem", ints_app (by assumption) (by assumption)⟩⟩
  · refine hret _ _ _ _ _ _ _ (by assumption) (News.led (by assumption) (by walk_at "MY rot")) (StOk.mono (by assumption) (by walk_at "MY sub")) (by walk_at "MY suf") (by walk_at "MY le") (by walk_at "MY over") ⟨_, rfl, .inr ⟨_, _, says_row2 (by assumption) (by assumption) (by assumption), by walk_at "MY mem", by assumption⟩⟩
  · refine hret _ _ _ _ _ _ _ (by assumption) (News.led (by assumption) (by walk_at "MY rot")) (StOk.mono (by assumption) (by walk_at "MY sub")) (by walk_at "MY suf") (by walk_at "MY le") (by walk_at "MY over") ⟨_, rfl, .inr ⟨_, _, says_row1 (by assumption), by walk_at "MY mem", by assumption⟩⟩
  · refine hret _ _ _ _ _ _ _ (by assumption) (News.led (by assumption) (by walk_at "MY rot")) (StOk.mono (by assumption) (by walk_at "MY sub")) (by walk_at "MY suf") (by walk_at "MY le") (by walk_at "MY over") ⟨_, rfl, LRes.of (fun τ => read_leaf (leaf_of (by assumption) (by assumption))) (LRes.mono (by assumption) (by walk_at "MY sub"))⟩
  · (with_reducible rename Mine.ItemsR _ _ _ => hir); (with_reducible rename _ = _ ++ Mine.Tm.items _ => hit); (with_reducible rename _ = Mine.Tm.tail _ => htl); (refine WhileStep.intro (by assumption) (by assumption) ?_ (JC.intro ?_ (by rw [Array.toList_push]; exact ItemsR.snoc hir (by assumption)) (hit.trans (by rw [items_dot, List.append_assoc]; rfl)) (htl.trans (tail_dot _ _)) ?_ ?_ ?_ map_same)); all_goals first | assumption | (simp only [Tm.size, List.length_append, List.length_cons, List.length_nil] at *; omega)
  · (with_reducible rename Mine.ItemsR _ _ _ => hir); (with_reducible rename _ = _ ++ Mine.Tm.items _ => hit); (with_reducible rename _ = Mine.Tm.tail _ => htl); (have hts := tail_self (by assumption)); refine hret _ _ _ _ _ _ _ (by assumption) (News.led (by assumption) (by walk_at "MY rot")) (StOk.mono (by assumption) (by walk_at "MY sub")) (by walk_at "MY suf") (by walk_at "MY le") (by walk_at "MY over") ⟨_, rfl, .inr ⟨_, _, says_err (fun τ => (read_list hok (by assumption)).trans (rl_vT (htl.trans hts.1) (by assumption))) (says_inst (by assumption)), by walk_at "MY mem", by assumption⟩⟩
  · (with_reducible rename Mine.ItemsR _ _ _ => hir); (with_reducible rename _ = _ ++ Mine.Tm.items _ => hit); (with_reducible rename _ = Mine.Tm.tail _ => htl); (have hts := tail_self (by assumption)); refine hret _ _ _ _ _ _ _ (by assumption) (News.led (by assumption) (by walk_at "MY rot")) (StOk.mono (by assumption) (by walk_at "MY sub")) (by walk_at "MY suf") (by walk_at "MY le") (by walk_at "MY over") ⟨_, rfl, .inr ⟨_, _, says_err (fun τ => (read_list hok (by assumption)).trans (rl_badT (htl.trans hts.1) (by assumption) (by assumption))) (says_kind (by assumption) (by assumption) (by assumption)), by walk_at "MY mem", by assumption⟩⟩
  · (with_reducible rename Mine.ItemsR _ _ _ => hir); (with_reducible rename _ = _ ++ Mine.Tm.items _ => hit); (with_reducible rename _ = Mine.Tm.tail _ => htl)
    (have hts := tail_self (by assumption))
    (with_reducible rename Mine.Tm.isNil _ = true => hnl)
    have hit' : t.items = _ := hit.trans (by rw [hts.2, List.append_nil])
    have htl' : t.tail = .a 0 := (htl.trans hts.1).trans (nil_eq hnl)
    have hil : t.items.length ≤ 200 := Nat.le_trans (items_len _) (by omega)
    refine parts_loop (by walk_at "MY handled") (by assumption) (News.turn (by assumption) (by (apply Rot.keep; walk_at "MY rot"))) (by walk_at "MY mem") (hir.mono (SubT.of (by walk_at "MY sub"))) (StOk.mono (by assumption) (by walk_at "MY sub")) (by walk_at "MY apart") (ne_of_raw (by assumption) (by walk_at "MY sub")) ?_ ?_
    · intro i hi x5 I h5 tk5 o5 σ5 S5 T5 vs5 k5 l5 pv5 ov5 hoc hS5 hap5 hf5 hl5 hov5 ht5 hy5 hi5 hv5 hoff hIf hId F5 N5
      have hg5 := hl5.2.2
      have hoki : (_ : Tm).Ok := items_ok hok _ (by rw [hit']; exact List.getElem_mem hi)
      rw [hit'] at hil
      dsimp only
      k_steps
      · refine Turn.intro (by assumption) (News.turn2 (by assumption) (by (apply Rot.keep; apply Rot.keep; exact Rot.base))) (List.forall_mem_cons.mpr ⟨Nat.ne_of_lt hId, led_off hoff (by walk_at "MY off")⟩)
          (JP.intro (StOk.mono (by assumption) (by walk_at "MY sub")) (by walk_at "MY suf") (by walk_at "MY apart") (off_join (off_app (by assumption) (by walk_at "MY mem")) hf5) (by walk_at "MY le") (by walk_at "MY over") (says_step hi hy5 (by assumption) (by assumption)) (ints_app hi5 (by assumption)) (by simp only [List.length_append]; omega) (map_two' ?_))
        intro z h1 h2
        by_cases h3 : z = Str.ofString "found"
        · subst h3; rfl
        · simp only [if_neg h1, if_neg h2, if_neg h3]
      · dsimp only [Turn]
        k_steps
        refine hret _ _ _ _ _ _ _ (by assumption) (News.led (by assumption) (by walk_at "MY rot")) (StOk.mono (by assumption) (by walk_at "MY sub")) (by walk_at "MY suf") (by walk_at "MY le") (by walk_at "MY over") ⟨_, rfl, .inr ⟨_, _, (says_listE htl' hit' (says_stop hi hy5 (by assumption) (by assumption))).congr fun τ => read_list hok (by assumption), by walk_at "MY mem", TmIn.mono (by assumption) (by walk_at "MY sub")⟩⟩
    · intro h5 tk5 σ5 S5 T5 vs5 k5 l5 pv5 ov5 hS5 hap5 hl5 hov5 hy5 hi5 F5 N5
      (try dsimp only)
      k_steps
      refine hret _ _ _ _ _ _ _ (by assumption) (News.led (by assumption) (by walk_at "MY rot")) (StOk.mono (by assumption) (by walk_at "MY sub")) (by walk_at "MY suf") (by walk_at "MY le") (by walk_at "MY over") ⟨_, rfl, .inl ⟨_, _, _, _, (says_list htl' hit' hy5).congr fun τ => read_list hok (by assumption), by walk_at "MY mem", by walk_at "MY mem", hi5⟩⟩
theorem lr_all {w : World} {mean : ExcName → Option Value} {mg mb : Str → Option Value} : ∀ k, LR w mean mg mb k := by
  intro k
  induction k with
  | zero => exact lread_step fun j h => absurd h (Nat.succ_ne_zero j)
  | succ k ih => exact lread_step fun j h => by cases h; exact ih
end Mine
end

section
open Mine PySem PySem.W PyProof.Rows PySem.Calls PyProof.V PySem.Spec
local macro_rules | `(tactic| k_all) => `(tactic| first | assumption | exact ne_of_raw (by assumption) (by walk_at "MY sub") | exact led_ne (StOk.cx (by assumption)) (by first | with_reducible assumption | exact raw_lt (by assumption) (by walk_at "MY mem")) (by k_all) | exact off_join (off_app (by assumption) (by walk_at "MY mem")) (by k_all) | exact ne_of_apart (by assumption) (by omega))
local macro_rules | `(tactic| k_ne) => `(tactic| first | exact Nat.ne_of_gt (raw_lt (by assumption) (by walk_at "MY mem")) | exact Nat.ne_of_lt (raw_lt (by assumption) (by walk_at "MY mem")))

section
set_option maxRecDepth 100000
set_option maxHeartbeats 1000000
set_option Elab.async false
namespace Mine
open PySem PySem.W PyProof.Rows PySem.Calls PySem.SeqAt
/-! ## how large an error's term is -/
theorem single_size {τ : Sym} {t u : Tm} (h : single τ t = .error u) : u.size ≤ t.size + 4 := by
  have hi : (instE τ).size = 3 := rfl
  have hk : ∀ e k x, (kindE τ e k x).size = x.size + 4 := fun e k x => by simp only [kindE, ball, Tm.size]; omega
  cases t with
  | v n => cases h; rw [hi]; omega
  | a n => cases h; rw [hk]; exact Nat.le_refl _
  | i n => cases h; rw [hk]; exact Nat.le_refl _
  | s1 f x => cases h; rw [hk]; exact Nat.le_refl _
  | s2 f x y =>
    unfold single at h
    dsimp only at h
    simp only [Tm.size]
    split at h
    · split at h
      · cases h; rw [hi]; omega
      · split at h
        · split at h
          · split at h
            · cases h; rw [hk]; simp only [Tm.size]; omega
            · cases h
          · cases h; rw [hk]; omega
        · cases h; rw [hk]; omega
    · cases h; rw [hk]; simp only [Tm.size]; omega
theorem singles_size {τ : Sym} {u : Tm} : ∀ {ts : List Tm} {n : Nat}, (∀ t ∈ ts, t.size ≤ n) → singles τ ts = .error u → u.size ≤ n + 4
  | [], _, _, h => by cases h
  | t :: r, n, k, h => by
    unfold singles at h
    split at h
    · rename_i e; cases h
      have := single_size e
      have := k t (.head _)
      omega
    · split at h
      · rename_i e; cases h
        exact singles_size (fun x hx => k x (.tail _ hx)) e
      · cases h
theorem items_size : ∀ {t : Tm} (u : Tm), u ∈ t.items → u.size ≤ t.size
  | .s2 f x y, u, hu => by
    unfold Tm.items at hu
    split at hu
    · rcases List.mem_cons.mp hu with rfl | hu
      · simp only [Tm.size]; omega
      · have := items_size u hu; simp only [Tm.size]; omega
    · cases hu
  | .v _, _, hu => by cases hu
  | .a _, _, hu => by cases hu
  | .i _, _, hu => by cases hu
  | .s1 _ _, _, hu => by cases hu
theorem readList_size {τ : Sym} {t u : Tm} (h : readList τ t = .error u) : u.size ≤ t.size + 4 := by
  have hi : (instE τ).size = 3 := rfl
  have hk : ∀ e k x, (kindE τ e k x).size = x.size + 4 := fun e k x => by simp only [kindE, ball, Tm.size]; omega
  unfold readList at h
  split at h
  · cases h; rw [hi]; omega
  · split at h
    · exact singles_size (fun x hx => items_size x hx) h
    · cases h; rw [hk]; exact Nat.le_refl _
  · cases h; rw [hk]; exact Nat.le_refl _
theorem one_size {τ : Sym} {t u : Tm} (h : one τ t = .error u) : u.size ≤ t.size + 4 := single_size (one_err' h)
theorem join_err {a b : Except Tm (List Int)} {u : Tm} (h : join a b = .error u) : a = .error u ∨ b = .error u := by
  unfold join at h
  split at h
  · cases h; exact .inl rfl
  · split at h
    · cases h; exact .inr rfl
    · cases h
theorem read_size {τ : Sym} {u : Tm} : ∀ {t : Tm}, read τ t = .error u → u.size ≤ t.size + 4
  | .s2 f x y, h => by
    unfold read at h
    split at h
    · rcases join_err h with h | h
      · have := read_size h; simp only [Tm.size]; omega
      · have := read_size h; simp only [Tm.size]; omega
    · split at h
      · exact readList_size h
      · exact one_size h
  | .a n, h => by
    unfold read at h
    split at h
    · exact readList_size h
    · exact one_size h
  | .v _, h => one_size h
  | .i _, h => one_size h
  | .s1 _ _, h => one_size h
/-! ## the end: two answers compared -/
section
variable {w : World} {A : Around} {s : Shared} {h₀ : Heap} {L a b x y : Addr} {news : List (Addr × Obj)} {E Q : Value → Shared → Prop}
theorem told_eq {b1 : Bool} (N : News h₀ L s.heap news) (ha : (a, tupO #[.bool b1, .ref x]) ∈ news) (hb : (b, tupO #[.bool b1, .ref y]) ∈ news) (hu : A.units < cLine) (e : EqAt A.in1 s (.ref x) (.ref y) true) (h : Q (.bool true) s) :
    wpAny (model PySem.Challenge.rw_no0155_01.row.prog w) A (compareOp .Eq (.ref a) (.ref b)) Q E s := by
  have := RcAt.tuples (A := A) (e := fun _ => true) (tup_of N ha) (tup_of N hb) hu (fun j h1 h2 => by
    have : j = 0 ∨ j = 1 := by simp at h1; omega
    rcases this with rfl | rfl
    · exact EqAt.same _
    · exact e)
  rw [show (#[Value.bool b1, .ref x] : Array Value).size = (#[Value.bool b1, .ref y] : Array Value).size from rfl, all_tt] at this
  exact this _ w E Q h
theorem lists_eq {vs ws : List Value} {l : List Int} {n1 n2 : Nat} (N : News h₀ L s.heap news) (hx : (x, listOf vs.toArray n1) ∈ news) (hy : (y, listOf ws.toArray n2) ∈ news) (h1 : IntsAre vs l) (h2 : IntsAre ws l) (hu : A.units < cLine) : EqAt A s (.ref x) (.ref y) true := by
  by_cases hxy : x = y
  · subst hxy; exact EqAt.same _
  have hl : vs.toArray.size = ws.toArray.size := by rw [List.size_toArray, List.size_toArray, h1.length, h2.length]
  have := RcAt.lists (A := A) (e := fun _ => true) (News.isList N hx) (News.isList N hy) hl hu (fun j k1 k2 => by
    obtain ⟨n, t, e1, e2⟩ := h1.at j vs.toArray[j] (by simp at k1 ⊢)
    obtain ⟨n', t', e3, e4⟩ := h2.at j ws.toArray[j] (by simp at k2 ⊢)
    rw [e2] at e4
    cases e4
    rw [e1, e3]
    have := EqAt.int_int (A := A.in1) (s := s) n t n t'
    rwa [beq_self_eq_true] at this)
  rw [List.all_eq_true.mpr (fun _ _ => rfl)] at this
  exact EqAt.of_refs hxy this
end
end Mine
end

section
set_option maxRecDepth 100000
set_option maxHeartbeats 4000000
set_option Elab.async false
namespace Mine
open PySem PySem.W PyProof.Rows PySem.Calls PyProof.V PySem.Spec
def ATO : List Str := ["[]", ".", "{}", "-", "+", "*", "/", ",", "|", ";", "->", "\\+", ":-", "?-", "-->", "!", "true", "fail", "false", "call", "=", "^", "error", "", "end_of_file", "system", "$VAR", "catch", "throw"]
def FUN : List (Str × Int) := [(".", 2), (",", 2), (";", 2), ("->", 2), ("\\+", 1), (":-", 2), (":-", 1), ("?-", 1), ("-->", 2), ("{}", 1), ("=", 2), ("^", 2), ("-", 1), ("-", 2), ("+", 2), ("/", 2), ("error", 2), ("$VAR", 1), ("catch", 3), ("throw", 1), ("!", 0), ("true", 0), ("fail", 0), ("false", 0), ("call", 1), ("call", 2), ("call", 3), ("call", 4), ("call", 5), ("call", 6), ("call", 7), ("call", 8)]
def fnNext (σ : Sym) (p : Str × Int) : Sym := (σ.inA p.1).inG ((σ.inA p.1).atom p.1) p.2
def atS (i : Nat) : Sym := (ATO.take i).foldl Sym.inA ⟨[], []⟩
def fnS (i : Nat) : Sym := (FUN.take i).foldl fnNext (atS 29)
theorem atS_succ {i : Nat} (h : i < ATO.length) : atS (i + 1) = (atS i).inA ATO[i] := by
  unfold atS
  rw [List.take_succ_eq_append_getElem h, List.foldl_append]; rfl
theorem fnS_succ {i : Nat} (h : i < FUN.length) : fnS (i + 1) = fnNext (fnS i) FUN[i] := by
  unfold fnS
  rw [List.take_succ_eq_append_getElem h, List.foldl_append]; rfl
theorem fn_len : ∀ i, i < 33 → (fnS i).G.length = i := by decide +kernel
theorem fn_rows : ∀ p ∈ FUN, p.1 ∈ uni ∧ 0 ≤ p.2 ∧ p.2 < 16 := by decide +kernel
theorem fn_two : ∀ i (h : i < FUN.length), FUN[i].2 = 2 ∨ (i ≠ 0 ∧ i ≠ 1 ∧ i ≠ 15) := by decide +kernel
theorem at_uni : ∀ x ∈ ATO, x ∈ uni := by decide +kernel
inductive StrR : List Value → List Str → Prop
  | nil : StrR [] []
  | cons {x t vs xs} : StrR vs xs → StrR (.str x t :: vs) (x :: xs)
theorem StrR.at {vs : List Value} {xs : List Str} (h : StrR vs xs) : ∀ {i : Nat} {v : Value} (hi : i < xs.length), vs[i]? = some v → ∃ t, v = .str xs[i] t := by
  induction h with
  | nil => intro i v hi; exact absurd hi (Nat.not_lt_zero _)
  | cons _ ih =>
    intro i v hi e
    cases i with
    | zero => exact ⟨_, (Option.some.inj e).symm⟩
    | succ i => exact ih (Nat.lt_of_succ_lt_succ hi) e
theorem StrR.len {vs : List Value} {xs : List Str} (h : StrR vs xs) : vs.length = xs.length := by
  induction h with
  | nil => rfl
  | cons _ ih => simp [ih]
inductive RowR (T : List (Addr × Obj)) : List Value → List (Str × Int) → Prop
  | nil : RowR T [] []
  | cons {a x k t u vs xs} : (a, tupO #[.str x t, .int k u]) ∈ T → RowR T vs xs → RowR T (.ref a :: vs) ((x, k) :: xs)
theorem RowR.at {T : List (Addr × Obj)} {vs : List Value} {xs : List (Str × Int)} (h : RowR T vs xs) : ∀ {i : Nat} {v : Value} (hi : i < xs.length), vs[i]? = some v → ∃ a t u, v = .ref a ∧ (a, tupO #[.str xs[i].1 t, .int xs[i].2 u]) ∈ T := by
  induction h with
  | nil => intro i v hi; exact absurd hi (Nat.not_lt_zero _)
  | cons m _ ih =>
    intro i v hi e
    cases i with
    | zero => exact ⟨_, _, _, (Option.some.inj e).symm, m⟩
    | succ i => exact ih (Nat.lt_of_succ_lt_succ hi) e
theorem RowR.len {T : List (Addr × Obj)} {vs : List Value} {xs : List (Str × Int)} (h : RowR T vs xs) : vs.length = xs.length := by
  induction h with
  | nil => rfl
  | cons _ _ ih => simp [ih]
theorem RowR.mono {T T' : List (Addr × Obj)} {vs : List Value} {xs : List (Str × Int)} (h : RowR T vs xs) (k : ∀ p ∈ T, p ∈ T') : RowR T' vs xs := by
  induction h with
  | nil => exact .nil
  | cons m _ ih => exact .cons (k _ m) ih
theorem good0 : (⟨[], []⟩ : Sym).Good := ⟨fun _ h => (nomatch h), List.nodup_nil, fun _ h => (nomatch h), fun _ h => (nomatch h), List.nodup_nil, fun _ h => (nomatch h)⟩
theorem led_mem' {w : World} {c : Cx} {S : St} {T : List (Addr × Obj)} {p : Addr × Obj} (h : p ∈ T) : p ∈ led w c S T := by simp only [led, List.mem_cons, h, or_true]
def JA (w : World) (c : Cx) (T₀ : List (Addr × Obj)) (m₀ : Str → Option Value) (i : Nat) (m : Str → Option Value) (news : List (Addr × Obj)) : Prop :=
  ∃ σ S pv, news = led w c S T₀ ∧ StOk w c σ S T₀ ∧ σ = atS i ∧ m = fun z => if z = Str.ofString "text" then pv else m₀ z
theorem JA.intro {w : World} {c : Cx} {T₀ : List (Addr × Obj)} {m₀ m : Str → Option Value} {i : Nat} {σ : Sym} {S : St} {pv : Option Value} (hS : StOk w c σ S T₀) (e : σ = atS i) (hm : m = fun z => if z = Str.ofString "text" then pv else m₀ z) : JA w c T₀ m₀ i m (led w c S T₀) := ⟨σ, S, pv, rfl, hS, e, hm⟩
theorem atoms_loop {w : World} {A : Around} {s : Shared} {env : Env} {h₀ : Heap} {body : List Stmt} {Q : Flow → Shared → Prop} {E : Value → Shared → Prop} {m : Str → Option Value} {c : Cx} {S : St} {T₀ : List (Addr × Obj)} {p : Addr} {its : Array Value} {ep : Nat}
    (hh : A.handled = none) (F : Fr h₀ env.locals s.heap m) (N : News h₀ env.locals s.heap (led w c S T₀)) (hp : (p, ({ cls := .type "tuple", data := .seq its ep } : Obj)) ∈ T₀) (hI : StrR its.toList ATO) (hS : StOk w c ⟨[], []⟩ S T₀)
    (step : ∀ i (hi : i < ATO.length) x t I h tk o σ S' pv, x = ATO[i] → x ∈ uni → σ = atS i → o.cls ≠ .type "tuple" → StOk w c σ S' T₀ → (∀ q ∈ led w c S' T₀, q.1 ≠ I) → @LT.lt Nat _ c.ff I →
      Fr h₀ env.locals h (fun y => if y = Str.ofString "text" then some (.str x t) else if y = Str.ofString "text" then pv else m y) → News h₀ env.locals h ((I, o) :: led w c S' T₀) →
      wpAny (model PySem.Challenge.rw_no0155_01.row.prog w) A (execs body env) (Turn h₀ env.locals I o (JA w c T₀ m (i + 1)) { s with heap := h, toks := tk } (fun v s' => Q (.ret v) s') fun s' => Q .next s') E { s with heap := h, toks := tk })
    (done : ∀ h' tk S' pv, StOk w c (atS 29) S' T₀ → Fr h₀ env.locals h' (fun y => if y = Str.ofString "text" then pv else m y) → News h₀ env.locals h' (led w c S' T₀) → Q .next { s with heap := h', toks := tk }) :
    wpAny (model PySem.Challenge.rw_no0155_01.row.prog w) A (pyIter (.ref p)) (fun it s₂ => LoopAtV PySem.Challenge.rw_no0155_01.row.prog w A h₀ env (Str.ofString "text") body Q E it s₂) E s := by
  have hlen : its.size = 29 := by have := hI.len; rw [Array.length_toList] at this; exact this
  refine tuple_loop hh (a := p) (ep := ep) (led_mem' hp) F N (JA w c T₀ m) ?_ (JA.intro (pv := m (Str.ofString "text")) hS rfl (by funext z; by_cases q : z = Str.ofString "text" <;> simp [q])) ?_ ?_
  · rintro i m' news ⟨σ, S', pv, rfl, _⟩
    exact led_mem' hp
  · intro i v I m₁ news₁ s₁ o hs hoc hi hv hJ hoff hlt F₁ N₁
    obtain ⟨σ, S', pv, rfl, hS', hσ, rfl⟩ := hJ
    obtain ⟨h, tk, rfl⟩ := hs
    have hi' : i < ATO.length := by rw [hlen] at hi; exact hi
    obtain ⟨t, rfl⟩ := hI.at hi' (by rw [Array.getElem?_toList]; exact hv)
    exact step i hi' _ t I h tk o σ S' pv rfl (at_uni _ (List.getElem_mem hi')) hσ hoc hS' hoff (hlt (c.ff, S.gv) (by simp [led])) F₁ N₁
  · intro h' tk m' news' F' N' hJ
    obtain ⟨σ, S', pv, rfl, hS', hσ, rfl⟩ := hJ
    rw [hlen] at hσ
    subst hσ
    exact done h' tk S' pv hS' F' N'
def JF2 (w : World) (c : Cx) (T₀ : List (Addr × Obj)) (m₀ : Str → Option Value) (i : Nat) (m : Str → Option Value) (news : List (Addr × Obj)) : Prop :=
  ∃ σ S T2 T' pv, news = led w c S T' ∧ StOk w c σ S T' ∧ T' = T2 ++ T₀ ∧ Apart c T' ∧ σ = fnS i ∧ m = fun z => if z = Str.ofString "row" then pv else m₀ z
theorem JF2.intro {w : World} {c : Cx} {T₀ T' T2 : List (Addr × Obj)} {m₀ m : Str → Option Value} {i : Nat} {σ : Sym} {S : St} {pv : Option Value} (hS : StOk w c σ S T') (e1 : T' = T2 ++ T₀) (hap : Apart c T') (e : σ = fnS i) (hm : m = fun z => if z = Str.ofString "row" then pv else m₀ z) : JF2 w c T₀ m₀ i m (led w c S T') := ⟨σ, S, T2, T', pv, rfl, hS, e1, hap, e, hm⟩
theorem rows_loop {w : World} {A : Around} {s : Shared} {env : Env} {h₀ : Heap} {body : List Stmt} {Q : Flow → Shared → Prop} {E : Value → Shared → Prop} {m : Str → Option Value} {c : Cx} {S : St} {T₀ : List (Addr × Obj)} {p : Addr} {its : Array Value} {ep : Nat}
    (hh : A.handled = none) (F : Fr h₀ env.locals s.heap m) (N : News h₀ env.locals s.heap (led w c S T₀)) (hp : (p, ({ cls := .type "tuple", data := .seq its ep } : Obj)) ∈ T₀) (hI : RowR T₀ its.toList FUN) (hS : StOk w c (atS 29) S T₀) (hap : Apart c T₀)
    (step : ∀ i (hi : i < FUN.length) x k tx tk' r I h tk o σ S' T2 pv, (x, k) = FUN[i] → x ∈ uni → 0 ≤ k → k < 16 → (k = 2 ∨ (σ.G.length ≠ 0 ∧ σ.G.length ≠ 1 ∧ σ.G.length ≠ 15)) → σ = fnS i → (r, tupO #[.str x tx, .int k tk']) ∈ T2 ++ T₀ → o.cls ≠ .type "tuple" → StOk w c σ S' (T2 ++ T₀) → Apart c (T2 ++ T₀) → (∀ q ∈ led w c S' (T2 ++ T₀), q.1 ≠ I) → @LT.lt Nat _ c.ff I →
      Fr h₀ env.locals h (fun y => if y = Str.ofString "row" then some (.ref r) else if y = Str.ofString "row" then pv else m y) → News h₀ env.locals h ((I, o) :: led w c S' (T2 ++ T₀)) →
      wpAny (model PySem.Challenge.rw_no0155_01.row.prog w) A (execs body env) (Turn h₀ env.locals I o (JF2 w c T₀ m (i + 1)) { s with heap := h, toks := tk } (fun v s' => Q (.ret v) s') fun s' => Q .next s') E { s with heap := h, toks := tk })
    (done : ∀ h' tk σ S' T2 pv, 16 ≤ σ.G.length → StOk w c σ S' (T2 ++ T₀) → Apart c (T2 ++ T₀) → Fr h₀ env.locals h' (fun y => if y = Str.ofString "row" then pv else m y) → News h₀ env.locals h' (led w c S' (T2 ++ T₀)) → Q .next { s with heap := h', toks := tk }) :
    wpAny (model PySem.Challenge.rw_no0155_01.row.prog w) A (pyIter (.ref p)) (fun it s₂ => LoopAtV PySem.Challenge.rw_no0155_01.row.prog w A h₀ env (Str.ofString "row") body Q E it s₂) E s := by
  have hlen : its.size = 32 := by have := hI.len; rw [Array.length_toList] at this; exact this
  refine tuple_loop hh (a := p) (ep := ep) (led_mem' hp) F N (JF2 w c T₀ m) ?_ (JF2.intro (T2 := []) (pv := m (Str.ofString "row")) hS rfl hap rfl (by funext z; by_cases q : z = Str.ofString "row" <;> simp [q])) ?_ ?_
  · rintro i m' news ⟨σ, S', T2, T', pv, rfl, _, rfl, _⟩
    exact led_mem' (List.mem_append_right _ hp)
  · intro i v I m₁ news₁ s₁ o hs hoc hi hv hJ hoff hlt F₁ N₁
    obtain ⟨σ, S', T2, T', pv, rfl, hS', rfl, hap', hσ, rfl⟩ := hJ
    obtain ⟨h, tk, rfl⟩ := hs
    have hi' : i < FUN.length := by rw [hlen] at hi; exact hi
    obtain ⟨r, tx, tk', rfl, hr⟩ := hI.at hi' (by rw [Array.getElem?_toList]; exact hv)
    obtain ⟨q1, q2, q3⟩ := fn_rows _ (List.getElem_mem hi')
    have q4 : σ.G.length = i := by rw [hσ]; exact fn_len i (by have : FUN.length = 32 := rfl; omega)
    exact step i hi' _ _ tx tk' r I h tk o σ S' T2 pv rfl q1 q2 q3 (by rw [q4]; exact fn_two i hi') hσ (List.mem_append_right _ hr) hoc hS' hap' hoff (hlt (c.ff, S.gv) (by simp [led])) F₁ N₁
  · intro h' tk m' news' F' N' hJ
    obtain ⟨σ, S', T2, T', pv, rfl, hS', rfl, hap', hσ, rfl⟩ := hJ
    rw [hlen] at hσ
    exact done h' tk σ S' T2 pv (by rw [hσ, fn_len 32 (by decide)]; decide) hS' hap' F' N'
end Mine
end

section
set_option maxRecDepth 100000
set_option maxHeartbeats 4000000
set_option Elab.async false
namespace Mine
open PySem PySem.W PyProof.Rows PySem.Calls PyProof.V PySem.Spec
theorem pairs_nil {w : World} {K : Type} [DecidableEq K] {knd : KeyKind PySem.Challenge.rw_no0155_01.row.prog w K} {o : Obj} (h : o.IsDictOf knd []) : ∃ es ep, o.ExactDict ∧ o.data = .dict es ep ∧ es.toList = [] := by
  obtain ⟨es, ep, h1, h2, _, h4, _⟩ := h
  refine ⟨es, ep, h1, h2, ?_⟩
  cases q : es.toList with
  | nil => rfl
  | cons a b => rw [q] at h4; cases h4
theorem start_led {w : World} {h₀ h : Heap} {L tp ff fn an tx sy dx hda cl : Addr} {go ao to : Obj} {cv : List Value} {ns : List Int} {k1 k2 k3 k4 : Tok} {t1 t2 t3 : Tok} {z : Int}
    (N : News h₀ L h [(tp, to), (ff, go), (fn, listOf #[] 0), (an, ao), (tx, listOf #[] 0), (sy, instObj 154 dx), (dx, dictOf [⟨PyData.keyHash w.params (Str.ofString "texts"), .str (Str.ofString "texts") k1, .ref tx⟩, ⟨PyData.keyHash w.params (Str.ofString "atom_numbers"), .str (Str.ofString "atom_numbers") k2, .ref an⟩,
      ⟨PyData.keyHash w.params (Str.ofString "functors"), .str (Str.ofString "functors") k3, .ref fn⟩, ⟨PyData.keyHash w.params (Str.ofString "functor_numbers"), .str (Str.ofString "functor_numbers") k4, .ref ff⟩] 4), (hda, listOf #[.ref cl, .int 0 t1, .int 0 t2, .int z t3] 0), (cl, listOf cv.toArray 0)])
    (o1 : @LT.lt Nat _ cl hda) (o2 : @LT.lt Nat _ hda dx) (o3 : @LT.lt Nat _ dx sy) (o4 : @LT.lt Nat _ sy tx) (o5 : @LT.lt Nat _ tx an) (o6 : @LT.lt Nat _ an fn) (o7 : @LT.lt Nat _ fn ff) (o8 : @LT.lt Nat _ ff tp)
    (hcv : IntsAre cv ns) (hl0 : ns.length ≤ 63) (hz : 0 ≤ z) (hz2 : z < 2147483647) (ha : ao.IsDictOf (strKind PySem.Challenge.rw_no0155_01.row.prog w) []) (hg : go.IsDictOf (intKind PySem.Challenge.rw_no0155_01.row.prog w) []) (han : (an == sysModules) = false) (hff : (ff == sysModules) = false) :
    ∃ c S, hda = Cx.hd c ∧ cl = c.cl ∧ sy = c.sy ∧ dx = c.dx ∧ tx = c.tx ∧ an = c.an ∧ fn = c.fn ∧ ff = c.ff ∧ cv = c.cv ∧ StOk w c ⟨[], []⟩ S [(tp, to)] ∧ Apart c [(tp, to)] ∧ News h₀ L h (led w c S [(tp, to)]) := by
  have hl : cv.length ≤ 63 := by rw [hcv.length]; exact hl0
  refine ⟨⟨hda, cl, sy, dx, tx, an, fn, ff, k1, k2, k3, k4, cv⟩, ⟨listOf #[.ref cl, .int 0 t1, .int 0 t2, .int z t3] 0, listOf #[] 0, ao, listOf #[] 0, go⟩, rfl, rfl, rfl, rfl, rfl, rfl, rfl, rfl, rfl, ⟨⟨⟨o1, o2, o3, o4, o5, o6, o7⟩, fun v hv => ?_, hl⟩, ⟨0, 0, z, t1, t2, t3, 0, rfl, by decide, by omega, hz, hz2⟩, good0, ⟨_, _, rfl, rfl⟩, ⟨_, _, rfl, rfl⟩, han, hff, ⟨[], ha, .nil⟩, ?_⟩, Apart.cons o8 (fun _ h => (nomatch h)), News.sub N fun p hp => ?_⟩
  · clear N ha hg hl0
    induction hcv with
    | nil => cases hv
    | cons n t _ ih =>
      rcases List.mem_cons.mp hv with rfl | hv
      · exact ⟨_, _, rfl⟩
      · exact ih (by simp only [List.length_cons] at hl; omega) hv
  · obtain ⟨es, ep, q1, q2, q3⟩ := pairs_nil hg
    exact ⟨es, ep, [], q1, q2, q3, List.nodup_nil, fun _ h => (nomatch h), .nil⟩
  · simp only [led, List.mem_cons, List.not_mem_nil, or_false] at hp ⊢
    grind
theorem fm_ok (x : Int) : 0 ≤ x.fmod 100003 * 7 ∧ x.fmod 100003 * 7 < 2147483647 := by
  rw [Int.fmod_eq_emod_of_nonneg _ (by decide)]
  omega
theorem fn_step {σ σ1 : Sym} {x : Str} {k a : Int} {i : Nat} (hi : i < FUN.length) (e : σ1 = (σ.inA x).inG a k) (y : Says (σ.inA x) (fun τ => τ.atom x) a) (hσ : σ = fnS i) (hx : (x, k) = FUN[i]) : σ1 = fnS (i + 1) := by
  rw [fnS_succ hi, ← hx, ← hσ, e, ← y _ (Sym.le_refl _)]; rfl
theorem whole3 {w : World} {mean : ExcName → Option Value} {mg mb : Str → Option Value} {c : Cx} {σ : Sym} {T : List (Addr × Obj)} {number : Int} {tn tz : Tok} (hb : 16 ≤ σ.G.length) :
    Ctr w mean mg mb c 247 55 460 [.ref c.hd, .ref c.sy, .int 3 tz, .int number tn] σ T (fun _ _ T' r => ∃ a t, r = .ref a ∧ TmIn T' a t ∧ t.Ok ∧ t.size + 1 ≤ 128 ∧ t.rows ≤ 3) := whole_all 3 rfl hb
theorem lread3 {w : World} {mean : ExcName → Option Value} {mg mb : Str → Option Value} {c : Cx} {σ : Sym} {T : List (Addr × Obj)} {a : Addr} {t : Tm} (ht : TmIn T a t) (hr : t.rows ≤ 3) (hok : t.Ok) (hs : t.size ≤ 200) (hb : 16 ≤ σ.G.length) :
    Ctr w mean mg mb c 268 95 860 [.ref c.sy, .ref a] σ T (fun σ' T2 T' r => ∃ b, r = .ref b ∧ LRes σ' T2 T' b (fun τ => read τ t)) := lr_all 3 hr ht hok hs hb
end Mine
end

section
set_option maxRecDepth 100000
set_option maxHeartbeats 1000000
set_option Elab.async false
namespace Mine
open PySem PySem.W PyProof.Rows PySem.Calls PyProof.V PySem.Spec
/-- written texts; written pairs of a text and an int -/
inductive TextsE : List PySem.Expr → List Str → Prop
  | nil : TextsE [] []
  | cons {es xs x k p} : TextsE es xs → TextsE (.Constant (.str x) k p :: es) (x :: xs)
inductive RowsE : List PySem.Expr → List (Str × Int) → Prop
  | nil : RowsE [] []
  | cons {es xs x k a b c p1 p2 p} : RowsE es xs → RowsE (.Tuple [.Constant (.str x) a p1, .Constant (.int k) b p2] c p :: es) ((x, k) :: xs)
section
variable {prog : Program} {w : World} {A : Around} {E : Value → Shared → Prop} {env : Env} {h₀ : Heap} {L : Addr} {m : Str → Option Value} {pos : Pos}
theorem texts_args {es : List PySem.Expr} {xs : List Str} (H : TextsE es xs) : ∀ {s : Shared} {Q : List Value → Shared → Prop}, (∀ vs tt, StrR vs xs → Q vs { s with toks := tt }) →
    wpAny (model prog w) A (spliced (backTo pos (starEach es env))) Q E s := by
  induction H with
  | nil => exact fun h => args_nil (h [] _ .nil)
  | cons _ ih => exact fun h => args_cons (wpAny_Constant_str (ih fun vs tt q => h _ tt (.cons q)))
theorem rows_args {es : List PySem.Expr} {xs : List (Str × Int)} (H : RowsE es xs) : ∀ {s : Shared} {news : List (Addr × Obj)} {Q : List Value → Shared → Prop}, Fr h₀ L s.heap m → News h₀ L s.heap news →
    (∀ vs n2 h' tt, Fr h₀ L h' m → News h₀ L h' (n2 ++ news) → RowR n2 vs xs → (∀ p ∈ n2, ∀ q ∈ news, q.1 < p.1) → Q vs { s with heap := h', toks := tt }) →
    wpAny (model prog w) A (spliced (backTo pos (starEach es env))) Q E s := by
  induction H with
  | nil => exact fun F N h => args_nil (h [] [] _ _ F N .nil (fun _ h => nomatch h))
  | @cons _ _ x k a b c p1 p2 p _ ih =>
    intro s news Q F N h
    refine args_cons (Tuple_ (args_cons (wpAny_Constant_str (args_cons (wpAny_Constant_int (args_nil (kup_newTuple (s := { s with toks := s.toks + 1 + 1 }) F N ?_ (show 2 ≤ sizeLine by decide))))))))
    intro D h1 F1 N1 l1
    refine ih (s := { s with heap := h1, toks := s.toks + 1 + 1 }) F1 N1 fun vs n2 h' tt F' N' R' l' => ?_
    refine h (.ref D :: vs) (n2 ++ [(D, tupO [Value.str x s.toks, Value.int k (s.toks + 1)].toArray)]) h' tt F' (by rw [List.append_assoc]; exact N') ?_ fun p hp q hq => ?_
    · exact .cons (List.mem_append_right _ List.mem_cons_self) (R'.mono fun p hp => List.mem_append_left _ hp)
    · rcases List.mem_append.mp hp with hp | hp
      · exact l' p hp q (List.mem_cons_of_mem _ hq)
      · rcases List.mem_singleton.mp hp with rfl
        exact l1 q hq
theorem tuple_rows {es : List PySem.Expr} {xs : List (Str × Int)} (H : RowsE es xs) (hl : xs.length ≤ 1000) {s : Shared} {news : List (Addr × Obj)} {k : Nat} {Q : Value → Shared → Prop} (F : Fr h₀ L s.heap m) (N : News h₀ L s.heap news)
    (h : ∀ D vs n2 h' tt, Fr h₀ L h' m → News h₀ L h' ((D, ({ cls := .type "tuple", data := .seq vs.toArray } : Obj)) :: (n2 ++ news)) → RowR n2 vs xs → (∀ p ∈ n2, ∀ q ∈ news, q.1 < p.1) → (∀ p ∈ n2 ++ news, p.1 < D) → Q (.ref D) { s with heap := h', toks := tt }) :
    wpAny (model prog w) A (eval (.Tuple es k pos) env) Q E s :=
  Tuple_ (rows_args H F N fun vs n2 h' tt F' N' R' l' => kup_newTuple (s := { s with heap := h', toks := tt }) F' N' (fun D h2 F2 N2 l2 => h D vs n2 h2 tt F2 N2 R' l' l2) (by rw [R'.len, sizeLine_eq]; omega))
theorem tuple_texts {es : List PySem.Expr} {xs : List Str} (H : TextsE es xs) (hl : xs.length ≤ 1000) {s : Shared} {news : List (Addr × Obj)} {k : Nat} {Q : Value → Shared → Prop} (F : Fr h₀ L s.heap m) (N : News h₀ L s.heap news)
    (h : ∀ D vs h' tt, Fr h₀ L h' m → News h₀ L h' ((D, ({ cls := .type "tuple", data := .seq vs.toArray } : Obj)) :: news) → StrR vs xs → (∀ p ∈ news, p.1 < D) → Q (.ref D) { s with heap := h', toks := tt }) :
    wpAny (model prog w) A (eval (.Tuple es k pos) env) Q E s :=
  Tuple_ (texts_args H fun vs tt R' => kup_newTuple (s := { s with toks := tt }) F N (fun D h2 F2 N2 l2 => h D vs h2 tt F2 N2 R' l2) (by rw [R'.len, sizeLine_eq]; omega))
end
theorem rowsE_FUN {es : List PySem.Expr} {xs : List (Str × Int)} (h : RowsE es xs) (e : xs = FUN) : RowsE es FUN := e ▸ h
theorem led_lift {w : World} {c : Cx} {S : St} {T X : List (Addr × Obj)} : ∀ p ∈ led w c S (X ++ T), p ∈ X ++ led w c S T := by
  intro p hp
  simp only [led, List.mem_cons, List.mem_append] at hp ⊢
  grind
end Mine
end

section
set_option maxRecDepth 100000
set_option maxHeartbeats 8000000
set_option Elab.async false
namespace Mine
open PySem PySem.W PyProof.Rows PySem.Calls PyProof.V PySem.Spec

theorem fill_hereY1 (w : World) (h : Heap) (X : (hd.heap_39 w.params).In h) (hp : PySem.Challenge.rw_no0155_01.prog = PySem.Challenge.rw_no0155_01.prog) : (hd.heap_39 w.params).In h ∧ PySem.Challenge.rw_no0155_01.prog = PySem.Challenge.rw_no0155_01.prog := by
  k_fill
  exact ⟨X, hp⟩

theorem under_frames {A : Around} {i : String} {a : Args} {l : List Env} (h : A.frames = some l) : (A.under (.builtin i a)).frames = some l := by
  show pushEnvs [] A.frames = some l
  exact h
theorem under_handled {A : Around} {c : Code} {v : Option Value} (h : A.handled = v) : (A.under c).handled = v := h
theorem Rot.pushE {w : World} {c : Cx} {S : St} {news T F : List (Addr × Obj)} {e t d : Addr} (h : Rot w c S news T F) : Rot w c S ((e, excD t d) :: news) ((e, excD t d) :: T) F := .push h
theorem Rot.pushD {w : World} {c : Cx} {S : St} {news T F : List (Addr × Obj)} {d : Addr} {v : Value} {k : Tok} (h : Rot w c S news T F) : Rot w c S ((d, ballD w v k) :: news) ((d, ballD w v k) :: T) F := .push h
/-- an exception made, not raised: its ball reads as u -/
def ExcOut (w : World) (T2 T' : List (Addr × Obj)) (r : Value) (u : Tm) : Prop := ∃ e t d b k, r = .ref e ∧ (e, excD t d) ∈ T2 ∧ (d, ballD w (.ref b) k) ∈ T2 ∧ TmIn T' b u



theorem words_Y1 : True := by
  k_with_none
  k_with "@MY mem" => (first | with_reducible assumption | exact List.mem_cons_self | (with_reducible refine List.mem_cons_of_mem _ ?_; walk_at "MY mem") | (with_reducible refine List.mem_append_left _ ?_; walk_at "MY mem") | (with_reducible refine List.mem_append_right _ ?_; walk_at "MY mem") | exact led_sy | exact led_dx | exact led_ff | exact led_hd | exact led_cl | (with_reducible refine led_T ?_; walk_at "MY mem"))
  k_with "@call builtin:len" => ((k_here; (with_reducible show wpAny _ _ (call (Value.builtin "len") [Value.ref _]) _ _ _); k_dflt (refine len_list (by exact News.isList (by k_asm) (by walk_at "MY mem")) (by omega) ?_; k_whole)))
  k_with "@subscriptTail Subscript Name Constant Subscript ref int" => ((k_here; (with_reducible show wpAny _ _ (subscriptTail _ _ (Value.ref _) (Value.int _ _)) _ _ _); k_dflt (refine item_int (by exact News.isList (by k_asm) (by walk_at "MY mem")) (by omega) (by omega) (by omega) (by assumption) ?_; k_whole); intro j tj))
  k_with "@subscriptTail Name Constant ref int" => ((k_here; k_dflt (first | (refine item_list (by exact News.isList (by k_asm) (by walk_at "MY mem")) (by decide) (by decide) (by rfl) ?_; k_whole) | (refine item_tupleT (by exact News.isTup (by k_asm) (by walk_at "MY mem")) (by decide) (by decide) (by rfl) (by rfl) ?_; k_whole))))
  k_with "@subscriptTail Subscript Name Constant Constant ref int" => ((k_here; k_dflt (refine item_tupleT (by exact News.isTup (by k_asm) (by walk_at "MY mem")) (by decide) (by decide) (by rfl) (by rfl) ?_; k_whole)))
  k_with "@MY sub" => ((intro p9 hp9; walk_at "MY mem"))
  k_with "@MY units" => (((try simp only [units_in1, units_deeper, Around.mark_units, units_caller] at *); omega))
  k_with "@MY over" => (first | exact over_nil | assumption | (refine over_cons (over_of (by assumption) (by walk_at "MY mem") (by walk_at "MY sub")) ?_; walk_at "MY over") | (refine over_app ?_ ?_ <;> walk_at "MY over") | exact over_mono (by assumption) (by walk_at "MY sub"))
  k_with "@MY rot" => (first | exact Rot.base | (apply Rot.pushT; walk_at "MY rot") | (apply Rot.pushL; walk_at "MY rot") | (apply Rot.keep; walk_at "MY rot") | (apply Rot.drop; walk_at "MY rot"))
  k_with "@MY front" => (first | exact List.forall_mem_nil _ | (refine List.forall_mem_cons.mpr ⟨by first | assumption | decide, ?_⟩; walk_at "MY front"))
  k_with "@MY subT" => (first | exact SubT.front (by walk_at "MY front") | exact SubT.refl)
  k_with "@MY frames" => (first | exact Around.frames_deeper (by assumption) | (simp only [Around.in1_frames]; exact Around.frames_deeper (by assumption)))
  k_with "@MY handled" => (first | assumption | (simp only [Around.in1_handled]; assumption))
  k_with "@MY apart" => (((try simp only [List.nil_append, List.cons_append]); first | assumption | (refine Apart.cons (by first | with_reducible assumption | exact raw_lt (by assumption) (by walk_at "MY mem") | ((try dsimp only); omega)) ?_; walk_at "MY apart")))
  k_with "@MY le" => (first | exact Sym.le_refl _ | assumption | (refine Sym.le_trans ?_ (by assumption); walk_at "MY le"))
  k_with "@MY suf" => (first | exact suf_nil | (apply suf_cons; walk_at "MY suf") | (apply suf_app; walk_at "MY suf"))
  k_with "@MY off" => (first | exact led_offT (by assumption) | (refine off_cons (by first | exact raw_lt (by assumption) (by walk_at "MY mem") | ((try dsimp only); omega)) ?_; walk_at "MY off") | (refine off_join (off_app (by assumption) (by walk_at "MY mem")) ?_; walk_at "MY off"))
  k_with "@call builtin:list.append" => ((k_here; (with_reducible show wpAny _ _ (call (Value.builtin _) [Value.ref _, _]) _ _ _); k_dflt (refine append_K (by k_asm) (by k_asm) (by k_upd) ?_ (by (rw [sizeLine_eq]; simp only [List.size_toArray, List.length_cons, List.length_nil]; omega)); k_whole); intro h' F' N'; (try k_sweep)))
  k_with "@call builtin:len" => ((k_here; (with_reducible show wpAny _ _ (call (Value.builtin "len") [Value.ref _]) _ _ _); k_dflt (refine kun_lenL (by exact News.isList (by k_asm) (by walk_at "MY mem")) (by first | exact congrArg Nat.cast (by assumption) | rfl) (by omega) ?_; k_whole)))
  k_with "@call ref" => ((k_here; (with_reducible show wpAny _ _ (call (Value.ref 88) _) _ _ _); k_dflt ((refine Ctr.use (by exact ⟨⟨_, by k_asm⟩, by k_asm, by k_asm, by k_asm, by k_asm, by walk_at "MY frames", rfl, rfl, by walk_at "MY handled"⟩) (by walk_at "MY rot") (by assumption) (by walk_at "MY sub") (by walk_at "MY apart") (by walk_at "MY front") (atom_ok (by first | assumption | decide)) (by ktr_room) (by walk_at "MY units") ?_; k_whole; intro r1 σ1 S1 T21 h1 tk1 F1 N1 ho1 hl1 hS1 hap1 hP1; (have hg1 := hl1.2.2); (try simp only [List.nil_append] at ho1 hP1); (try dsimp only [List.nil_append, List.cons_append] at N1); obtain ⟨hT1, n1, t1, hr1, hn1, hn2, hy1, he1⟩ := hP1; subst hr1; subst hT1; (try simp only [List.nil_append] at hS1 hap1 N1); (try k_sweep); (try dsimp only)))))
  k_with "@call ref" => ((k_here; (with_reducible show wpAny _ _ (call (Value.ref 102) _) _ _ _); k_dflt ((refine Ctr.use (by exact ⟨⟨_, by k_asm⟩, by k_asm, by k_asm, by k_asm, by k_asm, by walk_at "MY frames", rfl, rfl, by walk_at "MY handled"⟩) (by walk_at "MY rot") (by assumption) (by walk_at "MY sub") (by walk_at "MY apart") (by walk_at "MY front") (functor_ok (by omega) (by omega) (by omega) (by omega) (by first | assumption | omega | ((with_reducible rename _ = Sym.inA _ _ => he9); rw [he9, inA_G]; assumption))) (by ktr_room) (by walk_at "MY units") ?_; k_whole; intro r1 σ1 S1 T21 h1 tk1 F1 N1 ho1 hl1 hS1 hap1 hP1; (have hg1 := hl1.2.2); (try simp only [List.nil_append] at ho1 hP1); (try dsimp only [List.nil_append, List.cons_append] at N1); obtain ⟨n1, t1, hr1, hk1, hy1, he1⟩ := hP1; subst hr1; (try k_sweep); (try dsimp only)))))
  k_with "@MY tm" => (first | assumption | exact TmIn.mono (by assumption) (by walk_at "MY sub") | exact TmIn.v (by walk_at "MY mem") | exact TmIn.i (by walk_at "MY mem") | exact TmIn.a (by walk_at "MY mem") | (apply TmIn.s2; (walk_at "MY mem"); (walk_at "MY mem"); (walk_at "MY tm"); (walk_at "MY tm")))
  k_with "@MY sub" => (first | (intro p9 hp9; walk_at "MY mem") | (refine sub_cons (by walk_at "MY mem") ?_; walk_at "MY sub") | (refine sub_app ?_ ?_ <;> walk_at "MY sub"))
  k_with "@MY frames" => (with_reducible exact under_frames (Around.frames_deeper (by assumption)))
  k_with "@MY handled" => (with_reducible exact under_handled (by assumption))
  k_with "@call ref" => ((k_here; (with_reducible show wpAny _ _ (call (Value.ref 51) _) _ _ _); k_dflt (refine make_exc (by k_asm) (by k_asm) (by k_asm) ?_; k_whole); intro e9 t9 h' F' N' l1 l2; (try k_lt l1); (try k_lt l2); (try k_sweep)))
  k_with "@call ref" => ((k_here; (with_reducible show wpAny _ _ (call (Value.ref 48) _) _ _ _); refine wpAny_call ?_; k_dflt (refine code_def (by k_asm) (by k_asm) (by k_asm) (by k_asm) (by k_asm) (by walk_at "MY frames") (by exact rfl) (by exact rfl) (by k_is) (by k_is) (by ktr_room) (by exact BindsTo.of_eq rfl) (by exact locs rfl) ?_ (by exact rfl) (by exact rfl) (by exact rfl) (by decide); k_whole; intro g' L' h' FG' F' N' B' X' T''; (try dsimp only); (try k_fold))))
  k_with "@setAttr ref" => ((k_here; k_dflt (refine set_ball (by k_asm) (by k_asm) (by k_asm) (by intro d9; k_upd) ?_; k_whole); intro d9 k9 h' tk' F' N' l1; (try dsimp only at N'); (try k_lt l1); (try k_sweep)))
  k_with "@And" => ((k_here; refine ⟨rfl, ?_⟩))
  k_with "@MY rot" => (first | (apply Rot.pushE; walk_at "MY rot") | (apply Rot.pushD; walk_at "MY rot"))
  trivial

theorem sys_ok {w : World} {mean : ExcName → Option Value} {mg mb : Str → Option Value} {c : Cx} {σ : Sym} {T : List (Addr × Obj)} {f : Addr} {tf : Tm} (hf : TmIn T f tf) :
    Ctr w mean mg mb c 172 20 200 [.ref f] σ T (fun _ T2 T' r => ExcOut w T2 T' r (ball tf)) := by
  intro S A env outer base h₀ L m s Q E hS hT at' hA hU hret
  obtain ⟨⟨A₀, B⟩, F, X, N, T', hfr, hfl, hki, hha⟩ := at'
  obtain ⟨⟨o1, o2, o3, o4, o5, o6, o7⟩, hI, hlen⟩ := hS.cx
  refine wpAny_call ?_
  k_dflt (refine' code_def (binds := [(Str.ofString "formal", .ref f)]) ?k1 ?k2 ?k3 ?k4 ?k5 ?kA ?kF ?kK ?k6 ?k7 ?k8 ?k9 ?kB ?_ ?c2 ?c3 ?c4 ?c5; (case kA => assumption); (case kF => assumption); (case kK => assumption); (case k1 => k_asm); (case k2 => k_asm); (case k3 => k_asm); (case k4 => k_asm); (case k5 => k_asm); (case k6 => k_is); (case k7 => k_is); (case k8 => ktr_room); (case k9 => exact BindsTo.of_eq rfl); (case c5 => decide); (case kB => exact locs rfl); (case c2 => exact rfl); (case c3 => exact rfl); (case c4 => exact rfl); k_whole; intro g' L' h' FG' F' N' B' X' T''; (try dsimp only); (try k_fold))
  k_steps
  refine hret _ _ _ _ _ _ _ (by assumption) (News.led (by assumption) (by walk_at "MY rot")) (StOk.mono (by assumption) (by walk_at "MY sub")) (by walk_at "MY suf") (by walk_at "MY le") (by walk_at "MY over") ⟨_, _, _, _, _, rfl, (by walk_at "MY mem"), (by walk_at "MY mem"), (by unfold ball; walk_at "MY tm")⟩

theorem words_Y1_1 : True := by
  k_with "@call ref" => ((k_here; (with_reducible show wpAny _ _ (call (Value.ref 172) _) _ _ _); k_dflt ((refine Ctr.use (by exact ⟨⟨_, by k_asm⟩, by k_asm, by k_asm, by k_asm, by k_asm, by walk_at "MY frames", rfl, rfl, by walk_at "MY handled"⟩) (by walk_at "MY rot") (by assumption) (by walk_at "MY sub") (by walk_at "MY apart") (by walk_at "MY front") (sys_ok (by walk_at "MY tm")) (by ktr_room) (by walk_at "MY units") ?_; k_whole; intro r1 σ1 S1 T21 h1 tk1 F1 N1 ho1 hl1 hS1 hap1 hP1; (have hg1 := hl1.2.2); (try simp only [List.nil_append] at ho1 hP1); (try dsimp only [List.nil_append, List.cons_append] at N1); obtain ⟨e1, t1, d1, b1, k1, hr1, hm1, hm2, ht1⟩ := hP1; subst hr1; (try replace ht1 := TmIn.of_subT ht1 (by walk_at "MY subT")); (try k_sweep); (try dsimp only)))))
  trivial

theorem inst_ok {w : World} {mean : ExcName → Option Value} {mg mb : Str → Option Value} {c : Cx} {σ : Sym} {T : List (Addr × Obj)} :
    Ctr w mean mg mb c 186 30 300 [.ref c.sy] σ T (fun σ' T2 T' r => ∃ u, Says σ' instE u ∧ ExcOut w T2 T' r u) := by
  intro S A env outer base h₀ L m s Q E hS hT at' hA hU hret
  obtain ⟨⟨A₀, B⟩, F, X, N, T', hfr, hfl, hki, hha⟩ := at'
  obtain ⟨⟨o1, o2, o3, o4, o5, o6, o7⟩, hI, hlen⟩ := hS.cx
  refine wpAny_call ?_
  k_dflt (refine' code_def (binds := [(Str.ofString "symbols", .ref c.sy)]) ?k1 ?k2 ?k3 ?k4 ?k5 ?kA ?kF ?kK ?k6 ?k7 ?k8 ?k9 ?kB ?_ ?c2 ?c3 ?c4 ?c5; (case kA => assumption); (case kF => assumption); (case kK => assumption); (case k1 => k_asm); (case k2 => k_asm); (case k3 => k_asm); (case k4 => k_asm); (case k5 => k_asm); (case k6 => k_is); (case k7 => k_is); (case k8 => ktr_room); (case k9 => exact BindsTo.of_eq rfl); (case c5 => decide); (case kB => exact locs rfl); (case c2 => exact rfl); (case c3 => exact rfl); (case c4 => exact rfl); k_whole; intro g' L' h' FG' F' N' B' X' T''; (try dsimp only); (try k_fold))
  k_steps
  refine hret _ _ _ _ _ _ _ (by assumption) (News.led (by assumption) (by walk_at "MY rot")) (StOk.mono (by assumption) (by walk_at "MY sub")) (by walk_at "MY suf") (by walk_at "MY le") (by walk_at "MY over") ⟨_, (says_inst (by assumption)).mono (by walk_at "MY le"), _, _, _, _, _, rfl, (by walk_at "MY mem"), (by walk_at "MY mem"), by assumption⟩
end Mine
end

section
set_option maxRecDepth 100000
set_option maxHeartbeats 8000000
set_option Elab.async false
namespace Mine
open PySem PySem.W PyProof.Rows PySem.Calls PyProof.V PySem.Spec

theorem fill_hereY2 (w : World) (h : Heap) (X : (hd.heap_39 w.params).In h) (hp : PySem.Challenge.rw_no0155_01.prog = PySem.Challenge.rw_no0155_01.prog) : (hd.heap_39 w.params).In h ∧ PySem.Challenge.rw_no0155_01.prog = PySem.Challenge.rw_no0155_01.prog := by
  k_fill
  exact ⟨X, hp⟩

def FitsP (σ : Sym) (T : List (Addr × Obj)) (kind : Str) (x : Addr) : Nat → Array Value → Prop
  | 0, its => its = #[]
  | 1, its => ∃ a n, its = #[.ref a] ∧ TmIn T a (.a n) ∧ Says σ (fun τ => τ.atom kind) n
  | _, its => ∃ a n, its = #[.ref a, .ref x] ∧ TmIn T a (.a n) ∧ Says σ (fun τ => τ.atom kind) n
def JF (w : World) (c : Cx) (σ₀ : Sym) (T₀ : List (Addr × Obj)) (l : Addr) (kind : Str) (x : Addr) (m₀ : Str → Option Value) (i : Nat) (m : Str → Option Value) (news : List (Addr × Obj)) : Prop :=
  ∃ σ S T2 T' its k pv, news = (l, listOf its k) :: led w c S T' ∧ StOk w c σ S T' ∧ T' = T2 ++ T₀ ∧ Apart c T' ∧ (∀ p ∈ T', p.1 ≠ l) ∧ σ₀.le σ ∧ (∀ p ∈ T2, Over c T₀ p.1) ∧ FitsP σ T' kind x i its ∧ m = fun z => if z = Str.ofString "part" then pv else m₀ z
theorem JF.intro {w : World} {c : Cx} {σ₀ σ : Sym} {S : St} {T₀ T' T2 : List (Addr × Obj)} {l x : Addr} {kind : Str} {m₀ m : Str → Option Value} {i k : Nat} {its : Array Value} {pv : Option Value} (hS : StOk w c σ S T') (e : T' = T2 ++ T₀) (hap : Apart c T') (hf : ∀ p ∈ T', p.1 ≠ l) (hle : σ₀.le σ) (hov : ∀ p ∈ T2, Over c T₀ p.1)
    (hy : FitsP σ T' kind x i its) (hm : m = fun z => if z = Str.ofString "part" then pv else m₀ z) : JF w c σ₀ T₀ l kind x m₀ i m ((l, listOf its k) :: led w c S T') := ⟨σ, S, T2, T', its, k, pv, rfl, hS, e, hap, hf, hle, hov, hy, hm⟩
theorem map_one' {m m₀ : Str → Option Value} {x : Str} (h : ∀ z, z ≠ x → m z = m₀ z) : m = fun z => if z = x then m x else m₀ z := by
  funext z
  by_cases h1 : z = x
  · rw [if_pos h1, h1]
  · rw [if_neg h1]; exact h z h1
theorem led_mem {w : World} {c : Cx} {S : St} {T : List (Addr × Obj)} {p : Addr × Obj} (h : p ∈ T) : p ∈ led w c S T := by simp only [led, List.mem_cons, h, or_true]
theorem tm_not_str {prog : Program} {w : World} {A : Around} {E : Value → Shared → Prop} {s : Shared} {Q : Value → Shared → Prop} {h₀ : Heap} {L x : Addr} {news T : List (Addr × Obj)} {t : Tm} (N : News h₀ L s.heap news) (ht : TmIn T x t) (hT : ∀ p ∈ T, p ∈ news) (h : Q (.bool false) { s with toks := s.toks + 1 }) :
    wpAny (model prog w) A (call (.builtin "isinstance") [.ref x, .type "str"]) Q E s := by
  obtain ⟨vs, tg, t1, n, t2, hm, _⟩ := ht.head
  exact PySem.IsiPair.tuple_str (N _ (hT _ hm)).1 rfl h
theorem formal_loop {w : World} {A : Around} {s : Shared} {env : Env} {h₀ : Heap} {body : List Stmt} {Q : Flow → Shared → Prop} {E : Value → Shared → Prop} {m : Str → Option Value} {c : Cx} {σ₀ : Sym} {S : St} {T₀ : List (Addr × Obj)} {l p x : Addr} {kind : Str} {tk : Tok} {ep : Nat}
    (hh : A.handled = none) (F : Fr h₀ env.locals s.heap m) (N : News h₀ env.locals s.heap ((l, listOf #[] 0) :: led w c S T₀)) (hp : (p, ({ cls := .type "tuple", data := .seq #[.str kind tk, .ref x] ep } : Obj)) ∈ T₀) (hS : StOk w c σ₀ S T₀) (hap : Apart c T₀) (hf : ∀ p ∈ T₀, p.1 ≠ l)
    (step0 : ∀ I h tk' o σ S' T2 k pv, o.cls ≠ .type "tuple" → StOk w c σ S' (T2 ++ T₀) → Apart c (T2 ++ T₀) → (∀ p ∈ T2 ++ T₀, p.1 ≠ l) → σ₀.le σ → (∀ p ∈ T2, Over c T₀ p.1) →
      (∀ p ∈ led w c S' (T2 ++ T₀), p.1 ≠ I) → @LT.lt Nat _ c.ff I → @LT.lt Nat _ l I →
      Fr h₀ env.locals h (fun y => if y = Str.ofString "part" then some (.str kind tk) else if y = Str.ofString "part" then pv else m y) → News h₀ env.locals h ((I, o) :: (l, listOf #[] k) :: led w c S' (T2 ++ T₀)) →
      wpAny (model PySem.Challenge.rw_no0155_01.row.prog w) A (execs body env) (Turn h₀ env.locals I o (JF w c σ₀ T₀ l kind x m 1) { s with heap := h, toks := tk' } (fun v s' => Q (.ret v) s') fun s' => Q .next s') E { s with heap := h, toks := tk' })
    (step1 : ∀ I h tk' o σ S' T2 a n k pv, o.cls ≠ .type "tuple" → StOk w c σ S' (T2 ++ T₀) → Apart c (T2 ++ T₀) → (∀ p ∈ T2 ++ T₀, p.1 ≠ l) → σ₀.le σ → (∀ p ∈ T2, Over c T₀ p.1) → TmIn (T2 ++ T₀) a (.a n) → Says σ (fun τ => τ.atom kind) n →
      (∀ p ∈ led w c S' (T2 ++ T₀), p.1 ≠ I) → @LT.lt Nat _ c.ff I → @LT.lt Nat _ l I →
      Fr h₀ env.locals h (fun y => if y = Str.ofString "part" then some (.ref x) else if y = Str.ofString "part" then pv else m y) → News h₀ env.locals h ((I, o) :: (l, listOf #[.ref a] k) :: led w c S' (T2 ++ T₀)) →
      wpAny (model PySem.Challenge.rw_no0155_01.row.prog w) A (execs body env) (Turn h₀ env.locals I o (JF w c σ₀ T₀ l kind x m 2) { s with heap := h, toks := tk' } (fun v s' => Q (.ret v) s') fun s' => Q .next s') E { s with heap := h, toks := tk' })
    (done : ∀ h' tk' σ S' T2 a n k pv, StOk w c σ S' (T2 ++ T₀) → Apart c (T2 ++ T₀) → σ₀.le σ → (∀ p ∈ T2, Over c T₀ p.1) → TmIn (T2 ++ T₀) a (.a n) → Says σ (fun τ => τ.atom kind) n →
      Fr h₀ env.locals h' (fun y => if y = Str.ofString "part" then pv else m y) → News h₀ env.locals h' ((l, listOf #[.ref a, .ref x] k) :: led w c S' (T2 ++ T₀)) → Q .next { s with heap := h', toks := tk' }) :
    wpAny (model PySem.Challenge.rw_no0155_01.row.prog w) A (pyIter (.ref p)) (fun it s₂ => LoopAtV PySem.Challenge.rw_no0155_01.row.prog w A h₀ env (Str.ofString "part") body Q E it s₂) E s := by
  refine tuple_loop hh (a := p) (ep := ep) (List.mem_cons_of_mem _ (led_mem hp)) F N (JF w c σ₀ T₀ l kind x m) ?_ ⟨σ₀, S, [], T₀, #[], 0, m (Str.ofString "part"), rfl, hS, rfl, hap, hf, Sym.le_refl _, over_nil, rfl, map_one' fun z _ => rfl⟩ ?_ ?_
  · rintro i m news ⟨σ, S', T2, T', its, k', pv, rfl, hS', rfl, _⟩
    exact List.mem_cons_of_mem _ (led_mem (List.mem_append_right _ hp))
  · intro i v I m₁ news₁ s₁ o hs hoc hi hv hJ hoff hlt F₁ N₁
    obtain ⟨σ, S', T2, T', its, k', pv, rfl, hS', rfl, hap', hf', hle, hov, hy, rfl⟩ := hJ
    obtain ⟨h, tk', rfl⟩ := hs
    have h2 : i = 0 ∨ i = 1 := by simp at hi; omega
    have q1 : ∀ p ∈ led w c S' (T2 ++ T₀), p.1 ≠ I := fun q hq => hoff q (List.mem_cons_of_mem _ hq)
    have q2 : @LT.lt Nat _ c.ff I := hlt (c.ff, S.gv) (by simp [led])
    have q3 : @LT.lt Nat _ l I := hlt (l, listOf #[] 0) (by simp)
    rcases h2 with rfl | rfl
    · obtain rfl : its = #[] := hy
      obtain rfl : Value.str kind tk = v := Option.some.inj hv
      exact step0 I h tk' o σ S' T2 k' pv hoc hS' hap' hf' hle hov q1 q2 q3 F₁ N₁
    · obtain ⟨a, n, rfl, t1, t2⟩ := hy
      obtain rfl : Value.ref x = v := Option.some.inj hv
      exact step1 I h tk' o σ S' T2 a n k' pv hoc hS' hap' hf' hle hov t1 t2 q1 q2 q3 F₁ N₁
  · intro h' tk' m' news' F' N' hJ
    obtain ⟨σ, S', T2, T', its, k', pv, rfl, hS', rfl, hap', hf', hle, hov, hy, rfl⟩ := hJ
    obtain ⟨a, n, rfl, t1, t2⟩ := hy
    exact done h' tk' σ S' T2 a n k' pv hS' hap' hle hov t1 t2 F' N'




theorem words_Y2 : True := by
  k_with_none
  k_with "@MY mem" => (first | with_reducible assumption | exact List.mem_cons_self | (with_reducible refine List.mem_cons_of_mem _ ?_; walk_at "MY mem") | (with_reducible refine List.mem_append_left _ ?_; walk_at "MY mem") | (with_reducible refine List.mem_append_right _ ?_; walk_at "MY mem") | exact led_sy | exact led_dx | exact led_ff | exact led_hd | exact led_cl | (with_reducible refine led_T ?_; walk_at "MY mem"))
  k_with "@call builtin:len" => ((k_here; (with_reducible show wpAny _ _ (call (Value.builtin "len") [Value.ref _]) _ _ _); k_dflt (refine len_list (by exact News.isList (by k_asm) (by walk_at "MY mem")) (by omega) ?_; k_whole)))
  k_with "@subscriptTail Subscript Name Constant Subscript ref int" => ((k_here; (with_reducible show wpAny _ _ (subscriptTail _ _ (Value.ref _) (Value.int _ _)) _ _ _); k_dflt (refine item_int (by exact News.isList (by k_asm) (by walk_at "MY mem")) (by omega) (by omega) (by omega) (by assumption) ?_; k_whole); intro j tj))
  k_with "@subscriptTail Name Constant ref int" => ((k_here; k_dflt (first | (refine item_list (by exact News.isList (by k_asm) (by walk_at "MY mem")) (by decide) (by decide) (by rfl) ?_; k_whole) | (refine item_tupleT (by exact News.isTup (by k_asm) (by walk_at "MY mem")) (by decide) (by decide) (by rfl) (by rfl) ?_; k_whole))))
  k_with "@subscriptTail Subscript Name Constant Constant ref int" => ((k_here; k_dflt (refine item_tupleT (by exact News.isTup (by k_asm) (by walk_at "MY mem")) (by decide) (by decide) (by rfl) (by rfl) ?_; k_whole)))
  k_with "@MY sub" => ((intro p9 hp9; walk_at "MY mem"))
  k_with "@MY units" => (((try simp only [units_in1, units_deeper, Around.mark_units, units_caller] at *); omega))
  k_with "@MY over" => (first | exact over_nil | assumption | (refine over_cons (over_of (by assumption) (by walk_at "MY mem") (by walk_at "MY sub")) ?_; walk_at "MY over") | (refine over_app ?_ ?_ <;> walk_at "MY over") | exact over_mono (by assumption) (by walk_at "MY sub"))
  k_with "@MY rot" => (first | exact Rot.base | (apply Rot.pushT; walk_at "MY rot") | (apply Rot.pushL; walk_at "MY rot") | (apply Rot.keep; walk_at "MY rot") | (apply Rot.drop; walk_at "MY rot"))
  k_with "@MY front" => (first | exact List.forall_mem_nil _ | (refine List.forall_mem_cons.mpr ⟨by first | assumption | decide, ?_⟩; walk_at "MY front"))
  k_with "@MY subT" => (first | exact SubT.front (by walk_at "MY front") | exact SubT.refl)
  k_with "@MY frames" => (first | exact Around.frames_deeper (by assumption) | (simp only [Around.in1_frames]; exact Around.frames_deeper (by assumption)))
  k_with "@MY handled" => (first | assumption | (simp only [Around.in1_handled]; assumption))
  k_with "@MY apart" => (((try simp only [List.nil_append, List.cons_append]); first | assumption | (refine Apart.cons (by first | with_reducible assumption | exact raw_lt (by assumption) (by walk_at "MY mem") | ((try dsimp only); omega)) ?_; walk_at "MY apart")))
  k_with "@MY le" => (first | exact Sym.le_refl _ | assumption | (refine Sym.le_trans ?_ (by assumption); walk_at "MY le"))
  k_with "@MY suf" => (first | exact suf_nil | (apply suf_cons; walk_at "MY suf") | (apply suf_app; walk_at "MY suf"))
  k_with "@MY off" => (first | exact led_offT (by assumption) | (refine off_cons (by first | exact raw_lt (by assumption) (by walk_at "MY mem") | ((try dsimp only); omega)) ?_; walk_at "MY off") | (refine off_join (off_app (by assumption) (by walk_at "MY mem")) ?_; walk_at "MY off"))
  k_with "@call builtin:list.append" => ((k_here; (with_reducible show wpAny _ _ (call (Value.builtin _) [Value.ref _, _]) _ _ _); k_dflt (refine append_K (by k_asm) (by k_asm) (by k_upd) ?_ (by (rw [sizeLine_eq]; simp only [List.size_toArray, List.length_cons, List.length_nil]; omega)); k_whole); intro h' F' N'; (try k_sweep)))
  k_with "@call builtin:len" => ((k_here; (with_reducible show wpAny _ _ (call (Value.builtin "len") [Value.ref _]) _ _ _); k_dflt (refine kun_lenL (by exact News.isList (by k_asm) (by walk_at "MY mem")) (by first | exact congrArg Nat.cast (by assumption) | rfl) (by omega) ?_; k_whole)))
  k_with "@call ref" => ((k_here; (with_reducible show wpAny _ _ (call (Value.ref 88) _) _ _ _); k_dflt ((refine Ctr.use (by exact ⟨⟨_, by k_asm⟩, by k_asm, by k_asm, by k_asm, by k_asm, by walk_at "MY frames", rfl, rfl, by walk_at "MY handled"⟩) (by walk_at "MY rot") (by assumption) (by walk_at "MY sub") (by walk_at "MY apart") (by walk_at "MY front") (atom_ok (by first | assumption | decide)) (by ktr_room) (by walk_at "MY units") ?_; k_whole; intro r1 σ1 S1 T21 h1 tk1 F1 N1 ho1 hl1 hS1 hap1 hP1; (have hg1 := hl1.2.2); (try simp only [List.nil_append] at ho1 hP1); (try dsimp only [List.nil_append, List.cons_append] at N1); obtain ⟨hT1, n1, t1, hr1, hn1, hn2, hy1, he1⟩ := hP1; subst hr1; subst hT1; (try simp only [List.nil_append] at hS1 hap1 N1); (try k_sweep); (try dsimp only)))))
  k_with "@call ref" => ((k_here; (with_reducible show wpAny _ _ (call (Value.ref 102) _) _ _ _); k_dflt ((refine Ctr.use (by exact ⟨⟨_, by k_asm⟩, by k_asm, by k_asm, by k_asm, by k_asm, by walk_at "MY frames", rfl, rfl, by walk_at "MY handled"⟩) (by walk_at "MY rot") (by assumption) (by walk_at "MY sub") (by walk_at "MY apart") (by walk_at "MY front") (functor_ok (by omega) (by omega) (by omega) (by omega) (by first | assumption | omega | ((with_reducible rename _ = Sym.inA _ _ => he9); rw [he9, inA_G]; assumption))) (by ktr_room) (by walk_at "MY units") ?_; k_whole; intro r1 σ1 S1 T21 h1 tk1 F1 N1 ho1 hl1 hS1 hap1 hP1; (have hg1 := hl1.2.2); (try simp only [List.nil_append] at ho1 hP1); (try dsimp only [List.nil_append, List.cons_append] at N1); obtain ⟨n1, t1, hr1, hk1, hy1, he1⟩ := hP1; subst hr1; (try k_sweep); (try dsimp only)))))
  k_with "@call ref" => ((k_here; (with_reducible show wpAny _ _ (call (Value.ref 109) _) _ _ _); k_dflt ((refine Ctr.use (by exact ⟨⟨_, by k_asm⟩, by k_asm, by k_asm, by k_asm, by k_asm, by walk_at "MY frames", rfl, rfl, by walk_at "MY handled"⟩) (by walk_at "MY rot") (by assumption) (by walk_at "MY sub") (by walk_at "MY apart") (by walk_at "MY front") (func_ok (by first | assumption | decide) (by decide) (by decide) (by omega)) (by ktr_room) (by walk_at "MY units") ?_; k_whole; intro r1 σ1 S1 T21 h1 tk1 F1 N1 ho1 hl1 hS1 hap1 hP1; (have hg1 := hl1.2.2); (try simp only [List.nil_append] at ho1 hP1); (try dsimp only [List.nil_append, List.cons_append] at N1); obtain ⟨n1, t1, hr1, hk1, hy1, he1⟩ := hP1; subst hr1; (try replace hk1 := hk1 (by decide)); (try k_sweep); (try dsimp only)))))
  k_with "@MY tm" => (first | assumption | exact TmIn.mono (by assumption) (by walk_at "MY sub") | exact TmIn.v (by walk_at "MY mem") | exact TmIn.i (by walk_at "MY mem") | exact TmIn.a (by walk_at "MY mem") | (apply TmIn.s2; (walk_at "MY mem"); (walk_at "MY mem"); (walk_at "MY tm"); (walk_at "MY tm")))
  k_with "@MY sub" => (first | (intro p9 hp9; walk_at "MY mem") | (refine sub_cons (by walk_at "MY mem") ?_; walk_at "MY sub") | (refine sub_app ?_ ?_ <;> walk_at "MY sub"))
  k_with "@MY sub" => (first | (intro p9 hp9; walk_at "MY mem") | (refine sub_cons (by walk_at "MY mem") ?_; walk_at "MY sub") | (refine sub_app ?_ ?_ <;> walk_at "MY sub"))
  k_with "@exec For Name Name cons nil" => ((k_here; k_dflt ((rename Fr _ _ _ _ => lF'); (with_unfolding_all refine' For_invVF lF' ?k1 ?k2 ?_; (case k1 => exact rfl); (case k2 => exact rfl); k_whole))))
  k_with "@inplaceOp Add ref ref" => ((k_here; k_dflt (refine iadd_K (by k_asm) (by k_asm) (by k_upd) (by walk_at "MY mem") (by omega) ?_; k_whole); intro h' F' N'; (try k_sweep)))
  k_with "@MY front" => ((refine List.forall_mem_cons.mpr ⟨list_nt, ?_⟩; walk_at "MY front"))
  k_with "@call builtin:isinstance" => ((k_here; (with_reducible show wpAny _ _ (call _ [Value.ref _, Value.type "str"]) _ _ _); k_dflt (refine tm_not_str (by k_asm) (by assumption) (by walk_at "MY sub") ?_; k_whole)))
  k_with "@call ref" => ((k_here; (with_reducible show wpAny _ _ (call (Value.ref 88) _) _ _ _); k_dflt ((refine Ctr.use (by exact ⟨⟨_, by k_asm⟩, by k_asm, by k_asm, by k_asm, by k_asm, by walk_at "MY frames", rfl, rfl, by walk_at "MY handled"⟩) (by first | (apply Rot.keep; apply Rot.keep; exact Rot.base) | walk_at "MY rot") (by assumption) (by walk_at "MY sub") (by walk_at "MY apart") (by walk_at "MY front") (atom_ok (by first | assumption | decide)) (by ktr_room) (by walk_at "MY units") ?_; k_whole; intro r1 σ1 S1 T21 h1 tk1 F1 N1 ho1 hl1 hS1 hap1 hP1; (have hg1 := hl1.2.2); (try simp only [List.nil_append] at ho1 hP1); (try dsimp only [List.nil_append, List.cons_append] at N1); obtain ⟨hT1, n1, t1, hr1, hn1, hn2, hy1, he1⟩ := hP1; subst hr1; subst hT1; (try simp only [List.nil_append] at hS1 hap1 N1); (try k_sweep); (try dsimp only)))))
  trivial

theorem formal_ok {w : World} {mean : ExcName → Option Value} {mg mb : Str → Option Value} {c : Cx} {σ : Sym} {T : List (Addr × Obj)} {p x : Addr} {name kind : Str} {tn tk : Tok} {t : Tm} (hb : 16 ≤ σ.G.length) (hu : name ∈ uni) (hk : kind ∈ uni) (hp : (p, tupO #[.str kind tk, .ref x]) ∈ T) (hx : TmIn T x t) :
    Ctr w mean mg mb c 179 20 200 [.ref c.sy, .str name tn, .ref p] σ T (fun σ' T2 T' r => ∃ a f n, r = .ref a ∧ TmIn T' a (.s2 f (.a n) t) ∧ Says σ' (fun τ => τ.atom kind) n ∧ Says σ' (fun τ => τ.fn (τ.atom name) 2) f) := by
  intro S A env outer base h₀ L m s Q E hS hT at' hA hU hret
  obtain ⟨⟨A₀, B⟩, F, X, N, T', hfr, hfl, hki, hha⟩ := at'
  obtain ⟨⟨o1, o2, o3, o4, o5, o6, o7⟩, hI, hlen⟩ := hS.cx
  refine wpAny_call ?_
  k_dflt (refine' code_def (binds := [(Str.ofString "symbols", .ref c.sy), (Str.ofString "name", .str name tn), (Str.ofString "parts", .ref p)]) ?k1 ?k2 ?k3 ?k4 ?k5 ?kA ?kF ?kK ?k6 ?k7 ?k8 ?k9 ?kB ?_ ?c2 ?c3 ?c4 ?c5; (case kA => assumption); (case kF => assumption); (case kK => assumption); (case k1 => k_asm); (case k2 => k_asm); (case k3 => k_asm); (case k4 => k_asm); (case k5 => k_asm); (case k6 => k_is); (case k7 => k_is); (case k8 => ktr_room); (case k9 => exact BindsTo.of_eq rfl); (case c5 => decide); (case kB => exact locs rfl); (case c2 => exact rfl); (case c3 => exact rfl); (case c4 => exact rfl); k_whole; intro g' L' h' FG' F' N' B' X' T''; (try dsimp only); (try k_fold))
  k_steps
  refine formal_loop (by walk_at "MY handled") (by assumption) (News.turn (by assumption) (by (apply Rot.keep; walk_at "MY rot"))) hp (StOk.mono (by assumption) (by walk_at "MY sub")) (by walk_at "MY apart") (ne_of_raw (by assumption) (by walk_at "MY sub")) ?_ ?_ ?_
  · intro I h5 tk5 o5 σ5 S5 T5 k5 pv5 hoc hS5 hap5 hf5 hl5 hov5 hoff hIf hId F5 N5
    have hg5 := hl5.2.2
    dsimp only
    k_steps
    refine Turn.intro (by assumption) (News.turn2 (by assumption) (by walk_at "MY rot")) (List.forall_mem_cons.mpr ⟨Nat.ne_of_lt hId, led_off hoff (by first | exact led_offT (by assumption) | walk_at "MY off")⟩)
      (JF.intro (StOk.mono (by assumption) (by walk_at "MY sub")) (by walk_at "MY suf") (by walk_at "MY apart") (by first | assumption | (refine off_cons (by first | exact raw_lt (by assumption) (by walk_at "MY mem") | ((try dsimp only); omega)) ?_; assumption)) (by walk_at "MY le") (by walk_at "MY over") (by first | exact ⟨_, _, rfl, TmIn.a (by walk_at "MY mem"), by assumption⟩ | exact ⟨_, _, rfl, by assumption, by assumption⟩) (map_one' ?_))
    intro z h1
    by_cases h3 : z = Str.ofString "args"
    · subst h3; rfl
    · simp only [if_neg h1, if_neg h3]

  · intro I h5 tk5 o5 σ5 S5 T5 a5 n5 k5 pv5 hoc hS5 hap5 hf5 hl5 hov5 ht5 hy5 hoff hIf hId F5 N5
    have hg5 := hl5.2.2
    dsimp only
    k_steps
    refine Turn.intro (by assumption) (News.turn2 (by assumption) (by walk_at "MY rot")) (List.forall_mem_cons.mpr ⟨Nat.ne_of_lt hId, led_off hoff (by first | exact led_offT (by assumption) | walk_at "MY off")⟩)
      (JF.intro (StOk.mono (by assumption) (by walk_at "MY sub")) (by walk_at "MY suf") (by walk_at "MY apart") (by first | assumption | (refine off_cons (by first | exact raw_lt (by assumption) (by walk_at "MY mem") | ((try dsimp only); omega)) ?_; assumption)) (by walk_at "MY le") (by walk_at "MY over") (by first | exact ⟨_, _, rfl, TmIn.a (by walk_at "MY mem"), by assumption⟩ | exact ⟨_, _, rfl, by assumption, by assumption⟩) (map_one' ?_))
    intro z h1
    by_cases h3 : z = Str.ofString "args"
    · subst h3; rfl
    · simp only [if_neg h1, if_neg h3]

  · intro h5 tk5 σ5 S5 T5 a5 n5 k5 pv5 hS5 hap5 hl5 hov5 ht5 hy5 F5 N5
    have hg5 := hl5.2.2
    (try dsimp only)
    k_steps
    refine hret _ _ _ _ _ _ _ (by assumption) (News.led (by assumption) (by walk_at "MY rot")) (StOk.mono (by assumption) (by walk_at "MY sub")) (by walk_at "MY suf") (by walk_at "MY le") (by walk_at "MY over") ⟨_, _, _, rfl, (by walk_at "MY tm"), hy5.mono (by walk_at "MY le"), by assumption⟩
end Mine
end

section
set_option maxRecDepth 100000
set_option maxHeartbeats 8000000
set_option Elab.async false
namespace Mine
open PySem PySem.W PyProof.Rows PySem.Calls PyProof.V PySem.Spec

theorem fill_hereY3 (w : World) (h : Heap) (X : (hd.heap_39 w.params).In h) (hp : PySem.Challenge.rw_no0155_01.prog = PySem.Challenge.rw_no0155_01.prog) : (hd.heap_39 w.params).In h ∧ PySem.Challenge.rw_no0155_01.prog = PySem.Challenge.rw_no0155_01.prog := by
  k_fill
  exact ⟨X, hp⟩

/-- a call that comes back or raises PrologError with a ball that f says -/
def CtrX (w : World) (mean : ExcName → Option Value) (mg mb : Str → Option Value) (c : Cx) (f : Addr) (D U : Nat) (vs : List Value) (σ : Sym) (T : List (Addr × Obj)) (g : Sym → Except Tm (List Int)) (Post : Sym → List (Addr × Obj) → List (Addr × Obj) → Value → Prop) : Prop :=
  ∀ (S : St) (A : Around) (env : Env) (outer : List Env) (base h₀ : Heap) (L : Addr) (m : Str → Option Value) (s : Shared) (Q E : Value → Shared → Prop),
    StOk w c σ S T → Apart c T → At w mean mg mb A env outer base h₀ L m (led w c S T) s → A.depth + D < recursionLimit → A.units + U < cLine →
    (∀ r σ' S' T2 T' h' tk', Fr h₀ L h' m → News h₀ L h' (led w c S' T') → StOk w c σ' S' T' → T' = T2 ++ T → σ.le σ' → (∀ p ∈ T2, Over c T p.1) → Post σ' T2 T' r → Q r { s with heap := h', toks := tk' }) →
    (∀ e σ' g' h' tk', Fr h₀ L g' m → g'.UpToSlots h' → RaisedD w base (env :: outer) e T (fun u => Says σ' g (.error u)) h' → σ.le σ' → E (.ref e) { s with heap := h', toks := tk' }) →
    wpAny (model PySem.Challenge.rw_no0155_01.row.prog w) A (call (.ref f) vs) Q E s
theorem CtrX.use {w : World} {mean : ExcName → Option Value} {mg mb : Str → Option Value} {c : Cx} {f : Addr} {D U : Nat} {vs : List Value} {σ : Sym} {T F T₁ news : List (Addr × Obj)} {g : Sym → Except Tm (List Int)} {Post : Sym → List (Addr × Obj) → List (Addr × Obj) → Value → Prop}
    {S : St} {A : Around} {env : Env} {outer : List Env} {base h₀ : Heap} {L : Addr} {m : Str → Option Value} {s : Shared} {Q E : Value → Shared → Prop}
    (x : At w mean mg mb A env outer base h₀ L m news s) (R : Rot w c S news T F) (hS : StOk w c σ S T₁) (hs : ∀ p ∈ T₁, p ∈ F ++ T) (ha : Apart c (F ++ T)) (hF : ∀ p ∈ F, p.2.cls ≠ .type "tuple") (C : CtrX w mean mg mb c f D U vs σ (F ++ T) g Post)
    (hd : A.depth + D < recursionLimit) (hu : A.units + U < cLine)
    (k : ∀ r σ' S' T2 h' tk', Fr h₀ L h' m → News h₀ L h' (F ++ led w c S' (T2 ++ T)) → (∀ p ∈ T2, Over c (F ++ T) p.1) → σ.le σ' → StOk w c σ' S' (T2 ++ T) → Apart c (T2 ++ T) → Post σ' T2 (T2 ++ (F ++ T)) r → Q r { s with heap := h', toks := tk' })
    (kx : ∀ e σ' g' h' tk', Fr h₀ L g' m → g'.UpToSlots h' → RaisedD w base (env :: outer) e T (fun u => Says σ' g (.error u)) h' → σ.le σ' → E (.ref e) { s with heap := h', toks := tk' }) :
    wpAny (model PySem.Challenge.rw_no0155_01.row.prog w) A (call (.ref f) vs) Q E s :=
  C S A env outer base h₀ L m s Q E (hS.mono hs) ha (x.sub R.sub) hd hu (fun r σ' S' T2 T' h' tk' F' N' S'' e' l' o' P' => by
    subst e'
    exact k r σ' S' T2 h' tk' F' (News.sub N' led_front) o' l' (S''.of_subT (SubT.front hF)) (Apart.app (fun p hp => (o' p hp).mono fun q hq => List.mem_append_right _ hq) fun p hp => ha p (List.mem_append_right _ hp)) P')
    fun e σ' g' h' tk' F' U' R' l' => kx e σ' g' h' tk' F' U' (R'.imp (fun _ z => z) fun p hp => List.mem_append_right _ hp) l'


theorem words_Y3 : True := by
  k_with_none
  k_with "@MY mem" => (first | with_reducible assumption | exact List.mem_cons_self | (with_reducible refine List.mem_cons_of_mem _ ?_; walk_at "MY mem") | (with_reducible refine List.mem_append_left _ ?_; walk_at "MY mem") | (with_reducible refine List.mem_append_right _ ?_; walk_at "MY mem") | exact led_sy | exact led_dx | exact led_ff | exact led_hd | exact led_cl | (with_reducible refine led_T ?_; walk_at "MY mem"))
  k_with "@call builtin:len" => ((k_here; (with_reducible show wpAny _ _ (call (Value.builtin "len") [Value.ref _]) _ _ _); k_dflt (refine len_list (by exact News.isList (by k_asm) (by walk_at "MY mem")) (by omega) ?_; k_whole)))
  k_with "@subscriptTail Subscript Name Constant Subscript ref int" => ((k_here; (with_reducible show wpAny _ _ (subscriptTail _ _ (Value.ref _) (Value.int _ _)) _ _ _); k_dflt (refine item_int (by exact News.isList (by k_asm) (by walk_at "MY mem")) (by omega) (by omega) (by omega) (by assumption) ?_; k_whole); intro j tj))
  k_with "@subscriptTail Name Constant ref int" => ((k_here; k_dflt (first | (refine item_list (by exact News.isList (by k_asm) (by walk_at "MY mem")) (by decide) (by decide) (by rfl) ?_; k_whole) | (refine item_tupleT (by exact News.isTup (by k_asm) (by walk_at "MY mem")) (by decide) (by decide) (by rfl) (by rfl) ?_; k_whole))))
  k_with "@subscriptTail Subscript Name Constant Constant ref int" => ((k_here; k_dflt (refine item_tupleT (by exact News.isTup (by k_asm) (by walk_at "MY mem")) (by decide) (by decide) (by rfl) (by rfl) ?_; k_whole)))
  k_with "@MY sub" => ((intro p9 hp9; walk_at "MY mem"))
  k_with "@MY units" => (((try simp only [units_in1, units_deeper, Around.mark_units, units_caller] at *); omega))
  k_with "@MY over" => (first | exact over_nil | assumption | (refine over_cons (over_of (by assumption) (by walk_at "MY mem") (by walk_at "MY sub")) ?_; walk_at "MY over") | (refine over_app ?_ ?_ <;> walk_at "MY over") | exact over_mono (by assumption) (by walk_at "MY sub"))
  k_with "@MY rot" => (first | exact Rot.base | (apply Rot.pushT; walk_at "MY rot") | (apply Rot.pushL; walk_at "MY rot") | (apply Rot.keep; walk_at "MY rot") | (apply Rot.drop; walk_at "MY rot"))
  k_with "@MY front" => (first | exact List.forall_mem_nil _ | (refine List.forall_mem_cons.mpr ⟨by first | assumption | decide, ?_⟩; walk_at "MY front"))
  k_with "@MY subT" => (first | exact SubT.front (by walk_at "MY front") | exact SubT.refl)
  k_with "@MY frames" => (first | exact Around.frames_deeper (by assumption) | (simp only [Around.in1_frames]; exact Around.frames_deeper (by assumption)))
  k_with "@MY handled" => (first | assumption | (simp only [Around.in1_handled]; assumption))
  k_with "@MY apart" => (((try simp only [List.nil_append, List.cons_append]); first | assumption | (refine Apart.cons (by first | with_reducible assumption | exact raw_lt (by assumption) (by walk_at "MY mem") | ((try dsimp only); omega)) ?_; walk_at "MY apart")))
  k_with "@MY le" => (first | exact Sym.le_refl _ | assumption | (refine Sym.le_trans ?_ (by assumption); walk_at "MY le"))
  k_with "@MY suf" => (first | exact suf_nil | (apply suf_cons; walk_at "MY suf") | (apply suf_app; walk_at "MY suf"))
  k_with "@MY off" => (first | exact led_offT (by assumption) | (refine off_cons (by first | exact raw_lt (by assumption) (by walk_at "MY mem") | ((try dsimp only); omega)) ?_; walk_at "MY off") | (refine off_join (off_app (by assumption) (by walk_at "MY mem")) ?_; walk_at "MY off"))
  k_with "@call builtin:list.append" => ((k_here; (with_reducible show wpAny _ _ (call (Value.builtin _) [Value.ref _, _]) _ _ _); k_dflt (refine append_K (by k_asm) (by k_asm) (by k_upd) ?_ (by (rw [sizeLine_eq]; simp only [List.size_toArray, List.length_cons, List.length_nil]; omega)); k_whole); intro h' F' N'; (try k_sweep)))
  k_with "@call builtin:len" => ((k_here; (with_reducible show wpAny _ _ (call (Value.builtin "len") [Value.ref _]) _ _ _); k_dflt (refine kun_lenL (by exact News.isList (by k_asm) (by walk_at "MY mem")) (by first | exact congrArg Nat.cast (by assumption) | rfl) (by omega) ?_; k_whole)))
  k_with "@call ref" => ((k_here; (with_reducible show wpAny _ _ (call (Value.ref 88) _) _ _ _); k_dflt ((refine Ctr.use (by exact ⟨⟨_, by k_asm⟩, by k_asm, by k_asm, by k_asm, by k_asm, by walk_at "MY frames", rfl, rfl, by walk_at "MY handled"⟩) (by walk_at "MY rot") (by assumption) (by walk_at "MY sub") (by walk_at "MY apart") (by walk_at "MY front") (atom_ok (by first | assumption | decide)) (by ktr_room) (by walk_at "MY units") ?_; k_whole; intro r1 σ1 S1 T21 h1 tk1 F1 N1 ho1 hl1 hS1 hap1 hP1; (have hg1 := hl1.2.2); (try simp only [List.nil_append] at ho1 hP1); (try dsimp only [List.nil_append, List.cons_append] at N1); obtain ⟨hT1, n1, t1, hr1, hn1, hn2, hy1, he1⟩ := hP1; subst hr1; subst hT1; (try simp only [List.nil_append] at hS1 hap1 N1); (try k_sweep); (try dsimp only)))))
  k_with "@call ref" => ((k_here; (with_reducible show wpAny _ _ (call (Value.ref 102) _) _ _ _); k_dflt ((refine Ctr.use (by exact ⟨⟨_, by k_asm⟩, by k_asm, by k_asm, by k_asm, by k_asm, by walk_at "MY frames", rfl, rfl, by walk_at "MY handled"⟩) (by walk_at "MY rot") (by assumption) (by walk_at "MY sub") (by walk_at "MY apart") (by walk_at "MY front") (functor_ok (by omega) (by omega) (by omega) (by omega) (by first | assumption | omega | ((with_reducible rename _ = Sym.inA _ _ => he9); rw [he9, inA_G]; assumption))) (by ktr_room) (by walk_at "MY units") ?_; k_whole; intro r1 σ1 S1 T21 h1 tk1 F1 N1 ho1 hl1 hS1 hap1 hP1; (have hg1 := hl1.2.2); (try simp only [List.nil_append] at ho1 hP1); (try dsimp only [List.nil_append, List.cons_append] at N1); obtain ⟨n1, t1, hr1, hk1, hy1, he1⟩ := hP1; subst hr1; (try k_sweep); (try dsimp only)))))
  k_with "@MY tm" => (first | assumption | exact TmIn.mono (by assumption) (by walk_at "MY sub") | exact TmIn.v (by walk_at "MY mem") | exact TmIn.i (by walk_at "MY mem") | exact TmIn.a (by walk_at "MY mem") | (apply TmIn.s2; (walk_at "MY mem"); (walk_at "MY mem"); (walk_at "MY tm"); (walk_at "MY tm")))
  k_with "@MY sub" => (first | (intro p9 hp9; walk_at "MY mem") | (refine sub_cons (by walk_at "MY mem") ?_; walk_at "MY sub") | (refine sub_app ?_ ?_ <;> walk_at "MY sub"))
  k_with "@call ref" => ((k_here; (with_reducible show wpAny _ _ (call (Value.ref 172) _) _ _ _); k_dflt ((refine Ctr.use (by exact ⟨⟨_, by k_asm⟩, by k_asm, by k_asm, by k_asm, by k_asm, by walk_at "MY frames", rfl, rfl, by walk_at "MY handled"⟩) (by walk_at "MY rot") (by assumption) (by walk_at "MY sub") (by walk_at "MY apart") (by walk_at "MY front") (sys_ok (by walk_at "MY tm")) (by ktr_room) (by walk_at "MY units") ?_; k_whole; intro r1 σ1 S1 T21 h1 tk1 F1 N1 ho1 hl1 hS1 hap1 hP1; (have hg1 := hl1.2.2); (try simp only [List.nil_append] at ho1 hP1); (try dsimp only [List.nil_append, List.cons_append] at N1); obtain ⟨e1, t1, d1, b1, k1, hr1, hm1, hm2, ht1⟩ := hP1; subst hr1; (try replace ht1 := TmIn.of_subT ht1 (by walk_at "MY subT")); (try k_sweep); (try dsimp only)))))
  k_with "@call ref" => ((k_here; (with_reducible show wpAny _ _ (call (Value.ref 179) _) _ _ _); k_dflt ((refine Ctr.use (by exact ⟨⟨_, by k_asm⟩, by k_asm, by k_asm, by k_asm, by k_asm, by walk_at "MY frames", rfl, rfl, by walk_at "MY handled"⟩) (by walk_at "MY rot") (by assumption) (by walk_at "MY sub") (by walk_at "MY apart") (by walk_at "MY front") (formal_ok (by omega) (by decide) (by assumption) (by walk_at "MY mem") (by walk_at "MY tm")) (by ktr_room) (by walk_at "MY units") ?_; k_whole; intro r1 σ1 S1 T21 h1 tk1 F1 N1 ho1 hl1 hS1 hap1 hP1; (have hg1 := hl1.2.2); (try simp only [List.nil_append] at ho1 hP1); (try dsimp only [List.nil_append, List.cons_append] at N1); obtain ⟨a1, f1, n1, hr1, ht1, hy1, hz1⟩ := hP1; subst hr1; (try replace ht1 := TmIn.of_subT ht1 (by walk_at "MY subT")); (try k_sweep); (try dsimp only)))))
  trivial

theorem terr_ok {w : World} {mean : ExcName → Option Value} {mg mb : Str → Option Value} {c : Cx} {σ : Sym} {T : List (Addr × Obj)} {x : Addr} {kind : Str} {tk : Tok} {t : Tm} (hb : 16 ≤ σ.G.length) (hk : kind ∈ uni) (hx : TmIn T x t) :
    Ctr w mean mg mb c 193 40 400 [.ref c.sy, .str kind tk, .ref x] σ T (fun σ' T2 T' r => ∃ u, Says σ' (fun τ => kindE τ (Str.ofString "type_error") kind t) u ∧ ExcOut w T2 T' r u) := by
  intro S A env outer base h₀ L m s Q E hS hT at' hA hU hret
  obtain ⟨⟨A₀, B⟩, F, X, N, T', hfr, hfl, hki, hha⟩ := at'
  obtain ⟨⟨o1, o2, o3, o4, o5, o6, o7⟩, hI, hlen⟩ := hS.cx
  refine wpAny_call ?_
  k_dflt (refine' code_def (binds := [(Str.ofString "symbols", .ref c.sy), (Str.ofString "kind", .str kind tk), (Str.ofString "culprit", .ref x)]) ?z6k1 ?z6k2 ?z6k3 ?z6k4 ?z6k5 ?z6kA ?z6kF ?z6kK ?z6k6 ?z6k7 ?z6k8 ?z6k9 ?z6kB ?_ ?z6c2 ?z6c3 ?z6c4 ?z6c5; (case z6kA => assumption); (case z6kF => assumption); (case z6kK => assumption); (case z6k1 => k_asm); (case z6k2 => k_asm); (case z6k3 => k_asm); (case z6k4 => k_asm); (case z6k5 => k_asm); (case z6k6 => k_is); (case z6k7 => k_is); (case z6k8 => ktr_room); (case z6k9 => exact BindsTo.of_eq rfl); (case z6c5 => decide); (case z6kB => exact locs rfl); (case z6c2 => exact rfl); (case z6c3 => exact rfl); (case z6c4 => exact rfl); k_whole; intro g' L' h' FG' F' N' B' X' T''; (try dsimp only); (try k_fold))
  k_steps
  refine hret _ _ _ _ _ _ _ (by assumption) (News.led (by assumption) (by walk_at "MY rot")) (StOk.mono (by assumption) (by walk_at "MY sub")) (by walk_at "MY suf") (by walk_at "MY le") (by walk_at "MY over") ⟨_, (says_kind (by assumption) (Sym.le_refl _) (by assumption)).mono (by walk_at "MY le"), _, _, _, _, _, rfl, (by walk_at "MY mem"), (by walk_at "MY mem"), by assumption⟩

theorem derr_ok {w : World} {mean : ExcName → Option Value} {mg mb : Str → Option Value} {c : Cx} {σ : Sym} {T : List (Addr × Obj)} {x : Addr} {kind : Str} {tk : Tok} {t : Tm} (hb : 16 ≤ σ.G.length) (hk : kind ∈ uni) (hx : TmIn T x t) :
    Ctr w mean mg mb c 200 40 400 [.ref c.sy, .str kind tk, .ref x] σ T (fun σ' T2 T' r => ∃ u, Says σ' (fun τ => kindE τ (Str.ofString "domain_error") kind t) u ∧ ExcOut w T2 T' r u) := by
  intro S A env outer base h₀ L m s Q E hS hT at' hA hU hret
  obtain ⟨⟨A₀, B⟩, F, X, N, T', hfr, hfl, hki, hha⟩ := at'
  obtain ⟨⟨o1, o2, o3, o4, o5, o6, o7⟩, hI, hlen⟩ := hS.cx
  refine wpAny_call ?_
  k_dflt (refine' code_def (binds := [(Str.ofString "symbols", .ref c.sy), (Str.ofString "kind", .str kind tk), (Str.ofString "culprit", .ref x)]) ?z7k1 ?z7k2 ?z7k3 ?z7k4 ?z7k5 ?z7kA ?z7kF ?z7kK ?z7k6 ?z7k7 ?z7k8 ?z7k9 ?z7kB ?_ ?z7c2 ?z7c3 ?z7c4 ?z7c5; (case z7kA => assumption); (case z7kF => assumption); (case z7kK => assumption); (case z7k1 => k_asm); (case z7k2 => k_asm); (case z7k3 => k_asm); (case z7k4 => k_asm); (case z7k5 => k_asm); (case z7k6 => k_is); (case z7k7 => k_is); (case z7k8 => ktr_room); (case z7k9 => exact BindsTo.of_eq rfl); (case z7c5 => decide); (case z7kB => exact locs rfl); (case z7c2 => exact rfl); (case z7c3 => exact rfl); (case z7c4 => exact rfl); k_whole; intro g' L' h' FG' F' N' B' X' T''; (try dsimp only); (try k_fold))
  k_steps
  refine hret _ _ _ _ _ _ _ (by assumption) (News.led (by assumption) (by walk_at "MY rot")) (StOk.mono (by assumption) (by walk_at "MY sub")) (by walk_at "MY suf") (by walk_at "MY le") (by walk_at "MY over") ⟨_, (says_kind (by assumption) (Sym.le_refl _) (by assumption)).mono (by walk_at "MY le"), _, _, _, _, _, rfl, (by walk_at "MY mem"), (by walk_at "MY mem"), by assumption⟩

end Mine
end

section
set_option maxRecDepth 100000
set_option maxHeartbeats 8000000
set_option Elab.async false
namespace Mine
open PySem PySem.W PyProof.Rows PySem.Calls PyProof.V PySem.Spec

theorem fill_hereY4 (w : World) (h : Heap) (X : (hd.heap_39 w.params).In h) (hp : PySem.Challenge.rw_no0155_01.prog = PySem.Challenge.rw_no0155_01.prog) : (hd.heap_39 w.params).In h ∧ PySem.Challenge.rw_no0155_01.prog = PySem.Challenge.rw_no0155_01.prog := by
  k_fill
  exact ⟨X, hp⟩

theorem over_ne {c : Cx} {T T₁ T2 : List (Addr × Obj)} {e : Addr} {o : Obj} (h : ∀ p ∈ T2, Over c T₁ p.1) (k : (e, o) ∈ T2) (s : ∀ p ∈ T, p ∈ T₁) : ∀ p ∈ T, p.1 ≠ e := fun p hp => Nat.ne_of_lt ((h _ k).2 p (s p hp))
def RaisedAll (w : World) (base : Heap) (l : List Env) (e : Addr) (news : List (Addr × Obj)) (u : Tm) (h : Heap) : Prop := ∀ T : List (Addr × Obj), (∀ p ∈ T, p ∈ news) → (∀ p ∈ T, p.1 ≠ e) → RaisedD w base l e T (fun x => x = u) h
theorem leave_newA {M : Model} {A : Around} {E : Value → Shared → Prop} {s' : Shared} {base g : Heap} {outer : List Env} {L a e : Addr} {m : Str → Option Value} {name : Str} {scope : Scope} {cd : Value} {Q : Unit → Shared → Prop} {w : World}
    {t d b : Addr} {k : Tok} {news T' : List (Addr × Obj)} {u : Tm} (K : Below A base outer g) (F : Fr g L s'.heap m) (N : News g L s'.heap news) (he : (e, excD t d) ∈ news) (hd : (d, ballD w (.ref b) k) ∈ news)
    (htm : TmIn T' b u) (hT' : ∀ p ∈ T', p ∈ news) (hQ : ∀ h', RaisedAll w base outer e news u h' → g.UpToSlots h' → Q () { s' with heap := h' }) (hk : scope.kind = .function := by rfl) :
    wpAny M (A.deeper (envOf name scope L a cd)) (leaving (envOf name scope L a cd) (.ref e)) Q E s' :=
  leave_newD (T := news.filter fun p => decide (p.1 ≠ e)) K F N he hd hT' htm (fun p hp => (List.mem_filter.mp hp).1) (fun p hp => of_decide_eq_true (List.mem_filter.mp hp).2)
    (fun h' R U => hQ h' (fun T hT hTe => R.imp (fun _ z => z) fun p hp => List.mem_filter.mpr ⟨hT p hp, decide_eq_true (hTe p hp)⟩) U) hk
theorem exc_end {w : World} {base : Heap} {l : List Env} {e : Addr} {news T : List (Addr × Obj)} {u : Tm} {h : Heap} {σ : Sym} {g : Sym → Except Tm (List Int)} (hR : RaisedAll w base l e news u h) (hT : ∀ p ∈ T, p ∈ news) (hTe : ∀ p ∈ T, p.1 ≠ e) (hy : Says σ g (.error u)) :
    RaisedD w base l e T (fun u => Says σ g (.error u)) h := (hR T hT hTe).imp (fun _ z => by subst z; exact hy) fun _ z => z
theorem says_single {σ : Sym} {t : Tm} {m k n : Int} (h : ∀ τ, single τ t = .ok (τ.fn m k)) (q : Says σ (fun τ => τ.fn m k) n) : Says σ (fun τ => single τ t) (.ok n) := fun τ r => by
  have e := q τ r
  dsimp only at e ⊢
  rw [h τ, e]





theorem words_NY4 : True := by
  k_with_none
  k_with "@MY mem" => (first | with_reducible assumption | exact List.mem_cons_self | (with_reducible refine List.mem_cons_of_mem _ ?_; walk_at "MY mem") | (with_reducible refine List.mem_append_left _ ?_; walk_at "MY mem") | (with_reducible refine List.mem_append_right _ ?_; walk_at "MY mem") | exact led_sy | exact led_dx | exact led_ff | exact led_hd | exact led_cl | (with_reducible refine led_T ?_; walk_at "MY mem"))
  k_with "@call builtin:len" => ((k_here; (with_reducible show wpAny _ _ (call (Value.builtin "len") [Value.ref _]) _ _ _); k_dflt (refine len_list (by exact News.isList (by k_asm) (by walk_at "MY mem")) (by omega) ?_; k_whole)))
  k_with "@subscriptTail Subscript Name Constant Subscript ref int" => ((k_here; (with_reducible show wpAny _ _ (subscriptTail _ _ (Value.ref _) (Value.int _ _)) _ _ _); k_dflt (refine item_int (by exact News.isList (by k_asm) (by walk_at "MY mem")) (by omega) (by omega) (by omega) (by assumption) ?_; k_whole); intro j tj))
  k_with "@subscriptTail Name Constant ref int" => ((k_here; k_dflt (first | (refine item_list (by exact News.isList (by k_asm) (by walk_at "MY mem")) (by decide) (by decide) (by rfl) ?_; k_whole) | (refine item_tupleT (by exact News.isTup (by k_asm) (by walk_at "MY mem")) (by decide) (by decide) (by rfl) (by rfl) ?_; k_whole))))
  k_with "@subscriptTail Subscript Name Constant Constant ref int" => ((k_here; k_dflt (refine item_tupleT (by exact News.isTup (by k_asm) (by walk_at "MY mem")) (by decide) (by decide) (by rfl) (by rfl) ?_; k_whole)))
  k_with "@MY sub" => ((intro p9 hp9; walk_at "MY mem"))
  k_with "@MY units" => (((try simp only [units_in1, units_deeper, Around.mark_units, units_caller] at *); omega))
  k_with "@MY over" => (first | exact over_nil | assumption | (refine over_cons (over_of (by assumption) (by walk_at "MY mem") (by walk_at "MY sub")) ?_; walk_at "MY over") | (refine over_app ?_ ?_ <;> walk_at "MY over") | exact over_mono (by assumption) (by walk_at "MY sub"))
  k_with "@MY rot" => (first | exact Rot.base | (apply Rot.pushT; walk_at "MY rot") | (apply Rot.pushL; walk_at "MY rot") | (apply Rot.keep; walk_at "MY rot") | (apply Rot.drop; walk_at "MY rot"))
  k_with "@MY front" => (first | exact List.forall_mem_nil _ | (refine List.forall_mem_cons.mpr ⟨by first | assumption | decide, ?_⟩; walk_at "MY front"))
  k_with "@MY subT" => (first | exact SubT.front (by walk_at "MY front") | exact SubT.refl)
  k_with "@MY frames" => (first | exact Around.frames_deeper (by assumption) | (simp only [Around.in1_frames]; exact Around.frames_deeper (by assumption)))
  k_with "@MY handled" => (first | assumption | (simp only [Around.in1_handled]; assumption))
  k_with "@MY apart" => (((try simp only [List.nil_append, List.cons_append]); first | assumption | (refine Apart.cons (by first | with_reducible assumption | exact raw_lt (by assumption) (by walk_at "MY mem") | ((try dsimp only); omega)) ?_; walk_at "MY apart")))
  k_with "@MY le" => (first | exact Sym.le_refl _ | assumption | (refine Sym.le_trans ?_ (by assumption); walk_at "MY le"))
  k_with "@MY suf" => (first | exact suf_nil | (apply suf_cons; walk_at "MY suf") | (apply suf_app; walk_at "MY suf"))
  k_with "@MY off" => (first | exact led_offT (by assumption) | (refine off_cons (by first | exact raw_lt (by assumption) (by walk_at "MY mem") | ((try dsimp only); omega)) ?_; walk_at "MY off") | (refine off_join (off_app (by assumption) (by walk_at "MY mem")) ?_; walk_at "MY off"))
  k_with "@call builtin:list.append" => ((k_here; (with_reducible show wpAny _ _ (call (Value.builtin _) [Value.ref _, _]) _ _ _); k_dflt (refine append_K (by k_asm) (by k_asm) (by k_upd) ?_ (by (rw [sizeLine_eq]; simp only [List.size_toArray, List.length_cons, List.length_nil]; omega)); k_whole); intro h' F' N'; (try k_sweep)))
  k_with "@call builtin:len" => ((k_here; (with_reducible show wpAny _ _ (call (Value.builtin "len") [Value.ref _]) _ _ _); k_dflt (refine kun_lenL (by exact News.isList (by k_asm) (by walk_at "MY mem")) (by first | exact congrArg Nat.cast (by assumption) | rfl) (by omega) ?_; k_whole)))
  k_with "@call ref" => ((k_here; (with_reducible show wpAny _ _ (call (Value.ref 88) _) _ _ _); k_dflt ((refine Ctr.use (by exact ⟨⟨_, by k_asm⟩, by k_asm, by k_asm, by k_asm, by k_asm, by walk_at "MY frames", rfl, rfl, by walk_at "MY handled"⟩) (by walk_at "MY rot") (by assumption) (by walk_at "MY sub") (by walk_at "MY apart") (by walk_at "MY front") (atom_ok (by first | assumption | decide)) (by ktr_room) (by walk_at "MY units") ?_; k_whole; intro r1 σ1 S1 T21 h1 tk1 F1 N1 ho1 hl1 hS1 hap1 hP1; (have hg1 := hl1.2.2); (try simp only [List.nil_append] at ho1 hP1); (try dsimp only [List.nil_append, List.cons_append] at N1); obtain ⟨hT1, n1, t1, hr1, hn1, hn2, hy1, he1⟩ := hP1; subst hr1; subst hT1; (try simp only [List.nil_append] at hS1 hap1 N1); (try k_sweep); (try dsimp only)))))
  k_with "@call ref" => ((k_here; (with_reducible show wpAny _ _ (call (Value.ref 102) _) _ _ _); k_dflt ((refine Ctr.use (by exact ⟨⟨_, by k_asm⟩, by k_asm, by k_asm, by k_asm, by k_asm, by walk_at "MY frames", rfl, rfl, by walk_at "MY handled"⟩) (by walk_at "MY rot") (by assumption) (by walk_at "MY sub") (by walk_at "MY apart") (by walk_at "MY front") (functor_ok (by omega) (by omega) (by omega) (by omega) (by first | assumption | omega | ((with_reducible rename _ = Sym.inA _ _ => he9); rw [he9, inA_G]; assumption))) (by ktr_room) (by walk_at "MY units") ?_; k_whole; intro r1 σ1 S1 T21 h1 tk1 F1 N1 ho1 hl1 hS1 hap1 hP1; (have hg1 := hl1.2.2); (try simp only [List.nil_append] at ho1 hP1); (try dsimp only [List.nil_append, List.cons_append] at N1); obtain ⟨n1, t1, hr1, hk1, hy1, he1⟩ := hP1; subst hr1; (try k_sweep); (try dsimp only)))))
  k_with "@MY tm" => (first | assumption | exact TmIn.mono (by assumption) (by walk_at "MY sub") | exact TmIn.v (by walk_at "MY mem") | exact TmIn.i (by walk_at "MY mem") | exact TmIn.a (by walk_at "MY mem") | (apply TmIn.s2; (walk_at "MY mem"); (walk_at "MY mem"); (walk_at "MY tm"); (walk_at "MY tm")))
  k_with "@MY sub" => (first | (intro p9 hp9; walk_at "MY mem") | (refine sub_cons (by walk_at "MY mem") ?_; walk_at "MY sub") | (refine sub_app ?_ ?_ <;> walk_at "MY sub"))
  k_with "@call ref" => ((k_here; (with_reducible show wpAny _ _ (call (Value.ref 186) _) _ _ _); k_dflt ((refine Ctr.use (by exact ⟨⟨_, by k_asm⟩, by k_asm, by k_asm, by k_asm, by k_asm, by walk_at "MY frames", rfl, rfl, by walk_at "MY handled"⟩) (by walk_at "MY rot") (by assumption) (by walk_at "MY sub") (by walk_at "MY apart") (by walk_at "MY front") (inst_ok) (by ktr_room) (by walk_at "MY units") ?_; k_whole; intro r1 σ1 S1 T21 h1 tk1 F1 N1 ho1 hl1 hS1 hap1 hP1; (have hg1 := hl1.2.2); (try simp only [List.nil_append] at ho1 hP1); (try dsimp only [List.nil_append, List.cons_append] at N1); obtain ⟨u1, hy1, e1, t1, d1, b1, k1, hr1, hm1, hm2, ht1⟩ := hP1; subst hr1; (try replace ht1 := TmIn.of_subT ht1 (by walk_at "MY subT")); (try k_sweep); (try dsimp only)))))
  k_with "@call ref" => ((k_here; (with_reducible show wpAny _ _ (call (Value.ref 193) _) _ _ _); k_dflt ((refine Ctr.use (by exact ⟨⟨_, by k_asm⟩, by k_asm, by k_asm, by k_asm, by k_asm, by walk_at "MY frames", rfl, rfl, by walk_at "MY handled"⟩) (by walk_at "MY rot") (by assumption) (by walk_at "MY sub") (by walk_at "MY apart") (by walk_at "MY front") (terr_ok (by omega) (by decide) (by walk_at "MY tm")) (by ktr_room) (by walk_at "MY units") ?_; k_whole; intro r1 σ1 S1 T21 h1 tk1 F1 N1 ho1 hl1 hS1 hap1 hP1; (have hg1 := hl1.2.2); (try simp only [List.nil_append] at ho1 hP1); (try dsimp only [List.nil_append, List.cons_append] at N1); obtain ⟨u1, hy1, e1, t1, d1, b1, k1, hr1, hm1, hm2, ht1⟩ := hP1; subst hr1; (try replace ht1 := TmIn.of_subT ht1 (by walk_at "MY subT")); (try k_sweep); (try dsimp only)))))
  k_with "@call ref" => ((k_here; (with_reducible show wpAny _ _ (call (Value.ref 200) _) _ _ _); k_dflt ((refine Ctr.use (by exact ⟨⟨_, by k_asm⟩, by k_asm, by k_asm, by k_asm, by k_asm, by walk_at "MY frames", rfl, rfl, by walk_at "MY handled"⟩) (by walk_at "MY rot") (by assumption) (by walk_at "MY sub") (by walk_at "MY apart") (by walk_at "MY front") (derr_ok (by omega) (by decide) (by walk_at "MY tm")) (by ktr_room) (by walk_at "MY units") ?_; k_whole; intro r1 σ1 S1 T21 h1 tk1 F1 N1 ho1 hl1 hS1 hap1 hP1; (have hg1 := hl1.2.2); (try simp only [List.nil_append] at ho1 hP1); (try dsimp only [List.nil_append, List.cons_append] at N1); obtain ⟨u1, hy1, e1, t1, d1, b1, k1, hr1, hm1, hm2, ht1⟩ := hP1; subst hr1; (try replace ht1 := TmIn.of_subT ht1 (by walk_at "MY subT")); (try k_sweep); (try dsimp only)))))
  k_with "@assign Tuple" => ((k_here; (with_reducible show wpAny _ _ (assign (Expr.Tuple _ _ _) _ (Value.ref _)) _ _ _); k_dflt (refine unpackN_ (by k_asm) (by k_asm) (by exact News.isTup (by k_asm) (by walk_at "MY mem")) (by walk_at "MY handled") (by exact rfl) (by exact rfl) ?_; k_whole); intro h' F' N'; (try k_sweep)))
  k_with "@exec Raise" => ((k_here; k_dflt (refine Raise_D (by walk_at "MY handled") ?_; k_whole)))
  k_with "@exec Raise some none" => ((k_here; k_dflt (refine Raise_D (by walk_at "MY handled") ?_; k_whole)))
  k_with "@RaiseEnd" => ((k_here; k_dflt (refine raiseEnd (by k_asm) (by k_asm) (by k_asm) (by walk_at "MY mem") ?_; k_whole)))
  k_with "@leaving ref" => ((k_here; k_dflt (refine leave_newA (by assumption) (by k_asm) (by k_asm) (by walk_at "MY mem") (by walk_at "MY mem") (by assumption) (by walk_at "MY sub") ?_; k_whole); intro h' R' U'; (try dsimp only at R' U' ⊢)))
  k_with "@isTrue Compare" => ((k_here; focus (k_dflt (first | ((with_reducible show wpAny _ _ (isTrue (PySem.Expr.Compare (PySem.Expr.Subscript (PySem.Expr.Name _ _) (PySem.Expr.Constant (PySem.Const.int 0) _ _) _) [CmpOp.Eq] [PySem.Expr.Constant (PySem.Const.str _) _ _] _) _ _) _ _ _); refine test_tag (by k_asm) (by rfl) (by k_asm) (by assumption) (by walk_at "MY sub") ?_ ?_; k_whole) | ((with_reducible show wpAny _ _ (isTrue (PySem.Expr.Compare (PySem.Expr.Subscript (PySem.Expr.Name _ _) (PySem.Expr.Constant (PySem.Const.int 0) _ _) _) [CmpOp.NotEq] [PySem.Expr.Constant (PySem.Const.str _) _ _] _) _ _) _ _ _); refine test_tagN (by k_asm) (by rfl) (by k_asm) (by assumption) (by walk_at "MY sub") ?_ ?_; k_whole) | ((with_reducible show wpAny _ _ (isTrue (PySem.Expr.Compare (PySem.Expr.Subscript (PySem.Expr.Name _ _) (PySem.Expr.Constant (PySem.Const.int 1) _ _) _) [CmpOp.Eq] [PySem.Expr.Name _ _] _) _ _) _ _ _); refine test_num (by k_asm) (by rfl) (by k_asm) (by assumption) (by walk_at "MY sub") (by k_asm) (by k_asm) (by k_is) ?_ ?_; k_whole) | ((with_reducible show wpAny _ _ (isTrue (PySem.Expr.Compare (PySem.Expr.Subscript (PySem.Expr.Name _ _) (PySem.Expr.Constant (PySem.Const.int 1) _ _) _) [CmpOp.NotEq] [PySem.Expr.Name _ _] _) _ _) _ _ _); refine test_numN (by k_asm) (by rfl) (by k_asm) (by assumption) (by walk_at "MY sub") (by k_asm) (by k_asm) (by k_is) ?_ ?_; k_whole) | ((with_reducible show wpAny _ _ (isTrue (PySem.Expr.Compare (PySem.Expr.Subscript (PySem.Expr.Name _ _) (PySem.Expr.Constant (PySem.Const.int 1) _ _) _) [CmpOp.Lt] [PySem.Expr.Constant (PySem.Const.int _) _ _] _) _ _) _ _ _); refine test_neg (by k_asm) (by rfl) (by k_asm) (by assumption) (by walk_at "MY sub") ?_ ?_; k_whole)); (all_goals (intro htag ttg)); (all_goals (try (first | exact absurd (by assumption) htag | exact absurd htag (by assumption) | exact absurd (htag.symm.trans (by assumption)) (by decide)))); (all_goals (try (have hop9 := TmIn.open (by assumption) (by assumption) (by assumption) htag (by decide); obtain ⟨bq, xq, yq, tq1, tq2, txq, tyq, eq9, mq1, mq2, hxq, hyq, okxq, okyq, hszq⟩ := hop9; (try subst eq9)))); (all_goals ((try (have hbq := ok_a (by assumption) htag)); (try (have hbq := ok_i (by assumption) htag)))); (all_goals (try dsimp only)))))
  k_with "@eval Subscript" => ((k_here; k_dflt (first | ((with_reducible show wpAny _ _ (eval (PySem.Expr.Subscript (PySem.Expr.Name _ _) (PySem.Expr.Constant (PySem.Const.int 0) _ _) _) _) _ _ _); refine sub_tag (by k_asm) (by rfl) (by k_asm) (by assumption) (by walk_at "MY sub") ?_; k_whole; intro tkg ttg) | ((with_reducible show wpAny _ _ (eval (PySem.Expr.Subscript (PySem.Expr.Name _ _) (PySem.Expr.Constant (PySem.Const.int 1) _ _) _) _) _ _ _); refine sub_num (by k_asm) (by rfl) (by k_asm) (by assumption) (by walk_at "MY sub") ?_; k_whole; intro tkg ttg) | ((with_reducible show wpAny _ _ (eval (PySem.Expr.Subscript (PySem.Expr.Name _ _) (PySem.Expr.Constant (PySem.Const.int 2) _ _) _) _) _ _ _); refine sub_two (by k_asm) (by rfl) (by k_asm) (by walk_at "MY mem") ?_; k_whole; intro ttg) | ((with_reducible show wpAny _ _ (eval (PySem.Expr.Subscript (PySem.Expr.Subscript (PySem.Expr.Name _ _) (PySem.Expr.Constant (PySem.Const.int 2) _ _) _) (PySem.Expr.Constant (PySem.Const.int 0) _ _) _) _) _ _ _); refine sub_kid (by k_asm) (by rfl) (by k_asm) (by walk_at "MY mem") (by walk_at "MY mem") ?_; k_whole; intro ttg) | ((with_reducible show wpAny _ _ (eval (PySem.Expr.Subscript (PySem.Expr.Subscript (PySem.Expr.Name _ _) (PySem.Expr.Constant (PySem.Const.int 2) _ _) _) (PySem.Expr.Constant (PySem.Const.int 1) _ _) _) _) _ _ _); refine sub_kid1 (by k_asm) (by rfl) (by k_asm) (by walk_at "MY mem") (by walk_at "MY mem") ?_; k_whole; intro ttg)); (try dsimp only)))
  k_with "@compareOp In str ref" => ((k_here; k_dflt (refine in_two (by k_asm) (by walk_at "MY mem") ?_ ?_; k_whole); (rotate_left; (intro htx hty; (try dsimp only)); rotate_right); intro htag; (try dsimp only)))
  trivial

theorem rind_ok {w : World} {mean : ExcName → Option Value} {mg mb : Str → Option Value} {c : Cx} {σ : Sym} {T : List (Addr × Obj)} {a : Addr} {t : Tm} (hb : 16 ≤ σ.G.length) (ht : TmIn T a t) (hok : t.Ok) :
    CtrX w mean mg mb c 207 60 600 [.ref c.sy, .ref a] σ T (fun τ => one τ t) (fun σ' _ _ r => ∃ n tk, r = .int n tk ∧ Says σ' (fun τ => single τ t) (.ok n)) := by
  intro S A env outer base h₀ L m s Q E hS hT at' hA hU hret hexc
  obtain ⟨⟨A₀, B⟩, F, X, N, T', hfr, hfl, hki, hha⟩ := at'
  obtain ⟨⟨o1, o2, o3, o4, o5, o6, o7⟩, hI, hlen⟩ := hS.cx
  refine wpAny_call ?_
  k_dflt (refine' code_def (binds := [(Str.ofString "symbols", .ref c.sy), (Str.ofString "term", .ref a)]) ?z6k1 ?z6k2 ?z6k3 ?z6k4 ?z6k5 ?z6kA ?z6kF ?z6kK ?z6k6 ?z6k7 ?z6k8 ?z6k9 ?z6kB ?_ ?z6c2 ?z6c3 ?z6c4 ?z6c5; (case z6kA => assumption); (case z6kF => assumption); (case z6kK => assumption); (case z6k1 => k_asm); (case z6k2 => k_asm); (case z6k3 => k_asm); (case z6k4 => k_asm); (case z6k5 => k_asm); (case z6k6 => k_is); (case z6k7 => k_is); (case z6k8 => ktr_room); (case z6k9 => exact BindsTo.of_eq rfl); (case z6c5 => decide); (case z6kB => exact locs rfl); (case z6c2 => exact rfl); (case z6c3 => exact rfl); (case z6c4 => exact rfl); k_whole; intro g' L' h' FG' F' N' B' X' T''; (try dsimp only); (try k_fold))
  k_steps
  · refine hexc _ _ _ _ _ (by assumption) (by assumption) (exc_end (by assumption) (by walk_at "MY sub") (over_ne (by assumption) (by assumption) (by walk_at "MY sub")) (says_err (g := instE) (fun τ => one_err (single_v (by assumption))) (by assumption))) (by walk_at "MY le")
  · refine hexc _ _ _ _ _ (by assumption) (by assumption) (exc_end (by assumption) (by walk_at "MY sub") (over_ne (by assumption) (by assumption) (by walk_at "MY sub")) (says_err (g := fun τ => typeE τ (Str.ofString "predicate_indicator") _) (fun τ => one_err (single_p (by assumption) (.inl (by assumption)))) (by assumption))) (by walk_at "MY le")
  · refine hexc _ _ _ _ _ (by assumption) (by assumption) (exc_end (by assumption) (by walk_at "MY sub") (over_ne (by assumption) (by assumption) (by walk_at "MY sub")) (says_err (g := fun τ => typeE τ (Str.ofString "predicate_indicator") _) (fun τ => one_err (single_p (by assumption) (.inr (by assumption)))) (by assumption))) (by walk_at "MY le")
  · refine hexc _ _ _ _ _ (by assumption) (by assumption) (exc_end (by assumption) (by walk_at "MY sub") (over_ne (by assumption) (by assumption) (by walk_at "MY sub")) (says_err (g := instE) (fun τ => one_err (single_sv (.inl (by assumption)))) (by assumption))) (by walk_at "MY le")
  · refine hexc _ _ _ _ _ (by assumption) (by assumption) (exc_end (by assumption) (by walk_at "MY sub") (over_ne (by assumption) (by assumption) (by walk_at "MY sub")) (says_err (g := instE) (fun τ => one_err (single_sv (.inr (by assumption)))) (by assumption))) (by walk_at "MY le")
  · refine hexc _ _ _ _ _ (by assumption) (by assumption) (exc_end (by assumption) (by walk_at "MY sub") (over_ne (by assumption) (by assumption) (by walk_at "MY sub")) (says_err (g := fun τ => typeE τ (Str.ofString "integer") _) (fun τ => one_err (single_si (by assumption) (by assumption) (by assumption))) (by assumption))) (by walk_at "MY le")
  · refine hexc _ _ _ _ _ (by assumption) (by assumption) (exc_end (by assumption) (by walk_at "MY sub") (over_ne (by assumption) (by assumption) (by walk_at "MY sub")) (says_err (g := fun τ => typeE τ (Str.ofString "atom") _) (fun τ => one_err (single_sa (by assumption) (by assumption) (by assumption) (by assumption))) (by assumption))) (by walk_at "MY le")
  · refine hexc _ _ _ _ _ (by assumption) (by assumption) (exc_end (by assumption) (by walk_at "MY sub") (over_ne (by assumption) (by assumption) (by walk_at "MY sub")) (says_err (g := fun τ => domE τ _) (fun τ => one_err (single_sn (by assumption) (by assumption) (by assumption))) (by assumption))) (by walk_at "MY le")
  · refine hret _ _ _ _ _ _ _ (by assumption) (News.led (by assumption) (by walk_at "MY rot")) (StOk.mono (by assumption) (by walk_at "MY sub")) (by walk_at "MY suf") (by walk_at "MY le") (by walk_at "MY over") ⟨_, _, rfl, says_single (fun τ => single_ok (by assumption) (by assumption) (by assumption)) (by assumption)⟩
end Mine
end

section
set_option maxRecDepth 100000
set_option maxHeartbeats 8000000
set_option Elab.async false
namespace Mine
open PySem PySem.W PyProof.Rows PySem.Calls PyProof.V PySem.Spec

theorem fill_hereY6 (w : World) (h : Heap) (X : (hd.heap_39 w.params).In h) (hp : PySem.Challenge.rw_no0155_01.prog = PySem.Challenge.rw_no0155_01.prog) : (hd.heap_39 w.params).In h ∧ PySem.Challenge.rw_no0155_01.prog = PySem.Challenge.rw_no0155_01.prog := by
  k_fill
  exact ⟨X, hp⟩
/-- the loop down a list: what holds ahead of a turn -/
def JCX (x : Str) (w : World) (c : Cx) (S : St) (T₀ : List (Addr × Obj)) (p : Addr) (m₀ : Str → Option Value) (t : Tm) (n : Nat) (m : Str → Option Value) (news : List (Addr × Obj)) : Prop :=
  ∃ e te its k done, n = te.size ∧ news = (p, listOf its k) :: led w c S T₀ ∧ TmIn T₀ e te ∧ ItemsR T₀ its.toList done ∧ t.items = done ++ te.items ∧ t.tail = te.tail ∧ te.Ok ∧ te.size ≤ t.size ∧ done.length + te.size ≤ t.size ∧ m = fun z => if z = x then some (.ref e) else m₀ z
theorem JCX.intro {x : Str} {w : World} {c : Cx} {S : St} {T₀ : List (Addr × Obj)} {p e : Addr} {m₀ m : Str → Option Value} {t te : Tm} {its : Array Value} {k : Nat} {done : List Tm} (h1 : TmIn T₀ e te) (h2 : ItemsR T₀ its.toList done) (h3 : t.items = done ++ te.items) (h4 : t.tail = te.tail) (h5 : te.Ok) (h6 : te.size ≤ t.size)
    (h7 : done.length + te.size ≤ t.size) (hm : m = fun z => if z = x then some (.ref e) else m₀ z) : JCX x w c S T₀ p m₀ t te.size m ((p, listOf its k) :: led w c S T₀) := ⟨e, te, its, k, done, rfl, rfl, h1, h2, h3, h4, h5, h6, h7, hm⟩
theorem chain_loopX {x : Str} {w : World} {A : Around} {s : Shared} {env : Env} {h₀ : Heap} {L p a : Addr} {test : Expr} {body : List Stmt} {pos : Pos} {Q : Flow → Shared → Prop} {E : Value → Shared → Prop} {m : Str → Option Value} {c : Cx} {S : St} {T₀ : List (Addr × Obj)} {t : Tm}
    (F : Fr h₀ L s.heap m) (N : News h₀ L s.heap ((p, listOf #[] 0) :: led w c S T₀)) (hm : m (x) = some (.ref a)) (ht : TmIn T₀ a t) (hok : t.Ok)
    (turn : ∀ e te (its : Array Value) k done h₁ tk₁, TmIn T₀ e te → its.size = done.length → ItemsR T₀ its.toList done → t.items = done ++ te.items → t.tail = te.tail → te.Ok → te.size ≤ t.size → done.length + te.size ≤ t.size → Fr h₀ L h₁ (fun z => if z = x then some (.ref e) else m z) → News h₀ L h₁ ((p, listOf its k) :: led w c S T₀) →
      wpAny (model PySem.Challenge.rw_no0155_01.row.prog w) A (isTrue test env (eval test env)) (fun b s₂ =>
        if b = true then wpAny (model PySem.Challenge.rw_no0155_01.row.prog w) A (execs body env) (WhileStep h₀ L s (JCX x w c S T₀ p m t) te.size) E s₂ else Q .next s₂) E { s with heap := h₁, toks := tk₁ })
    (hE : PassesOwn (model PySem.Challenge.rw_no0155_01.row.prog w) A env E := by passes_own) : wpAny (model PySem.Challenge.rw_no0155_01.row.prog w) A (exec (.While test body [] pos) env) Q E s := by
  refine While_inv (JCX x w c S T₀ p m t) (n₀ := t.size) F N ⟨a, t, #[], 0, [], rfl, rfl, ht, .nil, rfl, rfl, hok, Nat.le_refl _, by simp, map_one hm⟩ ?_ hE
  rintro n m₁ news₁ h₁ tk₁ F₁ N₁ ⟨e, te, its, k, done, rfl, rfl, h1, h2, h3, h4, h5, h6, h7, rfl⟩
  exact turn e te its k done h₁ tk₁ h1 (by rw [← h2.1]; simp) h2 h3 h4 h5 h6 h7 F₁ N₁







theorem words_NY6 : True := by
  k_with_none
  k_with "@MY mem" => (first | with_reducible assumption | exact List.mem_cons_self | (with_reducible refine List.mem_cons_of_mem _ ?_; walk_at "MY mem") | (with_reducible refine List.mem_append_left _ ?_; walk_at "MY mem") | (with_reducible refine List.mem_append_right _ ?_; walk_at "MY mem") | exact led_sy | exact led_dx | exact led_ff | exact led_hd | exact led_cl | (with_reducible refine led_T ?_; walk_at "MY mem"))
  k_with "@call builtin:len" => ((k_here; (with_reducible show wpAny _ _ (call (Value.builtin "len") [Value.ref _]) _ _ _); k_dflt (refine len_list (by exact News.isList (by k_asm) (by walk_at "MY mem")) (by omega) ?_; k_whole)))
  k_with "@subscriptTail Subscript Name Constant Subscript ref int" => ((k_here; (with_reducible show wpAny _ _ (subscriptTail _ _ (Value.ref _) (Value.int _ _)) _ _ _); k_dflt (refine item_int (by exact News.isList (by k_asm) (by walk_at "MY mem")) (by omega) (by omega) (by omega) (by assumption) ?_; k_whole); intro j tj))
  k_with "@subscriptTail Name Constant ref int" => ((k_here; k_dflt (first | (refine item_list (by exact News.isList (by k_asm) (by walk_at "MY mem")) (by decide) (by decide) (by rfl) ?_; k_whole) | (refine item_tupleT (by exact News.isTup (by k_asm) (by walk_at "MY mem")) (by decide) (by decide) (by rfl) (by rfl) ?_; k_whole))))
  k_with "@subscriptTail Subscript Name Constant Constant ref int" => ((k_here; k_dflt (refine item_tupleT (by exact News.isTup (by k_asm) (by walk_at "MY mem")) (by decide) (by decide) (by rfl) (by rfl) ?_; k_whole)))
  k_with "@MY sub" => ((intro p9 hp9; walk_at "MY mem"))
  k_with "@MY units" => (((try simp only [units_in1, units_deeper, Around.mark_units, units_caller] at *); omega))
  k_with "@MY over" => (first | exact over_nil | assumption | (refine over_cons (over_of (by assumption) (by walk_at "MY mem") (by walk_at "MY sub")) ?_; walk_at "MY over") | (refine over_app ?_ ?_ <;> walk_at "MY over") | exact over_mono (by assumption) (by walk_at "MY sub"))
  k_with "@MY rot" => (first | exact Rot.base | (apply Rot.pushT; walk_at "MY rot") | (apply Rot.pushL; walk_at "MY rot") | (apply Rot.keep; walk_at "MY rot") | (apply Rot.drop; walk_at "MY rot"))
  k_with "@MY front" => (first | exact List.forall_mem_nil _ | (refine List.forall_mem_cons.mpr ⟨by first | assumption | decide, ?_⟩; walk_at "MY front"))
  k_with "@MY subT" => (first | exact SubT.front (by walk_at "MY front") | exact SubT.refl)
  k_with "@MY frames" => (first | exact Around.frames_deeper (by assumption) | (simp only [Around.in1_frames]; exact Around.frames_deeper (by assumption)))
  k_with "@MY handled" => (first | assumption | (simp only [Around.in1_handled]; assumption))
  k_with "@MY apart" => (((try simp only [List.nil_append, List.cons_append]); first | assumption | (refine Apart.cons (by first | with_reducible assumption | exact raw_lt (by assumption) (by walk_at "MY mem") | ((try dsimp only); omega)) ?_; walk_at "MY apart")))
  k_with "@MY le" => (first | exact Sym.le_refl _ | assumption | (refine Sym.le_trans ?_ (by assumption); walk_at "MY le"))
  k_with "@MY suf" => (first | exact suf_nil | (apply suf_cons; walk_at "MY suf") | (apply suf_app; walk_at "MY suf"))
  k_with "@MY off" => (first | exact led_offT (by assumption) | (refine off_cons (by first | exact raw_lt (by assumption) (by walk_at "MY mem") | ((try dsimp only); omega)) ?_; walk_at "MY off") | (refine off_join (off_app (by assumption) (by walk_at "MY mem")) ?_; walk_at "MY off"))
  k_with "@call builtin:list.append" => ((k_here; (with_reducible show wpAny _ _ (call (Value.builtin _) [Value.ref _, _]) _ _ _); k_dflt (refine append_K (by k_asm) (by k_asm) (by k_upd) ?_ (by (rw [sizeLine_eq]; simp only [List.size_toArray, List.length_cons, List.length_nil]; omega)); k_whole); intro h' F' N'; (try k_sweep)))
  k_with "@call builtin:len" => ((k_here; (with_reducible show wpAny _ _ (call (Value.builtin "len") [Value.ref _]) _ _ _); k_dflt (refine kun_lenL (by exact News.isList (by k_asm) (by walk_at "MY mem")) (by first | exact congrArg Nat.cast (by assumption) | rfl) (by omega) ?_; k_whole)))
  k_with "@call ref" => ((k_here; (with_reducible show wpAny _ _ (call (Value.ref 88) _) _ _ _); k_dflt ((refine Ctr.use (by exact ⟨⟨_, by k_asm⟩, by k_asm, by k_asm, by k_asm, by k_asm, by walk_at "MY frames", rfl, rfl, by walk_at "MY handled"⟩) (by walk_at "MY rot") (by assumption) (by walk_at "MY sub") (by walk_at "MY apart") (by walk_at "MY front") (atom_ok (by first | assumption | decide)) (by ktr_room) (by walk_at "MY units") ?_; k_whole; intro r1 σ1 S1 T21 h1 tk1 F1 N1 ho1 hl1 hS1 hap1 hP1; (have hg1 := hl1.2.2); (try simp only [List.nil_append] at ho1 hP1); (try dsimp only [List.nil_append, List.cons_append] at N1); obtain ⟨hT1, n1, t1, hr1, hn1, hn2, hy1, he1⟩ := hP1; subst hr1; subst hT1; (try simp only [List.nil_append] at hS1 hap1 N1); (try k_sweep); (try dsimp only)))))
  k_with "@call ref" => ((k_here; (with_reducible show wpAny _ _ (call (Value.ref 102) _) _ _ _); k_dflt ((refine Ctr.use (by exact ⟨⟨_, by k_asm⟩, by k_asm, by k_asm, by k_asm, by k_asm, by walk_at "MY frames", rfl, rfl, by walk_at "MY handled"⟩) (by walk_at "MY rot") (by assumption) (by walk_at "MY sub") (by walk_at "MY apart") (by walk_at "MY front") (functor_ok (by omega) (by omega) (by omega) (by omega) (by first | assumption | omega | ((with_reducible rename _ = Sym.inA _ _ => he9); rw [he9, inA_G]; assumption))) (by ktr_room) (by walk_at "MY units") ?_; k_whole; intro r1 σ1 S1 T21 h1 tk1 F1 N1 ho1 hl1 hS1 hap1 hP1; (have hg1 := hl1.2.2); (try simp only [List.nil_append] at ho1 hP1); (try dsimp only [List.nil_append, List.cons_append] at N1); obtain ⟨n1, t1, hr1, hk1, hy1, he1⟩ := hP1; subst hr1; (try k_sweep); (try dsimp only)))))
  k_with "@MY tm" => (first | assumption | exact TmIn.mono (by assumption) (by walk_at "MY sub") | exact TmIn.v (by walk_at "MY mem") | exact TmIn.i (by walk_at "MY mem") | exact TmIn.a (by walk_at "MY mem") | (apply TmIn.s2; (walk_at "MY mem"); (walk_at "MY mem"); (walk_at "MY tm"); (walk_at "MY tm")))
  k_with "@MY sub" => (first | (intro p9 hp9; walk_at "MY mem") | (refine sub_cons (by walk_at "MY mem") ?_; walk_at "MY sub") | (refine sub_app ?_ ?_ <;> walk_at "MY sub"))
  k_with "@assign Tuple" => ((k_here; (with_reducible show wpAny _ _ (assign (Expr.Tuple _ _ _) _ (Value.ref _)) _ _ _); k_dflt (refine unpackN_ (by k_asm) (by k_asm) (by exact News.isTup (by k_asm) (by walk_at "MY mem")) (by walk_at "MY handled") (by exact rfl) (by exact rfl) ?_; k_whole); intro h' F' N'; (try k_sweep)))
  k_with "@exec While" => ((k_here; (with_reducible rename Mine.StOk _ _ _ _ _ => hS9); k_dflt (refine chain_loopX (x := Str.ofString "term") (T₀ := _) (by k_asm) (by exact News.turn (by k_asm) (by (apply Rot.keep; walk_at "MY rot"))) (by rfl) (by assumption) (by assumption) ?_)))
  k_with "@isTrue Compare" => ((k_here; focus (k_dflt (first | ((with_reducible show wpAny _ _ (isTrue (PySem.Expr.Compare (PySem.Expr.Subscript (PySem.Expr.Name _ _) (PySem.Expr.Constant (PySem.Const.int 0) _ _) _) [CmpOp.Eq] [PySem.Expr.Constant (PySem.Const.str _) _ _] _) _ _) _ _ _); refine test_tag (by k_asm) (by rfl) (by k_asm) (by assumption) (by walk_at "MY sub") ?_ ?_; k_whole) | ((with_reducible show wpAny _ _ (isTrue (PySem.Expr.Compare (PySem.Expr.Subscript (PySem.Expr.Name _ _) (PySem.Expr.Constant (PySem.Const.int 0) _ _) _) [CmpOp.NotEq] [PySem.Expr.Constant (PySem.Const.str _) _ _] _) _ _) _ _ _); refine test_tagN (by k_asm) (by rfl) (by k_asm) (by assumption) (by walk_at "MY sub") ?_ ?_; k_whole) | ((with_reducible show wpAny _ _ (isTrue (PySem.Expr.Compare (PySem.Expr.Subscript (PySem.Expr.Name _ _) (PySem.Expr.Constant (PySem.Const.int 1) _ _) _) [CmpOp.Eq] [PySem.Expr.Name _ _] _) _ _) _ _ _); refine test_num (by k_asm) (by rfl) (by k_asm) (by assumption) (by walk_at "MY sub") (by k_asm) (by k_asm) (by k_is) ?_ ?_; k_whole) | ((with_reducible show wpAny _ _ (isTrue (PySem.Expr.Compare (PySem.Expr.Subscript (PySem.Expr.Name _ _) (PySem.Expr.Constant (PySem.Const.int 1) _ _) _) [CmpOp.NotEq] [PySem.Expr.Name _ _] _) _ _) _ _ _); refine test_numN (by k_asm) (by rfl) (by k_asm) (by assumption) (by walk_at "MY sub") (by k_asm) (by k_asm) (by k_is) ?_ ?_; k_whole) | ((with_reducible show wpAny _ _ (isTrue (PySem.Expr.Compare (PySem.Expr.Subscript (PySem.Expr.Name _ _) (PySem.Expr.Constant (PySem.Const.int 1) _ _) _) [CmpOp.Lt] [PySem.Expr.Constant (PySem.Const.int _) _ _] _) _ _) _ _ _); refine test_neg (by k_asm) (by rfl) (by k_asm) (by assumption) (by walk_at "MY sub") ?_ ?_; k_whole)); (all_goals (intro htag ttg)); (all_goals (try (first | exact absurd (by assumption) htag | exact absurd htag (by assumption) | exact absurd (htag.symm.trans (by assumption)) (by decide)))); (all_goals (try (have hop9 := TmIn.open (by assumption) (by assumption) (by assumption) htag (by decide); obtain ⟨bq, xq, yq, tq1, tq2, txq, tyq, eq9, mq1, mq2, hxq, hyq, okxq, okyq, hszq⟩ := hop9; (try subst eq9)))); (all_goals ((try (have hbq := ok_a (by assumption) htag)); (try (have hbq := ok_i (by assumption) htag)))); (all_goals (try dsimp only)))))
  k_with "@eval Subscript" => ((k_here; k_dflt (first | ((with_reducible show wpAny _ _ (eval (PySem.Expr.Subscript (PySem.Expr.Name _ _) (PySem.Expr.Constant (PySem.Const.int 0) _ _) _) _) _ _ _); refine sub_tag (by k_asm) (by rfl) (by k_asm) (by assumption) (by walk_at "MY sub") ?_; k_whole; intro tkg ttg) | ((with_reducible show wpAny _ _ (eval (PySem.Expr.Subscript (PySem.Expr.Name _ _) (PySem.Expr.Constant (PySem.Const.int 1) _ _) _) _) _ _ _); refine sub_num (by k_asm) (by rfl) (by k_asm) (by assumption) (by walk_at "MY sub") ?_; k_whole; intro tkg ttg) | ((with_reducible show wpAny _ _ (eval (PySem.Expr.Subscript (PySem.Expr.Name _ _) (PySem.Expr.Constant (PySem.Const.int 2) _ _) _) _) _ _ _); refine sub_two (by k_asm) (by rfl) (by k_asm) (by walk_at "MY mem") ?_; k_whole; intro ttg) | ((with_reducible show wpAny _ _ (eval (PySem.Expr.Subscript (PySem.Expr.Subscript (PySem.Expr.Name _ _) (PySem.Expr.Constant (PySem.Const.int 2) _ _) _) (PySem.Expr.Constant (PySem.Const.int 0) _ _) _) _) _ _ _); refine sub_kid (by k_asm) (by rfl) (by k_asm) (by walk_at "MY mem") (by walk_at "MY mem") ?_; k_whole; intro ttg) | ((with_reducible show wpAny _ _ (eval (PySem.Expr.Subscript (PySem.Expr.Subscript (PySem.Expr.Name _ _) (PySem.Expr.Constant (PySem.Const.int 2) _ _) _) (PySem.Expr.Constant (PySem.Const.int 1) _ _) _) _) _ _ _); refine sub_kid1 (by k_asm) (by rfl) (by k_asm) (by walk_at "MY mem") (by walk_at "MY mem") ?_; k_whole; intro ttg)); (try dsimp only)))
  k_with "@compareOp In str ref" => ((k_here; k_dflt (refine in_two (by k_asm) (by walk_at "MY mem") ?_ ?_; k_whole); (rotate_left; (intro htx hty; (try dsimp only)); rotate_right); intro htag; (try dsimp only)))
  k_with "@isTrue BoolOp" => ((k_here; focus (first | ((k_dflt (first | ((with_reducible show wpAny _ _ (isTrue (PySem.Expr.BoolOp BoolOp.And [PySem.Expr.Compare (PySem.Expr.Subscript _ _ _) [CmpOp.Eq] _ _, PySem.Expr.Compare (PySem.Expr.Subscript _ _ _) [CmpOp.Eq] _ _] _) _ _) _ _ _); refine test_both (by k_asm) (by rfl) (by k_asm) (by assumption) (by walk_at "MY sub") (by k_asm) (by k_asm) (by k_is) ?_ ?_; k_whole) | ((with_reducible show wpAny _ _ (isTrue (PySem.Expr.BoolOp BoolOp.Or [PySem.Expr.Compare (PySem.Expr.Subscript _ _ _) [CmpOp.NotEq] _ _, PySem.Expr.Compare (PySem.Expr.Subscript _ _ _) [CmpOp.NotEq] _ _] _) _ _) _ _ _); refine test_either (by k_asm) (by rfl) (by k_asm) (by assumption) (by walk_at "MY sub") (by k_asm) (by k_asm) (by k_is) ?_ ?_; k_whole))); (all_goals (intro htag ttg)); (all_goals (try (first | exact absurd htag.1 (by assumption) | exact absurd (htag.1.symm.trans (by assumption)) (by decide)))); (all_goals (try (have hop9 := TmIn.open (by assumption) (by assumption) htag.1 htag.2 (by decide); obtain ⟨bq, xq, yq, tq1, tq2, txq, tyq, eq9, mq1, mq2, hxq, hyq, okxq, okyq, hszq⟩ := hop9; (try subst eq9); (try (have hrrq := rows_row (by assumption)))))); (all_goals (try dsimp only))) | ((k_dflt (first | ((with_reducible show wpAny _ _ (isTrue (PySem.Expr.BoolOp BoolOp.And [PySem.Expr.Compare (PySem.Expr.Name _ _) [CmpOp.NotEq] _ _, PySem.Expr.BoolOp _ _ _] _) _ _) _ _ _); refine test_leaf (by k_asm) (by rfl) (by k_asm) (by assumption) (by walk_at "MY sub") (by k_asm) (by k_asm) (by k_is) (by walk_at "MY units") (by k_is) ?_ ?_; k_whole) | ((with_reducible show wpAny _ _ (isTrue (PySem.Expr.BoolOp BoolOp.Or [PySem.Expr.Compare (PySem.Expr.Name _ _) [CmpOp.Eq] _ _, PySem.Expr.BoolOp _ _ _] _) _ _) _ _ _); refine test_list (by k_asm) (by rfl) (by k_asm) (by assumption) (by walk_at "MY sub") (by k_asm) (by k_asm) (by k_is) (by walk_at "MY units") (by k_is) ?_ ?_; k_whole))); (all_goals (intro htag hq tq FQ NQ)); (all_goals (try dsimp only))))))
  k_with "@isTrue Compare" => ((k_here; focus ((with_reducible show wpAny _ _ (isTrue (PySem.Expr.Compare (PySem.Expr.Name _ _) [CmpOp.NotEq] [PySem.Expr.Tuple _ _ _] _) _ _) _ _ _); k_dflt (refine test_nil (by k_asm) (by rfl) (by k_asm) (by assumption) (by walk_at "MY sub") (by k_asm) (by k_asm) (by k_is) (by walk_at "MY units") ?_ ?_; k_whole); (all_goals (intro htag hq tq FQ NQ)); (all_goals (try (exact absurd ((nil_tag htag).symm.trans (by assumption)) (by decide)))); (all_goals (try dsimp only)))))
  k_with "@spliced" => ((k_here; k_dflt (first | ((with_reducible show wpAny _ _ (spliced (backTo _ (starEach (PySem.Expr.Name _ _ :: _ :: _) _))) _ _ _); first | (refine arg_name (by k_asm) (by rfl) ?_; k_whole) | (refine arg_glob (by k_asm) (by k_asm) (by k_asm) (by k_is) ?_; k_whole)) | ((with_reducible show wpAny _ _ (spliced (backTo _ (starEach (PySem.Expr.Name _ _ :: []) _))) _ _ _); first | (refine arz_name (by k_asm) (by rfl) ?_; k_whole) | (refine arz_glob (by k_asm) (by k_asm) (by k_asm) (by k_is) ?_; k_whole)) | ((with_reducible show wpAny _ _ (spliced (backTo _ (starEach (PySem.Expr.Constant (PySem.Const.str _) _ _ :: _ :: _) _))) _ _ _); refine arg_str ?_; k_whole; intro tka tta) | ((with_reducible show wpAny _ _ (spliced (backTo _ (starEach (PySem.Expr.Constant (PySem.Const.str _) _ _ :: []) _))) _ _ _); refine arz_str ?_; k_whole; intro tka tta) | ((with_reducible show wpAny _ _ (spliced (backTo _ (starEach (PySem.Expr.Constant (PySem.Const.int _) _ _ :: _ :: _) _))) _ _ _); refine arg_int ?_; k_whole; intro tka tta) | ((with_reducible show wpAny _ _ (spliced (backTo _ (starEach (PySem.Expr.Constant (PySem.Const.int _) _ _ :: []) _))) _ _ _); refine arz_int ?_; k_whole; intro tka tta)); (try dsimp only)))
  k_with "@eval Call" => ((k_here; (with_reducible show wpAny _ _ (eval (PySem.Expr.Call (PySem.Expr.Name _ _) (_ :: _) [] _) _) _ _ _); k_dflt (refine call_top (by k_asm) (by k_asm) (by k_asm) (by k_is) (by k_is) ?_; k_whole)))
  trivial

theorem litems_ok {w : World} {mean : ExcName → Option Value} {mg mb : Str → Option Value} {c : Cx} {σ : Sym} {T : List (Addr × Obj)} {a : Addr} {t : Tm} (ht : TmIn T a t) (hok : t.Ok) (hsz : t.size ≤ 200) :
    Ctr w mean mg mb c 165 20 200 [.ref a] σ T (fun _ T2 T' r => ∃ b p e te its k ts, r = .ref b ∧ (b, tupO #[.ref p, .ref e]) ∈ T2 ∧ (p, listOf its k) ∈ T2 ∧ ItemsR T' its.toList ts ∧ TmIn T' e te ∧ t.items = ts ∧ t.tail = te ∧ te.Ok) := by
  intro S A env outer base h₀ L m s Q E hS hT at' hA hU hret
  obtain ⟨⟨A₀, B⟩, F, X, N, T', hfr, hfl, hki, hha⟩ := at'
  obtain ⟨⟨o1, o2, o3, o4, o5, o6, o7⟩, hI, hlen⟩ := hS.cx
  refine wpAny_call ?_
  k_dflt (refine' code_def (binds := [(Str.ofString "term", .ref a)]) ?z6k1 ?z6k2 ?z6k3 ?z6k4 ?z6k5 ?z6kA ?z6kF ?z6kK ?z6k6 ?z6k7 ?z6k8 ?z6k9 ?z6kB ?_ ?z6c2 ?z6c3 ?z6c4 ?z6c5; (case z6kA => assumption); (case z6kF => assumption); (case z6kK => assumption); (case z6k1 => k_asm); (case z6k2 => k_asm); (case z6k3 => k_asm); (case z6k4 => k_asm); (case z6k5 => k_asm); (case z6k6 => k_is); (case z6k7 => k_is); (case z6k8 => ktr_room); (case z6k9 => exact BindsTo.of_eq rfl); (case z6c5 => decide); (case z6kB => exact locs rfl); (case z6c2 => exact rfl); (case z6c3 => exact rfl); (case z6c4 => exact rfl); k_whole; intro g' L' h' FG' F' N' B' X' T''; (try dsimp only); (try k_fold))
  k_steps
  · (with_reducible rename Mine.ItemsR _ _ _ => hir); (with_reducible rename _ = _ ++ Mine.Tm.items _ => hit); (with_reducible rename _ = Mine.Tm.tail _ => htl); (refine WhileStep.intro (by assumption) (by assumption) ?_ (JCX.intro ?_ (by rw [Array.toList_push]; exact ItemsR.snoc hir (by assumption)) (hit.trans (by rw [items_dot, List.append_assoc]; rfl)) (htl.trans (tail_dot _ _)) ?_ ?_ ?_ map_same)); all_goals first | assumption | (simp only [Tm.size, List.length_append, List.length_cons, List.length_nil] at *; omega)
  · (with_reducible rename Mine.ItemsR _ _ _ => hir); (with_reducible rename _ = _ ++ Mine.Tm.items _ => hit); (with_reducible rename _ = Mine.Tm.tail _ => htl); (have hts := tail_self (by assumption)); refine hret _ _ _ _ _ _ _ (by assumption) (News.led (by assumption) (by walk_at "MY rot")) (StOk.mono (by assumption) (by walk_at "MY sub")) (by walk_at "MY suf") (by walk_at "MY le") (by walk_at "MY over") ⟨_, _, _, _, _, _, _, rfl, (by walk_at "MY mem"), (by walk_at "MY mem"), hir.mono (SubT.of (by walk_at "MY sub")), TmIn.mono (by assumption) (by walk_at "MY sub"), hit.trans (by rw [hts.2, List.append_nil]), htl.trans hts.1, by assumption⟩
end Mine
end

section
set_option maxRecDepth 100000
set_option maxHeartbeats 8000000
set_option Elab.async false
namespace Mine
open PySem PySem.W PyProof.Rows PySem.Calls PyProof.V PySem.Spec

theorem fill_hereY7 (w : World) (h : Heap) (X : (hd.heap_39 w.params).In h) (hp : PySem.Challenge.rw_no0155_01.prog = PySem.Challenge.rw_no0155_01.prog) : (hd.heap_39 w.params).In h ∧ PySem.Challenge.rw_no0155_01.prog = PySem.Challenge.rw_no0155_01.prog := by
  k_fill
  exact ⟨X, hp⟩

theorem leave_newAE {M : Model} {A : Around} {E : Value → Shared → Prop} {s' : Shared} {base g : Heap} {outer : List Env} {env : Env} {L e : Addr} {m : Str → Option Value} {Q : Unit → Shared → Prop} {w : World}
    {t d b : Addr} {k : Tok} {news T' : List (Addr × Obj)} {u : Tm} (K : Below A base outer g) (F : Fr g L s'.heap m) (N : News g L s'.heap news) (he : (e, excD t d) ∈ news) (hd : (d, ballD w (.ref b) k) ∈ news)
    (htm : TmIn T' b u) (hT' : ∀ p ∈ T', p ∈ news) (hf : env.frame = some L) (hk : env.scope.kind = .function) (hQ : ∀ h', RaisedAll w base outer e news u h' → g.UpToSlots h' → Q () { s' with heap := h' }) :
    wpAny M (A.deeper env) (leaving env (.ref e)) Q E s' :=
  leave_newE (T := news.filter fun p => decide (p.1 ≠ e)) K F N he hd hT' htm (fun p hp => (List.mem_filter.mp hp).1) (fun p hp => of_decide_eq_true (List.mem_filter.mp hp).2) hf hk
    (fun h' R U => hQ h' (fun T hT hTe => R.imp (fun _ z => z) fun p hp => List.mem_filter.mpr ⟨hT p hp, decide_eq_true (hTe p hp)⟩) U)
theorem fr_hide {h₀ h : Heap} {L C : Addr} {m : Str → Option Value} (F : Fr h₀ L h m) (h1 : C ≠ L) (h2 : h₀.get? C = none) : Fr h₀ L (hideAll h [C]) m :=
  ⟨F.ns.at' (fun o e => hideAll_get _ e fun hm => h1 (List.mem_singleton.mp hm).symm), fun b o e => hideAll_get _ (F.keep b o e) (fun hm => by rw [List.mem_singleton.mp hm, h2] at e; cases e), F.above⟩

def CompGo (prog : Program) (w : World) (A : Around) (E : Value → Shared → Prop) (h₀ : Heap) (L : Addr) (m : Str → Option Value) (env : Env) (elt : Expr) (x : Str) (scope : Scope) (cl : List (Str × Addr)) (Q : Value → Shared → Prop) (xv : Value) (s₁ : Shared) : Prop :=
  ∃ ax its ep news, ∃ J : Nat → List Value → List (Addr × Obj) → Prop, xv = .ref ax ∧ Fr h₀ L s₁.heap m ∧ News h₀ L s₁.heap news ∧ J 0 [] news ∧ (∀ i ys nw, J i ys nw → (ax, listOf its ep) ∈ nw) ∧ its.size ≤ sizeLine ∧
      CTurn prog w A E h₀ L m env elt x scope cl Q s₁ news its J ∧
      (∀ D ys nw h tk, J its.size ys nw → Fr h₀ L h m → News h₀ L h ((D, LCg.lst ys) :: nw) → (∀ p ∈ nw, p.1 ≠ D) → (∀ p ∈ news, p.1 < D) → Q (.ref D) { s₁ with heap := h, toks := tk })
theorem listcomp_G {prog : Program} {w : World} {A : Around} {E : Value → Shared → Prop} {s : Shared} {h₀ : Heap} {L : Addr} {m : Str → Option Value} {env : Env} {elt iter : Expr} {x : Str} {px : Pos} {scope : Scope} {cl : List (Str × Addr)} {pos : Pos} {Q : Value → Shared → Prop} (_F : Fr h₀ L s.heap m) (hh : A.handled = none)
    (hclos : closureFor scope env = pure cl) (hcell : ∀ y ∈ scope.names, y.2 ≠ .cell) (hkind : scope.kind = .function)
    (hnames : ∀ y ∈ scope.names, y.2 = .local → scope.names.lookup y.1 = some .local) (hx : scope.names.lookup x = some .local)
    (h : wpAny (model prog w) A (eval iter env) (CompGo prog w A E h₀ L m env elt x scope cl Q) E s)
    (hs : ∀ x, foldedSetIterable iter env x = pure x := by intro _; rfl) :
    wpAny (model prog w) A (eval (.ListComp elt [⟨.Name x px, iter, [], 0⟩] scope pos) env) Q E s := listcomp_J hh hclos hcell hkind hnames hx h hs
/-- a turn of read_list's comprehension is through -/
def CEnd (w : World) (c : Cx) (h₀ : Heap) (L : Addr) (m : Str → Option Value) (s₁ : Shared) (I : Addr) (oI : Obj) (C : Addr) (oC : Obj) (D : Addr) (ys : List Value) (σ : Sym) (T : List (Addr × Obj)) (t : Tm) (y : Value) (s₂ : Shared) : Prop :=
  ∃ h' tk' σ' S' T3 n tt, s₂ = { s₁ with heap := h', toks := tk' } ∧ Fr h₀ L h' m ∧ News h₀ L h' (led w c S' (T3 ++ ((I, oI) :: (C, oC) :: (D, LCg.lst ys) :: T))) ∧ StOk w c σ' S' (T3 ++ ((I, oI) :: (C, oC) :: (D, LCg.lst ys) :: T)) ∧ σ.le σ' ∧
    (∀ p ∈ T3, Over c ((I, oI) :: (C, oC) :: (D, LCg.lst ys) :: T) p.1) ∧ y = .int n tt ∧ Says σ' (fun τ => single τ t) (.ok n)
theorem CEnd.intro {w : World} {c : Cx} {h₀ h' : Heap} {L I C D : Addr} {m : Str → Option Value} {s₁ : Shared} {oI oC : Obj} {ys : List Value} {σ σ' : Sym} {S' : St} {T T3 : List (Addr × Obj)} {t : Tm} {n : Int} {tt : Tok} {tk' : Nat}
    (S3 : StOk w c σ' S' (T3 ++ ((I, oI) :: (C, oC) :: (D, LCg.lst ys) :: T))) (hn : Says σ' (fun τ => single τ t) (.ok n)) (F : Fr h₀ L h' m) (N : News h₀ L h' (led w c S' (T3 ++ ((I, oI) :: (C, oC) :: (D, LCg.lst ys) :: T)))) (le : σ.le σ')
    (ov : ∀ p ∈ T3, Over c ((I, oI) :: (C, oC) :: (D, LCg.lst ys) :: T) p.1) : CEnd w c h₀ L m s₁ I oI C oC D ys σ T t (.int n tt) { s₁ with heap := h', toks := tk' } := ⟨h', tk', σ', S', T3, n, tt, rfl, F, N, S3, le, ov, rfl, hn⟩
theorem GOk.of_seq {w : World} {o : Obj} {T T' : List (Addr × Obj)} {D : List (PyData × PyData)} (h : GOk w o T D) (k : ∀ a o, (a, o) ∈ T → o.cls = .type "tuple" → (∃ its n, o.data = .seq its n) → (a, o) ∈ T') : GOk w o T' D := by
  obtain ⟨es, ep, xs, h1, h2, h3, h4, h5, h6⟩ := h
  exact ⟨es, ep, xs, h1, h2, h3, h4, fun x hx => let ⟨ok, a, b⟩ := h5 x hx; ⟨ok, k _ _ a b.1 (let ⟨its, n, e, _⟩ := b.2; ⟨its, n, e⟩), b⟩, h6⟩
theorem StOk.of_seq {w : World} {c : Cx} {σ : Sym} {S : St} {T T' : List (Addr × Obj)} (h : StOk w c σ S T) (k : ∀ a o, (a, o) ∈ T → o.cls = .type "tuple" → (∃ its n, o.data = .seq its n) → (a, o) ∈ T') : StOk w c σ S T' :=
  ⟨h.cx, h.hand, h.good, h.tv, h.fv, h.an, h.ff, h.av, h.gv.of_seq k⟩
theorem comp_drop {I C D : Addr} {oI oC : Obj} {ys : List Value} {T T3 : List (Addr × Obj)} {m₂ : Str → Option Value} (h1 : oI.cls ≠ .type "tuple") (h2 : LCg.NsObj oC m₂) :
    ∀ a o, (a, o) ∈ T3 ++ ((I, oI) :: (C, oC) :: (D, LCg.lst ys) :: T) → o.cls = .type "tuple" → (∃ its n, o.data = .seq its n) → (a, o) ∈ T3 ++ T := by
  rintro a o hm hc ⟨its, n, hd⟩
  rcases List.mem_append.mp hm with hm | hm
  · exact List.mem_append_left _ hm
  · rcases List.mem_cons.mp hm with e | hm
    · cases e; exact absurd hc h1
    · rcases List.mem_cons.mp hm with e | hm
      · cases e
        obtain ⟨es, ep, q, _⟩ := h2
        rw [q] at hd; cases hd
      · rcases List.mem_cons.mp hm with e | hm
        · cases e
          exact absurd hc (by show Value.type "list" ≠ Value.type "tuple"; decide)
        · exact List.mem_append_right _ hm
def JR (w : World) (c : Cx) (σ₀ : Sym) (T₀ : List (Addr × Obj)) (ts : List Tm) (i : Nat) (ys : List Value) (nw : List (Addr × Obj)) : Prop :=
  ∃ σ S T2 l, nw = led w c S (T2 ++ T₀) ∧ StOk w c σ S (T2 ++ T₀) ∧ Apart c (T2 ++ T₀) ∧ σ₀.le σ ∧ (∀ p ∈ T2, Over c T₀ p.1) ∧ IntsAre ys l ∧ Says σ (fun τ => singles τ (ts.take i)) (.ok l)
theorem says_stepS {σ σ' : Sym} {ts : List Tm} {i : Nat} {l : List Int} {n : Int} (h : i < ts.length) (q : Says σ (fun τ => singles τ (ts.take i)) (.ok l)) (e : σ.le σ') (k : Says σ' (fun τ => single τ ts[i]) (.ok n)) : Says σ' (fun τ => singles τ (ts.take (i + 1))) (.ok (l ++ [n])) := fun τ z => by
  dsimp only
  rw [take_snoc h]
  exact singles_app (q τ (Sym.le_trans e z)) (k τ z)
theorem comp_go {w : World} {A : Around} {E : Value → Shared → Prop} {s₁ : Shared} {h₀ : Heap} {L : Addr} {m : Str → Option Value} {env : Env} {elt : Expr} {xn : Str} {scope : Scope} {cl : List (Str × Addr)} {Q : Value → Shared → Prop} {c : Cx} {σ₀ : Sym} {S : St} {T₀ : List (Addr × Obj)} {p : Addr} {its : Array Value} {k : Nat} {ts : List Tm}
    (F : Fr h₀ L s₁.heap m) (N : News h₀ L s₁.heap (led w c S T₀)) (hp : (p, listOf its k) ∈ T₀) (hI : ItemsR T₀ its.toList ts) (hS : StOk w c σ₀ S T₀) (hap : Apart c T₀) (hsz : ts.length ≤ 200)
    (turn : ∀ (i : Nat) (hi : i < ts.length) x ys I oI C oC D m₂ h tk σ S' T2 l, StOk w c σ S' (T2 ++ T₀) → Apart c (T2 ++ T₀) → σ₀.le σ → (∀ p ∈ T2, Over c T₀ p.1) → TmIn (T2 ++ T₀) x ts[i] → Says σ (fun τ => singles τ (ts.take i)) (.ok l) → IntsAre ys l →
      oI.cls ≠ .type "tuple" → LCg.NsObj oC m₂ → m₂ xn = some (.ref x) → Fr h₀ L h m → News h₀ L h ((I, oI) :: (C, oC) :: (D, LCg.lst ys) :: led w c S' (T2 ++ T₀)) → (∀ p ∈ led w c S' (T2 ++ T₀), p.1 ≠ I ∧ p.1 ≠ C ∧ p.1 ≠ D) → (I ≠ C ∧ I ≠ D ∧ C ≠ D) → (∀ p ∈ led w c S T₀, p.1 < I) → (∀ p ∈ led w c S T₀, p.1 < C) → (∀ p ∈ led w c S T₀, p.1 < D) →
      wpAny (model PySem.Challenge.rw_no0155_01.row.prog w) A (eval elt (compEnvC scope cl C env)) (CEnd w c h₀ L m s₁ I oI C oC D ys σ (T2 ++ T₀) ts[i])
        (notedBy (model PySem.Challenge.rw_no0155_01.row.prog w) A (compEnvC scope cl C env) (fun e s' => compPost (model PySem.Challenge.rw_no0155_01.row.prog w) A E none Q (.ref D) C (.error e) s')) { s₁ with heap := h, toks := tk })
    (done : ∀ D ys h tk σ S' T2 l, StOk w c σ S' (T2 ++ T₀) → Apart c (T2 ++ T₀) → σ₀.le σ → (∀ p ∈ T2, Over c T₀ p.1) → IntsAre ys l → Says σ (fun τ => singles τ ts) (.ok l) → Fr h₀ L h m → News h₀ L h ((D, LCg.lst ys) :: led w c S' (T2 ++ T₀)) → (∀ p ∈ led w c S T₀, p.1 < D) → Q (.ref D) { s₁ with heap := h, toks := tk }) :
    CompGo PySem.Challenge.rw_no0155_01.row.prog w A E h₀ L m env elt xn scope cl Q (.ref p) s₁ := by
  have hlen : its.size = ts.length := by have := hI.1; simpa using this
  refine ⟨p, its, k, led w c S T₀, JR w c σ₀ T₀ ts, rfl, F, N, ⟨σ₀, S, [], [], rfl, hS, hap, Sym.le_refl _, over_nil, .nil, fun τ _ => rfl⟩, ?_, by rw [hlen, sizeLine_eq]; omega, ?_, ?_⟩
  · rintro i ys nw ⟨σ, S', T2, l, rfl, _⟩
    exact led_mem (List.mem_append_right _ hp)
  · intro i v ys nw I oI C oC D m₂ h tk hv hJ hyl hoI hoC hm₂ F₁ N₁ off ne lI lC lD
    obtain ⟨σ, S', T2, l, rfl, hS', hap', hle, hov, hi, hy⟩ := hJ
    have hi' : i < ts.length := by
      rw [← hlen]; exact (Array.getElem?_eq_some_iff.mp hv).1
    obtain ⟨x, ex, tx⟩ := hI.2 i hi'
    obtain rfl : v = .ref x := by
      rw [Array.getElem?_toList] at ex
      rw [hv] at ex
      exact Option.some.inj ex
    refine wpAny_mono (turn i hi' x ys I oI C oC D m₂ h tk σ S' T2 l hS' hap' hle hov (tx.mono fun q hq => List.mem_append_right _ hq) hy hi hoI hoC hm₂ F₁ N₁ off ne lI lC lD) (fun y s₂ hE => ?_) fun _ _ z => z
    obtain ⟨h', tk', σ', S'', T3, n, tt, rfl, F', N', S3, le', ov', rfl, hn⟩ := hE
    have off3 : ∀ p ∈ T3, p.1 ≠ I ∧ p.1 ≠ C ∧ p.1 ≠ D := fun q hq => ⟨Nat.ne_of_gt ((ov' q hq).2 (I, oI) (.head _)), Nat.ne_of_gt ((ov' q hq).2 (C, oC) (.tail _ (.head _))), Nat.ne_of_gt ((ov' q hq).2 (D, LCg.lst ys) (.tail _ (.tail _ (.head _))))⟩
    have offled : ∀ p ∈ led w c S'' ((T3 ++ T2) ++ T₀), p.1 ≠ I ∧ p.1 ≠ C ∧ p.1 ≠ D := by
      have base := off
      simp only [led, List.forall_mem_cons] at base ⊢
      refine ⟨base.1, base.2.1, base.2.2.1, base.2.2.2.1, base.2.2.2.2.1, base.2.2.2.2.2.1, base.2.2.2.2.2.2.1, base.2.2.2.2.2.2.2.1, fun q hq => ?_⟩
      rw [List.append_assoc] at hq
      exact (List.mem_append.mp hq).elim (off3 q) (base.2.2.2.2.2.2.2.2 q)
    refine ⟨h', tk', led w c S'' ((T3 ++ T2) ++ T₀), rfl, F', News.sub N' fun q hq => ?_, offled, σ', S'', T3 ++ T2, l ++ [n], rfl, ?_, ?_, Sym.le_trans hle le', over_app (fun q hq => ?_) hov, ints_app hi (.cons _ _ .nil), says_stepS hi' hy le' hn⟩
    · simp only [led, List.mem_cons, List.mem_append] at hq ⊢
      grind
    · rw [List.append_assoc]
      exact S3.of_seq (comp_drop hoI hoC)
    · rw [List.append_assoc]
      refine Apart.app (fun q hq => ?_) hap'
      exact (ov' q hq).mono fun r hr => .tail _ (.tail _ (.tail _ hr))
    · exact (ov' q hq).mono fun r hr => .tail _ (.tail _ (.tail _ (List.mem_append_right _ hr)))
  · intro D ys nw h tk hJ F₁ N₁ off lD
    obtain ⟨σ, S', T2, l, rfl, hS', hap', hle, hov, hi, hy⟩ := hJ
    rw [hlen, List.take_length] at hy
    exact done D ys h tk σ S' T2 l hS' hap' hle hov hi hy F₁ N₁ lD

theorem ns_not_ball {w : World} {oC : Obj} {m₂ : Str → Option Value} {x : Value} (h : LCg.NsObj oC m₂) (k : m₂ (Str.ofString "item") = some x) : ∀ v t, oC ≠ ballD w v t := by
  rintro v t rfl
  obtain ⟨es, ep, e, _, q⟩ := h
  cases e
  have := q (Str.ofString "item")
  rw [k] at this
  cases this
theorem hide_up {h : Heap} {C : Addr} : ∀ g : Heap, h.UpToSlots g → (hideAll h [C]).UpToSlots g := fun g u b o e hn => u b o (of_hideAll _ e) hn
theorem says_bad {σ : Sym} {t te : Tm} {u : Tm} (h : t.tail = te) (hv : te.isV = false) (hn : te.isNil = false) (k : Says σ (fun τ => kindE τ (Str.ofString "type_error") (Str.ofString "list") t) u) : Says σ (fun τ => readList τ t) (.error u) :=
  says_err (g := fun τ => kindE τ (Str.ofString "type_error") (Str.ofString "list") t) (fun τ => rl_bad h hv hn) k
theorem says_instL {σ : Sym} {t : Tm} {n : Int} {u : Tm} (h : t.tail = .v n) (k : Says σ instE u) : Says σ (fun τ => readList τ t) (.error u) := says_err (g := instE) (fun τ => rl_v h) k
theorem says_stopS {σ σ' : Sym} {t : Tm} {ts : List Tm} {i : Nat} {l : List Int} {u : Tm} (h1 : t.tail = .a 0) (h2 : t.items = ts) (h : i < ts.length) (q : Says σ (fun τ => singles τ (ts.take i)) (.ok l)) (e : σ.le σ') (k : Says σ' (fun τ => one τ ts[i]) (.error u)) : Says σ' (fun τ => readList τ t) (.error u) := says_listE h1 h2 (says_stop h q e k)
theorem led_ffx {w : World} {c : Cx} {S : St} {T : List (Addr × Obj)} {x : Addr} (h : ∀ p ∈ led w c S T, p.1 < x) : @LT.lt Nat _ c.ff x := h (c.ff, S.gv) (by simp [led])
theorem raw_succ {B : List (Addr × Obj)} {x : Addr} (h : ∀ p ∈ B, p.1 < x) : ∀ p ∈ B, @LT.lt Nat _ p.1 (x + 1) := fun p hp => Nat.lt_succ_of_lt (h p hp)
theorem cell_at {h₀ h : Heap} {L c : Addr} {news : List (Addr × Obj)} {o : Obj} {v : Option Value} (N : News h₀ L h news) (hm : (c, o) ∈ news) (hd : o.data = .cell v) : h.IsCell c v := ⟨o, (N _ hm).1, hd⟩












theorem words_NY7 : True := by
  k_with_none
  k_with "@MY mem" => (first | with_reducible assumption | exact List.mem_cons_self | (with_reducible refine List.mem_cons_of_mem _ ?_; walk_at "MY mem") | (with_reducible refine List.mem_append_left _ ?_; walk_at "MY mem") | (with_reducible refine List.mem_append_right _ ?_; walk_at "MY mem") | exact led_sy | exact led_dx | exact led_ff | exact led_hd | exact led_cl | (with_reducible refine led_T ?_; walk_at "MY mem"))
  k_with "@call builtin:len" => ((k_here; (with_reducible show wpAny _ _ (call (Value.builtin "len") [Value.ref _]) _ _ _); k_dflt (refine len_list (by exact News.isList (by k_asm) (by walk_at "MY mem")) (by omega) ?_; k_whole)))
  k_with "@subscriptTail Subscript Name Constant Subscript ref int" => ((k_here; (with_reducible show wpAny _ _ (subscriptTail _ _ (Value.ref _) (Value.int _ _)) _ _ _); k_dflt (refine item_int (by exact News.isList (by k_asm) (by walk_at "MY mem")) (by omega) (by omega) (by omega) (by assumption) ?_; k_whole); intro j tj))
  k_with "@subscriptTail Name Constant ref int" => ((k_here; k_dflt (first | (refine item_list (by exact News.isList (by k_asm) (by walk_at "MY mem")) (by decide) (by decide) (by rfl) ?_; k_whole) | (refine item_tupleT (by exact News.isTup (by k_asm) (by walk_at "MY mem")) (by decide) (by decide) (by rfl) (by rfl) ?_; k_whole))))
  k_with "@subscriptTail Subscript Name Constant Constant ref int" => ((k_here; k_dflt (refine item_tupleT (by exact News.isTup (by k_asm) (by walk_at "MY mem")) (by decide) (by decide) (by rfl) (by rfl) ?_; k_whole)))
  k_with "@MY sub" => ((intro p9 hp9; walk_at "MY mem"))
  k_with "@MY units" => (((try simp only [units_in1, units_deeper, Around.mark_units, units_caller] at *); omega))
  k_with "@MY over" => (first | exact over_nil | assumption | (refine over_cons (over_of (by assumption) (by walk_at "MY mem") (by walk_at "MY sub")) ?_; walk_at "MY over") | (refine over_app ?_ ?_ <;> walk_at "MY over") | exact over_mono (by assumption) (by walk_at "MY sub"))
  k_with "@MY rot" => (first | exact Rot.base | (apply Rot.pushT; walk_at "MY rot") | (apply Rot.pushL; walk_at "MY rot") | (apply Rot.keep; walk_at "MY rot") | (apply Rot.drop; walk_at "MY rot"))
  k_with "@MY front" => (first | exact List.forall_mem_nil _ | (refine List.forall_mem_cons.mpr ⟨by first | assumption | decide, ?_⟩; walk_at "MY front"))
  k_with "@MY subT" => (first | exact SubT.front (by walk_at "MY front") | exact SubT.refl)
  k_with "@MY frames" => (first | exact Around.frames_deeper (by assumption) | (simp only [Around.in1_frames]; exact Around.frames_deeper (by assumption)))
  k_with "@MY handled" => (first | assumption | (simp only [Around.in1_handled]; assumption))
  k_with "@MY apart" => (((try simp only [List.nil_append, List.cons_append]); first | assumption | (refine Apart.cons (by first | with_reducible assumption | exact raw_lt (by assumption) (by walk_at "MY mem") | ((try dsimp only); omega)) ?_; walk_at "MY apart")))
  k_with "@MY le" => (first | exact Sym.le_refl _ | assumption | (refine Sym.le_trans ?_ (by assumption); walk_at "MY le"))
  k_with "@MY suf" => (first | exact suf_nil | (apply suf_cons; walk_at "MY suf") | (apply suf_app; walk_at "MY suf"))
  k_with "@MY off" => (first | exact led_offT (by assumption) | (refine off_cons (by first | exact raw_lt (by assumption) (by walk_at "MY mem") | ((try dsimp only); omega)) ?_; walk_at "MY off") | (refine off_join (off_app (by assumption) (by walk_at "MY mem")) ?_; walk_at "MY off"))
  k_with "@call builtin:list.append" => ((k_here; (with_reducible show wpAny _ _ (call (Value.builtin _) [Value.ref _, _]) _ _ _); k_dflt (refine append_K (by k_asm) (by k_asm) (by k_upd) ?_ (by (rw [sizeLine_eq]; simp only [List.size_toArray, List.length_cons, List.length_nil]; omega)); k_whole); intro h' F' N'; (try k_sweep)))
  k_with "@call builtin:len" => ((k_here; (with_reducible show wpAny _ _ (call (Value.builtin "len") [Value.ref _]) _ _ _); k_dflt (refine kun_lenL (by exact News.isList (by k_asm) (by walk_at "MY mem")) (by first | exact congrArg Nat.cast (by assumption) | rfl) (by omega) ?_; k_whole)))
  k_with "@call ref" => ((k_here; (with_reducible show wpAny _ _ (call (Value.ref 88) _) _ _ _); k_dflt ((refine Ctr.use (by exact ⟨⟨_, by k_asm⟩, by k_asm, by k_asm, by k_asm, by k_asm, by walk_at "MY frames", rfl, rfl, by walk_at "MY handled"⟩) (by walk_at "MY rot") (by assumption) (by walk_at "MY sub") (by walk_at "MY apart") (by walk_at "MY front") (atom_ok (by first | assumption | decide)) (by ktr_room) (by walk_at "MY units") ?_; k_whole; intro r1 σ1 S1 T21 h1 tk1 F1 N1 ho1 hl1 hS1 hap1 hP1; (have hg1 := hl1.2.2); (try simp only [List.nil_append] at ho1 hP1); (try dsimp only [List.nil_append, List.cons_append] at N1); obtain ⟨hT1, n1, t1, hr1, hn1, hn2, hy1, he1⟩ := hP1; subst hr1; subst hT1; (try simp only [List.nil_append] at hS1 hap1 N1); (try k_sweep); (try dsimp only)))))
  k_with "@call ref" => ((k_here; (with_reducible show wpAny _ _ (call (Value.ref 102) _) _ _ _); k_dflt ((refine Ctr.use (by exact ⟨⟨_, by k_asm⟩, by k_asm, by k_asm, by k_asm, by k_asm, by walk_at "MY frames", rfl, rfl, by walk_at "MY handled"⟩) (by walk_at "MY rot") (by assumption) (by walk_at "MY sub") (by walk_at "MY apart") (by walk_at "MY front") (functor_ok (by omega) (by omega) (by omega) (by omega) (by first | assumption | omega | ((with_reducible rename _ = Sym.inA _ _ => he9); rw [he9, inA_G]; assumption))) (by ktr_room) (by walk_at "MY units") ?_; k_whole; intro r1 σ1 S1 T21 h1 tk1 F1 N1 ho1 hl1 hS1 hap1 hP1; (have hg1 := hl1.2.2); (try simp only [List.nil_append] at ho1 hP1); (try dsimp only [List.nil_append, List.cons_append] at N1); obtain ⟨n1, t1, hr1, hk1, hy1, he1⟩ := hP1; subst hr1; (try k_sweep); (try dsimp only)))))
  k_with "@MY tm" => (first | assumption | exact TmIn.mono (by assumption) (by walk_at "MY sub") | exact TmIn.v (by walk_at "MY mem") | exact TmIn.i (by walk_at "MY mem") | exact TmIn.a (by walk_at "MY mem") | (apply TmIn.s2; (walk_at "MY mem"); (walk_at "MY mem"); (walk_at "MY tm"); (walk_at "MY tm")))
  k_with "@MY sub" => (first | (intro p9 hp9; walk_at "MY mem") | (refine sub_cons (by walk_at "MY mem") ?_; walk_at "MY sub") | (refine sub_app ?_ ?_ <;> walk_at "MY sub"))
  k_with "@compareOp Eq ref ref" => ((k_here; k_dflt (refine PySem.SeqAt.eq_list_lengthsAt (by exact News.isList (by k_asm) (by walk_at "MY mem")) (by exact News.isList (by k_asm) (by walk_at "MY mem")) (by rfl) (by walk_at "MY units") ?_; k_whole)))
  k_with "@assign Tuple" => ((k_here; (with_reducible show wpAny _ _ (assign (Expr.Tuple _ _ _) _ (Value.ref _)) _ _ _); k_dflt (refine unpackN_ (by k_asm) (by k_asm) (by exact News.isTup (by k_asm) (by walk_at "MY mem")) (by walk_at "MY handled") (by exact rfl) (by exact rfl) ?_; k_whole); intro h' F' N'; (try k_sweep)))
  k_with "@binaryOp Add ref ref" => ((k_here; k_dflt (refine add_K (by k_asm) (by k_asm) (by walk_at "MY mem") (by walk_at "MY mem") (by omega) ?_; k_whole); intro D' h' F' N' l1; (try k_lt l1); (try k_sweep)))
  k_with "@compareOp NotEq ref ref" => ((k_here; k_dflt (first | (refine ne_nil_t (by first | assumption | rfl) (by k_asm) (by assumption) (by walk_at "MY sub") (by walk_at "MY mem") (by walk_at "MY units") ?_; k_whole) | (refine ne_nil_f (by first | assumption | rfl) (by k_asm) (by assumption) (by walk_at "MY sub") (by walk_at "MY mem") (by walk_at "MY units") ?_; k_whole))))
  k_with "@exec Raise" => ((k_here; k_dflt (refine Raise_D (by walk_at "MY handled") ?_; k_whole)))
  k_with "@exec Raise some none" => ((k_here; k_dflt (refine Raise_D (by walk_at "MY handled") ?_; k_whole)))
  k_with "@RaiseEnd" => ((k_here; k_dflt (refine raiseEnd (by k_asm) (by k_asm) (by k_asm) (by walk_at "MY mem") ?_; k_whole)))
  k_with "@leaving ref" => ((k_here; k_dflt (refine leave_newA (by assumption) (by k_asm) (by k_asm) (by walk_at "MY mem") (by walk_at "MY mem") (by assumption) (by walk_at "MY sub") ?_; k_whole); intro h' R' U'; (try dsimp only at R' U' ⊢)))
  k_with "@MY rotP" => (first | exact Rot.base | (apply Rot.push; walk_at "MY rotP"))
  k_with "@leaving ref" => ((k_here; k_dflt (refine leave_newAE (by assumption) (by k_asm) (by k_asm) (by walk_at "MY mem") (by walk_at "MY mem") (by assumption) (by walk_at "MY sub") (by exact rfl) (by exact rfl) ?_; k_whole); intro h' R' U'; (try dsimp only at R' U' ⊢)))
  k_with "@call ref" => ((k_here; (with_reducible show wpAny _ _ (call (Value.ref 165) _) _ _ _); k_dflt ((refine Ctr.use (by exact ⟨⟨_, by k_asm⟩, by k_asm, by k_asm, by k_asm, by k_asm, by walk_at "MY frames", rfl, rfl, by walk_at "MY handled"⟩) (by walk_at "MY rotP") (by assumption) (by walk_at "MY sub") (by walk_at "MY apart") (by walk_at "MY front") (litems_ok (by walk_at "MY tm") (by assumption) (by omega)) (by ktr_room) (by walk_at "MY units") ?_; k_whole; intro r1 σ1 S1 T21 h1 tk1 F1 N1 ho1 hl1 hS1 hap1 hP1; (have hg1 := hl1.2.2); (try simp only [List.nil_append] at ho1 hP1); (try dsimp only [List.nil_append, List.cons_append] at N1); obtain ⟨b1, p1, e1, te1, its1, k1, ts1, hr1, hm1, hm2, hir, hte, hit, htl, hokte⟩ := hP1; subst hr1; (try replace hir := ItemsR.mono hir (by walk_at "MY subT")); (try replace hte := TmIn.of_subT hte (by walk_at "MY subT")); (try k_sweep); (try dsimp only)))))
  k_with "@call ref" => ((k_here; (with_reducible show wpAny _ _ (call (Value.ref 186) _) _ _ _); k_dflt ((refine Ctr.use (by exact ⟨⟨_, by k_asm⟩, by k_asm, by k_asm, by k_asm, by k_asm, by walk_at "MY frames", rfl, rfl, by walk_at "MY handled"⟩) (by walk_at "MY rotP") (by assumption) (by walk_at "MY sub") (by walk_at "MY apart") (by walk_at "MY front") (inst_ok) (by ktr_room) (by walk_at "MY units") ?_; k_whole; intro r1 σ1 S1 T21 h1 tk1 F1 N1 ho1 hl1 hS1 hap1 hP1; (have hg1 := hl1.2.2); (try simp only [List.nil_append] at ho1 hP1); (try dsimp only [List.nil_append, List.cons_append] at N1); obtain ⟨u1, hy1, e1, t1, d1, b1, k1, hr1, hm1, hm2, ht1⟩ := hP1; subst hr1; (try replace ht1 := TmIn.of_subT ht1 (by walk_at "MY subT")); (try k_sweep); (try dsimp only)))))
  k_with "@call ref" => ((k_here; (with_reducible show wpAny _ _ (call (Value.ref 193) _) _ _ _); k_dflt ((refine Ctr.use (by exact ⟨⟨_, by k_asm⟩, by k_asm, by k_asm, by k_asm, by k_asm, by walk_at "MY frames", rfl, rfl, by walk_at "MY handled"⟩) (by walk_at "MY rotP") (by assumption) (by walk_at "MY sub") (by walk_at "MY apart") (by walk_at "MY front") (terr_ok (by omega) (by decide) (by walk_at "MY tm")) (by ktr_room) (by walk_at "MY units") ?_; k_whole; intro r1 σ1 S1 T21 h1 tk1 F1 N1 ho1 hl1 hS1 hap1 hP1; (have hg1 := hl1.2.2); (try simp only [List.nil_append] at ho1 hP1); (try dsimp only [List.nil_append, List.cons_append] at N1); obtain ⟨u1, hy1, e1, t1, d1, b1, k1, hr1, hm1, hm2, ht1⟩ := hP1; subst hr1; (try replace ht1 := TmIn.of_subT ht1 (by walk_at "MY subT")); (try k_sweep); (try dsimp only)))))
  k_with "@eval ListComp" => ((k_here; k_dflt (refine listcomp_G (by k_asm) (by walk_at "MY handled") (by with_unfolding_all rfl) (by decide) (by rfl) (by decide) (by rfl) ?_; k_whole)))
  k_with "@eval Name" => ((k_here; (with_reducible show wpAny _ _ (eval (Expr.Name _ _) (compEnvC _ _ _ _)) _ _ _); k_dflt (refine ldCellK (by rfl) (cell_at (by k_asm) (by walk_at "MY mem") (by assumption)) ?_)))
  k_with "@call ref" => ((k_here; (with_reducible show wpAny _ _ (call (Value.ref 207) _) _ _ _); k_dflt ((refine CtrX.use (by exact ⟨⟨_, by k_asm⟩, by k_asm, by k_asm, by k_asm, by k_asm, by walk_at "MY frames", rfl, rfl, by walk_at "MY handled"⟩) (by walk_at "MY rotP") (by assumption) (by walk_at "MY sub") (by walk_at "MY apart") (by walk_at "MY front") (rind_ok (by omega) (by walk_at "MY tm") (by assumption)) (by ktr_room) (by walk_at "MY units") ?_ ?_; k_whole; (rotate_left; (intro e1 σ1 g1 h1 tk1 FG1 U1 R1 hl1; (try dsimp only)); rotate_right); (intro r1 σ1 S1 T21 h1 tk1 F1 N1 ho1 hl1 hS1 hap1 hP1; (have hg1 := hl1.2.2); (try simp only [List.nil_append] at ho1 hP1); (try dsimp only [led, List.nil_append, List.cons_append] at N1); obtain ⟨n1, t1, hr1, hn1⟩ := hP1; subst hr1; (try k_sweep); (try dsimp only))))))
  k_with "@isTrue Compare" => ((k_here; focus (k_dflt (first | ((with_reducible show wpAny _ _ (isTrue (PySem.Expr.Compare (PySem.Expr.Subscript (PySem.Expr.Name _ _) (PySem.Expr.Constant (PySem.Const.int 0) _ _) _) [CmpOp.Eq] [PySem.Expr.Constant (PySem.Const.str _) _ _] _) _ _) _ _ _); refine test_tag (by k_asm) (by rfl) (by k_asm) (by assumption) (by walk_at "MY sub") ?_ ?_; k_whole) | ((with_reducible show wpAny _ _ (isTrue (PySem.Expr.Compare (PySem.Expr.Subscript (PySem.Expr.Name _ _) (PySem.Expr.Constant (PySem.Const.int 0) _ _) _) [CmpOp.NotEq] [PySem.Expr.Constant (PySem.Const.str _) _ _] _) _ _) _ _ _); refine test_tagN (by k_asm) (by rfl) (by k_asm) (by assumption) (by walk_at "MY sub") ?_ ?_; k_whole) | ((with_reducible show wpAny _ _ (isTrue (PySem.Expr.Compare (PySem.Expr.Subscript (PySem.Expr.Name _ _) (PySem.Expr.Constant (PySem.Const.int 1) _ _) _) [CmpOp.Eq] [PySem.Expr.Name _ _] _) _ _) _ _ _); refine test_num (by k_asm) (by rfl) (by k_asm) (by assumption) (by walk_at "MY sub") (by k_asm) (by k_asm) (by k_is) ?_ ?_; k_whole) | ((with_reducible show wpAny _ _ (isTrue (PySem.Expr.Compare (PySem.Expr.Subscript (PySem.Expr.Name _ _) (PySem.Expr.Constant (PySem.Const.int 1) _ _) _) [CmpOp.NotEq] [PySem.Expr.Name _ _] _) _ _) _ _ _); refine test_numN (by k_asm) (by rfl) (by k_asm) (by assumption) (by walk_at "MY sub") (by k_asm) (by k_asm) (by k_is) ?_ ?_; k_whole) | ((with_reducible show wpAny _ _ (isTrue (PySem.Expr.Compare (PySem.Expr.Subscript (PySem.Expr.Name _ _) (PySem.Expr.Constant (PySem.Const.int 1) _ _) _) [CmpOp.Lt] [PySem.Expr.Constant (PySem.Const.int _) _ _] _) _ _) _ _ _); refine test_neg (by k_asm) (by rfl) (by k_asm) (by assumption) (by walk_at "MY sub") ?_ ?_; k_whole)); (all_goals (intro htag ttg)); (all_goals (try (first | exact absurd (by assumption) htag | exact absurd htag (by assumption) | exact absurd (htag.symm.trans (by assumption)) (by decide)))); (all_goals (try (have hop9 := TmIn.open (by assumption) (by assumption) (by assumption) htag (by decide); obtain ⟨bq, xq, yq, tq1, tq2, txq, tyq, eq9, mq1, mq2, hxq, hyq, okxq, okyq, hszq⟩ := hop9; (try subst eq9)))); (all_goals ((try (have hbq := ok_a (by assumption) htag)); (try (have hbq := ok_i (by assumption) htag)))); (all_goals (try dsimp only)))))
  k_with "@eval Subscript" => ((k_here; k_dflt (first | ((with_reducible show wpAny _ _ (eval (PySem.Expr.Subscript (PySem.Expr.Name _ _) (PySem.Expr.Constant (PySem.Const.int 0) _ _) _) _) _ _ _); refine sub_tag (by k_asm) (by rfl) (by k_asm) (by assumption) (by walk_at "MY sub") ?_; k_whole; intro tkg ttg) | ((with_reducible show wpAny _ _ (eval (PySem.Expr.Subscript (PySem.Expr.Name _ _) (PySem.Expr.Constant (PySem.Const.int 1) _ _) _) _) _ _ _); refine sub_num (by k_asm) (by rfl) (by k_asm) (by assumption) (by walk_at "MY sub") ?_; k_whole; intro tkg ttg) | ((with_reducible show wpAny _ _ (eval (PySem.Expr.Subscript (PySem.Expr.Name _ _) (PySem.Expr.Constant (PySem.Const.int 2) _ _) _) _) _ _ _); refine sub_two (by k_asm) (by rfl) (by k_asm) (by walk_at "MY mem") ?_; k_whole; intro ttg) | ((with_reducible show wpAny _ _ (eval (PySem.Expr.Subscript (PySem.Expr.Subscript (PySem.Expr.Name _ _) (PySem.Expr.Constant (PySem.Const.int 2) _ _) _) (PySem.Expr.Constant (PySem.Const.int 0) _ _) _) _) _ _ _); refine sub_kid (by k_asm) (by rfl) (by k_asm) (by walk_at "MY mem") (by walk_at "MY mem") ?_; k_whole; intro ttg) | ((with_reducible show wpAny _ _ (eval (PySem.Expr.Subscript (PySem.Expr.Subscript (PySem.Expr.Name _ _) (PySem.Expr.Constant (PySem.Const.int 2) _ _) _) (PySem.Expr.Constant (PySem.Const.int 1) _ _) _) _) _ _ _); refine sub_kid1 (by k_asm) (by rfl) (by k_asm) (by walk_at "MY mem") (by walk_at "MY mem") ?_; k_whole; intro ttg)); (try dsimp only)))
  k_with "@compareOp In str ref" => ((k_here; k_dflt (refine in_two (by k_asm) (by walk_at "MY mem") ?_ ?_; k_whole); (rotate_left; (intro htx hty; (try dsimp only)); rotate_right); intro htag; (try dsimp only)))
  k_with "@isTrue BoolOp" => ((k_here; focus (first | ((k_dflt (first | ((with_reducible show wpAny _ _ (isTrue (PySem.Expr.BoolOp BoolOp.And [PySem.Expr.Compare (PySem.Expr.Subscript _ _ _) [CmpOp.Eq] _ _, PySem.Expr.Compare (PySem.Expr.Subscript _ _ _) [CmpOp.Eq] _ _] _) _ _) _ _ _); refine test_both (by k_asm) (by rfl) (by k_asm) (by assumption) (by walk_at "MY sub") (by k_asm) (by k_asm) (by k_is) ?_ ?_; k_whole) | ((with_reducible show wpAny _ _ (isTrue (PySem.Expr.BoolOp BoolOp.Or [PySem.Expr.Compare (PySem.Expr.Subscript _ _ _) [CmpOp.NotEq] _ _, PySem.Expr.Compare (PySem.Expr.Subscript _ _ _) [CmpOp.NotEq] _ _] _) _ _) _ _ _); refine test_either (by k_asm) (by rfl) (by k_asm) (by assumption) (by walk_at "MY sub") (by k_asm) (by k_asm) (by k_is) ?_ ?_; k_whole))); (all_goals (intro htag ttg)); (all_goals (try (first | exact absurd htag.1 (by assumption) | exact absurd (htag.1.symm.trans (by assumption)) (by decide)))); (all_goals (try (have hop9 := TmIn.open (by assumption) (by assumption) htag.1 htag.2 (by decide); obtain ⟨bq, xq, yq, tq1, tq2, txq, tyq, eq9, mq1, mq2, hxq, hyq, okxq, okyq, hszq⟩ := hop9; (try subst eq9); (try (have hrrq := rows_row (by assumption)))))); (all_goals (try dsimp only))) | ((k_dflt (first | ((with_reducible show wpAny _ _ (isTrue (PySem.Expr.BoolOp BoolOp.And [PySem.Expr.Compare (PySem.Expr.Name _ _) [CmpOp.NotEq] _ _, PySem.Expr.BoolOp _ _ _] _) _ _) _ _ _); refine test_leaf (by k_asm) (by rfl) (by k_asm) (by assumption) (by walk_at "MY sub") (by k_asm) (by k_asm) (by k_is) (by walk_at "MY units") (by k_is) ?_ ?_; k_whole) | ((with_reducible show wpAny _ _ (isTrue (PySem.Expr.BoolOp BoolOp.Or [PySem.Expr.Compare (PySem.Expr.Name _ _) [CmpOp.Eq] _ _, PySem.Expr.BoolOp _ _ _] _) _ _) _ _ _); refine test_list (by k_asm) (by rfl) (by k_asm) (by assumption) (by walk_at "MY sub") (by k_asm) (by k_asm) (by k_is) (by walk_at "MY units") (by k_is) ?_ ?_; k_whole))); (all_goals (intro htag hq tq FQ NQ)); (all_goals (try dsimp only))))))
  k_with "@isTrue Compare" => ((k_here; focus ((with_reducible show wpAny _ _ (isTrue (PySem.Expr.Compare (PySem.Expr.Name _ _) [CmpOp.NotEq] [PySem.Expr.Tuple _ _ _] _) _ _) _ _ _); k_dflt (refine test_nil (by k_asm) (by rfl) (by k_asm) (by assumption) (by walk_at "MY sub") (by k_asm) (by k_asm) (by k_is) (by walk_at "MY units") ?_ ?_; k_whole); (all_goals (intro htag hq tq FQ NQ)); (all_goals (try (exact absurd ((nil_tag htag).symm.trans (by assumption)) (by decide)))); (all_goals (try dsimp only)))))
  k_with "@spliced" => ((k_here; k_dflt (first | ((with_reducible show wpAny _ _ (spliced (backTo _ (starEach (PySem.Expr.Name _ _ :: _ :: _) _))) _ _ _); first | (refine arg_name (by k_asm) (by rfl) ?_; k_whole) | (refine arg_glob (by k_asm) (by k_asm) (by k_asm) (by k_is) ?_; k_whole)) | ((with_reducible show wpAny _ _ (spliced (backTo _ (starEach (PySem.Expr.Name _ _ :: []) _))) _ _ _); first | (refine arz_name (by k_asm) (by rfl) ?_; k_whole) | (refine arz_glob (by k_asm) (by k_asm) (by k_asm) (by k_is) ?_; k_whole)) | ((with_reducible show wpAny _ _ (spliced (backTo _ (starEach (PySem.Expr.Constant (PySem.Const.str _) _ _ :: _ :: _) _))) _ _ _); refine arg_str ?_; k_whole; intro tka tta) | ((with_reducible show wpAny _ _ (spliced (backTo _ (starEach (PySem.Expr.Constant (PySem.Const.str _) _ _ :: []) _))) _ _ _); refine arz_str ?_; k_whole; intro tka tta) | ((with_reducible show wpAny _ _ (spliced (backTo _ (starEach (PySem.Expr.Constant (PySem.Const.int _) _ _ :: _ :: _) _))) _ _ _); refine arg_int ?_; k_whole; intro tka tta) | ((with_reducible show wpAny _ _ (spliced (backTo _ (starEach (PySem.Expr.Constant (PySem.Const.int _) _ _ :: []) _))) _ _ _); refine arz_int ?_; k_whole; intro tka tta)); (try dsimp only)))
  k_with "@eval Call" => ((k_here; (with_reducible show wpAny _ _ (eval (PySem.Expr.Call (PySem.Expr.Name _ _) (_ :: _) [] _) _) _ _ _); k_dflt (refine call_top (by k_asm) (by k_asm) (by k_asm) (by k_is) (by k_is) ?_; k_whole)))
  trivial

theorem rlist_ok {w : World} {mean : ExcName → Option Value} {mg mb : Str → Option Value} {c : Cx} {σ : Sym} {T : List (Addr × Obj)} {a : Addr} {t : Tm} (ht : TmIn T a t) (hokt : t.Ok) (hsz : t.size ≤ 200) (hb : 16 ≤ σ.G.length) :
    CtrX w mean mg mb c 212 90 900 [.ref c.sy, .ref a] σ T (fun τ => readList τ t) (fun σ' T2 _ r => ∃ b vs n l, r = .ref b ∧ (b, listOf vs.toArray n) ∈ T2 ∧ IntsAre vs l ∧ Says σ' (fun τ => readList τ t) (.ok l)) := by
  intro S A env outer base h₀ L m s Q E hS hT at' hA hU hret hexc
  obtain ⟨⟨A₀, B⟩, F, X, N, T', hfr, hfl, hki, hha⟩ := at'
  obtain ⟨⟨o1, o2, o3, o4, o5, o6, o7⟩, hI, hlen⟩ := hS.cx
  refine wpAny_call ?_
  k_dflt (refine' code_defC (binds := [(Str.ofString "symbols", .ref c.sy), (Str.ofString "term", .ref a)]) ?y1k1 ?y1k2 ?y1k3 ?y1k4 ?y1k5 ?y1kA ?y1kF ?y1kK ?y1k6 ?y1k7 ?y1k8 ?y1k9 ?y1kB ?y1kD ?_ ?y1c2 ?y1c3 ?y1c4; (case y1kA => assumption); (case y1kF => assumption); (case y1kK => assumption); (case y1k1 => k_asm); (case y1k2 => k_asm); (case y1k3 => k_asm); (case y1k4 => k_asm); (case y1k5 => k_asm); (case y1k6 => k_is); (case y1k7 => k_is); (case y1k8 => ktr_room); (case y1k9 => exact BindsTo.of_eq rfl); (case y1kB => exact rfl); (case y1kD => decide +kernel); (case y1c2 => exact rfl); (case y1c3 => exact rfl); (case y1c4 => exact rfl); k_whole; intro g' L' h' tk' cells' FG' F' N' Y' B' X' T'' l1; (try k_lt l1); k_cells Y'; (try simp only [List.cons_append, List.nil_append] at N'); (try dsimp only); (try k_fold))
  have hcell := raw_succ (x := L') (by assumption)
  k_steps
  · refine hexc _ _ _ _ _ (by assumption) (by assumption) (exc_end (by assumption) (by walk_at "MY sub") (over_ne (by assumption) (by assumption) (by walk_at "MY sub")) (says_err (g := instE) (fun τ => rl_vT htl (by assumption)) (by assumption))) (by walk_at "MY le")
  · refine hexc _ _ _ _ _ (by assumption) (by assumption) (exc_end (by assumption) (by walk_at "MY sub") (over_ne (by assumption) (by assumption) (by walk_at "MY sub")) (says_err (g := fun τ => typeE τ (Str.ofString "list") t) (fun τ => rl_badT htl (by assumption) (by assumption)) (by assumption))) (by walk_at "MY le")
  · (with_reducible rename Mine.Tm.isNil _ = true => hnl)
    replace htl := htl.trans (nil_eq hnl)
    have hil : _ ≤ 200 := Nat.le_trans (items_len t) (by omega)
    rw [hit] at hil
    refine comp_go (by assumption) (News.led (by assumption) (by walk_at "MY rotP")) (by walk_at "MY mem") (hir.mono (SubT.of (by walk_at "MY sub"))) (StOk.mono (by assumption) (by walk_at "MY sub")) (by walk_at "MY apart") hil ?_ ?_
    · intro i hi x5 ys5 I oI C oC D m₂ h5 tk5 σ5 S5 T5 l5 hS5 hap5 hl5 hov5 ht5 hy5 hi5 hoI hoC hm₂ F5 N5 off ne lI lC lD
      have hg5 := hl5.2.2
      have hoki : (_ : Tm).Ok := items_ok hokt _ (by rw [hit]; exact List.getElem_mem hi)
      have qI : @LT.lt Nat _ c.ff I := led_ffx lI
      have qC : @LT.lt Nat _ c.ff C := led_ffx lC
      have qD : @LT.lt Nat _ c.ff D := led_ffx lD
      k_steps
      · exact CEnd.intro (by assumption) (by assumption) (by assumption) (by assumption) (by assumption) (by assumption)
      · have qC2 := (N5 (C, oC) (by walk_at "MY mem")).2
        show wpAny _ _ (noteFrame _ _) _ _ _
        refine comp_raised (by walk_at "MY frames") rfl (by assumption) (by walk_at "MY mem") hoC (ns_not_ball hoC hm₂) ?_
        intro h6 R6 U6
        show wpAny _ _ (leaving _ _) _ _ _
        refine leave_F (by assumption) (fr_hide (by assumption) qC2.1 qC2.2) R6 (U6 _ (hideAll_none [C] (.head _)) (hide_up _ (by assumption))) rfl ?_
        intro h7 R7 U7
        refine hexc _ _ _ _ _ (by assumption) U7 (R7.imp (fun u hu => says_stopS htl hit hi hy5 (by assumption) hu) fun p hp => List.mem_filter.mpr ⟨by walk_at "MY mem", decide_eq_true (Nat.ne_of_lt (lC p (led_mem (by walk_at "MY mem"))))⟩) (by walk_at "MY le")
    · intro D ys5 h5 tk5 σ5 S5 T5 l5 hS5 hap5 hl5 hov5 hi5 hy5 F5 N5 lD
      (try dsimp only)
      k_steps
      refine hret _ _ _ _ _ _ _ (by assumption) (News.led (by assumption) (by walk_at "MY rotP")) (StOk.mono (by assumption) (by walk_at "MY sub")) (by walk_at "MY suf") (by walk_at "MY le") (by walk_at "MY over") ⟨_, _, _, _, rfl, (by walk_at "MY mem"), hi5, says_list htl hit hy5⟩
end Mine
end

section
set_option maxRecDepth 100000
set_option maxHeartbeats 4000000
set_option Elab.async false
namespace Mine
open PySem PySem.W PyProof.Rows PySem.Calls PyProof.V PySem.Spec
def tot : List Tm → Nat
  | [] => 0
  | t :: r => t.size + tot r
theorem tot_app : ∀ a b : List Tm, tot (a ++ b) = tot a + tot b
  | [], b => by simp [tot]
  | t :: r, b => by simp only [List.cons_append, tot, tot_app r b]; omega
theorem len_tot : ∀ ts : List Tm, ts.length ≤ tot ts
  | [] => Nat.le_refl _
  | t :: r => by have := len_tot r; have := size_pos t; simp only [List.length_cons, tot]; omega
theorem readAll_cons {τ : Sym} {x : Tm} {r : List Tm} : readAll τ (x :: r) = join (read τ x) (readAll τ r) := rfl
/-- what is still to read, from the stack's end -/
def Rest (σ : Sym) (t : Tm) (l : List Int) (ts : List Tm) : Prop := ∀ τ, σ.le τ → read τ t = join (.ok l) (readAll τ ts.reverse)
theorem Rest.start {σ : Sym} {t : Tm} : Rest σ t [] [t] := fun τ _ => by
  show read τ t = join (.ok []) (join (read τ t) (.ok []))
  rw [nil_join, join_nil]
theorem Rest.done {σ : Sym} {t : Tm} {l : List Int} (h : Rest σ t l []) : Says σ (fun τ => read τ t) (.ok l) := fun τ z => (h τ z).trans (join_nil _)
theorem rev_snoc {ts : List Tm} {p : Tm} : (ts ++ [p]).reverse = p :: ts.reverse := by simp
theorem rev_two {ts : List Tm} {p q : Tm} : (ts ++ [q] ++ [p]).reverse = p :: q :: ts.reverse := by simp
theorem join_ok {a b : List Int} {r : Except Tm (List Int)} : join (.ok a) (join (.ok b) r) = join (.ok (a ++ b)) r := by rw [← join_assoc]; rfl
theorem Rest.comma {σ : Sym} {t x y : Tm} {l : List Int} {ts : List Tm} (h : Rest σ t l (ts ++ [.s2 1 x y])) : Rest σ t l (ts ++ [y] ++ [x]) := fun τ z => by
  rw [h τ z, rev_snoc, rev_two, readAll_cons, readAll_cons, readAll_cons]
  rw [show read τ (.s2 1 x y) = join (read τ x) (read τ y) from by conv => lhs; unfold read; rw [if_pos rfl], join_assoc]
theorem Rest.took {σ σ' : Sym} {t p : Tm} {l r : List Int} {ts : List Tm} (h : Rest σ t l (ts ++ [p])) (e : σ.le σ') (k : Says σ' (fun τ => read τ p) (.ok r)) : Rest σ' t (l ++ r) ts := fun τ z => by
  rw [h τ (Sym.le_trans e z), rev_snoc, readAll_cons, show read τ p = .ok r from k τ z, join_ok]
theorem Rest.bad {σ σ' : Sym} {t p u : Tm} {l : List Int} {ts : List Tm} (h : Rest σ t l (ts ++ [p])) (e : σ.le σ') (k : Says σ' (fun τ => read τ p) (.error u)) : Says σ' (fun τ => read τ t) (.error u) := fun τ z => by
  dsimp only
  rw [h τ (Sym.le_trans e z), rev_snoc, readAll_cons, show read τ p = .error u from k τ z]; rfl
theorem says_oneS {σ : Sym} {t : Tm} {n : Int} (h : Says σ (fun τ => single τ t) (.ok n)) : Says σ (fun τ => one τ t) (.ok [n]) := fun τ z => by
  have e := h τ z
  dsimp only at e ⊢
  unfold one
  rw [e]
theorem says_leafR {σ : Sym} {t : Tm} {r : Except Tm (List Int)} (hl : t.leaf) (h : Says σ (fun τ => one τ t) r) : Says σ (fun τ => read τ t) r := fun τ z => (read_leaf hl).trans (h τ z)
theorem says_nilR {σ : Sym} {r : Except Tm (List Int)} (h : Says σ (fun τ => readList τ (.a 0)) r) : Says σ (fun τ => read τ (.a 0)) r := fun τ z => h τ z
theorem says_listLen {σ : Sym} {t : Tm} {l : List Int} {vs : List Value} (h : Says σ (fun τ => readList τ t) (.ok l)) (k : IntsAre vs l) : vs.length ≤ t.size := by
  have e := readList_len (h σ (Sym.le_refl σ))
  rw [← k.length] at e
  exact e
theorem snoc_of {ws : Array Value} {T : List (Addr × Obj)} {ts0 : List Tm} {p : Tm} (h : ItemsR T ws.toList (ts0 ++ [p])) : ∃ ws0 x, ws = (ws0 ++ [Value.ref x]).toArray ∧ ItemsR T ws0 ts0 ∧ TmIn T x p := by
  obtain ⟨h1, h2⟩ := h
  have key : ∀ wl : List Value, wl.length = (ts0 ++ [p]).length → (∀ (i : Nat) (h : i < (ts0 ++ [p]).length), ∃ a, wl[i]? = some (Value.ref a) ∧ TmIn T a (ts0 ++ [p])[i]) → ∃ ws0 x, wl = ws0 ++ [Value.ref x] ∧ ItemsR T ws0 ts0 ∧ TmIn T x p := by
    intro wl k1 k2
    rcases List.eq_nil_or_concat wl with rfl | ⟨w0, y, hw⟩
    · simp at k1
    · rw [List.concat_eq_append] at hw
      subst hw
      have hl0 : w0.length = ts0.length := by simpa using k1
      obtain ⟨x, ex, tx⟩ := k2 ts0.length (by simp)
      have hy : y = .ref x := by
        rw [List.getElem?_append_right (by omega), hl0, Nat.sub_self] at ex
        exact Option.some.inj ex
      subst hy
      refine ⟨w0, x, rfl, ⟨hl0, fun i hi => ?_⟩, by simpa using tx⟩
      obtain ⟨b, eb, tb⟩ := k2 i (by simp; omega)
      refine ⟨b, ?_, by rw [List.getElem_append_left hi] at tb; exact tb⟩
      rw [List.getElem?_append_left (by omega)] at eb
      exact eb
  obtain ⟨ws0, x, e, r⟩ := key ws.toList h1 h2
  exact ⟨ws0, x, by rw [← e, Array.toArray_toList], r⟩
def JK (w : World) (c : Cx) (σ₀ : Sym) (T₀ : List (Addr × Obj)) (wk : Addr) (m₀ : Str → Option Value) (t : Tm) (n : Nat) (m : Str → Option Value) (news : List (Addr × Obj)) : Prop :=
  ∃ σ S T2 T' fd vs wa kf kw l ts pv, n = tot ts ∧ news = (wk, listOf wa kw) :: (fd, listOf vs.toArray kf) :: led w c S T' ∧ StOk w c σ S T' ∧ T' = T2 ++ T₀ ∧ Apart c T' ∧ (∀ p ∈ T', p.1 ≠ wk) ∧ (∀ p ∈ T', p.1 ≠ fd) ∧ fd ≠ wk ∧ @LT.lt Nat _ c.ff fd ∧ σ₀.le σ ∧ (∀ p ∈ T2, Over c T₀ p.1) ∧ (∀ p ∈ T₀, p.1 < fd) ∧
    ItemsR T' wa.toList ts ∧ (∀ u ∈ ts, u.Ok) ∧ IntsAre vs l ∧ vs.length + tot ts ≤ t.size ∧ Rest σ t l ts ∧ m = fun z => if z = Str.ofString "part" then pv else if z = Str.ofString "found" then some (.ref fd) else m₀ z
theorem JK.intro {w : World} {c : Cx} {σ₀ σ : Sym} {S : St} {T₀ T' T2 : List (Addr × Obj)} {wk fd : Addr} {m₀ m : Str → Option Value} {t : Tm} {vs : List Value} {va wa : Array Value} {kf kw : Nat} {l : List Int} {ts : List Tm} {pv : Option Value}
    (hr : Rest σ t l ts) (hS : StOk w c σ S T') (e : T' = T2 ++ T₀) (hap : Apart c T') (hw : ∀ p ∈ T', p.1 ≠ wk) (hf : ∀ p ∈ T', p.1 ≠ fd) (hwf : fd ≠ wk) (hcf : @LT.lt Nat _ c.ff fd) (hle : σ₀.le σ) (hov : ∀ p ∈ T2, Over c T₀ p.1) (hfd : ∀ p ∈ T₀, p.1 < fd)
    (hI : ItemsR T' wa.toList ts) (hok : ∀ u ∈ ts, u.Ok) (hi : IntsAre vs l) (hv : va = vs.toArray) (hsz : vs.length + tot ts ≤ t.size) (hm : m = fun z => if z = Str.ofString "part" then pv else if z = Str.ofString "found" then some (.ref fd) else m₀ z) :
    JK w c σ₀ T₀ wk m₀ t (tot ts) m ((wk, listOf wa kw) :: (fd, listOf va kf) :: led w c S T') := by
  subst hv
  exact ⟨σ, S, T2, T', fd, vs, wa, kf, kw, l, ts, pv, rfl, rfl, hS, e, hap, hw, hf, hwf, hcf, hle, hov, hfd, hI, hok, hi, hsz, hr, hm⟩
theorem work_loop {w : World} {A : Around} {s : Shared} {env : Env} {h₀ : Heap} {L wk fd₀ a : Addr} {test : Expr} {body : List Stmt} {pos : Pos} {Q : Flow → Shared → Prop} {E : Value → Shared → Prop} {m : Str → Option Value} {c : Cx} {σ₀ : Sym} {S : St} {T₀ : List (Addr × Obj)} {t : Tm} {k0 : Nat}
    (F : Fr h₀ L s.heap m) (N : News h₀ L s.heap ((wk, listOf #[.ref a] k0) :: (fd₀, listOf #[] 0) :: led w c S T₀)) (hm : m (Str.ofString "found") = some (.ref fd₀)) (ht : TmIn T₀ a t) (hok : t.Ok) (hS : StOk w c σ₀ S T₀) (hap : Apart c T₀) (hw : ∀ p ∈ T₀, p.1 ≠ wk) (hf : ∀ p ∈ T₀, p.1 < fd₀) (hwf : fd₀ ≠ wk) (hcf : @LT.lt Nat _ c.ff fd₀)
    (turn : ∀ ws0 x p ts0 fd vs kf kw l pv σ S' T2 h₁ tk₁, TmIn (T2 ++ T₀) x p → p.Ok → ItemsR (T2 ++ T₀) ws0 ts0 → (ws0 ++ [Value.ref x]).length = ts0.length + 1 → ts0.length ≤ tot ts0 → vs.length + tot ts0 + p.size ≤ t.size → tot (ts0 ++ [p]) = tot ts0 + p.size → (∀ u ∈ ts0, u.Ok) → IntsAre vs l → Rest σ t l (ts0 ++ [p]) →
      StOk w c σ S' (T2 ++ T₀) → Apart c (T2 ++ T₀) → (∀ q ∈ T2 ++ T₀, q.1 ≠ wk) → (∀ q ∈ T2 ++ T₀, q.1 ≠ fd) → fd ≠ wk → wk ≠ fd → @LT.lt Nat _ c.ff fd → σ₀.le σ → (∀ q ∈ T2, Over c T₀ q.1) → (∀ q ∈ T₀, q.1 < fd) →
      Fr h₀ L h₁ (fun z => if z = Str.ofString "part" then pv else if z = Str.ofString "found" then some (.ref fd) else m z) → News h₀ L h₁ ((wk, listOf (ws0 ++ [Value.ref x]).toArray kw) :: (fd, listOf vs.toArray kf) :: led w c S' (T2 ++ T₀)) →
      wpAny (model PySem.Challenge.rw_no0155_01.row.prog w) A (isTrue test env (eval test env)) (fun b s₂ =>
        if b = true then wpAny (model PySem.Challenge.rw_no0155_01.row.prog w) A (execs body env) (WhileStep h₀ L s (JK w c σ₀ T₀ wk m t) (tot (ts0 ++ [p]))) E s₂ else Q .next s₂) E { s with heap := h₁, toks := tk₁ })
    (stop : ∀ fd vs kf kw l pv σ S' T2 h₁ tk₁, IntsAre vs l → Says σ (fun τ => read τ t) (.ok l) →
      StOk w c σ S' (T2 ++ T₀) → Apart c (T2 ++ T₀) → fd ≠ wk → @LT.lt Nat _ c.ff fd → σ₀.le σ → (∀ q ∈ T2, Over c T₀ q.1) → (∀ q ∈ T₀, q.1 < fd) →
      Fr h₀ L h₁ (fun z => if z = Str.ofString "part" then pv else if z = Str.ofString "found" then some (.ref fd) else m z) → News h₀ L h₁ ((wk, listOf #[] kw) :: (fd, listOf vs.toArray kf) :: led w c S' (T2 ++ T₀)) →
      wpAny (model PySem.Challenge.rw_no0155_01.row.prog w) A (isTrue test env (eval test env)) (fun b s₂ =>
        if b = true then wpAny (model PySem.Challenge.rw_no0155_01.row.prog w) A (execs body env) (WhileStep h₀ L s (JK w c σ₀ T₀ wk m t) 0) E s₂ else Q .next s₂) E { s with heap := h₁, toks := tk₁ })
    (hE : PassesOwn (model PySem.Challenge.rw_no0155_01.row.prog w) A env E := by passes_own) : wpAny (model PySem.Challenge.rw_no0155_01.row.prog w) A (exec (.While test body [] pos) env) Q E s := by
  have h1 : tot [t] = t.size := by simp [tot]
  refine While_inv (JK w c σ₀ T₀ wk m t) (n₀ := tot [t]) F N ⟨σ₀, S, [], T₀, fd₀, [], #[.ref a], 0, k0, [], [t], m (Str.ofString "part"), rfl, rfl, hS, rfl, hap, hw, fun p hp => Nat.ne_of_lt (hf p hp), hwf, hcf, Sym.le_refl _, over_nil, hf,
    ⟨rfl, fun i hi => ?_⟩, fun u hu => by rw [List.mem_singleton.mp hu]; exact hok, .nil, by rw [h1]; simp, Rest.start, ?_⟩ ?_ hE
  · have : i = 0 := by simp at hi; omega
    subst this
    exact ⟨a, rfl, ht⟩
  · funext z
    by_cases q1 : z = Str.ofString "part"
    · rw [if_pos q1, q1]
    · rw [if_neg q1]
      by_cases q2 : z = Str.ofString "found"
      · rw [if_pos q2, q2, hm]
      · rw [if_neg q2]
  rintro n m₁ news₁ h₁ tk₁ F₁ N₁ ⟨σ, S', T2, T', fd, vs, wa, kf, kw, l, ts, pv, rfl, rfl, hS', rfl, hap', hw', hf', hwf', hcf', hle, hov, hfd, hI, hok', hi, hsz, hr, rfl⟩
  rcases List.eq_nil_or_concat ts with rfl | ⟨ts0, p, hts⟩
  · have : wa = #[] := by
      have := hI.1
      simp at this
      simpa using this
    subst this
    exact stop fd vs kf kw l pv σ S' T2 h₁ tk₁ hi hr.done hS' hap' hwf' hcf' hle hov hfd F₁ N₁
  · rw [List.concat_eq_append] at hts
    subst hts
    obtain ⟨ws0, x, rfl, hI0, hx⟩ := snoc_of hI
    have e1 : tot (ts0 ++ [p]) = tot ts0 + p.size := by rw [tot_app]; simp [tot]
    exact turn ws0 x p ts0 fd vs kf kw l pv σ S' T2 h₁ tk₁ hx (hok' p (by simp)) hI0 (by have := hI0.1; simp [this]) (len_tot ts0) (by omega) e1 (fun u hu => hok' u (List.mem_append_left _ hu)) hi hr hS' hap' hw' hf' hwf' hwf'.symm hcf' hle hov hfd F₁ N₁
end Mine
end

section
set_option maxRecDepth 100000
set_option maxHeartbeats 8000000
set_option Elab.async false
namespace Mine
open PySem PySem.W PyProof.Rows PySem.Calls PyProof.V PySem.Spec

theorem fill_hereY8 (w : World) (h : Heap) (X : (hd.heap_39 w.params).In h) (hp : PySem.Challenge.rw_no0155_01.prog = PySem.Challenge.rw_no0155_01.prog) : (hd.heap_39 w.params).In h ∧ PySem.Challenge.rw_no0155_01.prog = PySem.Challenge.rw_no0155_01.prog := by
  k_fill
  exact ⟨X, hp⟩

theorem News.perm3 {h₀ h : Heap} {L : Addr} {a b d : Addr × Obj} {r : List (Addr × Obj)} (N : News h₀ L h (a :: b :: d :: r)) : News h₀ L h (b :: a :: r) := News.sub N fun p hp => by
  simp only [List.mem_cons] at hp ⊢
  grind
theorem map_pf {m m₀ : Str → Option Value} {fd : Addr} (h : ∀ z, z ≠ Str.ofString "part" → z ≠ Str.ofString "found" → m z = m₀ z) (k : m (Str.ofString "found") = some (.ref fd)) :
    m = fun z => if z = Str.ofString "part" then m (Str.ofString "part") else if z = Str.ofString "found" then some (.ref fd) else m₀ z := by
  funext z
  by_cases h1 : z = Str.ofString "part"
  · rw [if_pos h1, h1]
  · rw [if_neg h1]
    by_cases h2 : z = Str.ofString "found"
    · rw [if_pos h2, h2, k]
    · rw [if_neg h2]; exact h z h1 h2
theorem snoc_two {T : List (Addr × Obj)} {ws : List Value} {ts : List Tm} {a b : Addr} {x y : Tm} (h : ItemsR T ws ts) (hy : TmIn T a y) (hx : TmIn T b x) : ItemsR T ((ws.toArray.push (.ref a)).push (.ref b)).toList (ts ++ [y] ++ [x]) := by
  rw [Array.toList_push, Array.toList_push]
  exact (h.snoc hy).snoc hx
theorem ok_two {ts : List Tm} {x y : Tm} (h : ∀ u ∈ ts, u.Ok) (hy : y.Ok) (hx : x.Ok) : ∀ u ∈ ts ++ [y] ++ [x], u.Ok := fun u hu => by
  simp only [List.mem_append, List.mem_singleton] at hu
  rcases hu with (hu | rfl) | rfl
  · exact h u hu
  · exact hy
  · exact hx
theorem leaf_s2 {f : Int} {x y : Tm} (h : f ≠ 0) (k : f ≠ 1) : (Tm.s2 f x y).leaf := ⟨h, k⟩
theorem tot_two {ts : List Tm} {x y : Tm} : tot (ts ++ [y] ++ [x]) = tot ts + y.size + x.size := by simp only [tot_app, tot]; omega

theorem lt_of_raw {B T : List (Addr × Obj)} {d : Addr} (h : ∀ p ∈ B, p.1 < d) (k : ∀ p ∈ T, p ∈ B) : ∀ p ∈ T, p.1 < d := fun p hp => h p (k p hp)

theorem pop_K {prog : Program} {w : World} {A : Around} {E : Value → Shared → Prop} {s : Shared} {h₀ : Heap} {L D : Addr} {m : Str → Option Value} {news news' : List (Addr × Obj)} {its : Array Value} {n : Nat} {p : List Value} {y : Value} {Q : Value → Shared → Prop}
    (F : Fr h₀ L s.heap m) (N : News h₀ L s.heap news) (U : Upd D (listOf its n) (listOf p.toArray (n + 1)) news news') (e : kl_last its.toList = some (p, y))
    (hz : its.toList.length ≤ sizeLine) (h : ∀ h', Fr h₀ L h' m → News h₀ L h' news' → Q y { s with heap := h' }) : wpAny (model prog w) A (call (.builtin "list.pop") [.ref D]) Q E s := kl_pop F N e U hz h
theorem Sym.le_G {σ τ : Sym} (h : σ.le τ) : σ.G.length ≤ τ.G.length := h.2.2
theorem says_listR {σ : Sym} {t : Tm} {r : Except Tm (List Int)} (ok : t.Ok) (h : t.isNil = true ∨ (t.tag = Str.ofString "s" ∧ t.nm = 0)) (k : Says σ (fun τ => readList τ t) r) : Says σ (fun τ => read τ t) r := fun τ z => (read_list ok h).trans (k τ z)










theorem words_NY8 : True := by
  k_with_none
  k_with "@MY mem" => (first | with_reducible assumption | exact List.mem_cons_self | (with_reducible refine List.mem_cons_of_mem _ ?_; walk_at "MY mem") | (with_reducible refine List.mem_append_left _ ?_; walk_at "MY mem") | (with_reducible refine List.mem_append_right _ ?_; walk_at "MY mem") | exact led_sy | exact led_dx | exact led_ff | exact led_hd | exact led_cl | (with_reducible refine led_T ?_; walk_at "MY mem"))
  k_with "@call builtin:len" => ((k_here; (with_reducible show wpAny _ _ (call (Value.builtin "len") [Value.ref _]) _ _ _); k_dflt (refine len_list (by exact News.isList (by k_asm) (by walk_at "MY mem")) (by omega) ?_; k_whole)))
  k_with "@subscriptTail Subscript Name Constant Subscript ref int" => ((k_here; (with_reducible show wpAny _ _ (subscriptTail _ _ (Value.ref _) (Value.int _ _)) _ _ _); k_dflt (refine item_int (by exact News.isList (by k_asm) (by walk_at "MY mem")) (by omega) (by omega) (by omega) (by assumption) ?_; k_whole); intro j tj))
  k_with "@subscriptTail Name Constant ref int" => ((k_here; k_dflt (first | (refine item_list (by exact News.isList (by k_asm) (by walk_at "MY mem")) (by decide) (by decide) (by rfl) ?_; k_whole) | (refine item_tupleT (by exact News.isTup (by k_asm) (by walk_at "MY mem")) (by decide) (by decide) (by rfl) (by rfl) ?_; k_whole))))
  k_with "@subscriptTail Subscript Name Constant Constant ref int" => ((k_here; k_dflt (refine item_tupleT (by exact News.isTup (by k_asm) (by walk_at "MY mem")) (by decide) (by decide) (by rfl) (by rfl) ?_; k_whole)))
  k_with "@MY sub" => ((intro p9 hp9; walk_at "MY mem"))
  k_with "@MY units" => (((try simp only [units_in1, units_deeper, Around.mark_units, units_caller] at *); omega))
  k_with "@MY over" => (first | exact over_nil | assumption | (refine over_cons (over_of (by assumption) (by walk_at "MY mem") (by walk_at "MY sub")) ?_; walk_at "MY over") | (refine over_app ?_ ?_ <;> walk_at "MY over") | exact over_mono (by assumption) (by walk_at "MY sub"))
  k_with "@MY rot" => (first | exact Rot.base | (apply Rot.pushT; walk_at "MY rot") | (apply Rot.pushL; walk_at "MY rot") | (apply Rot.keep; walk_at "MY rot") | (apply Rot.drop; walk_at "MY rot"))
  k_with "@MY front" => (first | exact List.forall_mem_nil _ | (refine List.forall_mem_cons.mpr ⟨by first | assumption | decide, ?_⟩; walk_at "MY front"))
  k_with "@MY subT" => (first | exact SubT.front (by walk_at "MY front") | exact SubT.refl)
  k_with "@MY frames" => (first | exact Around.frames_deeper (by assumption) | (simp only [Around.in1_frames]; exact Around.frames_deeper (by assumption)))
  k_with "@MY handled" => (first | assumption | (simp only [Around.in1_handled]; assumption))
  k_with "@MY apart" => (((try simp only [List.nil_append, List.cons_append]); first | assumption | (refine Apart.cons (by first | with_reducible assumption | exact raw_lt (by assumption) (by walk_at "MY mem") | ((try dsimp only); omega)) ?_; walk_at "MY apart")))
  k_with "@MY le" => (first | exact Sym.le_refl _ | assumption | (refine Sym.le_trans ?_ (by assumption); walk_at "MY le"))
  k_with "@MY suf" => (first | exact suf_nil | (apply suf_cons; walk_at "MY suf") | (apply suf_app; walk_at "MY suf"))
  k_with "@MY off" => (first | exact led_offT (by assumption) | (refine off_cons (by first | exact raw_lt (by assumption) (by walk_at "MY mem") | ((try dsimp only); omega)) ?_; walk_at "MY off") | (refine off_join (off_app (by assumption) (by walk_at "MY mem")) ?_; walk_at "MY off"))
  k_with "@call builtin:list.append" => ((k_here; (with_reducible show wpAny _ _ (call (Value.builtin _) [Value.ref _, _]) _ _ _); k_dflt (refine append_K (by k_asm) (by k_asm) (by k_upd) ?_ (by (rw [sizeLine_eq]; simp only [List.size_toArray, List.length_cons, List.length_nil]; omega)); k_whole); intro h' F' N'; (try k_sweep)))
  k_with "@call builtin:len" => ((k_here; (with_reducible show wpAny _ _ (call (Value.builtin "len") [Value.ref _]) _ _ _); k_dflt (refine kun_lenL (by exact News.isList (by k_asm) (by walk_at "MY mem")) (by first | exact congrArg Nat.cast (by assumption) | rfl) (by omega) ?_; k_whole)))
  k_with "@call ref" => ((k_here; (with_reducible show wpAny _ _ (call (Value.ref 88) _) _ _ _); k_dflt ((refine Ctr.use (by exact ⟨⟨_, by k_asm⟩, by k_asm, by k_asm, by k_asm, by k_asm, by walk_at "MY frames", rfl, rfl, by walk_at "MY handled"⟩) (by walk_at "MY rot") (by assumption) (by walk_at "MY sub") (by walk_at "MY apart") (by walk_at "MY front") (atom_ok (by first | assumption | decide)) (by ktr_room) (by walk_at "MY units") ?_; k_whole; intro r1 σ1 S1 T21 h1 tk1 F1 N1 ho1 hl1 hS1 hap1 hP1; (have hg1 := hl1.2.2); (try simp only [List.nil_append] at ho1 hP1); (try dsimp only [List.nil_append, List.cons_append] at N1); obtain ⟨hT1, n1, t1, hr1, hn1, hn2, hy1, he1⟩ := hP1; subst hr1; subst hT1; (try simp only [List.nil_append] at hS1 hap1 N1); (try k_sweep); (try dsimp only)))))
  k_with "@call ref" => ((k_here; (with_reducible show wpAny _ _ (call (Value.ref 102) _) _ _ _); k_dflt ((refine Ctr.use (by exact ⟨⟨_, by k_asm⟩, by k_asm, by k_asm, by k_asm, by k_asm, by walk_at "MY frames", rfl, rfl, by walk_at "MY handled"⟩) (by walk_at "MY rot") (by assumption) (by walk_at "MY sub") (by walk_at "MY apart") (by walk_at "MY front") (functor_ok (by omega) (by omega) (by omega) (by omega) (by first | assumption | omega | ((with_reducible rename _ = Sym.inA _ _ => he9); rw [he9, inA_G]; assumption))) (by ktr_room) (by walk_at "MY units") ?_; k_whole; intro r1 σ1 S1 T21 h1 tk1 F1 N1 ho1 hl1 hS1 hap1 hP1; (have hg1 := hl1.2.2); (try simp only [List.nil_append] at ho1 hP1); (try dsimp only [List.nil_append, List.cons_append] at N1); obtain ⟨n1, t1, hr1, hk1, hy1, he1⟩ := hP1; subst hr1; (try k_sweep); (try dsimp only)))))
  k_with "@MY tm" => (first | assumption | exact TmIn.mono (by assumption) (by walk_at "MY sub") | exact TmIn.v (by walk_at "MY mem") | exact TmIn.i (by walk_at "MY mem") | exact TmIn.a (by walk_at "MY mem") | (apply TmIn.s2; (walk_at "MY mem"); (walk_at "MY mem"); (walk_at "MY tm"); (walk_at "MY tm")))
  k_with "@MY sub" => (first | (intro p9 hp9; walk_at "MY mem") | (refine sub_cons (by walk_at "MY mem") ?_; walk_at "MY sub") | (refine sub_app ?_ ?_ <;> walk_at "MY sub"))
  k_with "@compareOp Eq ref ref" => ((k_here; k_dflt (refine PySem.SeqAt.eq_list_lengthsAt (by exact News.isList (by k_asm) (by walk_at "MY mem")) (by exact News.isList (by k_asm) (by walk_at "MY mem")) (by rfl) (by walk_at "MY units") ?_; k_whole)))
  k_with "@binaryOp Add ref ref" => ((k_here; k_dflt (refine add_K (by k_asm) (by k_asm) (by walk_at "MY mem") (by walk_at "MY mem") (by omega) ?_; k_whole); intro D' h' F' N' l1; (try k_lt l1); (try k_sweep)))
  k_with "@compareOp NotEq ref ref" => ((k_here; k_dflt (first | (refine ne_nil_t (by first | assumption | rfl) (by k_asm) (by assumption) (by walk_at "MY sub") (by walk_at "MY mem") (by walk_at "MY units") ?_; k_whole) | (refine ne_nil_f (by first | assumption | rfl) (by k_asm) (by assumption) (by walk_at "MY sub") (by walk_at "MY mem") (by walk_at "MY units") ?_; k_whole))))
  k_with "@call ref" => ((k_here; (with_reducible show wpAny _ _ (call (Value.ref 207) _) _ _ _); k_dflt ((refine CtrX.use (by exact ⟨⟨_, by k_asm⟩, by k_asm, by k_asm, by k_asm, by k_asm, by walk_at "MY frames", rfl, rfl, by walk_at "MY handled"⟩) (by first | (apply Rot.pushT; apply Rot.keep; apply Rot.keep; exact Rot.base) | (apply Rot.keep; apply Rot.keep; exact Rot.base)) (by assumption) (by walk_at "MY sub") (by walk_at "MY apart") (by walk_at "MY front") (rind_ok (by first | omega | exact Nat.le_trans (by assumption) (Sym.le_G (by assumption))) (by walk_at "MY tm") (by assumption)) (by ktr_room) (by walk_at "MY units") ?_ ?_; k_whole; (rotate_left; (intro e1 σ1 g1 h1 tk1 FG1 U1 R1 hl1; (try dsimp only)); rotate_right); (intro r1 σ1 S1 T21 h1 tk1 F1 N1 ho1 hl1 hS1 hap1 hP1; (have hg1 := hl1.2.2); (try simp only [List.nil_append] at ho1 hP1); (try dsimp only [led, List.nil_append, List.cons_append] at N1); obtain ⟨n1, t1, hr1, hn1⟩ := hP1; subst hr1; (try k_sweep); (try dsimp only))))))
  k_with "@call ref" => ((k_here; (with_reducible show wpAny _ _ (call (Value.ref 212) _) _ _ _); k_dflt ((refine CtrX.use (by exact ⟨⟨_, by k_asm⟩, by k_asm, by k_asm, by k_asm, by k_asm, by walk_at "MY frames", rfl, rfl, by walk_at "MY handled"⟩) (by first | (apply Rot.pushT; apply Rot.keep; apply Rot.keep; exact Rot.base) | (apply Rot.keep; apply Rot.keep; exact Rot.base)) (by assumption) (by walk_at "MY sub") (by walk_at "MY apart") (by walk_at "MY front") (rlist_ok (by walk_at "MY tm") (by assumption) (by omega) (by first | omega | exact Nat.le_trans (by assumption) (Sym.le_G (by assumption)))) (by ktr_room) (by walk_at "MY units") ?_ ?_; k_whole; (rotate_left; (intro e1 σ1 g1 h1 tk1 FG1 U1 R1 hl1; (try dsimp only)); rotate_right); (intro r1 σ1 S1 T21 h1 tk1 F1 N1 ho1 hl1 hS1 hap1 hP1; (have hg1 := hl1.2.2); (try simp only [List.nil_append] at ho1 hP1); (try dsimp only [led, List.nil_append, List.cons_append] at N1); obtain ⟨b1, vs1, e1, l1, hr1, hm1, hi1, hn1⟩ := hP1; subst hr1; (have hv1 := says_listLen hn1 hi1); (try k_sweep); (try dsimp only))))))
  k_with "@exec While" => ((k_here; (with_reducible rename Mine.StOk _ _ _ _ _ => hS9); k_dflt (refine work_loop (T₀ := _) (by k_asm) (by k_asm) (by rfl) (by assumption) (by assumption) (by assumption) (by assumption) (by exact ne_of_raw (by assumption) (by walk_at "MY sub")) (by exact lt_of_raw (by assumption) (by walk_at "MY sub")) (by k_ne) (by first | exact raw_lt (by assumption) (by walk_at "MY mem") | omega) ?_ ?_)))
  k_with "@call builtin:list.pop" => ((k_here; (with_reducible rename News _ _ _ _ => nw9); k_dflt (refine kl_pop (by k_asm) (by k_asm) (by exact kpa_last _ _) (by k_upd) (by (rw [sizeLine_eq]; simp only [List.length_append, List.length_cons, List.length_nil] at *; omega)) ?_; k_whole); intro h' F' N'; (try k_sweep)))
  k_with "@call builtin:list.append" => ((k_here; (with_reducible show wpAny _ _ (call (Value.builtin _) [Value.ref _, _]) _ _ _); k_dflt (refine append_K (by k_asm) (by k_asm) (by k_upd) ?_ (by (rw [sizeLine_eq]; simp only [Array.size_push, List.size_toArray, List.length_append, List.length_cons, List.length_nil] at *; omega)); k_whole); intro h' F' N'; (try k_sweep)))
  k_with "@MY front" => ((refine List.forall_mem_cons.mpr ⟨list_nt, ?_⟩; walk_at "MY front"))
  k_with "@MY all9" => (first | assumption | (refine off_cons (by first | exact raw_lt (by assumption) (by walk_at "MY mem") | ((try dsimp only); omega)) ?_; walk_at "MY all9") | (refine off_join (off_app (by assumption) (by walk_at "MY mem")) ?_; walk_at "MY all9"))
  k_with "@leaving ref" => ((k_here; k_dflt (refine leave_F (by assumption) (by assumption) (RaisedD.toF (by assumption)) (by assumption) (by exact rfl) ?_; k_whole); intro h' R' U'; (try dsimp only at R' U' ⊢)))
  k_with "@compareOp Eq ref ref" => ((k_here; k_dflt (first | (refine eq_nil_f (by first | assumption | rfl) (by k_asm) (by assumption) (by walk_at "MY sub") (by walk_at "MY mem") (by walk_at "MY units") ?_; k_whole) | (refine eq_nil_t (by first | assumption | rfl) (by k_asm) (by assumption) (by walk_at "MY sub") (by walk_at "MY mem") (by walk_at "MY units") ?_; k_whole))))
  k_with "@MY map" => ((refine map_pf (fun z h1 h2 => ?_) ?_; (first | rfl | simp only [if_neg h1, if_neg h2]); rfl))
  k_with "@call builtin:list.pop" => ((k_here; k_dflt (refine pop_K (by k_asm) (by k_asm) (by k_upd) (by exact kpa_last _ _) (by (rw [sizeLine_eq]; simp only [List.length_append, List.length_cons, List.length_nil] at *; omega)) ?_; k_whole); intro h' F' N'; (try k_sweep)))
  k_with "@isTrue Compare" => ((k_here; focus (k_dflt (first | ((with_reducible show wpAny _ _ (isTrue (PySem.Expr.Compare (PySem.Expr.Subscript (PySem.Expr.Name _ _) (PySem.Expr.Constant (PySem.Const.int 0) _ _) _) [CmpOp.Eq] [PySem.Expr.Constant (PySem.Const.str _) _ _] _) _ _) _ _ _); refine test_tag (by k_asm) (by rfl) (by k_asm) (by assumption) (by walk_at "MY sub") ?_ ?_; k_whole) | ((with_reducible show wpAny _ _ (isTrue (PySem.Expr.Compare (PySem.Expr.Subscript (PySem.Expr.Name _ _) (PySem.Expr.Constant (PySem.Const.int 0) _ _) _) [CmpOp.NotEq] [PySem.Expr.Constant (PySem.Const.str _) _ _] _) _ _) _ _ _); refine test_tagN (by k_asm) (by rfl) (by k_asm) (by assumption) (by walk_at "MY sub") ?_ ?_; k_whole) | ((with_reducible show wpAny _ _ (isTrue (PySem.Expr.Compare (PySem.Expr.Subscript (PySem.Expr.Name _ _) (PySem.Expr.Constant (PySem.Const.int 1) _ _) _) [CmpOp.Eq] [PySem.Expr.Name _ _] _) _ _) _ _ _); refine test_num (by k_asm) (by rfl) (by k_asm) (by assumption) (by walk_at "MY sub") (by k_asm) (by k_asm) (by k_is) ?_ ?_; k_whole) | ((with_reducible show wpAny _ _ (isTrue (PySem.Expr.Compare (PySem.Expr.Subscript (PySem.Expr.Name _ _) (PySem.Expr.Constant (PySem.Const.int 1) _ _) _) [CmpOp.NotEq] [PySem.Expr.Name _ _] _) _ _) _ _ _); refine test_numN (by k_asm) (by rfl) (by k_asm) (by assumption) (by walk_at "MY sub") (by k_asm) (by k_asm) (by k_is) ?_ ?_; k_whole) | ((with_reducible show wpAny _ _ (isTrue (PySem.Expr.Compare (PySem.Expr.Subscript (PySem.Expr.Name _ _) (PySem.Expr.Constant (PySem.Const.int 1) _ _) _) [CmpOp.Lt] [PySem.Expr.Constant (PySem.Const.int _) _ _] _) _ _) _ _ _); refine test_neg (by k_asm) (by rfl) (by k_asm) (by assumption) (by walk_at "MY sub") ?_ ?_; k_whole)); (all_goals (intro htag ttg)); (all_goals (try (first | exact absurd (by assumption) htag | exact absurd htag (by assumption) | exact absurd (htag.symm.trans (by assumption)) (by decide)))); (all_goals (try (have hop9 := TmIn.open (by assumption) (by assumption) (by assumption) htag (by decide); obtain ⟨bq, xq, yq, tq1, tq2, txq, tyq, eq9, mq1, mq2, hxq, hyq, okxq, okyq, hszq⟩ := hop9; (try subst eq9)))); (all_goals ((try (have hbq := ok_a (by assumption) htag)); (try (have hbq := ok_i (by assumption) htag)))); (all_goals (try dsimp only)))))
  k_with "@eval Subscript" => ((k_here; k_dflt (first | ((with_reducible show wpAny _ _ (eval (PySem.Expr.Subscript (PySem.Expr.Name _ _) (PySem.Expr.Constant (PySem.Const.int 0) _ _) _) _) _ _ _); refine sub_tag (by k_asm) (by rfl) (by k_asm) (by assumption) (by walk_at "MY sub") ?_; k_whole; intro tkg ttg) | ((with_reducible show wpAny _ _ (eval (PySem.Expr.Subscript (PySem.Expr.Name _ _) (PySem.Expr.Constant (PySem.Const.int 1) _ _) _) _) _ _ _); refine sub_num (by k_asm) (by rfl) (by k_asm) (by assumption) (by walk_at "MY sub") ?_; k_whole; intro tkg ttg) | ((with_reducible show wpAny _ _ (eval (PySem.Expr.Subscript (PySem.Expr.Name _ _) (PySem.Expr.Constant (PySem.Const.int 2) _ _) _) _) _ _ _); refine sub_two (by k_asm) (by rfl) (by k_asm) (by walk_at "MY mem") ?_; k_whole; intro ttg) | ((with_reducible show wpAny _ _ (eval (PySem.Expr.Subscript (PySem.Expr.Subscript (PySem.Expr.Name _ _) (PySem.Expr.Constant (PySem.Const.int 2) _ _) _) (PySem.Expr.Constant (PySem.Const.int 0) _ _) _) _) _ _ _); refine sub_kid (by k_asm) (by rfl) (by k_asm) (by walk_at "MY mem") (by walk_at "MY mem") ?_; k_whole; intro ttg) | ((with_reducible show wpAny _ _ (eval (PySem.Expr.Subscript (PySem.Expr.Subscript (PySem.Expr.Name _ _) (PySem.Expr.Constant (PySem.Const.int 2) _ _) _) (PySem.Expr.Constant (PySem.Const.int 1) _ _) _) _) _ _ _); refine sub_kid1 (by k_asm) (by rfl) (by k_asm) (by walk_at "MY mem") (by walk_at "MY mem") ?_; k_whole; intro ttg)); (try dsimp only)))
  k_with "@compareOp In str ref" => ((k_here; k_dflt (refine in_two (by k_asm) (by walk_at "MY mem") ?_ ?_; k_whole); (rotate_left; (intro htx hty; (try dsimp only)); rotate_right); intro htag; (try dsimp only)))
  k_with "@isTrue BoolOp" => ((k_here; focus (first | ((k_dflt (first | ((with_reducible show wpAny _ _ (isTrue (PySem.Expr.BoolOp BoolOp.And [PySem.Expr.Compare (PySem.Expr.Subscript _ _ _) [CmpOp.Eq] _ _, PySem.Expr.Compare (PySem.Expr.Subscript _ _ _) [CmpOp.Eq] _ _] _) _ _) _ _ _); refine test_both (by k_asm) (by rfl) (by k_asm) (by assumption) (by walk_at "MY sub") (by k_asm) (by k_asm) (by k_is) ?_ ?_; k_whole) | ((with_reducible show wpAny _ _ (isTrue (PySem.Expr.BoolOp BoolOp.Or [PySem.Expr.Compare (PySem.Expr.Subscript _ _ _) [CmpOp.NotEq] _ _, PySem.Expr.Compare (PySem.Expr.Subscript _ _ _) [CmpOp.NotEq] _ _] _) _ _) _ _ _); refine test_either (by k_asm) (by rfl) (by k_asm) (by assumption) (by walk_at "MY sub") (by k_asm) (by k_asm) (by k_is) ?_ ?_; k_whole))); (all_goals (intro htag ttg)); (all_goals (try (first | exact absurd htag.1 (by assumption) | exact absurd (htag.1.symm.trans (by assumption)) (by decide)))); (all_goals (try (have hop9 := TmIn.open (by assumption) (by assumption) htag.1 htag.2 (by decide); obtain ⟨bq, xq, yq, tq1, tq2, txq, tyq, eq9, mq1, mq2, hxq, hyq, okxq, okyq, hszq⟩ := hop9; (try subst eq9); (try (have hrrq := rows_row (by assumption)))))); (all_goals (try dsimp only))) | ((k_dflt (first | ((with_reducible show wpAny _ _ (isTrue (PySem.Expr.BoolOp BoolOp.And [PySem.Expr.Compare (PySem.Expr.Name _ _) [CmpOp.NotEq] _ _, PySem.Expr.BoolOp _ _ _] _) _ _) _ _ _); refine test_leaf (by k_asm) (by rfl) (by k_asm) (by assumption) (by walk_at "MY sub") (by k_asm) (by k_asm) (by k_is) (by walk_at "MY units") (by k_is) ?_ ?_; k_whole) | ((with_reducible show wpAny _ _ (isTrue (PySem.Expr.BoolOp BoolOp.Or [PySem.Expr.Compare (PySem.Expr.Name _ _) [CmpOp.Eq] _ _, PySem.Expr.BoolOp _ _ _] _) _ _) _ _ _); refine test_list (by k_asm) (by rfl) (by k_asm) (by assumption) (by walk_at "MY sub") (by k_asm) (by k_asm) (by k_is) (by walk_at "MY units") (by k_is) ?_ ?_; k_whole))); (all_goals (intro htag hq tq FQ NQ)); (all_goals (try (have hspq := size_look1 htag))); (all_goals (try (have hspq := size_look2 htag))); (all_goals (try dsimp only))))))
  k_with "@isTrue Compare" => ((k_here; focus ((with_reducible show wpAny _ _ (isTrue (PySem.Expr.Compare (PySem.Expr.Name _ _) [CmpOp.NotEq] [PySem.Expr.Tuple _ _ _] _) _ _) _ _ _); k_dflt (refine test_nil (by k_asm) (by rfl) (by k_asm) (by assumption) (by walk_at "MY sub") (by k_asm) (by k_asm) (by k_is) (by walk_at "MY units") ?_ ?_; k_whole); (all_goals (intro htag hq tq FQ NQ)); (all_goals (try (exact absurd ((nil_tag htag).symm.trans (by assumption)) (by decide)))); (all_goals (try dsimp only)))))
  k_with "@spliced" => ((k_here; k_dflt (first | ((with_reducible show wpAny _ _ (spliced (backTo _ (starEach (PySem.Expr.Name _ _ :: _ :: _) _))) _ _ _); first | (refine arg_name (by k_asm) (by rfl) ?_; k_whole) | (refine arg_glob (by k_asm) (by k_asm) (by k_asm) (by k_is) ?_; k_whole)) | ((with_reducible show wpAny _ _ (spliced (backTo _ (starEach (PySem.Expr.Name _ _ :: []) _))) _ _ _); first | (refine arz_name (by k_asm) (by rfl) ?_; k_whole) | (refine arz_glob (by k_asm) (by k_asm) (by k_asm) (by k_is) ?_; k_whole)) | ((with_reducible show wpAny _ _ (spliced (backTo _ (starEach (PySem.Expr.Constant (PySem.Const.str _) _ _ :: _ :: _) _))) _ _ _); refine arg_str ?_; k_whole; intro tka tta) | ((with_reducible show wpAny _ _ (spliced (backTo _ (starEach (PySem.Expr.Constant (PySem.Const.str _) _ _ :: []) _))) _ _ _); refine arz_str ?_; k_whole; intro tka tta) | ((with_reducible show wpAny _ _ (spliced (backTo _ (starEach (PySem.Expr.Constant (PySem.Const.int _) _ _ :: _ :: _) _))) _ _ _); refine arg_int ?_; k_whole; intro tka tta) | ((with_reducible show wpAny _ _ (spliced (backTo _ (starEach (PySem.Expr.Constant (PySem.Const.int _) _ _ :: []) _))) _ _ _); refine arz_int ?_; k_whole; intro tka tta)); (try dsimp only)))
  k_with "@eval Call" => ((k_here; (with_reducible show wpAny _ _ (eval (PySem.Expr.Call (PySem.Expr.Name _ _) (_ :: _) [] _) _) _ _ _); k_dflt (refine call_top (by k_asm) (by k_asm) (by k_asm) (by k_is) (by k_is) ?_; k_whole)))
  trivial

theorem rinds_ok {w : World} {mean : ExcName → Option Value} {mg mb : Str → Option Value} {c : Cx} {σ : Sym} {T : List (Addr × Obj)} {a : Addr} {t : Tm} (ht : TmIn T a t) (hokt : t.Ok) (hsz : t.size ≤ 200) (hb : 16 ≤ σ.G.length) :
    CtrX w mean mg mb c 219 110 1100 [.ref c.sy, .ref a] σ T (fun τ => read τ t) (fun σ' T2 _ r => ∃ b vs n l, r = .ref b ∧ (b, listOf vs.toArray n) ∈ T2 ∧ IntsAre vs l ∧ Says σ' (fun τ => read τ t) (.ok l)) := by
  intro S A env outer base h₀ L m s Q E hS hT at' hA hU hret hexc
  obtain ⟨⟨A₀, B⟩, F, X, N, T', hfr, hfl, hki, hha⟩ := at'
  obtain ⟨⟨o1, o2, o3, o4, o5, o6, o7⟩, hI, hlen⟩ := hS.cx
  refine wpAny_call ?_
  k_dflt (refine' code_def (binds := [(Str.ofString "symbols", .ref c.sy), (Str.ofString "term", .ref a)]) ?z6k1 ?z6k2 ?z6k3 ?z6k4 ?z6k5 ?z6kA ?z6kF ?z6kK ?z6k6 ?z6k7 ?z6k8 ?z6k9 ?z6kB ?_ ?z6c2 ?z6c3 ?z6c4 ?z6c5; (case z6kA => assumption); (case z6kF => assumption); (case z6kK => assumption); (case z6k1 => k_asm); (case z6k2 => k_asm); (case z6k3 => k_asm); (case z6k4 => k_asm); (case z6k5 => k_asm); (case z6k6 => k_is); (case z6k7 => k_is); (case z6k8 => ktr_room); (case z6k9 => exact BindsTo.of_eq rfl); (case z6c5 => decide); (case z6kB => exact locs rfl); (case z6c2 => exact rfl); (case z6c3 => exact rfl); (case z6c4 => exact rfl); k_whole; intro g' L' h' FG' F' N' B' X' T''; (try dsimp only); (try k_fold))
  k_steps
  · (refine WhileStep.intro (by assumption) (by assumption) ?_ (JK.intro (T₀ := T) (σ₀ := σ) (Rest.comma (by assumption)) (by assumption) (by walk_at "MY suf") (by assumption) (by walk_at "MY all9") (by walk_at "MY all9") (by assumption) (by first | with_reducible assumption | exact raw_lt (by assumption) (by walk_at "MY mem") | omega) (by walk_at "MY le") (by walk_at "MY over") (by assumption) (snoc_two (by assumption) (by assumption) (by assumption)) (ok_two (by assumption) (by assumption) (by assumption)) (by assumption) (by first | exact List.push_toArray _ _ | rfl | simp) (by simp only [tot_two, Tm.size] at *; omega) (by walk_at "MY map")); simp only [tot_two, Tm.size] at *; omega)
  · (refine WhileStep.intro (by assumption) (News.perm3 (by assumption)) ?_ (JK.intro (T₀ := T) (σ₀ := σ) (Rest.took (by assumption) (by assumption) (says_listR (by assumption) (by assumption) (by assumption))) (by assumption) (by walk_at "MY suf") (by assumption) (by walk_at "MY all9") (by exact ne_of_raw (by assumption) (by walk_at "MY sub")) (by k_ne) (by first | with_reducible assumption | exact raw_lt (by assumption) (by walk_at "MY mem") | omega) (by walk_at "MY le") (by walk_at "MY over") (by exact lt_of_raw (by assumption) (by walk_at "MY sub")) (ItemsR.mono (by assumption) (SubT.of (by walk_at "MY sub"))) (by assumption) (ints_app (by assumption) (by assumption)) (by first | exact List.push_toArray _ _ | rfl | simp) (by (try simp only [List.length_append, List.length_cons, List.length_nil, Tm.size] at *); omega) (by walk_at "MY map")); (try simp only [Tm.size] at *); omega)
  · refine hexc _ _ _ _ _ (by assumption) (by assumption) (RaisedD.imp (by assumption) (fun u hu => Rest.bad (by assumption) (by assumption) (says_listR (by assumption) (by assumption) hu)) (by walk_at "MY sub")) (by walk_at "MY le")
  · (refine WhileStep.intro (by assumption) (by assumption) ?_ (JK.intro (T₀ := T) (σ₀ := σ) (Rest.took (by assumption) (by assumption) (says_leafR (t := _) (leaf_of (by assumption) (by assumption)) (says_oneS (by assumption)))) (by assumption) (by walk_at "MY suf") (by assumption) (by walk_at "MY all9") (by walk_at "MY all9") (by assumption) (by first | with_reducible assumption | exact raw_lt (by assumption) (by walk_at "MY mem") | omega) (by walk_at "MY le") (by walk_at "MY over") (by assumption) (ItemsR.mono (by assumption) (SubT.of (by walk_at "MY sub"))) (by assumption) (ints_app (by assumption) (.cons _ _ .nil)) (by first | exact List.push_toArray _ _ | rfl | simp) (by (try simp only [List.length_append, List.length_cons, List.length_nil, Tm.size] at *); omega) (by walk_at "MY map")); (try simp only [Tm.size] at *); omega)
  · refine hexc _ _ _ _ _ (by assumption) (by assumption) (RaisedD.imp (by assumption) (fun u hu => Rest.bad (by assumption) (by assumption) (says_leafR (leaf_of (by assumption) (by assumption)) hu)) (by walk_at "MY sub")) (by walk_at "MY le")
  · refine hret _ _ _ _ _ _ _ (by assumption) (News.led (by assumption) (by (apply Rot.drop; apply Rot.push; exact Rot.base))) (StOk.mono (by assumption) (by walk_at "MY sub")) (by walk_at "MY suf") (by walk_at "MY le") (over_cons ⟨by assumption, by assumption⟩ (by assumption)) ⟨_, _, _, _, rfl, (by walk_at "MY mem"), by assumption, by assumption⟩
end Mine
end

section
set_option maxRecDepth 100000
set_option maxHeartbeats 8000000
set_option Elab.async false
namespace Mine
open PySem PySem.W PyProof.Rows PySem.Calls PyProof.V PySem.Spec

theorem fill_hereZ2b (w : World) (h : Heap) (X : (hd.heap_39 w.params).In h) (hp : PySem.Challenge.rw_no0155_01.prog = PySem.Challenge.rw_no0155_01.prog) : (hd.heap_39 w.params).In h ∧ PySem.Challenge.rw_no0155_01.prog = PySem.Challenge.rw_no0155_01.prog := by
  k_fill
  exact ⟨X, hp⟩

theorem words_NZ2b : True := by
  k_with_none
  k_with "@MY mem" => (first | with_reducible assumption | exact List.mem_cons_self | (with_reducible refine List.mem_cons_of_mem _ ?_; walk_at "MY mem") | (with_reducible refine List.mem_append_left _ ?_; walk_at "MY mem") | (with_reducible refine List.mem_append_right _ ?_; walk_at "MY mem") | exact led_sy | exact led_dx | exact led_ff | exact led_hd | exact led_cl | (with_reducible refine led_T ?_; walk_at "MY mem"))
  k_with "@call builtin:len" => ((k_here; (with_reducible show wpAny _ _ (call (Value.builtin "len") [Value.ref _]) _ _ _); k_dflt (refine len_list (by exact News.isList (by k_asm) (by walk_at "MY mem")) (by omega) ?_; k_whole)))
  k_with "@subscriptTail Subscript Name Constant Subscript ref int" => ((k_here; (with_reducible show wpAny _ _ (subscriptTail _ _ (Value.ref _) (Value.int _ _)) _ _ _); k_dflt (refine item_int (by exact News.isList (by k_asm) (by walk_at "MY mem")) (by omega) (by omega) (by omega) (by assumption) ?_; k_whole); intro j tj))
  k_with "@subscriptTail Name Constant ref int" => ((k_here; k_dflt (first | (refine item_list (by exact News.isList (by k_asm) (by walk_at "MY mem")) (by decide) (by decide) (by rfl) ?_; k_whole) | (refine item_tupleT (by exact News.isTup (by k_asm) (by walk_at "MY mem")) (by decide) (by decide) (by rfl) (by rfl) ?_; k_whole))))
  k_with "@subscriptTail Subscript Name Constant Constant ref int" => ((k_here; k_dflt (refine item_tupleT (by exact News.isTup (by k_asm) (by walk_at "MY mem")) (by decide) (by decide) (by rfl) (by rfl) ?_; k_whole)))
  k_with "@MY sub" => ((intro p9 hp9; walk_at "MY mem"))
  k_with "@MY units" => (((try simp only [units_in1, units_deeper, Around.mark_units, units_caller] at *); omega))
  k_with "@MY over" => (first | exact over_nil | assumption | (refine over_cons (over_of (by assumption) (by walk_at "MY mem") (by walk_at "MY sub")) ?_; walk_at "MY over") | (refine over_app ?_ ?_ <;> walk_at "MY over") | exact over_mono (by assumption) (by walk_at "MY sub"))
  k_with "@MY rot" => (first | exact Rot.base | (apply Rot.pushT; walk_at "MY rot") | (apply Rot.pushL; walk_at "MY rot") | (apply Rot.keep; walk_at "MY rot") | (apply Rot.drop; walk_at "MY rot"))
  k_with "@MY front" => (first | exact List.forall_mem_nil _ | (refine List.forall_mem_cons.mpr ⟨by first | assumption | decide, ?_⟩; walk_at "MY front"))
  k_with "@MY subT" => (first | exact SubT.front (by walk_at "MY front") | exact SubT.refl)
  k_with "@MY frames" => (first | exact Around.frames_deeper (by assumption) | (simp only [Around.in1_frames]; exact Around.frames_deeper (by assumption)))
  k_with "@MY handled" => (first | assumption | (simp only [Around.in1_handled]; assumption))
  k_with "@MY apart" => (((try simp only [List.nil_append, List.cons_append]); first | assumption | (refine Apart.cons (by first | with_reducible assumption | exact raw_lt (by assumption) (by walk_at "MY mem") | ((try dsimp only); omega)) ?_; walk_at "MY apart")))
  k_with "@MY le" => (first | exact Sym.le_refl _ | assumption | (refine Sym.le_trans ?_ (by assumption); walk_at "MY le"))
  k_with "@MY suf" => (first | exact suf_nil | (apply suf_cons; walk_at "MY suf") | (apply suf_app; walk_at "MY suf"))
  k_with "@MY off" => (first | exact led_offT (by assumption) | (refine off_cons (by first | exact raw_lt (by assumption) (by walk_at "MY mem") | ((try dsimp only); omega)) ?_; walk_at "MY off") | (refine off_join (off_app (by assumption) (by walk_at "MY mem")) ?_; walk_at "MY off"))
  k_with "@call builtin:list.append" => ((k_here; (with_reducible show wpAny _ _ (call (Value.builtin _) [Value.ref _, _]) _ _ _); k_dflt (refine append_K (by k_asm) (by k_asm) (by k_upd) ?_ (by (rw [sizeLine_eq]; simp only [List.size_toArray, List.length_cons, List.length_nil]; omega)); k_whole); intro h' F' N'; (try k_sweep)))
  k_with "@call builtin:len" => ((k_here; (with_reducible show wpAny _ _ (call (Value.builtin "len") [Value.ref _]) _ _ _); k_dflt (refine kun_lenL (by exact News.isList (by k_asm) (by walk_at "MY mem")) (by first | exact congrArg Nat.cast (by assumption) | rfl) (by omega) ?_; k_whole)))
  k_with "@call ref" => ((k_here; (with_reducible show wpAny _ _ (call (Value.ref 88) _) _ _ _); k_dflt ((refine Ctr.use (by exact ⟨⟨_, by k_asm⟩, by k_asm, by k_asm, by k_asm, by k_asm, by walk_at "MY frames", rfl, rfl, by walk_at "MY handled"⟩) (by walk_at "MY rot") (by assumption) (by walk_at "MY sub") (by walk_at "MY apart") (by walk_at "MY front") (atom_ok (by first | assumption | decide)) (by ktr_room) (by walk_at "MY units") ?_; k_whole; intro r1 σ1 S1 T21 h1 tk1 F1 N1 ho1 hl1 hS1 hap1 hP1; (have hg1 := hl1.2.2); (try simp only [List.nil_append] at ho1 hP1); (try dsimp only [List.nil_append, List.cons_append] at N1); obtain ⟨hT1, n1, t1, hr1, hn1, hn2, hy1, he1⟩ := hP1; subst hr1; subst hT1; (try simp only [List.nil_append] at hS1 hap1 N1); (try k_sweep); (try dsimp only)))))
  k_with "@call ref" => ((k_here; (with_reducible show wpAny _ _ (call (Value.ref 102) _) _ _ _); k_dflt ((refine Ctr.use (by exact ⟨⟨_, by k_asm⟩, by k_asm, by k_asm, by k_asm, by k_asm, by walk_at "MY frames", rfl, rfl, by walk_at "MY handled"⟩) (by walk_at "MY rot") (by assumption) (by walk_at "MY sub") (by walk_at "MY apart") (by walk_at "MY front") (functor_ok (by omega) (by omega) (by omega) (by omega) (by first | assumption | omega | ((with_reducible rename _ = Sym.inA _ _ => he9); rw [he9, inA_G]; assumption))) (by ktr_room) (by walk_at "MY units") ?_; k_whole; intro r1 σ1 S1 T21 h1 tk1 F1 N1 ho1 hl1 hS1 hap1 hP1; (have hg1 := hl1.2.2); (try simp only [List.nil_append] at ho1 hP1); (try dsimp only [List.nil_append, List.cons_append] at N1); obtain ⟨n1, t1, hr1, hk1, hy1, he1⟩ := hP1; subst hr1; (try k_sweep); (try dsimp only)))))
  k_with "@MY sub" => (first | (intro p9 hp9; walk_at "MY mem") | (refine sub_cons (by walk_at "MY mem") ?_; walk_at "MY sub") | (refine sub_app ?_ ?_ <;> walk_at "MY sub"))
  trivial

theorem fatoms_ok {w : World} {mean : ExcName → Option Value} {mg mb : Str → Option Value} {A : Around} {env : Env} {outer : List Env} {base h₀ : Heap} {L : Addr} {m : Str → Option Value} {news : List (Addr × Obj)} {s : Shared} {Q E : Value → Shared → Prop}
    (at' : At w mean mg mb A env outer base h₀ L m news s) (hA : A.depth + 5 < recursionLimit) (hret : ∀ D vs h' tk', Fr h₀ L h' m → News h₀ L h' ((D, ({ cls := .type "tuple", data := .seq vs.toArray } : Obj)) :: news) → StrR vs ATO → (∀ p ∈ news, p.1 < D) → Q (.ref D) { s with heap := h', toks := tk' }) :
    wpAny (model PySem.Challenge.rw_no0155_01.row.prog w) A (call (.ref 60) []) Q E s := by
  obtain ⟨⟨A₀, B⟩, F, X, N, T', hfr, hfl, hki, hha⟩ := at'
  refine wpAny_call ?_
  k_dflt (refine' code_def (binds := []) ?z6k1 ?z6k2 ?z6k3 ?z6k4 ?z6k5 ?z6kA ?z6kF ?z6kK ?z6k6 ?z6k7 ?z6k8 ?z6k9 ?z6kB ?_ ?z6c2 ?z6c3 ?z6c4 ?z6c5; (case z6kA => assumption); (case z6kF => assumption); (case z6kK => assumption); (case z6k1 => k_asm); (case z6k2 => k_asm); (case z6k3 => k_asm); (case z6k4 => k_asm); (case z6k5 => k_asm); (case z6k6 => k_is); (case z6k7 => k_is); (case z6k8 => ktr_room); (case z6k9 => exact BindsTo.of_eq rfl); (case z6c5 => decide); (case z6kB => exact locs rfl); (case z6c2 => exact rfl); (case z6c3 => exact rfl); (case z6c4 => exact rfl); k_whole; intro g' L' h' FG' F' N' B' X' T''; (try dsimp only); (try k_fold))
  walk1
  walk1
  walk1
  refine' tuple_texts (xs := ATO) ?H ?hl ?F ?N ?h
  case F => assumption
  case N => assumption
  case hl => decide
  case H => (unfold ATO; repeat (first | exact TextsE.nil | apply TextsE.cons))
  intro D9 vs9 h9 t9 F9 N9 R9 l9
  (try dsimp only)
  k_steps
  exact hret D9 vs9 _ _ (by assumption) (by assumption) R9 l9
theorem ffun_ok {w : World} {mean : ExcName → Option Value} {mg mb : Str → Option Value} {c : Cx} {σ : Sym} {T : List (Addr × Obj)} :
    Ctr w mean mg mb c 67 5 60 [] σ T (fun σ' T2 T' r => σ' = σ ∧ ∃ p its ep, r = .ref p ∧ (p, ({ cls := .type "tuple", data := .seq its ep } : Obj)) ∈ T2 ∧ RowR T' its.toList FUN) := by
  intro S A env outer base h₀ L m s Q E hS hT at' hA hU hret
  obtain ⟨⟨A₀, B⟩, F, X, N, T', hfr, hfl, hki, hha⟩ := at'
  refine wpAny_call ?_
  k_dflt (refine' code_def (binds := []) ?z7k1 ?z7k2 ?z7k3 ?z7k4 ?z7k5 ?z7kA ?z7kF ?z7kK ?z7k6 ?z7k7 ?z7k8 ?z7k9 ?z7kB ?_ ?z7c2 ?z7c3 ?z7c4 ?z7c5; (case z7kA => assumption); (case z7kF => assumption); (case z7kK => assumption); (case z7k1 => k_asm); (case z7k2 => k_asm); (case z7k3 => k_asm); (case z7k4 => k_asm); (case z7k5 => k_asm); (case z7k6 => k_is); (case z7k7 => k_is); (case z7k8 => ktr_room); (case z7k9 => exact BindsTo.of_eq rfl); (case z7c5 => decide); (case z7kB => exact locs rfl); (case z7c2 => exact rfl); (case z7c3 => exact rfl); (case z7c4 => exact rfl); k_whole; intro g' L' h' FG' F' N' B' X' T''; (try dsimp only); (try k_fold))
  walk1
  walk1
  walk1
  refine' tuple_rows (xs := FUN) ?H ?hl ?F ?N ?h
  case F => assumption
  case N => assumption
  case hl => decide
  case H => (unfold FUN; repeat (first | exact RowsE.nil | apply RowsE.cons))
  intro D9 vs9 n9 h9 t9 F9 N9 R9 l9 L9
  (try dsimp only)
  k_steps
  have lf : @LT.lt Nat _ c.ff D9 := L9 (c.ff, S.gv) (List.mem_append_right _ led_ff)
  refine hret _ σ S ((D9, { cls := .type "tuple", data := .seq vs9.toArray }) :: n9) _ _ _ (by assumption) (News.sub (by assumption) (led_lift (X := (D9, { cls := .type "tuple", data := .seq vs9.toArray }) :: n9))) (StOk.mono (by assumption) fun p hp => List.mem_append_right _ hp) rfl (Sym.le_refl _) (fun p hp => ?_) ⟨rfl, D9, vs9.toArray, _, rfl, List.mem_cons_self, ?_⟩
  · rcases List.mem_cons.mp hp with rfl | hp
    · exact ⟨lf, fun q hq => L9 q (List.mem_append_right _ (led_T hq))⟩
    · exact ⟨l9 p hp (c.ff, S.gv) led_ff, fun q hq => l9 p hp q (led_T hq)⟩
  · exact R9.mono fun p hp => List.mem_cons_of_mem _ (List.mem_append_left _ hp)
end Mine
end

section
set_option maxRecDepth 100000
set_option maxHeartbeats 8000000
set_option Elab.async false
namespace Mine
open PySem PySem.W PyProof.Rows PySem.Calls PyProof.V PySem.Spec

theorem fill_hereZ3 (w : World) (h : Heap) (X : (hd.heap_39 w.params).In h) (hp : PySem.Challenge.rw_no0155_01.prog = PySem.Challenge.rw_no0155_01.prog) : (hd.heap_39 w.params).In h ∧ PySem.Challenge.rw_no0155_01.prog = PySem.Challenge.rw_no0155_01.prog := by
  k_fill
  exact ⟨X, hp⟩

theorem post_ok (args : List WData) : PySem.Challenge.rw_no0155_01.row.toRowW.claim.post args (.bool true) args = true := by
  wrow_post
theorem At.top {w : World} {mean : ExcName → Option Value} {mg mb : Str → Option Value} {A : Around} {env : Env} {outer : List Env} {base h₀ : Heap} {L : Addr} {m : Str → Option Value} {news : List (Addr × Obj)} {s : Shared} {A₀ : Around}
    (fr : A.frames = some (env :: outer)) (fl : env.frame = some L) (ki : env.scope.kind = .function) (ha : A.handled = none) (F : Fr h₀ L s.heap m) (N : News h₀ L s.heap news) (B : Below A₀ base outer h₀) (X : (hd.heap_39 w.params).In h₀) (T : Top hd.view_39 LOO mean mg mb h₀) :
    At w mean mg mb A env outer base h₀ L m news s := ⟨⟨A₀, B⟩, F, X, N, T, fr, fl, ki, ha⟩

theorem told_lists {w : World} {A : Around} {s : Shared} {h₀ : Heap} {L a b x y : Addr} {news : List (Addr × Obj)} {E Q : Value → Shared → Prop} {vs ws : List Value} {l r : List Int} {n1 n2 : Nat} {σ σ' : Sym} {f : Sym → Except Tm (List Int)} (N : News h₀ L s.heap news) (ha : (a, tupO #[.bool true, .ref x]) ∈ news) (hb : (b, tupO #[.bool true, .ref y]) ∈ news)
    (hx : (x, listOf vs.toArray n1) ∈ news) (hy : (y, listOf ws.toArray n2) ∈ news) (h1 : IntsAre vs l) (h2 : IntsAre ws r) (S1 : Says σ' f (.ok l)) (S2 : Says σ f (.ok r)) (le : σ.le σ') (hu : A.units + 2 < cLine) (h : Q (.bool true) s) :
    wpAny (model PySem.Challenge.rw_no0155_01.row.prog w) A (compareOp .Eq (.ref a) (.ref b)) Q E s := by
  have e1 := S1 σ' (Sym.le_refl _)
  have e2 := S2 σ' le
  rw [e1] at e2
  cases e2
  exact told_eq N ha hb (by omega) (lists_eq N hx hy h1 h2 (by rw [Around.in1_units]; omega)) h
theorem told_clash {w : World} {A : Around} {s : Shared} {a b : Value} {E Q : Value → Shared → Prop} {l : List Int} {u : Tm} {σ σ' : Sym} {f : Sym → Except Tm (List Int)} (S1 : Says σ' f (.ok l)) (S2 : Says σ f (.error u)) (le : σ.le σ') :
    wpAny (model PySem.Challenge.rw_no0155_01.row.prog w) A (compareOp .Eq a b) Q E s := by
  have e1 := S1 σ' (Sym.le_refl _)
  have e2 := S2 σ' le
  rw [e1] at e2
  cases e2
theorem told_clash2 {w : World} {A : Around} {s : Shared} {a b : Value} {E Q : Value → Shared → Prop} {l : List Int} {u : Tm} {σ σ' : Sym} {f : Sym → Except Tm (List Int)} (S1 : Says σ' f (.error u)) (S2 : Says σ f (.ok l)) (le : σ.le σ') :
    wpAny (model PySem.Challenge.rw_no0155_01.row.prog w) A (compareOp .Eq a b) Q E s := by
  have e1 := S1 σ' (Sym.le_refl _)
  have e2 := S2 σ' le
  rw [e1] at e2
  cases e2
theorem told_terms {w : World} {A : Around} {s : Shared} {h₀ : Heap} {L a b x y : Addr} {news news9 T T' : List (Addr × Obj)} {E Q : Value → Shared → Prop} {u u' t : Tm} {σ σ' : Sym} (N : News h₀ L s.heap news) (ha : (a, tupO #[.bool false, .ref x]) ∈ news) (hT : ∀ p ∈ T, p ∈ news9)
    (t1 : TmIn news9 x u) (hn : ∀ p ∈ news9, p ∈ news) (hb : (b, tupO #[.bool false, .ref y]) ∈ T) (t2 : TmIn T' y u') (S1 : Says σ' (fun τ => read τ t) (.error u)) (S2 : Says σ (fun τ => read τ t) (.error u')) (le : σ.le σ') (hT' : ∀ p ∈ T', p ∈ T) (hs : t.size ≤ 200) (hu : A.units + 600 < cLine) (h : Q (.bool true) s) :
    wpAny (model PySem.Challenge.rw_no0155_01.row.prog w) A (compareOp .Eq (.ref a) (.ref b)) Q E s := by
  have e1 := S1 σ' (Sym.le_refl _)
  have e2 := S2 σ' le
  rw [e1] at e2
  cases e2
  have hz := read_size e1
  exact told_eq N ha (hn _ (hT _ hb)) (by omega) (tm_eq N u A.in1 x y (by rw [Around.in1_units]; omega) (t1.mono hn) (t2.mono fun p hp => hn p (hT p (hT' p hp)))) h
theorem inst_exc {w : World} {h₀ h : Heap} {L e d : Addr} {oe : Obj} {news : List (Addr × Obj)} {v : Value} {k : Tok} (N : News h₀ L h ((e, oe) :: news)) (hc : oe.cls = .ref 51) (hd : oe.dict = some d) (hf : ∃ vs, oe.data = .fields vs) (hm : (d, ballD w v k) ∈ news) : InstAt h e oe 51 (some (ballD w v k)) :=
  ⟨(N _ (.head _)).1, hc, by obtain ⟨vs, q⟩ := hf; unfold notCls; rw [q], by rw [hd]; exact (N _ (.tail _ hm)).1⟩



local macro_rules | `(tactic| ktr_room) => `(tactic| first | ((try simp only [depth_mark, depth_under_make, depth_under_kw, depth_in1, depth_deeper, depth_caller]); decide) | ((try simp only [depth_under_make, depth_under_kw, depth_in1, depth_deeper, depth_caller] at *); omega))




theorem words_NZ3 : True := by
  k_with_none
  k_with "@MY mem" => (first | with_reducible assumption | exact List.mem_cons_self | (with_reducible refine List.mem_cons_of_mem _ ?_; walk_at "MY mem") | (with_reducible refine List.mem_append_left _ ?_; walk_at "MY mem") | (with_reducible refine List.mem_append_right _ ?_; walk_at "MY mem") | exact led_sy | exact led_dx | exact led_ff | exact led_hd | exact led_cl | (with_reducible refine led_T ?_; walk_at "MY mem"))
  k_with "@call builtin:len" => ((k_here; (with_reducible show wpAny _ _ (call (Value.builtin "len") [Value.ref _]) _ _ _); k_dflt (refine len_list (by exact News.isList (by k_asm) (by walk_at "MY mem")) (by omega) ?_; k_whole)))
  k_with "@subscriptTail Subscript Name Constant Subscript ref int" => ((k_here; (with_reducible show wpAny _ _ (subscriptTail _ _ (Value.ref _) (Value.int _ _)) _ _ _); k_dflt (refine item_int (by exact News.isList (by k_asm) (by walk_at "MY mem")) (by omega) (by omega) (by omega) (by assumption) ?_; k_whole); intro j tj))
  k_with "@subscriptTail Name Constant ref int" => ((k_here; k_dflt (first | (refine item_list (by exact News.isList (by k_asm) (by walk_at "MY mem")) (by decide) (by decide) (by rfl) ?_; k_whole) | (refine item_tupleT (by exact News.isTup (by k_asm) (by walk_at "MY mem")) (by decide) (by decide) (by rfl) (by rfl) ?_; k_whole))))
  k_with "@subscriptTail Subscript Name Constant Constant ref int" => ((k_here; k_dflt (refine item_tupleT (by exact News.isTup (by k_asm) (by walk_at "MY mem")) (by decide) (by decide) (by rfl) (by rfl) ?_; k_whole)))
  k_with "@MY sub" => ((intro p9 hp9; walk_at "MY mem"))
  k_with "@MY units" => (((try simp only [units_in1, units_deeper, Around.mark_units, units_caller] at *); omega))
  k_with "@MY over" => (first | exact over_nil | assumption | (refine over_cons (over_of (by assumption) (by walk_at "MY mem") (by walk_at "MY sub")) ?_; walk_at "MY over") | (refine over_app ?_ ?_ <;> walk_at "MY over") | exact over_mono (by assumption) (by walk_at "MY sub"))
  k_with "@MY rot" => (first | exact Rot.base | (apply Rot.pushT; walk_at "MY rot") | (apply Rot.pushL; walk_at "MY rot") | (apply Rot.keep; walk_at "MY rot") | (apply Rot.drop; walk_at "MY rot"))
  k_with "@MY front" => (first | exact List.forall_mem_nil _ | (refine List.forall_mem_cons.mpr ⟨by first | assumption | decide, ?_⟩; walk_at "MY front"))
  k_with "@MY subT" => (first | exact SubT.front (by walk_at "MY front") | exact SubT.refl)
  k_with "@MY frames" => (first | exact Around.frames_deeper (by assumption) | (simp only [Around.in1_frames]; exact Around.frames_deeper (by assumption)))
  k_with "@MY handled" => (first | assumption | (simp only [Around.in1_handled]; assumption))
  k_with "@MY apart" => (((try simp only [List.nil_append, List.cons_append]); first | assumption | (refine Apart.cons (by first | with_reducible assumption | exact raw_lt (by assumption) (by walk_at "MY mem") | ((try dsimp only); omega)) ?_; walk_at "MY apart")))
  k_with "@MY le" => (first | exact Sym.le_refl _ | assumption | (refine Sym.le_trans ?_ (by assumption); walk_at "MY le"))
  k_with "@MY suf" => (first | exact suf_nil | (apply suf_cons; walk_at "MY suf") | (apply suf_app; walk_at "MY suf"))
  k_with "@MY off" => (first | exact led_offT (by assumption) | (refine off_cons (by first | exact raw_lt (by assumption) (by walk_at "MY mem") | ((try dsimp only); omega)) ?_; walk_at "MY off") | (refine off_join (off_app (by assumption) (by walk_at "MY mem")) ?_; walk_at "MY off"))
  k_with "@call builtin:list.append" => ((k_here; (with_reducible show wpAny _ _ (call (Value.builtin _) [Value.ref _, _]) _ _ _); k_dflt (refine append_K (by k_asm) (by k_asm) (by k_upd) ?_ (by (rw [sizeLine_eq]; simp only [List.size_toArray, List.length_cons, List.length_nil]; omega)); k_whole); intro h' F' N'; (try k_sweep)))
  k_with "@call builtin:len" => ((k_here; (with_reducible show wpAny _ _ (call (Value.builtin "len") [Value.ref _]) _ _ _); k_dflt (refine kun_lenL (by exact News.isList (by k_asm) (by walk_at "MY mem")) (by first | exact congrArg Nat.cast (by assumption) | rfl) (by omega) ?_; k_whole)))
  k_with "@call ref" => ((k_here; (with_reducible show wpAny _ _ (call (Value.ref 88) _) _ _ _); k_dflt ((refine Ctr.use (by exact At.top (by walk_at "MY frames") (by exact rfl) (by exact rfl) (by walk_at "MY handled") (by k_asm) (by k_asm) (by k_asm) (by k_asm) (by k_asm)) (by walk_at "MY rot") (by assumption) (by walk_at "MY sub") (by walk_at "MY apart") (by walk_at "MY front") (atom_ok (by first | assumption | decide)) (by ktr_room) (by walk_at "MY units") ?_; k_whole; intro r1 σ1 S1 T21 h1 tk1 F1 N1 ho1 hl1 hS1 hap1 hP1; (have hg1 := hl1.2.2); (try simp only [List.nil_append] at ho1 hP1); (try dsimp only [List.nil_append, List.cons_append] at N1); obtain ⟨hT1, n1, t1, hr1, hn1, hn2, hy1, he1⟩ := hP1; subst hr1; subst hT1; (try simp only [List.nil_append] at hS1 hap1 N1); (try k_sweep); (try dsimp only)))))
  k_with "@call ref" => ((k_here; (with_reducible show wpAny _ _ (call (Value.ref 102) _) _ _ _); k_dflt ((refine Ctr.use (by exact At.top (by walk_at "MY frames") (by exact rfl) (by exact rfl) (by walk_at "MY handled") (by k_asm) (by k_asm) (by k_asm) (by k_asm) (by k_asm)) (by walk_at "MY rot") (by assumption) (by walk_at "MY sub") (by walk_at "MY apart") (by walk_at "MY front") (functor_ok (by omega) (by omega) (by omega) (by omega) (by first | assumption | omega | ((with_reducible rename _ = Sym.inA _ _ => he9); rw [he9, inA_G]; assumption))) (by ktr_room) (by walk_at "MY units") ?_; k_whole; intro r1 σ1 S1 T21 h1 tk1 F1 N1 ho1 hl1 hS1 hap1 hP1; (have hg1 := hl1.2.2); (try simp only [List.nil_append] at ho1 hP1); (try dsimp only [List.nil_append, List.cons_append] at N1); obtain ⟨n1, t1, hr1, hk1, hy1, he1⟩ := hP1; subst hr1; (try k_sweep); (try dsimp only)))))
  k_with "@call ref" => ((k_here; (with_reducible show wpAny _ _ (call (Value.ref 109) _) _ _ _); k_dflt ((refine Ctr.use (by exact At.top (by walk_at "MY frames") (by exact rfl) (by exact rfl) (by walk_at "MY handled") (by k_asm) (by k_asm) (by k_asm) (by k_asm) (by k_asm)) (by walk_at "MY rot") (by assumption) (by walk_at "MY sub") (by walk_at "MY apart") (by walk_at "MY front") (func_ok (by first | assumption | decide) (by decide) (by decide) (by omega)) (by ktr_room) (by walk_at "MY units") ?_; k_whole; intro r1 σ1 S1 T21 h1 tk1 F1 N1 ho1 hl1 hS1 hap1 hP1; (have hg1 := hl1.2.2); (try simp only [List.nil_append] at ho1 hP1); (try dsimp only [List.nil_append, List.cons_append] at N1); obtain ⟨n1, t1, hr1, hk1, hy1, he1⟩ := hP1; subst hr1; (try replace hk1 := hk1 (by decide)); (try k_sweep); (try dsimp only)))))
  k_with "@call ref" => ((k_here; (with_reducible show wpAny _ _ (call (Value.ref 67) _) _ _ _); k_dflt ((refine Ctr.use (by exact At.top (by walk_at "MY frames") (by exact rfl) (by exact rfl) (by walk_at "MY handled") (by k_asm) (by k_asm) (by k_asm) (by k_asm) (by k_asm)) (by walk_at "MY rot") (by assumption) (by walk_at "MY sub") (by walk_at "MY apart") (by walk_at "MY front") (ffun_ok) (by ktr_room) (by walk_at "MY units") ?_; k_whole; intro r1 σ1 S1 T21 h1 tk1 F1 N1 ho1 hl1 hS1 hap1 hP1; (have hg1 := hl1.2.2); (try simp only [List.nil_append] at ho1 hP1); (try dsimp only [List.nil_append, List.cons_append] at N1); obtain ⟨hs1, p1, its1, ep1, hr1, hm1, hR1⟩ := hP1; subst hr1; subst hs1; (try k_sweep); (try dsimp only)))))
  k_with "@call ref" => ((k_here; (with_reducible show wpAny _ _ (call (Value.ref 60) _) _ _ _); k_dflt ((refine fatoms_ok (by exact At.top (by walk_at "MY frames") (by exact rfl) (by exact rfl) (by walk_at "MY handled") (by k_asm) (by k_asm) (by k_asm) (by k_asm) (by k_asm)) (by ktr_room) ?_; k_whole; intro D9 vs9 h9 t9 F9 N9 R9 l9; (try k_sweep); (try dsimp only)))))
  k_with "@call ref" => ((k_here; (with_reducible show wpAny _ _ (call (Value.ref 247) _) _ _ _); k_dflt ((refine Ctr.use (by exact At.top (by walk_at "MY frames") (by exact rfl) (by exact rfl) (by walk_at "MY handled") (by k_asm) (by k_asm) (by k_asm) (by k_asm) (by k_asm)) (by walk_at "MY rot") (by assumption) (by walk_at "MY sub") (by walk_at "MY apart") (by walk_at "MY front") (whole3 (by omega)) (by ktr_room) (by walk_at "MY units") ?_; k_whole; intro r1 σ1 S1 T21 h1 tk1 F1 N1 ho1 hl1 hS1 hap1 hP1; (have hg1 := hl1.2.2); (try simp only [List.nil_append] at ho1 hP1); (try dsimp only [List.nil_append, List.cons_append] at N1); obtain ⟨a1, t1, hr1, ht1, hok1, hsz1, hro1⟩ := hP1; subst hr1; (try replace ht1 := TmIn.of_subT ht1 (by walk_at "MY subT")); (try k_sweep); (try dsimp only)))))
  k_with "@call ref" => ((k_here; (with_reducible show wpAny _ _ (call (Value.ref 268) _) _ _ _); k_dflt ((refine Ctr.use (by exact At.top (by walk_at "MY frames") (by exact rfl) (by exact rfl) (by walk_at "MY handled") (by k_asm) (by k_asm) (by k_asm) (by k_asm) (by k_asm)) (by walk_at "MY rot") (by assumption) (by walk_at "MY sub") (by walk_at "MY apart") (by walk_at "MY front") (lread3 (by walk_at "MY tm") (by omega) (by assumption) (by omega) (by omega)) (by ktr_room) (by walk_at "MY units") ?_; k_whole; intro r1 σ1 S1 T21 h1 tk1 F1 N1 ho1 hl1 hS1 hap1 hP1; (have hg1 := hl1.2.2); (try simp only [List.nil_append] at ho1 hP1); (try dsimp only [List.nil_append, List.cons_append] at N1); obtain ⟨b1, hr1, hL1⟩ := hP1; subst hr1; rcases hL1 with ⟨l1, vs1, e1, k1, hy1, hm1, hm2, hi1⟩ | ⟨u1, e1, hy1, hm1, ht1⟩; (all_goals (try replace ht1 := TmIn.of_subT ht1 (by walk_at "MY subT"))); (try k_sweep); (try dsimp only)))))
  k_with "@call ref" => ((k_here; (with_reducible show wpAny _ _ (call (Value.ref 219) _) _ _ _); k_dflt ((refine CtrX.use (by exact At.top (by walk_at "MY frames") (by exact rfl) (by exact rfl) (by walk_at "MY handled") (by k_asm) (by k_asm) (by k_asm) (by k_asm) (by k_asm)) (by walk_at "MY rot") (by assumption) (by walk_at "MY sub") (by walk_at "MY apart") (by walk_at "MY front") (rinds_ok (by walk_at "MY tm") (by assumption) (by omega) (by omega)) (by ktr_room) (by walk_at "MY units") ?_ ?_; k_whole; (rotate_left; (intro e1 σ1 g1 h1 tk1 FG1 U1 R1 hl1; (try dsimp only)); rotate_right); (intro r1 σ1 S1 T21 h1 tk1 F1 N1 ho1 hl1 hS1 hap1 hP1; (have hg1 := hl1.2.2); (try simp only [List.nil_append] at ho1 hP1); (try dsimp only [List.nil_append, List.cons_append] at N1); obtain ⟨b1, vs1, e1, l1, hr1, hm1, hi1, hn1⟩ := hP1; subst hr1; (try k_sweep); (try dsimp only))))))
  k_with "@MY tm" => (first | assumption | exact TmIn.mono (by assumption) (by walk_at "MY sub") | exact TmIn.v (by walk_at "MY mem") | exact TmIn.i (by walk_at "MY mem") | exact TmIn.a (by walk_at "MY mem") | (apply TmIn.s2; (walk_at "MY mem"); (walk_at "MY mem"); (walk_at "MY tm"); (walk_at "MY tm")))
  k_with "@MY sub" => (first | (intro p9 hp9; walk_at "MY mem") | (refine sub_cons (by walk_at "MY mem") ?_; walk_at "MY sub") | (refine sub_app ?_ ?_ <;> walk_at "MY sub"))
  k_with "@MY rotP" => (first | exact Rot.base | (apply Rot.push; walk_at "MY rotP"))
  k_with "@MY units" => (first | ((try simp only [units_under_make, units_in1, units_deeper, Around.mark_units, units_caller]); decide) | ((try simp only [units_in1, units_deeper, Around.mark_units, units_caller] at *); omega))
  k_with "@MY frames" => (exact rfl)
  k_with "@MY handled" => (exact rfl)
  k_with "@getAttr ref" => ((k_here; k_dflt (refine get_ownX (C := 51) (by k_asm) (by k_asm) (inst_exc (by assumption) (by assumption) (by assumption) (by assumption) (by assumption)) (by k_is) (by k_is) (by k_is) (by k_is) (by k_is) (by k_is) (by rfl) (by rfl) ?_; k_whole)))
  k_with "@compareOp Eq ref ref" => ((k_here; k_dflt (first | (refine told_clash2 (by assumption) (by assumption) (by walk_at "MY le")) | (refine told_terms (by k_asm) (by walk_at "MY mem") (by assumption) (by assumption) (by walk_at "MY sub") (by walk_at "MY mem") (by assumption) (by assumption) (by assumption) (by walk_at "MY le") (by walk_at "MY sub") (by omega) (by walk_at "MY units") ?_; k_whole))))
  k_with "@compareOp Eq ref ref" => ((k_here; k_dflt (first | (refine told_lists (by k_asm) (by walk_at "MY mem") (by walk_at "MY mem") (by walk_at "MY mem") (by walk_at "MY mem") (by assumption) (by assumption) (by assumption) (by assumption) (by walk_at "MY le") (by walk_at "MY units") ?_; k_whole) | (refine told_clash (by assumption) (by assumption) (by walk_at "MY le")))))
  trivial

theorem fn_stepE {σ σ1 : Sym} {x : Str} {k : Int} {i : Nat} (hi : i < FUN.length) (hσ : σ = fnS i) (hx : (x, k) = FUN[i]) (he : ∃ a, σ1 = (σ.inA x).inG a k ∧ Says (σ.inA x) (fun τ => τ.atom x) a) : σ1 = fnS (i + 1) :=
  let ⟨_, e, y⟩ := he
  fn_step hi e y hσ hx
theorem fn_stepD {σ σ1 σ2 : Sym} {x : Str} {k a : Int} {i : Nat} (hi : i < FUN.length) (hσ : σ = fnS i) (hx : (x, k) = FUN[i]) (hG : σ1 = σ2.inG a k) (hA : σ2 = σ.inA x) (hy : Says σ2 (fun τ => τ.atom x) a) : σ1 = fnS (i + 1) := by
  subst hA
  exact fn_step hi hG hy hσ hx
local macro_rules | `(tactic| k_qdec) => `(tactic| decide +kernel)

local macro_rules | `(tactic| walk_at "noteFrame ref") => `(tactic| (k_here; k_dflt (refine' caught_D ?K ?F ?U ?R ?X ?T ?ex ?_; (case R => assumption); (case K => first | assumption | exact below_caller _ | k_asm); (case F => assumption); (case U => assumption); (case X => k_asm); (case T => k_asm); (case ex => k_is); k_whole); intro h' tk' news9 b9 u9 d9 k9 oe9 F' N' hc9 hd9 hf9 hm9 ht9 hp9 hT9; (try dsimp only)))
theorem law_main : PySem.Challenge.rw_no0155_01.Holds := hd (by rfl) (by rfl) (by rfl) (by
  k_go0
  (all_goals try k_fold)
  k_steps
  obtain ⟨c, S0, e1, e2, e3, e4, e5, e6, e7, e8, e9, hS0, hap1, N0⟩ := start_led (by assumption) (by first | assumption | exact raw_lt (by assumption) (by walk_at "MY mem") | omega) (by first | assumption | exact raw_lt (by assumption) (by walk_at "MY mem") | omega) (by first | assumption | exact raw_lt (by assumption) (by walk_at "MY mem") | omega) (by first | assumption | exact raw_lt (by assumption) (by walk_at "MY mem") | omega) (by first | assumption | exact raw_lt (by assumption) (by walk_at "MY mem") | omega) (by first | assumption | exact raw_lt (by assumption) (by walk_at "MY mem") | omega) (by first | assumption | exact raw_lt (by assumption) (by walk_at "MY mem") | omega) (by first | assumption | exact raw_lt (by assumption) (by walk_at "MY mem") | omega) (by assumption) (List.length_take_le _ _) (fm_ok _).1 (fm_ok _).2 (by assumption) (by assumption) (by assumption) (by assumption)
  subst e1 e2 e3 e4 e5 e6 e7 e8 e9
  obtain ⟨⟨o1, o2, o3, o4, o5, o6, o7⟩, hIc, hlenc⟩ := hS0.cx
  refine atoms_loop rfl (by assumption) N0 List.mem_cons_self (by assumption) hS0 ?_ ?_
  · intro i hi x t I h5 tk5 o5' σ5 S5 pv5 hx hxu hσ hoc hS5 hoff hIf F5 N5
    dsimp only
    k_steps
    refine Turn.intro (by assumption) (News.turn (by assumption) (by walk_at "MY rot")) (led_off hoff (led_offT hoff)) (JA.intro (by assumption) (by (with_reducible rename _ = Sym.inA _ _ => he9); rw [he9, hσ, hx]; exact (atS_succ hi).symm) (map_one' ?_))
    intro z h1
    first | exact (if_neg h1).trans (if_neg h1) | (simp only [if_neg h1]; done)
  · intro h6 tk6 S6 pv6 hS6 F6 N6
    (try dsimp only)
    k_steps
    refine rows_loop rfl (by assumption) (News.led (by assumption) (by walk_at "MY rotP")) (by walk_at "MY mem") (RowR.mono (by assumption) (by walk_at "MY sub")) (StOk.mono (by assumption) (by walk_at "MY sub")) (by walk_at "MY apart") ?_ ?_
    · intro i hi x k tx tk' r I h5 tk5 o5' σ5 S5 T5 pv5 hx hxu hk0 hk1 hk2 hσ hr hoc hS5 hap5 hoff hIf F5 N5
      dsimp only
      k_steps
      refine Turn.intro (by assumption) (News.turn (by assumption) (by walk_at "MY rot")) (led_off hoff (by first | exact led_offT hoff | walk_at "MY off")) (JF2.intro (StOk.mono (by assumption) (by walk_at "MY sub")) (by walk_at "MY suf") (by walk_at "MY apart") (by first | exact fn_stepE hi hσ hx (by assumption) | exact fn_stepD hi hσ hx (by assumption) (by assumption) (by assumption)) (map_one' ?_))
      intro z h1
      first | exact (if_neg h1).trans (if_neg h1) | (simp only [if_neg h1]; done)
    · intro h7 tk7 σ7 S7 T7 pv7 hb7 hS7 hap7 F7 N7
      (try dsimp only)
      repeat (first | walk1 | (dsimp only; walk1) | (dsimp only; refine goodW_bool (by assumption) (by assumption) (raisesW_false ?_) ?_; (· wrow_none_raised); (· exact post_ok _))))
end Mine
end

end

end

theorem PySem.Challenge.cw_no0155_01_holds : PySem.Challenge.rw_no0155_01.Holds :=
  Mine.law_main
