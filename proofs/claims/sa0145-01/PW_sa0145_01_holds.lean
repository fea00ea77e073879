import PyProof.Rows.All
import Wide.All
import OpenK.AllK
import Wide.FinOn
import PySem.Challenge.RW_sa0145_01
open PySem PySem.W PyProof.Rows
set_option Elab.async false
set_option compiler.extract_closed false
set_option maxRecDepth 100000
set_option maxHeartbeats 8000000

namespace Mine
section PHo
abbrev pr : Program := PySem.Challenge.pw_sa0145_01
abbrev stm (i : Nat) : Stmt := (pr.main.body[i]?).getD default
abbrev stm2 (i j : Nat) : Stmt := match stm i with | .ClassDef _ _ _ b _ _ _ _ _ _ _ => (b[j]?).getD default | _ => default
abbrev fnAt {st : Stmt} {nm : Str} {a : Arguments} {b : List Stmt} {dl : List Expr} {rt : Option Expr} {tp : List TypeParam} {sc : Scope} {ts : Option Scope} {bd : Str} {pos : Pos} (_ : st = .FunctionDef nm a b dl rt tp sc ts bd pos) (k : Arguments → List Stmt → Scope → Obj) : Obj := k a b sc
noncomputable def K0 : Params → Frag := fun P =>
  (nat_lit 2, { cls := Value.none, data := Data.dict #[] }) ::
  (nat_lit 3, { cls := Value.type "dict", data := Data.dict #[{ hash := PyData.keyHash P (Str.ofString "__name__"), key := Value.str (Str.ofString "__name__") 165, val := Value.str (Str.ofString "law_sa0145_01") 497 }, { hash := PyData.keyHash P (Str.ofString "__doc__"), key := Value.str (Str.ofString "__doc__") 166, val := Value.none }, { hash := PyData.keyHash P (Str.ofString "__package__"), key := Value.str (Str.ofString "__package__") 167, val := Value.none }, { hash := PyData.keyHash P (Str.ofString "__loader__"), key := Value.str (Str.ofString "__loader__") 168, val := Value.builtin "__main__.__loader__#opaque" }, { hash := PyData.keyHash P (Str.ofString "__spec__"), key := Value.str (Str.ofString "__spec__") 169, val := Value.none }, { hash := PyData.keyHash P (Str.ofString "__annotations__"), key := Value.str (Str.ofString "__annotations__") 170, val := Value.ref 6 }, { hash := PyData.keyHash P (Str.ofString "__builtins__"), key := Value.str (Str.ofString "__builtins__") 171, val := Value.ref 4 }, { hash := PyData.keyHash P (Str.ofString "__file__"), key := Value.str (Str.ofString "__file__") 173, val := Value.str (Str.ofString "/claim/cut.py") 172 }, { hash := PyData.keyHash P (Str.ofString "__cached__"), key := Value.str (Str.ofString "__cached__") 174, val := Value.none }, { hash := PyData.keyHash P (Str.ofString "_wall"), key := Value.str (Str.ofString "_wall") 193, val := Value.ref 21 }, { hash := PyData.keyHash P (Str.ofString "variables"), key := Value.str (Str.ofString "variables") 202, val := Value.ref 28 }, { hash := PyData.keyHash P (Str.ofString "variables_of"), key := Value.str (Str.ofString "variables_of") 213, val := Value.ref 35 }, { hash := PyData.keyHash P (Str.ofString "occurrences"), key := Value.str (Str.ofString "occurrences") 223, val := Value.ref 42 }, { hash := PyData.keyHash P (Str.ofString "KernelClause"), key := Value.str (Str.ofString "KernelClause") 260, val := Value.ref 59 }, { hash := PyData.keyHash P (Str.ofString "goal_terms"), key := Value.str (Str.ofString "goal_terms") 268, val := Value.ref 70 }, { hash := PyData.keyHash P (Str.ofString "goal_special"), key := Value.str (Str.ofString "goal_special") 275, val := Value.ref 77 }, { hash := PyData.keyHash P (Str.ofString "VarInfo"), key := Value.str (Str.ofString "VarInfo") 315, val := Value.ref 94 }, { hash := PyData.keyHash P (Str.ofString "ClausePlan"), key := Value.str (Str.ofString "ClausePlan") 393, val := Value.ref 150 }, { hash := PyData.keyHash P (Str.ofString "chunk_numbers"), key := Value.str (Str.ofString "chunk_numbers") 403, val := Value.ref 161 }, { hash := PyData.keyHash P (Str.ofString "Survey"), key := Value.str (Str.ofString "Survey") 458, val := Value.ref 192 }, { hash := PyData.keyHash P (Str.ofString "kind_of"), key := Value.str (Str.ofString "kind_of") 465, val := Value.ref 203 }, { hash := PyData.keyHash P (Str.ofString "slot_order"), key := Value.str (Str.ofString "slot_order") 476, val := Value.ref 210 }, { hash := PyData.keyHash P (Str.ofString "classify"), key := Value.str (Str.ofString "classify") 496, val := Value.ref 217 }, { hash := PyData.keyHash P (Str.ofString "_law_coins"), key := Value.str (Str.ofString "_law_coins") 509, val := Value.ref 224 }, { hash := PyData.keyHash P (Str.ofString "_law_coin"), key := Value.str (Str.ofString "_law_coin") 517, val := Value.ref 231 }, { hash := PyData.keyHash P (Str.ofString "_law_side"), key := Value.str (Str.ofString "_law_side") 526, val := Value.ref 238 }, { hash := PyData.keyHash P (Str.ofString "_law_goal"), key := Value.str (Str.ofString "_law_goal") 532, val := Value.ref 243 }, { hash := PyData.keyHash P (Str.ofString "_law_found"), key := Value.str (Str.ofString "_law_found") 542, val := Value.ref 250 }, { hash := PyData.keyHash P (Str.ofString "_law_kept"), key := Value.str (Str.ofString "_law_kept") 549, val := Value.ref 257 }, { hash := PyData.keyHash P (Str.ofString "_law_grown"), key := Value.str (Str.ofString "_law_grown") 555, val := Value.ref 262 }, { hash := PyData.keyHash P (Str.ofString "law"), key := Value.str (Str.ofString "law") 561, val := Value.ref 267 }] 31 }) ::
  (nat_lit 15, { cls := Value.type "tuple", data := Data.seq #[] }) ::
  (nat_lit 17, { cls := Value.type "tuple", data := Data.seq #[Value.str (Str.ofString "k") 190] }) ::
  (nat_lit 18, { cls := Value.type "tuple", data := Data.seq #[] }) ::
  (nat_lit 20, { cls := Value.type "code", data := Data.fields #[Value.str (Str.ofString "_wall") 187, Value.str (Str.ofString "_wall") 188, Value.str (Str.ofString "/claim/cut.py") 189, Value.int 1 0, Value.int 1 0, Value.int 0 0, Value.int 0 0, Value.int 3 0, Value.ref 15, Value.bool true, Value.int 181 0, Value.ref 16, Value.none, Value.ref 17, Value.ref 18, Value.ref 19, Value.int 191 0, Value.int 1 0, Value.str (Str.ofString "/claim/cut.py") 192] }) ::
  (nat_lit 21, fnAt (st := (stm 0)) rfl fun a b sc => { cls := Value.type "function", dict := none, data := .func { name := Str.ofString "_wall", qualname := Str.ofString "_wall", params := a, body := .stmts b, scope := sc, globals := 3, closure := [], defaults := Value.none, kwdefaults := Value.none, doc := Value.none, pyModule := Value.str (Str.ofString "__main__") 164, annotations := none, code := Value.ref 20, closureTuple := Value.none, builtins := 0 }, slots := #[] }) ::
  (nat_lit 22, { cls := Value.type "tuple", data := Data.seq #[] }) ::
  (nat_lit 24, { cls := Value.type "tuple", data := Data.seq #[Value.str (Str.ofString "term") 199] }) ::
  (nat_lit 25, { cls := Value.type "tuple", data := Data.seq #[] }) ::
  (nat_lit 27, { cls := Value.type "code", data := Data.fields #[Value.str (Str.ofString "variables") 196, Value.str (Str.ofString "variables") 197, Value.str (Str.ofString "/claim/cut.py") 198, Value.int 5 0, Value.int 1 0, Value.int 0 0, Value.int 0 0, Value.int 3 0, Value.ref 22, Value.bool true, Value.int 181 0, Value.ref 23, Value.none, Value.ref 24, Value.ref 25, Value.ref 26, Value.int 200 0, Value.int 5 0, Value.str (Str.ofString "/claim/cut.py") 201] }) ::
  (nat_lit 28, fnAt (st := (stm 2)) rfl fun a b sc => { cls := Value.type "function", dict := none, data := .func { name := Str.ofString "variables", qualname := Str.ofString "variables", params := a, body := .stmts b, scope := sc, globals := 3, closure := [], defaults := Value.none, kwdefaults := Value.none, doc := Value.none, pyModule := Value.str (Str.ofString "clausemill.terms") 194, annotations := none, code := Value.ref 27, closureTuple := Value.none, builtins := 0 }, slots := #[] }) ::
  (nat_lit 29, { cls := Value.type "tuple", data := Data.seq #[] }) ::
  (nat_lit 31, { cls := Value.type "tuple", data := Data.seq #[Value.str (Str.ofString "terms") 206, Value.str (Str.ofString "seen") 207, Value.str (Str.ofString "result") 208, Value.str (Str.ofString "todo") 209, Value.str (Str.ofString "term") 210] }) ::
  (nat_lit 32, { cls := Value.type "tuple", data := Data.seq #[] }) ::
  (nat_lit 34, { cls := Value.type "code", data := Data.fields #[Value.str (Str.ofString "variables_of") 203, Value.str (Str.ofString "variables_of") 204, Value.str (Str.ofString "/claim/cut.py") 205, Value.int 7 0, Value.int 1 0, Value.int 0 0, Value.int 0 0, Value.int 3 0, Value.ref 29, Value.bool true, Value.int 181 0, Value.ref 30, Value.none, Value.ref 31, Value.ref 32, Value.ref 33, Value.int 211 0, Value.int 7 0, Value.str (Str.ofString "/claim/cut.py") 212] }) ::
  (nat_lit 35, fnAt (st := (stm 3)) rfl fun a b sc => { cls := Value.type "function", dict := none, data := .func { name := Str.ofString "variables_of", qualname := Str.ofString "variables_of", params := a, body := .stmts b, scope := sc, globals := 3, closure := [], defaults := Value.none, kwdefaults := Value.none, doc := Value.none, pyModule := Value.str (Str.ofString "clausemill.terms") 194, annotations := none, code := Value.ref 34, closureTuple := Value.none, builtins := 0 }, slots := #[] }) ::
  (nat_lit 36, { cls := Value.type "tuple", data := Data.seq #[] }) ::
  (nat_lit 38, { cls := Value.type "tuple", data := Data.seq #[Value.str (Str.ofString "term") 217, Value.str (Str.ofString "counts") 218, Value.str (Str.ofString "todo") 219, Value.str (Str.ofString "part") 220] }) ::
  (nat_lit 39, { cls := Value.type "tuple", data := Data.seq #[] }) ::
  (nat_lit 41, { cls := Value.type "code", data := Data.fields #[Value.str (Str.ofString "occurrences") 214, Value.str (Str.ofString "occurrences") 215, Value.str (Str.ofString "/claim/cut.py") 216, Value.int 20 0, Value.int 1 0, Value.int 0 0, Value.int 0 0, Value.int 3 0, Value.ref 36, Value.bool true, Value.int 181 0, Value.ref 37, Value.none, Value.ref 38, Value.ref 39, Value.ref 40, Value.int 221 0, Value.int 20 0, Value.str (Str.ofString "/claim/cut.py") 222] }) ::
  (nat_lit 42, fnAt (st := (stm 4)) rfl fun a b sc => { cls := Value.type "function", dict := none, data := .func { name := Str.ofString "occurrences", qualname := Str.ofString "occurrences", params := a, body := .stmts b, scope := sc, globals := 3, closure := [], defaults := Value.none, kwdefaults := Value.none, doc := Value.none, pyModule := Value.str (Str.ofString "clausemill.terms") 194, annotations := none, code := Value.ref 41, closureTuple := Value.none, builtins := 0 }, slots := #[] }) ::
  (nat_lit 50, { cls := Value.type "tuple", data := Data.seq #[] }) ::
  (nat_lit 52, { cls := Value.type "tuple", data := Data.seq #[Value.str (Str.ofString "self") 241, Value.str (Str.ofString "functor") 242, Value.str (Str.ofString "args") 243, Value.str (Str.ofString "goals") 244, Value.str (Str.ofString "count") 245] }) ::
  (nat_lit 53, { cls := Value.type "tuple", data := Data.seq #[] }) ::
  (nat_lit 55, { cls := Value.type "code", data := Data.fields #[Value.str (Str.ofString "__init__") 238, Value.str (Str.ofString "KernelClause.__init__") 239, Value.str (Str.ofString "/claim/cut.py") 240, Value.int 33 0, Value.int 5 0, Value.int 0 0, Value.int 0 0, Value.int 3 0, Value.ref 50, Value.bool true, Value.int 181 0, Value.ref 51, Value.none, Value.ref 52, Value.ref 53, Value.ref 54, Value.int 246 0, Value.int 33 0, Value.str (Str.ofString "/claim/cut.py") 247] }) ::
  (nat_lit 56, fnAt (st := (stm2 6 0)) rfl fun a b sc => { cls := Value.type "function", dict := none, data := .func { name := Str.ofString "__init__", qualname := Str.ofString "KernelClause.__init__", params := a, body := .stmts b, scope := sc, globals := 3, closure := [], defaults := Value.none, kwdefaults := Value.none, doc := Value.none, pyModule := Value.str (Str.ofString "clausemill.kernel") 224, annotations := none, code := Value.ref 55, closureTuple := Value.none, builtins := 0 }, slots := #[] }) ::
  (nat_lit 57, { cls := Value.type "tuple", data := Data.seq #[Value.str (Str.ofString "args") 249, Value.str (Str.ofString "count") 250, Value.str (Str.ofString "functor") 251, Value.str (Str.ofString "goals") 252] }) ::
  (nat_lit 58, { cls := Value.type "dict", data := Data.dict #[{ hash := PyData.keyHash P (Str.ofString "__module__"), key := Value.str (Str.ofString "__module__") 233, val := Value.str (Str.ofString "clausemill.kernel") 224 }, { hash := PyData.keyHash P (Str.ofString "__firstlineno__"), key := Value.str (Str.ofString "__firstlineno__") 237, val := Value.int 31 236 }, { hash := PyData.keyHash P (Str.ofString "__init__"), key := Value.str (Str.ofString "__init__") 248, val := Value.ref 56 }, { hash := PyData.keyHash P (Str.ofString "__static_attributes__"), key := Value.str (Str.ofString "__static_attributes__") 253, val := Value.ref 57 }, { hash := PyData.keyHash P (Str.ofString "__dict__"), key := Value.str (Str.ofString "__dict__") 255, val := Value.ref 60 }, { hash := PyData.keyHash P (Str.ofString "__weakref__"), key := Value.str (Str.ofString "__weakref__") 257, val := Value.ref 61 }, { hash := PyData.keyHash P (Str.ofString "__doc__"), key := Value.str (Str.ofString "__doc__") 258, val := Value.none }] 4 }) ::
  (nat_lit 59, { cls := Value.type "type", data := Data.cls { name := Str.ofString "KernelClause", bases := [Value.type "object"], mro := [Value.ref 59, Value.type "object"], ns := 58, qualname := Str.ofString "KernelClause" }, slots := #[none, none, some (Value.str (Str.ofString "KernelClause") 226), some (Value.str (Str.ofString "KernelClause") 234), some (Value.builtin "object.__new__"), some (Value.bool true)] }) ::
  (nat_lit 60, { cls := Value.type "getset_descriptor", data := Data.fields #[Value.str (Str.ofString "__dict__") 254, Value.ref 59, Value.builtin "function.__dict__", Value.builtin "function.__dict__#set"] }) ::
  (nat_lit 61, { cls := Value.type "getset_descriptor", data := Data.fields #[Value.str (Str.ofString "__weakref__") 256, Value.ref 59, Value.builtin "ExceptionGroup.__weakref__", Value.none] }) ::
  (nat_lit 64, { cls := Value.type "tuple", data := Data.seq #[] }) ::
  (nat_lit 66, { cls := Value.type "tuple", data := Data.seq #[Value.str (Str.ofString "goal") 264, Value.str (Str.ofString "kind") 265] }) ::
  (nat_lit 67, { cls := Value.type "tuple", data := Data.seq #[] }) ::
  (nat_lit 69, { cls := Value.type "code", data := Data.fields #[Value.str (Str.ofString "goal_terms") 261, Value.str (Str.ofString "goal_terms") 262, Value.str (Str.ofString "/claim/cut.py") 263, Value.int 38 0, Value.int 1 0, Value.int 0 0, Value.int 0 0, Value.int 3 0, Value.ref 64, Value.bool true, Value.int 181 0, Value.ref 65, Value.none, Value.ref 66, Value.ref 67, Value.ref 68, Value.int 266 0, Value.int 38 0, Value.str (Str.ofString "/claim/cut.py") 267] }) ::
  (nat_lit 70, fnAt (st := (stm 7)) rfl fun a b sc => { cls := Value.type "function", dict := none, data := .func { name := Str.ofString "goal_terms", qualname := Str.ofString "goal_terms", params := a, body := .stmts b, scope := sc, globals := 3, closure := [], defaults := Value.none, kwdefaults := Value.none, doc := Value.none, pyModule := Value.str (Str.ofString "clausemill.kernel") 224, annotations := none, code := Value.ref 69, closureTuple := Value.none, builtins := 0 }, slots := #[] }) ::
  (nat_lit 71, { cls := Value.type "tuple", data := Data.seq #[] }) ::
  (nat_lit 73, { cls := Value.type "tuple", data := Data.seq #[Value.str (Str.ofString "goal") 272] }) ::
  (nat_lit 74, { cls := Value.type "tuple", data := Data.seq #[] }) ::
  (nat_lit 76, { cls := Value.type "code", data := Data.fields #[Value.str (Str.ofString "goal_special") 269, Value.str (Str.ofString "goal_special") 270, Value.str (Str.ofString "/claim/cut.py") 271, Value.int 45 0, Value.int 1 0, Value.int 0 0, Value.int 0 0, Value.int 3 0, Value.ref 71, Value.bool true, Value.int 181 0, Value.ref 72, Value.none, Value.ref 73, Value.ref 74, Value.ref 75, Value.int 273 0, Value.int 45 0, Value.str (Str.ofString "/claim/cut.py") 274] }) ::
  (nat_lit 77, fnAt (st := (stm 8)) rfl fun a b sc => { cls := Value.type "function", dict := none, data := .func { name := Str.ofString "goal_special", qualname := Str.ofString "goal_special", params := a, body := .stmts b, scope := sc, globals := 3, closure := [], defaults := Value.none, kwdefaults := Value.none, doc := Value.none, pyModule := Value.str (Str.ofString "clausemill.kernel") 224, annotations := none, code := Value.ref 76, closureTuple := Value.none, builtins := 0 }, slots := #[] }) ::
  (nat_lit 85, { cls := Value.type "tuple", data := Data.seq #[] }) ::
  (nat_lit 87, { cls := Value.type "tuple", data := Data.seq #[Value.str (Str.ofString "self") 293, Value.str (Str.ofString "k") 294, Value.str (Str.ofString "first") 295] }) ::
  (nat_lit 88, { cls := Value.type "tuple", data := Data.seq #[] }) ::
  (nat_lit 90, { cls := Value.type "code", data := Data.fields #[Value.str (Str.ofString "__init__") 290, Value.str (Str.ofString "VarInfo.__init__") 291, Value.str (Str.ofString "/claim/cut.py") 292, Value.int 52 0, Value.int 3 0, Value.int 0 0, Value.int 0 0, Value.int 3 0, Value.ref 85, Value.bool true, Value.int 181 0, Value.ref 86, Value.none, Value.ref 87, Value.ref 88, Value.ref 89, Value.int 296 0, Value.int 52 0, Value.str (Str.ofString "/claim/cut.py") 297] }) ::
  (nat_lit 91, fnAt (st := (stm2 10 0)) rfl fun a b sc => { cls := Value.type "function", dict := none, data := .func { name := Str.ofString "__init__", qualname := Str.ofString "VarInfo.__init__", params := a, body := .stmts b, scope := sc, globals := 3, closure := [], defaults := Value.none, kwdefaults := Value.none, doc := Value.none, pyModule := Value.str (Str.ofString "clausemill.classify") 276, annotations := none, code := Value.ref 90, closureTuple := Value.none, builtins := 0 }, slots := #[] }) ::
  (nat_lit 92, { cls := Value.type "tuple", data := Data.seq #[Value.str (Str.ofString "count") 299, Value.str (Str.ofString "first") 300, Value.str (Str.ofString "first_chunk") 301, Value.str (Str.ofString "kind") 302, Value.str (Str.ofString "last_chunk") 303, Value.str (Str.ofString "last_goal") 304, Value.str (Str.ofString "slot") 305, Value.str (Str.ofString "unsafe") 306, Value.str (Str.ofString "var") 307] }) ::
  (nat_lit 93, { cls := Value.type "dict", data := Data.dict #[{ hash := PyData.keyHash P (Str.ofString "__module__"), key := Value.str (Str.ofString "__module__") 285, val := Value.str (Str.ofString "clausemill.classify") 276 }, { hash := PyData.keyHash P (Str.ofString "__firstlineno__"), key := Value.str (Str.ofString "__firstlineno__") 289, val := Value.int 50 288 }, { hash := PyData.keyHash P (Str.ofString "__init__"), key := Value.str (Str.ofString "__init__") 298, val := Value.ref 91 }, { hash := PyData.keyHash P (Str.ofString "__static_attributes__"), key := Value.str (Str.ofString "__static_attributes__") 308, val := Value.ref 92 }, { hash := PyData.keyHash P (Str.ofString "__dict__"), key := Value.str (Str.ofString "__dict__") 310, val := Value.ref 95 }, { hash := PyData.keyHash P (Str.ofString "__weakref__"), key := Value.str (Str.ofString "__weakref__") 312, val := Value.ref 96 }, { hash := PyData.keyHash P (Str.ofString "__doc__"), key := Value.str (Str.ofString "__doc__") 313, val := Value.none }] 4 }) ::
  (nat_lit 94, { cls := Value.type "type", data := Data.cls { name := Str.ofString "VarInfo", bases := [Value.type "object"], mro := [Value.ref 94, Value.type "object"], ns := 93, qualname := Str.ofString "VarInfo" }, slots := #[none, none, some (Value.str (Str.ofString "VarInfo") 278), some (Value.str (Str.ofString "VarInfo") 286), some (Value.builtin "object.__new__"), some (Value.bool true)] }) ::
  (nat_lit 95, { cls := Value.type "getset_descriptor", data := Data.fields #[Value.str (Str.ofString "__dict__") 309, Value.ref 94, Value.builtin "function.__dict__", Value.builtin "function.__dict__#set"] }) ::
  (nat_lit 96, { cls := Value.type "getset_descriptor", data := Data.fields #[Value.str (Str.ofString "__weakref__") 311, Value.ref 94, Value.builtin "ExceptionGroup.__weakref__", Value.none] }) ::
  (nat_lit 106, { cls := Value.type "tuple", data := Data.seq #[] }) ::
  (nat_lit 108, { cls := Value.type "tuple", data := Data.seq #[Value.str (Str.ofString "self") 331, Value.str (Str.ofString "infos") 332, Value.str (Str.ofString "chunks") 333, Value.str (Str.ofString "needs_env") 334, Value.str (Str.ofString "env_size") 335, Value.str (Str.ofString "live_after") 336] }) ::
  (nat_lit 109, { cls := Value.type "tuple", data := Data.seq #[] }) ::
  (nat_lit 111, { cls := Value.type "code", data := Data.fields #[Value.str (Str.ofString "__init__") 328, Value.str (Str.ofString "ClausePlan.__init__") 329, Value.str (Str.ofString "/claim/cut.py") 330, Value.int 64 0, Value.int 6 0, Value.int 0 0, Value.int 0 0, Value.int 3 0, Value.ref 106, Value.bool true, Value.int 181 0, Value.ref 107, Value.none, Value.ref 108, Value.ref 109, Value.ref 110, Value.int 337 0, Value.int 64 0, Value.str (Str.ofString "/claim/cut.py") 338] }) ::
  (nat_lit 112, fnAt (st := (stm2 11 0)) rfl fun a b sc => { cls := Value.type "function", dict := none, data := .func { name := Str.ofString "__init__", qualname := Str.ofString "ClausePlan.__init__", params := a, body := .stmts b, scope := sc, globals := 3, closure := [], defaults := Value.none, kwdefaults := Value.none, doc := Value.none, pyModule := Value.str (Str.ofString "clausemill.classify") 276, annotations := none, code := Value.ref 111, closureTuple := Value.none, builtins := 0 }, slots := #[] }) ::
  (nat_lit 113, { cls := Value.type "tuple", data := Data.seq #[] }) ::
  (nat_lit 115, { cls := Value.type "tuple", data := Data.seq #[Value.str (Str.ofString "self") 343, Value.str (Str.ofString "k") 344] }) ::
  (nat_lit 116, { cls := Value.type "tuple", data := Data.seq #[] }) ::
  (nat_lit 118, { cls := Value.type "code", data := Data.fields #[Value.str (Str.ofString "info") 340, Value.str (Str.ofString "ClausePlan.info") 341, Value.str (Str.ofString "/claim/cut.py") 342, Value.int 71 0, Value.int 2 0, Value.int 0 0, Value.int 0 0, Value.int 3 0, Value.ref 113, Value.bool true, Value.int 181 0, Value.ref 114, Value.none, Value.ref 115, Value.ref 116, Value.ref 117, Value.int 345 0, Value.int 71 0, Value.str (Str.ofString "/claim/cut.py") 346] }) ::
  (nat_lit 119, fnAt (st := (stm2 11 1)) rfl fun a b sc => { cls := Value.type "function", dict := none, data := .func { name := Str.ofString "info", qualname := Str.ofString "ClausePlan.info", params := a, body := .stmts b, scope := sc, globals := 3, closure := [], defaults := Value.none, kwdefaults := Value.none, doc := Value.none, pyModule := Value.str (Str.ofString "clausemill.classify") 276, annotations := none, code := Value.ref 118, closureTuple := Value.none, builtins := 0 }, slots := #[] }) ::
  (nat_lit 120, { cls := Value.type "tuple", data := Data.seq #[] }) ::
  (nat_lit 122, { cls := Value.type "tuple", data := Data.seq #[Value.str (Str.ofString "self") 351, Value.str (Str.ofString "k") 352] }) ::
  (nat_lit 123, { cls := Value.type "tuple", data := Data.seq #[] }) ::
  (nat_lit 125, { cls := Value.type "code", data := Data.fields #[Value.str (Str.ofString "is_perm") 348, Value.str (Str.ofString "ClausePlan.is_perm") 349, Value.str (Str.ofString "/claim/cut.py") 350, Value.int 74 0, Value.int 2 0, Value.int 0 0, Value.int 0 0, Value.int 3 0, Value.ref 120, Value.bool true, Value.int 181 0, Value.ref 121, Value.none, Value.ref 122, Value.ref 123, Value.ref 124, Value.int 353 0, Value.int 74 0, Value.str (Str.ofString "/claim/cut.py") 354] }) ::
  (nat_lit 126, fnAt (st := (stm2 11 2)) rfl fun a b sc => { cls := Value.type "function", dict := none, data := .func { name := Str.ofString "is_perm", qualname := Str.ofString "ClausePlan.is_perm", params := a, body := .stmts b, scope := sc, globals := 3, closure := [], defaults := Value.none, kwdefaults := Value.none, doc := Value.none, pyModule := Value.str (Str.ofString "clausemill.classify") 276, annotations := none, code := Value.ref 125, closureTuple := Value.none, builtins := 0 }, slots := #[] }) ::
  (nat_lit 127, { cls := Value.type "tuple", data := Data.seq #[] }) ::
  (nat_lit 129, { cls := Value.type "tuple", data := Data.seq #[Value.str (Str.ofString "self") 359, Value.str (Str.ofString "k") 360] }) ::
  (nat_lit 130, { cls := Value.type "tuple", data := Data.seq #[] }) ::
  (nat_lit 132, { cls := Value.type "code", data := Data.fields #[Value.str (Str.ofString "is_void") 356, Value.str (Str.ofString "ClausePlan.is_void") 357, Value.str (Str.ofString "/claim/cut.py") 358, Value.int 77 0, Value.int 2 0, Value.int 0 0, Value.int 0 0, Value.int 3 0, Value.ref 127, Value.bool true, Value.int 181 0, Value.ref 128, Value.none, Value.ref 129, Value.ref 130, Value.ref 131, Value.int 361 0, Value.int 77 0, Value.str (Str.ofString "/claim/cut.py") 362] }) ::
  (nat_lit 133, fnAt (st := (stm2 11 3)) rfl fun a b sc => { cls := Value.type "function", dict := none, data := .func { name := Str.ofString "is_void", qualname := Str.ofString "ClausePlan.is_void", params := a, body := .stmts b, scope := sc, globals := 3, closure := [], defaults := Value.none, kwdefaults := Value.none, doc := Value.none, pyModule := Value.str (Str.ofString "clausemill.classify") 276, annotations := none, code := Value.ref 132, closureTuple := Value.none, builtins := 0 }, slots := #[] }) ::
  (nat_lit 134, { cls := Value.type "tuple", data := Data.seq #[] }) ::
  (nat_lit 136, { cls := Value.type "tuple", data := Data.seq #[Value.str (Str.ofString "self") 367, Value.str (Str.ofString "found") 368, Value.str (Str.ofString "k") 369] }) ::
  (nat_lit 137, { cls := Value.type "tuple", data := Data.seq #[] }) ::
  (nat_lit 139, { cls := Value.type "code", data := Data.fields #[Value.str (Str.ofString "perms") 364, Value.str (Str.ofString "ClausePlan.perms") 365, Value.str (Str.ofString "/claim/cut.py") 366, Value.int 80 0, Value.int 1 0, Value.int 0 0, Value.int 0 0, Value.int 3 0, Value.ref 134, Value.bool true, Value.int 181 0, Value.ref 135, Value.none, Value.ref 136, Value.ref 137, Value.ref 138, Value.int 370 0, Value.int 80 0, Value.str (Str.ofString "/claim/cut.py") 371] }) ::
  (nat_lit 140, fnAt (st := (stm2 11 4)) rfl fun a b sc => { cls := Value.type "function", dict := none, data := .func { name := Str.ofString "perms", qualname := Str.ofString "ClausePlan.perms", params := a, body := .stmts b, scope := sc, globals := 3, closure := [], defaults := Value.none, kwdefaults := Value.none, doc := Value.none, pyModule := Value.str (Str.ofString "clausemill.classify") 276, annotations := none, code := Value.ref 139, closureTuple := Value.none, builtins := 0 }, slots := #[] }) ::
  (nat_lit 141, { cls := Value.type "tuple", data := Data.seq #[] }) ::
  (nat_lit 143, { cls := Value.type "tuple", data := Data.seq #[Value.str (Str.ofString "self") 376, Value.str (Str.ofString "goal") 377] }) ::
  (nat_lit 144, { cls := Value.type "tuple", data := Data.seq #[] }) ::
  (nat_lit 146, { cls := Value.type "code", data := Data.fields #[Value.str (Str.ofString "dying_at") 373, Value.str (Str.ofString "ClausePlan.dying_at") 374, Value.str (Str.ofString "/claim/cut.py") 375, Value.int 87 0, Value.int 2 0, Value.int 0 0, Value.int 0 0, Value.int 3 0, Value.ref 141, Value.bool true, Value.int 181 0, Value.ref 142, Value.none, Value.ref 143, Value.ref 144, Value.ref 145, Value.int 378 0, Value.int 87 0, Value.str (Str.ofString "/claim/cut.py") 379] }) ::
  (nat_lit 147, fnAt (st := (stm2 11 5)) rfl fun a b sc => { cls := Value.type "function", dict := none, data := .func { name := Str.ofString "dying_at", qualname := Str.ofString "ClausePlan.dying_at", params := a, body := .stmts b, scope := sc, globals := 3, closure := [], defaults := Value.none, kwdefaults := Value.none, doc := Value.none, pyModule := Value.str (Str.ofString "clausemill.classify") 276, annotations := none, code := Value.ref 146, closureTuple := Value.none, builtins := 0 }, slots := #[] }) ::
  (nat_lit 148, { cls := Value.type "tuple", data := Data.seq #[Value.str (Str.ofString "chunks") 381, Value.str (Str.ofString "env_size") 382, Value.str (Str.ofString "infos") 383, Value.str (Str.ofString "live_after") 384, Value.str (Str.ofString "needs_env") 385] }) ::
  (nat_lit 149, { cls := Value.type "dict", data := Data.dict #[{ hash := PyData.keyHash P (Str.ofString "__module__"), key := Value.str (Str.ofString "__module__") 323, val := Value.str (Str.ofString "clausemill.classify") 276 }, { hash := PyData.keyHash P (Str.ofString "__firstlineno__"), key := Value.str (Str.ofString "__firstlineno__") 327, val := Value.int 62 326 }, { hash := PyData.keyHash P (Str.ofString "__init__"), key := Value.str (Str.ofString "__init__") 339, val := Value.ref 112 }, { hash := PyData.keyHash P (Str.ofString "info"), key := Value.str (Str.ofString "info") 347, val := Value.ref 119 }, { hash := PyData.keyHash P (Str.ofString "is_perm"), key := Value.str (Str.ofString "is_perm") 355, val := Value.ref 126 }, { hash := PyData.keyHash P (Str.ofString "is_void"), key := Value.str (Str.ofString "is_void") 363, val := Value.ref 133 }, { hash := PyData.keyHash P (Str.ofString "perms"), key := Value.str (Str.ofString "perms") 372, val := Value.ref 140 }, { hash := PyData.keyHash P (Str.ofString "dying_at"), key := Value.str (Str.ofString "dying_at") 380, val := Value.ref 147 }, { hash := PyData.keyHash P (Str.ofString "__static_attributes__"), key := Value.str (Str.ofString "__static_attributes__") 386, val := Value.ref 148 }, { hash := PyData.keyHash P (Str.ofString "__dict__"), key := Value.str (Str.ofString "__dict__") 388, val := Value.ref 151 }, { hash := PyData.keyHash P (Str.ofString "__weakref__"), key := Value.str (Str.ofString "__weakref__") 390, val := Value.ref 152 }, { hash := PyData.keyHash P (Str.ofString "__doc__"), key := Value.str (Str.ofString "__doc__") 391, val := Value.none }] 4 }) ::
  (nat_lit 150, { cls := Value.type "type", data := Data.cls { name := Str.ofString "ClausePlan", bases := [Value.type "object"], mro := [Value.ref 150, Value.type "object"], ns := 149, qualname := Str.ofString "ClausePlan" }, slots := #[none, none, some (Value.str (Str.ofString "ClausePlan") 316), some (Value.str (Str.ofString "ClausePlan") 324), some (Value.builtin "object.__new__"), some (Value.bool true)] }) ::
  (nat_lit 151, { cls := Value.type "getset_descriptor", data := Data.fields #[Value.str (Str.ofString "__dict__") 387, Value.ref 150, Value.builtin "function.__dict__", Value.builtin "function.__dict__#set"] }) ::
  (nat_lit 152, { cls := Value.type "getset_descriptor", data := Data.fields #[Value.str (Str.ofString "__weakref__") 389, Value.ref 150, Value.builtin "ExceptionGroup.__weakref__", Value.none] }) ::
  (nat_lit 155, { cls := Value.type "tuple", data := Data.seq #[] }) ::
  (nat_lit 157, { cls := Value.type "tuple", data := Data.seq #[Value.str (Str.ofString "goals") 397, Value.str (Str.ofString "chunks") 398, Value.str (Str.ofString "chunk") 399, Value.str (Str.ofString "goal") 400] }) ::
  (nat_lit 158, { cls := Value.type "tuple", data := Data.seq #[] }) ::
  (nat_lit 160, { cls := Value.type "code", data := Data.fields #[Value.str (Str.ofString "chunk_numbers") 394, Value.str (Str.ofString "chunk_numbers") 395, Value.str (Str.ofString "/claim/cut.py") 396, Value.int 89 0, Value.int 1 0, Value.int 0 0, Value.int 0 0, Value.int 3 0, Value.ref 155, Value.bool true, Value.int 181 0, Value.ref 156, Value.none, Value.ref 157, Value.ref 158, Value.ref 159, Value.int 401 0, Value.int 89 0, Value.str (Str.ofString "/claim/cut.py") 402] }) ::
  (nat_lit 161, fnAt (st := (stm 12)) rfl fun a b sc => { cls := Value.type "function", dict := none, data := .func { name := Str.ofString "chunk_numbers", qualname := Str.ofString "chunk_numbers", params := a, body := .stmts b, scope := sc, globals := 3, closure := [], defaults := Value.none, kwdefaults := Value.none, doc := Value.none, pyModule := Value.str (Str.ofString "clausemill.classify") 276, annotations := none, code := Value.ref 160, closureTuple := Value.none, builtins := 0 }, slots := #[] }) ::
  (nat_lit 169, { cls := Value.type "tuple", data := Data.seq #[] }) ::
  (nat_lit 171, { cls := Value.type "tuple", data := Data.seq #[Value.str (Str.ofString "self") 419] }) ::
  (nat_lit 172, { cls := Value.type "tuple", data := Data.seq #[] }) ::
  (nat_lit 174, { cls := Value.type "code", data := Data.fields #[Value.str (Str.ofString "__init__") 416, Value.str (Str.ofString "Survey.__init__") 417, Value.str (Str.ofString "/claim/cut.py") 418, Value.int 99 0, Value.int 1 0, Value.int 0 0, Value.int 0 0, Value.int 3 0, Value.ref 169, Value.bool true, Value.int 181 0, Value.ref 170, Value.none, Value.ref 171, Value.ref 172, Value.ref 173, Value.int 420 0, Value.int 99 0, Value.str (Str.ofString "/claim/cut.py") 421] }) ::
  (nat_lit 175, fnAt (st := (stm2 13 0)) rfl fun a b sc => { cls := Value.type "function", dict := none, data := .func { name := Str.ofString "__init__", qualname := Str.ofString "Survey.__init__", params := a, body := .stmts b, scope := sc, globals := 3, closure := [], defaults := Value.none, kwdefaults := Value.none, doc := Value.none, pyModule := Value.str (Str.ofString "clausemill.classify") 276, annotations := none, code := Value.ref 174, closureTuple := Value.none, builtins := 0 }, slots := #[] }) ::
  (nat_lit 176, { cls := Value.type "tuple", data := Data.seq #[] }) ::
  (nat_lit 178, { cls := Value.type "tuple", data := Data.seq #[Value.str (Str.ofString "self") 426, Value.str (Str.ofString "k") 427, Value.str (Str.ofString "first") 428, Value.str (Str.ofString "goal") 429, Value.str (Str.ofString "chunk") 430, Value.str (Str.ofString "count") 431, Value.str (Str.ofString "info") 432] }) ::
  (nat_lit 179, { cls := Value.type "tuple", data := Data.seq #[] }) ::
  (nat_lit 181, { cls := Value.type "code", data := Data.fields #[Value.str (Str.ofString "meet") 423, Value.str (Str.ofString "Survey.meet") 424, Value.str (Str.ofString "/claim/cut.py") 425, Value.int 102 0, Value.int 6 0, Value.int 0 0, Value.int 0 0, Value.int 3 0, Value.ref 176, Value.bool true, Value.int 181 0, Value.ref 177, Value.none, Value.ref 178, Value.ref 179, Value.ref 180, Value.int 433 0, Value.int 102 0, Value.str (Str.ofString "/claim/cut.py") 434] }) ::
  (nat_lit 182, fnAt (st := (stm2 13 1)) rfl fun a b sc => { cls := Value.type "function", dict := none, data := .func { name := Str.ofString "meet", qualname := Str.ofString "Survey.meet", params := a, body := .stmts b, scope := sc, globals := 3, closure := [], defaults := Value.none, kwdefaults := Value.none, doc := Value.none, pyModule := Value.str (Str.ofString "clausemill.classify") 276, annotations := none, code := Value.ref 181, closureTuple := Value.none, builtins := 0 }, slots := #[] }) ::
  (nat_lit 183, { cls := Value.type "tuple", data := Data.seq #[] }) ::
  (nat_lit 185, { cls := Value.type "tuple", data := Data.seq #[Value.str (Str.ofString "self") 439, Value.str (Str.ofString "terms") 440, Value.str (Str.ofString "place") 441, Value.str (Str.ofString "goal") 442, Value.str (Str.ofString "chunk") 443, Value.str (Str.ofString "term") 444, Value.str (Str.ofString "counts") 445, Value.str (Str.ofString "k") 446] }) ::
  (nat_lit 186, { cls := Value.type "tuple", data := Data.seq #[] }) ::
  (nat_lit 188, { cls := Value.type "code", data := Data.fields #[Value.str (Str.ofString "terms") 436, Value.str (Str.ofString "Survey.terms") 437, Value.str (Str.ofString "/claim/cut.py") 438, Value.int 111 0, Value.int 5 0, Value.int 0 0, Value.int 0 0, Value.int 3 0, Value.ref 183, Value.bool true, Value.int 181 0, Value.ref 184, Value.none, Value.ref 185, Value.ref 186, Value.ref 187, Value.int 447 0, Value.int 111 0, Value.str (Str.ofString "/claim/cut.py") 448] }) ::
  (nat_lit 189, fnAt (st := (stm2 13 2)) rfl fun a b sc => { cls := Value.type "function", dict := none, data := .func { name := Str.ofString "terms", qualname := Str.ofString "Survey.terms", params := a, body := .stmts b, scope := sc, globals := 3, closure := [], defaults := Value.none, kwdefaults := Value.none, doc := Value.none, pyModule := Value.str (Str.ofString "clausemill.classify") 276, annotations := none, code := Value.ref 188, closureTuple := Value.none, builtins := 0 }, slots := #[] }) ::
  (nat_lit 190, { cls := Value.type "tuple", data := Data.seq #[Value.str (Str.ofString "infos") 450] }) ::
  (nat_lit 191, { cls := Value.type "dict", data := Data.dict #[{ hash := PyData.keyHash P (Str.ofString "__module__"), key := Value.str (Str.ofString "__module__") 411, val := Value.str (Str.ofString "clausemill.classify") 276 }, { hash := PyData.keyHash P (Str.ofString "__firstlineno__"), key := Value.str (Str.ofString "__firstlineno__") 415, val := Value.int 97 414 }, { hash := PyData.keyHash P (Str.ofString "__init__"), key := Value.str (Str.ofString "__init__") 422, val := Value.ref 175 }, { hash := PyData.keyHash P (Str.ofString "meet"), key := Value.str (Str.ofString "meet") 435, val := Value.ref 182 }, { hash := PyData.keyHash P (Str.ofString "terms"), key := Value.str (Str.ofString "terms") 449, val := Value.ref 189 }, { hash := PyData.keyHash P (Str.ofString "__static_attributes__"), key := Value.str (Str.ofString "__static_attributes__") 451, val := Value.ref 190 }, { hash := PyData.keyHash P (Str.ofString "__dict__"), key := Value.str (Str.ofString "__dict__") 453, val := Value.ref 193 }, { hash := PyData.keyHash P (Str.ofString "__weakref__"), key := Value.str (Str.ofString "__weakref__") 455, val := Value.ref 194 }, { hash := PyData.keyHash P (Str.ofString "__doc__"), key := Value.str (Str.ofString "__doc__") 456, val := Value.none }] 4 }) ::
  (nat_lit 192, { cls := Value.type "type", data := Data.cls { name := Str.ofString "Survey", bases := [Value.type "object"], mro := [Value.ref 192, Value.type "object"], ns := 191, qualname := Str.ofString "Survey" }, slots := #[none, none, some (Value.str (Str.ofString "Survey") 404), some (Value.str (Str.ofString "Survey") 412), some (Value.builtin "object.__new__"), some (Value.bool true)] }) ::
  (nat_lit 193, { cls := Value.type "getset_descriptor", data := Data.fields #[Value.str (Str.ofString "__dict__") 452, Value.ref 192, Value.builtin "function.__dict__", Value.builtin "function.__dict__#set"] }) ::
  (nat_lit 194, { cls := Value.type "getset_descriptor", data := Data.fields #[Value.str (Str.ofString "__weakref__") 454, Value.ref 192, Value.builtin "ExceptionGroup.__weakref__", Value.none] }) ::
  (nat_lit 197, { cls := Value.type "tuple", data := Data.seq #[] }) ::
  (nat_lit 199, { cls := Value.type "tuple", data := Data.seq #[Value.str (Str.ofString "info") 462] }) ::
  (nat_lit 200, { cls := Value.type "tuple", data := Data.seq #[] }) ::
  (nat_lit 202, { cls := Value.type "code", data := Data.fields #[Value.str (Str.ofString "kind_of") 459, Value.str (Str.ofString "kind_of") 460, Value.str (Str.ofString "/claim/cut.py") 461, Value.int 119 0, Value.int 1 0, Value.int 0 0, Value.int 0 0, Value.int 3 0, Value.ref 197, Value.bool true, Value.int 181 0, Value.ref 198, Value.none, Value.ref 199, Value.ref 200, Value.ref 201, Value.int 463 0, Value.int 119 0, Value.str (Str.ofString "/claim/cut.py") 464] }) ::
  (nat_lit 203, fnAt (st := (stm 14)) rfl fun a b sc => { cls := Value.type "function", dict := none, data := .func { name := Str.ofString "kind_of", qualname := Str.ofString "kind_of", params := a, body := .stmts b, scope := sc, globals := 3, closure := [], defaults := Value.none, kwdefaults := Value.none, doc := Value.none, pyModule := Value.str (Str.ofString "clausemill.classify") 276, annotations := none, code := Value.ref 202, closureTuple := Value.none, builtins := 0 }, slots := #[] }) ::
  (nat_lit 204, { cls := Value.type "tuple", data := Data.seq #[] }) ::
  (nat_lit 206, { cls := Value.type "tuple", data := Data.seq #[Value.str (Str.ofString "infos") 469, Value.str (Str.ofString "order") 470, Value.str (Str.ofString "k") 471, Value.str (Str.ofString "info") 472, Value.str (Str.ofString "at") 473] }) ::
  (nat_lit 207, { cls := Value.type "tuple", data := Data.seq #[] }) ::
  (nat_lit 209, { cls := Value.type "code", data := Data.fields #[Value.str (Str.ofString "slot_order") 466, Value.str (Str.ofString "slot_order") 467, Value.str (Str.ofString "/claim/cut.py") 468, Value.int 125 0, Value.int 1 0, Value.int 0 0, Value.int 0 0, Value.int 3 0, Value.ref 204, Value.bool true, Value.int 181 0, Value.ref 205, Value.none, Value.ref 206, Value.ref 207, Value.ref 208, Value.int 474 0, Value.int 125 0, Value.str (Str.ofString "/claim/cut.py") 475] }) ::
  (nat_lit 210, fnAt (st := (stm 15)) rfl fun a b sc => { cls := Value.type "function", dict := none, data := .func { name := Str.ofString "slot_order", qualname := Str.ofString "slot_order", params := a, body := .stmts b, scope := sc, globals := 3, closure := [], defaults := Value.none, kwdefaults := Value.none, doc := Value.none, pyModule := Value.str (Str.ofString "clausemill.classify") 276, annotations := none, code := Value.ref 209, closureTuple := Value.none, builtins := 0 }, slots := #[] }) ::
  (nat_lit 211, { cls := Value.type "tuple", data := Data.seq #[] }) ::
  (nat_lit 213, { cls := Value.type "tuple", data := Data.seq #[Value.str (Str.ofString "kernel") 480, Value.str (Str.ofString "goals") 481, Value.str (Str.ofString "chunks") 482, Value.str (Str.ofString "survey") 483, Value.str (Str.ofString "needs_env") 484, Value.str (Str.ofString "at") 485, Value.str (Str.ofString "goal") 486, Value.str (Str.ofString "special") 487, Value.str (Str.ofString "infos") 488, Value.str (Str.ofString "k") 489, Value.str (Str.ofString "order") 490, Value.str (Str.ofString "info") 491, Value.str (Str.ofString "live_after") 492, Value.str (Str.ofString "live") 493] }) ::
  (nat_lit 214, { cls := Value.type "tuple", data := Data.seq #[] }) ::
  (nat_lit 216, { cls := Value.type "code", data := Data.fields #[Value.str (Str.ofString "classify") 477, Value.str (Str.ofString "classify") 478, Value.str (Str.ofString "/claim/cut.py") 479, Value.int 135 0, Value.int 1 0, Value.int 0 0, Value.int 0 0, Value.int 3 0, Value.ref 211, Value.bool true, Value.int 181 0, Value.ref 212, Value.none, Value.ref 213, Value.ref 214, Value.ref 215, Value.int 494 0, Value.int 135 0, Value.str (Str.ofString "/claim/cut.py") 495] }) ::
  (nat_lit 217, fnAt (st := (stm 16)) rfl fun a b sc => { cls := Value.type "function", dict := none, data := .func { name := Str.ofString "classify", qualname := Str.ofString "classify", params := a, body := .stmts b, scope := sc, globals := 3, closure := [], defaults := Value.none, kwdefaults := Value.none, doc := Value.none, pyModule := Value.str (Str.ofString "clausemill.classify") 276, annotations := none, code := Value.ref 216, closureTuple := Value.none, builtins := 0 }, slots := #[] }) ::
  (nat_lit 218, { cls := Value.type "tuple", data := Data.seq #[] }) ::
  (nat_lit 220, { cls := Value.type "tuple", data := Data.seq #[Value.str (Str.ofString "script") 502, Value.str (Str.ofString "coins") 503, Value.str (Str.ofString "cell") 504, Value.str (Str.ofString "left") 505, Value.str (Str.ofString "lap") 506] }) ::
  (nat_lit 221, { cls := Value.type "tuple", data := Data.seq #[] }) ::
  (nat_lit 223, { cls := Value.type "code", data := Data.fields #[Value.str (Str.ofString "_law_coins") 499, Value.str (Str.ofString "_law_coins") 500, Value.str (Str.ofString "/claim/cut.py") 501, Value.int 165 0, Value.int 1 0, Value.int 0 0, Value.int 0 0, Value.int 3 0, Value.ref 218, Value.bool true, Value.int 181 0, Value.ref 219, Value.none, Value.ref 220, Value.ref 221, Value.ref 222, Value.int 507 0, Value.int 165 0, Value.str (Str.ofString "/claim/cut.py") 508] }) ::
  (nat_lit 224, fnAt (st := (stm 18)) rfl fun a b sc => { cls := Value.type "function", dict := none, data := .func { name := Str.ofString "_law_coins", qualname := Str.ofString "_law_coins", params := a, body := .stmts b, scope := sc, globals := 3, closure := [], defaults := Value.none, kwdefaults := Value.none, doc := Value.none, pyModule := Value.str (Str.ofString "law_sa0145_01") 497, annotations := none, code := Value.ref 223, closureTuple := Value.none, builtins := 0 }, slots := #[] }) ::
  (nat_lit 225, { cls := Value.type "tuple", data := Data.seq #[] }) ::
  (nat_lit 227, { cls := Value.type "tuple", data := Data.seq #[Value.str (Str.ofString "coins") 513, Value.str (Str.ofString "sides") 514] }) ::
  (nat_lit 228, { cls := Value.type "tuple", data := Data.seq #[] }) ::
  (nat_lit 230, { cls := Value.type "code", data := Data.fields #[Value.str (Str.ofString "_law_coin") 510, Value.str (Str.ofString "_law_coin") 511, Value.str (Str.ofString "/claim/cut.py") 512, Value.int 178 0, Value.int 2 0, Value.int 0 0, Value.int 0 0, Value.int 3 0, Value.ref 225, Value.bool true, Value.int 181 0, Value.ref 226, Value.none, Value.ref 227, Value.ref 228, Value.ref 229, Value.int 515 0, Value.int 178 0, Value.str (Str.ofString "/claim/cut.py") 516] }) ::
  (nat_lit 231, fnAt (st := (stm 19)) rfl fun a b sc => { cls := Value.type "function", dict := none, data := .func { name := Str.ofString "_law_coin", qualname := Str.ofString "_law_coin", params := a, body := .stmts b, scope := sc, globals := 3, closure := [], defaults := Value.none, kwdefaults := Value.none, doc := Value.none, pyModule := Value.str (Str.ofString "law_sa0145_01") 497, annotations := none, code := Value.ref 230, closureTuple := Value.none, builtins := 0 }, slots := #[] }) ::
  (nat_lit 232, { cls := Value.type "tuple", data := Data.seq #[] }) ::
  (nat_lit 234, { cls := Value.type "tuple", data := Data.seq #[Value.str (Str.ofString "coins") 521, Value.str (Str.ofString "way") 522, Value.str (Str.ofString "lone") 523] }) ::
  (nat_lit 235, { cls := Value.type "tuple", data := Data.seq #[] }) ::
  (nat_lit 237, { cls := Value.type "code", data := Data.fields #[Value.str (Str.ofString "_law_side") 518, Value.str (Str.ofString "_law_side") 519, Value.str (Str.ofString "/claim/cut.py") 520, Value.int 180 0, Value.int 1 0, Value.int 0 0, Value.int 0 0, Value.int 3 0, Value.ref 232, Value.bool true, Value.int 181 0, Value.ref 233, Value.none, Value.ref 234, Value.ref 235, Value.ref 236, Value.int 524 0, Value.int 180 0, Value.str (Str.ofString "/claim/cut.py") 525] }) ::
  (nat_lit 238, fnAt (st := (stm 20)) rfl fun a b sc => { cls := Value.type "function", dict := none, data := .func { name := Str.ofString "_law_side", qualname := Str.ofString "_law_side", params := a, body := .stmts b, scope := sc, globals := 3, closure := [], defaults := Value.none, kwdefaults := Value.none, doc := Value.none, pyModule := Value.str (Str.ofString "law_sa0145_01") 497, annotations := none, code := Value.ref 237, closureTuple := Value.none, builtins := 0 }, slots := #[] }) ::
  (nat_lit 239, { cls := Value.type "tuple", data := Data.seq #[] }) ::
  (nat_lit 242, { cls := Value.type "code", data := Data.fields #[Value.str (Str.ofString "_law_goal") 527, Value.str (Str.ofString "_law_goal") 528, Value.str (Str.ofString "/claim/cut.py") 529, Value.int 188 0, Value.int 1 0, Value.int 0 0, Value.int 0 0, Value.int 3 0, Value.ref 239, Value.bool true, Value.int 181 0, Value.ref 240, Value.none, Value.none, Value.none, Value.ref 241, Value.int 530 0, Value.int 188 0, Value.str (Str.ofString "/claim/cut.py") 531] }) ::
  (nat_lit 243, fnAt (st := (stm 21)) rfl fun a b sc => { cls := Value.type "function", dict := none, data := .func { name := Str.ofString "_law_goal", qualname := Str.ofString "_law_goal", params := a, body := .stmts b, scope := sc, globals := 3, closure := [], defaults := Value.none, kwdefaults := Value.none, doc := Value.none, pyModule := Value.str (Str.ofString "law_sa0145_01") 497, annotations := none, code := Value.ref 242, closureTuple := Value.none, builtins := 0 }, slots := #[] }) ::
  (nat_lit 244, { cls := Value.type "tuple", data := Data.seq #[] }) ::
  (nat_lit 246, { cls := Value.type "tuple", data := Data.seq #[Value.str (Str.ofString "goal") 536, Value.str (Str.ofString "found") 537, Value.str (Str.ofString "sides") 538, Value.str (Str.ofString "side") 539] }) ::
  (nat_lit 247, { cls := Value.type "tuple", data := Data.seq #[] }) ::
  (nat_lit 249, { cls := Value.type "code", data := Data.fields #[Value.str (Str.ofString "_law_found") 533, Value.str (Str.ofString "_law_found") 534, Value.str (Str.ofString "/claim/cut.py") 535, Value.int 196 0, Value.int 1 0, Value.int 0 0, Value.int 0 0, Value.int 3 0, Value.ref 244, Value.bool true, Value.int 181 0, Value.ref 245, Value.none, Value.ref 246, Value.ref 247, Value.ref 248, Value.int 540 0, Value.int 196 0, Value.str (Str.ofString "/claim/cut.py") 541] }) ::
  (nat_lit 250, fnAt (st := (stm 22)) rfl fun a b sc => { cls := Value.type "function", dict := none, data := .func { name := Str.ofString "_law_found", qualname := Str.ofString "_law_found", params := a, body := .stmts b, scope := sc, globals := 3, closure := [], defaults := Value.none, kwdefaults := Value.none, doc := Value.none, pyModule := Value.str (Str.ofString "law_sa0145_01") 497, annotations := none, code := Value.ref 249, closureTuple := Value.none, builtins := 0 }, slots := #[] }) ::
  (nat_lit 251, { cls := Value.type "tuple", data := Data.seq #[] }) ::
  (nat_lit 253, { cls := Value.type "tuple", data := Data.seq #[Value.str (Str.ofString "info") 546] }) ::
  (nat_lit 254, { cls := Value.type "tuple", data := Data.seq #[] }) ::
  (nat_lit 256, { cls := Value.type "code", data := Data.fields #[Value.str (Str.ofString "_law_kept") 543, Value.str (Str.ofString "_law_kept") 544, Value.str (Str.ofString "/claim/cut.py") 545, Value.int 210 0, Value.int 1 0, Value.int 0 0, Value.int 0 0, Value.int 3 0, Value.ref 251, Value.bool true, Value.int 181 0, Value.ref 252, Value.none, Value.ref 253, Value.ref 254, Value.ref 255, Value.int 547 0, Value.int 210 0, Value.str (Str.ofString "/claim/cut.py") 548] }) ::
  (nat_lit 257, fnAt (st := (stm 23)) rfl fun a b sc => { cls := Value.type "function", dict := none, data := .func { name := Str.ofString "_law_kept", qualname := Str.ofString "_law_kept", params := a, body := .stmts b, scope := sc, globals := 3, closure := [], defaults := Value.none, kwdefaults := Value.none, doc := Value.none, pyModule := Value.str (Str.ofString "law_sa0145_01") 497, annotations := none, code := Value.ref 256, closureTuple := Value.none, builtins := 0 }, slots := #[] }) ::
  (nat_lit 258, { cls := Value.type "tuple", data := Data.seq #[] }) ::
  (nat_lit 261, { cls := Value.type "code", data := Data.fields #[Value.str (Str.ofString "_law_grown") 550, Value.str (Str.ofString "_law_grown") 551, Value.str (Str.ofString "/claim/cut.py") 552, Value.int 212 0, Value.int 5 0, Value.int 0 0, Value.int 0 0, Value.int 3 0, Value.ref 258, Value.bool true, Value.int 181 0, Value.ref 259, Value.none, Value.none, Value.none, Value.ref 260, Value.int 553 0, Value.int 212 0, Value.str (Str.ofString "/claim/cut.py") 554] }) ::
  (nat_lit 262, fnAt (st := (stm 24)) rfl fun a b sc => { cls := Value.type "function", dict := none, data := .func { name := Str.ofString "_law_grown", qualname := Str.ofString "_law_grown", params := a, body := .stmts b, scope := sc, globals := 3, closure := [], defaults := Value.none, kwdefaults := Value.none, doc := Value.none, pyModule := Value.str (Str.ofString "law_sa0145_01") 497, annotations := none, code := Value.ref 261, closureTuple := Value.none, builtins := 0 }, slots := #[] }) ::
  (nat_lit 263, { cls := Value.type "tuple", data := Data.seq #[] }) ::
  (nat_lit 266, { cls := Value.type "code", data := Data.fields #[Value.str (Str.ofString "law") 556, Value.str (Str.ofString "law") 557, Value.str (Str.ofString "/claim/cut.py") 558, Value.int 222 0, Value.int 1 0, Value.int 0 0, Value.int 0 0, Value.int 3 0, Value.ref 263, Value.bool true, Value.int 181 0, Value.ref 264, Value.none, Value.none, Value.none, Value.ref 265, Value.int 559 0, Value.int 222 0, Value.str (Str.ofString "/claim/cut.py") 560] }) ::
  (nat_lit 267, fnAt (st := (stm 25)) rfl fun a b sc => { cls := Value.type "function", dict := none, data := .func { name := Str.ofString "law", qualname := Str.ofString "law", params := a, body := .stmts b, scope := sc, globals := 3, closure := [], defaults := Value.none, kwdefaults := Value.none, doc := Value.none, pyModule := Value.str (Str.ofString "law_sa0145_01") 497, annotations := none, code := Value.ref 266, closureTuple := Value.none, builtins := 0 }, slots := #[] }) :: []
def as0 : List Nat := [2, 3, 15, 17, 18, 20, 21, 22, 24, 25, 27, 28, 29, 31, 32, 34, 35, 36, 38, 39, 41, 42, 50, 52, 53, 55, 56, 57, 58, 59, 60, 61, 64, 66, 67, 69, 70, 71, 73, 74, 76, 77, 85, 87, 88, 90, 91, 92, 93, 94, 95, 96, 106, 108, 109, 111, 112, 113, 115, 116, 118, 119, 120, 122, 123, 125, 126, 127, 129, 130, 132, 133, 134, 136, 137, 139, 140, 141, 143, 144, 146, 147, 148, 149, 150, 151, 152, 155, 157, 158, 160, 161, 169, 171, 172, 174, 175, 176, 178, 179, 181, 182, 183, 185, 186, 188, 189, 190, 191, 192, 193, 194, 197, 199, 200, 202, 203, 204, 206, 207, 209, 210, 211, 213, 214, 216, 217, 218, 220, 221, 223, 224, 225, 227, 228, 230, 231, 232, 234, 235, 237, 238, 239, 242, 243, 244, 246, 247, 249, 250, 251, 253, 254, 256, 257, 258, 261, 262, 263, 266, 267]
theorem as0_ok (P : Params) : as0 = (K0 P).map (·.1) := by kernel_rfl
def view0 : Program := view pr [0, 2, 3, 4, 6, 7, 8, 10, 11, 12, 13, 14, 15, 16, 18, 19, 20, 21, 22, 23, 24, 25]
theorem left_boot {p q : Program} {loose : List Str} {Xt : Shared → Bool} {α : Type} {Yf : Shared → α} {Ya : World → α} {N : Nat} {H₀ : Params → Heap} {gs₀ : Array GenState} {d₀ : Drawn} {k₀ : Nat}
    (open_ : ∀ w : World, (fencedOpening treeTable p w N).map (fun s => (s.heap, s.gens, s.drawn, s.toks)) = some (H₀ w.params, gs₀, d₀, k₀))
    (h : ∀ (w : World), (fun os => (topFrom treeTable p w N ⟨H₀ w.params, gs₀, d₀, k₀, os⟩).map (fun s => (openSeen q loose (importedModules p.main.body) Xt true s, Yf s))) = fun _ => some (openGood q loose, Ya w)) : LeftO p q loose Xt Yf Ya N := fun w => by
  (try (show (let GZ : Prop := _; GZ); intro GZ))
  obtain ⟨⟨h0, gs, d, k, os⟩, e, e'⟩ := Option.map_eq_some_iff.mp (open_ w)
  (try k_unfold)
  obtain ⟨rfl, rfl, rfl, rfl⟩ : h0 = H₀ w.params ∧ gs = gs₀ ∧ d = d₀ ∧ k = k₀ := by simpa using e'
  unfold openEnds
  rw [e]
  exact congrFun (h w) os
abbrev row0 : OpenRow := PySem.Challenge.rw_sa0145_01.row
abbrev Xt0 : Shared → Bool := fun s => xlAt view0 [] s && recOk (RowW.records (OpenRow.toRowW row0)) s
noncomputable abbrev hook0 : Hook := kHook K0 as0 as0_ok
theorem opened : ∀ w : World, (fencedOpening treeTable pr w 3592).map (fun s => (s.heap, s.gens, s.drawn, s.toks)) = some (boot_heap w.params, Array.mk [], boot_drawn, boot_toks) :=
  boot_open (p := pr) (by kernel_rfl) (by decide) (fun _ => by kernel_rfl)
theorem ran : ∀ (w : World), (fun os => (topFrom treeTable pr w 3592 ⟨boot_heap w.params, Array.mk [], boot_drawn, boot_toks, os⟩).map (fun s => (openSeen view0 [] (importedModules pr.main.body) Xt0 true s, Hook.obs hook0 s))) = fun _ => some (openGood view0 [], Hook.val hook0 w) := by
  intro w
  delta topFrom
  rw [Fast.te14082659384304107361, Fast.te4187177175401517315]
  kernel_rfl
theorem left0 : LeftO row0.prog view0 [] Xt0 (Hook.obs hook0) (Hook.val hook0) 3592 := left_boot opened ran
theorem said0 : PySem.Challenge.rw_sa0145_01.wellSaid = true := by
  rw [Fast.te9446332074065402090]
  kernel_rfl
theorem hd {d : DefRec} {kwd : List (Str × PySem.Expr)} (hdef : defOf view0 row0.name = some (d, kwd)) (hp : row0.prog.theDef row0.name = some (d.params, d.body, d.scope)) (hk : kwWritten? d.params.kwonlyargs d.params.kw_defaults = some kwd)
    (h : WalkO view0 [] (XL view0 []) (Hook.says (kHook K0 as0 as0_ok)) row0.toRowW d kwd fun f vs => PySem.call f vs) : PySem.Challenge.rw_sa0145_01.Holds := by
  refine holds_law said0 fun said => ?_
  refine holds_open (q := view0) (loose := []) (Xt := Xt0) (XP := XL view0 []) (Yf := Hook.obs hook0) (Ya := Hook.val hook0) (YP := Hook.says hook0) (N := 3592) left0 (Hook.of hook0) (Hook.keeps hook0) (fun s e => xl_of s (Bool.and_eq_true_iff.mp e).1) XL.keeps hdef hp hk (fun s e => recFacts_of (Bool.and_eq_true_iff.mp e).2) (by rfl) said (by decide +kernel) ⟨rfl, rfl, rfl, rfl, rfl, by decide +kernel⟩ ?hw h
  case hw => w_witness2

end PHo
section PBs
abbrev Led := List (Addr × Obj)
def Above (new led : Led) : Prop := ∀ p ∈ new, ∀ q ∈ led, q.1 < p.1

/-- what a def of the text does, for every caller -/
def Ctr (w : World) (loose : List Str) (mean : ExcName → Option Value) (mg mb : Str → Option Value) (f : Addr) (D : Nat) (args : List Value) (led : Led) (Post : Value → Led → Prop) : Prop :=
  ∀ (dp un : Nat) (gd : Option (List Code)) (cn : Str) (cs : Scope) (a : Addr) (ccd : Value) (cl : List (Str × Addr)) (outer : List Env) (A₀ : Around) (base h₀ : Heap) (L : Addr) (m : Str → Option Value) (s : Shared)
    (Q E : Value → Shared → Prop),
    Below A₀ base outer h₀ → Fr h₀ L s.heap m → (K0 w.params).In h₀ → News h₀ L s.heap led → Top view0 loose mean mg mb h₀ → cs.kind = .function → dp + 8 * D < recursionLimit → un + 40 * D + 200 < cLine →
    (∀ r led' h' tk', Fr h₀ L h' m → News h₀ L h' led' → Post r led' → Q r { s with heap := h', toks := tk' }) →
    wpAny (model PySem.Challenge.rw_sa0145_01.row.prog w) (ktrTop dp un gd cn cs L a ccd cl outer) (call (.ref f) args) Q E s

/-- one more name in a frame -/
def setM (x : Str) (v : Value) (m : Str → Option Value) : Str → Option Value := fun y => if y = x then some v else m y
theorem storeM {M : Model} {A : Around} {E : Value → Shared → Prop} {s : Shared} {h₀ : Heap} {L a : Addr} {m : Str → Option Value} {cn x : Str} {cs : Scope} {ccd v : Value} {cl : List (Str × Addr)} {news : Led} {Q : Unit → Shared → Prop}
    (F : Fr h₀ L s.heap m) (N : News h₀ L s.heap news) (h : ∀ h', Fr h₀ L h' (setM x v m) → News h₀ L h' news → Q () { s with heap := h', toks := s.toks + 1 })
    (hk : cs.kind = .function := by rfl) (hx : (envX cn cs L a ccd cl).kindOf x = some .local := by rfl) : wpAny M A (storeName (envX cn cs L a ccd cl) x v) Q E s := storeX_L F N h hk hx

/-! flat conjunctions: cheaper to build and to take apart than nested ones -/
inductive And4 (a b c d : Prop) : Prop
  | mk (ha : a) (hb : b) (hc : c) (hd : d) : And4 a b c d
inductive And5 (a b c d e : Prop) : Prop
  | mk (ha : a) (hb : b) (hc : c) (hd : d) (he : e) : And5 a b c d e
inductive And6 (a b c d e f : Prop) : Prop
  | mk (ha : a) (hb : b) (hc : c) (hd : d) (he : e) (hf : f) : And6 a b c d e f
inductive And7 (a b c d e f g : Prop) : Prop
  | mk (ha : a) (hb : b) (hc : c) (hd : d) (he : e) (hf : f) (hg : g) : And7 a b c d e f g
inductive And8 (a b c d e f g h : Prop) : Prop
  | mk (ha : a) (hb : b) (hc : c) (hd : d) (he : e) (hf : f) (hg : g) (hh : h) : And8 a b c d e f g h
inductive And10 (a b c d e f g h i j : Prop) : Prop
  | mk (ha : a) (hb : b) (hc : c) (hd : d) (he : e) (hf : f) (hg : g) (hh : h) (hi : i) (hj : j) : And10 a b c d e f g h i j

end PBs
section PBt
section
variable {h₀ h : Heap} {L : Addr} {l l' : Led}
theorem news_sub (N : News h₀ L h l) (hs : ∀ p ∈ l', p ∈ l) : News h₀ L h l' := fun p hp => N p (hs p hp)
theorem pull_ {n r : Led} {q : Addr × Obj} (N : News h₀ L h (n ++ q :: r)) : News h₀ L h (q :: (n ++ r)) := fun p hp => N p (by
  rcases List.mem_cons.mp hp with rfl | hp
  · exact List.mem_append.mpr (.inr (.head _))
  · exact (List.mem_append.mp hp).elim (fun h => List.mem_append.mpr (.inl h)) fun h => List.mem_append.mpr (.inr (.tail _ h)))
theorem pull1 {e1 q : Addr × Obj} {r : Led} (N : News h₀ L h (e1 :: q :: r)) : News h₀ L h (q :: ([e1] ++ r)) := pull_ (n := [e1]) N
theorem pull2 {e1 e2 q : Addr × Obj} {r : Led} (N : News h₀ L h (e1 :: e2 :: q :: r)) : News h₀ L h (q :: ([e1, e2] ++ r)) := pull_ (n := [e1, e2]) N
theorem pull3 {e1 e2 e3 q : Addr × Obj} {r : Led} (N : News h₀ L h (e1 :: e2 :: e3 :: q :: r)) : News h₀ L h (q :: ([e1, e2, e3] ++ r)) := pull_ (n := [e1, e2, e3]) N
theorem pull4 {e1 e2 e3 e4 q : Addr × Obj} {r : Led} (N : News h₀ L h (e1 :: e2 :: e3 :: e4 :: q :: r)) : News h₀ L h (q :: ([e1, e2, e3, e4] ++ r)) := pull_ (n := [e1, e2, e3, e4]) N
theorem pull5 {e1 e2 e3 e4 e5 q : Addr × Obj} {r : Led} (N : News h₀ L h (e1 :: e2 :: e3 :: e4 :: e5 :: q :: r)) : News h₀ L h (q :: ([e1, e2, e3, e4, e5] ++ r)) := pull_ (n := [e1, e2, e3, e4, e5]) N
theorem pull6 {e1 e2 e3 e4 e5 e6 q : Addr × Obj} {r : Led} (N : News h₀ L h (e1 :: e2 :: e3 :: e4 :: e5 :: e6 :: q :: r)) : News h₀ L h (q :: ([e1, e2, e3, e4, e5, e6] ++ r)) := pull_ (n := [e1, e2, e3, e4, e5, e6]) N
theorem pull7 {e1 e2 e3 e4 e5 e6 e7 q : Addr × Obj} {r : Led} (N : News h₀ L h (e1 :: e2 :: e3 :: e4 :: e5 :: e6 :: e7 :: q :: r)) : News h₀ L h (q :: ([e1, e2, e3, e4, e5, e6, e7] ++ r)) := pull_ (n := [e1, e2, e3, e4, e5, e6, e7]) N
theorem pull8 {e1 e2 e3 e4 e5 e6 e7 e8 q : Addr × Obj} {r : Led} (N : News h₀ L h (e1 :: e2 :: e3 :: e4 :: e5 :: e6 :: e7 :: e8 :: q :: r)) : News h₀ L h (q :: ([e1, e2, e3, e4, e5, e6, e7, e8] ++ r)) := pull_ (n := [e1, e2, e3, e4, e5, e6, e7, e8]) N
theorem pull9 {e1 e2 e3 e4 e5 e6 e7 e8 e9 q : Addr × Obj} {r : Led} (N : News h₀ L h (e1 :: e2 :: e3 :: e4 :: e5 :: e6 :: e7 :: e8 :: e9 :: q :: r)) : News h₀ L h (q :: ([e1, e2, e3, e4, e5, e6, e7, e8, e9] ++ r)) := pull_ (n := [e1, e2, e3, e4, e5, e6, e7, e8, e9]) N
theorem pull5_2 {e1 e2 e3 e4 e5 e6 e7 q : Addr × Obj} {r : Led} (N : News h₀ L h (e1 :: e2 :: e3 :: e4 :: e5 :: q :: e6 :: e7 :: r)) : News h₀ L h (q :: ([e1, e2, e3, e4, e5, e6, e7] ++ r)) := pull_ (n := [e1, e2, e3, e4, e5]) N
end
theorem pd1 {e1 q x : Addr × Obj} {r : Led} (N : News h₀ L h (e1 :: q :: x :: r)) : News h₀ L h (q :: ([e1] ++ r)) := pull_ (n := [e1]) fun p hp => N p (by
  rcases List.mem_append.mp hp with hp | hp
  · exact List.mem_append_left (bs := q :: x :: r) hp
  · refine List.mem_append_right [e1] ?_
    rcases List.mem_cons.mp hp with rfl | hp
    · exact .head _
    · exact .tail _ (.tail _ hp))
theorem pd2 {e1 e2 q x : Addr × Obj} {r : Led} (N : News h₀ L h (e1 :: e2 :: q :: x :: r)) : News h₀ L h (q :: ([e1, e2] ++ r)) := pull_ (n := [e1, e2]) fun p hp => N p (by
  rcases List.mem_append.mp hp with hp | hp
  · exact List.mem_append_left (bs := q :: x :: r) hp
  · refine List.mem_append_right [e1, e2] ?_
    rcases List.mem_cons.mp hp with rfl | hp
    · exact .head _
    · exact .tail _ (.tail _ hp))
theorem pd3 {e1 e2 e3 q x : Addr × Obj} {r : Led} (N : News h₀ L h (e1 :: e2 :: e3 :: q :: x :: r)) : News h₀ L h (q :: ([e1, e2, e3] ++ r)) := pull_ (n := [e1, e2, e3]) fun p hp => N p (by
  rcases List.mem_append.mp hp with hp | hp
  · exact List.mem_append_left (bs := q :: x :: r) hp
  · refine List.mem_append_right [e1, e2, e3] ?_
    rcases List.mem_cons.mp hp with rfl | hp
    · exact .head _
    · exact .tail _ (.tail _ hp))
theorem pd4 {e1 e2 e3 e4 q x : Addr × Obj} {r : Led} (N : News h₀ L h (e1 :: e2 :: e3 :: e4 :: q :: x :: r)) : News h₀ L h (q :: ([e1, e2, e3, e4] ++ r)) := pull_ (n := [e1, e2, e3, e4]) fun p hp => N p (by
  rcases List.mem_append.mp hp with hp | hp
  · exact List.mem_append_left (bs := q :: x :: r) hp
  · refine List.mem_append_right [e1, e2, e3, e4] ?_
    rcases List.mem_cons.mp hp with rfl | hp
    · exact .head _
    · exact .tail _ (.tail _ hp))
theorem pd5 {e1 e2 e3 e4 e5 q x : Addr × Obj} {r : Led} (N : News h₀ L h (e1 :: e2 :: e3 :: e4 :: e5 :: q :: x :: r)) : News h₀ L h (q :: ([e1, e2, e3, e4, e5] ++ r)) := pull_ (n := [e1, e2, e3, e4, e5]) fun p hp => N p (by
  rcases List.mem_append.mp hp with hp | hp
  · exact List.mem_append_left (bs := q :: x :: r) hp
  · refine List.mem_append_right [e1, e2, e3, e4, e5] ?_
    rcases List.mem_cons.mp hp with rfl | hp
    · exact .head _
    · exact .tail _ (.tail _ hp))
theorem pd6 {e1 e2 e3 e4 e5 e6 q x : Addr × Obj} {r : Led} (N : News h₀ L h (e1 :: e2 :: e3 :: e4 :: e5 :: e6 :: q :: x :: r)) : News h₀ L h (q :: ([e1, e2, e3, e4, e5, e6] ++ r)) := pull_ (n := [e1, e2, e3, e4, e5, e6]) fun p hp => N p (by
  rcases List.mem_append.mp hp with hp | hp
  · exact List.mem_append_left (bs := q :: x :: r) hp
  · refine List.mem_append_right [e1, e2, e3, e4, e5, e6] ?_
    rcases List.mem_cons.mp hp with rfl | hp
    · exact .head _
    · exact .tail _ (.tail _ hp))
theorem pd7 {e1 e2 e3 e4 e5 e6 e7 q x : Addr × Obj} {r : Led} (N : News h₀ L h (e1 :: e2 :: e3 :: e4 :: e5 :: e6 :: e7 :: q :: x :: r)) : News h₀ L h (q :: ([e1, e2, e3, e4, e5, e6, e7] ++ r)) := pull_ (n := [e1, e2, e3, e4, e5, e6, e7]) fun p hp => N p (by
  rcases List.mem_append.mp hp with hp | hp
  · exact List.mem_append_left (bs := q :: x :: r) hp
  · refine List.mem_append_right [e1, e2, e3, e4, e5, e6, e7] ?_
    rcases List.mem_cons.mp hp with rfl | hp
    · exact .head _
    · exact .tail _ (.tail _ hp))
theorem pk1_0 {e1 q : Addr × Obj} {new r : Led} (N : News h₀ L h (e1 :: q :: (new ++ (r)))) : News h₀ L h (q :: (([e1] ++ new) ++ r)) := fun p hp => N p (by
  rw [List.append_assoc] at hp
  rcases List.mem_cons.mp hp with rfl | hp
  · exact List.mem_append_right [e1] (.head _)
  rcases List.mem_append.mp hp with hp | hp
  · exact List.mem_append_left _ hp
  refine List.mem_append_right [e1] (.tail _ ?_)
  rcases List.mem_append.mp hp with hp | hp
  · exact List.mem_append_left _ hp
  · exact List.mem_append_right _ (hp))
theorem pk1_1 {e1 x1 q : Addr × Obj} {new r : Led} (N : News h₀ L h (e1 :: q :: (new ++ (x1 :: r)))) : News h₀ L h (q :: (([e1] ++ new) ++ r)) := fun p hp => N p (by
  rw [List.append_assoc] at hp
  rcases List.mem_cons.mp hp with rfl | hp
  · exact List.mem_append_right [e1] (.head _)
  rcases List.mem_append.mp hp with hp | hp
  · exact List.mem_append_left _ hp
  refine List.mem_append_right [e1] (.tail _ ?_)
  rcases List.mem_append.mp hp with hp | hp
  · exact List.mem_append_left _ hp
  · exact List.mem_append_right _ (.tail _ (hp)))
theorem pk1_2 {e1 x1 x2 q : Addr × Obj} {new r : Led} (N : News h₀ L h (e1 :: q :: (new ++ (x1 :: x2 :: r)))) : News h₀ L h (q :: (([e1] ++ new) ++ r)) := fun p hp => N p (by
  rw [List.append_assoc] at hp
  rcases List.mem_cons.mp hp with rfl | hp
  · exact List.mem_append_right [e1] (.head _)
  rcases List.mem_append.mp hp with hp | hp
  · exact List.mem_append_left _ hp
  refine List.mem_append_right [e1] (.tail _ ?_)
  rcases List.mem_append.mp hp with hp | hp
  · exact List.mem_append_left _ hp
  · exact List.mem_append_right _ (.tail _ (.tail _ (hp))))
theorem pk2_0 {e1 e2 q : Addr × Obj} {new r : Led} (N : News h₀ L h (e1 :: e2 :: q :: (new ++ (r)))) : News h₀ L h (q :: (([e1, e2] ++ new) ++ r)) := fun p hp => N p (by
  rw [List.append_assoc] at hp
  rcases List.mem_cons.mp hp with rfl | hp
  · exact List.mem_append_right [e1, e2] (.head _)
  rcases List.mem_append.mp hp with hp | hp
  · exact List.mem_append_left _ hp
  refine List.mem_append_right [e1, e2] (.tail _ ?_)
  rcases List.mem_append.mp hp with hp | hp
  · exact List.mem_append_left _ hp
  · exact List.mem_append_right _ (hp))
theorem pk2_1 {e1 e2 x1 q : Addr × Obj} {new r : Led} (N : News h₀ L h (e1 :: e2 :: q :: (new ++ (x1 :: r)))) : News h₀ L h (q :: (([e1, e2] ++ new) ++ r)) := fun p hp => N p (by
  rw [List.append_assoc] at hp
  rcases List.mem_cons.mp hp with rfl | hp
  · exact List.mem_append_right [e1, e2] (.head _)
  rcases List.mem_append.mp hp with hp | hp
  · exact List.mem_append_left _ hp
  refine List.mem_append_right [e1, e2] (.tail _ ?_)
  rcases List.mem_append.mp hp with hp | hp
  · exact List.mem_append_left _ hp
  · exact List.mem_append_right _ (.tail _ (hp)))
theorem pk2_2 {e1 e2 x1 x2 q : Addr × Obj} {new r : Led} (N : News h₀ L h (e1 :: e2 :: q :: (new ++ (x1 :: x2 :: r)))) : News h₀ L h (q :: (([e1, e2] ++ new) ++ r)) := fun p hp => N p (by
  rw [List.append_assoc] at hp
  rcases List.mem_cons.mp hp with rfl | hp
  · exact List.mem_append_right [e1, e2] (.head _)
  rcases List.mem_append.mp hp with hp | hp
  · exact List.mem_append_left _ hp
  refine List.mem_append_right [e1, e2] (.tail _ ?_)
  rcases List.mem_append.mp hp with hp | hp
  · exact List.mem_append_left _ hp
  · exact List.mem_append_right _ (.tail _ (.tail _ (hp))))
theorem pk3_0 {e1 e2 e3 q : Addr × Obj} {new r : Led} (N : News h₀ L h (e1 :: e2 :: e3 :: q :: (new ++ (r)))) : News h₀ L h (q :: (([e1, e2, e3] ++ new) ++ r)) := fun p hp => N p (by
  rw [List.append_assoc] at hp
  rcases List.mem_cons.mp hp with rfl | hp
  · exact List.mem_append_right [e1, e2, e3] (.head _)
  rcases List.mem_append.mp hp with hp | hp
  · exact List.mem_append_left _ hp
  refine List.mem_append_right [e1, e2, e3] (.tail _ ?_)
  rcases List.mem_append.mp hp with hp | hp
  · exact List.mem_append_left _ hp
  · exact List.mem_append_right _ (hp))
theorem pk3_1 {e1 e2 e3 x1 q : Addr × Obj} {new r : Led} (N : News h₀ L h (e1 :: e2 :: e3 :: q :: (new ++ (x1 :: r)))) : News h₀ L h (q :: (([e1, e2, e3] ++ new) ++ r)) := fun p hp => N p (by
  rw [List.append_assoc] at hp
  rcases List.mem_cons.mp hp with rfl | hp
  · exact List.mem_append_right [e1, e2, e3] (.head _)
  rcases List.mem_append.mp hp with hp | hp
  · exact List.mem_append_left _ hp
  refine List.mem_append_right [e1, e2, e3] (.tail _ ?_)
  rcases List.mem_append.mp hp with hp | hp
  · exact List.mem_append_left _ hp
  · exact List.mem_append_right _ (.tail _ (hp)))
theorem pk3_2 {e1 e2 e3 x1 x2 q : Addr × Obj} {new r : Led} (N : News h₀ L h (e1 :: e2 :: e3 :: q :: (new ++ (x1 :: x2 :: r)))) : News h₀ L h (q :: (([e1, e2, e3] ++ new) ++ r)) := fun p hp => N p (by
  rw [List.append_assoc] at hp
  rcases List.mem_cons.mp hp with rfl | hp
  · exact List.mem_append_right [e1, e2, e3] (.head _)
  rcases List.mem_append.mp hp with hp | hp
  · exact List.mem_append_left _ hp
  refine List.mem_append_right [e1, e2, e3] (.tail _ ?_)
  rcases List.mem_append.mp hp with hp | hp
  · exact List.mem_append_left _ hp
  · exact List.mem_append_right _ (.tail _ (.tail _ (hp))))
theorem pk4_0 {e1 e2 e3 e4 q : Addr × Obj} {new r : Led} (N : News h₀ L h (e1 :: e2 :: e3 :: e4 :: q :: (new ++ (r)))) : News h₀ L h (q :: (([e1, e2, e3, e4] ++ new) ++ r)) := fun p hp => N p (by
  rw [List.append_assoc] at hp
  rcases List.mem_cons.mp hp with rfl | hp
  · exact List.mem_append_right [e1, e2, e3, e4] (.head _)
  rcases List.mem_append.mp hp with hp | hp
  · exact List.mem_append_left _ hp
  refine List.mem_append_right [e1, e2, e3, e4] (.tail _ ?_)
  rcases List.mem_append.mp hp with hp | hp
  · exact List.mem_append_left _ hp
  · exact List.mem_append_right _ (hp))
theorem pk4_1 {e1 e2 e3 e4 x1 q : Addr × Obj} {new r : Led} (N : News h₀ L h (e1 :: e2 :: e3 :: e4 :: q :: (new ++ (x1 :: r)))) : News h₀ L h (q :: (([e1, e2, e3, e4] ++ new) ++ r)) := fun p hp => N p (by
  rw [List.append_assoc] at hp
  rcases List.mem_cons.mp hp with rfl | hp
  · exact List.mem_append_right [e1, e2, e3, e4] (.head _)
  rcases List.mem_append.mp hp with hp | hp
  · exact List.mem_append_left _ hp
  refine List.mem_append_right [e1, e2, e3, e4] (.tail _ ?_)
  rcases List.mem_append.mp hp with hp | hp
  · exact List.mem_append_left _ hp
  · exact List.mem_append_right _ (.tail _ (hp)))
theorem pk4_2 {e1 e2 e3 e4 x1 x2 q : Addr × Obj} {new r : Led} (N : News h₀ L h (e1 :: e2 :: e3 :: e4 :: q :: (new ++ (x1 :: x2 :: r)))) : News h₀ L h (q :: (([e1, e2, e3, e4] ++ new) ++ r)) := fun p hp => N p (by
  rw [List.append_assoc] at hp
  rcases List.mem_cons.mp hp with rfl | hp
  · exact List.mem_append_right [e1, e2, e3, e4] (.head _)
  rcases List.mem_append.mp hp with hp | hp
  · exact List.mem_append_left _ hp
  refine List.mem_append_right [e1, e2, e3, e4] (.tail _ ?_)
  rcases List.mem_append.mp hp with hp | hp
  · exact List.mem_append_left _ hp
  · exact List.mem_append_right _ (.tail _ (.tail _ (hp))))
theorem no_raise {A : Around} {E : Value → Shared → Prop} {s : Shared} {α : Type} {M : Model} {t : Sem α} {Q : α → Shared → Prop} (h : wpAny M A t Q (fun _ _ => False) s) : wpAny M A t Q E s := wpAny_mono h (fun _ _ h => h) fun _ _ h => h.elim
theorem ite_split {c : Prop} [Decidable c] {p q : Prop} (h1 : c → p) (h2 : ¬c → q) : if c then p else q := by
  split
  · exact h1 ‹_›
  · exact h2 ‹_›
section
variable {α : Type} {a b : α} {X Y A B C D : List α}
theorem sb_nil : ∀ p ∈ ([] : List α), p ∈ Y := fun _ h => nomatch h
theorem sb_refl : ∀ p ∈ X, p ∈ X := fun _ h => h
theorem sb_cons (h : a ∈ Y) (k : ∀ p ∈ X, p ∈ Y) : ∀ p ∈ a :: X, p ∈ Y := fun p hp => by
  rcases List.mem_cons.mp hp with rfl | hp
  · exact h
  · exact k p hp
theorem sb_app (h : ∀ p ∈ A, p ∈ Y) (k : ∀ p ∈ B, p ∈ Y) : ∀ p ∈ A ++ B, p ∈ Y := fun p hp => (List.mem_append.mp hp).elim (h p) (k p)
theorem sb_tail (h : ∀ p ∈ A, p ∈ Y) : ∀ p ∈ A, p ∈ b :: Y := fun p hp => .tail _ (h p hp)
theorem sb_left (h : ∀ p ∈ A, p ∈ C) : ∀ p ∈ A, p ∈ C ++ D := fun p hp => List.mem_append_left _ (h p hp)
theorem sb_right (h : ∀ p ∈ A, p ∈ D) : ∀ p ∈ A, p ∈ C ++ D := fun p hp => List.mem_append_right _ (h p hp)
theorem in_head : a ∈ a :: Y := .head _
theorem in_tail (h : a ∈ Y) : a ∈ b :: Y := .tail _ h
end
theorem mem_is {a : Addr × Obj} {l : Led} (h : a ∈ l) : List.Mem a l := h
/-- a goal that the walk is to leave alone -/
def Hold (P : Prop) : Prop := P
theorem hold_of {P : Prop} (h : Hold P) : P := h
theorem to_hold {P : Prop} (h : P) : Hold P := h

theorem dcs_all : (∀ (p : Prop) [Decidable p], (decide p = true) = p) ∧ (∀ (α : Type) [BEq α] [LawfulBEq α] (a b : α), (a == b) = true ↔ a = b) ∧ (∀ (α : Type) [BEq α] [LawfulBEq α] (a b : α), (a != b) = true ↔ a ≠ b) ∧
    (∀ (α : Type) (a b : α), (a ≠ b) = ¬ (a = b)) ∧ (∀ b : Bool, (¬ (b = true)) = (b = false)) ∧ (∀ (p : Prop) [Decidable p], decide p = false ↔ ¬ p) ∧ (∀ (α : Type) [BEq α] [LawfulBEq α] (a b : α), (a == b) = false ↔ a ≠ b) ∧ (∀ (α : Type) [BEq α] [LawfulBEq α] (a b : α), (a != b) = false ↔ a = b) ∧
    (∀ (p : Prop) [Decidable p], ¬¬ p ↔ p) ∧ (∀ b : Bool, ((!b) = true) = (b = false)) ∧ (∀ b : Bool, ((!b) = false) = (b = true)) ∧ (∀ b : Bool, (!!b) = b) ∧ (∀ a b : Bool, ((a && b) = true) = (a = true ∧ b = true)) ∧ (∀ a b : Bool, ((a || b) = true) = (a = true ∨ b = true)) ∧
    (∀ a b : Bool, (a && b) = false ↔ a = false ∨ b = false) ∧ (∀ a b : Bool, (a || b) = false ↔ a = false ∧ b = false) :=
  ⟨fun _ _ => decide_eq_true_eq, fun _ _ _ _ _ => beq_iff_eq, fun _ _ _ _ _ => bne_iff_ne, fun _ _ _ => rfl, Bool.not_eq_true, fun _ _ => decide_eq_false_iff_not, fun _ _ _ _ _ => beq_eq_false_iff_ne, fun _ _ _ _ _ => bne_eq_false_iff_eq,
    fun _ _ => Decidable.not_not, Bool.not_eq_true', Bool.not_eq_false', Bool.not_not, Bool.and_eq_true, Bool.or_eq_true, fun _ _ => Bool.and_eq_false_iff, fun _ _ => Bool.or_eq_false_iff⟩
section
variable {M : Model} {A : Around} {E : Value → Shared → Prop} {s : Shared}
def isCls (a : Addr) : Bool := a == 94 || a == 192 || a == 59 || a == 150
theorem hold_call {a : Addr} {args : List Value} {Q : Value → Shared → Prop} (_ : isCls a = false) (h : Hold (wpAny M A (call (.ref a) args) Q E s)) : wpAny M A (call (.ref a) args) Q E s := h
theorem hold_sA {v : PySem.Expr} {b x : Str} {p q : Pos} {l : Addr} {j : Int} {t : Tok} {Q : Value → Shared → Prop} (h : Hold (wpAny M A (subscriptTail (.Attribute v b p) (.Name x q) (.ref l) (.int j t)) Q E s)) : wpAny M A (subscriptTail (.Attribute v b p) (.Name x q) (.ref l) (.int j t)) Q E s := h
theorem hold_sU {v e : PySem.Expr} {op : UnaryOp} {p : Pos} {o i : Value} {Q : Value → Shared → Prop} (h : Hold (wpAny M A (subscriptTail v (.UnaryOp op e p) o i) Q E s)) : wpAny M A (subscriptTail v (.UnaryOp op e p) o i) Q E s := h
theorem hold_ifB {op : BoolOp} {es : List PySem.Expr} {p q : Pos} {body : List Stmt} {env : Env} {Q : Flow → Shared → Prop} (h : Hold (wpAny M A (exec (.If (.BoolOp op es p) body [] q) env) Q E s)) : wpAny M A (exec (.If (.BoolOp op es p) body [] q) env) Q E s := h
theorem hold_ifC {x : Str} {r p q : Pos} {ops : List CmpOp} {es : List PySem.Expr} {body : List Stmt} {env : Env} {Q : Flow → Shared → Prop} (h : Hold (wpAny M A (exec (.If (.Compare (.Name x r) ops es p) body [] q) env) Q E s)) : wpAny M A (exec (.If (.Compare (.Name x r) ops es p) body [] q) env) Q E s := h
end

theorem allLt_mem {d : Addr} : ∀ {l : Led}, AllLt d l → ∀ p ∈ l, p.1 < d
  | [], _, _, hp => (nomatch hp)
  | q :: r, h, p, hp => by
    rcases List.mem_cons.mp hp with rfl | hp
    · exact h.1
    · exact allLt_mem h.2 p hp
theorem allLt_iff {d : Addr} {l : Led} : AllLt d l ↔ ∀ p ∈ l, p.1 < d := ⟨allLt_mem, allLt_of⟩
theorem allLt_ne {d : Addr} {l : Led} (h : AllLt d l) : ∀ p ∈ l, p.1 ≠ d := fun p hp => Nat.ne_of_lt (allLt_mem h p hp)
theorem allLt_append {d : Addr} {l l' : Led} : AllLt d (l ++ l') ↔ AllLt d l ∧ AllLt d l' := by
  simp only [allLt_iff, List.mem_append]
  exact ⟨fun h => ⟨fun p hp => h p (.inl hp), fun p hp => h p (.inr hp)⟩, fun h p hp => hp.elim (h.1 p) (h.2 p)⟩
theorem allLt_cons' {c d : Addr} {o : Obj} {l : Led} (h : c < d) (k : AllLt d l) : AllLt d ((c, o) :: l) := ⟨h, k⟩
theorem above_nil {led : Led} : Above [] led := fun _ h => nomatch h
theorem above_cons {x : Addr} {o : Obj} {new led : Led} (h : AllLt x led) (k : Above new led) : Above ((x, o) :: new) led := fun p hp q hq => by
  rcases List.mem_cons.mp hp with rfl | hp
  · exact allLt_mem h q hq
  · exact k p hp q hq
theorem above_append {n1 n2 led : Led} (h : Above n1 led) (k : Above n2 led) : Above (n1 ++ n2) led := fun p hp q hq => (List.mem_append.mp hp).elim (fun h' => h p h' q hq) fun h' => k p h' q hq
theorem above_sub {new led led' : Led} (h : Above new led) (hs : ∀ p ∈ led', ∃ q ∈ led, q.1 = p.1) : Above new led' := fun p hp q hq => by
  obtain ⟨q', h1, h2⟩ := hs q hq
  rw [← h2]
  exact h p hp q' h1
theorem above_ne {new led : Led} (h : Above new led) {q : Addr × Obj} (hq : q ∈ led) : ∀ p ∈ new, p.1 ≠ q.1 := fun p hp => Nat.ne_of_gt (h p hp q hq)
theorem above_right {new n1 led : Led} (h : Above new (n1 ++ led)) : Above new led := fun p hp q hq => h p hp q (List.mem_append.mpr (.inr hq))
theorem above_tail {new led : Led} {q : Addr × Obj} (h : Above new (q :: led)) : Above new led := fun p hp r hr => h p hp r (.tail _ hr)
theorem above_head {new led : Led} {a : Addr} {o o' : Obj} (h : Above new ((a, o) :: led)) : Above new ((a, o') :: led) := fun p hp r hr => by
  rcases List.mem_cons.mp hr with rfl | hr
  · exact h p hp (a, o) (.head _)
  · exact h p hp r (.tail _ hr)
theorem allLt_sub {d : Addr} {l l' : Led} (h : AllLt d l) (hs : ∀ p ∈ l', p ∈ l) : AllLt d l' := allLt_of fun p hp => allLt_mem h p (hs p hp)
theorem allLt_trans {d x : Addr} {l : Led} (h : AllLt d l) (k : @LT.lt Nat _ d x) : AllLt x l := allLt_of fun p hp => Nat.lt_trans (allLt_mem h p hp) k
theorem above_drop1 {new r : Led} {c : Addr} {o o' : Obj} {x : Addr × Obj} (h : Above new ((c, o) :: x :: r)) : Above new ((c, o') :: r) := fun p hp q hq => by
  rcases List.mem_cons.mp hq with rfl | hq
  · exact h p hp (c, o) (.head _)
  · exact h p hp q (.tail _ (.tail _ hq))
theorem above_drop2 {new r : Led} {c : Addr} {o o' : Obj} {x y : Addr × Obj} (h : Above new ((c, o) :: x :: y :: r)) : Above new ((c, o') :: r) := above_drop1 (above_drop1 (o' := o) h)
theorem ne_append {c : Addr} {l l' : Led} (h : ∀ p ∈ l, p.1 ≠ c) (k : ∀ p ∈ l', p.1 ≠ c) : ∀ p ∈ l ++ l', p.1 ≠ c := fun p hp => (List.mem_append.mp hp).elim (h p) (k p)
theorem ne_cons {c x : Addr} {o : Obj} {l : Led} (h : x ≠ c) (k : ∀ p ∈ l, p.1 ≠ c) : ∀ p ∈ (x, o) :: l, p.1 ≠ c := fun p hp => by
  rcases List.mem_cons.mp hp with rfl | hp
  · exact h
  · exact k p hp

section
variable {w : World} {loose : List Str} {mean : ExcName → Option Value} {mg mb : Str → Option Value} {f : Addr} {D : Nat} {args : List Value} {led : Led} {Post : Value → Led → Prop}
theorem ctr_intro
    (h : ∀ (dp un : Nat) (gd : Option (List Code)) (cn : Str) (cs : Scope) (a : Addr) (ccd : Value) (cl : List (Str × Addr)) (outer : List Env) (A₀ : Around) (base h₀ : Heap) (L : Addr) (m : Str → Option Value) (sh : Heap) (sg : Array GenState) (sd : Drawn) (st : Nat) (so : OsState) (Q E : Value → Shared → Prop),
      Below A₀ base outer h₀ → Fr h₀ L sh m → (K0 w.params).In h₀ → News h₀ L sh led → Top view0 loose mean mg mb h₀ → cs.kind = .function → dp + 8 * D < recursionLimit → un + 40 * D + 200 < cLine →
      (∀ r led' h' tk', Fr h₀ L h' m → News h₀ L h' led' → Post r led' → Q r ⟨h', sg, sd, tk', so⟩) →
      wpAny (model PySem.Challenge.rw_sa0145_01.row.prog w) (ktrTop dp un gd cn cs L a ccd cl outer) (call (.ref f) args) Q E ⟨sh, sg, sd, st, so⟩) : Ctr w loose mean mg mb f D args led Post :=
  fun dp un gd cn cs a ccd cl outer A₀ base h₀ L m s Q E B F X N T hk hd hu hret => h dp un gd cn cs a ccd cl outer A₀ base h₀ L m s.heap s.gens s.drawn s.toks s.os Q E B F X N T hk hd hu hret
theorem ctr_use_0 (C : Ctr w loose mean mg mb f D args led Post) {dp un : Nat} {gd : Option (List Code)} {cn : Str} {cs : Scope} {a : Addr} {ccd : Value} {cl : List (Str × Addr)} {outer : List Env} {A₀ : Around} {base h₀ : Heap} {L : Addr} {m : Str → Option Value} {s : Shared}
    {Q E : Value → Shared → Prop} (B : Below A₀ base outer h₀) (F : Fr h₀ L s.heap m) (X : (K0 w.params).In h₀) (N : News h₀ L s.heap led) (T : Top view0 loose mean mg mb h₀) (hk : cs.kind = .function)
    (hd : dp + 8 * D < recursionLimit) (hu : un + 40 * D + 200 < cLine)
    (ret : ∀ r led' h' tk', Fr h₀ L h' m → News h₀ L h' led' → Post r led' → Q r { s with heap := h', toks := tk' }) :
    wpAny (model PySem.Challenge.rw_sa0145_01.row.prog w) (ktrTop dp un gd cn cs L a ccd cl outer) (call (.ref f) args) Q E s := C _ _ _ _ _ _ _ _ _ _ _ _ _ _ _ _ _ B F X N T hk hd hu ret
theorem ctr_use {hp0 : Heap} {gs : Array GenState} {dr : Drawn} {tk0 : Nat} {os0 : OsState} (C : Ctr w loose mean mg mb f D args led Post) {dp un : Nat} {gd : Option (List Code)} {cn : Str} {cs : Scope} {a : Addr} {ccd : Value} {cl : List (Str × Addr)} {outer : List Env} {A₀ : Around} {base h₀ : Heap} {L : Addr} {m : Str → Option Value}
    {Q E : Value → Shared → Prop} (B : Below A₀ base outer h₀) (F : Fr h₀ L hp0 m) (X : (K0 w.params).In h₀) (N : News h₀ L hp0 led) (T : Top view0 loose mean mg mb h₀) (hk : cs.kind = .function)
    (hd : dp + 8 * D < recursionLimit) (hu : un + 40 * D + 200 < cLine)
    (ret : ∀ r led' h' tk', Fr h₀ L h' m → News h₀ L h' led' → Post r led' → Q r ⟨h', gs, dr, tk', os0⟩) :
    wpAny (model PySem.Challenge.rw_sa0145_01.row.prog w) (ktrTop dp un gd cn cs L a ccd cl outer) (call (.ref f) args) Q E ⟨hp0, gs, dr, tk0, os0⟩ :=
  ctr_use_0 (s := ⟨hp0, gs, dr, tk0, os0⟩) C B F X N T hk hd hu ret
end

abbrev tupO (vs : List Value) (n : Nat) : Obj := { cls := .type "tuple", data := .seq vs.toArray n }
inductive Side where
  | atom
  | var (k : Int)
  | s2 (k j : Int)
  deriving DecidableEq
inductive Goal where
  | mark | cutto | fail
  | unify (a b : Side)
  | call (ss : List Side)
  | builtin (ss : List Side)
inductive VarIn (led : Led) (v : Value) (k : Int) : Prop
  | mk (a : Addr) (t t' : Tok) (n : Nat) (e : v = .ref a) (hm : (a, tupO [.str (Str.ofString "v") t, .int k t'] n) ∈ led) : VarIn led v k
inductive AtomIn (led : Led) (v : Value) : Prop
  | mk (a : Addr) (t t' : Tok) (n : Nat) (e : v = .ref a) (hm : (a, tupO [.str (Str.ofString "a") t, .int 3 t'] n) ∈ led) : AtomIn led v
inductive SideS2 (led : Led) (k j : Int) : Value → Prop
  | mk (p : Addr) (t t' : Tok) (b : Addr) (n1 : Nat) (hm1 : (p, tupO [.str (Str.ofString "s") t, .int 2 t', .ref b] n1) ∈ led) (a1 d : Addr) (n2 : Nat) (hm2 : (b, tupO [.ref a1, .ref d] n2) ∈ led)
      (u1 u1' : Tok) (n3 : Nat) (hm3 : (a1, tupO [.str (Str.ofString "v") u1, .int k u1'] n3) ∈ led) (t2 t2' : Tok) (e : Addr) (n4 : Nat) (hm4 : (d, tupO [.str (Str.ofString "s") t2, .int 2 t2', .ref e] n4) ∈ led)
      (f a2 : Addr) (n5 : Nat) (hm5 : (e, tupO [.ref f, .ref a2] n5) ∈ led) (u2 u2' : Tok) (n6 : Nat) (hm6 : (f, tupO [.str (Str.ofString "i") u2, .int 1 u2'] n6) ∈ led)
      (u3 u3' : Tok) (n7 : Nat) (hm7 : (a2, tupO [.str (Str.ofString "v") u3, .int j u3'] n7) ∈ led) : SideS2 led k j (.ref p)
theorem SideS2.mono {led led' : Led} {v : Value} {k j : Int} (h : SideS2 led k j v) (hs : ∀ p ∈ led, p ∈ led') : SideS2 led' k j v := by
  cases h with
  | mk p t t' b n1 hm1 a1 d n2 hm2 u1 u1' n3 hm3 t2 t2' e n4 hm4 f a2 n5 hm5 u2 u2' n6 hm6 u3 u3' n7 hm7 =>
    exact .mk p t t' b n1 (hs _ hm1) a1 d n2 (hs _ hm2) u1 u1' n3 (hs _ hm3) t2 t2' e n4 (hs _ hm4) f a2 n5 (hs _ hm5) u2 u2' n6 (hs _ hm6) u3 u3' n7 (hs _ hm7)
def SideIn (led : Led) (v : Value) : Side → Prop
  | .atom => AtomIn led v
  | .var k => VarIn led v k
  | .s2 k j => SideS2 led k j v
theorem VarIn.mono {led led' : Led} {v : Value} {k : Int} (h : VarIn led v k) (hs : ∀ p ∈ led, p ∈ led') : VarIn led' v k := let ⟨a, t, t', n, e, hm⟩ := h; ⟨a, t, t', n, e, hs _ hm⟩
theorem SideIn.mono {led led' : Led} {v : Value} : ∀ {sd : Side}, SideIn led v sd → (∀ p ∈ led, p ∈ led') → SideIn led' v sd
  | .atom, h, hs => let ⟨a, t, t', n, e, hm⟩ := h; ⟨a, t, t', n, e, hs _ hm⟩
  | .var _, h, hs => VarIn.mono h hs
  | .s2 _ _, h, hs => SideS2.mono h hs
def okVar (k : Int) : Prop := 0 ≤ k ∧ k < 5
def Side.ok : Side → Prop
  | .atom => True
  | .var k => okVar k
  | .s2 k j => okVar k ∧ okVar j

end PBt
section PIt
/-! sources of an iteration -/
section
variable {prog : Program} {w : World} {A : Around}
def LetOk (h : Heap) (I : Addr) : Prop := ∃ o T, h.get? I = some o ∧ o.cls = .type T ∧ ["enumerate", "zip", "dict_itemiterator", "dict_reverseitemiterator", "odict_iterator", "itertools.zip_longest", "itertools.pairwise"].contains T = false
theorem letOwned_tup {E : Value → Shared → Prop} {s : Shared} {es : List PySem.Expr} {k} {tp : Pos} {I a : Addr} {Q : Unit → Shared → Prop} (h : LetOk s.heap I) (hQ : Q () s) : wpAny (model prog w) A (letOwnedTupleGo (.Tuple es k tp) (.ref I) (.ref a)) Q E s := by
  (try k_fold); (try (show (let GZ : Prop := _; GZ); intro GZ))
  obtain ⟨o, T, ho, hc, hT⟩ := h
  (try k_unfold)
  refine wpAny_bind (m := load I) (wpAny_load ho ?_)
  rw [hc]
  generalize o.data = d
  cases d
  case fields vs =>
    show wpAny (model prog w) A (if (["enumerate", "zip", "dict_itemiterator", "dict_reverseitemiterator", "odict_iterator", "itertools.zip_longest", "itertools.pairwise"].contains T && vs[0]? == some (rawInt a)) = true then _ else pure ()) Q E s
    rw [if_neg (by rw [hT]; exact Bool.false_ne_true)]
    exact wpAny_pure hQ
  all_goals exact wpAny_pure hQ

/-- what can be iterated: n items, the i-th as P says; need: the objects that it stands on -/
def SrcAt (prog : Program) (w : World) (A : Around) (xv : Value) (n : Nat) (P : Nat → Value → Prop) (need : Led) : Prop :=
  ∀ (s : Shared) (E : Value → Shared → Prop) (K : Value → Shared → Prop), (∀ p ∈ need, s.heap.get? p.1 = some p.2) →
    (∀ (I : Addr) (fp : List Addr) (St : Nat → Heap → Prop) (h' : Heap), (∀ b o, s.heap.get? b = some o → h'.get? b = some o) → s.heap.get? I = none → Walks prog w A I fp [I] n P St →
      (∀ b ∈ fp, b = I ∨ ∃ p ∈ need, p.1 = b) → St 0 h' → (∀ i h, St i h → ∃ o, h.get? I = some o) →
      (∀ i h h₂ o, St i h → h.get? I = some o → h₂.get? I = some o → (∀ p ∈ need, h₂.get? p.1 = some p.2) → St i h₂) →
      (∀ i h, St i h → LetOk h I) → K (.ref I) { s with heap := h' }) → wpAny (model prog w) A (pyIter xv) K E s

theorem none_size (h : Heap) : h.get? h.objs.size = none := by
  cases e : h.get? h.objs.size with
  | none => rfl
  | some o => exact absurd (Heap.lt_size e) (Nat.lt_irrefl _)

theorem src_list (hh : A.handled = none) (l : Addr) (items : Array Value) (c : Nat) : SrcAt prog w A (.ref l) items.size (fun i v => items[i]? = some v) [(l, listOf items c)] := by
  intro s E K hn hK
  have hl := hn (l, listOf items c) (.head _)
  have hls : s.heap.IsList l items := ⟨_, hl, rfl, c, rfl⟩
  have hne : l ≠ s.heap.objs.size := Nat.ne_of_lt (Heap.lt_size hl)
  refine wpAny_pyIter_list hls (hK _ [s.heap.objs.size, l] _ _ (fun b o e => Heap.get?_push_of_some _ e) (none_size _) (Walks.list hh _ l hne items) ?_ ⟨⟨_, Heap.get?_push_size _ rfl, rfl, rfl⟩, hls.push _⟩ ?_ ?_ ?_)
  · intro b hb
    rcases List.mem_cons.mp hb with rfl | hb
    · exact .inl rfl
    · exact .inr ⟨_, .head _, (List.mem_singleton.mp hb).symm⟩
  · exact fun i h hi => let ⟨o, ho, _⟩ := hi.1; ⟨o, ho⟩
  · intro i h h₂ o hi ho ho2 hnd
    (try k_fold); (try (show (let GZ : Prop := _; GZ); intro GZ))
    obtain ⟨⟨o', e1, e2, e3⟩, _⟩ := hi
    (try k_unfold)
    rw [ho] at e1; cases e1
    exact ⟨⟨o, ho2, e2, e3⟩, ⟨_, hnd _ (.head _), rfl, c, rfl⟩⟩
  · exact fun i h hi => let ⟨o, ho, hc, _⟩ := hi.1; ⟨o, _, ho, hc, by decide⟩

theorem src_tuple (hh : A.handled = none) (l : Addr) (items : List Value) (c : Nat) : SrcAt prog w A (.ref l) items.length (fun i v => items[i]? = some v) [(l, tupO items c)] := by
  intro s E K hn hK
  have hl := hn (l, tupO items c) (.head _)
  have hls : s.heap.IsTuple l items.toArray := ⟨_, hl, rfl, c, rfl⟩
  have hne : l ≠ s.heap.objs.size := Nat.ne_of_lt (Heap.lt_size hl)
  have W := Walks.tuple (prog := prog) (w := w) hh s.heap.objs.size l hne items.toArray
  have hz : items.toArray.size = items.length := by simp
  rw [hz] at W
  have hP : (fun (i : Nat) (v : Value) => items.toArray[i]? = some v) = fun i v => items[i]? = some v := by funext i v; simp
  rw [hP] at W
  refine wpAny_pyIter_tuple hls (hK _ [s.heap.objs.size, l] _ _ (fun b o e => Heap.get?_push_of_some _ e) (none_size _) W ?_ ⟨⟨_, Heap.get?_push_size _ rfl, rfl, rfl⟩, hls.at fun o e => Heap.get?_push_of_some _ e⟩ ?_ ?_ ?_)
  · intro b hb
    rcases List.mem_cons.mp hb with rfl | hb
    · exact .inl rfl
    · exact .inr ⟨_, .head _, (List.mem_singleton.mp hb).symm⟩
  · exact fun i h hi => let ⟨o, ho, _⟩ := hi.1; ⟨o, ho⟩
  · intro i h h₂ o hi ho ho2 hnd
    (try k_fold); (try (show (let GZ : Prop := _; GZ); intro GZ))
    obtain ⟨⟨o', e1, e2, e3⟩, _⟩ := hi
    (try k_unfold)
    rw [ho] at e1; cases e1
    exact ⟨⟨o, ho2, e2, e3⟩, ⟨_, hnd _ (.head _), rfl, c, rfl⟩⟩
  · exact fun i h hi => let ⟨o, ho, hc, _⟩ := hi.1; ⟨o, _, ho, hc, by decide⟩

theorem src_range (hh : A.handled = none) (r : Addr) (n : Nat) (ro : Obj) (t u v : Tok) (hr : ∀ h : Heap, h.get? r = some ro → IsRange h r 0 n 1 t u v) (hn : n < 1000) :
    SrcAt prog w A (.ref r) n (fun i x => ∃ t, x = .int i t) [(r, ro)] := by
  intro s E K hnd hK
  have hl := hnd (r, ro) (.head _)
  have hsz : Builtin.Range.rangeSize 0 (n : Int) 1 = n := by
    unfold Builtin.Range.rangeSize
    simp
    try omega
  have hsm : Builtin.Range.small 0 (n : Int) 1 = true := by
    have fl : ∀ x : Int, 0 ≤ x → x < 1000 → Builtin.Range.rangeFitsLong x = true := by
      intro x h1 h2
      unfold Builtin.Range.rangeFitsLong
      simp
      omega
    unfold Builtin.Range.small
    rw [hsz]
    simp [fl 0 (by omega) (by omega), fl 1 (by omega) (by omega), fl n (by omega) (by omega)]
  have W := (Walks.range (prog := prog) (w := w) hh s.heap.objs.size 0 1 n)
  have hP : (fun (i : Nat) (v : Value) => ∃ t, v = .int (0 + i * 1) t) = fun (i : Nat) v => ∃ t, v = .int i t := by funext i v; simp
  rw [hP] at W
  refine wpAny_pyIter_range (hr _ hl) hsm (hK _ [s.heap.objs.size] _ _ (fun b o e => Heap.get?_push_of_some _ e) (none_size _) W ?_ ?_ ?_ ?_ ?_)
  · exact fun b hb => .inl (List.mem_singleton.mp hb)
  · show IsRangeIter _ _ _ _ _
    rw [hsz]
    simpa using Heap.get?_push_size _ rfl
  · exact fun i h hi => ⟨_, hi⟩
  · intro i h h₂ o hi ho ho2 _
    have : h.get? s.heap.objs.size = some _ := hi
    rw [ho] at this
    show h₂.get? s.heap.objs.size = some _
    rw [ho2, Option.some.inj this]
  · exact fun i h hi => ⟨_, _, hi, rfl, by decide⟩
end

/-! the for loop -/
section
theorem fr_but {h₀ h h' : Heap} {L I : Addr} {m : Str → Option Value} (F : Fr h₀ L h m) (hk : ∀ b o, b ∉ [I] → h.get? b = some o → h'.get? b = some o) (hL : L ≠ I) (hI : h₀.get? I = none) : Fr h₀ L h' m :=
  ⟨F.ns.at' fun o e => hk _ o (by simpa using hL) e, fun b o e => hk b o (fun hb => by rw [List.mem_singleton.mp hb, hI] at e; cases e) (F.keep b o e), F.above⟩
theorem news_but {h₀ h h' : Heap} {L I : Addr} {news : Led} (N : News h₀ L h news) (hk : ∀ b o, b ∉ [I] → h.get? b = some o → h'.get? b = some o) (off : ∀ p ∈ news, p.1 ≠ I) : News h₀ L h' news :=
  fun p hp => ⟨hk _ _ (by simpa using off p hp) (N p hp).1, (N p hp).2⟩
variable {prog : Program} {w : World} {A : Around} {E : Value → Shared → Prop} {s : Shared} {env : Env} {x : Str} {px pos : Pos} {iter : Expr} {body : List Stmt} {Q : Flow → Shared → Prop} {h₀ : Heap}
def ForRest (prog : Program) (w : World) (A : Around) (env : Env) (x : Str) (px : Pos) (body : List Stmt) (Q : Flow → Shared → Prop) (xv : Value) (s : Shared) : Prop :=
  wpAny (model prog w) A (pyIter xv) (fun it s₂ => codeAny (model prog w) A (.forLoop (.Name x px) it body [] env) (fun r s' => match r with | .ok f => Q f s' | .error _ => False) s₂) (fun _ _ => False) s
theorem For_hold (h : wpAny (model prog w) A (eval iter env) (fun xv s₁ => ForRest prog w A env x px body Q xv s₁) E s) (hs : ∀ x, foldedSetIterable iter env x = pure x := by intro _; rfl) :
    wpAny (model prog w) A (exec (.For (.Name x px) iter body [] pos) env) Q E s := by
  refine wpAny_For (wpAny_mono h (fun xv s₁ h₁ => wpAny_mono h₁ (fun it s₂ h₂ => codeAny_mono h₂ fun r s' hr => ?_) fun _ _ e => e.elim) fun _ _ e => e) hs
  cases r with
  | ok f => exact hr
  | error e => exact hr.elim

inductive TurnOk (h₀ : Heap) (L : Addr) (J : (Str → Option Value) → Led → Prop) (q : Addr × Obj) (s₁ : Shared) : Shared → Prop
  | mk (h' : Heap) (tk : Nat) (m' : Str → Option Value) (nw : Led) (F : Fr h₀ L h' m') (N : News h₀ L h' (q :: nw)) (hne : ∀ p ∈ nw, p.1 ≠ q.1) (hJ : J m' nw) : TurnOk h₀ L J q s₁ { s₁ with heap := h', toks := tk }
inductive ForInv (h₀ : Heap) (L I : Addr) (n : Nat) (St : Nat → Heap → Prop) (J : Nat → (Str → Option Value) → Led → Prop) (s : Shared) : Nat → Shared → Prop
  | mk (h' : Heap) (tk : Nat) (m' : Str → Option Value) (nw : Led) (i : Nat) (hst : St i h') (F : Fr h₀ L h' m') (N : News h₀ L h' nw) (hne : ∀ p ∈ nw, p.1 ≠ I) (hJ : J i m' nw) (hi : i ≤ n) : ForInv h₀ L I n St J s (n + 1 - i) { s with heap := h', toks := tk }
def TurnEnd (h₀ : Heap) (L : Addr) (J : (Str → Option Value) → Led → Prop) (q : Addr × Obj) (s₁ : Shared) (Q : Flow → Shared → Prop) (f : Flow) (s₂ : Shared) : Prop :=
  match f with
  | .ret v => Q (.ret v) s₂
  | .brk => Q .next s₂
  | _ => TurnOk h₀ L J q s₁ s₂

theorem for_rest_0 {xv : Value} {n : Nat} {P : Nat → Value → Prop} {need : Led} {m : Str → Option Value} {news : Led} {L : Addr} (J : Nat → (Str → Option Value) → Led → Prop)
    (src : SrcAt prog w A xv n P need) (F : Fr h₀ L s.heap m) (N : News h₀ L s.heap news) (hL : env.locals = L) (hx : env.kindOf x = some .local)
    (hp : (env.scope.kind == .class || (env.scope.kind == .module && env.locals != env.globals)) = false) (hj : J 0 m news) (hneed : ∀ i m nw, J i m nw → ∀ p ∈ need, p ∈ nw)
    (turn : ∀ i v m₁ nw I oI h tk, i < n → P i v → J i m₁ nw → (∀ p ∈ nw, p.1 ≠ I) → Fr h₀ L h (setM x v m₁) → News h₀ L h ((I, oI) :: nw) →
      wpAny (model prog w) A (execs body env) (TurnEnd h₀ L (J (i + 1)) (I, oI) { s with heap := h, toks := tk } Q) (fun _ _ => False) { s with heap := h, toks := tk })
    (done : ∀ m₁ nw h tk, J n m₁ nw → Fr h₀ L h m₁ → News h₀ L h nw → Q .next { s with heap := h, toks := tk }) :
    ForRest prog w A env x px body Q xv s := by
  subst hL
  refine src s _ _ (fun p hp => (N p (hneed _ _ _ hj p hp)).1) fun I fp St h' hk hI W hfp hst hIo hSt _ => ?_
  have hLlt : ∃ o, s.heap.get? env.locals = some o := let ⟨o, _, _, e, _⟩ := F.ns; ⟨o, e⟩
  have hIL : env.locals ≠ I := fun e => by obtain ⟨o, ho⟩ := hLlt; rw [e, hI] at ho; cases ho
  have hI₀ : h₀.get? I = none := by
    cases e : h₀.get? I with
    | none => rfl
    | some o => have := F.keep I o e; rw [hI] at this; cases this
  have hneI : ∀ p ∈ news, p.1 ≠ I := fun p hp e => by have := (N p hp).1; rw [e, hI] at this; cases this
  refine codeAny_forLoop
    (fun k s' => ForInv h₀ env.locals I n St J s k s') ?_ (n + 1)
    (ForInv.mk h' s.toks m news 0 hst (F.keeps hk) (fun p hp => ⟨hk _ _ (N p hp).1, (N p hp).2⟩) hneI hj (Nat.zero_le _))
  intro k s' hz2
  (try k_fold); (try (show (let GZ : Prop := _; GZ); intro GZ))
  obtain ⟨h', tk, m', nw, i, hst', F', N', hnw', hJ, hi⟩ := hz2
  (try k_unfold)
  by_cases hlt : i < n
  · refine W.item i _ _ _ hlt hst' fun v h₁ tk₁ hP hst₁ hk₁ => ?_
    have F₁ := fr_but F' hk₁ hIL hI₀
    have N₁ := news_but N' hk₁ hnw'
    refine wpAny_assign_Name (wpAny_storeName_local hx F₁.ns (fun h₂ hn₂ hs₂ => ?_) hp)
    have F₂ := F₁.set hn₂ hs₂
    have N₂ := N₁.set hs₂
    obtain ⟨oI, hoI⟩ := hIo _ _ hst₁
    have hoI₂ : h₂.get? I = some oI := (hs₂.2 I (Ne.symm hIL)).trans hoI
    have hst₂ : St (i + 1) h₂ := hSt _ _ _ _ hst₁ hoI hoI₂ fun p hp => (N₂ p (hneed _ _ _ hJ p hp)).1
    have N₃ : News h₀ env.locals h₂ ((I, oI) :: nw) := fun p hp => by
      rcases List.mem_cons.mp hp with rfl | hp
      · exact ⟨hoI₂, Ne.symm hIL, hI₀⟩
      · exact N₂ p hp
    refine wpAny_mono (turn i v m' nw I oI h₂ _ hlt hP hJ hnw' F₂ N₃) (fun f s₃ h₃ => ?_) fun _ _ e => e.elim
    have fin : ∀ tkx, TurnOk h₀ env.locals (J (i + 1)) (I, oI) { s with heap := h₂, toks := tkx } s₃ → ∃ m, m < n + 1 - i ∧ ForInv h₀ env.locals I n St J s m s₃ := by
      intro tkx hz1
      (try k_fold); (try (show (let GZ : Prop := _; GZ); intro GZ))
      obtain ⟨h₄, tk₄, m₄, nw₄, F₄, N₄, hne₄, hJ₄⟩ := hz1
      (try k_unfold)
      exact ⟨n + 1 - (i + 1), by omega, .mk h₄ tk₄ m₄ nw₄ (i + 1) (hSt _ _ _ _ hst₂ hoI₂ (N₄ _ (.head _)).1 fun p hp => (N₄ p (.tail _ (hneed _ _ _ hJ₄ p hp))).1) F₄ (fun p hp => N₄ p (.tail _ hp)) hne₄ hJ₄ hlt⟩
    cases f with
    | ret v => exact h₃
    | brk => exact h₃
    | next => exact fin _ h₃
    | cont => exact fin _ h₃
  · obtain rfl : i = n := by omega
    refine W.done _ _ _ hst' fun h₁ tk₁ hk₁ => ?_
    exact wpAny_execs_nil (done m' nw h₁ tk₁ hJ (fr_but F' hk₁ hIL hI₀) (news_but N' hk₁ hnw'))
theorem for_rest {hp0 : Heap} {gs : Array GenState} {dr : Drawn} {tk0 : Nat} {os0 : OsState} {xv : Value} {n : Nat} {P : Nat → Value → Prop} {need : Led} {m : Str → Option Value} {news : Led} {L : Addr} (J : Nat → (Str → Option Value) → Led → Prop)
    (src : SrcAt prog w A xv n P need) (F : Fr h₀ L hp0 m) (N : News h₀ L hp0 news) (hL : env.locals = L) (hx : env.kindOf x = some .local)
    (hp : (env.scope.kind == .class || (env.scope.kind == .module && env.locals != env.globals)) = false) (hj : J 0 m news) (hneed : ∀ i m nw, J i m nw → ∀ p ∈ need, p ∈ nw)
    (turn : ∀ i v m₁ nw I oI h tk, i < n → P i v → J i m₁ nw → (∀ p ∈ nw, p.1 ≠ I) → Fr h₀ L h (setM x v m₁) → News h₀ L h ((I, oI) :: nw) →
      wpAny (model prog w) A (execs body env) (TurnEnd h₀ L (J (i + 1)) (I, oI) ⟨h, gs, dr, tk, os0⟩ Q) (fun _ _ => False) ⟨h, gs, dr, tk, os0⟩)
    (done : ∀ m₁ nw h tk, J n m₁ nw → Fr h₀ L h m₁ → News h₀ L h nw → Q .next ⟨h, gs, dr, tk, os0⟩) :
    ForRest prog w A env x px body Q xv ⟨hp0, gs, dr, tk0, os0⟩ :=
  for_rest_0 (s := ⟨hp0, gs, dr, tk0, os0⟩) J src F N hL hx hp hj hneed turn done
def TurnEndK (h₀ : Heap) (L : Addr) (J K : (Str → Option Value) → Led → Prop) (q : Addr × Obj) (s₁ : Shared) (Q : Flow → Shared → Prop) (f : Flow) (s₂ : Shared) : Prop :=
  match f with
  | .ret v => Q (.ret v) s₂
  | .brk => ∃ h' tk m' nw, s₂ = { s₁ with heap := h', toks := tk } ∧ Fr h₀ L h' m' ∧ News h₀ L h' nw ∧ K m' nw
  | _ => TurnOk h₀ L J q s₁ s₂
/-- the same, where the loop may be left: K holds behind it on either way -/
theorem for_restK_0 {xv : Value} {n : Nat} {P : Nat → Value → Prop} {need : Led} {m : Str → Option Value} {news : Led} {L : Addr} (J : Nat → (Str → Option Value) → Led → Prop) (K : (Str → Option Value) → Led → Prop)
    (src : SrcAt prog w A xv n P need) (F : Fr h₀ L s.heap m) (N : News h₀ L s.heap news) (hL : env.locals = L) (hx : env.kindOf x = some .local)
    (hp : (env.scope.kind == .class || (env.scope.kind == .module && env.locals != env.globals)) = false) (hj : J 0 m news) (hneed : ∀ i m nw, J i m nw → ∀ p ∈ need, p ∈ nw)
    (turn : ∀ i v m₁ nw I oI h tk, i < n → P i v → J i m₁ nw → (∀ p ∈ nw, p.1 ≠ I) → Fr h₀ L h (setM x v m₁) → News h₀ L h ((I, oI) :: nw) →
      wpAny (model prog w) A (execs body env) (TurnEndK h₀ L (J (i + 1)) K (I, oI) { s with heap := h, toks := tk } Q) (fun _ _ => False) { s with heap := h, toks := tk })
    (hJK : ∀ m nw, J n m nw → K m nw)
    (done : ∀ m₁ nw h tk, K m₁ nw → Fr h₀ L h m₁ → News h₀ L h nw → Q .next { s with heap := h, toks := tk }) :
    ForRest prog w A env x px body Q xv s := by
  refine for_rest_0 J src F N hL hx hp hj hneed (fun i v m₁ nw I oI h tk a b c d e f => wpAny_mono (turn i v m₁ nw I oI h tk a b c d e f) (fun f s₂ hf => ?_) fun _ _ e => e) fun m₁ nw h tk hJ => done m₁ nw h tk (hJK _ _ hJ)
  cases f with
  | ret v => exact hf
  | brk =>
    (try k_fold); (try (show (let GZ : Prop := _; GZ); intro GZ))
    obtain ⟨h', tk', m', nw', rfl, F', N', hK⟩ := hf
    (try k_unfold)
    exact done m' nw' h' tk' hK F' N'
  | next => exact hf
  | cont => exact hf
theorem for_restK {hp0 : Heap} {gs : Array GenState} {dr : Drawn} {tk0 : Nat} {os0 : OsState} {xv : Value} {n : Nat} {P : Nat → Value → Prop} {need : Led} {m : Str → Option Value} {news : Led} {L : Addr} (J : Nat → (Str → Option Value) → Led → Prop) (K : (Str → Option Value) → Led → Prop)
    (src : SrcAt prog w A xv n P need) (F : Fr h₀ L hp0 m) (N : News h₀ L hp0 news) (hL : env.locals = L) (hx : env.kindOf x = some .local)
    (hp : (env.scope.kind == .class || (env.scope.kind == .module && env.locals != env.globals)) = false) (hj : J 0 m news) (hneed : ∀ i m nw, J i m nw → ∀ p ∈ need, p ∈ nw)
    (turn : ∀ i v m₁ nw I oI h tk, i < n → P i v → J i m₁ nw → (∀ p ∈ nw, p.1 ≠ I) → Fr h₀ L h (setM x v m₁) → News h₀ L h ((I, oI) :: nw) →
      wpAny (model prog w) A (execs body env) (TurnEndK h₀ L (J (i + 1)) K (I, oI) ⟨h, gs, dr, tk, os0⟩ Q) (fun _ _ => False) ⟨h, gs, dr, tk, os0⟩)
    (hJK : ∀ m nw, J n m nw → K m nw)
    (done : ∀ m₁ nw h tk, K m₁ nw → Fr h₀ L h m₁ → News h₀ L h nw → Q .next ⟨h, gs, dr, tk, os0⟩) :
    ForRest prog w A env x px body Q xv ⟨hp0, gs, dr, tk0, os0⟩ :=
  for_restK_0 (s := ⟨hp0, gs, dr, tk0, os0⟩) J K src F N hL hx hp hj hneed turn hJK done
end
section
variable {h₀ h' : Heap} {L : Addr} {J K : (Str → Option Value) → Led → Prop} {q : Addr × Obj} {s₁ : Shared} {Q : Flow → Shared → Prop} {m' : Str → Option Value} {nw : Led} {tk : Nat}
theorem turnK_next (F : Fr h₀ L h' m') (N : News h₀ L h' (q :: nw)) (hne : ∀ p ∈ nw, p.1 ≠ q.1) (hJ : J m' nw) : TurnEndK h₀ L J K q s₁ Q .next { s₁ with heap := h', toks := tk } := TurnOk.mk h' tk m' nw F N hne hJ
theorem turnK_brk (F : Fr h₀ L h' m') (N : News h₀ L h' nw) (hK : K m' nw) : TurnEndK h₀ L J K q s₁ Q .brk { s₁ with heap := h', toks := tk } := ⟨h', tk, m', nw, rfl, F, N, hK⟩
theorem turn_next (F : Fr h₀ L h' m') (N : News h₀ L h' (q :: nw)) (hne : ∀ p ∈ nw, p.1 ≠ q.1) (hJ : J m' nw) : TurnEnd h₀ L J q s₁ Q .next { s₁ with heap := h', toks := tk } := TurnOk.mk h' tk m' nw F N hne hJ
end
section
variable {prog : Program} {w : World} {A : Around} {E : Value → Shared → Prop} {s : Shared} {h₀ : Heap} {L : Addr} {m : Str → Option Value}
theorem tt_item {value slice : PySem.Expr} {l : Addr} {vs : List Value} {n a : Nat} {x : Value} {j : Int} {t : Tok} {news : Led} {Q : Value → Shared → Prop} (N : News h₀ L s.heap news) (hp : (l, tupO vs n) ∈ news) (hx : vs[a]? = some x) (hj : j = (a : Int)) (hz : a ≤ 5000)
    (h : Q x s) (hs : subscripted slice false (.ref l) (.int j t) = operate [.ref l, .int j t] (getItem (.ref l) (.int j t)) := by with_unfolding_all rfl) : wpAny (model prog w) A (subscriptTail value slice (.ref l) (.int j t)) Q E s := by
  subst hj
  have ha := (List.getElem?_eq_some_iff.mp hx).1
  have hl : IsTup s.heap l vs.toArray := ⟨_, (N _ hp).1, rfl, n, rfl⟩
  refine tail_any hl.typeIs PyProof.Rows.slot_tuple_getitem.lookup (PyProof.Rows.getItem_tuple (j := a) hl (by omega) (by omega) ?_ (by simpa using hx) h) hs
  simp [seqIndex?]
  omega
theorem tt_itemJ {value slice : PySem.Expr} {l : Addr} {vs : List Value} {n : Nat} {x : Value} {j : Int} {t : Tok} {news : Led} {Q : Value → Shared → Prop} (N : News h₀ L s.heap news) (hp : (l, tupO vs n) ∈ news) (hx : vs[j.toNat]? = some x) (hj : (0 ≤ j ∧ j ≤ 9))
    (h : Q x s) (hs : subscripted slice false (.ref l) (.int j t) = operate [.ref l, .int j t] (getItem (.ref l) (.int j t)) := by with_unfolding_all rfl) : wpAny (model prog w) A (subscriptTail value slice (.ref l) (.int j t)) Q E s :=
  tt_item (a := j.toNat) N hp hx (Int.toNat_of_nonneg hj.1).symm (by omega) h hs
/-- x[j] == 'c' for a tuple -/
theorem tag_is {cn x c c2 : Str} {cs : Scope} {ad l : Addr} {ccd : Value} {cl : List (Str × Addr)} {m : Str → Option Value} {vs : List Value} {n k1 k2 : Nat} {j : Int} {t : Tok} {news : Led} {px p1 p2 p3 p4 : Pos} {whole : Sem Value} {Q : Bool → Shared → Prop}
    (F : Fr h₀ L s.heap m) (N : News h₀ L s.heap news) (hv : m x = some (.ref l)) (hp : (l, tupO vs n) ∈ news) (hx : vs[j.toNat]? = some (.str c t)) (hj : (0 ≤ j ∧ j ≤ 9))
    (h : Q (c == c2) { s with toks := s.toks + 1 + 1 }) (hk : cs.kind = .function := by rfl) (hl : (envX cn cs L ad ccd cl).kindOf x = some .local := by rfl) (hd : (x == ("__debug__" : Str)) = false := by decide)
    (hs : ∀ t, subscripted (.Constant (.int j) k1 p1) false (.ref l) (.int j t) = operate [.ref l, .int j t] (getItem (.ref l) (.int j t)) := by intro _; with_unfolding_all rfl) :
    wpAny (model prog w) A (isTrue (.Compare (.Subscript (.Name x px) (.Constant (.int j) k1 p1) p2) [.Eq] [.Constant (.str c2) k2 p3] p4) (envX cn cs L ad ccd cl) whole) Q E s :=
  wpAny_isTrue_Compare1 (Subscript_ (nameX_L F hv (wpAny_Constant_int (tt_itemJ N hp hx hj (Calls.Constant_str (eq_str (wpAny_truthy_bool h))) (hs _))) hk hl hd))
end
section
variable {prog : Program} {w : World} {A : Around} {E : Value → Shared → Prop} {s : Shared} {h₀ : Heap} {L : Addr} {news : Led}
theorem truthy_L1 {l : Addr} {v : Value} {vs : List Value} {n : Nat} {Q : Bool → Shared → Prop} (N : News h₀ L s.heap news) (hp : (l, listOf (v :: vs).toArray n) ∈ news) (hz : vs.length ≤ 5000) (h : Q true { s with toks := s.toks + 1 + 1 }) : wpAny (model prog w) A (truthy (.ref l)) Q E s :=
  wpAny_truthy_list (items := (v :: vs).toArray) ⟨_, (N _ hp).1, rfl, n, rfl⟩ (by rw [List.size_toArray, List.length_cons]; omega) h
theorem truthy_L0 {l : Addr} {n : Nat} {Q : Bool → Shared → Prop} (N : News h₀ L s.heap news) (hp : (l, listOf ([] : List Value).toArray n) ∈ news) (h : Q false { s with toks := s.toks + 1 + 1 }) : wpAny (model prog w) A (truthy (.ref l)) Q E s :=
  wpAny_truthy_list (items := ([] : List Value).toArray) ⟨_, (N _ hp).1, rfl, n, rfl⟩ (by decide) h
end

end PIt
section PCp
/-! comprehensions -/
section
open PyProof.Rows.LCg (NsObj ns_obj lst lst_snoc)
variable {prog : Program} {w : World} {A : Around} {E : Value → Shared → Prop} {s : Shared} {env : Env} {h₀ : Heap} {L : Addr} {m : Str → Option Value}

theorem compLoop_any {R : Result → Shared → Prop} {elt target iter : Expr} {ifs : List Expr} {scope : Scope} {pos : Pos} {it acc : Value} {env : Env} (I : Nat → Shared → Prop)
    (turn : ∀ n s, I n s → wpAny (model prog w) A (pyNext it) (fun r s₁ => match r with
      | none => R (.ok .next) s₁
      | some v => wpAny (model prog w) A (letOwnedTupleGo target it v) (fun _ s₁' => wpAny (model prog w) A (assign target env v) (fun _ s₂ =>
          wpAny (model prog w) A (forIn ifs true fun c r => if r = true then do let ok ← isTrue c env (eval c env); pure (ForInStep.yield ok) else pure (ForInStep.yield r)) (fun ok s₃ =>
            if ok = true then wpAny (model prog w) A (eval elt env) (fun x s₄ =>
              wpAny (model prog w) A (call (.builtin "list.append") [acc, x]) (fun _ s₅ => ∃ m, m < n ∧ I m s₅) (fun _ _ => False) s₄) (fun _ _ => False) s₃
            else ∃ m, m < n ∧ I m s₃) (fun _ _ => False) s₂) (fun _ _ => False) s₁') (fun _ _ => False) s₁) (fun _ _ => False) s)
    (n : Nat) (h : I n s) :
    codeAny (model prog w) A (.compLoop (.ListComp elt [⟨target, iter, ifs, 0⟩] scope pos) 0 it acc env) R s := by
  refine codeAny_loop rfl I (fun n s hI => ?_) n h
  show wpAny _ A ((compTurn (.ListComp elt [⟨target, iter, ifs, 0⟩] scope pos) 0 it acc env).onRaise (fun x => do noteFrame x env; theTreesLotGoes x)) _ _ s
  refine wpAny_noted ?_
  rw [compTurn_list]
  refine wpAny_bind (wpAny_standAt (wpAny_bind (wpAny_mono (turn n s hI) (fun r s₁ h₁ => ?_) fun _ _ h' => h'.elim)))
  cases r with
  | none => exact wpAny_pure h₁
  | some v =>
    refine wpAny_bind (wpAny_mono h₁ (fun _ s₁' h₁' => ?_) fun _ _ h' => h'.elim)
    refine wpAny_bind (wpAny_mono h₁' (fun _ s₂ h₂ => wpAny_bind (wpAny_mono h₂ (fun ok s₃ h₃ => ?_) fun _ _ h' => h'.elim)) fun _ _ h' => h'.elim)
    cases ok with
    | false => exact wpAny_pure ⟨rfl, h₃⟩
    | true =>
      exact wpAny_bind (wpAny_bind (wpAny_mono h₃ (fun x s₄ h₄ => wpAny_bind (wpAny_mono h₄ (fun _ s₅ h₅ => wpAny_pure (wpAny_pure ⟨rfl, h₅⟩)) fun _ _ h' => h'.elim)) fun _ _ h' => h'.elim))

def Off3' (I C D : Addr) (l : Led) : Prop := ∀ p ∈ l, p.1 ≠ I ∧ p.1 ≠ C ∧ p.1 ≠ D

inductive CEnd (h₀ : Heap) (L : Addr) (m : Str → Option Value) (s₁ : Shared) (qI qC qD : Addr × Obj) (J : List Value → Led → Prop) (ys : List Value) (s₂ : Shared) : Prop
  | mk (h' : Heap) (tk : Nat) (nw : Led) (e : s₂ = { s₁ with heap := h', toks := tk }) (F : Fr h₀ L h' m) (N : News h₀ L h' (qI :: qC :: qD :: nw)) (off : Off3' qI.1 qC.1 qD.1 nw) (hJ : J ys nw) : CEnd h₀ L m s₁ qI qC qD J ys s₂

/-- how a target takes its value: Bd says it of the block's names -/
def TgtAt (prog : Program) (w : World) (A : Around) (target : Expr) (cenv : Addr → Env) (P : Nat → Value → Prop) (need : Led) (Bd : Value → (Str → Option Value) → Prop) : Prop :=
  ∀ (i : Nat) (v : Value) (C I : Addr) (s : Shared) (m : Str → Option Value) (K : Unit → Shared → Prop), P i v → LetOk s.heap I → s.heap.Ns C m → (∀ p ∈ need, s.heap.get? p.1 = some p.2) →
    (∀ h' m' tk, h'.Ns C m' → Bd v m' → (∀ b o, b ≠ C → s.heap.get? b = some o → h'.get? b = some o) → K () { s with heap := h', toks := tk }) →
    wpAny (model prog w) A (letOwnedTupleGo target (.ref I) v) (fun _ s₁ => wpAny (model prog w) A (assign target (cenv C) v) K (fun _ _ => False) s₁) (fun _ _ => False) s

inductive CompInv (h₀ : Heap) (L I C D : Addr) (n : Nat) (m : Str → Option Value) (St : Nat → Heap → Prop) (J : Nat → List Value → Led → Prop) (s : Shared) (k : Nat) (s' : Shared) : Prop
  | mk (h₂ : Heap) (tk i : Nat) (ys : List Value) (m' : Str → Option Value) (nw : Led) (e : s' = { s with heap := h₂, toks := tk }) (hi : i ≤ n) (hk : k = n + 1 - i) (hl : ys.length ≤ i) (hst : St i h₂) (F : Fr h₀ L h₂ m) (hn : h₂.Ns C m')
      (N : News h₀ L h₂ ((D, lst ys) :: nw)) (off : Off3' I C D nw) (hJ : J i ys nw) : CompInv h₀ L I C D n m St J s k s'
inductive CompStep (h₀ : Heap) (L I C D : Addr) (m m' : Str → Option Value) (St : Heap → Prop) (ys : List Value) (J : Led → Prop) (s : Shared) (s' : Shared) : Prop
  | mk (h₂ : Heap) (tk : Nat) (nw : Led) (e : s' = { s with heap := h₂, toks := tk }) (hst : St h₂) (F : Fr h₀ L h₂ m) (hn : h₂.Ns C m') (N : News h₀ L h₂ ((D, lst ys) :: nw)) (off : Off3' I C D nw) (hJ : J nw) : CompStep h₀ L I C D m m' St ys J s s'
theorem comp_block {elt iter target : Expr} {ifs : List Expr} {scope : Scope} {cl : List (Str × Addr)} {pos : Pos} {xv : Value} {n : Nat} {P : Nat → Value → Prop} {need news : Led} {Bd : Value → (Str → Option Value) → Prop}
    {RR : Value → Addr → Result → Shared → Prop} (J : Nat → List Value → Led → Prop)
    (src : SrcAt prog w A xv n P need) (hsz : n ≤ sizeLine) (hcell : ∀ y ∈ scope.names, y.2 ≠ .cell) (hkind : scope.kind = .function)
    (tgt : TgtAt prog w A target (fun C => compEnvC scope cl C env) P need Bd)
    (F : Fr h₀ L s.heap m) (N : News h₀ L s.heap news) (hj : J 0 [] news) (hneed : ∀ i ys nw, J i ys nw → ∀ p ∈ need, p ∈ nw)
    (turn : ∀ i v ys nw I oI C oC D m₂ h tk, i < n → P i v → J i ys nw → NsObj oC m₂ → Bd v m₂ → Fr h₀ L h m → News h₀ L h ((I, oI) :: (C, oC) :: (D, lst ys) :: nw) → Off3' I C D nw → @Ne Nat I C → @Ne Nat I D → @Ne Nat C D →
      wpAny (model prog w) A (forIn ifs true fun c r => if r = true then do let ok ← isTrue c (compEnvC scope cl C env) (eval c (compEnvC scope cl C env)); pure (ForInStep.yield ok) else pure (ForInStep.yield r)) (fun ok s₃ =>
        if ok = true then wpAny (model prog w) A (eval elt (compEnvC scope cl C env)) (fun y s₄ => CEnd h₀ L m { s with heap := h, toks := tk } (I, oI) (C, oC) (D, lst ys) (J (i + 1)) (ys ++ [y]) s₄) (fun _ _ => False) s₃
        else CEnd h₀ L m { s with heap := h, toks := tk } (I, oI) (C, oC) (D, lst ys) (J (i + 1)) ys s₃) (fun _ _ => False) { s with heap := h, toks := tk })
    (hRR : ∀ D C m' ys nw h tk, J n ys nw → Fr h₀ L h m → News h₀ L h ((D, lst ys) :: nw) → (∀ p ∈ nw, p.1 ≠ D) → h.Ns C m' → C ≠ L → C ≠ D → h₀.get? C = none → (∀ p ∈ nw, p.1 ≠ C) → (∀ p ∈ news, p.1 < D) → RR (.ref D) C (.ok .next) { s with heap := h, toks := tk }) :
    wpAny (model prog w) A (pyIter xv) (fun it s₂ => wpAny (model prog w) A (newList []) (fun acc s₃ => wpAny (model prog w) A (newFunctionEnv scope env.globals cl [] env.qual none .none (some env)) (fun cenv s₄ =>
      codeAny (model prog w) A (.compStart (.ListComp elt [⟨target, iter, ifs, 0⟩] scope pos) 0 it acc { cenv with scope := relabel scope env }) (RR acc cenv.locals) s₄) E s₃) E s₂) E s := by
  refine src s _ _ (fun p hp => (N p (hneed _ _ _ hj p hp)).1) fun I fp St h' hk hI W hfp hst hIo hSt hLet => ?_
  have hLo : ∃ o, s.heap.get? L = some o := let ⟨o, _, _, e, _⟩ := F.ns; ⟨o, e⟩
  have hIL : L ≠ I := fun e => by obtain ⟨o, ho⟩ := hLo; rw [e, hI] at ho; cases ho
  have hI₀ : h₀.get? I = none := by
    cases e : h₀.get? I with
    | none => rfl
    | some o => have := F.keep I o e; rw [hI] at this; cases this
  have hneI : ∀ p ∈ news, p.1 ≠ I := fun p hp e => by have := (N p hp).1; rw [e, hI] at this; cases this
  have F := F.keeps hk
  have N : News h₀ L h' news := fun p hp => ⟨hk _ _ (N p hp).1, (N p hp).2⟩
  obtain ⟨oI0, hoI0⟩ := hIo _ _ hst
  refine wpAny_newObj_type (wpAny_newFunctionEnv hcell (by intro y hy; simp at hy) (fun h₁ hns₁ hsb₁ => ?_) hkind)
  dsimp only at hns₁ hsb₁ ⊢
  generalize hH2 : h'.push { cls := .type "list", dict := none, data := .seq ([] : List Value).toArray } = H2 at hns₁ hsb₁ ⊢
  have hC : H2.objs.size = h'.objs.size + 1 := by rw [← hH2, Heap.size_push]
  have hDC : h'.objs.size ≠ H2.objs.size := by rw [hC]; exact Nat.ne_of_lt (Nat.lt_succ_self _)
  have below : ∀ b, b < h'.objs.size → b ≠ H2.objs.size ∧ b ≠ h'.objs.size := fun b hb => ⟨by rw [hC]; exact Nat.ne_of_lt (Nat.lt_succ_of_lt hb), Nat.ne_of_lt hb⟩
  have old : ∀ b o, h'.get? b = some o → h₁.get? b = some o := fun b o e => hsb₁.extBut b o (below b (Heap.lt_size e)).1 (Heap.get?_push_of_some _ (hH2 ▸ Heap.get?_push_of_some _ e))
  have hacc : h₁.get? h'.objs.size = some (lst []) := hsb₁.extBut _ _ hDC (Heap.get?_push_of_some _ (hH2 ▸ Heap.get?_push_size _ rfl))
  have fresh : ∀ a, h'.objs.size ≤ a → h'.get? a = none := fun a ha => by
    cases e : h'.get? a with
    | none => rfl
    | some o' => exact absurd (Heap.lt_size e) (Nat.not_lt.mpr ha)
  have fresh₀ : ∀ a, h'.objs.size ≤ a → h₀.get? a = none := fun a ha => by
    cases e : h₀.get? a with
    | none => rfl
    | some o' => have := F.keep a o' e; rw [fresh a ha] at this; cases this
  have hD₀ : h₀.get? h'.objs.size = none := fresh₀ _ (Nat.le_refl _)
  have hC₀ : h₀.get? H2.objs.size = none := fresh₀ _ (by rw [hC]; exact Nat.le_succ _)
  have hLlt : L < h'.objs.size := F.ns.lt
  have hIlt : I < h'.objs.size := Heap.lt_size hoI0
  have hDL : h'.objs.size ≠ L := Ne.symm (below L hLlt).2
  have hCL : H2.objs.size ≠ L := Ne.symm (below L hLlt).1
  have hCI : I ≠ H2.objs.size := (below I hIlt).1
  have hDI : I ≠ h'.objs.size := (below I hIlt).2
  have off₀ : Off3' I H2.objs.size h'.objs.size news := fun p hp => ⟨hneI p hp, (below _ (Heap.lt_size (N p hp).1)).1, (below _ (Heap.lt_size (N p hp).1)).2⟩
  have habove : ∀ p ∈ news, p.1 < h'.objs.size := fun p hp => Heap.lt_size (N p hp).1
  have hst₁ : St 0 h₁ := hSt _ _ _ _ hst hoI0 (old _ _ hoI0) fun p hp => old _ _ (N p (hneed _ _ _ hj p hp)).1
  have F₁ := F.keeps old
  have loop : ∀ s₃ : Shared, s₃ = { s with heap := h₁, toks := s.toks + ([] : List (Str × Value)).length } →
      codeAny (model prog w) A (.compLoop (.ListComp elt [⟨target, iter, ifs, 0⟩] scope pos) 0 (.ref I) (.ref h'.objs.size) (compEnvC scope cl H2.objs.size env)) (RR (.ref h'.objs.size) H2.objs.size) s₃ := by
    rintro s₃ rfl
    refine compLoop_any
      (fun k s' => CompInv h₀ L I H2.objs.size h'.objs.size n m St J s k s') ?_ (n + 1)
      ⟨h₁, _, 0, [], _, news, rfl, Nat.zero_le _, rfl, Nat.le_refl _, hst₁, F₁, hns₁, fun p hp => ?_, off₀, hj⟩
    · rintro k s' ⟨h₂, tk, i, ys, m', nw, rfl, hi, rfl, hyl, hst', F', hn', N', off', hJ⟩
      by_cases hlt : i < n
      · refine W.item i _ _ _ hlt hst' fun v h₃ tk₃ hPv hst₃ hk₃ => ?_
        have F₃ := fr_but F' hk₃ hIL hI₀
        have N₃ : News h₀ L h₃ ((h'.objs.size, lst ys) :: nw) := news_but N' hk₃ fun p hp => by
          rcases List.mem_cons.mp hp with rfl | hp
          · exact Ne.symm hDI
          · exact (off' p hp).1
        have hn₃ : h₃.Ns H2.objs.size m' := hn'.at' fun o e => hk₃ _ o (by simpa using Ne.symm hCI) e
        refine tgt i v H2.objs.size I _ m' _ hPv (hLet _ _ hst₃) hn₃ (fun p hp => (N₃ p (.tail _ (hneed _ _ _ hJ p hp))).1) fun h₄ m₄ tk₄ hn₄ hb hk₄ => ?_
        obtain ⟨oI, hoI⟩ := hIo _ _ hst₃
        have hoI₄ := hk₄ _ _ hCI hoI
        have N₄' : News h₀ L h₄ ((h'.objs.size, lst ys) :: nw) := fun p hp => by
          refine ⟨hk₄ _ _ ?_ (N₃ p hp).1, (N₃ p hp).2⟩
          rcases List.mem_cons.mp hp with rfl | hp
          · exact hDC
          · exact (off' p hp).2.1
        have hst₄ : St (i + 1) h₄ := hSt _ _ _ _ hst₃ hoI hoI₄ fun p hp => (N₄' p (.tail _ (hneed _ _ _ hJ p hp))).1
        have F₄ : Fr h₀ L h₄ m := fr_but F₃ (fun b o hb e => hk₄ b o (by simpa using hb) e) (Ne.symm hCL) hC₀
        obtain ⟨oC, heC, hoC⟩ := ns_obj hn₄
        have N₄ : News h₀ L h₄ ((I, oI) :: (H2.objs.size, oC) :: (h'.objs.size, lst ys) :: nw) := fun p hp => by
          rcases List.mem_cons.mp hp with rfl | hp
          · exact ⟨hoI₄, Ne.symm hIL, hI₀⟩
          · rcases List.mem_cons.mp hp with rfl | hp
            · exact ⟨heC, hCL, hC₀⟩
            · exact N₄' p hp
        have fin : ∀ ys' s₅, CEnd h₀ L m { s with heap := h₄, toks := tk₄ } (I, oI) (H2.objs.size, oC) (h'.objs.size, lst ys) (J (i + 1)) ys' s₅ →
            CompStep h₀ L I H2.objs.size h'.objs.size m m₄ (St (i + 1)) ys (J (i + 1) ys') s s₅ := by
          intro ys' s₅ hz2
          (try k_fold); (try (show (let GZ : Prop := _; GZ); intro GZ))
          obtain ⟨h₅, tk₅, nw₅, rfl, F₅, N₅, off₅, hJ₅⟩ := hz2
          (try k_unfold)
          refine ⟨h₅, tk₅, nw₅, rfl, hSt _ _ _ _ hst₄ hoI₄ (N₅ _ (.head _)).1 fun p hp => (N₅ p (.tail _ (.tail _ (.tail _ (hneed _ _ _ hJ₅ p hp))))).1, F₅, hoC.ns (N₅ _ (.tail _ (.head _))).1, fun p hp => N₅ p (.tail _ (.tail _ hp)), off₅, hJ₅⟩
        refine wpAny_mono (turn i v ys nw I oI H2.objs.size oC h'.objs.size m₄ h₄ tk₄ hlt hPv hJ hoC hb F₄ N₄ off' hCI hDI (Ne.symm hDC)) (fun ok s₅ hok => ?_) fun _ _ e => e.elim
        cases ok with
        | false =>
          (try k_fold); (try (show (let GZ : Prop := _; GZ); intro GZ))
          obtain ⟨h₅, tk₅, nw₅, rfl, a1, a2, a3, a4, a5, a6⟩ := fin _ _ hok
          (try k_unfold)
          exact ⟨n + 1 - (i + 1), by omega, h₅, tk₅, i + 1, ys, _, nw₅, rfl, hlt, rfl, Nat.le_succ_of_le hyl, a1, a2, a3, a4, a5, a6⟩
        | true =>
          refine wpAny_mono hok (fun y s₆ hok6 => ?_) fun _ _ e => e.elim
          (try k_fold); (try (show (let GZ : Prop := _; GZ); intro GZ))
          obtain ⟨h₆, tk₆, nw₆, rfl, a1, a2, a3, a4, a5, a6⟩ := fin _ _ hok6
          (try k_unfold)
          refine append_at (hsz := by show ys.toArray.size ≤ sizeLine; rw [List.size_toArray]; omega) (a4 _ (.head _)).1 fun h₇ hs₇ hD₇ => ?_
          have hk₇ : ∀ b o, b ≠ h'.objs.size → h₆.get? b = some o → h₇.get? b = some o := fun b o hb e => (hs₇.2 b hb).trans e
          refine ⟨n + 1 - (i + 1), by omega, h₇, tk₆, i + 1, ys ++ [y], _, nw₆, rfl, hlt, rfl, by rw [List.length_append, List.length_singleton]; omega, ?_, a2.change hs₇ hDL hD₀, a3.sameBut hs₇ (Ne.symm hDC), ?_, a5, a6⟩
          · obtain ⟨oI', hoI'⟩ := hIo _ _ a1
            exact hSt _ _ _ _ a1 hoI' (hk₇ _ _ hDI hoI') fun p hp => hk₇ _ _ (a5 p (hneed _ _ _ a6 p hp)).2.2 (a4 p (.tail _ (hneed _ _ _ a6 p hp))).1
          · intro p hp
            rcases List.mem_cons.mp hp with rfl | hp
            · exact ⟨hD₇.trans (congrArg some (lst_snoc ys y)), hDL, hD₀⟩
            · exact ⟨hk₇ _ _ (a5 p hp).2.2 (a4 p (.tail _ hp)).1, (a4 p (.tail _ hp)).2⟩
      · obtain rfl : i = n := by omega
        refine W.done _ _ _ hst' fun h₃ tk₃ hk₃ => ?_
        have N₃ : News h₀ L h₃ ((h'.objs.size, lst ys) :: nw) := news_but N' hk₃ fun p hp => by
          rcases List.mem_cons.mp hp with rfl | hp
          · exact Ne.symm hDI
          · exact (off' p hp).1
        exact hRR _ _ m' ys nw h₃ tk₃ hJ (fr_but F' hk₃ hIL hI₀) N₃ (fun p hp => (off' p hp).2.2) (hn'.at' fun o e => hk₃ _ o (by simpa using Ne.symm hCI) e) hCL (Ne.symm hDC) hC₀ (fun p hp => (off' p hp).2.1) habove
    · rcases List.mem_cons.mp hp with rfl | hp
      · exact ⟨hacc, hDL, hD₀⟩
      · exact ⟨old _ _ (N p hp).1, (N p hp).2⟩
  exact codeAny_compStart_list (loop _ rfl) (W.self 0 _ _ _ hst₁ (loop _ rfl))
end

section
open PyProof.Rows.LCg (NsObj ns_obj lst lst_snoc)
variable {prog : Program} {w : World} {A : Around} {E : Value → Shared → Prop} {s : Shared} {env : Env} {h₀ : Heap} {L : Addr} {m : Str → Option Value}
theorem src_mono {xv : Value} {n : Nat} {P : Nat → Value → Prop} {need need' : Led} (src : SrcAt prog w A xv n P need) (hs : ∀ p ∈ need, p ∈ need') : SrcAt prog w A xv n P need' := by
  intro s E K hn hK
  refine src s E K (fun p hp => hn p (hs p hp)) fun I fp St h' hk hI W hfp hst hIo hSt hLet => hK I fp St h' hk hI W (fun b hb => ?_) hst hIo (fun i h h₂ o a b c d => hSt i h h₂ o a b c fun p hp => d p (hs p hp)) hLet
  rcases hfp b hb with h | ⟨p, hp, e⟩
  · exact .inl h
  · exact .inr ⟨p, hs p hp, e⟩

theorem tgt_name {x : Str} {px : Pos} {scope : Scope} {cl : List (Str × Addr)} {P : Nat → Value → Prop} {need : Led} (hx : scope.names.lookup x = some .local) (hkind : scope.kind = .function) :
    TgtAt prog w A (.Name x px) (fun C => compEnvC scope cl C env) P need (fun v m => m x = some v) := by
  intro i v C I s m K _ _ hn _ hK
  refine wpAny_pure ?_
  exact wpAny_assign_Name (wpAny_storeName_local (lookup_relabel_local hx) hn (fun h₂ hn₂ hs₂ => hK _ _ _ hn₂ (by simp) fun b o hb e => (hs₂.2 b hb).trans e) (by simp [compEnvC, relabel, hkind]))

def PairBd (need : Led) (x x₂ : Str) (v : Value) (m : Str → Option Value) : Prop := ∃ t v1 v2 n, v = .ref t ∧ (t, tupO [v1, v2] n) ∈ need ∧ m x = some v1 ∧ m x₂ = some v2
theorem tgt_pair {x x₂ : Str} {px px₂ tp : Pos} {k} {scope : Scope} {cl : List (Str × Addr)} {P : Nat → Value → Prop} {need : Led} (hh : A.handled = none) (hx : scope.names.lookup x = some .local) (hx₂ : scope.names.lookup x₂ = some .local) (hxx : x ≠ x₂) (hkind : scope.kind = .function)
    (hP : ∀ i v, P i v → ∃ t v1 v2 n, v = .ref t ∧ (t, tupO [v1, v2] n) ∈ need) :
    TgtAt prog w A (.Tuple [.Name x px, .Name x₂ px₂] k tp) (fun C => compEnvC scope cl C env) P need (PairBd need x x₂) := by
  intro i v C I s m K hPv hLet hn hneed hK
  (try k_fold); (try (show (let GZ : Prop := _; GZ); intro GZ))
  obtain ⟨t, v1, v2, n, rfl, hm⟩ := hP i v hPv
  (try k_unfold)
  refine letOwned_tup hLet ?_
  have ht : IsTup s.heap t #[v1, v2] := ⟨_, hneed _ hm, rfl, n, rfl⟩
  refine assign_Tuple_tuple hh ht rfl rfl fun h₅ he => ?_
  have he' : ∀ b o, s.heap.get? b = some o → h₅.get? b = some o := fun b o e => he b o (Nat.ne_of_lt (Heap.lt_size e)) e
  refine assignInOrder_cons (wpAny_assign_Name (wpAny_storeName_local (lookup_relabel_local hx) (hn.at' fun o e => he' _ o e) (fun h₆ hn₆ hs₆ => ?_) (by simp [compEnvC, relabel, hkind])))
  refine assignInOrder_cons (wpAny_assign_Name (wpAny_storeName_local (lookup_relabel_local hx₂) hn₆ (fun h₃ hn₃ hs₃ => ?_) (by simp [compEnvC, relabel, hkind])))
  refine assignInOrder_nil ?_
  exact hK _ _ _ hn₃ ⟨t, v1, v2, n, rfl, hm, by simp [hxx], by simp⟩ fun b o hb e => (hs₃.2 b hb).trans ((hs₆.2 b hb).trans (he' b o e))

def CompHold (prog : Program) (w : World) (A : Around) (E : Value → Shared → Prop) (env : Env) (elt target iter : Expr) (ifs : List Expr) (scope : Scope) (cl : List (Str × Addr)) (pos : Pos) (use : Option (Value → Sem Unit)) (Q : Value → Shared → Prop) (xv : Value) (s : Shared) : Prop :=
  wpAny (model prog w) A (pyIter xv) (fun it s₂ => wpAny (model prog w) A (newList []) (fun acc s₃ => wpAny (model prog w) A (newFunctionEnv scope env.globals cl [] env.qual none .none (some env)) (fun cenv s₄ =>
      codeAny (model prog w) A (.compStart (.ListComp elt [⟨target, iter, ifs, 0⟩] scope pos) 0 it acc { cenv with scope := relabel scope env }) (compPost (model prog w) A E use Q acc cenv.locals) s₄) E s₃) E s₂) E s

theorem Comp_hold {elt target iter : Expr} {ifs : List Expr} {scope : Scope} {cl : List (Str × Addr)} {pos : Pos} {Q : Value → Shared → Prop}
    (hclos : closureFor scope env = pure cl) (hkind : scope.kind = .function) (hnames : ∀ y ∈ scope.names, y.2 = .local → scope.names.lookup y.1 = some .local)
    (h : wpAny (model prog w) A (eval iter env) (fun xv s₁ => CompHold prog w A E env elt target iter ifs scope cl pos none Q xv s₁) E s) (hs : ∀ x, foldedSetIterable iter env x = pure x := by intro _; rfl) :
    wpAny (model prog w) A (eval (.ListComp elt [⟨target, iter, ifs, 0⟩] scope pos) env) Q E s := by
  rw [eval_ListComp]
  exact wpAny_comprehension_free (use := none) rfl hs hclos hkind hnames h

theorem Comp_holdA {elt target iter : Expr} {ifs : List Expr} {scope : Scope} {cl : List (Str × Addr)} {pos spos : Pos} {y : Str} {py : Pos} {Q : Flow → Shared → Prop}
    (hsw : swapsWith (.ListComp elt [⟨target, iter, ifs, 0⟩] scope pos) (some (.Name y py)) spos.line env = pure true)
    (hclos : closureFor scope env = pure cl) (hkind : scope.kind = .function) (hnames : ∀ y ∈ scope.names, y.2 = .local → scope.names.lookup y.1 = some .local)
    (h : wpAny (model prog w) A (eval iter env) (fun xv s₁ => CompHold prog w A E env elt target iter ifs scope cl pos (some (assign (.Name y py) env)) (fun _ s' => Q .next s') xv s₁) E s) (hs : ∀ x, foldedSetIterable iter env x = pure x := by intro _; rfl) :
    wpAny (model prog w) A (exec (.Assign [.Name y py] (.ListComp elt [⟨target, iter, ifs, 0⟩] scope pos) spos) env) Q E s := by
  rw [exec_Assign_Name_used _ _ _ _ hsw]
  refine wpAny_bind (wpAny_standAt (wpAny_bind ?_))
  show wpAny _ A (do let _ ← comprehension (.ListComp elt [⟨target, iter, ifs, 0⟩] scope pos) scope env _ (newList []) false (eval iter env) (some (assign (.Name y py) env))) _ _ s
  exact wpAny_bind (wpAny_mono (wpAny_comprehension_free (use := some (assign (.Name y py) env)) (Q := fun _ s' => Q .next s') rfl hs hclos hkind hnames h) (fun _ s' hq => wpAny_pure (wpAny_pure hq)) fun _ _ e => e)

theorem comp_rest_0 {elt iter target : Expr} {ifs : List Expr} {scope : Scope} {cl : List (Str × Addr)} {pos : Pos} {xv : Value} {n : Nat} {P : Nat → Value → Prop} {need news : Led} {Bd : Value → (Str → Option Value) → Prop} {Q : Value → Shared → Prop} (J : Nat → List Value → Led → Prop)
    (src : SrcAt prog w A xv n P need) (hsz : n ≤ sizeLine) (hcell : ∀ y ∈ scope.names, y.2 ≠ .cell) (hkind : scope.kind = .function)
    (tgt : TgtAt prog w A target (fun C => compEnvC scope cl C env) P need Bd)
    (F : Fr h₀ L s.heap m) (N : News h₀ L s.heap news) (hj : J 0 [] news) (hneed : ∀ i ys nw, J i ys nw → ∀ p ∈ need, p ∈ nw)
    (turn : ∀ i v ys nw I oI C oC D m₂ h tk, i < n → P i v → J i ys nw → NsObj oC m₂ → Bd v m₂ → Fr h₀ L h m → News h₀ L h ((I, oI) :: (C, oC) :: (D, lst ys) :: nw) → Off3' I C D nw → @Ne Nat I C → @Ne Nat I D → @Ne Nat C D →
      wpAny (model prog w) A (forIn ifs true fun c r => if r = true then do let ok ← isTrue c (compEnvC scope cl C env) (eval c (compEnvC scope cl C env)); pure (ForInStep.yield ok) else pure (ForInStep.yield r)) (fun ok s₃ =>
        if ok = true then wpAny (model prog w) A (eval elt (compEnvC scope cl C env)) (fun y s₄ => CEnd h₀ L m { s with heap := h, toks := tk } (I, oI) (C, oC) (D, lst ys) (J (i + 1)) (ys ++ [y]) s₄) (fun _ _ => False) s₃
        else CEnd h₀ L m { s with heap := h, toks := tk } (I, oI) (C, oC) (D, lst ys) (J (i + 1)) ys s₃) (fun _ _ => False) { s with heap := h, toks := tk })
    (done : ∀ D ys nw h tk, J n ys nw → Fr h₀ L h m → News h₀ L h ((D, lst ys) :: nw) → (∀ p ∈ nw, p.1 ≠ D) → (∀ p ∈ news, p.1 < D) → Q (.ref D) { s with heap := h, toks := tk }) :
    CompHold prog w A E env elt target iter ifs scope cl pos none Q xv s := by
  refine comp_block J src hsz hcell hkind tgt F N hj hneed turn fun D C m' ys nw h tk hJ F' N' hD hn hCL hCD hC₀ hC hlt => ?_
  refine ⟨m', hn, fun h'' hs => ?_⟩
  exact done D ys nw h'' tk hJ (F'.change hs hCL hC₀) (fun p hp => ⟨(hs.2 p.1 (by
    rcases List.mem_cons.mp hp with rfl | hp
    · exact Ne.symm hCD
    · exact hC p hp)).trans (N' p hp).1, (N' p hp).2⟩) hD hlt

theorem comp_rest {hp0 : Heap} {gs : Array GenState} {dr : Drawn} {tk0 : Nat} {os0 : OsState} {elt iter target : Expr} {ifs : List Expr} {scope : Scope} {cl : List (Str × Addr)} {pos : Pos} {xv : Value} {n : Nat} {P : Nat → Value → Prop} {need news : Led} {Bd : Value → (Str → Option Value) → Prop} {Q : Value → Shared → Prop} (J : Nat → List Value → Led → Prop)
    (src : SrcAt prog w A xv n P need) (hsz : n ≤ sizeLine) (hcell : ∀ y ∈ scope.names, y.2 ≠ .cell) (hkind : scope.kind = .function)
    (tgt : TgtAt prog w A target (fun C => compEnvC scope cl C env) P need Bd)
    (F : Fr h₀ L hp0 m) (N : News h₀ L hp0 news) (hj : J 0 [] news) (hneed : ∀ i ys nw, J i ys nw → ∀ p ∈ need, p ∈ nw)
    (turn : ∀ i v ys nw I oI C oC D m₂ h tk, i < n → P i v → J i ys nw → NsObj oC m₂ → Bd v m₂ → Fr h₀ L h m → News h₀ L h ((I, oI) :: (C, oC) :: (D, lst ys) :: nw) → Off3' I C D nw → @Ne Nat I C → @Ne Nat I D → @Ne Nat C D →
      wpAny (model prog w) A (forIn ifs true fun c r => if r = true then do let ok ← isTrue c (compEnvC scope cl C env) (eval c (compEnvC scope cl C env)); pure (ForInStep.yield ok) else pure (ForInStep.yield r)) (fun ok s₃ =>
        if ok = true then wpAny (model prog w) A (eval elt (compEnvC scope cl C env)) (fun y s₄ => CEnd h₀ L m ⟨h, gs, dr, tk, os0⟩ (I, oI) (C, oC) (D, lst ys) (J (i + 1)) (ys ++ [y]) s₄) (fun _ _ => False) s₃
        else CEnd h₀ L m ⟨h, gs, dr, tk, os0⟩ (I, oI) (C, oC) (D, lst ys) (J (i + 1)) ys s₃) (fun _ _ => False) ⟨h, gs, dr, tk, os0⟩)
    (done : ∀ D ys nw h tk, J n ys nw → Fr h₀ L h m → News h₀ L h ((D, lst ys) :: nw) → (∀ p ∈ nw, p.1 ≠ D) → (∀ p ∈ news, p.1 < D) → Q (.ref D) ⟨h, gs, dr, tk, os0⟩) :
    CompHold prog w A E env elt target iter ifs scope cl pos none Q xv ⟨hp0, gs, dr, tk0, os0⟩ :=
  comp_rest_0 (s := ⟨hp0, gs, dr, tk0, os0⟩) J src hsz hcell hkind tgt F N hj hneed turn done
theorem comp_restA_0 {elt iter target : Expr} {ifs : List Expr} {scope : Scope} {cl : List (Str × Addr)} {pos : Pos} {y : Str} {py : Pos} {xv : Value} {n : Nat} {P : Nat → Value → Prop} {need news : Led} {Bd : Value → (Str → Option Value) → Prop} {Q : Value → Shared → Prop} (J : Nat → List Value → Led → Prop)
    (src : SrcAt prog w A xv n P need) (hsz : n ≤ sizeLine) (hcell : ∀ y ∈ scope.names, y.2 ≠ .cell) (hkind : scope.kind = .function)
    (tgt : TgtAt prog w A target (fun C => compEnvC scope cl C env) P need Bd)
    (F : Fr h₀ L s.heap m) (N : News h₀ L s.heap news) (hj : J 0 [] news) (hneed : ∀ i ys nw, J i ys nw → ∀ p ∈ need, p ∈ nw)
    (turn : ∀ i v ys nw I oI C oC D m₂ h tk, i < n → P i v → J i ys nw → NsObj oC m₂ → Bd v m₂ → Fr h₀ L h m → News h₀ L h ((I, oI) :: (C, oC) :: (D, lst ys) :: nw) → Off3' I C D nw → @Ne Nat I C → @Ne Nat I D → @Ne Nat C D →
      wpAny (model prog w) A (forIn ifs true fun c r => if r = true then do let ok ← isTrue c (compEnvC scope cl C env) (eval c (compEnvC scope cl C env)); pure (ForInStep.yield ok) else pure (ForInStep.yield r)) (fun ok s₃ =>
        if ok = true then wpAny (model prog w) A (eval elt (compEnvC scope cl C env)) (fun y s₄ => CEnd h₀ L m { s with heap := h, toks := tk } (I, oI) (C, oC) (D, lst ys) (J (i + 1)) (ys ++ [y]) s₄) (fun _ _ => False) s₃
        else CEnd h₀ L m { s with heap := h, toks := tk } (I, oI) (C, oC) (D, lst ys) (J (i + 1)) ys s₃) (fun _ _ => False) { s with heap := h, toks := tk })
    (done : ∀ D C oC ys nw h tk (K : Shared → Prop), J n ys nw → Fr h₀ L h m → News h₀ L h ((C, oC) :: (D, lst ys) :: nw) → (∀ p ∈ nw, p.1 ≠ D ∧ p.1 ≠ C) → @Ne Nat C D → (∀ p ∈ news, p.1 < D) →
      (∀ h' tk' m' nw', Fr h₀ L h' m' → News h₀ L h' ((C, oC) :: nw') → (∀ p ∈ nw', p.1 ≠ C) → (∀ h'' tk'', Fr h₀ L h'' m' → News h₀ L h'' nw' → Q .none { s with heap := h'', toks := tk'' }) → K { s with heap := h', toks := tk' }) →
      wpAny (model prog w) A (assign (.Name y py) env (.ref D)) (fun _ s' => K s') E { s with heap := h, toks := tk }) :
    CompHold prog w A E env elt target iter ifs scope cl pos (some (assign (.Name y py) env)) Q xv s := by
  refine comp_block J src hsz hcell hkind tgt F N hj hneed turn fun D C m' ys nw h tk hJ F' N' hD hn hCL hCD hC₀ hC hlt => ?_
  obtain ⟨oC, heC, hoC⟩ := ns_obj hn
  refine done D C oC ys nw h tk _ hJ F' (fun p hp => ?_) (fun p hp => ⟨hD p hp, hC p hp⟩) hCD hlt fun h₁ tk₁ m₁ nw₁ F₁ N₁ hne₁ hQ => ?_
  · rcases List.mem_cons.mp hp with rfl | hp
    · exact ⟨heC, hCL, hC₀⟩
    · exact N' p hp
  · refine ⟨m', hoC.ns (N₁ _ (.head _)).1, fun h'' hs => hQ h'' tk₁ (F₁.change hs hCL hC₀) fun p hp => ⟨(hs.2 p.1 (hne₁ p hp)).trans (N₁ p (.tail _ hp)).1, (N₁ p (.tail _ hp)).2⟩⟩

theorem comp_restA {hp0 : Heap} {gs : Array GenState} {dr : Drawn} {tk0 : Nat} {os0 : OsState} {elt iter target : Expr} {ifs : List Expr} {scope : Scope} {cl : List (Str × Addr)} {pos : Pos} {y : Str} {py : Pos} {xv : Value} {n : Nat} {P : Nat → Value → Prop} {need news : Led} {Bd : Value → (Str → Option Value) → Prop} {Q : Value → Shared → Prop} (J : Nat → List Value → Led → Prop)
    (src : SrcAt prog w A xv n P need) (hsz : n ≤ sizeLine) (hcell : ∀ y ∈ scope.names, y.2 ≠ .cell) (hkind : scope.kind = .function)
    (tgt : TgtAt prog w A target (fun C => compEnvC scope cl C env) P need Bd)
    (F : Fr h₀ L hp0 m) (N : News h₀ L hp0 news) (hj : J 0 [] news) (hneed : ∀ i ys nw, J i ys nw → ∀ p ∈ need, p ∈ nw)
    (turn : ∀ i v ys nw I oI C oC D m₂ h tk, i < n → P i v → J i ys nw → NsObj oC m₂ → Bd v m₂ → Fr h₀ L h m → News h₀ L h ((I, oI) :: (C, oC) :: (D, lst ys) :: nw) → Off3' I C D nw → @Ne Nat I C → @Ne Nat I D → @Ne Nat C D →
      wpAny (model prog w) A (forIn ifs true fun c r => if r = true then do let ok ← isTrue c (compEnvC scope cl C env) (eval c (compEnvC scope cl C env)); pure (ForInStep.yield ok) else pure (ForInStep.yield r)) (fun ok s₃ =>
        if ok = true then wpAny (model prog w) A (eval elt (compEnvC scope cl C env)) (fun y s₄ => CEnd h₀ L m ⟨h, gs, dr, tk, os0⟩ (I, oI) (C, oC) (D, lst ys) (J (i + 1)) (ys ++ [y]) s₄) (fun _ _ => False) s₃
        else CEnd h₀ L m ⟨h, gs, dr, tk, os0⟩ (I, oI) (C, oC) (D, lst ys) (J (i + 1)) ys s₃) (fun _ _ => False) ⟨h, gs, dr, tk, os0⟩)
    (done : ∀ D C oC ys nw h tk (K : Shared → Prop), J n ys nw → Fr h₀ L h m → News h₀ L h ((C, oC) :: (D, lst ys) :: nw) → (∀ p ∈ nw, p.1 ≠ D ∧ p.1 ≠ C) → @Ne Nat C D → (∀ p ∈ news, p.1 < D) →
      (∀ h' tk' m' nw', Fr h₀ L h' m' → News h₀ L h' ((C, oC) :: nw') → (∀ p ∈ nw', p.1 ≠ C) → (∀ h'' tk'', Fr h₀ L h'' m' → News h₀ L h'' nw' → Q .none ⟨h'', gs, dr, tk'', os0⟩) → K ⟨h', gs, dr, tk', os0⟩) →
      wpAny (model prog w) A (assign (.Name y py) env (.ref D)) (fun _ s' => K s') E ⟨h, gs, dr, tk, os0⟩) :
    CompHold prog w A E env elt target iter ifs scope cl pos (some (assign (.Name y py) env)) Q xv ⟨hp0, gs, dr, tk0, os0⟩ :=
  comp_restA_0 (s := ⟨hp0, gs, dr, tk0, os0⟩) J src hsz hcell hkind tgt F N hj hneed turn done
theorem tests_one {c : Expr} {env : Env} {Q : Bool → Shared → Prop} (h : wpAny (model prog w) A (isTrue c env (eval c env)) Q E s) :
    wpAny (model prog w) A (forIn [c] true fun c r => if r = true then do let ok ← isTrue c env (eval c env); pure (ForInStep.yield ok) else pure (ForInStep.yield r)) Q E s := by
  show wpAny _ _ ((if true = true then do let ok ← isTrue c env (eval c env); pure (ForInStep.yield ok) else pure (ForInStep.yield true)) >>= _) _ _ _
  refine wpAny_bind ?_
  rw [if_pos rfl]
  refine wpAny_bind (wpAny_mono h (fun ok s' hq => wpAny_pure ?_) fun _ _ e => e)
  exact wpAny_pure hq
theorem tests_none {env : Env} {Q : Bool → Shared → Prop} (h : Q true s) :
    wpAny (model prog w) A (forIn ([] : List Expr) true fun c r => if r = true then do let ok ← isTrue c env (eval c env); pure (ForInStep.yield ok) else pure (ForInStep.yield r)) Q E s := wpAny_pure h
end

end PCp
section PRg
abbrev rangeO (b : Int) (t u v : Tok) : Obj := { cls := .type "range", dict := none, data := .fields #[.int 0 t, .int b u, .int 1 v], slots := #[] }
section
variable {prog : Program} {w : World} {A : Around} {E : Value → Shared → Prop} {s : Shared} {h₀ : Heap} {L : Addr} {m : Str → Option Value}
theorem range_K_0 {Q : Value → Shared → Prop} {n : Int} {t : Tok} {news : Led} (F : Fr h₀ L s.heap m) (N : News h₀ L s.heap news)
    (h : ∀ r t₁ u₁ v₁ h' tk, Fr h₀ L h' m → News h₀ L h' ((r, rangeO n t₁ u₁ v₁) :: news) → (∀ p ∈ news, p.1 < r) → Q (.ref r) { s with heap := h', toks := tk }) :
    wpAny (model prog w) A (call (.type "range") [.int n t]) Q E s :=
  call_range_1 (h s.heap.objs.size _ _ _ _ _ (F.push _) (N.push F _) fun p hp => Heap.lt_size (N p hp).1)
theorem range_K {hp0 : Heap} {gs : Array GenState} {dr : Drawn} {tk0 : Nat} {os0 : OsState} {Q : Value → Shared → Prop} {n : Int} {t : Tok} {news : Led} (F : Fr h₀ L hp0 m) (N : News h₀ L hp0 news)
    (h : ∀ r t₁ u₁ v₁ h' tk, Fr h₀ L h' m → News h₀ L h' ((r, rangeO n t₁ u₁ v₁) :: news) → (∀ p ∈ news, p.1 < r) → Q (.ref r) ⟨h', gs, dr, tk, os0⟩) :
    wpAny (model prog w) A (call (.type "range") [.int n t]) Q E ⟨hp0, gs, dr, tk0, os0⟩ :=
  range_K_0 (s := ⟨hp0, gs, dr, tk0, os0⟩) F N h
theorem src_rangeO (hh : A.handled = none) (r : Addr) (n : Nat) (b : Int) (t u v : Tok) (hb : b = n) (hn : n < 1000) :
    SrcAt prog w A (.ref r) n (fun i x => ∃ t, x = .int i t) [(r, rangeO b t u v)] := by
  subst hb
  exact src_range hh r n _ t u v (fun h e => e) hn
end
/-! sides and goals over a ledger -/
inductive All2 {α β : Type} (R : α → β → Prop) : List α → List β → Prop
  | nil : All2 R [] []
  | cons {a : α} {b : β} {as : List α} {bs : List β} : R a b → All2 R as bs → All2 R (a :: as) (b :: bs)
section
variable {α β : Type} {R S : α → β → Prop}
theorem All2.imp (h : ∀ a b, R a b → S a b) {as : List α} {bs : List β} (k : All2 R as bs) : All2 S as bs := by
  induction k with
  | nil => exact .nil
  | cons h1 _ ih => exact .cons (h _ _ h1) ih
theorem All2.snoc {as : List α} {bs : List β} {a : α} {b : β} (k : All2 R as bs) (h : R a b) : All2 R (as ++ [a]) (bs ++ [b]) := by
  induction k with
  | nil => exact .cons h .nil
  | cons h1 _ ih => exact .cons h1 ih
theorem All2.length {as : List α} {bs : List β} (k : All2 R as bs) : as.length = bs.length := by
  induction k with
  | nil => rfl
  | cons _ _ ih => simp [ih]
theorem All2.get {as : List α} {bs : List β} (k : All2 R as bs) : ∀ (i : Nat) (a : α), as[i]? = some a → ∃ b, bs[i]? = some b ∧ R a b := by
  induction k with
  | nil => intro i a h; simp at h
  | cons h1 _ ih =>
    intro i a h
    cases i with
    | zero => simp at h; subst h; exact ⟨_, rfl, h1⟩
    | succ i => simpa using ih i a (by simpa using h)
end
abbrev SidesIn (led : Led) (vs : List Value) (ss : List Side) : Prop := All2 (SideIn led) vs ss
theorem SidesIn.mono {led led' : Led} {vs : List Value} {ss : List Side} (h : SidesIn led vs ss) (hs : ∀ p ∈ led, p ∈ led') : SidesIn led' vs ss := All2.imp (fun _ _ k => k.mono hs) h
inductive GTag (led : Led) (v : Value) (tag : Str) : Prop
  | mk (a : Addr) (t t' : Tok) (n : Nat) (e : v = .ref a) (hm : (a, tupO [.str tag t, .int 6 t'] n) ∈ led) : GTag led v tag
inductive GFail (led : Led) (v : Value) : Prop
  | mk (a : Addr) (t : Tok) (n : Nat) (e : v = .ref a) (hm : (a, tupO [.str (Str.ofString "fail") t] n) ∈ led) : GFail led v
inductive GUni (led : Led) (v : Value) (s1 s2 : Side) : Prop
  | mk (a : Addr) (t : Tok) (v1 v2 : Value) (n : Nat) (e : v = .ref a) (hm : (a, tupO [.str (Str.ofString "unify") t, v1, v2] n) ∈ led) (h1 : SideIn led v1 s1) (h2 : SideIn led v2 s2) : GUni led v s1 s2
inductive GCall (led : Led) (v : Value) (tag : Str) (ss : List Side) : Prop
  | mk (a : Addr) (t t' : Tok) (b : Addr) (n : Nat) (vs : List Value) (n' : Nat) (e : v = .ref a) (hm : (a, tupO [.str tag t, .int 9 t', .ref b] n) ∈ led) (h1 : (b, tupO vs n') ∈ led) (h2 : SidesIn led vs ss) : GCall led v tag ss
def GoalIn (led : Led) (v : Value) : Goal → Prop
  | .mark => GTag led v (Str.ofString "mark")
  | .cutto => GTag led v (Str.ofString "cutto")
  | .fail => GFail led v
  | .unify s1 s2 => GUni led v s1 s2
  | .call ss => GCall led v (Str.ofString "call") ss
  | .builtin ss => GCall led v (Str.ofString "builtin") ss
theorem GTag.mono {led led' : Led} {v : Value} {tag : Str} (hs : ∀ p ∈ led, p ∈ led') (h : GTag led v tag) : GTag led' v tag := by
  (try k_fold); (try (show (let GZ : Prop := _; GZ); intro GZ))
  obtain ⟨a, t, t', n, e, hm⟩ := h
  (try k_unfold)
  exact ⟨a, t, t', n, e, hs _ hm⟩
theorem GCall.mono {led led' : Led} {v : Value} {tag : Str} {ss : List Side} (hs : ∀ p ∈ led, p ∈ led') (h : GCall led v tag ss) : GCall led' v tag ss := by
  (try k_fold); (try (show (let GZ : Prop := _; GZ); intro GZ))
  obtain ⟨a, t, t', b, n, vs, n', e, hm, h1, h2⟩ := h
  (try k_unfold)
  exact ⟨a, t, t', b, n, vs, n', e, hs _ hm, hs _ h1, h2.mono hs⟩
theorem GoalIn.mono {led led' : Led} {v : Value} (hs : ∀ p ∈ led, p ∈ led') : ∀ {g : Goal}, GoalIn led v g → GoalIn led' v g := by
  intro g h
  cases g with
  | mark => exact GTag.mono hs h
  | cutto => exact GTag.mono hs h
  | fail =>
    (try k_fold); (try (show (let GZ : Prop := _; GZ); intro GZ))
    obtain ⟨a, t, n, e, hm⟩ := h
    (try k_unfold)
    exact ⟨a, t, n, e, hs _ hm⟩
  | unify s1 s2 =>
    (try k_fold); (try (show (let GZ : Prop := _; GZ); intro GZ))
    obtain ⟨a, t, v1, v2, n, e, hm, h1, h2⟩ := h
    (try k_unfold)
    exact ⟨a, t, v1, v2, n, e, hs _ hm, h1.mono hs, h2.mono hs⟩
  | call ss => exact GCall.mono hs h
  | builtin ss => exact GCall.mono hs h
def oks (ss : List Side) : Prop := ss.length ≤ 3 ∧ ∀ s ∈ ss, s.ok
def Goal.ok : Goal → Prop
  | .mark => True
  | .cutto => True
  | .fail => True
  | .unify a b => a.ok ∧ b.ok
  | .call ss => oks ss
  | .builtin ss => oks ss

/-! a comprehension whose element draws coins -/
section
open PyProof.Rows.LCg (NsObj ns_obj lst lst_snoc)
theorem off3_ext {I C D c : Addr} {o o' oI oC oD : Obj} {new new2 b x : Led} (h : Off3' I C D ((c, o) :: (new ++ b))) (k : Above new2 ((c, o) :: ([(I, oI), (C, oC), (D, oD)] ++ x))) : Off3' I C D ((c, o') :: ((new2 ++ new) ++ b)) := by
  intro p hp
  rcases List.mem_cons.mp hp with rfl | hp
  · exact h (c, o) (.head _)
  rcases List.mem_append.mp hp with hp | hp
  · rcases List.mem_append.mp hp with hp | hp
    · exact ⟨Nat.ne_of_gt (k p hp (I, oI) (.tail _ (.head _))), Nat.ne_of_gt (k p hp (C, oC) (.tail _ (.tail _ (.head _)))), Nat.ne_of_gt (k p hp (D, oD) (.tail _ (.tail _ (.tail _ (.head _)))))⟩
    · exact h p (.tail _ (List.mem_append.mpr (.inl hp)))
  · exact h p (.tail _ (List.mem_append.mpr (.inr hp)))

variable {w : World} {loose : List Str} {mean : ExcName → Option Value} {mg mb : Str → Option Value} {Elem : Type}
inductive CoinJ (EIn : Led → Value → Elem → Prop) (ok : Elem → Prop) (c : Addr) (o₀ : Obj) (base : Led) (i : Nat) (ys : List Value) (nw : Led) : Prop
  | mk (vs : List Value) (ns : List Int) (n : Nat) (new : Led) (es : List Elem) (hi : IntsAre vs ns) (hl : ns.length < 1000) (e : nw = (c, listOf vs.toArray n) :: (new ++ base)) (hab : Above new ((c, o₀) :: base)) (hes : All2 (EIn new) ys es) (hlen : es.length = i) (hok : ∀ e ∈ es, ok e) : CoinJ EIn ok c o₀ base i ys nw
inductive CoinPost (c : Addr) (sides : Int) (rest : Led) (r : Value) (led' : Led) : Prop
  | mk (k : Int) (t : Tok) (vs' : List Value) (ns' : List Int) (n' : Nat) (e : r = .int k t) (h0 : 0 ≤ k) (h1 : k < sides) (hi : IntsAre vs' ns') (hl : ns'.length < 1000) (el : led' = (c, listOf vs'.toArray n') :: rest) : CoinPost c sides rest r led'
inductive ElemPost (EIn : Led → Value → Elem → Prop) (ok : Elem → Prop) (c : Addr) (o : Obj) (rest : Led) (r : Value) (led' : Led) : Prop
  | mk (new : Led) (vs' : List Value) (ns' : List Int) (n' : Nat) (e : Elem) (hi : IntsAre vs' ns') (hl : ns'.length < 1000) (el : led' = (c, listOf vs'.toArray n') :: (new ++ rest)) (hab : Above new ((c, o) :: rest)) (he : EIn new r e) (hok : ok e) : ElemPost EIn ok c o rest r led'
inductive ListPost (P : List Value → Led → Prop) (led : Led) (r : Value) (led' : Led) : Prop
  | mk (O : Addr) (vs : List Value) (n : Nat) (new : Led) (e : r = .ref O) (el : led' = (O, listOf vs.toArray n) :: (new ++ led)) (h : P vs new) (hab : Above ((O, listOf vs.toArray n) :: new) led) : ListPost P led r led'
theorem coin_turn_0 {EIn : Led → Value → Elem → Prop} {ok : Elem → Prop} (hmono : ∀ led led' v e, EIn led v e → (∀ p ∈ led, p ∈ led') → EIn led' v e) {f : Addr} {Dp : Nat}
    (spec : ∀ (c : Addr) (vs : List Value) (ns : List Int) (n : Nat) (rest : Led), IntsAre vs ns → ns.length < 1000 → (∀ p ∈ rest, p.1 ≠ c) → Ctr w loose mean mg mb f Dp [.ref c] ((c, listOf vs.toArray n) :: rest)
      (ElemPost EIn ok c (listOf vs.toArray n) rest))
    {dp un : Nat} {gd : Option (List Code)} {cn : Str} {cs : Scope} {a : Addr} {ccd : Value} {cl : List (Str × Addr)} {outer : List Env} {A₀ : Around} {base h₀ : Heap} {L : Addr} {m : Str → Option Value}
    (B : Below A₀ base outer h₀) (X : (K0 w.params).In h₀) (T : Top view0 loose mean mg mb h₀) (hk : cs.kind = .function) (hd : dp + 8 * Dp < recursionLimit) (hu : un + 40 * Dp + 200 < cLine)
    {scope : Scope} {cl' : List (Str × Addr)} {env : Env} {elt : Expr} {c : Addr} {o₀ : Obj} {bs : Led} (hoff : ∀ p ∈ bs, p.1 ≠ c)
    (helt : ∀ (C : Addr) (s' : Shared) (Q' : Value → Shared → Prop) (led : Led), Fr h₀ L s'.heap m → News h₀ L s'.heap led → (∀ p ∈ bs, p ∈ led) →
      (∀ tk, wpAny (model PySem.Challenge.rw_sa0145_01.row.prog w) (ktrTop dp un gd cn cs L a ccd cl outer) (call (.ref f) [.ref c]) Q' (fun _ _ => False) { s' with toks := tk }) →
      wpAny (model PySem.Challenge.rw_sa0145_01.row.prog w) (ktrTop dp un gd cn cs L a ccd cl outer) (eval elt (compEnvC scope cl' C env)) Q' (fun _ _ => False) s')
    (s : Shared) (i : Nat) (v : Value) (ys : List Value) (nw : Led) (I : Addr) (oI : Obj) (C : Addr) (oC : Obj) (D : Addr) (h : Heap) (tk : Nat) (hJ : CoinJ EIn ok c o₀ bs i ys nw)
    (F : Fr h₀ L h m) (N : News h₀ L h ((I, oI) :: (C, oC) :: (D, lst ys) :: nw)) (hoff3 : Off3' I C D nw) :
    wpAny (model PySem.Challenge.rw_sa0145_01.row.prog w) (ktrTop dp un gd cn cs L a ccd cl outer) (forIn ([] : List Expr) true fun c r => if r = true then do let ok ← isTrue c (compEnvC scope cl' C env) (eval c (compEnvC scope cl' C env)); pure (ForInStep.yield ok) else pure (ForInStep.yield r)) (fun ok' s₃ =>
        if ok' = true then wpAny (model PySem.Challenge.rw_sa0145_01.row.prog w) (ktrTop dp un gd cn cs L a ccd cl outer) (eval elt (compEnvC scope cl' C env)) (fun y s₄ => CEnd h₀ L m { s with heap := h, toks := tk } (I, oI) (C, oC) (D, lst ys) (CoinJ EIn ok c o₀ bs (i + 1)) (ys ++ [y]) s₄) (fun _ _ => False) s₃
        else CEnd h₀ L m { s with heap := h, toks := tk } (I, oI) (C, oC) (D, lst ys) (CoinJ EIn ok c o₀ bs (i + 1)) ys s₃) (fun _ _ => False) { s with heap := h, toks := tk } := by
  (try (show (let GZ : Prop := _; GZ); intro GZ))
  obtain ⟨vs, ns, n, new, es, hi, hl, rfl, hab, hes, hlen, hok⟩ := hJ
  (try k_unfold)
  refine tests_none ?_
  rw [if_pos rfl]
  refine helt C _ _ _ F N (fun p hp => .tail _ (.tail _ (.tail _ (.tail _ (List.mem_append.mpr (.inr hp)))))) fun tk' => ?_
  have hc3 := hoff3 (c, listOf vs.toArray n) (.head _)
  have hnc : ∀ p ∈ new, p.1 ≠ c := above_ne hab (.head _)
  refine ctr_use (spec c vs ns n _ hi hl (ne_append (ne_cons (Ne.symm hc3.1) (ne_cons (Ne.symm hc3.2.1) (ne_cons (Ne.symm hc3.2.2) (List.forall_mem_nil _)))) (ne_append hnc hoff))) B F X (pull3 N) T hk hd hu ?_
  intro r led' h' tk' F' N' hz6
  (try k_fold); (try (show (let GZ : Prop := _; GZ); intro GZ))
  obtain ⟨new2, vs2, ns2, n2, e, hi2, hl2, rfl, hab2, he, hoke⟩ := hz6
  (try k_unfold)
  refine ⟨h', tk', (c, listOf vs2.toArray n2) :: ((new2 ++ new) ++ bs), rfl, F', news_sub N' ?_, off3_ext hoff3 hab2, vs2, ns2, n2, new2 ++ new, es ++ [e], hi2, hl2, rfl, ?_, ?_, by simp [hlen], ?_⟩
  · intro p hp
    simp only [List.mem_cons, List.mem_append, List.not_mem_nil, or_false] at hp ⊢
    rcases hp with rfl | rfl | rfl | rfl | (h | h) | h
    · simp
    · simp
    · simp
    · simp
    · simp [h]
    · simp [h]
    · simp [h]
  · refine above_append ?_ hab
    intro p hp q hq
    rcases List.mem_cons.mp hq with rfl | hq
    · exact hab2 p hp (c, listOf vs.toArray n) (.head _)
    · exact hab2 p hp q (.tail _ (List.mem_append.mpr (.inr (List.mem_append.mpr (.inr hq)))))
  · exact All2.snoc (All2.imp (fun _ _ k => hmono _ _ _ _ k fun p hp => List.mem_append.mpr (.inr hp)) hes) (hmono _ _ _ _ he fun p hp => List.mem_append.mpr (.inl hp))
  · intro e' he'
    rcases List.mem_append.mp he' with h | h
    · exact hok _ h
    · rw [List.mem_singleton.mp h]; exact hoke
theorem coin_turn {dr : Drawn} {os0 : OsState} {EIn : Led → Value → Elem → Prop} {ok : Elem → Prop} (hmono : ∀ led led' v e, EIn led v e → (∀ p ∈ led, p ∈ led') → EIn led' v e) {f : Addr} {Dp : Nat}
    (spec : ∀ (c : Addr) (vs : List Value) (ns : List Int) (n : Nat) (rest : Led), IntsAre vs ns → ns.length < 1000 → (∀ p ∈ rest, p.1 ≠ c) → Ctr w loose mean mg mb f Dp [.ref c] ((c, listOf vs.toArray n) :: rest)
      (ElemPost EIn ok c (listOf vs.toArray n) rest))
    {dp un : Nat} {gd : Option (List Code)} {cn : Str} {cs : Scope} {a : Addr} {ccd : Value} {cl : List (Str × Addr)} {outer : List Env} {A₀ : Around} {base h₀ : Heap} {L : Addr} {m : Str → Option Value}
    (B : Below A₀ base outer h₀) (X : (K0 w.params).In h₀) (T : Top view0 loose mean mg mb h₀) (hk : cs.kind = .function) (hd : dp + 8 * Dp < recursionLimit) (hu : un + 40 * Dp + 200 < cLine)
    {scope : Scope} {cl' : List (Str × Addr)} {env : Env} {elt : Expr} {c : Addr} {o₀ : Obj} {bs : Led} (hoff : ∀ p ∈ bs, p.1 ≠ c)
    (helt : ∀ (C : Addr) (s' : Shared) (Q' : Value → Shared → Prop) (led : Led), Fr h₀ L s'.heap m → News h₀ L s'.heap led → (∀ p ∈ bs, p ∈ led) →
      (∀ tk, wpAny (model PySem.Challenge.rw_sa0145_01.row.prog w) (ktrTop dp un gd cn cs L a ccd cl outer) (call (.ref f) [.ref c]) Q' (fun _ _ => False) { s' with toks := tk }) →
      wpAny (model PySem.Challenge.rw_sa0145_01.row.prog w) (ktrTop dp un gd cn cs L a ccd cl outer) (eval elt (compEnvC scope cl' C env)) Q' (fun _ _ => False) s')
    (gs : Array GenState) (i : Nat) (v : Value) (ys : List Value) (nw : Led) (I : Addr) (oI : Obj) (C : Addr) (oC : Obj) (D : Addr) (h : Heap) (tk : Nat) (hJ : CoinJ EIn ok c o₀ bs i ys nw)
    (F : Fr h₀ L h m) (N : News h₀ L h ((I, oI) :: (C, oC) :: (D, lst ys) :: nw)) (hoff3 : Off3' I C D nw) :
    wpAny (model PySem.Challenge.rw_sa0145_01.row.prog w) (ktrTop dp un gd cn cs L a ccd cl outer) (forIn ([] : List Expr) true fun c r => if r = true then do let ok ← isTrue c (compEnvC scope cl' C env) (eval c (compEnvC scope cl' C env)); pure (ForInStep.yield ok) else pure (ForInStep.yield r)) (fun ok' s₃ =>
        if ok' = true then wpAny (model PySem.Challenge.rw_sa0145_01.row.prog w) (ktrTop dp un gd cn cs L a ccd cl outer) (eval elt (compEnvC scope cl' C env)) (fun y s₄ => CEnd h₀ L m ⟨h, gs, dr, tk, os0⟩ (I, oI) (C, oC) (D, lst ys) (CoinJ EIn ok c o₀ bs (i + 1)) (ys ++ [y]) s₄) (fun _ _ => False) s₃
        else CEnd h₀ L m ⟨h, gs, dr, tk, os0⟩ (I, oI) (C, oC) (D, lst ys) (CoinJ EIn ok c o₀ bs (i + 1)) ys s₃) (fun _ _ => False) ⟨h, gs, dr, tk, os0⟩ :=
  coin_turn_0 hmono spec B X T hk hd hu hoff helt ⟨h, gs, dr, tk, os0⟩ i v ys nw I oI C oC D h tk hJ F N hoff3
theorem CoinJ.zero {EIn : Led → Value → Elem → Prop} {ok : Elem → Prop} {c : Addr} {o₀ : Obj} {bs : Led} {vs : List Value} {ns : List Int} {n : Nat} (hi : IntsAre vs ns) (hl : ns.length < 1000) : CoinJ EIn ok c o₀ bs 0 [] ((c, listOf vs.toArray n) :: bs) :=
  ⟨vs, ns, n, [], [], hi, hl, rfl, above_nil, .nil, rfl, fun _ h => nomatch h⟩
theorem CoinJ.need {EIn : Led → Value → Elem → Prop} {ok : Elem → Prop} {c : Addr} {o₀ : Obj} {bs : Led} {i : Nat} {ys : List Value} {nw : Led} {q : Addr × Obj} (hq : q ∈ bs) (h : CoinJ EIn ok c o₀ bs i ys nw) : ∀ p ∈ [q], p ∈ nw := by
  (try (show (let GZ : Prop := _; GZ); intro GZ))
  obtain ⟨vs, ns, n, new, es, _, _, rfl, _⟩ := h
  (try k_unfold)
  intro p hp
  rw [List.mem_singleton.mp hp]
  exact .tail _ (List.mem_append.mpr (.inr hq))
end

section
open PyProof.Rows.LCg (lst)
variable {prog : Program} {w : World} {A : Around} {E : Value → Shared → Prop} {s : Shared} {h₀ : Heap} {L : Addr} {m : Str → Option Value}
theorem tuple_K_0 {l : Addr} {ys : List Value} {news : Led} {n : Nat} {Q : Value → Shared → Prop} (F : Fr h₀ L s.heap m) (N : News h₀ L s.heap news) (hm : (l, ({ cls := .type "list", data := .seq ys.toArray n } : Obj)) ∈ news) (hz : ys.length ≤ 1000)
    (h : ∀ t h', Fr h₀ L h' m → News h₀ L h' ((t, tupO ys 0) :: news) → (∀ p ∈ news, p.1 < t) → Q (.ref t) { s with heap := h' }) : wpAny (model prog w) A (call (.type "tuple") [.ref l]) Q E s :=
  kde_tupleOf F N ⟨_, (N _ hm).1, rfl, n, rfl⟩ (by rw [List.size_toArray]; omega) rfl h
theorem tuple_K {hp0 : Heap} {gs : Array GenState} {dr : Drawn} {tk0 : Nat} {os0 : OsState} {l : Addr} {ys : List Value} {news : Led} {n : Nat} {Q : Value → Shared → Prop} (F : Fr h₀ L hp0 m) (N : News h₀ L hp0 news) (hm : (l, ({ cls := .type "list", data := .seq ys.toArray n } : Obj)) ∈ news) (hz : ys.length ≤ 1000)
    (h : ∀ t h', Fr h₀ L h' m → News h₀ L h' ((t, tupO ys 0) :: news) → (∀ p ∈ news, p.1 < t) → Q (.ref t) ⟨h', gs, dr, tk0, os0⟩) : wpAny (model prog w) A (call (.type "tuple") [.ref l]) Q E ⟨hp0, gs, dr, tk0, os0⟩ :=
  tuple_K_0 (s := ⟨hp0, gs, dr, tk0, os0⟩) F N hm hz h
end

theorem ints_get {vs : List Value} {ns : List Int} (h : IntsAre vs ns) : ∀ {i : Nat} {v : Value}, vs[i]? = some v → ∃ k t, v = .int k t := by
  induction h with
  | nil => intro i v e; simp at e
  | cons k t _ ih =>
    intro i v e
    cases i with
    | zero => simp at e; exact ⟨k, t, e.symm⟩
    | succ i => exact ih (by simpa using e)
theorem ints_snoc {vs : List Value} {ns : List Int} (h : IntsAre vs ns) (k : Int) (t : Tok) : IntsAre (vs ++ [.int k t]) (ns ++ [k]) := h.append (.cons k t .nil)
theorem ints_reverse {vs : List Value} {ns : List Int} (h : IntsAre vs ns) : IntsAre vs.reverse ns.reverse := by
  induction h with
  | nil => exact .nil
  | cons k t _ ih => rw [List.reverse_cons, List.reverse_cons]; exact ints_snoc ih k t
theorem allLt_ne' {d : Addr} {l : Led} (h : ∀ p ∈ l, p.1 < d) : ∀ p ∈ l, p.1 ≠ d := fun p hp => Nat.ne_of_lt (h p hp)

section
variable {prog : Program} {w : World} {A : Around} {E : Value → Shared → Prop} {s : Shared} {h₀ : Heap} {L : Addr} {m : Str → Option Value}
theorem append_L_0 {D : Addr} {vs : List Value} {n : Nat} {v : Value} {news news' : Led} {Q : Value → Shared → Prop} (F : Fr h₀ L s.heap m) (N : News h₀ L s.heap news) (U : Upd D (listOf vs.toArray n) (listOf (vs ++ [v]).toArray (n + 1)) news news') (hz : vs.length ≤ 5000)
    (h : ∀ h', Fr h₀ L h' m → News h₀ L h' news' → Q .none { s with heap := h' }) : wpAny (model prog w) A (call (.builtin "list.append") [.ref D, v]) Q E s := by
  (try k_fold); (try (show (let GZ : Prop := _; GZ); intro GZ))
  obtain ⟨pre, post, rfl, rfl, h1, h2⟩ := U.split
  (try k_unfold)
  have D' := N (D, listOf vs.toArray n) (by simp)
  refine append_at (its := vs.toArray) (n := n) D'.1 (fun h' hs hD => ?_) (by rw [List.size_toArray, sizeLine_eq]; omega)
  refine h h' (F.change hs D'.2.1 D'.2.2) fun p hp => ?_
  rcases List.mem_append.mp hp with q | q
  · have P := N p (List.mem_append_left _ q)
    exact ⟨(hs.2 p.1 (h1 p q)).trans P.1, P.2⟩
  · rcases List.mem_cons.mp q with rfl | q
    · exact ⟨by rw [hD, List.push_toArray], D'.2⟩
    · have P := N p (List.mem_append_right _ (.tail _ q))
      exact ⟨(hs.2 p.1 (h2 p q)).trans P.1, P.2⟩
theorem append_L {hp0 : Heap} {gs : Array GenState} {dr : Drawn} {tk0 : Nat} {os0 : OsState} {D : Addr} {vs : List Value} {n : Nat} {v : Value} {news news' : Led} {Q : Value → Shared → Prop} (F : Fr h₀ L hp0 m) (N : News h₀ L hp0 news) (U : Upd D (listOf vs.toArray n) (listOf (vs ++ [v]).toArray (n + 1)) news news') (hz : vs.length ≤ 5000)
    (h : ∀ h', Fr h₀ L h' m → News h₀ L h' news' → Q .none ⟨h', gs, dr, tk0, os0⟩) : wpAny (model prog w) A (call (.builtin "list.append") [.ref D, v]) Q E ⟨hp0, gs, dr, tk0, os0⟩ :=
  append_L_0 (s := ⟨hp0, gs, dr, tk0, os0⟩) F N U hz h
end

end PRg
section PRv
/-! reversed(tuple), its walk, and what list.extend and list do with a reversed sequence -/
namespace RvF
theorem tuple_no_rev : typeLookup (.type "tuple") "__reversed__" = pure none := by rw [typeLookup_type, builtinLookup_eq_fast]; kernel_rfl
theorem tuple_no_dict : isSubtype (.type "tuple") (.type "dict") = pure false := by rw [isSubtype_type]; kernel_rfl
theorem slot_rev_next : Slot "reversed" "__next__" "reversed.__next__" :=
  .of (owner := "reversed") (n := "__next__") (by rw [typeLookup_type, builtinLookup_eq_fast]; kernel_rfl) (by decide +kernel) (by decide +kernel) (by decide +kernel)
    (by first | exact .inl (by decide +kernel) | exact .inr (by decide +kernel)) (by rw [isSubtype_type]; kernel_rfl)
theorem entry_rev_next : entryFor table "reversed.__next__" = some Builtin.«reversed.__next__» := entryFor_of_tree (by kernel_rfl)
theorem slot_rev_iter : Slot "reversed" "__iter__" "reversed.__iter__" :=
  .of (owner := "reversed") (n := "__iter__") (by rw [typeLookup_type, builtinLookup_eq_fast]; kernel_rfl) (by decide +kernel) (by decide +kernel) (by decide +kernel)
    (by first | exact .inl (by decide +kernel) | exact .inr (by decide +kernel)) (by rw [isSubtype_type]; kernel_rfl)
theorem slot_rev_hint : Slot "reversed" "__length_hint__" "reversed.__length_hint__" :=
  .of (owner := "reversed") (n := "__length_hint__") (by rw [typeLookup_type, builtinLookup_eq_fast]; kernel_rfl) (by decide +kernel) (by decide +kernel) (by decide +kernel)
    (by first | exact .inl (by decide +kernel) | exact .inr (by decide +kernel)) (by rw [isSubtype_type]; kernel_rfl)
theorem entry_rev_hint : entryFor table "reversed.__length_hint__" = some Builtin.«reversed.__length_hint__» := entryFor_of_tree (by kernel_rfl)
theorem nolen_rev : typeLookup (.type "reversed") "__len__" = pure none := by rw [typeLookup_type, builtinLookup_eq_fast]; kernel_rfl
theorem nolen_lri : typeLookup (.type "list_reverseiterator") "__len__" = pure none := by rw [typeLookup_type, builtinLookup_eq_fast]; kernel_rfl
theorem hint_lri : typeLookup (.type "list_reverseiterator") "__length_hint__" = pure (some (.builtin "list_reverseiterator.__length_hint__")) := by rw [typeLookup_type, builtinLookup_eq_fast]; kernel_rfl
theorem slot_rev_init : Slot "reversed" "__init__" "object.__init__" :=
  .of (owner := "object") (n := "__init__") (by rw [typeLookup_type, builtinLookup_eq_fast]; kernel_rfl) (by decide +kernel) (by decide +kernel) (by decide +kernel)
    (by first | exact .inl (by decide +kernel) | exact .inr (by decide +kernel)) (by rw [isSubtype_type]; kernel_rfl)
theorem entry_rev_iter : entryFor table "reversed.__iter__" = some Builtin.«dict_keyiterator.__iter__» :=
  entryFor_alias (id' := "dict_keyiterator.__iter__") (by kernel_rfl) (by first | rfl | decide +kernel | (unfold String.splitOn; simp +decide [String.splitOnAux])) (by decide +kernel) (by kernel_rfl)
theorem called_reversed : TypeCalled "reversed" "reversed.__new__" "object.__init__" :=
  ⟨by decide +kernel, by decide +kernel, ⟨_, _, F.mro_reversed⟩, F.made_reversed, by decide +kernel, by rw [isSubtype_type]; kernel_rfl, slot_rev_init⟩
theorem owner_reversed : Manifest.owners.lookup (String.ofList ['d', 'e', 's', 'r', 'e', 'v', 'e', 'r'].reverse) = some Manifest.sig_reversed := by kernel_rfl
theorem args_rev_next_1 (a : Value) : argsOk "reversed.__next__" ⟨[a], []⟩ := by
  unfold argsOk; rw [signature?_of (id := "reversed.__next__") (n := ['_', '_', 't', 'x', 'e', 'n', '_', '_']) (o := ['d', 'e', 's', 'r', 'e', 'v', 'e', 'r']) (by kernel_rfl) owner_reversed]; kernel_rfl
theorem args_rev_iter_1 (a : Value) : argsOk "reversed.__iter__" ⟨[a], []⟩ := by
  unfold argsOk; rw [signature?_of (id := "reversed.__iter__") (n := ['_', '_', 'r', 'e', 't', 'i', '_', '_']) (o := ['d', 'e', 's', 'r', 'e', 'v', 'e', 'r']) (by kernel_rfl) owner_reversed]; kernel_rfl
theorem args_rev_hint_1 (a : Value) : argsOk "reversed.__length_hint__" ⟨[a], []⟩ := by
  unfold argsOk; rw [signature?_of (id := "reversed.__length_hint__") (n := "__length_hint__".toList.reverse) (o := ['d', 'e', 's', 'r', 'e', 'v', 'e', 'r']) (by kernel_rfl) owner_reversed]; kernel_rfl
end RvF

section
variable {prog : Program} {w : World} {A : Around} {E : Value → Shared → Prop} {s : Shared}
theorem newClass_rev (a : Value) : Builtin.SmallTypes.newClass "reversed" ⟨[.type "reversed", a], []⟩ = pure (.type "reversed", [a]) := by
  unfold Builtin.SmallTypes.newClass
  simp only [isType, F.sub_reversed_self, pure_bind, Bool.not_true, Bool.false_eq_true, if_false]
abbrev revT (t : Addr) (i : Int) : Obj := { cls := .type "reversed", data := .fields #[.ref t, rawInt i] }
theorem rev_new {t : Addr} {items : List Value} {n : Nat} {Q₁ : Value → Shared → Prop} (hl : s.heap.get? t = some (tupO items n)) (hz : items.length ≤ 1000)
    (h : Q₁ (.ref s.heap.objs.size) { s with heap := s.heap.push (revT t ((items.length : Int) - 1)), toks := s.toks + 1 + 1 }) :
    codeAny (model prog w) A (.call (.builtin "reversed.__new__") ⟨[.type "reversed", .ref t], []⟩) (wants Q₁ E) s := by
  have hT : s.TypeIs (.ref t) "tuple" := ⟨_, hl, rfl⟩
  refine codeAny_of_tree ?_
  show wpAny _ A.in1 (do checkBuiltinCall "reversed.__new__" ⟨[.type "reversed", .ref t], []⟩; again (.builtin "reversed.__new__" ⟨[.type "reversed", .ref t], []⟩)) _ _ s
  refine wpAny_bind (wpAny_of_eq (F.newCall_reversed_1 _) (wpAny_pure ⟨plainId_quiet F.plain_reversed_new _, codeAny_builtin F.entry_reversed_new ?_⟩))
  rw [Around.under_plainId F.plain_reversed_new _]
  unfold Builtin.«reversed.__new__»
  refine wpAny_bind (wpAny_of_eq (newClass_rev _) ?_)
  try dsimp only
  refine wpAny_bind (wpAny_of_eq (a := ()) (by first | rfl | kernel_rfl) ?_)
  refine wpAny_bind (wpAny_of_eq (a := ()) (by first | rfl | kernel_rfl) ?_)
  try dsimp only
  refine wpAny_bind (wpAny_specialOf hT RvF.tuple_no_rev ?_)
  try dsimp only
  refine wpAny_bind ?_
  wp_delta
  refine wpAny_bind (wpAny_isInstance (b := false) hT RvF.tuple_no_dict ?_)
  try dsimp only
  rw [if_neg Bool.false_ne_true]
  refine wpAny_bind (wpAny_specialOf hT F.slot_tuple_getitem.lookup ?_)
  try dsimp only
  rw [if_pos (by decide)]
  refine wpAny_pure ?_
  rw [if_neg (by decide)]
  refine wpAny_bind (PyProof.Rows.len_tuple (items := items.toArray) ⟨_, hl, rfl, n, rfl⟩ (by rw [List.size_toArray]; omega) ?_)
  refine wpAny_bind (m := asInt? _) (wpAny_pure ?_)
  try dsimp only
  refine wpAny_bind ?_
  unfold Builtin.SmallTypes.newRecord
  refine wpAny_newObj_type ?_
  rw [show ((items.toArray.size : Nat) : Int) = (items.length : Int) from by simp]
  exact wpAny_pure h
theorem call_reversed_tuple {t : Addr} {items : List Value} {n : Nat} {Q : Value → Shared → Prop} (hl : s.heap.get? t = some (tupO items n)) (hz : items.length ≤ 1000)
    (h : Q (.ref s.heap.objs.size) { s with heap := s.heap.push (revT t ((items.length : Int) - 1)), toks := s.toks + 1 + 1 }) : wpAny (model prog w) A (call (.type "reversed") [.ref t]) Q E s := by
  refine callType_codes (Q₁ := fun obj s₁ => obj = .ref s.heap.objs.size ∧ s₁ = { s with heap := s.heap.push (revT t ((items.length : Int) - 1)), toks := s.toks + 1 + 1 }) RvF.called_reversed (F.typeCall_reversed_1 _) F.entry_object_init
    (rev_new hl hz ⟨rfl, rfl⟩) fun obj s₁ h₁ => ?_
  obtain ⟨rfl, rfl⟩ := h₁
  have hT : ({ s with heap := s.heap.push (revT t ((items.length : Int) - 1)), toks := s.toks + 1 + 1 } : Shared).TypeIs (.ref s.heap.objs.size) "reversed" := ⟨_, Heap.get?_push_size _ rfl, rfl⟩
  exact ⟨hT, F.args_object_init_2 _ _, object_init_meets RvF.called_reversed.init.lookup RvF.called_reversed.made (by decide) _ _ _ _ _ ⟨hT, rfl, h⟩⟩
theorem rev_next_item {it t : Addr} {i : Nat} {items : List Value} {n : Nat} {x : Value} {Q : Option Value → Shared → Prop} (hit : s.heap.get? it = some (revT t (i : Int))) (hl : s.heap.get? t = some (tupO items n)) (hx : items[i]? = some x) (hz : items.length ≤ 1000)
    (hQ : ∀ h' tk, h'.get? it = some (revT t ((i : Int) - 1)) → Heap.SameBut it s.heap h' → Q (some x) { s with heap := h', toks := tk }) : wpAny (model prog w) A (pyNext (.ref it)) Q E s := by
  have hT : s.TypeIs (.ref it) "reversed" := ⟨_, hit, rfl⟩
  have hT2 : s.TypeIs (.ref t) "tuple" := ⟨_, hl, rfl⟩
  unfold pyNext
  refine wpAny_bind (wpAny_attempt (wpAny_callSpecial?_slot (name := Str.ofString "__next__") hT RvF.slot_rev_next
    (wpAny_call_entry RvF.slot_rev_next hT RvF.entry_rev_next ?_ (RvF.args_rev_next_1 _))))
  unfold Builtin.«reversed.__next__»
  refine wpAny_bind (wpAny_of_eq (a := (Value.ref it, [])) rfl ?_)
  try dsimp only
  refine wpAny_bind (wpAny_field hit rfl (x := .ref t) rfl ?_)
  refine wpAny_bind (wpAny_field hit rfl (x := rawInt (i : Int)) rfl ?_)
  show wpAny _ _ (if (i : Int) < 0 then _ else _) _ _ s
  rw [if_neg (by omega)]
  refine wpAny_bind (wpAny_specialOf hT2 F.slot_tuple_getitem.lookup ?_)
  rw [if_neg (by decide)]
  refine wpAny_bind (wpAny_mkInt' ?_)
  refine wpAny_bind (wpAny_attempt (PyProof.Rows.getItem_tuple (items := items.toArray) (j := i) ⟨_, hl, rfl, n, rfl⟩ (by omega) (by have := (List.getElem?_eq_some_iff.mp hx).1; omega) ?_ (by simpa using hx) ?_))
  · have := (List.getElem?_eq_some_iff.mp hx).1
    simp [seqIndex?]
    omega
  try dsimp only
  refine wpAny_bind (wpAny_field hit rfl (x := rawInt (i : Int)) rfl ?_)
  try dsimp only
  refine wpAny_bind (wpAny_setField hit rfl (by simp) ?_)
  refine wpAny_pure ⟨x, rfl, wpAny_pure (hQ _ _ ?_ (Heap.SameBut.update ..))⟩
  exact Heap.get?_update_self _ hit rfl
theorem rev_next_end {it t : Addr} {Q : Option Value → Shared → Prop} (hh : A.handled = none) (hit : s.heap.get? it = some (revT t (-1)))
    (hQ : ∀ h', Heap.ExtBut it s.heap h' → Q none { s with heap := h' }) : wpAny (model prog w) A (pyNext (.ref it)) Q E s := by
  have hT : s.TypeIs (.ref it) "reversed" := ⟨_, hit, rfl⟩
  unfold pyNext
  refine wpAny_bind (wpAny_attempt (wpAny_callSpecial?_slot (name := Str.ofString "__next__") hT RvF.slot_rev_next
    (wpAny_call_entry RvF.slot_rev_next hT RvF.entry_rev_next ?_ (RvF.args_rev_next_1 _))))
  unfold Builtin.«reversed.__next__»
  refine wpAny_bind (wpAny_of_eq (a := (Value.ref it, [])) rfl ?_)
  try dsimp only
  refine wpAny_bind (wpAny_field hit rfl (x := .ref t) rfl ?_)
  refine wpAny_bind (wpAny_field hit rfl (x := rawInt (-1)) rfl ?_)
  show wpAny _ _ (if (-1 : Int) < 0 then _ else _) _ _ s
  rw [if_pos (by decide)]
  refine wpAny_bind (wpAny_rule ?_)
  refine wpAny_bind ?_
  wp_delta
  refine wpAny_bind (wpAny_setField hit rfl (by simp) ?_)
  refine wpAny_setField (Heap.get?_update_self _ hit rfl) rfl (by simp) ?_
  first
  | show wpAny _ _ (newExc (.type "StopIteration") [] >>= _) _ _ _
  | (refine wpAny_bind ?_; show wpAny _ _ (newExc (.type "StopIteration") [] >>= _) _ _ _)
  refine wpAny_bind ?_
  simp only [newExc, newTuple]
  refine wpAny_bind (wpAny_newObj_type ?_ (by size_fits))
  refine wpAny_bind (m := firstArgMember _ _) (wpAny_of_eq (a := Value.none) (by first | rfl | (simp only [firstArgMember]; rfl)) ?_)
  refine wpAny_newObj_type ?_ (by size_fits)
  simp only [raiseNew]
  refine wpAny_bind (wpAny_handled ?_)
  first | rw [show A.in1.handled = none from hh] | rw [hh]
  refine wpAny_bind (wpAny_pure (wpAny_throw ?_))
  refine wpAny_bind (wpAny_isInstance (T := "StopIteration") (b := true) ⟨_, Heap.get?_push_size _ rfl, rfl⟩ isSubtype_stop ?_)
  refine wpAny_pure (hQ _ ?_)
  refine Heap.ExtBut.push (Heap.ExtBut.push ?_ _) _
  intro b o hb e
  exact (Heap.get?_update_other _ _ (Ne.symm hb)).trans ((Heap.get?_update_other _ _ (Ne.symm hb)).trans e)
theorem rev_iter {it t : Addr} {i : Int} {Q : Value → Shared → Prop} (hit : s.heap.get? it = some (revT t i)) (h : Q (.ref it) s) : wpAny (model prog w) A (pyIter (.ref it)) Q E s := by
  have hT : s.TypeIs (.ref it) "reversed" := ⟨_, hit, rfl⟩
  refine wpAny_pyIter_slot hT RvF.slot_rev_iter (wpAny_call_entry RvF.slot_rev_iter hT RvF.entry_rev_iter ?_ (RvF.args_rev_iter_1 _))
  show wpAny _ _ (ret (.ref it)) _ _ s
  exact wpAny_pure ⟨_, rfl, "reversed", _, hT, RvF.slot_rev_next.lookup, h⟩
theorem rev_hint {it t : Addr} {items : List Value} {n : Nat} {Q : Bool → Shared → Prop} (hit : s.heap.get? it = some (revT t ((items.length : Int) - 1))) (hl : s.heap.get? t = some (tupO items n)) (hz : items.length ≤ 1000)
    (hQ : ∀ b tk, s.toks ≤ tk → Q b { s with toks := tk }) : wpAny (model prog w) A (Builtin.List.listLengthHint (.ref it)) Q E s := by
  have hT : s.TypeIs (.ref it) "reversed" := ⟨_, hit, rfl⟩
  unfold Builtin.List.listLengthHint
  refine wpAny_bind (wpAny_specialOf hT RvF.nolen_rev ?_)
  show wpAny _ _ (specialOf (Value.ref it) (Str.ofString "__length_hint__") >>= _) _ _ _
  refine wpAny_bind (wpAny_specialOf hT RvF.slot_rev_hint.lookup ?_)
  generalize hid : ("reversed.__length_hint__" : String) = id0
  wp_delta
  rw [show splitId id0 = some ("reversed", "__length_hint__") from by subst hid; decide +kernel]
  subst hid
  refine wpAny_bind (wpAny_isInstance (b := true) hT (by rw [isSubtype_type]; kernel_rfl) ?_)
  rw [if_neg (by decide)]
  (try dsimp only)
  rw [if_neg (by decide +kernel)]
  refine wpAny_bind (wpAny_rule ?_)
  refine wpAny_bind (wpAny_of_eq (RvF.slot_rev_hint.bind _) ?_)
  (try dsimp only)
  refine wpAny_bind (wpAny_attempt (wpAny_call_entry RvF.slot_rev_hint hT RvF.entry_rev_hint ?_ (RvF.args_rev_hint_1 _)))
  unfold Builtin.«reversed.__length_hint__»
  refine wpAny_bind (wpAny_of_eq (a := Value.ref it) rfl ?_)
  refine wpAny_bind (wpAny_field hit rfl (x := .ref t) rfl ?_)
  rw [if_neg (show ¬ ((Value.ref t == Value.none) = true) from Bool.false_ne_true)]
  refine wpAny_bind (PyProof.Rows.len_tuple (items := items.toArray) ⟨_, hl, rfl, n, rfl⟩ (by rw [List.size_toArray]; omega) ?_)
  refine wpAny_bind (m := asInt? _) (wpAny_pure ?_)
  (try dsimp only)
  refine wpAny_bind (wpAny_field hit rfl (x := rawInt ((items.length : Int) - 1)) rfl ?_)
  show wpAny _ _ (if ((items.toArray.size : Nat) : Int) < (items.length : Int) - 1 + 1 then _ else _) _ _ _
  rw [if_neg (by rw [List.size_toArray]; omega)]
  show wpAny _ _ (retInt ((items.length : Int) - 1 + 1)) _ _ _
  refine wpAny_bind (wpAny_mkInt' ?_)
  refine wpAny_pure ⟨_, rfl, ?_⟩
  (try dsimp only)
  refine wpAny_bind (m := asInt? _) (wpAny_pure ?_)
  (try dsimp only)
  rw [if_neg (by simp [Builtin.List.listFitsIndex]; omega), if_neg (by omega), if_neg (by simp [Builtin.List.listTooLong, sizeLine]; omega)]
  exact wpAny_pure (hQ _ _ (by omega))
end

theorem walks_rev {prog : Program} {w : World} {A : Around} (hh : A.handled = none) (I t : Addr) (hne : t ≠ I) (items : List Value) (n : Nat) (hz : items.length ≤ 1000) :
    Walks prog w A I [I, t] [I] items.length (fun i v => items[items.length - 1 - i]? = some v) (fun i h => i ≤ items.length ∧ h.get? I = some (revT t ((items.length : Int) - 1 - (i : Int))) ∧ h.get? t = some (tupO items n)) where
  sub := fun b hb => by simp at hb; simp [hb]
  frame := fun _ _ _ x hk => ⟨x.1, hk I (by simp) _ x.2.1, hk t (by simp) _ x.2.2⟩
  item := fun i s Q E hi x hQ => by
    have e : (items.length : Int) - 1 - (i : Int) = ((items.length - 1 - i : Nat) : Int) := by omega
    have hit := x.2.1
    rw [e] at hit
    have hx : items[items.length - 1 - i]? = some (items[items.length - 1 - i]'(by omega)) := List.getElem?_eq_getElem (by omega)
    refine rev_next_item hit x.2.2 hx hz fun h' tk hit' hs' => ?_
    have e2 : ((items.length - 1 - i : Nat) : Int) - 1 = (items.length : Int) - 1 - ((i + 1 : Nat) : Int) := by omega
    rw [e2] at hit'
    exact hQ _ h' tk hx ⟨hi, hit', (hs'.2 t hne).trans x.2.2⟩ fun b o hb eo => hs'.extBut b o (fun h => hb (by simp [h])) eo
  done := fun s Q E x hQ => by
    have e : (items.length : Int) - 1 - (items.length : Int) = -1 := by omega
    have hit := x.2.1
    rw [e] at hit
    exact rev_next_end hh hit fun h' he' => hQ h' s.toks fun b o hb eo => he' b o (fun h => hb (by simp [h])) eo
  self := fun _ _ _ _ x hQ => rev_iter x.2.1 hQ

theorem itemsOf_rev {items : List Value} {acc : Array Value} (h : ItemsOf (fun i v => items[items.length - 1 - i]? = some v) acc items.length) : acc = items.reverse.toArray := by
  apply Array.ext'
  rw [List.toList_toArray]
  apply List.ext_getElem?
  intro i
  by_cases hi : i < items.length
  · have h1 : i < acc.size := by rw [h.1]; exact hi
    have e : acc[i]? = some acc[i] := Array.getElem?_eq_getElem h1
    have e2 := h.2 i _ e
    rw [Array.getElem?_toList, e, List.getElem?_reverse hi]
    exact e2.symm
  · rw [List.getElem?_eq_none (by rw [Array.length_toList, h.1]; omega), List.getElem?_eq_none (by rw [List.length_reverse]; omega)]

section
variable {prog : Program} {w : World} {A : Around} {E : Value → Shared → Prop} {s : Shared} {R : Result → Shared → Prop}
variable {I : Addr} {fp wr : List Addr} {n : Nat} {P : Nat → Value → Prop} {St : Nat → Heap → Prop}
theorem ext_core {T : String} (W : Walks prog w A.in1 I fp wr n P St) (hT : s.TypeIs (.ref I) T) (h2 : (Value.type T == Value.type "list") = false) (h3 : (Value.type T == Value.type "tuple") = false)
    (hint : ∀ (Q : Bool → Shared → Prop), (∀ b tk, s.toks ≤ tk → Q b { s with toks := tk }) → wpAny (model prog w) A.in1 (Builtin.List.listLengthHint (.ref I)) Q (fun e s' => R (.error e) s') s)
    (S : Addr) (res : Value) (c₀ : Nat) (hst : St 0 s.heap) (hSf : S ∉ fp) (hI : I ∈ fp)
    (hS : s.heap.get? S = some { cls := .type "list", data := .seq #[] c₀ })
    (hR : ∀ h' tk acc' c', (∀ b o, b ∉ S :: wr → s.heap.get? b = some o → h'.get? b = some o) → h'.get? S = some { cls := .type "list", dict := none, data := .seq acc' c', slots := #[] } → ItemsOf P acc' n → R (.ok (.ret res)) { s with heap := h', toks := tk }) (hn : n ≤ sizeLine) :
    wpAny (model prog w) A.in1 (Builtin.List.listExtendWith (.ref S) (.ref I) res)
      (fun fin s' => match fin with | .done f => R (.ok f) s' | .again c' => c'.quiet = true ∧ codeAny (model prog w) A c' R s') (fun e s' => R (.error e) s') s := by
  have hSI : S ≠ I := fun e => hSf (e ▸ hI)
  unfold Builtin.List.listExtendWith
  refine wpAny_bind (wpAny_typeOf hT ?_)
  have h1 : Builtin.List.listSameRef (.ref S) (.ref I) = false := by simp [Builtin.List.listSameRef, hSI]
  simp only [h1, h2, h3, Bool.or_false, Bool.false_eq_true, if_false]
  refine wpAny_bind (W.self 0 _ _ _ hst ?_)
  refine wpAny_bind (wpAny_holding (hint _ fun b tk htk => ?_))
  have key : ∀ (h : Heap) (c₁ tk : Nat), St 0 h → (∀ b o, b ≠ S → s.heap.get? b = some o → h.get? b = some o) → h.get? S = some { cls := .type "list", data := .seq #[] c₁ } →
      codeAny (model prog w) A (.builtin "list.extend.loop" ⟨[.ref S, .ref I, res], []⟩) R { s with heap := h, toks := tk } := by
    intro h c₁ tk hit hk hS₁
    refine codeAny_extend_loopS W.toS hn S hSf res n 0 _ #[] c₁ rfl (Nat.zero_le _) hit hS₁ (ItemsOf.nil _) fun s' acc' c' hm hS' hacc => ?_
    rw [Moved.eq_with hm]
    exact hR s'.heap s'.toks acc' c' (fun b o hb e => hm.heap b o hb (hk b o (fun e' => hb (by simp [e'])) e)) hS' hacc
  refine wpAny_ite_split (fun _ => ?_) (fun _ => wpAny_pure ⟨plainId_quiet F.plain_extend_loop _, key s.heap c₀ tk hst (fun _ _ _ e => e) hS⟩)
  refine wpAny_bind (wpAny_rule ?_)
  refine wpAny_bind ?_
  show wpAny _ _ (updateSeq S (·.push .none) >>= fun _ => updateSeq S (·.pop)) _ _ _
  refine wpAny_bind (wpAny_updateSeq hS rfl ?_)
  have hS₂ := Heap.get?_update_self (Obj.mapSeq (·.push Value.none)) hS rfl
  refine wpAny_updateSeq (hz := by seq_fits) hS₂ rfl ?_
  have hS₃ := Heap.get?_update_self (Obj.mapSeq (·.pop)) hS₂ rfl
  have oth : ∀ b o, b ≠ S → s.heap.get? b = some o → ((s.heap.update S (Obj.mapSeq (·.push Value.none))).update S (Obj.mapSeq (·.pop))).get? b = some o :=
    fun b o hb e => (Heap.get?_update_other _ _ (Ne.symm hb)).trans ((Heap.get?_update_other _ _ (Ne.symm hb)).trans e)
  exact wpAny_pure ⟨plainId_quiet F.plain_extend_loop _, key _ _ _ (W.frame 0 s.heap _ hst fun b hb o e => oth b o (fun h => hSf (h ▸ hb)) e) oth hS₃⟩
end

section
variable {prog : Program} {w : World} {A : Around} {E : Value → Shared → Prop} {s : Shared} {h₀ : Heap} {L : Addr} {m : Str → Option Value}
theorem extend_rev {S it t : Addr} {items : List Value} {n c₀ : Nat} {Q : Value → Shared → Prop} (hh : A.handled = none) (hS : s.heap.get? S = some (listOf #[] c₀)) (hit : s.heap.get? it = some (revT t ((items.length : Int) - 1))) (ht : s.heap.get? t = some (tupO items n)) (hz : items.length ≤ 1000)
    (hR : ∀ h' tk c', (∀ b o, b ≠ S → b ≠ it → s.heap.get? b = some o → h'.get? b = some o) → h'.get? S = some (listOf items.reverse.toArray c') → Q .none { s with heap := h', toks := tk }) :
    wpAny (model prog w) A (call (.builtin "list.extend") [.ref S, .ref it]) Q E s := by
  have hti : t ≠ it := fun e => by rw [e, hit] at ht; simp at ht
  have hSi : S ≠ it := fun e => by rw [e, hit] at hS; simp at hS
  have hSt : S ≠ t := fun e => by rw [e, ht] at hS; simp at hS
  have g : MeetsIn prog w (Builtin.«list.extend» ⟨[.ref S, .ref it], []⟩) (fun A' R s' => s' = s ∧ A'.handled = none ∧
      ∀ h' tk c', (∀ b o, b ≠ S → b ≠ it → s.heap.get? b = some o → h'.get? b = some o) → h'.get? S = some (listOf items.reverse.toArray c') → R (.ok (.ret .none)) { s with heap := h', toks := tk }) :=
    fun A' R s' h => by
      obtain ⟨rfl, hh', h⟩ := h
      unfold Builtin.«list.extend»
      refine wpAny_bind (wpAny_of_eq (a := (Value.ref S, Value.ref it)) rfl ?_)
      (try dsimp only)
      refine ext_core (T := "reversed") (walks_rev (A := A'.in1) hh' it t hti items n hz) ⟨_, hit, rfl⟩ (by decide) (by decide) (fun Q hQ => rev_hint hit ht hz hQ) S .none c₀ ⟨Nat.zero_le _, by simpa using hit, ht⟩ (by simp [hSi, hSt]) (by simp) hS (fun h' tk acc' c' hk hS' hacc => ?_) (by rw [sizeLine_eq]; omega)
      have e := itemsOf_rev hacc
      subst e
      exact h h' tk c' (fun b o h1 h2 => hk b o (by simp [h1, h2])) hS'
  exact call_meetsIn F.slot_list_extend ⟨_, hS, rfl⟩ F.entry_list_extend (F.args_list_extend_2 _ _) g ⟨rfl, hh, hR⟩
theorem lri_hint {it l : Addr} {i : Int} {Q : Bool → Shared → Prop} (hit : s.heap.get? it = some (revObj l i)) (hQ : ∀ b tk, s.toks ≤ tk → Q b { s with toks := tk }) : wpAny (model prog w) A (Builtin.List.listLengthHint (.ref it)) Q E s := by
  have hT : s.TypeIs (.ref it) "list_reverseiterator" := ⟨_, hit, rfl⟩
  unfold Builtin.List.listLengthHint
  refine wpAny_bind (wpAny_specialOf hT RvF.nolen_lri ?_)
  show wpAny _ _ (specialOf (Value.ref it) (Str.ofString "__length_hint__") >>= _) _ _ _
  refine wpAny_bind (wpAny_specialOf hT RvF.hint_lri ?_)
  generalize hid : ("list_reverseiterator.__length_hint__" : String) = id0
  wp_delta
  rw [show splitId id0 = some ("list_reverseiterator", "__length_hint__") from by subst hid; decide +kernel]
  subst hid
  refine wpAny_bind (wpAny_isInstance (b := true) hT (by rw [isSubtype_type]; kernel_rfl) ?_)
  rw [if_neg (by decide)]
  (try dsimp only)
  rw [if_pos (by decide +kernel), if_neg (by decide +kernel)]
  exact wpAny_pure (hQ _ _ (Nat.le_refl _))
theorem list_rev {it l : Addr} {items : List Value} {n : Nat} {Q : Value → Shared → Prop} (hh : A.handled = none) (hit : s.heap.get? it = some (revObj l ((items.length : Int) - 1))) (hl : s.heap.get? l = some (listOf items.toArray n)) (hz : items.length ≤ 1000)
    (hR : ∀ h' tk c', (∀ b o, b ≠ it → s.heap.get? b = some o → h'.get? b = some o) → h'.get? s.heap.objs.size = some (listOf items.reverse.toArray c') → Q (.ref s.heap.objs.size) { s with heap := h', toks := tk }) :
    wpAny (model prog w) A (call (.type "list") [.ref it]) Q E s := by
  have hli : l ≠ it := fun e => by rw [e, hit] at hl; simp [revObj] at hl
  refine callType_codes (Q₁ := fun obj s₁ => obj = .ref s.heap.objs.size ∧ s₁ = { s with heap := s.heap.push { cls := .type "list", data := .seq #[] } }) F.called_list (F.typeCall_list_1 _) F.entry_list_init
    (code_list_new _ ⟨rfl, rfl⟩) fun obj s₁ h₁ => ?_
  obtain ⟨rfl, rfl⟩ := h₁
  have hS : (s.heap.push { cls := .type "list", data := .seq #[] }).get? s.heap.objs.size = some { cls := .type "list", data := .seq #[] } := Heap.get?_push_size _ rfl
  refine ⟨⟨_, hS, rfl⟩, F.args_list_init_2 _ _, ?_⟩
  have hSit : s.heap.objs.size ≠ it := Nat.ne_of_gt (Heap.lt_size hit)
  have hSl : s.heap.objs.size ≠ l := Nat.ne_of_gt (Heap.lt_size hl)
  have oth0 : ∀ b o, s.heap.get? b = some o → (s.heap.push { cls := .type "list", data := .seq #[] }).get? b = some o := fun b o e => Heap.get?_push_of_some _ e
  show wpAny _ A.in1.in1 (do let old ← Builtin.List.listItems (.ref s.heap.objs.size); Builtin.List.listUpdate (.ref s.heap.objs.size) (fun _ => #[]); letGo old.toList.reverse; Builtin.List.listExtendWith (.ref s.heap.objs.size) (.ref it) .none) _ _ _
  refine wpAny_bind ?_
  unfold Builtin.List.listItems
  refine wpAny_bind (wpAny_seqItems hS rfl (wpAny_pure ?_))
  show wpAny _ _ (updateSeq s.heap.objs.size (fun _ => #[]) >>= fun _ => letGo (#[] : Array Value).toList.reverse >>= fun _ => Builtin.List.listExtendWith (.ref s.heap.objs.size) (.ref it) .none) _ _ _
  refine wpAny_bind (wpAny_updateSeq hS rfl ?_)
  have hS₂ := Heap.get?_update_self (Obj.mapSeq (fun _ => (#[] : Array Value))) hS rfl
  have oth : ∀ b o, b ≠ s.heap.objs.size → s.heap.get? b = some o → ((s.heap.push { cls := .type "list", data := .seq #[] }).update s.heap.objs.size (Obj.mapSeq (fun _ => (#[] : Array Value)))).get? b = some o :=
    fun b o hb e => (Heap.get?_update_other _ _ (Ne.symm hb)).trans (oth0 b o e)
  refine wpAny_bind (wpAny_letGo ?_)
  have hit₂ := oth _ _ (Ne.symm hSit) hit
  have hl₂ := oth _ _ (Ne.symm hSl) hl
  refine ext_core (A := A.in1) (T := "list_reverseiterator") (Walks.listRev (A := A.in1.in1) hh it l hli items.toArray) ⟨_, hit₂, rfl⟩ (by decide) (by decide) (fun Q hQ => lri_hint hit₂ hQ) s.heap.objs.size .none _ ⟨Nat.zero_le _, ⟨_, hit₂, rfl, by simp [revObj]⟩, ⟨_, hl₂, rfl, n, rfl⟩⟩ (by simp [hSit, hSl]) (by simp) hS₂ (fun h' tk acc' c' hk hS' hacc => ?_) (by rw [sizeLine_eq, List.size_toArray]; omega)
  have e : acc' = items.reverse.toArray := itemsOf_rev (by
    have e1 : items.toArray.size = items.length := List.size_toArray ..
    rw [e1] at hacc
    refine ⟨hacc.1, fun j v hj => ?_⟩
    have := hacc.2 j v hj
    dsimp only at this ⊢
    rwa [List.getElem?_toArray] at this)
  subst e
  exact ⟨rfl, hR h' tk c' (fun b o hb e => hk b o (by simp [hb, Nat.ne_of_lt (Heap.lt_size e)]) (oth b o (Nat.ne_of_lt (Heap.lt_size e)) e)) hS'⟩
end
section
variable {prog : Program} {w : World} {A : Around} {E : Value → Shared → Prop} {s : Shared} {h₀ : Heap} {L : Addr} {m : Str → Option Value} {news rest : Led}
theorem reversed_K {t : Addr} {items : List Value} {n : Nat} {Q : Value → Shared → Prop} (F : Fr h₀ L s.heap m) (N : News h₀ L s.heap news) (ht : (t, tupO items n) ∈ news) (hz : items.length ≤ 1000)
    (h : ∀ D h' tk, Fr h₀ L h' m → News h₀ L h' ((D, revT t ((items.length : Int) - 1)) :: news) → (∀ p ∈ news, p.1 < D) → Q (.ref D) { s with heap := h', toks := tk }) :
    wpAny (model prog w) A (call (.type "reversed") [.ref t]) Q E s :=
  call_reversed_tuple (N _ ht).1 hz (h _ _ _ (F.push _) (N.push F _) fun p hp => Heap.lt_size (N p hp).1)
theorem reversed_KL {l : Addr} {items : List Value} {n : Nat} {Q : Value → Shared → Prop} (F : Fr h₀ L s.heap m) (N : News h₀ L s.heap news) (ht : (l, listOf items.toArray n) ∈ news)
    (h : ∀ D h', Fr h₀ L h' m → News h₀ L h' ((D, revObj l ((items.length : Int) - 1)) :: news) → (∀ p ∈ news, p.1 < D) → Q (.ref D) { s with heap := h' }) :
    wpAny (model prog w) A (call (.type "reversed") [.ref l]) Q E s :=
  krv_reversed F N ⟨_, (N _ ht).1, rfl, n, rfl⟩ h
theorem extend_rev_K {S it t : Addr} {items : List Value} {n c₀ : Nat} {Q : Value → Shared → Prop} (hh : A.handled = none) (F : Fr h₀ L s.heap m) (N : News h₀ L s.heap news) (hS : (S, listOf #[] c₀) ∈ news) (hit : (it, revT t ((items.length : Int) - 1)) ∈ news) (ht : (t, tupO items n) ∈ news) (hz : items.length ≤ 1000)
    (hsub : ∀ p ∈ rest, p ∈ news) (h1 : ∀ p ∈ rest, p.1 ≠ S) (h2 : ∀ p ∈ rest, p.1 ≠ it)
    (h : ∀ h' tk c', Fr h₀ L h' m → News h₀ L h' ((S, listOf items.reverse.toArray c') :: rest) → Q .none { s with heap := h', toks := tk }) :
    wpAny (model prog w) A (call (.builtin "list.extend") [.ref S, .ref it]) Q E s := by
  have NS := N _ hS
  have NI := N _ hit
  refine extend_rev hh NS.1 NI.1 (N _ ht).1 hz fun h' tk c' hk hS' => h h' tk c' ?_ fun p hp => ?_
  · exact ⟨F.ns.at' fun o e => hk _ o (Ne.symm NS.2.1) (Ne.symm NI.2.1) e, fun b o e => hk b o (fun hb => by rw [hb, NS.2.2] at e; cases e) (fun hb => by rw [hb, NI.2.2] at e; cases e) (F.keep b o e), F.above⟩
  · rcases List.mem_cons.mp hp with rfl | hp
    · exact ⟨hS', NS.2⟩
    · exact ⟨hk _ _ (h1 p hp) (h2 p hp) (N p (hsub p hp)).1, (N p (hsub p hp)).2⟩
theorem list_rev_K {it l : Addr} {items : List Value} {n : Nat} {Q : Value → Shared → Prop} (hh : A.handled = none) (F : Fr h₀ L s.heap m) (N : News h₀ L s.heap news) (hit : (it, revObj l ((items.length : Int) - 1)) ∈ news) (hl : (l, listOf items.toArray n) ∈ news) (hz : items.length ≤ 1000)
    (hsub : ∀ p ∈ rest, p ∈ news) (h2 : ∀ p ∈ rest, p.1 ≠ it)
    (h : ∀ D h' tk c', Fr h₀ L h' m → News h₀ L h' ((D, listOf items.reverse.toArray c') :: rest) → (∀ p ∈ news, p.1 < D) → Q (.ref D) { s with heap := h', toks := tk }) :
    wpAny (model prog w) A (call (.type "list") [.ref it]) Q E s := by
  have NI := N _ hit
  have hnone : h₀.get? s.heap.objs.size = none := by
    cases e : h₀.get? s.heap.objs.size with
    | none => rfl
    | some o => exact absurd (Heap.lt_size (F.keep _ o e)) (Nat.lt_irrefl _)
  refine list_rev hh NI.1 (N _ hl).1 hz fun h' tk c' hk hD => h _ h' tk c' ?_ (fun p hp => ?_) fun p hp => Heap.lt_size (N p hp).1
  · exact ⟨F.ns.at' fun o e => hk _ o (Ne.symm NI.2.1) e, fun b o e => hk b o (fun hb => by rw [hb, NI.2.2] at e; cases e) (F.keep b o e), F.above⟩
  · rcases List.mem_cons.mp hp with rfl | hp
    · exact ⟨hD, Nat.ne_of_gt F.ns.lt, hnone⟩
    · exact ⟨hk _ _ (h2 p hp) (N p (hsub p hp)).1, (N p (hsub p hp)).2⟩
theorem extend_rev_U {S it t : Addr} {items : List Value} {n c₀ : Nat} {g : Obj → Led} {Q : Value → Shared → Prop} (hh : A.handled = none) (F : Fr h₀ L s.heap m) (N : News h₀ L s.heap ((it, revT t ((items.length : Int) - 1)) :: news)) (U : UpdF S (listOf #[] c₀) news g) (ht : (t, tupO items n) ∈ news) (hz : items.length ≤ 1000)
    (h2 : ∀ p ∈ news, p.1 ≠ it)
    (h : ∀ h' tk c', Fr h₀ L h' m → News h₀ L h' (g (listOf items.reverse.toArray c')) → Q .none { s with heap := h', toks := tk }) :
    wpAny (model prog w) A (call (.builtin "list.extend") [.ref S, .ref it]) Q E s := by
  (try k_fold); (try (show (let GZ : Prop := _; GZ); intro GZ))
  obtain ⟨pre, post, rfl, hg, a, b⟩ := U.split
  (try k_unfold)
  have hnot : ∀ p ∈ pre ++ post, p.1 ≠ S := fun p hp => (List.mem_append.mp hp).elim (a p) (b p)
  have hsub : ∀ p ∈ pre ++ post, p ∈ pre ++ (S, listOf #[] c₀) :: post := fun p hp => (List.mem_append.mp hp).elim (fun h => List.mem_append_left _ h) fun h => List.mem_append_right _ (.tail _ h)
  refine extend_rev_K (rest := pre ++ post) hh F N (.tail _ (List.mem_append_right _ (.head _))) (.head _) (.tail _ ht) hz (fun p hp => .tail _ (hsub p hp)) hnot (fun p hp => h2 p (hsub p hp)) fun h' tk c' F' N' => h h' tk c' F' ?_
  rw [hg]
  intro p hp
  refine N' p ?_
  rcases List.mem_append.mp hp with hp | hp
  · exact .tail _ (List.mem_append_left _ hp)
  · rcases List.mem_cons.mp hp with rfl | hp
    · exact .head _
    · exact .tail _ (List.mem_append_right _ hp)
theorem list_rev_H {it l : Addr} {items : List Value} {n : Nat} {Q : Value → Shared → Prop} (hh : A.handled = none) (F : Fr h₀ L s.heap m) (N : News h₀ L s.heap ((it, revObj l ((items.length : Int) - 1)) :: news)) (hl : (l, listOf items.toArray n) ∈ news) (hz : items.length ≤ 1000)
    (h2 : ∀ p ∈ news, p.1 ≠ it)
    (h : ∀ D h' tk c', Fr h₀ L h' m → News h₀ L h' ((D, listOf items.reverse.toArray c') :: news) → (∀ p ∈ news, p.1 < D) → Q (.ref D) { s with heap := h', toks := tk }) :
    wpAny (model prog w) A (call (.type "list") [.ref it]) Q E s :=
  list_rev_K hh F N (.head _) (.tail _ hl) hz (fun p hp => .tail _ hp) h2 fun D h' tk c' F' N' hlt => h D h' tk c' F' N' fun p hp => hlt p (.tail _ hp)
end

end PRv
section PDi
/-! dicts with int keys and any values -/
section
variable {prog : Program} {w : World} {A : Around} {E : Value → Shared → Prop} {s : Shared} {h₀ : Heap} {L : Addr} {m : Str → Option Value} {kvs : List (Int × Value)} {o : Obj} {d : Addr} {news : Led}
theorem di_notin_some {Q : Value → Shared → Prop} {k : Int} {t : Tok} {v : Value} (hl : valueAt kvs k = some v) (hd : o.IsDictOf (intKind prog w) kvs) (lo : (d == sysModules) = false) (N : News h₀ L s.heap news) (hp : (d, o) ∈ news) (h : Q (.bool false) { s with toks := s.toks + 1 }) :
    wpAny (model prog w) A (compareOp .NotIn (.int k t) (.ref d)) Q E s := kdg_notin N hp hd lo (intKind_is _ _ _ _) true (by rw [hl]; rfl) h
theorem di_notin_none {Q : Value → Shared → Prop} {k : Int} {t : Tok} (hl : valueAt kvs k = none) (hd : o.IsDictOf (intKind prog w) kvs) (lo : (d == sysModules) = false) (N : News h₀ L s.heap news) (hp : (d, o) ∈ news) (h : Q (.bool true) { s with toks := s.toks + 1 }) :
    wpAny (model prog w) A (compareOp .NotIn (.int k t) (.ref d)) Q E s := kdg_notin N hp hd lo (intKind_is _ _ _ _) false (by rw [hl]; rfl) h
theorem di_in_some {Q : Value → Shared → Prop} {k : Int} {t : Tok} {v : Value} (hl : valueAt kvs k = some v) (hd : o.IsDictOf (intKind prog w) kvs) (lo : (d == sysModules) = false) (N : News h₀ L s.heap news) (hp : (d, o) ∈ news) (h : Q (.bool true) { s with toks := s.toks + 1 }) :
    wpAny (model prog w) A (compareOp .In (.int k t) (.ref d)) Q E s := kda_in N hp hd lo (intKind_is _ _ _ _) true (by rw [hl]; rfl) h
theorem di_in_none {Q : Value → Shared → Prop} {k : Int} {t : Tok} (hl : valueAt kvs k = none) (hd : o.IsDictOf (intKind prog w) kvs) (lo : (d == sysModules) = false) (N : News h₀ L s.heap news) (hp : (d, o) ∈ news) (h : Q (.bool false) { s with toks := s.toks + 1 }) :
    wpAny (model prog w) A (compareOp .In (.int k t) (.ref d)) Q E s := kda_in N hp hd lo (intKind_is _ _ _ _) false (by rw [hl]; rfl) h
theorem di_get2_some {Q : Value → Shared → Prop} {k : Int} {t : Tok} {v dv : Value} (hl : valueAt kvs k = some v) (hd : o.IsDictOf (intKind prog w) kvs) (lo : (d == sysModules) = false) (N : News h₀ L s.heap news) (hp : (d, o) ∈ news) (h : Q v { s with toks := s.toks + 1 }) :
    wpAny (model prog w) A (call (.builtin "dict.get") [.ref d, .int k t, dv]) Q E s := kdg_get2 N hp hd lo (intKind_is _ _ _ _) _ hl h
theorem di_get2_none {Q : Value → Shared → Prop} {k : Int} {t : Tok} {dv : Value} (hl : valueAt kvs k = none) (hd : o.IsDictOf (intKind prog w) kvs) (lo : (d == sysModules) = false) (N : News h₀ L s.heap news) (hp : (d, o) ∈ news) (h : Q dv { s with toks := s.toks + 1 }) :
    wpAny (model prog w) A (call (.builtin "dict.get") [.ref d, .int k t, dv]) Q E s := kdg_get2 N hp hd lo (intKind_is _ _ _ _) _ hl h
theorem di_getItem {Q : Value → Shared → Prop} {k : Int} {t : Tok} {v : Value} (hl : valueAt kvs k = some v) (hd : o.IsDictOf (intKind prog w) kvs) (N : News h₀ L s.heap news) (hp : (d, o) ∈ news) (h : Q v { s with toks := s.toks + 1 }) :
    wpAny (model prog w) A (getItem (.ref d) (.int k t)) Q E s := wpAny_getItem_of (intKind_is _ _ _ _) (kda_dict N hp hd).mapOf hl h
theorem di_item {value slice : PySem.Expr} {Q : Value → Shared → Prop} {k : Int} {t : Tok} {v : Value} (hl : valueAt kvs k = some v) (hd : o.IsDictOf (intKind prog w) kvs) (N : News h₀ L s.heap news) (hp : (d, o) ∈ news) (h : Q v { s with toks := s.toks + 1 })
    (hs : subscripted slice false (.ref d) (.int k t) = operate [.ref d, .int k t] (getItem (.ref d) (.int k t)) := by with_unfolding_all rfl) (hg : ∀ r, letTemporaryGo value (.ref d) r = pure () := by intro _; with_unfolding_all rfl) :
    wpAny (model prog w) A (subscriptTail value slice (.ref d) (.int k t)) Q E s := kda_item N hp hd (intKind_is _ _ _ _) hl h hs hg
theorem dn_notin_some {Q : Value → Shared → Prop} {k : Int} {t : Tok} {v : Value} (N : News h₀ L s.heap news) (hp : (d, o) ∈ news) (hd : o.IsDictOf (intKind prog w) kvs) (lo : (d == sysModules) = false) (hl : valueAt kvs k = some v) (h : Q (.bool false) { s with toks := s.toks + 1 }) :
    wpAny (model prog w) A (compareOp .NotIn (.int k t) (.ref d)) Q E s := di_notin_some hl hd lo N hp h
theorem dn_notin_none {Q : Value → Shared → Prop} {k : Int} {t : Tok} (N : News h₀ L s.heap news) (hp : (d, o) ∈ news) (hd : o.IsDictOf (intKind prog w) kvs) (lo : (d == sysModules) = false) (hl : valueAt kvs k = none) (h : Q (.bool true) { s with toks := s.toks + 1 }) :
    wpAny (model prog w) A (compareOp .NotIn (.int k t) (.ref d)) Q E s := di_notin_none hl hd lo N hp h
theorem dn_get2_some {Q : Value → Shared → Prop} {k : Int} {t : Tok} {v dv : Value} (N : News h₀ L s.heap news) (hp : (d, o) ∈ news) (hd : o.IsDictOf (intKind prog w) kvs) (lo : (d == sysModules) = false) (hl : valueAt kvs k = some v) (h : Q v { s with toks := s.toks + 1 }) :
    wpAny (model prog w) A (call (.builtin "dict.get") [.ref d, .int k t, dv]) Q E s := di_get2_some hl hd lo N hp h
theorem dn_get2_none {Q : Value → Shared → Prop} {k : Int} {t : Tok} {dv : Value} (N : News h₀ L s.heap news) (hp : (d, o) ∈ news) (hd : o.IsDictOf (intKind prog w) kvs) (lo : (d == sysModules) = false) (hl : valueAt kvs k = none) (h : Q dv { s with toks := s.toks + 1 }) :
    wpAny (model prog w) A (call (.builtin "dict.get") [.ref d, .int k t, dv]) Q E s := di_get2_none hl hd lo N hp h
theorem dn_getItem {Q : Value → Shared → Prop} {k : Int} {t : Tok} {v : Value} (N : News h₀ L s.heap news) (hp : (d, o) ∈ news) (hd : o.IsDictOf (intKind prog w) kvs) (hl : valueAt kvs k = some v) (h : Q v { s with toks := s.toks + 1 }) :
    wpAny (model prog w) A (getItem (.ref d) (.int k t)) Q E s := di_getItem hl hd N hp h
theorem dn_item {value slice : PySem.Expr} {Q : Value → Shared → Prop} {k : Int} {t : Tok} {v : Value} (N : News h₀ L s.heap news) (hp : (d, o) ∈ news) (hd : o.IsDictOf (intKind prog w) kvs) (hl : valueAt kvs k = some v) (h : Q v { s with toks := s.toks + 1 })
    (hs : subscripted slice false (.ref d) (.int k t) = operate [.ref d, .int k t] (getItem (.ref d) (.int k t)) := by with_unfolding_all rfl) (hg : ∀ r, letTemporaryGo value (.ref d) r = pure () := by intro _; with_unfolding_all rfl) :
    wpAny (model prog w) A (subscriptTail value slice (.ref d) (.int k t)) Q E s := di_item hl hd N hp h hs hg
theorem dn_set {Q : Unit → Shared → Prop} {k : Int} {t : Tok} {v : Value} {g : Obj → Led} (F : Fr h₀ L s.heap m) (N : News h₀ L s.heap news) (U : UpdF d o news g) (hd : o.IsDictOf (intKind prog w) kvs) (hz : kvs.length ≤ 5000)
    (h : ∀ h' o', Fr h₀ L h' m → News h₀ L h' (g o') → o'.IsDictOf (intKind prog w) (stored kvs k v) → Q () { s with heap := h', toks := s.toks + 1 }) : wpAny (model prog w) A (setItem (.ref d) (.int k t) v) Q E s :=
  kda_set (knd := intKind prog w) F N U hd (intKind_is _ _ _ _) (by rw [sizeLine_eq]; omega) h
end
theorem valueAt_nil (k : Int) : valueAt ([] : List (Int × Value)) k = none := rfl
theorem valueAt_cons (a : Int × Value) (r : List (Int × Value)) (k : Int) : valueAt (a :: r) k = if a.1 = k then some a.2 else valueAt r k := by
  unfold valueAt
  by_cases h : a.1 = k <;> simp [h]
theorem valueAt_stored (kvs : List (Int × Value)) (k j : Int) (v : Value) : valueAt (stored kvs k v) j = if j = k then some v else valueAt kvs j := by
  induction kvs with
  | nil =>
    rw [show stored [] k v = [(k, v)] from rfl, valueAt_cons, valueAt_nil]
    by_cases h : k = j <;> simp [h, eq_comm]
  | cons a r ih =>
    unfold stored at ih ⊢
    by_cases h : a.1 = k
    · rw [if_pos (by simp [h]), List.map_cons, if_pos h, valueAt_cons, valueAt_cons]
      by_cases h2 : a.1 = j
      · rw [if_pos h2, if_pos (h2.symm.trans h)]
      · have h3 : j ≠ k := fun e => h2 (h.trans e.symm)
        rw [if_neg h2, if_neg h3, if_neg h2]
        by_cases h4 : (r.any fun kv => decide (kv.1 = k)) = true
        · rw [if_pos h4, if_neg h3] at ih
          exact ih
        · rw [show (List.map (fun kv : Int × Value => if kv.1 = k then (kv.1, v) else kv) r) = r from by
            conv => rhs; rw [← List.map_id r]
            refine List.map_congr_left fun q hq => ?_
            have : ¬q.1 = k := fun e => h4 (List.any_eq_true.mpr ⟨q, hq, by simp [e]⟩)
            rw [if_neg this]; rfl]
    · by_cases h4 : (r.any fun kv => decide (kv.1 = k)) = true
      · rw [if_pos h4] at ih
        rw [if_pos (by simp only [List.any_cons, h4, Bool.or_true]), List.map_cons, if_neg h, valueAt_cons, valueAt_cons, ih]
        by_cases h2 : a.1 = j
        · rw [if_pos h2, if_pos h2, if_neg (fun e => h (h2.trans e))]
        · rw [if_neg h2, if_neg h2]
      · rw [if_neg h4] at ih
        rw [if_neg (by simp only [List.any_cons, Bool.or_eq_true, decide_eq_true_eq, not_or]; exact ⟨h, h4⟩), List.cons_append, valueAt_cons, valueAt_cons, ih]
        by_cases h2 : a.1 = j
        · rw [if_pos h2, if_pos h2, if_neg (fun e => h (h2.trans e))]
        · rw [if_neg h2, if_neg h2]
theorem valueAt_stored_self (kvs : List (Int × Value)) (k : Int) (v : Value) : valueAt (stored kvs k v) k = some v := by rw [valueAt_stored, if_pos rfl]
/-- another ledger for a contract -/
theorem ctr_conv {w : World} {loose : List Str} {mean : ExcName → Option Value} {mg mb : Str → Option Value} {f : Addr} {D : Nat} {args : List Value} {led led2 : Led} {Post Post2 : Value → Led → Prop}
    (C : Ctr w loose mean mg mb f D args led Post) (h1 : ∀ p ∈ led, p ∈ led2) (h2 : ∀ r l, Post r l → ∃ l2, (∀ p ∈ l2, p ∈ l) ∧ Post2 r l2) : Ctr w loose mean mg mb f D args led2 Post2 := by
  unfold Ctr
  intro dp un gd cn cs a ccd cl outer A₀ base h₀ L m s Q E B F X N T hk hd hu hret
  refine C _ _ _ _ _ _ _ _ _ _ _ _ _ _ _ _ _ B F X (news_sub N h1) T hk hd hu fun r l h' tk' F' N' hp => ?_
  obtain ⟨l2, hs, hp2⟩ := h2 _ _ hp
  exact hret r l2 h' tk' F' (news_sub N' hs) hp2

end PDi
section PSd
/-! the keys of a dict: iterated, sorted; the while loop -/
section
variable {prog : Program} {w : World} {A : Around}
theorem src_dict (hh : A.handled = none) (d : Addr) (o : Obj) (kvs : List (Int × Value)) (hd : o.IsDictOf (intKind prog w) kvs) (lo : (d == sysModules) = false) :
    SrcAt prog w A (.ref d) kvs.length (fun i v => ∃ k x t, kvs[i]? = some (k, x) ∧ v = .int k t) [(d, o)] := by
  intro s E K hn hK
  have hl := hn (d, o) (.head _)
  (try k_fold); (try (show (let GZ : Prop := _; GZ); intro GZ))
  obtain ⟨es, ep, hx, hdat, hk, hp, hnd⟩ := hd
  (try k_unfold)
  have hat : ∀ h : Heap, h.get? d = some o → h.DictAt (intKind prog w) d kvs ep := fun h e => ⟨o, es, e, hx, hdat, hk, hp, hnd⟩
  have hne : d ≠ s.heap.objs.size := Nat.ne_of_lt (Heap.lt_size hl)
  have W := Walks.dictKeys (prog := prog) (w := w) (knd := intKind prog w) hh s.heap.objs.size d hne kvs ep
  have hP : (fun (i : Nat) (v : Value) => ∃ k x, kvs[i]? = some (k, x) ∧ (intKind prog w).is k v = true) = fun (i : Nat) v => ∃ k x t, kvs[i]? = some (k, x) ∧ v = .int k t := by
    funext i v
    refine propext ⟨?_, ?_⟩
    · rintro ⟨k, x, h1, h2⟩
      obtain ⟨t, rfl⟩ := Value.isInt_shape h2
      exact ⟨k, x, t, h1, rfl⟩
    · rintro ⟨k, x, t, h1, rfl⟩
      exact ⟨k, x, h1, intKind_is _ _ _ _⟩
  rw [hP] at W
  refine wpAny_pyIter_dict lo (hat _ hl) (hK _ [s.heap.objs.size, d] _ _ (fun b o e => Heap.get?_push_of_some _ e) (none_size _) W ?_ ⟨⟨_, Heap.get?_push_size _ rfl, rfl, rfl⟩, hat _ (Heap.get?_push_of_some _ hl)⟩ ?_ ?_ ?_)
  · intro b hb
    rcases List.mem_cons.mp hb with rfl | hb
    · exact .inl rfl
    · exact .inr ⟨_, .head _, (List.mem_singleton.mp hb).symm⟩
  · exact fun i h hi => let ⟨o, ho, _⟩ := hi.1; ⟨o, ho⟩
  · intro i h h₂ o' hi ho ho2 hnd'
    (try k_fold); (try (show (let GZ : Prop := _; GZ); intro GZ))
    obtain ⟨⟨o'', e1, e2, e3⟩, _⟩ := hi
    (try k_unfold)
    rw [ho] at e1; cases e1
    exact ⟨⟨o', ho2, e2, e3⟩, hat _ (hnd' _ (.head _))⟩
  · exact fun i h hi => let ⟨o, ho, hc, _⟩ := hi.1; ⟨o, _, ho, hc, by decide⟩
theorem ints_of : ∀ {vs : List Value} {kvs : List (Int × Value)}, vs.length = kvs.length → (∀ (j : Nat) (v : Value), vs[j]? = some v → ∃ k x, kvs[j]? = some (k, x) ∧ (intKind prog w).is k v = true) → IntsAre vs (kvs.map (·.1))
  | [], [], _, _ => .nil
  | [], _ :: _, h, _ => by simp at h
  | _ :: _, [], h, _ => by simp at h
  | v :: vs, kv :: kvs, h, hP => by
    (try k_fold); (try (show (let GZ : Prop := _; GZ); intro GZ))
    obtain ⟨k, x, h1, h2⟩ := hP 0 v rfl
    (try k_unfold)
    simp at h1
    subst h1
    obtain ⟨t, rfl⟩ := Value.isInt_shape h2
    exact .cons k t (ints_of (by simpa using h) fun j u hj => hP (j + 1) u (by simpa using hj))
end
section
variable {prog : Program} {w : World} {A : Around} {E : Value → Shared → Prop} {s : Shared} {h₀ : Heap} {L d : Addr} {m : Str → Option Value} {news : Led} {o : Obj} {kvs : List (Int × Value)} {Q : Value → Shared → Prop}
theorem sorted_dict_K_0 (hh : A.handled = none) (F : Fr h₀ L s.heap m) (N : News h₀ L s.heap news) (hp : (d, o) ∈ news) (hd : o.IsDictOf (intKind prog w) kvs) (lo : (d == sysModules) = false) (hlen : kvs.length < 64)
    (h : ∀ B vs' ns' c h' tk, Fr h₀ L h' m → News h₀ L h' ((B, listOf vs'.toArray c) :: news) → (∀ q ∈ news, q.1 < B) → IntsAre vs' ns' → ns'.Perm (kvs.map (·.1)) → ns'.Pairwise (· ≤ ·) → Q (.ref B) { s with heap := h', toks := tk }) :
    wpAny (model prog w) A (call (.builtin "sorted") [.ref d]) Q E s := by
  (try k_fold); (try (show (let GZ : Prop := _; GZ); intro GZ))
  obtain ⟨es, ep, hx, hdat, hk, hpp, hnd⟩ := hd
  (try k_unfold)
  have hat : s.heap.DictAt (intKind prog w) d kvs ep := ⟨o, es, (N _ hp).1, hx, hdat, hk, hpp, hnd⟩
  refine kdu_sorted (kdl_dict (knd := intKind prog w) (kvs := kvs) (ep := ep) lo) hh F N hat (by rw [sizeLine_eq]; omega) fun B h' tk vs F' N' l1 hl hv => ?_
  have hi := ints_of hl hv
  refine ksk_lsort (its := vs.toArray) (vs := vs) F' N' (fun o => Upd.head (allLt_ne' l1)) (List.toList_toArray ..) hi (by simpa using hlen) fun vs' ns' c h'' F'' N'' i1 _ p1 o1 _ => ?_
  exact h B vs' ns' c h'' tk F'' N'' l1 i1 p1 o1
theorem sorted_dict_K {hp0 : Heap} {gs : Array GenState} {dr : Drawn} {tk0 : Nat} {os0 : OsState} (hh : A.handled = none) (F : Fr h₀ L hp0 m) (N : News h₀ L hp0 news) (hp : (d, o) ∈ news) (hd : o.IsDictOf (intKind prog w) kvs) (lo : (d == sysModules) = false) (hlen : kvs.length < 64)
    (h : ∀ B vs' ns' c h' tk, Fr h₀ L h' m → News h₀ L h' ((B, listOf vs'.toArray c) :: news) → (∀ q ∈ news, q.1 < B) → IntsAre vs' ns' → ns'.Perm (kvs.map (·.1)) → ns'.Pairwise (· ≤ ·) → Q (.ref B) ⟨h', gs, dr, tk, os0⟩) :
    wpAny (model prog w) A (call (.builtin "sorted") [.ref d]) Q E ⟨hp0, gs, dr, tk0, os0⟩ :=
  sorted_dict_K_0 (s := ⟨hp0, gs, dr, tk0, os0⟩) hh F N hp hd lo hlen h
end
section
variable {prog : Program} {w : World} {A : Around} {s : Shared} {env : Env} {test : PySem.Expr} {body : List Stmt} {Q : Flow → Shared → Prop} {h₀ : Heap} {L : Addr}
theorem passes_false : PassesOwn (model prog w) A env (fun _ _ => False) := by
  intro e s h
  exact h.elim
def WhEnd (h₀ : Heap) (L : Addr) (J : Nat → (Str → Option Value) → Led → Prop) (a : Nat) (s₁ : Shared) (Q : Flow → Shared → Prop) (f : Flow) (s₂ : Shared) : Prop :=
  match f with
  | .ret v => Q (.ret v) s₂
  | .brk => Q .next s₂
  | _ => ∃ a' h' tk m' nw, a' < a ∧ s₂ = { s₁ with heap := h', toks := tk } ∧ Fr h₀ L h' m' ∧ News h₀ L h' nw ∧ J a' m' nw
theorem while_rule_0 (J : Nat → (Str → Option Value) → Led → Prop)
    (turn : ∀ a m nw h tk, J a m nw → Fr h₀ L h m → News h₀ L h nw →
      wpAny (model prog w) A (isTrue test env (eval test env)) (fun b s₂ => WhlIf b (wpAny (model prog w) A (execs body env) (WhEnd h₀ L J a { s with heap := h, toks := tk } Q) (fun _ _ => False) s₂) (wpAny (model prog w) A (execs [] env) Q (fun _ _ => False) s₂)) (fun _ _ => False) { s with heap := h, toks := tk }) :
    ∀ (a : Nat) m nw h tk k, J a m nw → Fr h₀ L h m → News h₀ L h nw → WhlRest prog w A (fun _ _ => False) env test body [] Q k { s with heap := h, toks := tk } := by
  intro a
  induction a using Nat.strongRecOn with
  | ind a ih =>
    intro m nw h tk k hJ F N
    show WhlRest prog w A (fun _ _ => False) env test body [] Q (0 + 1) { s with heap := h, toks := tk }
    refine whl_turn passes_false (wpAny_mono (turn a m nw h tk hJ F N) (fun b s₂ hb => ?_) fun _ _ e => e)
    cases b with
    | false => exact hb
    | true =>
      refine WhlIf.yes rfl (wpAny_mono (show wpAny _ _ _ _ _ _ from by unfold WhlIf at hb; rw [if_pos rfl] at hb; exact hb) (fun f s₃ hf => ?_) fun _ _ e => e)
      cases f with
      | ret v => exact hf
      | brk => exact hf
      | next =>
        (try k_fold); (try (show (let GZ : Prop := _; GZ); intro GZ))
        obtain ⟨a', h', tk', m', nw', hlt, rfl, F', N', hJ'⟩ := hf
        (try k_unfold)
        exact ih a' hlt m' nw' h' tk' 0 hJ' F' N'
      | cont =>
        (try k_fold); (try (show (let GZ : Prop := _; GZ); intro GZ))
        obtain ⟨a', h', tk', m', nw', hlt, rfl, F', N', hJ'⟩ := hf
        (try k_unfold)
        exact ih a' hlt m' nw' h' tk' 0 hJ' F' N'
theorem while_rule {gs : Array GenState} {dr : Drawn} {os0 : OsState} (J : Nat → (Str → Option Value) → Led → Prop)
    (turn : ∀ a m nw h tk, J a m nw → Fr h₀ L h m → News h₀ L h nw →
      wpAny (model prog w) A (isTrue test env (eval test env)) (fun b s₂ => WhlIf b (wpAny (model prog w) A (execs body env) (WhEnd h₀ L J a ⟨h, gs, dr, tk, os0⟩ Q) (fun _ _ => False) s₂) (wpAny (model prog w) A (execs [] env) Q (fun _ _ => False) s₂)) (fun _ _ => False) ⟨h, gs, dr, tk, os0⟩) :
    ∀ (a : Nat) m nw h tk k, J a m nw → Fr h₀ L h m → News h₀ L h nw → WhlRest prog w A (fun _ _ => False) env test body [] Q k ⟨h, gs, dr, tk, os0⟩ :=
  fun a m nw h tk k => while_rule_0 (s := ⟨h, gs, dr, tk, os0⟩) J turn a m nw h tk k
theorem wh_next {J : Nat → (Str → Option Value) → Led → Prop} {a : Nat} {s₁ : Shared} {h' : Heap} {tk : Nat} {m' : Str → Option Value} {nw : Led} (a' : Nat) (F : Fr h₀ L h' m') (N : News h₀ L h' nw) (hlt : a' < a) (hJ : J a' m' nw) : WhEnd h₀ L J a s₁ Q .next { s₁ with heap := h', toks := tk } :=
  ⟨a', h', tk, m', nw, hlt, rfl, F, N, hJ⟩
end
section
variable {prog : Program} {w : World} {A : Around} {E : Value → Shared → Prop} {s : Shared} {h₀ : Heap} {L : Addr} {m : Str → Option Value}
theorem len_L {l : Addr} {vs : List Value} {n k : Nat} {news : Led} {Q : Value → Shared → Prop} (N : News h₀ L s.heap news) (hp : (l, listOf vs.toArray n) ∈ news) (he : vs.length = k) (hz : k ≤ 5000)
    (h : ∀ t tk, Q (.int (k : Int) t) { s with toks := tk }) : wpAny (model prog w) A (call (.builtin "len") [.ref l]) Q E s := by
  refine Calls.call_len_list (items := vs.toArray) ⟨_, (N _ hp).1, rfl, n, rfl⟩ (by rw [List.size_toArray]; omega) ?_
  rw [show ((vs.toArray.size : Nat) : Int) = (k : Int) from by rw [List.size_toArray, he]]
  exact h _ _
theorem lv_item {value slice : PySem.Expr} {l : Addr} {vs : List Value} {n a : Nat} {x : Value} {j : Int} {t : Tok} {news : Led} {Q : Value → Shared → Prop} (N : News h₀ L s.heap news) (hp : (l, listOf vs.toArray n) ∈ news) (hx : vs[a]? = some x) (hj : j = (a : Int)) (hz : vs.length ≤ 5000)
    (h : Q x s) (hs : subscripted slice false (.ref l) (.int j t) = operate [.ref l, .int j t] (getItem (.ref l) (.int j t)) := by with_unfolding_all rfl) : wpAny (model prog w) A (subscriptTail value slice (.ref l) (.int j t)) Q E s := by
  subst hj
  have ha := (List.getElem?_eq_some_iff.mp hx).1
  have hl : s.heap.IsList l vs.toArray := ⟨_, (N _ hp).1, rfl, n, rfl⟩
  exact tail_any hl.typeIs slot_list_getitem.lookup (wpAny_getItem_list hl (by omega) (by omega) (by simpa using hx) h) hs
end

end PSd
variable {w : World} {loose : List Str} {mean : ExcName → Option Value} {mg mb : Str → Option Value}
local macro_rules | `(tactic| k_all) => `(tactic| first | assumption | exact ne_append ‹_› ‹_› | exact allLt_ne ‹_› | exact allLt_ne' ‹_›)
local macro_rules | `(tactic| walk_at "call ref") => `(tactic| ((try k_fold); refine hold_call rfl ?_))
local macro_rules | `(tactic| walk_at "led_in") => `(tactic| first | exact in_head | with_reducible assumption | ((with_reducible refine in_tail ?_); walk_at "led_in") | ((with_reducible refine List.mem_append_left _ ?_); walk_at "led_in") | ((with_reducible refine List.mem_append_right _ ?_); walk_at "led_in"))
local macro_rules | `(tactic| walk_at "led_sub") => `(tactic| first | with_reducible exact sb_refl | with_reducible assumption | with_reducible exact sb_nil | ((with_reducible refine sb_cons ?_ ?_); (focus (walk_at "led_in")); walk_at "led_sub") | ((with_reducible refine sb_app ?_ ?_); (focus (walk_at "led_sub")); walk_at "led_sub") | ((with_reducible refine sb_tail ?_); walk_at "led_sub") | ((with_reducible refine sb_left ?_); walk_at "led_sub") | ((with_reducible refine sb_right ?_); walk_at "led_sub"))
local macro_rules | `(tactic| walk_at "ands") => `(tactic| ((try (show (let GY : Prop := _; GY); intro GY)); (repeat' ((rename _ ∧ _ => hc9); (obtain ⟨_, _⟩ := hc9)))))
local macro_rules | `(tactic| walk_at "above") => `(tactic| (walk_at "ands"; repeat' (first | exact above_nil | assumption | refine above_cons ?_ ?_ | refine allLt_cons' ?_ ?_ | (refine ltN ?_; omega) | (refine allLt_sub ‹_› ?_; walk_at "led_sub") | exact allLt_of ‹_› | exact allLt_trans ‹_› ‹_›)))
local macro_rules | `(tactic| walk_at "offs") => `(tactic| (walk_at "ands"; repeat' (first | assumption | refine ne_append ?_ ?_ | refine ne_cons ?_ ?_ | exact allLt_ne ‹_› | exact allLt_ne' ‹_› | exact (fun _ h => nomatch h) | k_ne)))
local macro_rules | `(tactic| walk_at "norm") => `(tactic| walk_at "revs")
local macro_rules | `(tactic| k_mem) => `(tactic| first | exact List.Mem.head _ | (refine' List.Mem.tail _ ?_; k_mem) | (refine mem_is ?_; ktr_member) | (refine List.mem_append_right _ ?_; k_mem) | (refine List.mem_append_left _ ?_; k_mem))
local macro_rules | `(tactic| k_room) => `(tactic| ktr_room)
local macro_rules | `(tactic| walk_at "h") => `(tactic| ((try k_fold); refine hold_of ?_))
-- LOOPS
local macro_rules | `(tactic| walk_at "eval ListComp") => `(tactic| ((try k_fold); with_unfolding_all (refine Comp_hold (by rfl) (by rfl) (by decide) ?_)))
local macro_rules | `(tactic| walk_at "exec Assign cons ListComp") => `(tactic| ((try k_fold); with_unfolding_all (refine Comp_holdA (by rfl) (by rfl) (by rfl) (by decide) ?_)))
local macro_rules | `(tactic| walk_at "call type:range") => `(tactic| walk_at "h")
local macro_rules | `(tactic| walk_at "dec") => `(tactic| first | (with_reducible assumption) | decide | ((simp only [dcs_all]); first | omega | assumption | decide))
local macro_rules | `(tactic| walk_at "dcs") => `(tactic| (intro hc; (try simp only [dcs_all] at hc)))
local macro_rules | `(tactic| walk_at "ite") => `(tactic| first | (with_reducible refine ite_tt ?_) | (with_reducible refine ite_ff ?_) | (refine W.ite_pos (by walk_at "dec") ?_) | (refine W.ite_neg (by walk_at "dec") ?_) | (refine ite_split ?_ ?_ <;> walk_at "dcs"))
local macro_rules | `(tactic| walk_at "eval Name") => `(tactic| (k_dflt (refine nameX_L ‹_› (by first | exact rfl | assumption) ?_)))
local macro_rules | `(tactic| walk_at "loadName") => `(tactic| (k_dflt (refine ldn ‹_› (by first | exact rfl | assumption) ?_)))
local macro_rules | `(tactic| walk_at "call type:tuple") => `(tactic| walk_at "h")
local macro_rules | `(tactic| walk_at "exec For Name Name cons nil") => `(tactic| ((try k_fold); with_unfolding_all (refine For_hold ?_)))
local macro_rules | `(tactic| walk_at "exec For Name Call cons nil") => `(tactic| walk_at "exec For Name Name cons nil")
local macro_rules | `(tactic| walk_at "exec For Name Subscript cons nil") => `(tactic| walk_at "exec For Name Name cons nil")
local macro_rules | `(tactic| walk_at "exec For Name Attribute cons nil") => `(tactic| walk_at "exec For Name Name cons nil")
local macro_rules | `(tactic| walk_at "call builtin:list.append") => `(tactic| (k_dflt (refine append_L ‹_› ‹_› (by k_upd) (by first | omega | (simp <;> omega)) ?_); intro h' F' N'; (try k_sweep)))
-- DICT
local macro_rules | `(tactic| walk_at "di_l") => `(tactic| first | assumption | exact valueAt_nil _ | exact valueAt_stored_self _ _ _ | ((rename ∀ _ : Value, valueAt _ _ = _ => hl9); exact hl9 _))
local macro_rules | `(tactic| walk_at "compareOp NotIn int ref") => `(tactic| walk_at "h")
local macro_rules | `(tactic| walk_at "call builtin:dict.get") => `(tactic| walk_at "h")
local macro_rules | `(tactic| walk_at "subscriptTail") => `(tactic| (k_dflt (refine dn_item ‹_› (by k_mem) ‹_› (by walk_at "di_l") ?_)))
local macro_rules | `(tactic| walk_at "getItem ref int") => `(tactic| (k_dflt (refine dn_getItem ‹_› (by k_mem) ‹_› (by walk_at "di_l") ?_)))
local macro_rules | `(tactic| walk_at "setItem ref int") => `(tactic| (k_dflt (refine dn_set ‹_› ‹_› (by k_updF) ‹_› (by first | omega | decide) ?_); intro h' o' F' N' hd'; (try dsimp only at N')))
-- REVERSED
local macro_rules | `(tactic| walk_at "call type:reversed") => `(tactic| (first | (k_dflt (refine reversed_KL ‹_› ‹_› (by k_mem) ?_); intro D' h' F' N' l1; (try k_lt l1); (try k_sweep)) | (k_dflt (refine reversed_K ‹_› ‹_› (by k_mem) (by exact Nat.le_of_ble_eq_true rfl) ?_); intro D' h' tk' F' N' l1; (try k_lt l1); (try k_sweep))))
local macro_rules | `(tactic| walk_at "revs") => `(tactic| ((rename News _ _ _ _ => N9); (try simp only [List.reverse_cons, List.reverse_nil, List.nil_append, List.cons_append] at N9)))
local macro_rules | `(tactic| walk_at "call builtin:list.extend") => `(tactic| (k_dflt (refine extend_rev_U rfl ‹_› ‹_› (by k_updF) (by k_mem) (by exact Nat.le_of_ble_eq_true rfl) (by walk_at "offs") ?_); intro h' tk' c' F' N'; walk_at "revs"))
local macro_rules | `(tactic| walk_at "call type:list") => `(tactic| (k_dflt (refine list_rev_H rfl ‹_› ‹_› (by k_mem) (by exact Nat.le_of_ble_eq_true rfl) (by walk_at "offs") ?_); intro D' h' tk' c' F' N' l1; (try k_lt l1); walk_at "revs"))
local macro_rules | `(tactic| walk_at "exec While") => `(tactic| ((try k_fold); k_dflt (refine whl_start 100 ?_)))
-- TUPLES
local macro_rules | `(tactic| walk_at "ttk") => `(tactic| (k_dflt (refine tt_itemJ ‹_› (by k_mem) (by exact rfl) (by decide) ?_)))
local macro_rules | `(tactic| walk_at "subscriptTail") => `(tactic| walk_at "ttk")
local macro_rules | `(tactic| walk_at "subscriptTail Name Constant ref int") => `(tactic| walk_at "ttk")
local macro_rules | `(tactic| walk_at "subscriptTail Subscript") => `(tactic| walk_at "ttk")
local macro_rules | `(tactic| walk_at "callWith") => `(tactic| (refine callWith_method1 ?_))
local macro_rules | `(tactic| walk_at "truthy ref") => `(tactic| (k_dflt (first | refine truthy_L1 ‹_› (by k_mem) (by first | decide | omega) ?_ | refine truthy_L0 ‹_› (by k_mem) ?_)))
local macro_rules | `(tactic| walk_at "storeName") => `(tactic| (k_dflt (refine storeM ‹_› ‹_› ?_); intro h' F' N'; (try k_sweep)))
local macro_rules | `(tactic| walk_at "isTrue Compare Subscript") => `(tactic| (k_dflt (refine tag_is ‹_› ‹_› (by first | exact rfl | assumption) (by k_mem) (by exact rfl) (by decide) ?_)))
local macro_rules | `(tactic| walk_at "call builtin:len") => `(tactic| (k_dflt (refine len_L ‹_› (by k_mem) ‹_› (by omega) ?_); intro _ _))

section PLC

theorem law_coin (c : Addr) (vs : List Value) (ns : List Int) (n : Nat) (sides : Int) (tk : Tok) (rest : Led) (hi : IntsAre vs ns) (hlen : ns.length < 1000) (hs : 0 < sides) (hoff : ∀ p ∈ rest, p.1 ≠ c) :
    Ctr w loose mean mg mb 231 1 [.ref c, .int sides tk] ((c, listOf vs.toArray n) :: rest)
      (CoinPost c sides rest) := by
  refine ctr_intro ?_
  k_fill
  intro dp un gd cn cs a ccd cl outer A₀ base h₀ L m sH sG sD sT sO Q E B F X N T hk hd hu hret
  have hl := hi.length
  have hz : vs.length ≤ sizeLine := by rw [sizeLine_eq]; omega
  refine wpAny_call ?_
  refine' code_def (binds := [(Str.ofString "coins", .ref c), (Str.ofString "sides", .int sides tk)]) ?k1 ?k2 ?k3 ?k4 ?k5 ?kA ?kF ?kK ?k6 ?k7 ?k8 ?k9 ?kB ?_ ?c2 ?c3 ?c4 ?c5
  (case kA => exact rfl)
  (case kF => exact rfl)
  (case kK => assumption)
  (case k1 => exact B)
  (case k2 => exact F)
  (case k3 => exact X)
  (case k4 => exact N)
  (case k5 => exact T)
  (case k6 => k_is)
  (case k7 => k_is)
  (case k8 => ktr_room)
  (case k9 => exact BindsTo.of_eq rfl)
  (case c5 => decide)
  (case kB => exact locs rfl)
  (case c2 => exact rfl)
  (case c3 => exact rfl)
  (case c4 => exact rfl)
  clear B X T
  intro g L' h' FG' F' N' B' X' T'
  refine no_raise ?_
  (try dsimp only)
  (try k_fold)
  rcases Nat.eq_zero_or_pos vs.length with h0 | hv
  · have hn0 : ns = [] := List.eq_nil_of_length_eq_zero (by omega)
    k_steps
    exact leaveK_ (by assumption) (by assumption) fun kF kN => hret _ _ _ _ kF (news_sub kN fun p hp => .tail _ hp) ⟨0, _, vs, ns, n, rfl, by omega, hs, hi, hlen, rfl⟩
  · have hn0 : ns ≠ [] := by intro e; rw [e] at hl; simp only [List.length_nil] at hl; omega
    k_steps
    exact leaveK_ (by assumption) (by assumption) fun kF kN => hret _ _ _ _ kF (news_sub kN fun p hp => .tail _ hp) ⟨_, _, _, _, _, rfl, Int.fmod_nonneg_of_pos _ hs, Int.fmod_lt_of_pos _ hs, by assumption, by simp; omega, rfl⟩

end PLC
section PLS
theorem law_side (c : Addr) (vs : List Value) (ns : List Int) (n : Nat) (rest : Led) (hi : IntsAre vs ns) (hlen : ns.length < 1000) (hoff : ∀ p ∈ rest, p.1 ≠ c) :
    Ctr w loose mean mg mb 238 2 [.ref c] ((c, listOf vs.toArray n) :: rest)
      (ElemPost SideIn Side.ok c (listOf vs.toArray n) rest) := by
  refine ctr_intro ?_
  k_fill
  intro dp un gd cn cs a ccd cl outer A₀ base h₀ L m sH sG sD sT sO Q E B F X N T hk hd hu hret
  refine wpAny_call ?_
  refine' code_def (binds := [(Str.ofString "coins", .ref c)]) ?k1 ?k2 ?k3 ?k4 ?k5 ?kA ?kF ?kK ?k6 ?k7 ?k8 ?k9 ?kB ?_ ?c2 ?c3 ?c4 ?c5
  (case kA => exact rfl)
  (case kF => exact rfl)
  (case kK => assumption)
  (case k1 => exact B)
  (case k2 => exact F)
  (case k3 => exact X)
  (case k4 => exact N)
  (case k5 => exact T)
  (case k6 => k_is)
  (case k7 => k_is)
  (case k8 => ktr_room)
  (case k9 => exact BindsTo.of_eq rfl)
  (case c5 => decide)
  (case kB => exact locs rfl)
  (case c2 => exact rfl)
  (case c3 => exact rfl)
  (case c4 => exact rfl)
  clear B X T
  intro g L' h' FG' F' N' B' X' T'
  refine no_raise ?_
  (try dsimp only)
  (try k_fold)
  k_steps
  refine to_hold ?_
  (rename Fr _ _ _ _ => F1)
  (rename News _ _ _ _ => N1)
  refine' ctr_use (law_coin c vs ns n 5 _ rest hi hlen (by decide) hoff) ?kB F1 ?kX (news_sub N1 ?hsub) ?kT rfl ?hd ?hu ?_
  (case kB => exact B')
  (case kX => exact X')
  (case kT => exact T')
  (case hsub => walk_at "led_sub")
  (case hd => first | (dsimp only [ktrTop]; omega) | decide)
  (case hu => first | (dsimp only [ktrTop]; omega) | decide)
  clear F1 N1
  intro r led' h' tk' F' N' hz6
  (try k_fold); (try (show (let GZ : Prop := _; GZ); intro GZ))
  obtain ⟨k, t, vs1, ns1, n1, rfl, hk0, hk5, hi1, hl1, rfl⟩ := hz6
  (try k_unfold)
  k_steps
  refine to_hold ?_
  (rename Fr _ _ _ _ => F1)
  (rename News _ _ _ _ => N1)
  refine' ctr_use (law_coin c vs1 ns1 n1 5 _ rest hi1 hl1 (by decide) hoff) ?kB F1 ?kX (news_sub N1 ?hsub) ?kT rfl ?hd ?hu ?_
  (case kB => exact B')
  (case kX => exact X')
  (case kT => exact T')
  (case hsub => walk_at "led_sub")
  (case hd => first | (dsimp only [ktrTop]; omega) | decide)
  (case hu => first | (dsimp only [ktrTop]; omega) | decide)
  clear F1 N1
  intro r led' h' tk' F' N' hz6
  (try k_fold); (try (show (let GZ : Prop := _; GZ); intro GZ))
  obtain ⟨k', t', vs2, ns2, n2, rfl, hk0', hk5', hi2, hl2, rfl⟩ := hz6
  (try k_unfold)
  k_steps
  · refine leaveK_ (by assumption) (by assumption) fun kF kN => ?_
    refine hret _ _ _ _ kF (pull2 kN) ⟨_, vs2, ns2, n2, .atom, hi2, hl2, rfl, ?_, ⟨_, _, _, _, rfl, .head _⟩, trivial⟩
    walk_at "above"
  · skip
    refine to_hold ?_
    (rename Fr _ _ _ _ => F1)
    (rename News _ _ _ _ => N1)
    refine' ctr_use (law_coin c vs2 ns2 n2 5 _ _ hi2 hl2 (by decide) ?hoff) ?kB F1 ?kX (pull2 N1) ?kT rfl ?hd ?hu ?_
    (case kB => exact B')
    (case kX => exact X')
    (case kT => exact T')
    (case hoff => walk_at "offs")
    (case hd => first | (dsimp only [ktrTop]; omega) | decide)
    (case hu => first | (dsimp only [ktrTop]; omega) | decide)
    clear F1 N1
    intro r led' h' tk' F' N' hz6
    (try k_fold); (try (show (let GZ : Prop := _; GZ); intro GZ))
    obtain ⟨k'', t'', vs3, ns3, n3, rfl, hk0'', hk5'', hi3, hl3, rfl⟩ := hz6
    (try k_unfold)
    walk_at "norm"
    k_steps
    refine leaveK_ (by assumption) (by assumption) fun kF kN => ?_
    refine hret _ _ _ _ kF (pull5_2 kN) ⟨_, vs3, ns3, n3, .s2 k' k'', hi3, hl3, rfl, ?_, SideS2.mk _ _ _ _ _ (by k_mem) _ _ _ (by k_mem) _ _ _ (by k_mem) _ _ _ _ (by k_mem) _ _ _ (by k_mem) _ _ _ (by k_mem) _ _ _ (by k_mem), ⟨⟨hk0', hk5'⟩, ⟨hk0'', hk5''⟩⟩⟩
    walk_at "above"
  · refine leaveK_ (by assumption) (by assumption) fun kF kN => ?_
    refine hret _ _ _ _ kF (pull1 kN) ⟨_, vs2, ns2, n2, .var k', hi2, hl2, rfl, ?_, ⟨_, _, _, _, rfl, .head _⟩, ⟨hk0', hk5'⟩⟩
    walk_at "above"

end PLS
section PLG
theorem law_goal (c : Addr) (vs : List Value) (ns : List Int) (n : Nat) (rest : Led) (hi : IntsAre vs ns) (hlen : ns.length < 1000) (hoff : ∀ p ∈ rest, p.1 ≠ c) :
    Ctr w loose mean mg mb 243 3 [.ref c] ((c, listOf vs.toArray n) :: rest)
      (ElemPost GoalIn Goal.ok c (listOf vs.toArray n) rest) := by
  refine ctr_intro ?_
  k_fill
  intro dp un gd cn cs a ccd cl outer A₀ base h₀ L m sH sG sD sT sO Q E B F X N T hk hd hu hret
  refine wpAny_call ?_
  refine' code_defC (binds := [(Str.ofString "coins", .ref c)]) ?k1 ?k2 ?k3 ?k4 ?k5 ?kA ?kF ?kK ?k6 ?k7 ?k8 ?k9 ?kB ?kD ?_ ?c2 ?c3 ?c4
  (case kA => exact rfl)
  (case kF => exact rfl)
  (case kK => assumption)
  (case k1 => exact B)
  (case k2 => exact F)
  (case k3 => exact X)
  (case k4 => exact N)
  (case k5 => exact T)
  (case k6 => k_is)
  (case k7 => k_is)
  (case k8 => ktr_room)
  (case k9 => exact BindsTo.of_eq rfl)
  (case kB => exact rfl)
  (case kD => decide +kernel)
  (case c2 => exact rfl)
  (case c3 => exact rfl)
  (case c4 => exact rfl)
  clear B X T
  intro g L' h' tk' cells' FG' F' N' Y' B' X' T' l1
  (try k_lt l1)
  k_cells Y'
  (try simp only [List.cons_append, List.nil_append] at N')
  refine no_raise ?_
  (try dsimp only)
  (try k_fold)
  (rename Obj => oc)
  k_steps
  refine to_hold ?_
  (rename Fr _ _ _ _ => F1)
  (rename News _ _ _ _ => N1)
  refine' ctr_use (law_coin c vs ns n 8 _ _ hi hlen (by decide) ?hoff) ?kB F1 ?kX (pull1 N1) ?kT rfl ?hd ?hu ?_
  (case kB => exact B')
  (case kX => exact X')
  (case kT => exact T')
  (case hoff => walk_at "offs")
  (case hd => first | (dsimp only [ktrTop]; omega) | decide)
  (case hu => first | (dsimp only [ktrTop]; omega) | decide)
  clear F1 N1
  intro r led' h' tk' F' N' hz6
  (try k_fold); (try (show (let GZ : Prop := _; GZ); intro GZ))
  obtain ⟨k, t, vs1, ns1, n1, rfl, hk0, hk5, hi1, hl1, rfl⟩ := hz6
  (try k_unfold)
  walk_at "norm"
  have hcase : 5 ≤ k ∨ k = 4 ∨ k ≤ 3 := by omega
  rcases hcase with h5 | rfl | h4
  · k_steps
    have hc3 : k = 5 ∨ k = 6 ∨ k = 7 := by omega
    (try k_fold)
    rcases hc3 with rfl | rfl | rfl
    · k_steps
      refine leaveK_ (by assumption) (by assumption) fun kF kN => ?_
      refine hret _ _ _ _ kF (pd4 kN) ⟨_, vs1, ns1, n1, .mark, hi1, hl1, rfl, ?_, ⟨_, _, _, _, rfl, by k_mem⟩, trivial⟩
      walk_at "above"
    · k_steps
      refine leaveK_ (by assumption) (by assumption) fun kF kN => ?_
      refine hret _ _ _ _ kF (pd4 kN) ⟨_, vs1, ns1, n1, .cutto, hi1, hl1, rfl, ?_, ⟨_, _, _, _, rfl, by k_mem⟩, trivial⟩
      walk_at "above"
    · k_steps
      refine leaveK_ (by assumption) (by assumption) fun kF kN => ?_
      refine hret _ _ _ _ kF (pd4 kN) ⟨_, vs1, ns1, n1, .fail, hi1, hl1, rfl, ?_, ⟨_, _, _, rfl, by k_mem⟩, trivial⟩
      walk_at "above"
  · k_steps
    refine to_hold ?_
    (rename Fr _ _ _ _ => F1)
    (rename News _ _ _ _ => N1)
    refine range_K F1 N1 fun r tr1 tr2 tr3 h' tk' F' N' lr => ?_
    clear F1 N1
    (try k_lt lr)
    (try dsimp only)
    refine comp_rest (CoinJ SideIn Side.ok c (listOf vs1.toArray n1) ((r, rangeO 2 tr1 tr2 tr3) :: (L' + 1, oc) :: rest)) (src_rangeO rfl r 2 2 tr1 tr2 tr3 rfl (by decide)) (by rw [sizeLine_eq]; decide) (by decide) rfl (tgt_name rfl rfl) F' (pull1 N') (CoinJ.zero hi1 hl1) (fun i ys nw h => CoinJ.need (.head _) h) ?turn ?done
    case turn =>
      intro i v ys nw I oI C oC D m₂ h tk _ _ hJ _ _ F N hoff _ _ _
      refine coin_turn (fun led led' v e h hs => h.mono hs) law_side B' X' T' rfl ?hd ?hu ?hoff ?helt _ i v ys nw I oI C oC D h tk hJ F N hoff
      case hd => (dsimp only [ktrTop]; omega)
      case hu => (dsimp only [ktrTop]; omega)
      case hoff => walk_at "offs"
      case helt =>
        clear hJ F N hoff hret F' N'
        intro C s' Q' led F N hs hcall
        have hmem : (L' + 1, oc) ∈ led := hs _ (by simp)
        k_steps
        exact hcall _
    case done =>
      intro D ys nw h' tk' hz5 F' N' hD hlt
      (try k_fold); (try (show (let GZ : Prop := _; GZ); intro GZ))
      obtain ⟨vs2, ns2, n2, new, es, hi2, hl2, rfl, hab, hes, hlen2, hok⟩ := hz5
      (try k_unfold)
      replace hlt := allLt_of hlt
      simp only [List.cons_append, List.nil_append, AllLt, and_true] at hlt
      k_steps
      refine to_hold ?_
      refine tuple_K F' N' (.head _) (by rw [hes.length]; omega) fun tp h' F' N' lt => ?_
      k_lt lt
      rcases hes with _ | ⟨hs1, hes⟩
      · simp at hlen2
      rcases hes with _ | ⟨hs2, hes⟩
      · simp at hlen2
      rcases hes with _ | ⟨hs3, hes⟩
      · k_steps
        refine leaveK_ (by assumption) (by assumption) fun kF kN => ?_
        refine hret _ _ _ _ kF (pk3_2 kN) ⟨_, vs2, ns2, n2, .unify _ _, hi2, hl2, rfl, above_append ?_ (above_drop2 hab), ⟨_, _, _, _, _, rfl, by k_mem, hs1.mono ?_, hs2.mono ?_⟩, ⟨hok _ (by simp), hok _ (by simp)⟩⟩
        · walk_at "above"
        · exact fun p hp => List.mem_append_right _ hp
        · exact fun p hp => List.mem_append_right _ hp
      · simp at hlen2
  · k_steps
    refine to_hold ?_
    (rename Fr _ _ _ _ => F1)
    (rename News _ _ _ _ => N1)
    refine' ctr_use (law_coin c vs1 ns1 n1 4 _ ((L' + 1, oc) :: rest) hi1 hl1 (by decide) ?hoff) ?kB F1 ?kX (news_sub N1 ?hsub) ?kT rfl ?hd ?hu ?_
    (case kB => exact B')
    (case kX => exact X')
    (case kT => exact T')
    (case hsub => walk_at "led_sub")
    (case hoff => walk_at "offs")
    (case hd => first | (dsimp only [ktrTop]; omega) | decide)
    (case hu => first | (dsimp only [ktrTop]; omega) | decide)
    clear F1 N1
    intro r led' h' tk' F' N' hz6
    (try k_fold); (try (show (let GZ : Prop := _; GZ); intro GZ))
    obtain ⟨k4, t4, vs0, ns0, n0, rfl, hk0', hk4', hi0, hl0, rfl⟩ := hz6
    (try k_unfold)
    k_steps
    refine to_hold ?_
    (rename Fr _ _ _ _ => F1)
    (rename News _ _ _ _ => N1)
    refine range_K F1 N1 fun r tr1 tr2 tr3 h' tk' F' N' lr => ?_
    clear F1 N1
    (try k_lt lr)
    (try dsimp only)
    refine comp_rest (n := k4.toNat) (CoinJ SideIn Side.ok c (listOf vs0.toArray n0) ((r, rangeO k4 tr1 tr2 tr3) :: (L' + 1, oc) :: rest)) (src_rangeO rfl r k4.toNat k4 tr1 tr2 tr3 (by omega) (by omega)) (by rw [sizeLine_eq]; omega) (by decide) rfl (tgt_name rfl rfl) F' (pull1 N') (CoinJ.zero hi0 hl0) (fun i ys nw h => CoinJ.need (.head _) h) ?turn ?done
    case turn =>
      intro i v ys nw I oI C oC D m₂ h tk _ _ hJ _ _ F N hoff _ _ _
      refine coin_turn (fun led led' v e h hs => h.mono hs) law_side B' X' T' rfl ?hd ?hu ?hoff ?helt _ i v ys nw I oI C oC D h tk hJ F N hoff
      case hd => (dsimp only [ktrTop]; omega)
      case hu => (dsimp only [ktrTop]; omega)
      case hoff => walk_at "offs"
      case helt =>
        clear hJ F N hoff hret F' N'
        intro C s' Q' led F N hs hcall
        have hmem : (L' + 1, oc) ∈ led := hs _ (by simp)
        k_steps
        exact hcall _
    case done =>
      intro D ys nw h' tk' hz5 F' N' hD hlt
      (try k_fold); (try (show (let GZ : Prop := _; GZ); intro GZ))
      obtain ⟨vs2, ns2, n2, new, es, hi2, hl2, rfl, hab, hes, hlen2, hok⟩ := hz5
      (try k_unfold)
      replace hlt := allLt_of hlt
      simp only [List.cons_append, List.nil_append, AllLt] at hlt
      have hys := hes.length
      k_steps
      refine to_hold ?_
      refine tuple_K F' N' (.head _) (by omega) fun tp h' F' N' lt => ?_
      k_lt lt
      k_steps
      · skip
        refine leaveK_ (by assumption) (by assumption) fun kF kN => ?_
        refine hret _ _ _ _ kF (pk3_2 kN) ⟨_, vs2, ns2, n2, .call es, hi2, hl2, rfl, above_append ?_ (above_drop2 hab), ⟨_, _, _, _, _, _, _, rfl, by k_mem, by k_mem, All2.imp (fun _ _ k => k.mono ?_) hes⟩, ⟨by omega, hok⟩⟩
        · walk_at "above"
        · exact fun p hp => List.mem_append_right _ hp
      · skip
        refine leaveK_ (by assumption) (by assumption) fun kF kN => ?_
        refine hret _ _ _ _ kF (pk3_2 kN) ⟨_, vs2, ns2, n2, .builtin es, hi2, hl2, rfl, above_append ?_ (above_drop2 hab), ⟨_, _, _, _, _, _, _, rfl, by k_mem, by k_mem, All2.imp (fun _ _ k => k.mono ?_) hes⟩, ⟨by omega, hok⟩⟩
        · walk_at "above"
        · exact fun p hp => List.mem_append_right _ hp

end PLG
section PCO
theorem law_coins_0 (l : Addr) (vs : List Value) (ns : List Int) (hi : IntsAre vs ns) (hlen : ns.length ≤ 63)
    (dp un : Nat) (gd : Option (List Code)) (cn : Str) (cs : Scope) (a : Addr) (ccd : Value) (cl : List (Str × Addr)) (outer : List Env) (A₀ : Around) (base h₀ : Heap) (L : Addr) (m : Str → Option Value) (s : Shared) (led : Led)
    (Q E : Value → Shared → Prop) (B : Below A₀ base outer h₀) (F : Fr h₀ L s.heap m) (X : (K0 w.params).In h₀) (N : News h₀ L s.heap led) (T : Top view0 loose mean mg mb h₀) (hk : cs.kind = .function) (hd : dp + 8 < recursionLimit) (hu : un + 40 + 200 < cLine)
    (hls : h₀.IsList l vs.toArray)
    (hret : ∀ c vs' ns' n' h' tk', IntsAre vs' ns' → ns'.length < 1000 → Fr h₀ L h' m → News h₀ L h' ((c, listOf vs'.toArray n') :: led) → (∀ p ∈ led, p.1 < c) → Q (.ref c) { s with heap := h', toks := tk' }) :
    wpAny (model PySem.Challenge.rw_sa0145_01.row.prog w) (ktrTop dp un gd cn cs L a ccd cl outer) (call (.ref 224) [.ref l]) Q E s := by
  revert X
  k_fill
  intro X
  refine wpAny_call ?_
  refine' code_def (binds := [(Str.ofString "script", .ref l)]) ?k1 ?k2 ?k3 ?k4 ?k5 ?kA ?kF ?kK ?k6 ?k7 ?k8 ?k9 ?kB ?_ ?c2 ?c3 ?c4 ?c5
  (case kA => exact rfl)
  (case kF => exact rfl)
  (case kK => assumption)
  (case k1 => exact B)
  (case k2 => exact F)
  (case k3 => exact X)
  (case k4 => exact N)
  (case k5 => exact T)
  (case k6 => k_is)
  (case k7 => k_is)
  (case k8 => ktr_room)
  (case k9 => exact BindsTo.of_eq rfl)
  (case c5 => decide)
  (case kB => exact locs rfl)
  (case c2 => exact rfl)
  (case c3 => exact rfl)
  (case c4 => exact rfl)
  clear B X T
  intro g L' h' FG' F' N' B' X' T'
  refine no_raise ?_
  (try dsimp only)
  (try k_fold)
  have hlg := stays_list FG'.keep hls
  k_steps
  rename_i c h1 l1 h2 D ws h3 F' N' hI' hC' hL' l2
  have hws := hI'.length
  refine for_restK (n := ws.toArray.size)
    (fun i m nw => ∃ vs2 ms n2, And4 (IntsAre vs2 ms) (ms.length ≤ 90) (m (Str.ofString "coins") = some (.ref c)) (nw = (c, listOf vs2.toArray n2) :: (D, listOf ws.toArray 0) :: led))
    (fun m nw => ∃ vs2 ms n2, And4 (IntsAre vs2 ms) (ms.length ≤ 110) (m (Str.ofString "coins") = some (.ref c)) (nw = (c, listOf vs2.toArray n2) :: (D, listOf ws.toArray 0) :: led))
    (src_list rfl D ws.toArray 0) F' (news_sub N' (by walk_at "led_sub")) rfl rfl rfl ⟨[], [], 0, .nil, by simp, rfl, rfl⟩ ?need ?turn ?jk ?done
  case need =>
    intro i m nw hz3 p hp
    (try (show (let GZ : Prop := _; GZ); intro GZ))
    obtain ⟨vs2, ms, n2, -, -, -, rfl⟩ := hz3
    (try k_unfold)
    rw [List.mem_singleton.mp hp]
    exact .tail _ (.head _)
  case jk =>
    intro m nw hz2
    (try k_fold); (try (show (let GZ : Prop := _; GZ); intro GZ))
    obtain ⟨vs2, ms, n2, a, b, c, d⟩ := hz2
    (try k_unfold)
    exact ⟨vs2, ms, n2, a, by omega, c, d⟩
  case done =>
    intro m1 nw h tk hz4 F N
    (try k_fold); (try (show (let GZ : Prop := _; GZ); intro GZ))
    obtain ⟨vs2, ms, n2, hi2, hl2, hm, rfl⟩ := hz4
    (try k_unfold)
    clear F' N'
    k_steps
    refine kl_reverse F N (l := vs2.reverse) (by simp) (Upd.head (ne_cons (Nat.ne_of_gt l2.1) (allLt_ne' l1))) (by simp [sizeLine_eq]; have := hi2.length; omega) fun h' F' N' => ?_
    clear F N
    k_steps
    refine leaveK_ (by assumption) (by assumption) fun kF kN => ?_
    exact hret _ _ _ _ _ _ (ints_reverse hi2) (by simp; omega) kF (news_sub kN (by walk_at "led_sub")) l1
  case turn =>
    intro i v m1 nw I oI h tk hin hv hz10 hne F N
    (try k_fold)
    (try (show (let GZ : Prop := wpAny _ _ _ _ _ _; GZ); intro GZ))
    obtain ⟨vs2, ms, n2, hi2, hl2, hm, rfl⟩ := hz10
    clear F' N'
    (try k_fold)
    obtain ⟨cell, tc, rfl⟩ : ∃ cell tc, v = .int cell tc := ints_get hI' (by simpa using hv)
    k_steps
    refine to_hold ?_
    (rename Fr _ _ _ _ => F1)
    (rename News _ _ _ _ => N1)
    refine range_K F1 N1 fun r tr1 tr2 tr3 h' tk' F' N' lr => ?_
    clear F1 N1
    (try k_lt lr)
    (try dsimp only)
    (try k_fold)
    have hcI : @Ne Nat c I := hne (c, listOf vs2.toArray n2) (.head _)
    have hne0 := hne
    refine for_restK (n := 20)
      (fun j m nw => ∃ vs2 ms n2 lf tl, And5 (IntsAre vs2 ms) (ms.length ≤ 90 + j) (m (Str.ofString "coins") = some (.ref c)) (m (Str.ofString "left") = some (.int lf tl)) (nw = (c, listOf vs2.toArray n2) :: (r, rangeO 20 tr1 tr2 tr3) :: (I, oI) :: (D, listOf ws.toArray 0) :: led))
      (fun m nw => ∃ vs2 ms n2, And4 (IntsAre vs2 ms) (ms.length ≤ 110) (m (Str.ofString "coins") = some (.ref c)) (nw = (c, listOf vs2.toArray n2) :: (r, rangeO 20 tr1 tr2 tr3) :: (I, oI) :: (D, listOf ws.toArray 0) :: led))
      (src_rangeO rfl r 20 20 tr1 tr2 tr3 rfl (by decide)) F' (news_sub N' (by walk_at "led_sub")) rfl rfl rfl ⟨vs2, ms, n2, _, _, hi2, hl2, hm, rfl, rfl⟩ ?need ?turn ?jk ?done
    case need =>
      intro i m nw hz3 p hp
      (try (show (let GZ : Prop := _; GZ); intro GZ))
      obtain ⟨vs2, ms, n2, lf, tl, -, -, -, -, rfl⟩ := hz3
      (try k_unfold)
      rw [List.mem_singleton.mp hp]
      exact .tail _ (.head _)
    case jk =>
      intro m nw hz2
      (try k_fold); (try (show (let GZ : Prop := _; GZ); intro GZ))
      obtain ⟨vs2, ms, n2, lf, tl, a, b, c, d, e⟩ := hz2
      (try k_unfold)
      exact ⟨vs2, ms, n2, a, by omega, c, e⟩
    case done =>
      clear F' N' hi2 hl2 hm N F hne
      intro m1 nw h tk hz4 F N
      (try k_fold); (try (show (let GZ : Prop := _; GZ); intro GZ))
      obtain ⟨vs2, ms, n2, hi2, hl2, hm, rfl⟩ := hz4
      (try k_unfold)
      have hne2 : ∀ p ∈ (c, listOf vs2.toArray n2) :: (D, listOf ws.toArray 0) :: led, p.1 ≠ I := ne_cons hcI fun p hp => hne0 p (.tail _ hp)
      k_steps
      · exact turnK_brk F (news_sub N (by walk_at "led_sub")) ⟨vs2, ms, n2, hi2, hl2, hm, rfl⟩
      · exact turnK_next F (news_sub N (by walk_at "led_sub")) hne2 ⟨vs2, ms, n2, hi2, by omega, hm, rfl⟩
    case turn =>
      clear F' N' hi2 hl2 hm N F hne
      intro j v m1 nw I2 oI2 h tk hin2 hz9 hz10 hne F N
      (try k_fold)
      (try (show (let GZ : Prop := wpAny _ _ _ _ _ _; GZ); intro GZ))
      obtain ⟨tv, rfl⟩ := hz9
      obtain ⟨vs2, ms, n2, lf, tl, hi2, hl2, hm, hm2, rfl⟩ := hz10
      (try k_fold)
      have hc2 : @Ne Nat c I2 := hne (c, listOf vs2.toArray n2) (.head _)
      have hv2 := hi2.length
      k_steps
      all_goals (rename Fr _ _ _ _ => F9; rename News _ _ _ _ => N9)
      · exact turnK_brk F9 (news_sub N9 (by walk_at "led_sub")) ⟨_, _, _, ints_snoc hi2 _ _, by simp; omega, hm, rfl⟩
      · exact turnK_next F9 N9 (ne_cons hc2 fun p hp => hne p (.tail _ hp)) ⟨_, _, _, _, _, ints_snoc hi2 _ _, by simp; omega, hm, rfl, rfl⟩
theorem law_coins {hp0 : Heap} {gs : Array GenState} {dr : Drawn} {tk0 : Nat} {os0 : OsState} (l : Addr) (vs : List Value) (ns : List Int) (hi : IntsAre vs ns) (hlen : ns.length ≤ 63)
    (dp un : Nat) (gd : Option (List Code)) (cn : Str) (cs : Scope) (a : Addr) (ccd : Value) (cl : List (Str × Addr)) (outer : List Env) (A₀ : Around) (base h₀ : Heap) (L : Addr) (m : Str → Option Value) (led : Led)
    (Q E : Value → Shared → Prop) (B : Below A₀ base outer h₀) (F : Fr h₀ L hp0 m) (X : (K0 w.params).In h₀) (N : News h₀ L hp0 led) (T : Top view0 loose mean mg mb h₀) (hk : cs.kind = .function) (hd : dp + 8 < recursionLimit) (hu : un + 40 + 200 < cLine)
    (hls : h₀.IsList l vs.toArray)
    (hret : ∀ c vs' ns' n' h' tk', IntsAre vs' ns' → ns'.length < 1000 → Fr h₀ L h' m → News h₀ L h' ((c, listOf vs'.toArray n') :: led) → (∀ p ∈ led, p.1 < c) → Q (.ref c) ⟨h', gs, dr, tk', os0⟩) :
    wpAny (model PySem.Challenge.rw_sa0145_01.row.prog w) (ktrTop dp un gd cn cs L a ccd cl outer) (call (.ref 224) [.ref l]) Q E ⟨hp0, gs, dr, tk0, os0⟩ :=
  law_coins_0 l vs ns hi hlen dp un gd cn cs a ccd cl outer A₀ base h₀ L m ⟨hp0, gs, dr, tk0, os0⟩ led Q E B F X N T hk hd hu hls hret

end PCO
section PIf
/-! VarInfo objects -/
def sU : Str := Str.mk #[117, 110, 115, 97, 102, 101]
structure Info where
  var : Int
  kind : Str
  slot : Int
  first : Str
  uns : Bool
  last_goal : Int
  count : Int
  first_chunk : Int
  last_chunk : Int
inductive InfoO (w : World) (i : Info) : Obj → Prop
  | mk (t0 t1 t2 t3 t4 t5 t6 t7 t8 u0 u1 u2 u3 u5 u6 u7 u8 : Tok) : InfoO w i (dictOf [⟨PyData.keyHash w.params (Str.ofString "var"), .str (Str.ofString "var") t0, .int i.var u0⟩,
    ⟨PyData.keyHash w.params (Str.ofString "kind"), .str (Str.ofString "kind") t1, .str i.kind u1⟩,
    ⟨PyData.keyHash w.params (Str.ofString "slot"), .str (Str.ofString "slot") t2, .int i.slot u2⟩,
    ⟨PyData.keyHash w.params (Str.ofString "first"), .str (Str.ofString "first") t3, .str i.first u3⟩,
    ⟨PyData.keyHash w.params sU, .str sU t4, .bool i.uns⟩,
    ⟨PyData.keyHash w.params (Str.ofString "last_goal"), .str (Str.ofString "last_goal") t5, .int i.last_goal u5⟩,
    ⟨PyData.keyHash w.params (Str.ofString "count"), .str (Str.ofString "count") t6, .int i.count u6⟩,
    ⟨PyData.keyHash w.params (Str.ofString "first_chunk"), .str (Str.ofString "first_chunk") t7, .int i.first_chunk u7⟩,
    ⟨PyData.keyHash w.params (Str.ofString "last_chunk"), .str (Str.ofString "last_chunk") t8, .int i.last_chunk u8⟩] 9)
abbrev InfoObj (w : World) (o : Obj) (i : Info) : Prop := InfoO w i o
structure IRec where
  x : Addr
  dx : Addr
  o : Obj
  i : Info
abbrev IRec.led (r : IRec) : Led := [(r.x, instObj 94 r.dx), (r.dx, r.o)]
def recsLed : List IRec → Led
  | [] => []
  | r :: rs => (r.x, instObj 94 r.dx) :: (r.dx, r.o) :: recsLed rs
theorem recsLed_append : ∀ (a b : List IRec), recsLed (a ++ b) = recsLed a ++ recsLed b
  | [], _ => rfl
  | r :: a, b => by rw [List.cons_append, recsLed, recsLed, recsLed_append a b]; rfl
abbrev prog : Program := PySem.Challenge.rw_sa0145_01.row.prog
def kvsOf (recs : List IRec) : List (Int × Value) := recs.map fun r => (r.i.var, .ref r.x)
def Infos (w : World) (od : Obj) (recs : List IRec) : Prop := od.IsDictOf (intKind PySem.Challenge.rw_sa0145_01.row.prog w) (kvsOf recs) ∧ ∀ r ∈ recs, InfoObj w r.o r.i
def Sep (own rest : Led) : Prop := (own.map (·.1)).Nodup ∧ ∀ p ∈ own, ∀ q ∈ rest, @Ne Nat p.1 q.1

end PIf
section PM1
theorem meetA (sx sd D x dx : Addr) (od ov : Obj) (hs : Int) (ts : Tok) (kvs : List (Int × Value)) (i : Info) (k : Int) (tk : Tok) (first : Str) (tf : Tok) (goal : Int) (tg : Tok) (chunk : Int) (tc : Tok) (count : Int) (tn : Tok) (rest : Led)
    (hsx : (sx, instObj 192 sd) ∈ rest) (hsd : (sd, dictOf [⟨hs, .str (Str.ofString "infos") ts, .ref D⟩] 1) ∈ rest) (hD : od.IsDictOf (intKind PySem.Challenge.rw_sa0145_01.row.prog w) kvs) (lo : (D == sysModules) = false)
    (hv : valueAt kvs k = some (.ref x)) (ho : InfoObj w ov i) (hxd : @Ne Nat x dx) (hDd : @Ne Nat D dx) (hoff : ∀ p ∈ rest, p.1 ≠ dx) :
    Ctr w loose mean mg mb 182 2 [.ref sx, .int k tk, .str first tf, .int goal tg, .int chunk tc, .int count tn] ((x, instObj 94 dx) :: (dx, ov) :: (D, od) :: rest)
      (fun r led' => ∃ o', r = .none ∧ led' = (x, instObj 94 dx) :: (dx, o') :: (D, od) :: rest ∧ InfoObj w o' { i with count := i.count + count, last_goal := goal, last_chunk := chunk }) := by
  refine ctr_intro ?_
  k_fill
  intro dp un gd cn cs a ccd cl outer A₀ base h₀ L m sH sG sD sT sO Q E B F X N T hk hd hu hret
  (try k_fold); (try (show (let GZ : Prop := _; GZ); intro GZ))
  obtain ⟨t0, t1, t2, t3, t4, t5, t6, t7, t8, u0, u1, u2, u3, u5, u6, u7, u8⟩ := ho
  (try k_unfold)
  refine wpAny_call ?_
  refine' code_def (binds := [(Str.ofString "self", .ref sx), (Str.ofString "k", .int k tk), (Str.ofString "first", .str first tf), (Str.ofString "goal", .int goal tg), (Str.ofString "chunk", .int chunk tc), (Str.ofString "count", .int count tn)]) ?k1 ?k2 ?k3 ?k4 ?k5 ?kA ?kF ?kK ?k6 ?k7 ?k8 ?k9 ?kB ?_ ?c2 ?c3 ?c4 ?c5
  (case kA => exact rfl)
  (case kF => exact rfl)
  (case kK => assumption)
  (case k1 => exact B)
  (case k2 => exact F)
  (case k3 => exact X)
  (case k4 => exact N)
  (case k5 => exact T)
  (case k6 => k_is)
  (case k7 => k_is)
  (case k8 => ktr_room)
  (case k9 => exact BindsTo.of_eq rfl)
  (case c5 => decide)
  (case kB => exact locs rfl)
  (case c2 => exact rfl)
  (case c3 => exact rfl)
  (case c4 => exact rfl)
  clear B X T
  intro g L' h' FG' F' N' B' X' T'
  refine no_raise ?_
  (try dsimp only)
  (try k_fold)
  k_steps
  refine to_hold ?_
  k_dflt (refine dn_notin_some (by k_asm) (by k_mem) (by assumption) (by assumption) (by walk_at "di_l") ?_)
  k_steps
  refine leaveK_ (by assumption) (by assumption) fun kF kN => ?_
  exact hret _ _ _ _ kF kN ⟨_, rfl, rfl, (InfoO.mk _ _ _ _ _ _ _ _ _ _ _ _ _ _ _ _ _)⟩

end PM1
section PM2
theorem meetB (sx sd D : Addr) (od : Obj) (hs : Int) (ts : Tok) (kvs : List (Int × Value)) (k : Int) (tk : Tok) (first : Str) (tf : Tok) (goal : Int) (tg : Tok) (chunk : Int) (tc : Tok) (count : Int) (tn : Tok) (rest : Led)
    (hsx : (sx, instObj 192 sd) ∈ rest) (hsd : (sd, dictOf [⟨hs, .str (Str.ofString "infos") ts, .ref D⟩] 1) ∈ rest) (hD : od.IsDictOf (intKind PySem.Challenge.rw_sa0145_01.row.prog w) kvs) (lo : (D == sysModules) = false)
    (hv : valueAt kvs k = none) (hlen : kvs.length ≤ 100) (hoff : ∀ p ∈ rest, p.1 ≠ D) :
    Ctr w loose mean mg mb 182 2 [.ref sx, .int k tk, .str first tf, .int goal tg, .int chunk tc, .int count tn] ((D, od) :: rest)
      (fun r led' => ∃ x dx o' od', r = .none ∧ led' = (x, instObj 94 dx) :: (dx, o') :: (D, od') :: rest ∧ InfoObj w o' ⟨k, Str.ofString "temp", 0, first, false, goal, 0 + count, chunk, chunk⟩ ∧ od'.IsDictOf (intKind PySem.Challenge.rw_sa0145_01.row.prog w) (stored kvs k (.ref x)) ∧
        Above [(x, instObj 94 dx), (dx, o')] ((D, od) :: rest) ∧ @Ne Nat x dx) := by
  refine ctr_intro ?_
  k_fill
  intro dp un gd cn cs a ccd cl outer A₀ base h₀ L m sH sG sD sT sO Q E B F X N T hk hd hu hret
  refine wpAny_call ?_
  refine' code_def (binds := [(Str.ofString "self", .ref sx), (Str.ofString "k", .int k tk), (Str.ofString "first", .str first tf), (Str.ofString "goal", .int goal tg), (Str.ofString "chunk", .int chunk tc), (Str.ofString "count", .int count tn)]) ?k1 ?k2 ?k3 ?k4 ?k5 ?kA ?kF ?kK ?k6 ?k7 ?k8 ?k9 ?kB ?_ ?c2 ?c3 ?c4 ?c5
  (case kA => exact rfl)
  (case kF => exact rfl)
  (case kK => assumption)
  (case k1 => exact B)
  (case k2 => exact F)
  (case k3 => exact X)
  (case k4 => exact N)
  (case k5 => exact T)
  (case k6 => k_is)
  (case k7 => k_is)
  (case k8 => ktr_room)
  (case k9 => exact BindsTo.of_eq rfl)
  (case c5 => decide)
  (case kB => exact locs rfl)
  (case c2 => exact rfl)
  (case c3 => exact rfl)
  (case c4 => exact rfl)
  clear B X T
  intro g L' h' FG' F' N' B' X' T'
  refine no_raise ?_
  (try dsimp only)
  (try k_fold)
  k_steps
  refine to_hold ?_
  k_dflt (refine dn_notin_none (by k_asm) (by k_mem) (by assumption) (by assumption) (by walk_at "di_l") ?_)
  k_steps
  refine leaveK_ (by assumption) (by assumption) fun kF kN => ?_
  refine hret _ _ _ _ kF kN ⟨_, _, _, _, rfl, rfl, (InfoO.mk _ _ _ _ _ _ _ _ _ _ _ _ _ _ _ _ _), by assumption, ?_, ?_⟩
  · walk_at "above"
  · k_ne

end PM2
section PM3
/-! meet, whole -/
def meetL (l : List Info) (k : Int) (first : Str) (goal chunk count : Int) : List Info :=
  if l.any (fun i => i.var = k) then l.map (fun i => if i.var = k then { i with count := i.count + count, last_goal := goal, last_chunk := chunk } else i)
  else l ++ [⟨k, Str.ofString "temp", 0, first, false, goal, 0 + count, chunk, chunk⟩]
def Apart (own rest : Led) : Prop := ∀ p ∈ own, ∀ q ∈ rest, @Ne Nat p.1 q.1
theorem Apart.sub {own rest rest' : Led} (h : Apart own rest) (hs : ∀ p ∈ rest', p ∈ rest) : Apart own rest' := fun p hp q hq => h p hp q (hs q hq)
theorem Apart.subL {own own' rest : Led} (h : Apart own rest) (hs : ∀ p ∈ own', p ∈ own) : Apart own' rest := fun p hp q hq => h p (hs p hp) q hq
theorem Apart.append {own n rest : Led} (h : Apart own rest) (k : Apart own n) : Apart own (n ++ rest) := fun p hp q hq => (List.mem_append.mp hq).elim (k p hp q) (h p hp q)
theorem Apart.cons {own rest : Led} {q : Addr × Obj} (h : Apart own rest) (k : ∀ p ∈ own, @Ne Nat p.1 q.1) : Apart own (q :: rest) := fun p hp r hr => by
  rcases List.mem_cons.mp hr with rfl | hr
  · exact k p hp
  · exact h p hp r hr
theorem Apart.of_above {own rest : Led} (h : Above own rest) : Apart own rest := fun p hp q hq => Nat.ne_of_gt (h p hp q hq)
theorem Apart.appendL {a b rest : Led} (h : Apart a rest) (k : Apart b rest) : Apart (a ++ b) rest := fun p hp q hq => (List.mem_append.mp hp).elim (fun hp => h p hp q hq) fun hp => k p hp q hq
def Sv (w : World) (D : Addr) (l : List Info) (own rest : Led) : Prop :=
  ∃ od recs, own = (D, od) :: recsLed recs ∧ od.IsDictOf (intKind PySem.Challenge.rw_sa0145_01.row.prog w) (kvsOf recs) ∧ (∀ r ∈ recs, InfoObj w r.o r.i) ∧ recs.map (·.i) = l ∧ (own.map (·.1)).Nodup ∧ Apart own rest
theorem nodup_off {a b : Led} {q : Addr × Obj} (h : ((a ++ q :: b).map (·.1)).Nodup) : ∀ p ∈ a ++ b, @Ne Nat p.1 q.1 := by
  intro p hp
  rw [List.map_append, List.nodup_append] at h
  obtain ⟨_, h2, h3⟩ := h
  rcases List.mem_append.mp hp with hp | hp
  · exact h3 _ (List.mem_map_of_mem hp) _ (List.mem_map_of_mem (List.mem_cons_self ..))
  · rw [List.map_cons, List.nodup_cons] at h2
    intro e
    exact h2.1 (e ▸ List.mem_map_of_mem hp)
theorem find_rec : ∀ {recs : List IRec} {k : Int} {v : Value}, ((kvsOf recs).map (·.1)).Nodup → valueAt (kvsOf recs) k = some v → ∃ pre r post, recs = pre ++ r :: post ∧ r.i.var = k ∧ v = .ref r.x ∧ (∀ q ∈ pre, q.i.var ≠ k) ∧ ∀ q ∈ post, q.i.var ≠ k
  | [], k, v, _, h => by cases h
  | r :: recs, k, v, hn, h => by
    rw [kvsOf, List.map_cons, valueAt_cons] at h
    rw [kvsOf, List.map_cons, List.map_cons, List.nodup_cons] at hn
    by_cases hk : r.i.var = k
    · rw [if_pos hk] at h
      refine ⟨[], r, recs, rfl, hk, (Option.some.inj h).symm, (fun _ h => nomatch h), fun q hq e => hn.1 ?_⟩
      rw [hk, ← e]
      exact List.mem_map.mpr ⟨(q.i.var, .ref q.x), List.mem_map.mpr ⟨q, hq, rfl⟩, rfl⟩
    · rw [if_neg hk] at h
      (try k_fold); (try (show (let GZ : Prop := _; GZ); intro GZ))
      obtain ⟨pre, r', post, rfl, h1, h2, h3, h4⟩ := find_rec hn.2 h
      (try k_unfold)
      refine ⟨r :: pre, r', post, rfl, h1, h2, fun q hq => ?_, h4⟩
      rcases List.mem_cons.mp hq with rfl | hq
      · exact hk
      · exact h3 q hq
theorem find_none : ∀ {recs : List IRec} {k : Int}, valueAt (kvsOf recs) k = none → ∀ q ∈ recs, q.i.var ≠ k
  | [], _, _, _, hq => nomatch hq
  | r :: recs, k, h, q, hq => by
    rw [kvsOf, List.map_cons, valueAt_cons] at h
    by_cases hk : r.i.var = k
    · rw [if_pos hk] at h; cases h
    · rw [if_neg hk] at h
      rcases List.mem_cons.mp hq with rfl | hq
      · exact hk
      · exact find_none h q hq
theorem kvsOf_length (recs : List IRec) : (kvsOf recs).length = recs.length := by simp [kvsOf]
theorem map_other {l : List Info} {k : Int} {f : Info → Info} (h : ∀ q ∈ l, q.var ≠ k) : l.map (fun i => if i.var = k then f i else i) = l := by
  induction l with
  | nil => rfl
  | cons a l ih => rw [List.map_cons, if_neg (h a (.head _)), ih fun q hq => h q (.tail _ hq)]
theorem dict_nodup {K : Type} [DecidableEq K] {prog : Program} {w : World} {knd : KeyKind prog w K} {o : Obj} {kvs : List (K × Value)} (h : o.IsDictOf knd kvs) : (kvs.map (·.1)).Nodup := by
  (try k_fold); (try (show (let GZ : Prop := _; GZ); intro GZ))
  obtain ⟨_, _, _, _, _, _, h⟩ := h
  (try k_unfold)
  exact h
theorem meet (sx sd D : Addr) (hs : Int) (ts : Tok) (l : List Info) (own rest : Led) (k : Int) (tk : Tok) (first : Str) (tf : Tok) (goal : Int) (tg : Tok) (chunk : Int) (tc : Tok) (count : Int) (tn : Tok)
    (hsx : (sx, instObj 192 sd) ∈ rest) (hsd : (sd, dictOf [⟨hs, .str (Str.ofString "infos") ts, .ref D⟩] 1) ∈ rest) (hS : Sv w D l own rest) (lo : (D == sysModules) = false) (hlen : l.length ≤ 100) :
    Ctr w loose mean mg mb 182 2 [.ref sx, .int k tk, .str first tf, .int goal tg, .int chunk tc, .int count tn] (own ++ rest)
      (fun r led' => r = .none ∧ ∃ own', led' = own' ++ rest ∧ Sv w D (meetL l k first goal chunk count) own' rest) := by
  (try (show (let GZ : Prop := _; GZ); intro GZ))
  obtain ⟨od, recs, rfl, hd, hi, rfl, hn, ha⟩ := hS
  (try k_unfold)
  have hkn := dict_nodup hd
  cases hv : valueAt (kvsOf recs) k with
  | some v =>
    (try k_fold); (try (show (let GZ : Prop := _; GZ); intro GZ))
    obtain ⟨pre, ⟨x, dx, ov, i⟩, post, rfl, rfl, rfl, h3, h4⟩ := find_rec hkn hv
    (try k_unfold)
    have e0 : (D, od) :: recsLed (pre ++ ⟨x, dx, ov, i⟩ :: post) = ((D, od) :: recsLed pre ++ [(x, instObj 94 dx)]) ++ (dx, ov) :: recsLed post := by rw [recsLed_append, recsLed]; simp
    have hoff := nodup_off (e0 ▸ hn)
    have hadx : ∀ q ∈ rest, @Ne Nat q.1 dx := fun q hq => Ne.symm (ha (dx, ov) (e0 ▸ List.mem_append_right _ (.head _)) q hq)
    refine ctr_conv (meetA sx sd D x dx od ov hs ts _ i i.var tk first tf goal tg chunk tc count tn (recsLed pre ++ recsLed post ++ rest) (List.mem_append_right _ hsx) (List.mem_append_right _ hsd) hd lo hv (hi ⟨x, dx, ov, i⟩ (by simp)) (hoff (x, instObj 94 dx) (by simp)) (hoff (D, od) (by simp)) ?off) ?sub ?post
    case off =>
      intro p hp
      rcases List.mem_append.mp hp with hp | hp
      · refine hoff p ?_
        rcases List.mem_append.mp hp with hp | hp
        · exact List.mem_append_left _ (List.mem_append_left _ (.tail _ hp))
        · exact List.mem_append_right _ hp
      · exact hadx p hp
    case sub =>
      intro p hp
      rw [e0]
      simp only [List.mem_append, List.mem_cons, List.not_mem_nil, or_false] at hp ⊢
      rcases hp with h | h | h | (h | h) | h <;> simp [h]
    case post =>
      intro r l' hz2
      (try k_fold); (try (show (let GZ : Prop := _; GZ); intro GZ))
      obtain ⟨o', rfl, rfl, ho'⟩ := hz2
      (try k_unfold)
      refine ⟨((D, od) :: recsLed (pre ++ ⟨x, dx, o', { i with count := i.count + count, last_goal := goal, last_chunk := chunk }⟩ :: post)) ++ rest, ?_, rfl, _, rfl, od, _, rfl, ?_, ?_, ?_, ?_, ?_⟩
      · intro p hp
        rw [recsLed_append, recsLed] at hp
        simp only [List.mem_append, List.mem_cons, List.cons_append] at hp ⊢
        rcases hp with h | (h | h | h | h) | h <;> simp [h]
      · have e : kvsOf (pre ++ ⟨x, dx, o', { i with count := i.count + count, last_goal := goal, last_chunk := chunk }⟩ :: post) = kvsOf (pre ++ ⟨x, dx, ov, i⟩ :: post) := by simp [kvsOf]
        rw [e]; exact hd
      · intro r hr
        rcases List.mem_append.mp hr with hr | hr
        · exact hi r (List.mem_append_left _ hr)
        · rcases List.mem_cons.mp hr with rfl | hr
          · exact ho'
          · exact hi r (List.mem_append_right _ (.tail _ hr))
      · unfold meetL
        rw [if_pos (by simp)]
        simp only [List.map_append, List.map_cons]
        rw [map_other, map_other, if_pos trivial]
        · intro q hq
          obtain ⟨r, hr, rfl⟩ := List.mem_map.mp hq
          exact h4 r hr
        · intro q hq
          obtain ⟨r, hr, rfl⟩ := List.mem_map.mp hq
          exact h3 r hr
      · rw [recsLed_append, recsLed] at hn ⊢
        simpa using hn
      · intro p hp q hq
        obtain ⟨p', hp', e⟩ : ∃ p' ∈ (D, od) :: recsLed (pre ++ ⟨x, dx, ov, i⟩ :: post), p'.1 = p.1 := by
          rw [recsLed_append, recsLed] at hp ⊢
          simp only [List.mem_append, List.mem_cons] at hp
          rcases hp with rfl | h | rfl | rfl | h
          · exact ⟨(D, od), by simp, rfl⟩
          · exact ⟨p, by simp [h], rfl⟩
          · exact ⟨(x, instObj 94 dx), by simp, rfl⟩
          · exact ⟨(dx, ov), by simp, rfl⟩
          · exact ⟨p, by simp [h], rfl⟩
        exact e ▸ ha p' hp' q hq
  | none =>
    have hnv := find_none hv
    have hoffD := nodup_off (a := []) hn
    have hoff : ∀ p ∈ recsLed recs ++ rest, p.1 ≠ D := by
      intro p hp
      rcases List.mem_append.mp hp with hp | hp
      · exact hoffD p hp
      · exact Ne.symm (ha (D, od) (.head _) p hp)
    have hl : (kvsOf recs).length ≤ 100 := by simpa [kvsOf] using hlen
    refine ctr_conv (meetB sx sd D od hs ts _ k tk first tf goal tg chunk tc count tn (recsLed recs ++ rest) (List.mem_append_right _ hsx) (List.mem_append_right _ hsd) hd lo hv hl hoff) (fun p hp => hp) ?post2
    case post2 =>
      intro r l' hz2
      (try k_fold); (try (show (let GZ : Prop := _; GZ); intro GZ))
      obtain ⟨x, dx, o', od', rfl, rfl, ho', hd', hab, hxd⟩ := hz2
      (try k_unfold)
      refine ⟨((D, od') :: recsLed (recs ++ [⟨x, dx, o', ⟨k, Str.ofString "temp", 0, first, false, goal, 0 + count, chunk, chunk⟩⟩])) ++ rest, ?_, rfl, _, rfl, od', _, rfl, ?_, ?_, ?_, ?_, ?_⟩
      · intro p hp
        rw [recsLed_append, recsLed, recsLed] at hp
        simp only [List.mem_append, List.mem_cons, List.cons_append, List.not_mem_nil, or_false] at hp ⊢
        rcases hp with h | (h | h | h) | h <;> simp [h]
      · rw [stored_absent hv] at hd'
        have e : kvsOf (recs ++ [⟨x, dx, o', ⟨k, Str.ofString "temp", 0, first, false, goal, 0 + count, chunk, chunk⟩⟩]) = kvsOf recs ++ [(k, .ref x)] := by simp [kvsOf]
        rw [e]; exact hd'
      · intro r hr
        rcases List.mem_append.mp hr with hr | hr
        · exact hi r hr
        · rw [List.mem_singleton.mp hr]; exact ho'
      · unfold meetL
        rw [if_neg]
        · simp
        · simp only [List.any_eq_true, decide_eq_true_eq, not_exists, not_and]
          intro q hq
          obtain ⟨r, hr, rfl⟩ := List.mem_map.mp hq
          exact hnv r hr
      · rw [recsLed_append, recsLed, recsLed]
        have hx : ∀ p ∈ (D, od) :: recsLed recs, @Ne Nat p.1 x := fun p hp => Nat.ne_of_lt (hab (x, instObj 94 dx) (.head _) p (by
          rcases List.mem_cons.mp hp with rfl | hp
          · exact .head _
          · exact .tail _ (List.mem_append_left _ hp)))
        have hdx : ∀ p ∈ (D, od) :: recsLed recs, @Ne Nat p.1 dx := fun p hp => Nat.ne_of_lt (hab (dx, o') (.tail _ (.head _)) p (by
          rcases List.mem_cons.mp hp with rfl | hp
          · exact .head _
          · exact .tail _ (List.mem_append_left _ hp)))
        rw [← List.cons_append, List.map_append, List.nodup_append]
        refine ⟨hn, ?_, ?_⟩
        · simp only [List.map_cons, List.map_nil, List.nodup_cons, List.mem_singleton, List.not_mem_nil, not_false_eq_true, List.nodup_nil, and_true]
          exact hxd
        · intro a ha b hb
          obtain ⟨p, hp, rfl⟩ := List.mem_map.mp ha
          simp only [List.map_cons, List.map_nil, List.mem_cons, List.not_mem_nil, or_false] at hb
          have hp' : ∃ p' ∈ (D, od) :: recsLed recs, p'.1 = p.1 := by
            rcases List.mem_cons.mp hp with rfl | hp
            · exact ⟨_, .head _, rfl⟩
            · exact ⟨_, .tail _ hp, rfl⟩
          obtain ⟨p', hp', e⟩ := hp'
          rcases hb with rfl | rfl
          · exact e ▸ hx p' hp'
          · exact e ▸ hdx p' hp'
      · intro p hp q hq
        rw [recsLed_append, recsLed, recsLed] at hp
        simp only [List.mem_append, List.mem_cons, List.not_mem_nil, or_false] at hp
        rcases hp with rfl | h | rfl | rfl
        · exact ha (D, od) (.head _) q hq
        · exact ha p (.tail _ h) q hq
        · exact Nat.ne_of_gt (hab _ (.head _) q (.tail _ (List.mem_append_right _ hq)))
        · exact Nat.ne_of_gt (hab _ (.tail _ (.head _)) q (.tail _ (List.mem_append_right _ hq)))

end PM3
section PGT
/-! goal_special, goal_terms -/
def Goal.special : Goal → Int
  | .mark => 6
  | .cutto => 6
  | _ => -1
def Goal.terms : Goal → List Side
  | .unify a b => [a, b]
  | .call ss => ss
  | .builtin ss => ss
  | _ => []
inductive TermsIn (led : Led) (v : Value) (ss : List Side) : Prop
  | mk (b : Addr) (vs : List Value) (n : Nat) (e : v = .ref b) (hm : (b, tupO vs n) ∈ led) (hs : SidesIn led vs ss) : TermsIn led v ss
theorem TermsIn.mono {led led' : Led} {v : Value} {ss : List Side} (h : TermsIn led v ss) (hs : ∀ p ∈ led, p ∈ led') : TermsIn led' v ss := let ⟨b, vs, n, e, h1, h2⟩ := h; ⟨b, vs, n, e, hs _ h1, h2.mono hs⟩
theorem goal_special (v : Value) (g : Goal) (led : Led) (hg : GoalIn led v g) :
    Ctr w loose mean mg mb 77 1 [v] led (fun r led' => led' = led ∧ ∃ t, r = .int g.special t) := by
  refine ctr_intro ?_
  k_fill
  intro dp un gd cn cs a ccd cl outer A₀ base h₀ L m sH sG sD sT sO Q E B F X N T hk hd hu hret
  cases g with
  | mark =>
    (try k_fold); (try (show (let GZ : Prop := _; GZ); intro GZ))
    obtain ⟨p, t, t', n, rfl, hm⟩ := hg
    (try k_unfold)
    refine wpAny_call ?_
    refine' code_def (binds := [(Str.ofString "goal", .ref p)]) ?k1 ?k2 ?k3 ?k4 ?k5 ?kA ?kF ?kK ?k6 ?k7 ?k8 ?k9 ?kB ?_ ?c2 ?c3 ?c4 ?c5
    (case kA => exact rfl)
    (case kF => exact rfl)
    (case kK => assumption)
    (case k1 => exact B)
    (case k2 => exact F)
    (case k3 => exact X)
    (case k4 => exact N)
    (case k5 => exact T)
    (case k6 => k_is)
    (case k7 => k_is)
    (case k8 => ktr_room)
    (case k9 => exact BindsTo.of_eq rfl)
    (case c5 => decide)
    (case kB => exact locs rfl)
    (case c2 => exact rfl)
    (case c3 => exact rfl)
    (case c4 => exact rfl)
    clear B X T
    intro g L' h' FG' F' N' B' X' T'
    refine no_raise ?_
    (try dsimp only)
    (try k_fold)
    k_steps
    refine leaveK_ (by assumption) (by assumption) fun kF kN => ?_
    exact hret _ _ _ _ kF kN ⟨rfl, _, rfl⟩
  | cutto =>
    (try k_fold); (try (show (let GZ : Prop := _; GZ); intro GZ))
    obtain ⟨p, t, t', n, rfl, hm⟩ := hg
    (try k_unfold)
    refine wpAny_call ?_
    refine' code_def (binds := [(Str.ofString "goal", .ref p)]) ?k1 ?k2 ?k3 ?k4 ?k5 ?kA ?kF ?kK ?k6 ?k7 ?k8 ?k9 ?kB ?_ ?c2 ?c3 ?c4 ?c5
    (case kA => exact rfl)
    (case kF => exact rfl)
    (case kK => assumption)
    (case k1 => exact B)
    (case k2 => exact F)
    (case k3 => exact X)
    (case k4 => exact N)
    (case k5 => exact T)
    (case k6 => k_is)
    (case k7 => k_is)
    (case k8 => ktr_room)
    (case k9 => exact BindsTo.of_eq rfl)
    (case c5 => decide)
    (case kB => exact locs rfl)
    (case c2 => exact rfl)
    (case c3 => exact rfl)
    (case c4 => exact rfl)
    clear B X T
    intro g L' h' FG' F' N' B' X' T'
    refine no_raise ?_
    (try dsimp only)
    (try k_fold)
    k_steps
    refine leaveK_ (by assumption) (by assumption) fun kF kN => ?_
    exact hret _ _ _ _ kF kN ⟨rfl, _, rfl⟩
  | fail =>
    (try k_fold); (try (show (let GZ : Prop := _; GZ); intro GZ))
    obtain ⟨p, t, n, rfl, hm⟩ := hg
    (try k_unfold)
    refine wpAny_call ?_
    refine' code_def (binds := [(Str.ofString "goal", .ref p)]) ?k1 ?k2 ?k3 ?k4 ?k5 ?kA ?kF ?kK ?k6 ?k7 ?k8 ?k9 ?kB ?_ ?c2 ?c3 ?c4 ?c5
    (case kA => exact rfl)
    (case kF => exact rfl)
    (case kK => assumption)
    (case k1 => exact B)
    (case k2 => exact F)
    (case k3 => exact X)
    (case k4 => exact N)
    (case k5 => exact T)
    (case k6 => k_is)
    (case k7 => k_is)
    (case k8 => ktr_room)
    (case k9 => exact BindsTo.of_eq rfl)
    (case c5 => decide)
    (case kB => exact locs rfl)
    (case c2 => exact rfl)
    (case c3 => exact rfl)
    (case c4 => exact rfl)
    clear B X T
    intro g L' h' FG' F' N' B' X' T'
    refine no_raise ?_
    (try dsimp only)
    (try k_fold)
    k_steps
    refine leaveK_ (by assumption) (by assumption) fun kF kN => ?_
    exact hret _ _ _ _ kF kN ⟨rfl, _, rfl⟩
  | unify a b =>
    (try k_fold); (try (show (let GZ : Prop := _; GZ); intro GZ))
    obtain ⟨p, t, v1, v2, n, rfl, hm, h1, h2⟩ := hg
    (try k_unfold)
    refine wpAny_call ?_
    refine' code_def (binds := [(Str.ofString "goal", .ref p)]) ?k1 ?k2 ?k3 ?k4 ?k5 ?kA ?kF ?kK ?k6 ?k7 ?k8 ?k9 ?kB ?_ ?c2 ?c3 ?c4 ?c5
    (case kA => exact rfl)
    (case kF => exact rfl)
    (case kK => assumption)
    (case k1 => exact B)
    (case k2 => exact F)
    (case k3 => exact X)
    (case k4 => exact N)
    (case k5 => exact T)
    (case k6 => k_is)
    (case k7 => k_is)
    (case k8 => ktr_room)
    (case k9 => exact BindsTo.of_eq rfl)
    (case c5 => decide)
    (case kB => exact locs rfl)
    (case c2 => exact rfl)
    (case c3 => exact rfl)
    (case c4 => exact rfl)
    clear B X T
    intro g L' h' FG' F' N' B' X' T'
    refine no_raise ?_
    (try dsimp only)
    (try k_fold)
    k_steps
    refine leaveK_ (by assumption) (by assumption) fun kF kN => ?_
    exact hret _ _ _ _ kF kN ⟨rfl, _, rfl⟩
  | call ss =>
    (try k_fold); (try (show (let GZ : Prop := _; GZ); intro GZ))
    obtain ⟨p, t, t', b, n, vs, n', rfl, hm, h1, h2⟩ := hg
    (try k_unfold)
    refine wpAny_call ?_
    refine' code_def (binds := [(Str.ofString "goal", .ref p)]) ?k1 ?k2 ?k3 ?k4 ?k5 ?kA ?kF ?kK ?k6 ?k7 ?k8 ?k9 ?kB ?_ ?c2 ?c3 ?c4 ?c5
    (case kA => exact rfl)
    (case kF => exact rfl)
    (case kK => assumption)
    (case k1 => exact B)
    (case k2 => exact F)
    (case k3 => exact X)
    (case k4 => exact N)
    (case k5 => exact T)
    (case k6 => k_is)
    (case k7 => k_is)
    (case k8 => ktr_room)
    (case k9 => exact BindsTo.of_eq rfl)
    (case c5 => decide)
    (case kB => exact locs rfl)
    (case c2 => exact rfl)
    (case c3 => exact rfl)
    (case c4 => exact rfl)
    clear B X T
    intro g L' h' FG' F' N' B' X' T'
    refine no_raise ?_
    (try dsimp only)
    (try k_fold)
    k_steps
    refine leaveK_ (by assumption) (by assumption) fun kF kN => ?_
    exact hret _ _ _ _ kF kN ⟨rfl, _, rfl⟩
  | builtin ss =>
    (try k_fold); (try (show (let GZ : Prop := _; GZ); intro GZ))
    obtain ⟨p, t, t', b, n, vs, n', rfl, hm, h1, h2⟩ := hg
    (try k_unfold)
    refine wpAny_call ?_
    refine' code_def (binds := [(Str.ofString "goal", .ref p)]) ?k1 ?k2 ?k3 ?k4 ?k5 ?kA ?kF ?kK ?k6 ?k7 ?k8 ?k9 ?kB ?_ ?c2 ?c3 ?c4 ?c5
    (case kA => exact rfl)
    (case kF => exact rfl)
    (case kK => assumption)
    (case k1 => exact B)
    (case k2 => exact F)
    (case k3 => exact X)
    (case k4 => exact N)
    (case k5 => exact T)
    (case k6 => k_is)
    (case k7 => k_is)
    (case k8 => ktr_room)
    (case k9 => exact BindsTo.of_eq rfl)
    (case c5 => decide)
    (case kB => exact locs rfl)
    (case c2 => exact rfl)
    (case c3 => exact rfl)
    (case c4 => exact rfl)
    clear B X T
    intro g L' h' FG' F' N' B' X' T'
    refine no_raise ?_
    (try dsimp only)
    (try k_fold)
    k_steps
    refine leaveK_ (by assumption) (by assumption) fun kF kN => ?_
    exact hret _ _ _ _ kF kN ⟨rfl, _, rfl⟩
theorem goal_terms (v : Value) (g : Goal) (sub led : Led) (hg : GoalIn sub v g) (hs : ∀ p ∈ sub, p ∈ led) :
    Ctr w loose mean mg mb 70 1 [v] led (fun r led' => ∃ new, led' = new ++ led ∧ Above new led ∧ TermsIn (new ++ sub) r g.terms) := by
  refine ctr_intro ?_
  k_fill
  intro dp un gd cn cs a ccd cl outer A₀ base h₀ L m sH sG sD sT sO Q E B F X N T hk hd hu hret
  cases g with
  | mark =>
    (try k_fold); (try (show (let GZ : Prop := _; GZ); intro GZ))
    obtain ⟨p, t, t', n, rfl, hm0⟩ := hg
    (try k_unfold)
    have hm := hs _ hm0
    refine wpAny_call ?_
    refine' code_def (binds := [(Str.ofString "goal", .ref p)]) ?k1 ?k2 ?k3 ?k4 ?k5 ?kA ?kF ?kK ?k6 ?k7 ?k8 ?k9 ?kB ?_ ?c2 ?c3 ?c4 ?c5
    (case kA => exact rfl)
    (case kF => exact rfl)
    (case kK => assumption)
    (case k1 => exact B)
    (case k2 => exact F)
    (case k3 => exact X)
    (case k4 => exact N)
    (case k5 => exact T)
    (case k6 => k_is)
    (case k7 => k_is)
    (case k8 => ktr_room)
    (case k9 => exact BindsTo.of_eq rfl)
    (case c5 => decide)
    (case kB => exact locs rfl)
    (case c2 => exact rfl)
    (case c3 => exact rfl)
    (case c4 => exact rfl)
    clear B X T
    intro g L' h' FG' F' N' B' X' T'
    refine no_raise ?_
    (try dsimp only)
    (try k_fold)
    k_steps
    refine leaveK_ (by assumption) (by assumption) fun kF kN => ?_
    exact hret _ _ _ _ kF kN ⟨[_], rfl, by walk_at "above", _, _, _, rfl, .head _, .nil⟩
  | cutto =>
    (try k_fold); (try (show (let GZ : Prop := _; GZ); intro GZ))
    obtain ⟨p, t, t', n, rfl, hm0⟩ := hg
    (try k_unfold)
    have hm := hs _ hm0
    refine wpAny_call ?_
    refine' code_def (binds := [(Str.ofString "goal", .ref p)]) ?k1 ?k2 ?k3 ?k4 ?k5 ?kA ?kF ?kK ?k6 ?k7 ?k8 ?k9 ?kB ?_ ?c2 ?c3 ?c4 ?c5
    (case kA => exact rfl)
    (case kF => exact rfl)
    (case kK => assumption)
    (case k1 => exact B)
    (case k2 => exact F)
    (case k3 => exact X)
    (case k4 => exact N)
    (case k5 => exact T)
    (case k6 => k_is)
    (case k7 => k_is)
    (case k8 => ktr_room)
    (case k9 => exact BindsTo.of_eq rfl)
    (case c5 => decide)
    (case kB => exact locs rfl)
    (case c2 => exact rfl)
    (case c3 => exact rfl)
    (case c4 => exact rfl)
    clear B X T
    intro g L' h' FG' F' N' B' X' T'
    refine no_raise ?_
    (try dsimp only)
    (try k_fold)
    k_steps
    refine leaveK_ (by assumption) (by assumption) fun kF kN => ?_
    exact hret _ _ _ _ kF kN ⟨[_], rfl, by walk_at "above", _, _, _, rfl, .head _, .nil⟩
  | fail =>
    (try k_fold); (try (show (let GZ : Prop := _; GZ); intro GZ))
    obtain ⟨p, t, n, rfl, hm0⟩ := hg
    (try k_unfold)
    have hm := hs _ hm0
    refine wpAny_call ?_
    refine' code_def (binds := [(Str.ofString "goal", .ref p)]) ?k1 ?k2 ?k3 ?k4 ?k5 ?kA ?kF ?kK ?k6 ?k7 ?k8 ?k9 ?kB ?_ ?c2 ?c3 ?c4 ?c5
    (case kA => exact rfl)
    (case kF => exact rfl)
    (case kK => assumption)
    (case k1 => exact B)
    (case k2 => exact F)
    (case k3 => exact X)
    (case k4 => exact N)
    (case k5 => exact T)
    (case k6 => k_is)
    (case k7 => k_is)
    (case k8 => ktr_room)
    (case k9 => exact BindsTo.of_eq rfl)
    (case c5 => decide)
    (case kB => exact locs rfl)
    (case c2 => exact rfl)
    (case c3 => exact rfl)
    (case c4 => exact rfl)
    clear B X T
    intro g L' h' FG' F' N' B' X' T'
    refine no_raise ?_
    (try dsimp only)
    (try k_fold)
    k_steps
    refine leaveK_ (by assumption) (by assumption) fun kF kN => ?_
    exact hret _ _ _ _ kF kN ⟨[_], rfl, by walk_at "above", _, _, _, rfl, .head _, .nil⟩
  | unify a b =>
    (try k_fold); (try (show (let GZ : Prop := _; GZ); intro GZ))
    obtain ⟨p, t, v1, v2, n, rfl, hm0, h1, h2⟩ := hg
    (try k_unfold)
    have hm := hs _ hm0
    refine wpAny_call ?_
    refine' code_def (binds := [(Str.ofString "goal", .ref p)]) ?k1 ?k2 ?k3 ?k4 ?k5 ?kA ?kF ?kK ?k6 ?k7 ?k8 ?k9 ?kB ?_ ?c2 ?c3 ?c4 ?c5
    (case kA => exact rfl)
    (case kF => exact rfl)
    (case kK => assumption)
    (case k1 => exact B)
    (case k2 => exact F)
    (case k3 => exact X)
    (case k4 => exact N)
    (case k5 => exact T)
    (case k6 => k_is)
    (case k7 => k_is)
    (case k8 => ktr_room)
    (case k9 => exact BindsTo.of_eq rfl)
    (case c5 => decide)
    (case kB => exact locs rfl)
    (case c2 => exact rfl)
    (case c3 => exact rfl)
    (case c4 => exact rfl)
    clear B X T
    intro g L' h' FG' F' N' B' X' T'
    refine no_raise ?_
    (try dsimp only)
    (try k_fold)
    k_steps
    refine leaveK_ (by assumption) (by assumption) fun kF kN => ?_
    exact hret _ _ _ _ kF kN ⟨[_], rfl, by walk_at "above", _, _, _, rfl, .head _, .cons (h1.mono fun p hp => .tail _ hp) (.cons (h2.mono fun p hp => .tail _ hp) .nil)⟩
  | call ss =>
    (try k_fold); (try (show (let GZ : Prop := _; GZ); intro GZ))
    obtain ⟨p, t, t', b, n, vs, n', rfl, hm0, h1, h2⟩ := hg
    (try k_unfold)
    have hm := hs _ hm0
    refine wpAny_call ?_
    refine' code_def (binds := [(Str.ofString "goal", .ref p)]) ?k1 ?k2 ?k3 ?k4 ?k5 ?kA ?kF ?kK ?k6 ?k7 ?k8 ?k9 ?kB ?_ ?c2 ?c3 ?c4 ?c5
    (case kA => exact rfl)
    (case kF => exact rfl)
    (case kK => assumption)
    (case k1 => exact B)
    (case k2 => exact F)
    (case k3 => exact X)
    (case k4 => exact N)
    (case k5 => exact T)
    (case k6 => k_is)
    (case k7 => k_is)
    (case k8 => ktr_room)
    (case k9 => exact BindsTo.of_eq rfl)
    (case c5 => decide)
    (case kB => exact locs rfl)
    (case c2 => exact rfl)
    (case c3 => exact rfl)
    (case c4 => exact rfl)
    clear B X T
    intro g L' h' FG' F' N' B' X' T'
    refine no_raise ?_
    (try dsimp only)
    (try k_fold)
    k_steps
    refine leaveK_ (by assumption) (by assumption) fun kF kN => ?_
    exact hret _ _ _ _ kF kN ⟨[], rfl, above_nil, _, _, _, rfl, h1, h2⟩
  | builtin ss =>
    (try k_fold); (try (show (let GZ : Prop := _; GZ); intro GZ))
    obtain ⟨p, t, t', b, n, vs, n', rfl, hm0, h1, h2⟩ := hg
    (try k_unfold)
    have hm := hs _ hm0
    refine wpAny_call ?_
    refine' code_def (binds := [(Str.ofString "goal", .ref p)]) ?k1 ?k2 ?k3 ?k4 ?k5 ?kA ?kF ?kK ?k6 ?k7 ?k8 ?k9 ?kB ?_ ?c2 ?c3 ?c4 ?c5
    (case kA => exact rfl)
    (case kF => exact rfl)
    (case kK => assumption)
    (case k1 => exact B)
    (case k2 => exact F)
    (case k3 => exact X)
    (case k4 => exact N)
    (case k5 => exact T)
    (case k6 => k_is)
    (case k7 => k_is)
    (case k8 => ktr_room)
    (case k9 => exact BindsTo.of_eq rfl)
    (case c5 => decide)
    (case kB => exact locs rfl)
    (case c2 => exact rfl)
    (case c3 => exact rfl)
    (case c4 => exact rfl)
    clear B X T
    intro g L' h' FG' F' N' B' X' T'
    refine no_raise ?_
    (try dsimp only)
    (try k_fold)
    k_steps
    refine leaveK_ (by assumption) (by assumption) fun kF kN => ?_
    exact hret _ _ _ _ kF kN ⟨[], rfl, above_nil, _, _, _, rfl, h1, h2⟩

end PGT
section PVR
/-! variables, occurrences -/
def Side.vars : Side → List Int
  | .atom => []
  | .var k => [k]
  | .s2 k j => if k = j then [k] else [k, j]
theorem ints1 (k : Int) (t : Tok) : IntsAre [.int k t] [k] := .cons _ _ .nil
theorem ints2 (k j : Int) (t u : Tok) : IntsAre [.int k t, .int j u] [k, j] := .cons _ _ (.cons _ _ .nil)
theorem vars_of (l : Addr) (v : Value) (n : Nat) (sd : Side) (led : Led) (hv : ∀ k, sd ≠ .var k) (hsd : SideIn led v sd) (hl : (l, listOf #[v] n) ∈ led) :
    Ctr w loose mean mg mb 35 1 [.ref l] led (ListPost (fun vs _ => IntsAre vs sd.vars) led) := by
  refine ctr_intro ?_
  k_fill
  intro dp un gd cn cs a ccd cl outer A₀ base h₀ L m sH sG sD sT sO Q E B F X N T hk hd hu hret
  cases sd with
  | var k => exact absurd rfl (hv k)
  | atom =>
    (try k_fold); (try (show (let GZ : Prop := _; GZ); intro GZ))
    obtain ⟨p, t, t', n', rfl, hm⟩ := hsd
    (try k_unfold)
    refine wpAny_call ?_
    refine' code_def (binds := [(Str.ofString "terms", .ref l)]) ?k1 ?k2 ?k3 ?k4 ?k5 ?kA ?kF ?kK ?k6 ?k7 ?k8 ?k9 ?kB ?_ ?c2 ?c3 ?c4 ?c5
    (case kA => exact rfl)
    (case kF => exact rfl)
    (case kK => assumption)
    (case k1 => exact B)
    (case k2 => exact F)
    (case k3 => exact X)
    (case k4 => exact N)
    (case k5 => exact T)
    (case k6 => k_is)
    (case k7 => k_is)
    (case k8 => ktr_room)
    (case k9 => exact BindsTo.of_eq rfl)
    (case c5 => decide)
    (case kB => exact locs rfl)
    (case c2 => exact rfl)
    (case c3 => exact rfl)
    (case c4 => exact rfl)
    clear B X T
    intro g L' h' FG' F' N' B' X' T'
    refine no_raise ?_
    (try dsimp only)
    (try k_fold)
    k_steps
    (try dsimp only)
    k_steps
    refine leaveK_ (by assumption) (by assumption) fun kF kN => ?_
    refine hret _ _ _ _ kF (news_sub kN (by walk_at "led_sub")) ⟨_, [], _, [], rfl, rfl, .nil, ?_⟩
    walk_at "above"
  | s2 k j =>
    (try k_fold); (try (show (let GZ : Prop := _; GZ); intro GZ))
    obtain ⟨p, t, t', b, n1, hm1, a1, d, n2, hm2, u1, u1', n3, hm3, t2, t2', e, n4, hm4, f, a2, n5, hm5, u2, u2', n6, hm6, u3, u3', n7, hm7⟩ := hsd
    (try k_unfold)
    refine wpAny_call ?_
    refine' code_def (binds := [(Str.ofString "terms", .ref l)]) ?k1 ?k2 ?k3 ?k4 ?k5 ?kA ?kF ?kK ?k6 ?k7 ?k8 ?k9 ?kB ?_ ?c2 ?c3 ?c4 ?c5
    (case kA => exact rfl)
    (case kF => exact rfl)
    (case kK => assumption)
    (case k1 => exact B)
    (case k2 => exact F)
    (case k3 => exact X)
    (case k4 => exact N)
    (case k5 => exact T)
    (case k6 => k_is)
    (case k7 => k_is)
    (case k8 => ktr_room)
    (case k9 => exact BindsTo.of_eq rfl)
    (case c5 => decide)
    (case kB => exact locs rfl)
    (case c2 => exact rfl)
    (case c3 => exact rfl)
    (case c4 => exact rfl)
    clear B X T
    intro g L' h' FG' F' N' B' X' T'
    refine no_raise ?_
    (try dsimp only)
    (try k_fold)
    k_steps
    (try dsimp only)
    k_steps
    refine to_hold ?_
    k_dflt (refine dn_notin_none (by k_asm) (by k_mem) (by assumption) (by assumption) (by walk_at "di_l") ?_)
    k_steps
    (try dsimp only)
    k_steps
    refine to_hold ?_
    by_cases hkj : k = j
    · subst hkj
      k_dflt (refine dn_notin_some (by k_asm) (by k_mem) (by assumption) (by assumption) (by walk_at "di_l") ?_)
      k_steps
      (try dsimp only)
      k_steps
      refine leaveK_ (by assumption) (by assumption) fun kF kN => ?_
      refine hret _ _ _ _ kF (news_sub kN (by walk_at "led_sub")) ⟨_, [_], _, [], rfl, rfl, by rw [Side.vars, if_pos rfl]; exact ints1 _ _, ?_⟩
      walk_at "above"
    · have hne : valueAt (stored ([] : List (Int × Value)) k (.bool true)) j = none := by rw [valueAt_stored, if_neg (Ne.symm hkj)]; rfl
      k_dflt (refine dn_notin_none (by k_asm) (by k_mem) (by assumption) (by assumption) (by walk_at "di_l") ?_)
      k_steps
      (try dsimp only)
      k_steps
      refine leaveK_ (by assumption) (by assumption) fun kF kN => ?_
      refine hret _ _ _ _ kF (news_sub kN (by walk_at "led_sub")) ⟨_, [_, _], _, [], rfl, rfl, by rw [Side.vars, if_neg hkj]; exact ints2 _ _ _ _, ?_⟩
      walk_at "above"

end PVR
section POC
theorem variables (v : Value) (sd : Side) (led : Led) (hv : ∀ k, sd ≠ .var k) (hsd : SideIn led v sd) :
    Ctr w loose mean mg mb 28 2 [v] led (ListPost (fun vs _ => IntsAre vs sd.vars) led) := by
  refine ctr_intro ?_
  k_fill
  intro dp un gd cn cs a ccd cl outer A₀ base h₀ L m sH sG sD sT sO Q E B F X N T hk hd hu hret
  refine wpAny_call ?_
  refine' code_def (binds := [(Str.ofString "term", v)]) ?k1 ?k2 ?k3 ?k4 ?k5 ?kA ?kF ?kK ?k6 ?k7 ?k8 ?k9 ?kB ?_ ?c2 ?c3 ?c4 ?c5
  (case kA => exact rfl)
  (case kF => exact rfl)
  (case kK => assumption)
  (case k1 => exact B)
  (case k2 => exact F)
  (case k3 => exact X)
  (case k4 => exact N)
  (case k5 => exact T)
  (case k6 => k_is)
  (case k7 => k_is)
  (case k8 => ktr_room)
  (case k9 => exact BindsTo.of_eq rfl)
  (case c5 => decide)
  (case kB => exact locs rfl)
  (case c2 => exact rfl)
  (case c3 => exact rfl)
  (case c4 => exact rfl)
  clear B X T
  intro g L' h' FG' F' N' B' X' T'
  refine no_raise ?_
  (try dsimp only)
  (try k_fold)
  k_steps
  refine to_hold ?_
  (rename Fr _ _ _ _ => F1)
  (rename News _ _ _ _ => N1)
  refine' ctr_use (vars_of _ v _ sd _ hv (hsd.mono fun p hp => .tail _ hp) (.head _)) ?kB F1 ?kX (N1) ?kT rfl ?hd ?hu ?_
  (case kB => exact B')
  (case kX => exact X')
  (case kT => exact T')
  (case hd => first | (dsimp only [ktrTop]; omega) | decide)
  (case hu => first | (dsimp only [ktrTop]; omega) | decide)
  clear F1 N1
  intro r led' h' tk' F' N' hz6
  (try k_fold); (try (show (let GZ : Prop := _; GZ); intro GZ))
  obtain ⟨D, vs, n, new, rfl, rfl, hi, hab⟩ := hz6
  (try k_unfold)
  k_steps
  refine leaveK_ (by assumption) (by assumption) fun kF kN => ?_
  refine hret _ _ _ _ kF kN ⟨D, vs, n, new ++ [_], rfl, by rw [List.append_assoc]; rfl, hi, ?_⟩
  rw [← List.cons_append]
  exact above_append (above_tail hab) (above_cons (allLt_of (by assumption)) above_nil)
def Side.occ : Side → Int
  | .s2 k j => if k = j then 2 else 1
  | _ => 1
theorem occurrences (v : Value) (sd : Side) (led : Led) (hv : ∀ k, sd ≠ .var k) (hsd : SideIn led v sd) :
    Ctr w loose mean mg mb 42 1 [v] led (fun r led' => ∃ D od kvs new, r = .ref D ∧ led' = (D, od) :: (new ++ led) ∧ (D == sysModules) = false ∧ od.IsDictOf (intKind PySem.Challenge.rw_sa0145_01.row.prog w) kvs ∧
      (∀ k ∈ sd.vars, ∃ t, valueAt kvs k = some (.int sd.occ t)) ∧ Above ((D, od) :: new) led) := by
  refine ctr_intro ?_
  k_fill
  intro dp un gd cn cs a ccd cl outer A₀ base h₀ L m sH sG sD sT sO Q E B F X N T hk hd hu hret
  cases sd with
  | var k => exact absurd rfl (hv k)
  | atom =>
    (try k_fold); (try (show (let GZ : Prop := _; GZ); intro GZ))
    obtain ⟨p, t, t', n', rfl, hm⟩ := hsd
    (try k_unfold)
    refine wpAny_call ?_
    refine' code_def (binds := [(Str.ofString "term", .ref p)]) ?k1 ?k2 ?k3 ?k4 ?k5 ?kA ?kF ?kK ?k6 ?k7 ?k8 ?k9 ?kB ?_ ?c2 ?c3 ?c4 ?c5
    (case kA => exact rfl)
    (case kF => exact rfl)
    (case kK => assumption)
    (case k1 => exact B)
    (case k2 => exact F)
    (case k3 => exact X)
    (case k4 => exact N)
    (case k5 => exact T)
    (case k6 => k_is)
    (case k7 => k_is)
    (case k8 => ktr_room)
    (case k9 => exact BindsTo.of_eq rfl)
    (case c5 => decide)
    (case kB => exact locs rfl)
    (case c2 => exact rfl)
    (case c3 => exact rfl)
    (case c4 => exact rfl)
    clear B X T
    intro g L' h' FG' F' N' B' X' T'
    refine no_raise ?_
    (try dsimp only)
    (try k_fold)
    k_steps
    (try dsimp only)
    k_steps
    refine leaveK_ (by assumption) (by assumption) fun kF kN => ?_
    refine hret _ _ _ _ kF (news_sub (l' := _ :: ([] ++ led)) kN (by walk_at "led_sub")) ⟨_, _, _, [], rfl, rfl, by assumption, by assumption, (fun _ h => nomatch h), ?_⟩
    walk_at "above"
  | s2 k j =>
    (try k_fold); (try (show (let GZ : Prop := _; GZ); intro GZ))
    obtain ⟨p, t, t', b, n1, hm1, a1, d, n2, hm2, u1, u1', n3, hm3, t2, t2', e, n4, hm4, f, a2, n5, hm5, u2, u2', n6, hm6, u3, u3', n7, hm7⟩ := hsd
    (try k_unfold)
    refine wpAny_call ?_
    refine' code_def (binds := [(Str.ofString "term", .ref p)]) ?k1 ?k2 ?k3 ?k4 ?k5 ?kA ?kF ?kK ?k6 ?k7 ?k8 ?k9 ?kB ?_ ?c2 ?c3 ?c4 ?c5
    (case kA => exact rfl)
    (case kF => exact rfl)
    (case kK => assumption)
    (case k1 => exact B)
    (case k2 => exact F)
    (case k3 => exact X)
    (case k4 => exact N)
    (case k5 => exact T)
    (case k6 => k_is)
    (case k7 => k_is)
    (case k8 => ktr_room)
    (case k9 => exact BindsTo.of_eq rfl)
    (case c5 => decide)
    (case kB => exact locs rfl)
    (case c2 => exact rfl)
    (case c3 => exact rfl)
    (case c4 => exact rfl)
    clear B X T
    intro g L' h' FG' F' N' B' X' T'
    refine no_raise ?_
    (try dsimp only)
    (try k_fold)
    k_steps
    (try dsimp only)
    k_steps
    refine to_hold ?_
    k_dflt (refine dn_get2_none (by k_asm) (by k_mem) (by assumption) (by assumption) (by walk_at "di_l") ?_)
    k_steps
    (try dsimp only)
    k_steps
    refine to_hold ?_
    by_cases hkj : k = j
    · subst hkj
      k_dflt (refine dn_get2_some (by k_asm) (by k_mem) (by assumption) (by assumption) (by walk_at "di_l") ?_)
      k_steps
      (try dsimp only)
      k_steps
      refine leaveK_ (by assumption) (by assumption) fun kF kN => ?_
      refine hret _ _ _ _ kF (news_sub (l' := _ :: ([] ++ led)) kN (by walk_at "led_sub")) ⟨_, _, _, [], rfl, rfl, by assumption, by assumption, ?_, ?_⟩
      · intro x hx
        rw [Side.vars, if_pos rfl] at hx
        rw [List.mem_singleton.mp hx, Side.occ, if_pos rfl]
        exact ⟨_, valueAt_stored_self _ _ _⟩
      · walk_at "above"
    · have hne : ∀ v : Value, valueAt (stored ([] : List (Int × Value)) k v) j = none := fun v => by rw [valueAt_stored, if_neg (Ne.symm hkj)]; rfl
      k_dflt (refine dn_get2_none (by k_asm) (by k_mem) (by assumption) (by assumption) (by walk_at "di_l") ?_)
      k_steps
      (try dsimp only)
      k_steps
      refine leaveK_ (by assumption) (by assumption) fun kF kN => ?_
      refine hret _ _ _ _ kF (news_sub (l' := _ :: ([] ++ led)) kN (by walk_at "led_sub")) ⟨_, _, _, [], rfl, rfl, by assumption, by assumption, ?_, ?_⟩
      · intro x hx
        rw [Side.vars, if_neg hkj] at hx
        rw [Side.occ, if_neg hkj]
        simp only [List.mem_cons, List.not_mem_nil, or_false] at hx
        rcases hx with rfl | rfl
        · rw [valueAt_stored, if_neg hkj, valueAt_stored_self]
          exact ⟨_, rfl⟩
        · exact ⟨_, valueAt_stored_self _ _ _⟩
      · walk_at "above"

end POC
section PTM
/-! Survey.terms -/
theorem add_fit {x y : Str} (h : x.length ≤ 100) (k : y.length ≤ 100) : x.length + y.length ≤ sizeLine := by rw [sizeLine_eq]; omega
local macro_rules | `(tactic| walk_at "binaryOp Add str str") => `(tactic| ((refine PyProof.Rows.add_str (hsz := add_fit (by assumption) (by decide)) ?_); intro _ _))
def sideL (place : Str) (goal chunk : Int) (l : List Info) (sd : Side) : List Info :=
  match sd with
  | .var k => meetL l k (place ++ Str.ofString "_arg") goal chunk 1
  | sd => sd.vars.foldl (fun l k => meetL l k (place ++ Str.ofString "_struct") goal chunk sd.occ) l
def termsL (place : Str) (goal chunk : Int) (l : List Info) (ss : List Side) : List Info := ss.foldl (sideL place goal chunk) l
theorem meetL_length (l : List Info) (k : Int) (first : Str) (goal chunk count : Int) : (meetL l k first goal chunk count).length ≤ l.length + 1 := by
  unfold meetL
  split <;> simp
theorem sideL_length (place : Str) (goal chunk : Int) (l : List Info) (sd : Side) : (sideL place goal chunk l sd).length ≤ l.length + 2 := by
  cases sd with
  | atom => simp [sideL, Side.vars]
  | var k => exact Nat.le_trans (meetL_length ..) (by omega)
  | s2 k j =>
    simp only [sideL, Side.vars]
    split
    · exact Nat.le_trans (meetL_length ..) (by omega)
    · exact Nat.le_trans (meetL_length ..) (Nat.add_le_add_right (meetL_length ..) 1)
theorem termsL_length (place : Str) (goal chunk : Int) : ∀ (ss : List Side) (l : List Info), (termsL place goal chunk l ss).length ≤ l.length + 2 * ss.length
  | [], l => by simp [termsL]
  | sd :: ss, l => by
    have h1 := termsL_length place goal chunk ss (sideL place goal chunk l sd)
    have h2 := sideL_length place goal chunk l sd
    simp only [termsL, List.foldl_cons, List.length_cons] at h1 ⊢
    omega
theorem take_snoc {α : Type} {l : List α} {i : Nat} {a : α} (h : l[i]? = some a) : l.take (i + 1) = l.take i ++ [a] := by
  rw [List.take_add_one, h]; rfl
theorem Sv.sub {w : World} {D : Addr} {l : List Info} {own rest rest' : Led} (h : Sv w D l own rest) (hs : ∀ p ∈ rest', p ∈ rest) : Sv w D l own rest' :=
  let ⟨od, recs, e, a, b, c, d, f⟩ := h
  ⟨od, recs, e, a, b, c, d, f.sub hs⟩
theorem Sv.apart {w : World} {D : Addr} {l : List Info} {own rest : Led} (h : Sv w D l own rest) : Apart own rest := let ⟨_, _, _, _, _, _, _, f⟩ := h; f
theorem Sv.ext {w : World} {D : Addr} {l : List Info} {own rest rest' : Led} (h : Sv w D l own rest) (k : Apart own rest') : Sv w D l own rest' :=
  let ⟨od, recs, e, a, b, c, d, _⟩ := h
  ⟨od, recs, e, a, b, c, d, k⟩
theorem ints_get2 {vs : List Value} {ns : List Int} (h : IntsAre vs ns) : ∀ {i : Nat} {v : Value}, vs[i]? = some v → ∃ k t, ns[i]? = some k ∧ v = .int k t := by
  induction h with
  | nil => intro i v e; simp at e
  | cons k t _ ih =>
    intro i v e
    cases i with
    | zero => simp at e; exact ⟨k, t, rfl, e.symm⟩
    | succ i => exact ih (by simpa using e)
theorem meets_length (first : Str) (goal chunk c : Int) : ∀ (ks : List Int) (l : List Info), (ks.foldl (fun l k => meetL l k first goal chunk c) l).length ≤ l.length + ks.length
  | [], l => by simp
  | k :: ks, l => by
    have h1 := meets_length first goal chunk c ks (meetL l k first goal chunk c)
    have h2 := meetL_length l k first goal chunk c
    simp only [List.foldl_cons, List.length_cons] at h1 ⊢
    omega
theorem side_split (sd : Side) : (∃ k, sd = .var k) ∨ ∀ k, sd ≠ .var k := by
  cases sd with
  | atom => exact .inr fun k h => by cases h
  | var k => exact .inl ⟨k, rfl⟩
  | s2 a b => exact .inr fun k h => by cases h
theorem nonvar_shape {led : Led} {v : Value} {sd : Side} (h : SideIn led v sd) (hn : ∀ k, sd ≠ .var k) : ∃ p tg t rs n, v = .ref p ∧ (p, tupO (.str tg t :: rs) n) ∈ led ∧ ¬ tg = Str.ofString "v" := by
  cases sd with
  | atom =>
    (try k_fold); (try (show (let GZ : Prop := _; GZ); intro GZ))
    obtain ⟨p, t, t', n, rfl, hm⟩ := h
    (try k_unfold)
    exact ⟨p, _, t, _, n, rfl, hm, by decide⟩
  | var k => exact absurd rfl (hn k)
  | s2 k j =>
    have h' : SideS2 led k j v := h
    cases h' with
    | mk p t t' b n1 hm1 => exact ⟨p, _, t, _, n1, rfl, hm1, by decide⟩
theorem sideL_nonvar {place : Str} {goal chunk : Int} {l : List Info} {sd : Side} (hn : ∀ k, sd ≠ .var k) : sideL place goal chunk l sd = sd.vars.foldl (fun l k => meetL l k (place ++ Str.ofString "_struct") goal chunk sd.occ) l := by
  cases sd with
  | atom => rfl
  | var k => exact absurd rfl (hn k)
  | s2 k j => rfl
theorem vars_le2 (sd : Side) : sd.vars.length ≤ 2 := by
  cases sd with
  | atom => simp [Side.vars]
  | var k => simp [Side.vars]
  | s2 k j =>
    simp only [Side.vars]
    split <;> simp
theorem terms (sx sd0 D : Addr) (hs : Int) (ts : Tok) (l : List Info) (own rest : Led) (tv : Value) (ss : List Side) (place : Str) (tp : Tok) (goal : Int) (tg : Tok) (chunk : Int) (tc : Tok)
    (hsx : (sx, instObj 192 sd0) ∈ rest) (hsd0 : (sd0, dictOf [⟨hs, .str (Str.ofString "infos") ts, .ref D⟩] 1) ∈ rest) (hS : Sv w D l own rest) (lo : (D == sysModules) = false) (hT : TermsIn rest tv ss) (hlen : l.length + 2 * ss.length ≤ 100) (hss : ss.length ≤ 90) (hpl : place.length ≤ 100) :
    Ctr w loose mean mg mb 189 4 [.ref sx, tv, .str place tp, .int goal tg, .int chunk tc] (own ++ rest)
      (fun r led' => r = .none ∧ ∃ own', led' = own' ++ rest ∧ Sv w D (termsL place goal chunk l ss) own' rest) := by
  refine ctr_intro ?_
  k_fill
  intro dp un gd cn cs a ccd cl outer A₀ base h₀ L m sH sG sD sT sO Q E B F X N T hk hd hu hret
  (try k_fold); (try (show (let GZ : Prop := _; GZ); intro GZ))
  obtain ⟨b, vs, n, rfl, hb, hss2⟩ := hT
  (try k_unfold)
  have hvl := All2.length hss2
  refine wpAny_call ?_
  refine' code_def (binds := [(Str.ofString "self", .ref sx), (Str.ofString "terms", .ref b), (Str.ofString "place", .str place tp), (Str.ofString "goal", .int goal tg), (Str.ofString "chunk", .int chunk tc)]) ?k1 ?k2 ?k3 ?k4 ?k5 ?kA ?kF ?kK ?k6 ?k7 ?k8 ?k9 ?kB ?_ ?c2 ?c3 ?c4 ?c5
  (case kA => exact rfl)
  (case kF => exact rfl)
  (case kK => assumption)
  (case k1 => exact B)
  (case k2 => exact F)
  (case k3 => exact X)
  (case k4 => exact N)
  (case k5 => exact T)
  (case k6 => k_is)
  (case k7 => k_is)
  (case k8 => ktr_room)
  (case k9 => exact BindsTo.of_eq rfl)
  (case c5 => decide)
  (case kB => exact locs rfl)
  (case c2 => exact rfl)
  (case c3 => exact rfl)
  (case c4 => exact rfl)
  clear B X T
  intro g L' h' FG' F' N' B' X' T'
  refine no_raise ?_
  (try dsimp only)
  (try k_fold)
  k_steps
  refine for_rest (n := vs.length)
    (fun i m nw => ∃ own, And6 (nw = own ++ rest) (Sv w D (termsL place goal chunk l (ss.take i)) own rest) (m (Str.ofString "self") = some (.ref sx)) (m (Str.ofString "place") = some (.str place tp)) (m (Str.ofString "goal") = some (.int goal tg)) (m (Str.ofString "chunk") = some (.int chunk tc)))
    (src_tuple rfl b vs n) F' N' rfl rfl rfl ⟨own, rfl, hS, rfl, rfl, rfl, rfl⟩ ?need ?turn ?done
  case need =>
    intro i m nw hz3 p hp
    (try (show (let GZ : Prop := _; GZ); intro GZ))
    obtain ⟨own, rfl, -⟩ := hz3
    (try k_unfold)
    rw [List.mem_singleton.mp hp]
    exact List.mem_append_right _ hb
  case done =>
    clear F' N' N
    intro m1 nw h tk hz4 F' N'
    (try k_fold); (try (show (let GZ : Prop := _; GZ); intro GZ))
    obtain ⟨own, rfl, hS, -⟩ := hz4
    (try k_unfold)
    rw [hvl, List.take_length] at hS
    k_steps
    refine leaveK_ (by assumption) (by assumption) fun kF kN => ?_
    exact hret _ _ _ _ kF kN ⟨rfl, _, rfl, hS⟩
  case turn =>
    clear F' N' N hS F
    intro i v m1 nw I oI h tk hin hv hz10 hne F' N'
    (try k_fold)
    (try (show (let GZ : Prop := wpAny _ _ _ _ _ _; GZ); intro GZ))
    obtain ⟨own, rfl, hS, m1s, m1p, m1g, m1c⟩ := hz10
    obtain ⟨sd, hsd, hside⟩ := All2.get hss2 i v hv
    have hlen2 : (termsL place goal chunk l (ss.take i)).length + 2 ≤ 100 := by
      have := termsL_length place goal chunk (ss.take i) l
      rw [List.length_take] at this
      omega
    have hnx : termsL place goal chunk l (ss.take (i + 1)) = sideL place goal chunk (termsL place goal chunk l (ss.take i)) sd := by
      rw [take_snoc hsd]
      simp [termsL]
    have hR : Sv w D (termsL place goal chunk l (ss.take i)) own ((I, oI) :: rest) := hS.ext (Apart.cons hS.apart fun p hp => hne p (List.mem_append_left _ hp))
    have hIr : ∀ p ∈ rest, p.1 ≠ I := fun p hp => hne p (List.mem_append_right _ hp)
    generalize termsL place goal chunk l (ss.take i) = cur at hS hR hlen2 hnx
    rcases side_split sd with ⟨k, rfl⟩ | hnv
    · obtain ⟨p, t, t', n', rfl, hm⟩ := hside
      k_steps
      refine to_hold ?_
      (rename Fr _ _ _ _ => F1)
      (rename News _ _ _ _ => N1)
      refine' ctr_use (meet sx sd0 D hs ts cur own ((I, oI) :: rest) k _ _ _ goal _ chunk _ 1 _ (.tail _ hsx) (.tail _ hsd0) hR lo (by omega)) ?kB F1 ?kX (news_sub N1 ?hsub) ?kT rfl ?hd ?hu ?_
      (case kB => exact B')
      (case kX => exact X')
      (case kT => exact T')
      (case hsub => walk_at "led_sub")
      (case hd => first | (dsimp only [ktrTop]; omega) | decide)
      (case hu => first | (dsimp only [ktrTop]; omega) | decide)
      clear F1 N1
      intro r led' h' tk' F' N' hz6
      (try k_fold); (try (show (let GZ : Prop := _; GZ); intro GZ))
      obtain ⟨rfl, own', rfl, hS'⟩ := hz6
      (try k_unfold)
      k_steps
      refine turn_next F' (news_sub N' (by walk_at "led_sub")) ?_ ⟨own', rfl, ?_, m1s, m1p, m1g, m1c⟩
      · exact ne_append (fun p hp => hS'.apart p hp (I, oI) (.head _)) hIr
      · rw [hnx]
        exact hS'.sub fun p hp => .tail _ hp
    · have hside0 := hside
      (try k_fold); (try (show (let GZ : Prop := _; GZ); intro GZ))
      obtain ⟨p, tgs, tt, rs, n', rfl, hm, htg⟩ := nonvar_shape hside hnv
      (try k_unfold)
      k_steps
      refine to_hold ?_
      (rename Fr _ _ _ _ => F1)
      (rename News _ _ _ _ => N1)
      refine' ctr_use (occurrences _ sd _ hnv (hside0.mono fun p hp => .tail _ (List.mem_append_right _ hp))) ?kB F1 ?kX (N1) ?kT rfl ?hd ?hu ?_
      (case kB => exact B')
      (case kX => exact X')
      (case kT => exact T')
      (case hd => first | (dsimp only [ktrTop]; omega) | decide)
      (case hu => first | (dsimp only [ktrTop]; omega) | decide)
      clear F1 N1
      intro r led' h' tk' F' N' hz6
      (try k_fold); (try (show (let GZ : Prop := _; GZ); intro GZ))
      obtain ⟨Dc, odc, kvs, new1, rfl, rfl, loc, hdc, hocc, hab1⟩ := hz6
      (try k_unfold)
      k_steps
      refine to_hold ?_
      (rename Fr _ _ _ _ => F1)
      (rename News _ _ _ _ => N1)
      refine' ctr_use (variables _ sd _ hnv (hside0.mono fun p hp => .tail _ (List.mem_append_right _ (.tail _ (List.mem_append_right _ hp))))) ?kB F1 ?kX (N1) ?kT rfl ?hd ?hu ?_
      (case kB => exact B')
      (case kX => exact X')
      (case kT => exact T')
      (case hd => first | (dsimp only [ktrTop]; omega) | decide)
      (case hu => first | (dsimp only [ktrTop]; omega) | decide)
      clear F1 N1
      intro r led' h' tk' F' N' hz6
      (try k_fold); (try (show (let GZ : Prop := _; GZ); intro GZ))
      obtain ⟨V, vs2, n2, new2, rfl, rfl, hi2, hab2⟩ := hz6
      (try k_unfold)
      k_steps
      have hvl2 := hi2.length
      have hab1' : Above ((Dc, odc) :: new1) own := above_sub hab1 fun p hp => ⟨p, .tail _ (List.mem_append_left _ hp), rfl⟩
      have hab2' : Above ((V, listOf vs2.toArray n2) :: new2) own := above_sub hab2 fun p hp => ⟨p, .tail _ (List.mem_append_right _ (.tail _ (List.mem_append_left _ hp))), rfl⟩
      have hR2 : Sv w D cur own ((V, listOf vs2.toArray n2) :: (new2 ++ ((Dc, odc) :: (new1 ++ ((I, oI) :: rest))))) := hR.ext (by
        intro p hp q hq
        rw [← List.cons_append, ← List.cons_append] at hq
        rcases List.mem_append.mp hq with hq | hq
        · exact Nat.ne_of_lt (hab2' q hq p hp)
        · rcases List.mem_append.mp hq with hq | hq
          · exact Nat.ne_of_lt (hab1' q hq p hp)
          · exact hR.apart p hp q hq)
      have hvb := vars_le2 sd
      refine for_rest (n := vs2.toArray.size)
        (fun j m nw => ∃ own, And5 (nw = own ++ ((V, listOf vs2.toArray n2) :: (new2 ++ ((Dc, odc) :: (new1 ++ ((I, oI) :: rest)))))) (Sv w D ((sd.vars.take j).foldl (fun l k => meetL l k (place ++ Str.ofString "_struct") goal chunk sd.occ) cur) own ((V, listOf vs2.toArray n2) :: (new2 ++ ((Dc, odc) :: (new1 ++ ((I, oI) :: rest)))))) (m (Str.ofString "self") = some (.ref sx) ∧ m (Str.ofString "place") = some (.str place tp) ∧ m (Str.ofString "goal") = some (.int goal tg) ∧ m (Str.ofString "chunk") = some (.int chunk tc)) (m (Str.ofString "counts") = some (.ref Dc)) (j ≤ vs2.length))
        (src_list rfl V vs2.toArray n2) F' (news_sub N' (by walk_at "led_sub")) rfl rfl rfl ⟨own, rfl, hR2, ⟨m1s, m1p, m1g, m1c⟩, rfl, Nat.zero_le _⟩ ?need2 ?turn2 ?done2
      case need2 =>
        intro i m nw hz3 p hp
        (try (show (let GZ : Prop := _; GZ); intro GZ))
        obtain ⟨own, rfl, -⟩ := hz3
        (try k_unfold)
        rw [List.mem_singleton.mp hp]
        exact List.mem_append_right _ (.head _)
      case done2 =>
        clear F' N'
        intro m2 nw h tk hz4 F' N'
        (try k_fold); (try (show (let GZ : Prop := _; GZ); intro GZ))
        obtain ⟨own', rfl, hS', ⟨m2s, m2p, m2g, m2c⟩, -⟩ := hz4
        (try k_unfold)
        rw [show vs2.toArray.size = sd.vars.length from by rw [List.size_toArray, hvl2], List.take_length, ← sideL_nonvar hnv, ← hnx] at hS'
        k_steps
        refine turn_next F' (news_sub N' (by walk_at "led_sub")) ?_ ⟨own', rfl, hS'.sub fun p hp => .tail _ (List.mem_append_right _ (.tail _ (List.mem_append_right _ (.tail _ hp)))), m2s, m2p, m2g, m2c⟩
        exact ne_append (fun p hp => hS'.apart p hp (I, oI) (.tail _ (List.mem_append_right _ (.tail _ (List.mem_append_right _ (.head _)))))) hIr
      case turn2 =>
        clear F' N'
        intro j v2 m2 nw I2 oI2 h tk hjn hv2 hz10 hne2 F' N'
        (try k_fold)
        (try (show (let GZ : Prop := wpAny _ _ _ _ _ _; GZ); intro GZ))
        obtain ⟨own', rfl, hS', ⟨m2s, m2p, m2g, m2c⟩, m2n, hj2⟩ := hz10
        (try k_fold); (try (show (let GZ : Prop := _; GZ); intro GZ))
        obtain ⟨x, tx, hx, rfl⟩ := ints_get2 hi2 (by simpa using hv2)
        (try k_unfold)
        obtain ⟨to, hxo⟩ := hocc x (List.mem_of_getElem? hx)
        have hlen3 : ((sd.vars.take j).foldl (fun l k => meetL l k (place ++ Str.ofString "_struct") goal chunk sd.occ) cur).length ≤ 100 := by
          have := meets_length (place ++ Str.ofString "_struct") goal chunk sd.occ (sd.vars.take j) cur
          rw [List.length_take] at this
          omega
        have hnx2 : (sd.vars.take (j + 1)).foldl (fun l k => meetL l k (place ++ Str.ofString "_struct") goal chunk sd.occ) cur = meetL ((sd.vars.take j).foldl (fun l k => meetL l k (place ++ Str.ofString "_struct") goal chunk sd.occ) cur) x (place ++ Str.ofString "_struct") goal chunk sd.occ := by
          rw [take_snoc hx, List.foldl_append]
          rfl
        have hR3 := hS'.ext (Apart.cons (q := (I2, oI2)) hS'.apart fun p hp => hne2 p (List.mem_append_left _ hp))
        have hIr2 : ∀ p ∈ (V, listOf vs2.toArray n2) :: (new2 ++ ((Dc, odc) :: (new1 ++ ((I, oI) :: rest)))), p.1 ≠ I2 := fun p hp => hne2 p (List.mem_append_right _ hp)
        generalize (sd.vars.take j).foldl (fun l k => meetL l k (place ++ Str.ofString "_struct") goal chunk sd.occ) cur = cur2 at hS' hR3 hlen3 hnx2
        k_steps
        refine to_hold ?_
        (rename Fr _ _ _ _ => F1)
        (rename News _ _ _ _ => N1)
        refine' ctr_use (meet sx sd0 D hs ts cur2 own' ((I2, oI2) :: (V, listOf vs2.toArray n2) :: (new2 ++ ((Dc, odc) :: (new1 ++ ((I, oI) :: rest))))) x _ _ _ goal _ chunk _ sd.occ _ (.tail _ (.tail _ (List.mem_append_right _ (.tail _ (List.mem_append_right _ (.tail _ hsx)))))) (.tail _ (.tail _ (List.mem_append_right _ (.tail _ (List.mem_append_right _ (.tail _ hsd0)))))) hR3 lo hlen3) ?kB F1 ?kX (news_sub N1 ?hsub) ?kT rfl ?hd ?hu ?_
        (case kB => exact B')
        (case kX => exact X')
        (case kT => exact T')
        (case hsub => walk_at "led_sub")
        (case hd => first | (dsimp only [ktrTop]; omega) | decide)
        (case hu => first | (dsimp only [ktrTop]; omega) | decide)
        clear F1 N1
        intro r led' h' tk' F' N' hz6
        (try k_fold); (try (show (let GZ : Prop := _; GZ); intro GZ))
        obtain ⟨rfl, own'', rfl, hS''⟩ := hz6
        (try k_unfold)
        k_steps
        refine turn_next F' (news_sub N' (by walk_at "led_sub")) ?_ ⟨own'', rfl, ?_, ⟨m2s, m2p, m2g, m2c⟩, m2n, ?_⟩
        · exact ne_append (fun p hp => hS''.apart p hp (I2, oI2) (.head _)) hIr2
        · rw [hnx2]
          exact hS''.sub fun p hp => .tail _ hp
        · have : j < vs2.toArray.size := hjn
          rw [List.size_toArray] at this
          exact this

end PTM
section PKO
/-! kind_of, chunk_numbers -/
def kindL (i : Info) : Str := if i.count = 1 then Str.ofString "void" else if i.first_chunk < i.last_chunk then Str.ofString "perm" else Str.ofString "temp"
theorem kind_of (x dx : Addr) (o : Obj) (i : Info) (led : Led) (hx : (x, instObj 94 dx) ∈ led) (hdx : (dx, o) ∈ led) (ho : InfoObj w o i) :
    Ctr w loose mean mg mb 203 1 [.ref x] led (fun r led' => led' = led ∧ ∃ t, r = .str (kindL i) t) := by
  refine ctr_intro ?_
  k_fill
  intro dp un gd cn cs a ccd cl outer A₀ base h₀ L m sH sG sD sT sO Q E B F X N T hk hd hu hret
  (try k_fold); (try (show (let GZ : Prop := _; GZ); intro GZ))
  obtain ⟨t0, t1, t2, t3, t4, t5, t6, t7, t8, u0, u1, u2, u3, u5, u6, u7, u8⟩ := ho
  (try k_unfold)
  by_cases h1 : i.count = 1
  · skip
    refine wpAny_call ?_
    refine' code_def (binds := [(Str.ofString "info", .ref x)]) ?k1 ?k2 ?k3 ?k4 ?k5 ?kA ?kF ?kK ?k6 ?k7 ?k8 ?k9 ?kB ?_ ?c2 ?c3 ?c4 ?c5
    (case kA => exact rfl)
    (case kF => exact rfl)
    (case kK => assumption)
    (case k1 => exact B)
    (case k2 => exact F)
    (case k3 => exact X)
    (case k4 => exact N)
    (case k5 => exact T)
    (case k6 => k_is)
    (case k7 => k_is)
    (case k8 => ktr_room)
    (case k9 => exact BindsTo.of_eq rfl)
    (case c5 => decide)
    (case kB => exact locs rfl)
    (case c2 => exact rfl)
    (case c3 => exact rfl)
    (case c4 => exact rfl)
    clear B X T
    intro g L' h' FG' F' N' B' X' T'
    refine no_raise ?_
    (try dsimp only)
    (try k_fold)
    k_steps
    refine leaveK_ (by assumption) (by assumption) fun kF kN => ?_
    exact hret _ _ _ _ kF kN ⟨rfl, _, by rw [kindL, if_pos h1]⟩
  by_cases h2 : i.first_chunk < i.last_chunk
  · skip
    refine wpAny_call ?_
    refine' code_def (binds := [(Str.ofString "info", .ref x)]) ?k1 ?k2 ?k3 ?k4 ?k5 ?kA ?kF ?kK ?k6 ?k7 ?k8 ?k9 ?kB ?_ ?c2 ?c3 ?c4 ?c5
    (case kA => exact rfl)
    (case kF => exact rfl)
    (case kK => assumption)
    (case k1 => exact B)
    (case k2 => exact F)
    (case k3 => exact X)
    (case k4 => exact N)
    (case k5 => exact T)
    (case k6 => k_is)
    (case k7 => k_is)
    (case k8 => ktr_room)
    (case k9 => exact BindsTo.of_eq rfl)
    (case c5 => decide)
    (case kB => exact locs rfl)
    (case c2 => exact rfl)
    (case c3 => exact rfl)
    (case c4 => exact rfl)
    clear B X T
    intro g L' h' FG' F' N' B' X' T'
    refine no_raise ?_
    (try dsimp only)
    (try k_fold)
    k_steps
    refine leaveK_ (by assumption) (by assumption) fun kF kN => ?_
    exact hret _ _ _ _ kF kN ⟨rfl, _, by rw [kindL, if_neg h1, if_pos h2]⟩
  · skip
    refine wpAny_call ?_
    refine' code_def (binds := [(Str.ofString "info", .ref x)]) ?k1 ?k2 ?k3 ?k4 ?k5 ?kA ?kF ?kK ?k6 ?k7 ?k8 ?k9 ?kB ?_ ?c2 ?c3 ?c4 ?c5
    (case kA => exact rfl)
    (case kF => exact rfl)
    (case kK => assumption)
    (case k1 => exact B)
    (case k2 => exact F)
    (case k3 => exact X)
    (case k4 => exact N)
    (case k5 => exact T)
    (case k6 => k_is)
    (case k7 => k_is)
    (case k8 => ktr_room)
    (case k9 => exact BindsTo.of_eq rfl)
    (case c5 => decide)
    (case kB => exact locs rfl)
    (case c2 => exact rfl)
    (case c3 => exact rfl)
    (case c4 => exact rfl)
    clear B X T
    intro g L' h' FG' F' N' B' X' T'
    refine no_raise ?_
    (try dsimp only)
    (try k_fold)
    k_steps
    refine leaveK_ (by assumption) (by assumption) fun kF kN => ?_
    exact hret _ _ _ _ kF kN ⟨rfl, _, by rw [kindL, if_neg h1, if_neg h2]⟩
def Goal.isCall : Goal → Bool
  | .call _ => true
  | _ => false
def chunkStep (c : Int) (g : Goal) : Int := if g.isCall then c + 1 else c
def chunksL : Int → List Goal → List Int
  | _, [] => []
  | c, g :: gs => c :: chunksL (chunkStep c g) gs
theorem chunksL_snoc : ∀ (gs : List Goal) (c : Int) (g : Goal), chunksL c (gs ++ [g]) = chunksL c gs ++ [gs.foldl chunkStep c]
  | [], c, g => rfl
  | g0 :: gs, c, g => by rw [List.cons_append, chunksL, chunksL_snoc gs, chunksL, List.foldl_cons, List.cons_append]
theorem goal_shape {led : Led} {v : Value} {g : Goal} (h : GoalIn led v g) : ∃ p hd t tl n, v = .ref p ∧ (p, tupO (.str hd t :: tl) n) ∈ led ∧ (g.isCall = decide (hd = Str.ofString "call")) := by
  cases g with
  | mark => obtain ⟨p, t, t', n, rfl, hm⟩ := h; exact ⟨p, _, t, _, n, rfl, hm, rfl⟩
  | cutto => obtain ⟨p, t, t', n, rfl, hm⟩ := h; exact ⟨p, _, t, _, n, rfl, hm, rfl⟩
  | fail => obtain ⟨p, t, n, rfl, hm⟩ := h; exact ⟨p, _, t, _, n, rfl, hm, rfl⟩
  | unify a b => obtain ⟨p, t, v1, v2, n, rfl, hm, -⟩ := h; exact ⟨p, _, t, _, n, rfl, hm, rfl⟩
  | call ss => obtain ⟨p, t, t', b, n, vs, n', rfl, hm, -⟩ := h; exact ⟨p, _, t, _, n, rfl, hm, rfl⟩
  | builtin ss => obtain ⟨p, t, t', b, n, vs, n', rfl, hm, -⟩ := h; exact ⟨p, _, t, _, n, rfl, hm, rfl⟩
theorem chunk_numbers (gl : Addr) (gvs : List Value) (gn : Nat) (gs : List Goal) (led : Led) (hgl : (gl, listOf gvs.toArray gn) ∈ led) (hg : All2 (GoalIn led) gvs gs) (hlen : gs.length ≤ 90) :
    Ctr w loose mean mg mb 161 1 [.ref gl] led (fun r led' => ∃ C vs n, r = .ref C ∧ led' = (C, listOf vs.toArray n) :: led ∧ IntsAre vs (chunksL 0 gs) ∧ ∀ p ∈ led, p.1 < C) := by
  refine ctr_intro ?_
  k_fill
  intro dp un gd cn cs a ccd cl outer A₀ base h₀ L m sH sG sD sT sO Q E B F X N T hk hd hu hret
  refine wpAny_call ?_
  refine' code_def (binds := [(Str.ofString "goals", .ref gl)]) ?k1 ?k2 ?k3 ?k4 ?k5 ?kA ?kF ?kK ?k6 ?k7 ?k8 ?k9 ?kB ?_ ?c2 ?c3 ?c4 ?c5
  (case kA => exact rfl)
  (case kF => exact rfl)
  (case kK => assumption)
  (case k1 => exact B)
  (case k2 => exact F)
  (case k3 => exact X)
  (case k4 => exact N)
  (case k5 => exact T)
  (case k6 => k_is)
  (case k7 => k_is)
  (case k8 => ktr_room)
  (case k9 => exact BindsTo.of_eq rfl)
  (case c5 => decide)
  (case kB => exact locs rfl)
  (case c2 => exact rfl)
  (case c3 => exact rfl)
  (case c4 => exact rfl)
  clear B X T
  intro g L' h' FG' F' N' B' X' T'
  refine no_raise ?_
  (try dsimp only)
  (try k_fold)
  k_steps
  rename_i C hA lC hB hC F' N'
  refine for_rest (n := gvs.toArray.size)
    (fun i m nw => ∃ vs2 n2 c t, And8 (nw = (C, listOf vs2.toArray n2) :: led) (IntsAre vs2 (chunksL 0 (gs.take i))) (vs2.length = i) (m (Str.ofString "chunks") = some (.ref C)) (m (Str.ofString "chunk") = some (.int c t)) (c = (gs.take i).foldl chunkStep 0) (c ≤ i) (0 ≤ c))
    (src_list rfl gl gvs.toArray gn) F' N' rfl rfl rfl ⟨[], _, 0, _, rfl, .nil, rfl, rfl, rfl, rfl, Int.le_refl _, Int.le_refl _⟩ ?need ?turn ?done
  case need =>
    intro i m nw hz3 p hp
    (try (show (let GZ : Prop := _; GZ); intro GZ))
    obtain ⟨vs2, n2, c, t, rfl, -⟩ := hz3
    (try k_unfold)
    rw [List.mem_singleton.mp hp]
    exact .tail _ hgl
  case done =>
    clear F' N' N F
    intro m1 nw h tk hz4 F' N'
    (try k_fold); (try (show (let GZ : Prop := _; GZ); intro GZ))
    obtain ⟨vs2, n2, c, t, rfl, hi, hl, m1c, -⟩ := hz4
    (try k_unfold)
    rw [show gvs.toArray.size = gs.length from by rw [List.size_toArray, hg.length], List.take_length] at hi
    k_steps
    refine leaveK_ (by assumption) (by assumption) fun kF kN => ?_
    exact hret _ _ _ _ kF kN ⟨_, _, _, rfl, rfl, hi, lC⟩
  case turn =>
    clear F' N' N F
    intro i v m1 nw I oI h tk hin hv hz10 hne F' N'
    (try k_fold)
    (try (show (let GZ : Prop := wpAny _ _ _ _ _ _; GZ); intro GZ))
    obtain ⟨vs2, n2, c, t, rfl, hi, hl, m1c, m1k, hc, hci, hc0⟩ := hz10
    have hin' : i < gvs.length := by rw [List.size_toArray] at hin; exact hin
    have hgl' := hg.length
    obtain ⟨g0, hg0, hgi⟩ := All2.get hg i v (by simpa using hv)
    have hn1 : chunksL 0 (gs.take (i + 1)) = chunksL 0 (gs.take i) ++ [c] := by rw [take_snoc hg0, chunksL_snoc, ← hc]
    have hn2 : (gs.take (i + 1)).foldl chunkStep 0 = chunkStep c g0 := by
      rw [take_snoc hg0, List.foldl_append, ← hc]
      rfl
    have hCI : @Ne Nat C I := hne (C, listOf vs2.toArray n2) (.head _)
    have hne' : ∀ n' vs', ∀ p ∈ (C, listOf (List.toArray vs') n') :: led, p.1 ≠ I := fun n' vs' => ne_cons hCI fun p hp => hne p (.tail _ hp)
    (try k_fold); (try (show (let GZ : Prop := _; GZ); intro GZ))
    obtain ⟨p, hd0, tg0, tl0, n, rfl, hm, hcall⟩ := goal_shape hgi
    (try k_unfold)
    by_cases hhd : hd0 = Str.ofString "call"
    · have hic : g0.isCall = true := by rw [hcall]; exact decide_eq_true hhd
      subst hhd
      k_steps
      (rename Fr _ _ _ _ => F9; rename News _ _ _ _ => N9)
      refine turn_next F9 N9 (hne' _ _) ⟨_, _, c + 1, _, rfl, ?_, by simp [hl], m1c, rfl, ?_, by show c + 1 ≤ ((i + 1 : Nat) : Int); omega, by omega⟩
      · rw [hn1]
        exact ints_snoc hi _ _
      · rw [hn2, chunkStep, if_pos hic]
    · have hic : g0.isCall = false := by rw [hcall]; exact decide_eq_false hhd
      k_steps
      (rename Fr _ _ _ _ => F9; rename News _ _ _ _ => N9)
      refine turn_next F9 N9 (hne' _ _) ⟨_, _, c, _, rfl, ?_, by simp [hl], m1c, m1k, ?_, by show c ≤ ((i + 1 : Nat) : Int); omega, hc0⟩
      · rw [hn1]
        exact ints_snoc hi _ _
      · rw [hn2, chunkStep, if_neg (by rw [hic]; exact Bool.false_ne_true)]

end PKO
section PSO
/-! slot_order -/
section
variable {prog : Program} {w : World} {A : Around} {E : Value → Shared → Prop} {s : Shared} {h₀ : Heap} {L : Addr} {m : Str → Option Value}
theorem getD_of_get {ns : List Int} {a : Nat} {x : Int} (h : ns[a]? = some x) : ns.getD a 0 = x := by rw [List.getD_eq_getElem?_getD, h]; rfl
theorem li_getItem {l : Addr} {vs : List Value} {ns : List Int} {n a : Nat} {x j : Int} {t : Tok} {news : Led} {Q : Value → Shared → Prop} (N : News h₀ L s.heap news) (hp : (l, listOf vs.toArray n) ∈ news) (hi : IntsAre vs ns) (hx : ns[a]? = some x) (hj : j = (a : Int)) (hz : ns.length ≤ 5000)
    (h : ∀ u, Q (.int x u) s) : wpAny (model prog w) A (getItem (.ref l) (.int j t)) Q E s := by
  subst hj
  have ha := (List.getElem?_eq_some_iff.mp hx).1
  exact getItem_intsK ⟨_, (N _ hp).1, rfl, n, rfl⟩ hi (by omega) (by omega) (by omega) fun u => by rw [Int.toNat_natCast, getD_of_get hx]; exact h u
theorem li_item {value slice : PySem.Expr} {l : Addr} {vs : List Value} {ns : List Int} {n a : Nat} {x j : Int} {t : Tok} {news : Led} {Q : Value → Shared → Prop} (N : News h₀ L s.heap news) (hp : (l, listOf vs.toArray n) ∈ news) (hi : IntsAre vs ns) (hx : ns[a]? = some x) (hj : j = (a : Int)) (hz : ns.length ≤ 5000)
    (h : ∀ u, Q (.int x u) s) (hs : subscripted slice false (.ref l) (.int j t) = operate [.ref l, .int j t] (getItem (.ref l) (.int j t)) := by with_unfolding_all rfl) : wpAny (model prog w) A (subscriptTail value slice (.ref l) (.int j t)) Q E s := by
  subst hj
  have ha := (List.getElem?_eq_some_iff.mp hx).1
  exact item_anyK ⟨_, (N _ hp).1, rfl, n, rfl⟩ hi (by omega) (by omega) (by omega) (fun u => by rw [Int.toNat_natCast, getD_of_get hx]; exact h u) hs
theorem insert_I {D : Addr} {vs : List Value} {n a : Nat} {j : Int} {t : Tok} {y : Value} {news news' : Led} {Q : Value → Shared → Prop} (F : Fr h₀ L s.heap m) (N : News h₀ L s.heap news) (hj : j = (a : Int)) (ha : a ≤ vs.length) (hz : vs.length ≤ 1000)
    (U : Upd D (listOf vs.toArray n) (listOf (vs.take a ++ y :: vs.drop a).toArray (n + 1)) news news') (h : ∀ h', Fr h₀ L h' m → News h₀ L h' news' → Q .none { s with heap := h' }) :
    wpAny (model prog w) A (call (.builtin "list.insert") [.ref D, .int j t, y]) Q E s := by
  subst hj
  refine kl_insert F N (by simp [Builtin.List.listFitsIndex]; omega) ?_ U (by rw [sizeLine_eq]; simpa using by omega) h
  show kl_ins vs _ y = _
  unfold kl_ins
  rw [if_neg (by omega), Int.toNat_natCast, Nat.min_eq_left ha]
end
theorem ints_take {vs : List Value} {ns : List Int} (h : IntsAre vs ns) : ∀ a : Nat, IntsAre (vs.take a) (ns.take a) := by
  induction h with
  | nil => intro a; simp only [List.take_nil]; exact .nil
  | cons k t _ ih =>
    intro a
    cases a with
    | zero => exact .nil
    | succ a => exact .cons k t (ih a)
theorem ints_drop {vs : List Value} {ns : List Int} (h : IntsAre vs ns) : ∀ a : Nat, IntsAre (vs.drop a) (ns.drop a) := by
  induction h with
  | nil => intro a; simp only [List.drop_nil]; exact .nil
  | cons k t h ih =>
    intro a
    cases a with
    | zero => exact .cons k t h
    | succ a => exact ih a
def infoAt (l : List Info) (k : Int) : Option Info := l.find? (fun i => i.var = k)
def lgAt (l : List Info) (k : Int) : Int := match infoAt l k with | some i => i.last_goal | none => 0
def permAt (l : List Info) (k : Int) : Bool := match infoAt l k with | some i => i.kind == Str.ofString "perm" | none => false
def scan (l : List Info) (g : Int) (ord : List Int) : Nat → Nat
  | 0 => 0
  | a + 1 => if lgAt l (ord.getD a 0) < g then scan l g ord a else a + 1
theorem scan_le (l : List Info) (g : Int) (ord : List Int) : ∀ a, scan l g ord a ≤ a
  | 0 => Nat.le_refl _
  | a + 1 => by
    rw [scan]
    split
    · exact Nat.le_succ_of_le (scan_le l g ord a)
    · exact Nat.le_refl _
def ordIns (l : List Info) (ord : List Int) (k : Int) : List Int :=
  if permAt l k then ord.take (scan l (lgAt l k) ord ord.length) ++ k :: ord.drop (scan l (lgAt l k) ord ord.length) else ord
def orderK (l : List Info) (ks : List Int) : List Int := ks.foldl (ordIns l) []
theorem ordIns_mem {l : List Info} {ord : List Int} {k x : Int} (h : x ∈ ordIns l ord k) : x ∈ ord ∨ x = k := by
  unfold ordIns at h
  split at h
  · rcases List.mem_append.mp h with h | h
    · exact .inl (List.mem_of_mem_take h)
    · rcases List.mem_cons.mp h with rfl | h
      · exact .inr rfl
      · exact .inl (List.mem_of_mem_drop h)
  · exact .inl h
theorem ordIns_length (l : List Info) (ord : List Int) (k : Int) : (ordIns l ord k).length ≤ ord.length + 1 := by
  unfold ordIns
  split
  · rw [List.length_append, List.length_cons, List.length_take, List.length_drop]
    omega
  · exact Nat.le_succ _
/-- what is known of a variable of the survey -/
theorem orderK_length (l : List Info) : ∀ (ks : List Int) (ord : List Int), (ks.foldl (ordIns l) ord).length ≤ ord.length + ks.length
  | [], ord => by simp
  | k :: ks, ord => by
    have h1 := orderK_length l ks (ordIns l ord k)
    have h2 := ordIns_length l ord k
    simp only [List.foldl_cons, List.length_cons] at h1 ⊢
    omega
theorem orderK_mem (l : List Info) : ∀ (ks : List Int) (ord : List Int) {x : Int}, x ∈ ks.foldl (ordIns l) ord → x ∈ ord ∨ x ∈ ks
  | [], ord, x, h => .inl h
  | k :: ks, ord, x, h => by
    rcases orderK_mem l ks (ordIns l ord k) h with h | h
    · exact (ordIns_mem h).elim .inl fun e => .inr (by simp [e])
    · exact .inr (.tail _ h)
inductive LookAt (w : World) (own : Led) (l : List Info) (kvs : List (Int × Value)) (k : Int) : Prop
  | mk (x dx : Addr) (o : Obj) (i : Info) (hv : valueAt kvs k = some (.ref x)) (hx : (x, instObj 94 dx) ∈ own) (hd : (dx, o) ∈ own) (ho : InfoObj w o i) (hi : infoAt l k = some i) : LookAt w own l kvs k
theorem Sv.look {w : World} {D : Addr} {l : List Info} {own rest : Led} (h : Sv w D l own rest) : ∃ od kvs, (D, od) ∈ own ∧ od.IsDictOf (intKind PySem.Challenge.rw_sa0145_01.row.prog w) kvs ∧ kvs.map (·.1) = l.map (·.var) ∧
    ∀ k ∈ l.map (·.var), LookAt w own l kvs k := by
  (try k_fold); (try (show (let GZ : Prop := _; GZ); intro GZ))
  obtain ⟨od, recs, rfl, hd, hi, rfl, hn, ha⟩ := h
  (try k_unfold)
  refine ⟨od, kvsOf recs, .head _, hd, by simp [kvsOf], fun k hk => ?_⟩
  obtain ⟨i, hi', rfl⟩ := List.mem_map.mp hk
  obtain ⟨r, hr, rfl⟩ := List.mem_map.mp hi'
  obtain ⟨pre, post, rfl⟩ := List.append_of_mem hr
  have hkn := dict_nodup hd
  have hv : valueAt (kvsOf (pre ++ r :: post)) r.i.var = some (.ref r.x) := by
    refine valueAt_of_get hkn (i := pre.length) ?_
    simp [kvsOf]
  refine ⟨r.x, r.dx, r.o, r.i, hv, ?_, ?_, hi r hr, ?_⟩
  · rw [recsLed_append, recsLed]; simp
  · rw [recsLed_append, recsLed]; simp
  · have hnot : ∀ q ∈ pre, q.i.var ≠ r.i.var := by
      intro q hq e
      rw [kvsOf, List.map_append, List.map_append, List.nodup_append] at hkn
      refine hkn.2.2 q.i.var ?_ r.i.var ?_ e
      · exact List.mem_map.mpr ⟨(q.i.var, .ref q.x), List.mem_map.mpr ⟨q, hq, rfl⟩, rfl⟩
      · simp
    unfold infoAt
    rw [List.map_append, List.find?_append, List.find?_eq_none.mpr]
    · simp
    · intro i hi'
      obtain ⟨q, hq, rfl⟩ := List.mem_map.mp hi'
      simp [hnot q hq]
local macro_rules | `(tactic| walk_at "call builtin:sorted") => `(tactic| (refine hold_of ?_))
local macro_rules | `(tactic| walk_at "exec While") => `(tactic| (refine hold_of ?_))
local macro_rules | `(tactic| walk_at "getItem ref int") => `(tactic| (k_dflt (refine li_getItem ‹_› (by k_mem) ‹_› ‹_› (by first | rfl | omega) (by omega) ?_); intro _))
local macro_rules | `(tactic| walk_at "subscriptTail") => `(tactic| (k_dflt (refine li_item ‹_› (by k_mem) ‹_› ‹_› (by first | rfl | omega) (by omega) ?_); intro _))
theorem slot_order (D : Addr) (l : List Info) (own rest : Led) (hS : Sv w D l own rest) (lo : (D == sysModules) = false) (hlen : l.length < 64) :
    Ctr w loose mean mg mb 210 1 [.ref D] (own ++ rest)
      (fun r led' => ∃ O vs n new ks, r = .ref O ∧ led' = (O, listOf vs.toArray n) :: (new ++ (own ++ rest)) ∧ ks.Perm (l.map (·.var)) ∧ ks.Pairwise (· ≤ ·) ∧ IntsAre vs (orderK l ks) ∧ Above ((O, listOf vs.toArray n) :: new) (own ++ rest)) := by
  refine ctr_intro ?_
  k_fill
  intro dp un gd cn cs a ccd cl outer A₀ base h₀ L m sH sG sD sT sO Q E B F X N T hk hd hu hret
  (try k_fold); (try (show (let GZ : Prop := _; GZ); intro GZ))
  obtain ⟨od, kvs, hDo, hdd, hkv, look⟩ := hS.look
  (try k_unfold)
  have hkl : kvs.length = l.length := by have := congrArg List.length hkv; simpa using this
  refine wpAny_call ?_
  refine' code_def (binds := [(Str.ofString "infos", .ref D)]) ?k1 ?k2 ?k3 ?k4 ?k5 ?kA ?kF ?kK ?k6 ?k7 ?k8 ?k9 ?kB ?_ ?c2 ?c3 ?c4 ?c5
  (case kA => exact rfl)
  (case kF => exact rfl)
  (case kK => assumption)
  (case k1 => exact B)
  (case k2 => exact F)
  (case k3 => exact X)
  (case k4 => exact N)
  (case k5 => exact T)
  (case k6 => k_is)
  (case k7 => k_is)
  (case k8 => ktr_room)
  (case k9 => exact BindsTo.of_eq rfl)
  (case c5 => decide)
  (case kB => exact locs rfl)
  (case c2 => exact rfl)
  (case c3 => exact rfl)
  (case c4 => exact rfl)
  clear B X T
  intro g L' h' FG' F' N' B' X' T'
  refine no_raise ?_
  (try dsimp only)
  (try k_fold)
  k_steps
  rename_i O hA lO hB F0 N0
  refine to_hold ?_
  refine sorted_dict_K rfl F0 N0 (.tail _ (List.mem_append_left _ hDo)) hdd lo (by omega) fun S vsk ks c h' tk' F' N' lS hik hperm hpw => ?_
  clear F0 N0 F N
  rw [hkv] at hperm
  have hkslen : ks.length < 64 := by rw [hperm.length_eq]; simpa using hlen
  have hvsk := hik.length
  k_steps
  refine for_rest (n := vsk.toArray.size)
    (fun i m nw => ∃ vsO nO, And4 (nw = (O, listOf vsO.toArray nO) :: (S, listOf vsk.toArray c) :: (own ++ rest)) (IntsAre vsO (orderK l (ks.take i))) (m (Str.ofString "infos") = some (.ref D)) (m (Str.ofString "order") = some (.ref O)))
    (src_list rfl S vsk.toArray c) F' (news_sub N' (by walk_at "led_sub")) rfl rfl rfl ⟨[], 0, rfl, .nil, rfl, rfl⟩ ?need ?turn ?done
  case need =>
    intro i m nw hz3 p hp
    (try (show (let GZ : Prop := _; GZ); intro GZ))
    obtain ⟨vsO, nO, rfl, -⟩ := hz3
    (try k_unfold)
    rw [List.mem_singleton.mp hp]
    exact .tail _ (.head _)
  case done =>
    clear F' N'
    intro m1 nw h tk hz4 F' N'
    (try k_fold); (try (show (let GZ : Prop := _; GZ); intro GZ))
    obtain ⟨vsO, nO, rfl, hi, m1i, m1o⟩ := hz4
    (try k_unfold)
    rw [show vsk.toArray.size = ks.length from by rw [List.size_toArray, hvsk], List.take_length] at hi
    k_steps
    refine leaveK_ (by assumption) (by assumption) fun kF kN => ?_
    refine hret _ _ _ _ kF kN ⟨O, vsO, nO, [_], ks, rfl, rfl, hperm, hpw, hi, ?_⟩
    exact above_cons (allLt_of lO) (above_cons (allLt_of fun p hp => lS p (.tail _ hp)) above_nil)
  case turn =>
    clear F' N'
    intro i v m1 nw I oI h tk hin hv hz10 hne F' N'
    (try k_fold)
    (try (show (let GZ : Prop := wpAny _ _ _ _ _ _; GZ); intro GZ))
    obtain ⟨vsO, nO, rfl, hiO, m1i, m1o⟩ := hz10
    (try k_fold); (try (show (let GZ : Prop := _; GZ); intro GZ))
    obtain ⟨k, tk0, hk, rfl⟩ := ints_get2 hik (by simpa using hv)
    (try k_unfold)
    have hkm : k ∈ l.map (·.var) := hperm.mem_iff.mp (List.mem_of_getElem? hk)
    (try k_fold); (try (show (let GZ : Prop := _; GZ); intro GZ))
    obtain ⟨x, dx, o, inf, hvx, hxo, hdo, ho, hia⟩ := look k hkm
    (try k_unfold)
    have hOlen : (orderK l (ks.take i)).length ≤ 64 := by
      have := orderK_length l (ks.take i) []
      rw [List.length_take] at this
      simp only [List.length_nil] at this
      unfold orderK
      omega
    have hOmem : ∀ y ∈ orderK l (ks.take i), y ∈ l.map (·.var) := by
      intro y hy
      rcases orderK_mem l (ks.take i) [] hy with h | h
      · cases h
      · exact hperm.mem_iff.mp (List.mem_of_mem_take h)
    have hnx : orderK l (ks.take (i + 1)) = ordIns l (orderK l (ks.take i)) k := by
      rw [take_snoc hk]
      simp [orderK]
    generalize orderK l (ks.take i) = ord at hiO hOlen hOmem hnx
    have hOI : @Ne Nat O I := hne (O, listOf vsO.toArray nO) (.head _)
    have hvO := hiO.length
    have hOoff : ∀ p ∈ (S, listOf vsk.toArray c) :: (own ++ rest), p.1 ≠ O := ne_cons (Nat.ne_of_gt (lS (O, listOf #[] 0) (.head _))) (allLt_ne' lO)
    have hne' : ∀ n' vs', ∀ p ∈ (O, listOf (List.toArray vs') n') :: (S, listOf vsk.toArray c) :: (own ++ rest), p.1 ≠ I := fun n' vs' => ne_cons hOI fun p hp => hne p (.tail _ hp)
    (try k_fold)
    by_cases hkind : inf.kind = Str.ofString "perm"
    · have hpa : permAt l k = true := by unfold permAt; rw [hia]; simp [hkind]
      have hlg : lgAt l k = inf.last_goal := by unfold lgAt; rw [hia]
      (try k_fold); (try (show (let GZ : Prop := _; GZ); intro GZ))
      obtain ⟨t0, t1, t2, t3, t4, t5, t6, t7, t8, u0, u1, u2, u3, u5, u6, u7, u8⟩ := ho
      (try k_unfold)
      rw [hkind] at hdo
      k_steps
      refine to_hold ?_
      refine whl_start 0 ?_
      (rename Fr _ _ _ _ => F9; rename News _ _ _ _ => N9)
      refine while_rule (fun a m nw => ∃ ta, And8 (nw = (I, oI) :: (O, listOf vsO.toArray nO) :: (S, listOf vsk.toArray c) :: (own ++ rest)) (m (Str.ofString "at") = some (.int (a : Int) ta)) (m (Str.ofString "infos") = some (.ref D)) (m (Str.ofString "order") = some (.ref O)) (m (Str.ofString "info") = some (.ref x)) (m (Str.ofString "k") = some (.int k tk0)) (a ≤ ord.length) (scan l inf.last_goal ord ord.length = scan l inf.last_goal ord a)) ?turn2 ord.length _ _ _ _ _ ?hJ F9 N9
      case hJ => exact ⟨_, rfl, rfl, m1i, m1o, rfl, rfl, Nat.le_refl _, rfl⟩
      clear F9 N9
      intro a m2 nw h tk hz5 F' N'
      (try k_fold); (try (show (let GZ : Prop := _; GZ); intro GZ))
      obtain ⟨ta, rfl, m2a, m2i, m2o, m2f, m2k, ha, m2z⟩ := hz5
      (try k_unfold)
      cases a with
      | zero =>
        k_steps
        (rename Fr _ _ _ _ => F9; rename News _ _ _ _ => N9)
        refine insert_I (a := 0) F9 N9 rfl (by omega) (by omega) (Upd.tail (Ne.symm hOI) (Upd.head hOoff)) fun h' F8 N8 => ?_
        clear F9 N9
        k_steps
        (rename Fr _ _ _ _ => F9; rename News _ _ _ _ => N9)
        refine turn_next F9 N9 (hne' _ _) ⟨_, _, rfl, ?_, m2i, m2o⟩
        rw [hnx, ordIns, if_pos hpa, hlg, m2z, scan]
        exact (ints_take hiO _).append (.cons _ _ (ints_drop hiO _))
      | succ a =>
        have hag : ord[a]? = some (ord.getD a 0) := by
          rw [List.getD_eq_getElem?_getD, List.getElem?_eq_getElem (by omega)]; rfl
        (try k_fold); (try (show (let GZ : Prop := _; GZ); intro GZ))
        obtain ⟨x2, dx2, o2, inf2, hvx2, hxo2, hdo2, ho2, hia2⟩ := look (ord.getD a 0) (hOmem _ (List.mem_of_getElem? hag))
        (try k_unfold)
        have hlg2 : lgAt l (ord.getD a 0) = inf2.last_goal := by unfold lgAt; rw [hia2]
        (try k_fold); (try (show (let GZ : Prop := _; GZ); intro GZ))
        obtain ⟨t0', t1', t2', t3', t4', t5', t6', t7', t8', u0', u1', u2', u3', u5', u6', u7', u8'⟩ := ho2
        (try k_unfold)
        have hvx3 : valueAt kvs (ord.getD (((a + 1 : Nat) : Int) - 1).toNat 0) = some (.ref x2) := by
          rw [show (((a + 1 : Nat) : Int) - 1).toNat = a from by omega]
          exact hvx2
        clear hvx2
        by_cases hlt : inf2.last_goal < inf.last_goal
        · k_steps
          (rename Fr _ _ _ _ => F9; rename News _ _ _ _ => N9)
          exact wh_next a F9 N9 (Nat.lt_succ_self a) ⟨_, rfl, by first | rfl | (show some (Value.int _ _) = some (Value.int _ _); congr 2; omega), m2i, m2o, m2f, m2k, by omega, by rw [m2z, scan, if_pos (by rw [hlg2]; exact hlt)]⟩
        · k_steps
          (rename Fr _ _ _ _ => F9; rename News _ _ _ _ => N9)
          refine insert_I (a := a + 1) F9 N9 rfl (by omega) (by omega) (Upd.tail (Ne.symm hOI) (Upd.head hOoff)) fun h' F8 N8 => ?_
          clear F9 N9
          k_steps
          (rename Fr _ _ _ _ => F9; rename News _ _ _ _ => N9)
          refine turn_next F9 N9 (hne' _ _) ⟨_, _, rfl, ?_, m2i, m2o⟩
          rw [hnx, ordIns, if_pos hpa, hlg, m2z, scan, if_neg (by rw [hlg2]; exact hlt)]
          exact (ints_take hiO _).append (.cons _ _ (ints_drop hiO _))
    · have hpa : permAt l k = false := by unfold permAt; rw [hia]; simp [hkind]
      (try k_fold); (try (show (let GZ : Prop := _; GZ); intro GZ))
      obtain ⟨t0, t1, t2, t3, t4, t5, t6, t7, t8, u0, u1, u2, u3, u5, u6, u7, u8⟩ := ho
      (try k_unfold)
      k_steps
      (rename Fr _ _ _ _ => F9; rename News _ _ _ _ => N9)
      exact turn_next F9 N9 hne ⟨_, _, rfl, by rw [hnx, ordIns, if_neg (by rw [hpa]; exact Bool.false_ne_true)]; exact hiO, m1i, m1o⟩

end PSO
section PCL1
/-! one info of the survey taken out, to be changed -/
theorem pairs_unique {prog : Program} {w : World} {es : List DictEntry} {k1 : List (Int × Value)} (h : Pairs (intKind prog w) es k1) : ∀ {k2 : List (Int × Value)}, Pairs (intKind prog w) es k2 → k1 = k2 := by
  induction h with
  | nil => intro k2 h2; cases h2; rfl
  | cons a b _ ih =>
    intro k2 h2
    cases h2 with
    | cons a' b' c' =>
      obtain ⟨t, e⟩ := Value.isInt_shape a
      obtain ⟨t', e'⟩ := Value.isInt_shape a'
      rw [e] at e'
      injection e' with e1 e2
      rw [ih c', Prod.ext e1 (b.symm.trans b')]
def SvO (w : World) (D : Addr) (od : Obj) (l : List Info) (own rest : Led) : Prop :=
  ∃ recs, own = (D, od) :: recsLed recs ∧ od.IsDictOf (intKind PySem.Challenge.rw_sa0145_01.row.prog w) (kvsOf recs) ∧ (∀ r ∈ recs, InfoObj w r.o r.i) ∧ recs.map (·.i) = l ∧ (own.map (·.1)).Nodup ∧ Apart own rest
theorem SvO.sv {w : World} {D : Addr} {od : Obj} {l : List Info} {own rest : Led} (h : SvO w D od l own rest) : Sv w D l own rest := ⟨od, h⟩
theorem SvO.sub {w : World} {D : Addr} {od : Obj} {l : List Info} {own rest rest' : Led} (h : SvO w D od l own rest) (hs : ∀ p ∈ rest', p ∈ rest) : SvO w D od l own rest' :=
  let ⟨recs, e, a, b, c, d, f⟩ := h
  ⟨recs, e, a, b, c, d, f.sub hs⟩
theorem SvO.apart {w : World} {D : Addr} {od : Obj} {l : List Info} {own rest : Led} (h : SvO w D od l own rest) : Apart own rest := let ⟨_, _, _, _, _, _, f⟩ := h; f
theorem SvO.ext {w : World} {D : Addr} {od : Obj} {l : List Info} {own rest rest' : Led} (h : SvO w D od l own rest) (k : Apart own rest') : SvO w D od l own rest' :=
  let ⟨recs, e, a, b, c, d, _⟩ := h
  ⟨recs, e, a, b, c, d, k⟩
theorem SvO.dict {w : World} {D : Addr} {od : Obj} {l : List Info} {own rest : Led} (h : SvO w D od l own rest) : (D, od) ∈ own ∧ ∃ kvs, od.IsDictOf (intKind PySem.Challenge.rw_sa0145_01.row.prog w) kvs ∧ kvs.map (·.1) = l.map (·.var) := by
  (try k_fold); (try (show (let GZ : Prop := _; GZ); intro GZ))
  obtain ⟨recs, rfl, hd, hi, rfl, -⟩ := h
  (try k_unfold)
  exact ⟨.head _, kvsOf recs, hd, by simp [kvsOf]⟩
theorem SvO.nodup {w : World} {D : Addr} {od : Obj} {l : List Info} {own rest : Led} (h : SvO w D od l own rest) : (l.map (·.var)).Nodup := by
  (try (show (let GZ : Prop := _; GZ); intro GZ))
  obtain ⟨recs, rfl, hd, hi, rfl, -⟩ := h
  (try k_unfold)
  have := dict_nodup hd
  rw [show (recs.map (·.i)).map (·.var) = (kvsOf recs).map (·.1) from by simp [kvsOf]]
  exact this
def setI (l : List Info) (k : Int) (i' : Info) : List Info := l.map fun j => if j.var = k then i' else j
theorem SvO.split {w : World} {D : Addr} {od : Obj} {l : List Info} {own rest : Led} {kvs : List (Int × Value)} (h : SvO w D od l own rest) (hkd : od.IsDictOf (intKind PySem.Challenge.rw_sa0145_01.row.prog w) kvs) {k : Int} (hk : k ∈ l.map (·.var)) :
    ∃ x dx o i own1, valueAt kvs k = some (.ref x) ∧ (∀ p ∈ (dx, o) :: own1, p ∈ own) ∧ (∀ p ∈ own1, @Ne Nat p.1 dx) ∧ (x, instObj 94 dx) ∈ own1 ∧ (D, od) ∈ own1 ∧ InfoObj w o i ∧ infoAt l k = some i ∧ i.var = k ∧
      ∀ o' i', InfoObj w o' i' → i'.var = k → ∃ own', (∀ p ∈ own', p ∈ (dx, o') :: own1) ∧ SvO w D od (setI l k i') own' rest := by
  have hsv := h.sv
  (try k_fold); (try (show (let GZ : Prop := _; GZ); intro GZ))
  obtain ⟨od', kvs', hDo, hdd, hkv, look⟩ := hsv.look
  (try k_unfold)
  (try k_fold); (try (show (let GZ : Prop := _; GZ); intro GZ))
  obtain ⟨recs, rfl, hd, hi, rfl, hn, ha⟩ := h
  (try k_unfold)
  have hkn := dict_nodup hd
  obtain ⟨i, hi', rfl⟩ := List.mem_map.mp hk
  obtain ⟨r, hr, rfl⟩ := List.mem_map.mp hi'
  obtain ⟨pre, post, rfl⟩ := List.append_of_mem hr
  have hnotpre : ∀ q ∈ pre, q.i.var ≠ r.i.var := by
    intro q hq e
    rw [kvsOf, List.map_append, List.map_append, List.nodup_append] at hkn
    refine hkn.2.2 q.i.var ?_ r.i.var ?_ e
    · exact List.mem_map.mpr ⟨(q.i.var, .ref q.x), List.mem_map.mpr ⟨q, hq, rfl⟩, rfl⟩
    · simp
  have hnotpost : ∀ q ∈ post, q.i.var ≠ r.i.var := by
    intro q hq e
    rw [kvsOf, List.map_append, List.map_append, List.nodup_append] at hkn
    have := hkn.2.1
    simp only [List.map_cons, List.nodup_cons] at this
    refine this.1 ?_
    rw [← e]
    exact List.mem_map.mpr ⟨(q.i.var, .ref q.x), List.mem_map.mpr ⟨q, hq, rfl⟩, rfl⟩
  (try k_fold); (try (show (let GZ : Prop := _; GZ); intro GZ))
  obtain ⟨x, dx, o, i, hv, hx, hdx, ho, hia⟩ := look r.i.var hk
  (try k_unfold)
  have hkk : kvs = kvsOf (pre ++ r :: post) := by
    (try k_fold); (try (show (let GZ : Prop := _; GZ); intro GZ))
    obtain ⟨es, ep, _, e1, _, hp1, _⟩ := hkd
    (try k_unfold)
    (try k_fold); (try (show (let GZ : Prop := _; GZ); intro GZ))
    obtain ⟨es2, ep2, _, e2, _, hp2, _⟩ := hd
    (try k_unfold)
    rw [e1] at e2
    cases e2
    exact pairs_unique hp1 hp2
  have hvr : valueAt (kvsOf (pre ++ r :: post)) r.i.var = some (.ref r.x) := by
    refine valueAt_of_get hkn (i := pre.length) ?_
    simp [kvsOf]
  have e0 : (D, od) :: recsLed (pre ++ r :: post) = ((D, od) :: recsLed pre ++ [(r.x, instObj 94 r.dx)]) ++ (r.dx, r.o) :: recsLed post := by rw [recsLed_append, recsLed]; simp
  have hoff := nodup_off (e0 ▸ hn)
  refine ⟨r.x, r.dx, r.o, r.i, ((D, od) :: recsLed pre ++ [(r.x, instObj 94 r.dx)]) ++ recsLed post, by rw [hkk]; exact hvr, ?_, hoff, by simp, by simp, hi r (by simp), ?_, rfl, ?_⟩
  · intro p hp
    rw [e0]
    rcases List.mem_cons.mp hp with rfl | hp
    · simp
    · rcases List.mem_append.mp hp with hp | hp
      · exact List.mem_append_left _ hp
      · exact List.mem_append_right _ (.tail _ hp)
  · unfold infoAt
    rw [List.map_append, List.find?_append, List.find?_eq_none.mpr]
    · simp
    · intro i hi'
      obtain ⟨q, hq, rfl⟩ := List.mem_map.mp hi'
      simp [hnotpre q hq]
  · intro o' i' ho' hi'
    have e1 : (D, od) :: recsLed (pre ++ ⟨r.x, r.dx, o', i'⟩ :: post) = ((D, od) :: recsLed pre ++ [(r.x, instObj 94 r.dx)]) ++ (r.dx, o') :: recsLed post := by rw [recsLed_append, recsLed]; simp
    refine ⟨(D, od) :: recsLed (pre ++ ⟨r.x, r.dx, o', i'⟩ :: post), ?_, pre ++ ⟨r.x, r.dx, o', i'⟩ :: post, rfl, ?_, ?_, ?_, ?_, ?_⟩
    · intro p hp
      rw [e1] at hp
      rcases List.mem_append.mp hp with hp | hp
      · exact .tail _ (List.mem_append_left _ hp)
      · rcases List.mem_cons.mp hp with rfl | hp
        · exact .head _
        · exact .tail _ (List.mem_append_right _ hp)
    · have e : kvsOf (pre ++ ⟨r.x, r.dx, o', i'⟩ :: post) = kvsOf (pre ++ r :: post) := by simp [kvsOf, hi']
      rw [e]; exact hd
    · intro q hq
      rcases List.mem_append.mp hq with hq | hq
      · exact hi q (List.mem_append_left _ hq)
      · rcases List.mem_cons.mp hq with rfl | hq
        · exact ho'
        · exact hi q (List.mem_append_right _ (.tail _ hq))
    · unfold setI
      simp only [List.map_append, List.map_cons]
      rw [map_other (f := fun _ => i'), map_other (f := fun _ => i'), if_pos trivial]
      · intro q hq
        obtain ⟨r', hr', rfl⟩ := List.mem_map.mp hq
        exact hnotpost r' hr'
      · intro q hq
        obtain ⟨r', hr', rfl⟩ := List.mem_map.mp hq
        exact hnotpre r' hr'
    · rw [e1]
      rw [e0] at hn
      simpa using hn
    · intro p hp q hq
      obtain ⟨p', hp', e⟩ : ∃ p' ∈ (D, od) :: recsLed (pre ++ r :: post), p'.1 = p.1 := by
        rw [e1] at hp
        rw [e0]
        rcases List.mem_append.mp hp with hp | hp
        · exact ⟨p, List.mem_append_left _ hp, rfl⟩
        · rcases List.mem_cons.mp hp with rfl | hp
          · exact ⟨(r.dx, r.o), by simp, rfl⟩
          · exact ⟨p, List.mem_append_right _ (.tail _ hp), rfl⟩
      exact e ▸ ha p' hp' q hq

end PCL1
section PCL2
/-! classify: what it computes -/
def goalL (l : List Info) (at_ chunk : Int) (g : Goal) : List Info :=
  termsL (Str.ofString "goal") at_ chunk (if 0 ≤ g.special then meetL l g.special (Str.ofString "special") at_ chunk 1 else l) g.terms
def cAt (gs : List Goal) (i : Nat) : Int := (gs.take i).foldl chunkStep 0
def survI (l0 : List Info) (gs : List Goal) : Nat → List Info
  | 0 => l0
  | i + 1 => match gs[i]? with | some g => goalL (survI l0 gs i) i (cAt gs i) g | none => survI l0 gs i
def needI (gs : List Goal) : Nat → Bool
  | 0 => false
  | i + 1 => needI gs i || (match gs[i]? with | some g => g.isCall && decide (i + 1 < gs.length) | none => false)
def mapAt (l : List Info) (k : Int) (f : Info → Info) : List Info := l.map fun j => if j.var = k then f j else j
def kindI (l : List Info) : Nat → List Info
  | 0 => l
  | a + 1 => match l[a]? with | some i => mapAt (kindI l a) i.var (fun i => { i with kind := kindL i }) | none => kindI l a
def slotI (l : List Info) (ord : List Int) : Nat → List Info
  | 0 => l
  | a + 1 => match ord[a]? with | some k => mapAt (slotI l ord a) k (fun i => { i with slot := (a : Int) + 1, uns := (i.first == Str.ofString "goal_arg") }) | none => slotI l ord a
def liveAt (l : List Info) (ord : List Int) (a : Nat) : Int := ((ord.takeWhile fun k => decide ((a : Int) < lgAt l k)).length : Int)
def liveL (l : List Info) (ord : List Int) (n : Nat) : List Int := (List.range n).map (liveAt l ord)
def headL (args : List Side) : List Info := termsL (Str.ofString "head") (-1) 0 [] args
theorem mapAt_vars (l : List Info) (k : Int) (f : Info → Info) (hf : ∀ i, (f i).var = i.var) : (mapAt l k f).map (·.var) = l.map (·.var) := by
  unfold mapAt
  rw [List.map_map]
  refine List.map_congr_left fun i _ => ?_
  show (if i.var = k then f i else i).var = i.var
  split
  · exact hf i
  · rfl
theorem kindI_vars (l : List Info) : ∀ a, (kindI l a).map (·.var) = l.map (·.var)
  | 0 => rfl
  | a + 1 => by
    rw [kindI]
    split
    · rename_i i _
      exact (mapAt_vars (kindI l a) i.var (fun i => { i with kind := kindL i }) fun _ => rfl).trans (kindI_vars l a)
    · exact kindI_vars l a
theorem slotI_vars (l : List Info) (ord : List Int) : ∀ a, (slotI l ord a).map (·.var) = l.map (·.var)
  | 0 => rfl
  | a + 1 => by
    rw [slotI]
    split
    · rename_i k _
      exact (mapAt_vars (slotI l ord a) k (fun i => { i with slot := (a : Int) + 1, uns := (i.first == Str.ofString "goal_arg") }) fun _ => rfl).trans (slotI_vars l ord a)
    · exact slotI_vars l ord a
theorem goalL_length (l : List Info) (a c : Int) (g : Goal) : (goalL l a c g).length ≤ l.length + 1 + 2 * g.terms.length := by
  refine Nat.le_trans (termsL_length ..) (Nat.add_le_add_right ?_ _)
  split
  · exact meetL_length ..
  · exact Nat.le_succ _
theorem Goal.terms_length {g : Goal} (h : g.ok) : g.terms.length ≤ 3 := by
  cases g <;> simp [Goal.terms] <;> exact h.1
theorem survI_length {l0 : List Info} {gs : List Goal} (h : ∀ g ∈ gs, g.ok) : ∀ i, (survI l0 gs i).length ≤ l0.length + 7 * i
  | 0 => Nat.le_refl _
  | i + 1 => by
    have ih := survI_length (l0 := l0) h i
    rw [survI]
    split
    · rename_i g hg
      have h1 := goalL_length (survI l0 gs i) i (cAt gs i) g
      have h2 := Goal.terms_length (h g (List.mem_of_getElem? hg))
      omega
    · omega
theorem chunksL_length : ∀ (gs : List Goal) (c : Int), (chunksL c gs).length = gs.length
  | [], _ => rfl
  | g :: gs, c => by rw [chunksL, List.length_cons, List.length_cons, chunksL_length gs]
theorem chunksL_get : ∀ (gs : List Goal) (c : Int) (i : Nat) (g : Goal), gs[i]? = some g → (chunksL c gs)[i]? = some ((gs.take i).foldl chunkStep c)
  | [], _, i, g, h => by simp at h
  | g0 :: gs, c, 0, g, h => rfl
  | g0 :: gs, c, i + 1, g, h => by
    rw [chunksL, List.getElem?_cons_succ, List.take_succ_cons, List.foldl_cons]
    exact chunksL_get gs (chunkStep c g0) i g (by simpa using h)
theorem nodup_map_inj : ∀ {l : List Info}, (l.map (·.var)).Nodup → ∀ {i j : Info}, i ∈ l → j ∈ l → i.var = j.var → i = j
  | [], _, _, _, h, _, _ => nomatch h
  | a :: l, hn, i, j, hi, hj, e => by
    rw [List.map_cons, List.nodup_cons] at hn
    rcases List.mem_cons.mp hi with rfl | hi2
    · rcases List.mem_cons.mp hj with rfl | hj2
      · rfl
      · exact (hn.1 (List.mem_map.mpr ⟨_, hj2, e.symm⟩)).elim
    · rcases List.mem_cons.mp hj with rfl | hj2
      · exact (hn.1 (List.mem_map.mpr ⟨_, hi2, e⟩)).elim
      · exact nodup_map_inj hn.2 hi2 hj2 e
theorem setI_eq {l : List Info} {k : Int} {i : Info} (f : Info → Info) (hi : infoAt l k = some i) (hn : (l.map (·.var)).Nodup) : setI l k (f i) = mapAt l k f := by
  unfold setI mapAt
  refine List.map_congr_left fun j hj => ?_
  split
  · rename_i hjk
    unfold infoAt at hi
    have e : j = i := by
      have h1 := List.find?_some hi
      have h2 := List.mem_of_find?_eq_some hi
      simp only [decide_eq_true_eq] at h1
      exact nodup_map_inj hn hj h2 (hjk.trans h1.symm)
    rw [e]
  · rfl
structure Plan where
  l : List Info
  chunks : List Int
  need : Bool
  size : Int
  lives : List Int
/-- the answer of classify upon a ledger -/
inductive PlanI (w : World) (led : Led) (p : Plan) : Value → Prop
  | mk (px pd D C : Addr) (cvs : List Value) (cn : Nat) (LV : Addr) (lvs : List Value) (ln : Nat) (own rest : Led) (h1 h2 h3 h4 h5 : Int) (t1 t2 t3 t4 t5 t6 : Tok) (hpx : (px, instObj 150 pd) ∈ led)
      (hpd : (pd, dictOf [⟨h1, .str (Str.ofString "infos") t1, .ref D⟩, ⟨h2, .str (Str.ofString "chunks") t2, .ref C⟩, ⟨h3, .str (Str.ofString "needs_env") t3, .bool p.need⟩, ⟨h4, .str (Str.ofString "env_size") t4, .int p.size t6⟩, ⟨h5, .str (Str.ofString "live_after") t5, .ref LV⟩] 5) ∈ led)
      (hC : (C, listOf cvs.toArray cn) ∈ led) (hic : IntsAre cvs p.chunks) (hLV : (LV, listOf lvs.toArray ln) ∈ led) (hil : IntsAre lvs p.lives) (hsub : ∀ q ∈ own, q ∈ led) (hSv : Sv w D p.l own rest) (lo : (D == sysModules) = false) : PlanI w led p (.ref px)
abbrev PlanIn (w : World) (led : Led) (r : Value) (p : Plan) : Prop := PlanI w led p r
def finL (args : List Side) (gs : List Goal) : List Info := kindI (survI (headL args) gs gs.length) (survI (headL args) gs gs.length).length
def planL (args : List Side) (gs : List Goal) (ks : List Int) : Plan where
  l := slotI (finL args gs) (orderK (finL args gs) ks) (orderK (finL args gs) ks).length
  chunks := chunksL 0 gs
  need := needI gs gs.length
  size := ((orderK (finL args gs) ks).length : Int)
  lives := liveL (finL args gs) (orderK (finL args gs) ks) gs.length
theorem find_map_var (l : List Info) (F : Info → Info) (hF : ∀ i, (F i).var = i.var) (x : Int) : infoAt (l.map F) x = (infoAt l x).map F := by
  unfold infoAt
  rw [List.find?_map]
  have : ((fun i : Info => decide (i.var = x)) ∘ F) = fun i : Info => decide (i.var = x) := by funext i; simp [hF]
  rw [this]
theorem slotI_lg (l : List Info) (ord : List Int) (k : Int) : ∀ a, lgAt (slotI l ord a) k = lgAt l k
  | 0 => rfl
  | a + 1 => by
    rw [slotI]
    split
    · rename_i q _
      rw [← slotI_lg l ord k a]
      unfold lgAt mapAt
      rw [find_map_var _ _ (fun i => by split <;> rfl)]
      cases infoAt (slotI l ord a) k with
      | none => rfl
      | some i =>
        show (if i.var = q then { i with slot := (a : Int) + 1, uns := (i.first == Str.ofString "goal_arg") } else i).last_goal = i.last_goal
        split <;> rfl
    · exact slotI_lg l ord k a
theorem tw_yes {ord : List Int} {b : Nat} {k : Int} {P : Int → Bool} (h : ord[b]? = some k) (hp : P k = true) : ((ord.drop b).takeWhile P).length = 1 + ((ord.drop (b + 1)).takeWhile P).length := by
  obtain ⟨hb, rfl⟩ := List.getElem?_eq_some_iff.mp h
  rw [List.drop_eq_getElem_cons hb, List.takeWhile_cons, if_pos hp, List.length_cons]
  omega
theorem tw_no {ord : List Int} {b : Nat} {k : Int} {P : Int → Bool} (h : ord[b]? = some k) (hp : P k = false) : ((ord.drop b).takeWhile P).length = 0 := by
  obtain ⟨hb, rfl⟩ := List.getElem?_eq_some_iff.mp h
  rw [List.drop_eq_getElem_cons hb, List.takeWhile_cons, if_neg (by rw [hp]; exact Bool.false_ne_true)]
  rfl
theorem tw_end {ord : List Int} {b : Nat} {P : Int → Bool} (h : ord.length ≤ b) : ((ord.drop b).takeWhile P).length = 0 := by
  rw [List.drop_eq_nil_of_le h]
  rfl
theorem liveL_succ (l : List Info) (ord : List Int) (i : Nat) : liveL l ord (i + 1) = liveL l ord i ++ [liveAt l ord i] := by
  unfold liveL
  rw [List.range_succ, List.map_append]
  rfl

end PCL2
section PPL1
/-! the plain law, 1: the survey behind one further goal -/
def Side.found : Side → List (Int × Str)
  | .atom => []
  | .var k => [(k, Str.ofString "goal_arg")]
  | .s2 k j => [(k, Str.ofString "goal_struct"), (j, Str.ofString "goal_struct")]
def Goal.found : Goal → List (Int × Str)
  | .mark => [(6, Str.ofString "special")]
  | .cutto => [(6, Str.ofString "special")]
  | .fail => []
  | .unify a b => a.found ++ b.found
  | .call ss => ss.flatMap Side.found
  | .builtin ss => ss.flatMap Side.found
def meet1 (a c : Int) (l : List Info) (f : Int × Str) : List Info := meetL l f.1 f.2 a c 1
theorem infoAt_map (l : List Info) (F : Info → Info) (hF : ∀ i, (F i).var = i.var) (x : Int) : infoAt (l.map F) x = (infoAt l x).map F := by
  unfold infoAt
  rw [List.find?_map]
  have : ((fun i : Info => decide (i.var = x)) ∘ F) = fun i : Info => decide (i.var = x) := by funext i; simp [hF]
  rw [this]
theorem infoAt_var {l : List Info} {x : Int} {i : Info} (h : infoAt l x = some i) : i.var = x := by
  have := List.find?_some h
  simpa using this
theorem infoAt_mem {l : List Info} {x : Int} {i : Info} (h : infoAt l x = some i) : i ∈ l := List.mem_of_find?_eq_some h
theorem infoAt_any (l : List Info) (x : Int) : l.any (fun i => decide (i.var = x)) = (infoAt l x).isSome := by
  unfold infoAt
  rw [Bool.eq_iff_iff]
  simp [List.find?_isSome]
theorem infoAt_isSome (l : List Info) (x : Int) : (infoAt l x).isSome = true ↔ x ∈ l.map (·.var) := by
  unfold infoAt
  simp [List.find?_isSome]
theorem infoAt_none (l : List Info) (x : Int) : infoAt l x = none ↔ x ∉ l.map (·.var) := by
  rw [← infoAt_isSome]
  cases infoAt l x <;> simp
theorem infoAt_of_mem {l : List Info} (hn : (l.map (·.var)).Nodup) {i : Info} (hi : i ∈ l) : infoAt l i.var = some i := by
  have h : (infoAt l i.var).isSome = true := (infoAt_isSome l i.var).mpr (List.mem_map.mpr ⟨i, hi, rfl⟩)
  obtain ⟨j, hj⟩ := Option.isSome_iff_exists.mp h
  rw [hj, nodup_map_inj hn (infoAt_mem hj) hi (infoAt_var hj)]
def metI (a c n : Int) (i : Info) : Info := { i with count := i.count + n, last_goal := a, last_chunk := c }
def newI (k : Int) (f : Str) (a c n : Int) : Info := ⟨k, Str.ofString "temp", 0, f, false, a, 0 + n, c, c⟩
theorem infoAt_meet (l : List Info) (k : Int) (f : Str) (a c n x : Int) :
    infoAt (meetL l k f a c n) x = if x = k then (match infoAt l k with | some i => some (metI a c n i) | none => some (newI k f a c n)) else infoAt l x := by
  unfold meetL
  rw [infoAt_any]
  by_cases hx : x = k
  · subst hx
    rw [if_pos rfl]
    cases h : infoAt l x with
    | none =>
      rw [if_neg (by simp)]
      unfold infoAt at h ⊢
      rw [List.find?_append, h]
      simp [newI]
    | some i =>
      rw [if_pos (by simp)]
      rw [infoAt_map l _ (fun i => by split <;> rfl), h]
      simp [infoAt_var h, metI]
  · rw [if_neg hx]
    cases h : infoAt l k with
    | none =>
      rw [if_neg (by simp)]
      unfold infoAt
      rw [List.find?_append, List.find?_cons_of_neg (by simpa using fun e => hx e.symm)]
      simp
    | some i =>
      rw [if_pos (by simp)]
      rw [infoAt_map l _ (fun i => by split <;> rfl)]
      cases h2 : infoAt l x with
      | none => rfl
      | some j =>
        have := infoAt_var h2
        simp [this, hx]
theorem meetL_vars (l : List Info) (k : Int) (f : Str) (a c n : Int) : (meetL l k f a c n).map (·.var) = if k ∈ l.map (·.var) then l.map (·.var) else l.map (·.var) ++ [k] := by
  unfold meetL
  rw [infoAt_any, List.map_congr_left (g := (·.var)) (l := l) fun _ _ => rfl]
  by_cases h : k ∈ l.map (·.var)
  · rw [if_pos h, if_pos ((infoAt_isSome l k).mpr h), List.map_map]
    refine List.map_congr_left fun i _ => ?_
    show (if i.var = k then { i with count := i.count + n, last_goal := a, last_chunk := c } else i).var = i.var
    split <;> rfl
  · rw [if_neg h, if_neg (fun e => h ((infoAt_isSome l k).mp e)), List.map_append]
    rfl
theorem meet_twice (l : List Info) (k : Int) (f : Str) (a c : Int) : meetL (meetL l k f a c 1) k f a c 1 = meetL l k f a c 2 := by
  by_cases h : (infoAt l k).isSome = true
  · have e : ∀ n, meetL l k f a c n = l.map (fun i => if i.var = k then { i with count := i.count + n, last_goal := a, last_chunk := c } else i) := fun n => by
      unfold meetL
      rw [infoAt_any, if_pos h]
    have h2 : (infoAt (meetL l k f a c 1) k).isSome = true := by
      rw [infoAt_isSome, meetL_vars, if_pos ((infoAt_isSome l k).mp h)]
      exact (infoAt_isSome l k).mp h
    have e2 : meetL (meetL l k f a c 1) k f a c 1 = (meetL l k f a c 1).map (fun i => if i.var = k then { i with count := i.count + 1, last_goal := a, last_chunk := c } else i) := by
      rw [meetL, infoAt_any, if_pos h2]
    rw [e2, e 1, e 2, List.map_map]
    refine List.map_congr_left fun i _ => ?_
    by_cases hi : i.var = k
    · simp [hi]
      omega
    · simp [hi]
  · have e : ∀ n, meetL l k f a c n = l ++ [newI k f a c n] := fun n => by
      unfold meetL
      rw [infoAt_any, if_neg h]
      rfl
    have hk : k ∉ l.map (·.var) := fun e => h ((infoAt_isSome l k).mpr e)
    have h2 : (infoAt (meetL l k f a c 1) k).isSome = true := by
      rw [infoAt_isSome, meetL_vars, if_neg hk]
      simp
    have e2 : meetL (meetL l k f a c 1) k f a c 1 = (meetL l k f a c 1).map (fun i => if i.var = k then { i with count := i.count + 1, last_goal := a, last_chunk := c } else i) := by
      rw [meetL, infoAt_any, if_pos h2]
    rw [e2, e 1, e 2, List.map_append, map_other (f := fun i => { i with count := i.count + 1, last_goal := a, last_chunk := c })]
    · simp [newI]
    · intro q hq e
      exact hk (List.mem_map.mpr ⟨q, hq, e⟩)
theorem w_arg : Str.ofString "goal" ++ Str.ofString "_arg" = Str.ofString "goal_arg" := rfl
theorem w_struct : Str.ofString "goal" ++ Str.ofString "_struct" = Str.ofString "goal_struct" := rfl
theorem sideL_fold (a c : Int) (l : List Info) (sd : Side) : sideL (Str.ofString "goal") a c l sd = sd.found.foldl (meet1 a c) l := by
  cases sd with
  | atom => rfl
  | var k => rfl
  | s2 k j =>
    simp only [sideL, Side.vars, Side.occ, Side.found, List.foldl_cons, List.foldl_nil, meet1]
    by_cases h : k = j
    · subst h
      rw [if_pos rfl, if_pos rfl, List.foldl_cons, List.foldl_nil, meet_twice, w_struct]
    · rw [if_neg h, if_neg h, List.foldl_cons, List.foldl_cons, List.foldl_nil, w_struct]
theorem termsL_fold (a c : Int) : ∀ (ss : List Side) (l : List Info), termsL (Str.ofString "goal") a c l ss = (ss.flatMap Side.found).foldl (meet1 a c) l
  | [], l => rfl
  | sd :: ss, l => by
    rw [List.flatMap_cons, List.foldl_append, ← sideL_fold]
    exact termsL_fold a c ss _
theorem goalL_fold (l : List Info) (a c : Int) (g : Goal) : goalL l a c g = g.found.foldl (meet1 a c) l := by
  cases g with
  | mark => rfl
  | cutto => rfl
  | fail => rfl
  | unify x y =>
    show termsL _ a c l [x, y] = _
    rw [termsL_fold]
    simp [Goal.found]
  | call ss => exact termsL_fold a c ss l
  | builtin ss => exact termsL_fold a c ss l
def stepW (a c x : Int) (o : Option Info) (f : Int × Str) : Option Info := if x = f.1 then (match o with | some i => some (metI a c 1 i) | none => some (newI x f.2 a c 1)) else o
theorem infoAt_fold (a c x : Int) : ∀ (fs : List (Int × Str)) (l : List Info), infoAt (fs.foldl (meet1 a c) l) x = fs.foldl (stepW a c x) (infoAt l x)
  | [], _ => rfl
  | f :: fs, l => by
    rw [List.foldl_cons, infoAt_fold a c x fs, List.foldl_cons]
    congr 1
    unfold meet1 stepW
    rw [infoAt_meet]
    by_cases h : x = f.1
    · rw [if_pos h, if_pos h, h]
    · rw [if_neg h, if_neg h]
def wordsOf (fs : List (Int × Str)) (x : Int) : List Str := (fs.filter fun f => f.1 = x).map (·.2)
def grow (a c x : Int) (o : Option Info) (ws : List Str) : Option Info :=
  match ws with
  | [] => o
  | w :: _ => match o with
    | some i => some (metI a c (ws.length : Int) i)
    | none => some (newI x w a c (ws.length : Int))
theorem fold_grow (a c x : Int) : ∀ (fs : List (Int × Str)) (o : Option Info), fs.foldl (stepW a c x) o = grow a c x o (wordsOf fs x)
  | [], _ => rfl
  | f :: fs, o => by
    rw [List.foldl_cons, fold_grow a c x fs]
    unfold wordsOf stepW
    rw [List.filter_cons]
    by_cases h : x = f.1
    · rw [if_pos h, if_pos (by simp [h]), List.map_cons]
      cases (fs.filter fun f => decide (f.1 = x)).map (·.2) with
      | nil => cases o <;> simp [grow]
      | cons w ws =>
        cases o with
        | none => simp [grow, newI, metI]; omega
        | some i => simp [grow, newI, metI]; omega
    · rw [if_neg h, if_neg (by simpa using fun e => h e.symm)]
theorem goalL_info (l : List Info) (a c : Int) (g : Goal) (x : Int) : infoAt (goalL l a c g) x = grow a c x (infoAt l x) (wordsOf g.found x) := by rw [goalL_fold, infoAt_fold, fold_grow]
theorem wordsOf_nil {fs : List (Int × Str)} {x : Int} : wordsOf fs x = [] ↔ x ∉ fs.map (·.1) := by
  unfold wordsOf
  simp
  exact ⟨fun h b hb => h x b hb rfl, fun h y b hb e => h b (e ▸ hb)⟩
/-! what every survey keeps -/
def Good (a : Int) (l : List Info) : Prop := (l.map (·.var)).Nodup ∧ ∀ i ∈ l, 0 ≤ i.var ∧ i.var < 7 ∧ i.last_goal < a ∧ i.uns = false ∧ 1 ≤ i.count ∧ PyData.strOk i.first = true
theorem Good.mono {a b : Int} {l : List Info} (h : Good a l) (hab : a ≤ b) : Good b l := ⟨h.1, fun i hi => let ⟨h1, h2, h3, h4, h5⟩ := h.2 i hi; ⟨h1, h2, by omega, h4, h5⟩⟩
theorem Good.meet {b : Int} {l : List Info} (h : Good b l) {k : Int} {f : Str} (hf : PyData.strOk f = true) {a : Int} (c : Int) {n : Int} (hk : 0 ≤ k ∧ k < 7) (ha : a < b) (hn : 1 ≤ n) : Good b (meetL l k f a c n) := by
  refine ⟨?_, ?_⟩
  · rw [meetL_vars]
    split
    · exact h.1
    · rename_i hk
      rw [List.nodup_append]
      refine ⟨h.1, by simp, fun x hx y hy e => ?_⟩
      rw [List.mem_singleton.mp hy] at e
      exact hk (e ▸ hx)
  · intro i hi
    unfold meetL at hi
    split at hi
    · obtain ⟨j, hj, rfl⟩ := List.mem_map.mp hi
      have := h.2 j hj
      split
      · exact ⟨this.1, this.2.1, ha, this.2.2.2.1, by show 1 ≤ j.count + n; omega, this.2.2.2.2.2⟩
      · exact this
    · rcases List.mem_append.mp hi with hi | hi
      · exact h.2 i hi
      · rw [List.mem_singleton.mp hi]
        exact ⟨hk.1, hk.2, ha, rfl, by show 1 ≤ 0 + n; omega, hf⟩
theorem Good.side {b : Int} {l : List Info} (h : Good b l) {pl : Str} (p1 : PyData.strOk (pl ++ Str.ofString "_arg") = true) (p2 : PyData.strOk (pl ++ Str.ofString "_struct") = true) {a : Int} (c : Int) {sd : Side} (hs : sd.ok) (ha : a < b) : Good b (sideL pl a c l sd) := by
  cases sd with
  | atom => exact h
  | var k => exact h.meet p1 c ⟨hs.1, by have := hs.2; omega⟩ ha (by omega)
  | s2 k j =>
    have h1 : 0 ≤ k ∧ k < 7 := ⟨hs.1.1, by have := hs.1.2; omega⟩
    have h2 : 0 ≤ j ∧ j < 7 := ⟨hs.2.1, by have := hs.2.2; omega⟩
    simp only [sideL, Side.vars, Side.occ]
    by_cases e : k = j
    · rw [if_pos e, if_pos e]
      exact h.meet p2 c h1 ha (by omega)
    · rw [if_neg e, if_neg e]
      exact (h.meet p2 c h1 ha (by omega)).meet p2 c h2 ha (by omega)
theorem Good.terms {b : Int} {pl : Str} (p1 : PyData.strOk (pl ++ Str.ofString "_arg") = true) (p2 : PyData.strOk (pl ++ Str.ofString "_struct") = true) {a : Int} (c : Int) (ha : a < b) : ∀ {ss : List Side} {l : List Info}, Good b l → (∀ s ∈ ss, s.ok) → Good b (termsL pl a c l ss)
  | [], _, h, _ => h
  | s :: ss, l, h, hs => by
    show Good b (termsL pl a c (sideL pl a c l s) ss)
    exact Good.terms p1 p2 c ha (h.side p1 p2 c (hs s (.head _)) ha) fun s' hs' => hs s' (.tail _ hs')
theorem Goal.terms_ok {g : Goal} (h : g.ok) : ∀ s ∈ g.terms, s.ok := by
  cases g with
  | mark => exact fun _ h => nomatch h
  | cutto => exact fun _ h => nomatch h
  | fail => exact fun _ h => nomatch h
  | unify a b =>
    intro s hs
    rcases List.mem_cons.mp hs with rfl | hs
    · exact h.1
    · rw [List.mem_singleton.mp hs]; exact h.2
  | call ss => exact h.2
  | builtin ss => exact h.2
theorem Good.goal {b : Int} {l : List Info} (h : Good b l) {a : Int} (c : Int) {g : Goal} (hg : g.ok) (ha : a < b) : Good b (goalL l a c g) := by
  unfold goalL
  refine Good.terms (by decide +kernel) (by decide +kernel) c ha ?_ (Goal.terms_ok hg)
  split
  · rename_i hs
    refine h.meet (by decide +kernel) c ?_ ha (by omega)
    cases g <;> simp [Goal.special] at hs ⊢
  · exact h
theorem Good.surv {l0 : List Info} {gs : List Goal} (h : Good 0 l0) (hg : ∀ g ∈ gs, g.ok) : ∀ i : Nat, Good i (survI l0 gs i)
  | 0 => h
  | i + 1 => by
    have ih := Good.surv h hg i
    rw [survI]
    split
    · rename_i g hgi
      exact (ih.mono (b := ((i + 1 : Nat) : Int)) (by omega)).goal _ (hg g (List.mem_of_getElem? hgi)) (by omega)
    · exact ih.mono (by omega)
theorem Good.head {args : List Side} (h : ∀ s ∈ args, s.ok) : Good 0 (headL args) := Good.terms (by decide +kernel) (by decide +kernel) 0 (by omega) (l := []) ⟨by simp, fun _ h => nomatch h⟩ h
theorem survI_append (l0 : List Info) (gs : List Goal) (g : Goal) : ∀ i, i ≤ gs.length → survI l0 (gs ++ [g]) i = survI l0 gs i
  | 0, _ => rfl
  | i + 1, h => by
    have hi : i < gs.length := h
    rw [survI, survI, survI_append l0 gs g i (by omega), List.getElem?_append_left hi]
    cases e : gs[i]? with
    | none => rfl
    | some g0 =>
      show goalL _ _ (cAt (gs ++ [g]) i) g0 = goalL _ _ (cAt gs i) g0
      unfold cAt
      rw [List.take_append_of_le_length (by omega)]
theorem survI_snoc (l0 : List Info) (gs : List Goal) (g : Goal) : survI l0 (gs ++ [g]) (gs ++ [g]).length = goalL (survI l0 gs gs.length) gs.length (gs.foldl chunkStep 0) g := by
  rw [List.length_append, List.length_singleton, survI, survI_append l0 gs g _ (Nat.le_refl _)]
  rw [List.getElem?_append_right (Nat.le_refl _)]
  simp only [Nat.sub_self, List.getElem?_cons_zero]
  unfold cAt
  rw [List.take_append_of_le_length (Nat.le_refl _), List.take_length]

end PPL1
section PPL2
/-! the plain law, 2: kinds, slots, order -/
def fin1 (i : Info) : Info := { i with kind := kindL i }
theorem kindI_map (l : List Info) : ∀ a, kindI l a = l.map fun i => if i.var ∈ (l.take a).map (·.var) then fin1 i else i
  | 0 => by simp [kindI]
  | a + 1 => by
    rw [kindI, kindI_map l a]
    cases h : l[a]? with
    | none =>
      have hl : l.length ≤ a := by simpa using h
      rw [List.take_of_length_le hl, List.take_of_length_le (by omega)]
    | some q =>
      show mapAt _ q.var _ = _
      unfold mapAt
      rw [List.map_map, take_snoc h]
      refine List.map_congr_left fun i _ => ?_
      simp only [Function.comp_apply, List.map_append, List.mem_append, List.map_cons, List.map_nil, List.mem_singleton]
      by_cases h1 : i.var ∈ (l.take a).map (·.var)
      · rw [if_pos h1, if_pos (Or.inl h1)]
        by_cases h2 : i.var = q.var
        · rw [if_pos (show (fin1 i).var = q.var from h2)]; rfl
        · rw [if_neg (show ¬ (fin1 i).var = q.var from h2)]
      · rw [if_neg h1]
        by_cases h2 : i.var = q.var
        · rw [if_pos h2, if_pos (Or.inr h2)]; rfl
        · rw [if_neg h2, if_neg (by simp only [not_or]; exact ⟨h1, h2⟩)]
theorem kindI_all (l : List Info) : kindI l l.length = l.map fin1 := by
  rw [kindI_map, List.take_length]
  refine List.map_congr_left fun i hi => ?_
  rw [if_pos (List.mem_map.mpr ⟨i, hi, rfl⟩)]
def setS (ord : List Int) (i : Info) : Info := if i.var ∈ ord then { i with slot := ((ord.idxOf i.var : Nat) : Int) + 1, uns := (i.first == Str.ofString "goal_arg") } else i
theorem setS_var (ord : List Int) (i : Info) : (setS ord i).var = i.var := by unfold setS; split <;> rfl
theorem slotI_map (l : List Info) (ord : List Int) (hn : ord.Nodup) : ∀ a, slotI l ord a = l.map (setS (ord.take a))
  | 0 => by
    rw [slotI, List.take_zero]
    conv => lhs; rw [← List.map_id l]
    exact List.map_congr_left fun i _ => by unfold setS; rw [if_neg (List.not_mem_nil)]; rfl
  | a + 1 => by
    rw [slotI, slotI_map l ord hn a]
    cases h : ord[a]? with
    | none =>
      have hl : ord.length ≤ a := by simpa using h
      rw [List.take_of_length_le hl, List.take_of_length_le (by omega)]
    | some q =>
      show mapAt _ q _ = _
      unfold mapAt
      rw [List.map_map, take_snoc h]
      have hq : q ∉ ord.take a := by
        intro hm
        have h2 : (ord.take (a + 1)).Nodup := hn.sublist (List.take_sublist _ _)
        rw [take_snoc h, List.nodup_append] at h2
        exact h2.2.2 q hm q (.head _) rfl
      have hla : (ord.take a).length = a := by
        have := (List.getElem?_eq_some_iff.mp h).1
        rw [List.length_take]; omega
      refine List.map_congr_left fun i _ => ?_
      simp only [Function.comp_apply]
      rw [setS_var]
      unfold setS
      by_cases h2 : i.var = q
      · rw [if_pos h2, if_neg (by rw [h2]; exact hq), if_pos (by rw [h2]; simp)]
        have : (ord.take a ++ [q]).idxOf i.var = a := by
          rw [h2, List.idxOf_append, if_neg hq, hla]; simp
        rw [this]
      · rw [if_neg h2]
        by_cases h1 : i.var ∈ ord.take a
        · rw [if_pos h1, if_pos (List.mem_append_left _ h1)]
          rw [List.idxOf_append, if_pos h1]
        · rw [if_neg h1, if_neg (by simp [h1, h2])]
theorem slotI_all (l : List Info) (ord : List Int) (hn : ord.Nodup) : slotI l ord ord.length = l.map (setS ord) := by
  rw [slotI_map l ord hn, List.take_length]
/-- the order of the slots -/
def Rk (l : List Info) (x y : Int) : Prop := lgAt l y < lgAt l x ∨ (lgAt l x = lgAt l y ∧ x < y)
theorem Rk.asymm {l : List Info} {x y : Int} (h : Rk l x y) (k : Rk l y x) : False := by
  rcases h with h | h <;> rcases k with k | k <;> omega
theorem scan_hi (l : List Info) (g : Int) (ord : List Int) : ∀ a j, scan l g ord a ≤ j → j < a → lgAt l (ord.getD j 0) < g
  | 0, j, _, h => absurd h (Nat.not_lt_zero _)
  | a + 1, j, h1, h2 => by
    rw [scan] at h1
    split at h1
    · rename_i hlt
      by_cases e : j = a
      · rw [e]; exact hlt
      · exact scan_hi l g ord a j h1 (by omega)
    · omega
theorem scan_lo (l : List Info) (g : Int) (ord : List Int) : ∀ a, 0 < scan l g ord a → ¬ lgAt l (ord.getD (scan l g ord a - 1) 0) < g
  | 0, h => absurd h (by simp [scan])
  | a + 1, h => by
    rw [scan] at h ⊢
    split
    · rename_i hlt
      rw [if_pos hlt] at h
      exact scan_lo l g ord a h
    · rename_i hlt
      simpa using hlt
theorem getD_mem {ord : List Int} {j : Nat} (h : j < ord.length) : ord.getD j 0 = ord[j] := by
  rw [List.getD_eq_getElem?_getD, List.getElem?_eq_getElem h]; rfl
theorem ordIns_pairwise {l : List Info} {ord : List Int} {k : Int} (h : ord.Pairwise (Rk l)) (hk : ∀ x ∈ ord, x < k) : (ordIns l ord k).Pairwise (Rk l) := by
  unfold ordIns
  by_cases hpk : permAt l k = true
  case neg => rw [if_neg hpk]; exact h
  rw [if_pos hpk]
  obtain ⟨p, hp⟩ : ∃ p, p = scan l (lgAt l k) ord ord.length := ⟨_, rfl⟩
  have hple : p ≤ ord.length := hp ▸ scan_le ..
  have hhi : ∀ j, p ≤ j → j < ord.length → lgAt l (ord.getD j 0) < lgAt l k := fun j h1 h2 => scan_hi l _ ord _ j (hp ▸ h1) h2
  have hlo : 0 < p → ¬ lgAt l (ord.getD (p - 1) 0) < lgAt l k := fun h0 => by
    have := scan_lo l (lgAt l k) ord ord.length (hp ▸ h0)
    rwa [← hp] at this
  rw [← hp]
  have hge : ∀ x ∈ ord.take p, lgAt l k ≤ lgAt l x := by
    intro x hx
    obtain ⟨j, hj, rfl⟩ := List.mem_take_iff_getElem.mp hx
    have hj' : j < p ∧ j < ord.length := by omega
    have h1 := hlo (by omega)
    rw [getD_mem (by omega)] at h1
    by_cases e : j = p - 1
    · subst e; omega
    · have h2 := List.pairwise_iff_getElem.mp h j (p - 1) (by omega) (by omega) (by omega)
      rcases h2 with h2 | h2 <;> omega
  have hlt : ∀ x ∈ ord.drop p, lgAt l x < lgAt l k := by
    intro x hx
    obtain ⟨j, hj, rfl⟩ := List.mem_drop_iff_getElem.mp hx
    have := hhi (p + j) (by omega) (by omega)
    rwa [getD_mem (by omega)] at this
  have h' := h
  rw [← List.take_append_drop p ord, List.pairwise_append] at h'
  rw [List.pairwise_append, List.pairwise_cons]
  refine ⟨h'.1, ⟨fun x hx => .inl (hlt x hx), h'.2.1⟩, fun x hx y hy => ?_⟩
  rcases List.mem_cons.mp hy with rfl | hy
  · have h1 := hge x hx
    have h2 := hk x (List.mem_of_mem_take hx)
    by_cases e : lgAt l x = lgAt l y
    · exact .inr ⟨e, h2⟩
    · exact .inl (by omega)
  · exact h'.2.2 x hx y hy
theorem ordIns_mem_iff {l : List Info} {ord : List Int} {k x : Int} : x ∈ ordIns l ord k ↔ x ∈ ord ∨ (x = k ∧ permAt l k = true) := by
  unfold ordIns
  split
  · rename_i hp
    rw [List.mem_append, List.mem_cons]
    constructor
    · rintro (h | rfl | h)
      · exact .inl (List.mem_of_mem_take h)
      · exact .inr ⟨rfl, hp⟩
      · exact .inl (List.mem_of_mem_drop h)
    · rintro (h | ⟨rfl, -⟩)
      · rw [← List.take_append_drop (scan l (lgAt l k) ord ord.length) ord, List.mem_append] at h
        exact h.elim .inl fun h => .inr (.inr h)
      · exact .inr (.inl rfl)
  · rename_i hp
    constructor
    · exact .inl
    · rintro (h | ⟨-, h⟩)
      · exact h
      · exact absurd h hp
theorem orderK_pairwise_aux (l : List Info) : ∀ (ks ord : List Int), ord.Pairwise (Rk l) → (∀ x ∈ ord, ∀ y ∈ ks, x < y) → ks.Pairwise (· < ·) → (ks.foldl (ordIns l) ord).Pairwise (Rk l)
  | [], _, h, _, _ => h
  | k :: ks, ord, h, hx, hk => by
    rw [List.pairwise_cons] at hk
    rw [List.foldl_cons]
    refine orderK_pairwise_aux l ks _ (ordIns_pairwise h fun x hx' => hx x hx' k (.head _)) (fun x hx' y hy => ?_) hk.2
    rcases ordIns_mem_iff.mp hx' with h1 | ⟨rfl, -⟩
    · exact hx x h1 y (.tail _ hy)
    · exact hk.1 y hy
theorem orderK_pairwise (l : List Info) {ks : List Int} (hk : ks.Pairwise (· < ·)) : (orderK l ks).Pairwise (Rk l) := orderK_pairwise_aux l ks [] .nil (fun _ h => nomatch h) hk
theorem orderK_mem_aux (l : List Info) (x : Int) : ∀ (ks ord : List Int), x ∈ ks.foldl (ordIns l) ord ↔ x ∈ ord ∨ (x ∈ ks ∧ permAt l x = true)
  | [], ord => by simp
  | k :: ks, ord => by
    rw [List.foldl_cons, orderK_mem_aux l x ks, ordIns_mem_iff, List.mem_cons]
    constructor
    · rintro ((h | ⟨rfl, h⟩) | ⟨h1, h2⟩)
      · exact .inl h
      · exact .inr ⟨.inl rfl, h⟩
      · exact .inr ⟨.inr h1, h2⟩
    · rintro (h | ⟨rfl | h1, h2⟩)
      · exact .inl (.inl h)
      · exact .inl (.inr ⟨rfl, h2⟩)
      · exact .inr ⟨h1, h2⟩
theorem orderK_mem_iff (l : List Info) (ks : List Int) (x : Int) : x ∈ orderK l ks ↔ x ∈ ks ∧ permAt l x = true := by
  unfold orderK
  rw [orderK_mem_aux]
  simp
theorem nodup_of_pairwise {R : Int → Int → Prop} (hR : ∀ x, ¬ R x x) {l : List Int} (h : l.Pairwise R) : l.Nodup := by
  refine List.Pairwise.imp (S := fun a b => a ≠ b) (fun {a b} hab e => ?_) h
  subst e
  exact hR a hab
theorem orderK_nodup (l : List Info) {ks : List Int} (hk : ks.Pairwise (· < ·)) : (orderK l ks).Nodup := nodup_of_pairwise (fun _ h => h.asymm h) (orderK_pairwise l hk)
theorem eq_of_rel {R : Int → Int → Prop} (hR : ∀ x y, R x y → R y x → False) : ∀ {l1 l2 : List Int}, l1.Pairwise R → l2.Pairwise R → (∀ x, x ∈ l1 ↔ x ∈ l2) → l1 = l2
  | [], [], _, _, _ => rfl
  | [], b :: _, _, _, h => nomatch (h b).mpr (.head _)
  | a :: _, [], _, _, h => nomatch (h a).mp (.head _)
  | a :: l1, b :: l2, h1, h2, h => by
    have n1 := h1
    have n2 := h2
    rw [List.pairwise_cons] at h1 h2
    have e : a = b := by
      rcases List.mem_cons.mp ((h a).mp (.head _)) with e | ha
      · exact e
      rcases List.mem_cons.mp ((h b).mpr (.head _)) with e | hb
      · exact e.symm
      exact (hR a b (h1.1 b hb) (h2.1 a ha)).elim
    subst e
    rw [eq_of_rel hR h1.2 h2.2 fun x => ?_]
    have hx := h x
    rw [List.mem_cons, List.mem_cons] at hx
    constructor
    · intro hx1
      rcases hx.mp (.inr hx1) with rfl | hx2
      · exact (hR x x (h1.1 x hx1) (h1.1 x hx1)).elim
      · exact hx2
    · intro hx1
      rcases hx.mpr (.inr hx1) with rfl | hx2
      · exact (hR x x (h2.1 x hx1) (h2.1 x hx1)).elim
      · exact hx2
/-! perms -/
def permsL (l : List Info) (n : Nat) : List Int := l.foldl (fun f i => if i.kind = Str.ofString "perm" then f.set (i.slot - 1).toNat i.var else f) (List.replicate n 0)
theorem lt_of_perm {a : Int} {l : List Info} (h : Good a l) {ks : List Int} (hp : ks.Perm (l.map (·.var))) (hw : ks.Pairwise (· ≤ ·)) : ks.Pairwise (· < ·) := by
  have hn : ks.Nodup := hp.nodup_iff.mpr h.1
  exact hw.imp₂ (fun x y h1 (h2 : x ≠ y) => by omega) hn

end PPL2
section PPM
/-! perms -/
def PermOk (p : Plan) : Prop := p.l.length < 64 ∧ 0 ≤ p.size ∧ p.size ≤ 60 ∧ ∀ i ∈ p.l, i.kind = Str.ofString "perm" → 1 ≤ i.slot ∧ i.slot ≤ p.size
def permStep (f : List Int) (i : Info) : List Int := if i.kind = Str.ofString "perm" then f.set (i.slot - 1).toNat i.var else f
theorem permsL_fold (l : List Info) (n : Nat) : permsL l n = l.foldl permStep (List.replicate n 0) := rfl
theorem perm_len : ∀ (l : List Info) (f : List Int), (l.foldl permStep f).length = f.length
  | [], _ => rfl
  | i :: l, f => by
    rw [List.foldl_cons, perm_len l]
    unfold permStep
    split
    · exact List.length_set ..
    · rfl
theorem Sv.nodup {w : World} {D : Addr} {l : List Info} {own rest : Led} (h : Sv w D l own rest) : (l.map (·.var)).Nodup := let ⟨od, k⟩ := h; SvO.nodup (od := od) k
local macro_rules | `(tactic| walk_at "zz") => `(tactic| skip)
local macro_rules | `(tactic| walk_at "binaryOp Mult ref int") => `(tactic| (refine hold_of ?_))
local macro_rules | `(tactic| walk_at "setItem ref int") => `(tactic| (refine hold_of ?_))
theorem setL_some : ∀ {l : List Value} {k : Nat} (v : Value), k < l.length → ki_setL l k v = some (l.set k v)
  | [], _, _, h => absurd h (Nat.not_lt_zero _)
  | x :: r, 0, v, _ => rfl
  | x :: r, k + 1, v, h => by
    unfold ki_setL
    rw [setL_some v (Nat.lt_of_succ_lt_succ h)]
    rfl
theorem perms (r0 : Value) (p : Plan) (led : Led) (hP : PlanIn w led r0 p) (hok : PermOk p) :
    Ctr w loose mean mg mb 140 1 [r0] led (ListPost (fun vs _ => IntsAre vs (permsL p.l p.size.toNat)) led) := by
  refine ctr_intro ?_
  k_fill
  intro dp un gd cn cs a ccd cl outer A₀ base h₀ L m sH sG sD sT sO Q E B F X N T hk hd hu hret
  (try k_fold); (try (show (let GZ : Prop := _; GZ); intro GZ))
  obtain ⟨px, pd, D, C, cvs, cn', LV, lvs, ln, own, rest, e1, e2, e3, e4, e5, f1, f2, f3, f4, f5, f6, hpx, hpd, hC, hic, hLV, hil, hsub, hSv, lo⟩ := hP
  (try k_unfold)
  (try k_fold); (try (show (let GZ : Prop := _; GZ); intro GZ))
  obtain ⟨hl64, hs0, hs60, hslot⟩ := hok
  (try k_unfold)
  (try k_fold); (try (show (let GZ : Prop := _; GZ); intro GZ))
  obtain ⟨od, kvs, hDo, hdd, hkv, look⟩ := hSv.look
  (try k_unfold)
  have hDl := hsub _ hDo
  have hkvl : kvs.length = p.l.length := by have := congrArg List.length hkv; simpa using this
  refine wpAny_call ?_
  refine' code_def (binds := [(Str.ofString "self", .ref px)]) ?k1 ?k2 ?k3 ?k4 ?k5 ?kA ?kF ?kK ?k6 ?k7 ?k8 ?k9 ?kB ?_ ?c2 ?c3 ?c4 ?c5
  (case kA => exact rfl)
  (case kF => exact rfl)
  (case kK => assumption)
  (case k1 => exact B)
  (case k2 => exact F)
  (case k3 => exact X)
  (case k4 => exact N)
  (case k5 => exact T)
  (case k6 => k_is)
  (case k7 => k_is)
  (case k8 => ktr_room)
  (case k9 => exact BindsTo.of_eq rfl)
  (case c5 => decide)
  (case kB => exact locs rfl)
  (case c2 => exact rfl)
  (case c3 => exact rfl)
  (case c4 => exact rfl)
  clear B X T
  intro g L' h' FG' F' N' B' X' T'
  refine no_raise ?_
  (try dsimp only)
  (try k_fold)
  k_steps
  refine to_hold ?_
  (rename Fr _ _ _ _ => F9; rename News _ _ _ _ => N9)
  rename_i l9 _ ll9
  refine KM.mul (ns := [0]) F9 N9 ⟨_, (N9 _ (.head _)).1, rfl, 0, rfl⟩ (.cons 0 _ .nil) (by omega) (by omega) (by simp; omega) fun O h' F' N' lO hi _ _ _ _ _ => ?_
  clear F9 N9
  have hi0 : IntsAre (List.replicate p.size.toNat [Value.int 0 tk]).flatten (List.replicate p.size.toNat 0) := by
    have e : (List.replicate p.size.toNat [(0 : Int)]).flatten = List.replicate p.size.toNat 0 := List.flatten_replicate_singleton
    rw [← e]; exact hi
  have hlO : ∀ q ∈ led, @LT.lt Nat _ q.1 O := fun q hq => lO q (.tail _ hq)
  have hOoff : ∀ q ∈ led, q.1 ≠ O := fun q hq => Nat.ne_of_lt (hlO q hq)
  k_steps
  (rename Fr _ _ _ _ => F9; rename News _ _ _ _ => N9)
  refine for_rest (n := kvs.length)
    (fun i m nw => ∃ vs n, And4 (nw = (O, listOf vs.toArray n) :: led) (IntsAre vs ((p.l.take i).foldl permStep (List.replicate p.size.toNat 0))) (m (Str.ofString "self") = some (.ref px)) (m (Str.ofString "found") = some (.ref O)))
    (src_dict rfl D od kvs hdd lo) F9 (news_sub N9 (by walk_at "led_sub")) rfl rfl rfl ⟨_, _, rfl, hi0, rfl, rfl⟩ ?need ?turn ?done
  case need =>
    intro i m nw hz3 q hq
    (try (show (let GZ : Prop := _; GZ); intro GZ))
    obtain ⟨vs, n, rfl, -⟩ := hz3
    (try k_unfold)
    rw [List.mem_singleton.mp hq]
    exact .tail _ hDl
  case done =>
    clear F9 N9
    intro m1 nw h tk hz4 F' N'
    (try k_fold); (try (show (let GZ : Prop := _; GZ); intro GZ))
    obtain ⟨vs, n, rfl, hiv, m1s, m1f⟩ := hz4
    (try k_unfold)
    rw [hkvl, List.take_length] at hiv
    k_steps
    refine leaveK_ (by assumption) (by assumption) fun kF kN => ?_
    exact hret _ _ _ _ kF kN ⟨O, vs, n, [], rfl, rfl, hiv, above_cons (allLt_of hlO) above_nil⟩
  case turn =>
    clear F9 N9
    intro i v m1 nw I oI h tk hin hz9 hz10 hne F' N'
    (try (show (let GZ : Prop := _; GZ); intro GZ))
    obtain ⟨k, xv, tk0, hkx, rfl⟩ := hz9
    obtain ⟨vs, n, rfl, hiv, m1s, m1f⟩ := hz10
    (try k_unfold)
    obtain ⟨inf0, hinf0⟩ : ∃ inf0, p.l[i]? = some inf0 := ⟨_, List.getElem?_eq_getElem (by omega)⟩
    have hk0 : inf0.var = k := by
      have e1 : (kvs.map (·.1))[i]? = some k := by rw [List.getElem?_map, hkx]; rfl
      rw [hkv, List.getElem?_map, hinf0] at e1
      exact Option.some.inj e1
    have hmem0 := List.mem_of_getElem? hinf0
    (try (show (let GZ : Prop := _; GZ); intro GZ))
    obtain ⟨x, dx, o, inf, hvx, hxo, hdo, ho, hia⟩ := look k (List.mem_map.mpr ⟨inf0, hmem0, hk0⟩)
    (try k_unfold)
    have hinf : inf = inf0 := by
      have := infoAt_of_mem hSv.nodup hmem0
      rw [hk0, hia] at this
      exact Option.some.inj this
    subst hinf
    have hxl := hsub _ hxo
    have hdl := hsub _ hdo
    have hOI : @Ne Nat O I := hne (O, listOf vs.toArray n) (.head _)
    have hIO := Ne.symm hOI
    have hneR : ∀ q ∈ led, q.1 ≠ I := fun q hq => hne q (.tail _ hq)
    have hlen := hiv.length
    rw [perm_len, List.length_replicate] at hlen
    rw [take_snoc hinf0, List.foldl_append]
    generalize (p.l.take i).foldl permStep (List.replicate p.size.toNat 0) = ns at hiv ⊢
    (try k_fold); (try (show (let GZ : Prop := _; GZ); intro GZ))
    obtain ⟨t0', t1', t2', t3', t4', t5', t6', t7', t8', u0', u1', u2', u3', u5', u6', u7', u8'⟩ := ho
    (try k_unfold)
    (try k_fold)
    by_cases hkind : inf.kind = Str.ofString "perm"
    · have hs := hslot inf hmem0 hkind
      rw [hkind] at hdl
      k_steps
      refine to_hold ?_
      (rename Fr _ _ _ _ => F9; rename News _ _ _ _ => N9)
      refine ki_set F9 N9 (by omega) (by omega) (q := vs.set (inf.slot - 1).toNat (.int k tk0)) ?he (Upd.tail hIO (Upd.head hOoff)) fun h' F' N' => ?_
      case he => exact setL_some _ (show _ < vs.length by omega)
      clear F9 N9
      k_steps
      (rename Fr _ _ _ _ => F9; rename News _ _ _ _ => N9)
      refine turn_next F9 N9 (ne_cons hOI hneR) ⟨_, n, rfl, ?_, m1s, m1f⟩
      show IntsAre _ (permStep ns inf)
      rw [permStep, if_pos hkind, hk0]
      exact ints_set hiv _
    · k_steps
      (rename Fr _ _ _ _ => F9; rename News _ _ _ _ => N9)
      refine turn_next F9 N9 (ne_cons hOI hneR) ⟨_, n, rfl, ?_, m1s, m1f⟩
      show IntsAre _ (permStep ns inf)
      rw [permStep, if_neg hkind]
      exact hiv

end PPM
section PKP
/-! _law_kept, _law_grown -/
/-- a row of the law's check upon a ledger -/
structure KRow where
  var : Int
  kind : Str
  first : Str
  lg : Int
  uns : Bool
  count : Int
  deriving DecidableEq
inductive KRow.at (r : KRow) (o : Obj) : Prop
  | mk (t1 t2 t3 t4 t5 : Tok) (n : Nat) (e : o = tupO [.int r.var t1, .str r.kind t2, .str r.first t3, .int r.lg t4, .bool r.uns, .int r.count t5] n) : KRow.at r o
inductive RowPost (row : KRow) (led : Led) (r : Value) (led' : Led) : Prop
  | mk (a : Addr) (oa : Obj) (new : Led) (e : r = .ref a) (el : led' = (a, oa) :: (new ++ led)) (h : row.at oa) (hab : Above ((a, oa) :: new) led) : RowPost row led r led'
def keptR (i : Info) : KRow := ⟨i.var, i.kind, i.first, i.last_goal, i.uns, i.count⟩
theorem law_kept (x dx : Addr) (o : Obj) (i : Info) (led : Led) (hx : (x, instObj 94 dx) ∈ led) (hdx : (dx, o) ∈ led) (ho : InfoObj w o i) :
    Ctr w loose mean mg mb 257 1 [.ref x] led (fun r led' => ∃ a oa, r = .ref a ∧ led' = (a, oa) :: led ∧ (keptR i).at oa ∧ ∀ q ∈ led, q.1 < a) := by
  refine ctr_intro ?_
  k_fill
  intro dp un gd cn cs a ccd cl outer A₀ base h₀ L m sH sG sD sT sO Q E B F X N T hk hd hu hret
  (try k_fold); (try (show (let GZ : Prop := _; GZ); intro GZ))
  obtain ⟨t0, t1, t2, t3, t4, t5, t6, t7, t8, u0, u1, u2, u3, u5, u6, u7, u8⟩ := ho
  (try k_unfold)
  refine wpAny_call ?_
  refine' code_def (binds := [(Str.ofString "info", .ref x)]) ?k1 ?k2 ?k3 ?k4 ?k5 ?kA ?kF ?kK ?k6 ?k7 ?k8 ?k9 ?kB ?_ ?c2 ?c3 ?c4 ?c5
  (case kA => exact rfl)
  (case kF => exact rfl)
  (case kK => assumption)
  (case k1 => exact B)
  (case k2 => exact F)
  (case k3 => exact X)
  (case k4 => exact N)
  (case k5 => exact T)
  (case k6 => k_is)
  (case k7 => k_is)
  (case k8 => ktr_room)
  (case k9 => exact BindsTo.of_eq rfl)
  (case c5 => decide)
  (case kB => exact locs rfl)
  (case c2 => exact rfl)
  (case c3 => exact rfl)
  (case c4 => exact rfl)
  clear B X T
  intro g L' h' FG' F' N' B' X' T'
  refine no_raise ?_
  (try dsimp only)
  (try k_fold)
  k_steps
  refine leaveK_ (by assumption) (by assumption) fun kF kN => ?_
  exact hret _ _ _ _ kF kN ⟨_, _, rfl, rfl, ⟨_, _, _, _, _, _, rfl⟩, by assumption⟩
inductive PairIn (led : Led) (v : Value) (f : Int × Str) : Prop
  | mk (a : Addr) (t t' : Tok) (n : Nat) (e : v = .ref a) (hm : (a, tupO [.int f.1 t, .str f.2 t'] n) ∈ led) : PairIn led v f
theorem PairIn.mono {led led' : Led} {v : Value} {f : Int × Str} (h : PairIn led v f) (hs : ∀ p ∈ led, p ∈ led') : PairIn led' v f := let ⟨a, t, t', n, e, hm⟩ := h; ⟨a, t, t', n, e, hs _ hm⟩
inductive StrsAre : List Value → List Str → Prop
  | nil : StrsAre [] []
  | cons (x : Str) (t : Tok) {vs : List Value} {xs : List Str} : StrsAre vs xs → StrsAre (.str x t :: vs) (x :: xs)
theorem StrsAre.length {vs : List Value} {xs : List Str} (h : StrsAre vs xs) : vs.length = xs.length := by
  induction h with
  | nil => rfl
  | cons _ _ _ ih => simp [ih]
theorem StrsAre.snoc {vs : List Value} {xs : List Str} (h : StrsAre vs xs) (x : Str) (t : Tok) : StrsAre (vs ++ [.str x t]) (xs ++ [x]) := by
  induction h with
  | nil => exact .cons x t .nil
  | cons y u _ ih => exact .cons y u ih
theorem StrsAre.head {vs : List Value} {xs : List Str} (h : StrsAre vs xs) (hne : xs ≠ []) : ∃ wd tw, xs.headD (Str.ofString "") = wd ∧ vs[0]? = some (.str wd tw) := by
  cases h with
  | nil => exact absurd rfl hne
  | cons wd tw _ => exact ⟨wd, tw, rfl, rfl⟩
theorem wordsOf_snoc (fs : List (Int × Str)) (f : Int × Str) (k : Int) : wordsOf (fs ++ [f]) k = if f.1 = k then wordsOf fs k ++ [f.2] else wordsOf fs k := by
  unfold wordsOf
  rw [List.filter_append, List.map_append]
  by_cases h : f.1 = k <;> simp [h]
theorem news_inj {h₀ h : Heap} {L a : Addr} {news : Led} {o1 o2 : Obj} (N : News h₀ L h news) (h1 : (a, o1) ∈ news) (h2 : (a, o2) ∈ news) : o1 = o2 := Option.some.inj ((N _ h1).1.symm.trans (N _ h2).1)
theorem pair_inj {v1 v2 u1 u2 : Value} {n k : Nat} (h : tupO [v1, v2] n = tupO [u1, u2] k) : v1 = u1 ∧ v2 = u2 := by
  injection h with _ _ h3
  injection h3 with h4
  have h5 := congrArg Array.toList h4
  simp at h5
  exact h5
local macro_rules | `(tactic| walk_at "subscriptTail") => `(tactic| (k_dflt (refine lv_item (a := 0) ‹_› (by k_mem) ‹_› (by first | rfl | omega) (by omega) ?_)))
theorem law_grownN (k : Int) (tk0 : Tok) (O : Addr) (fvs : List Value) (fn : Nat) (fs : List (Int × Str)) (chunk : Int) (tc : Tok) (place : Int) (tp : Tok) (led : Led) (hO : (O, listOf fvs.toArray fn) ∈ led) (hf : All2 (PairIn led) fvs fs) (hlen : fs.length ≤ 50) (hne : wordsOf fs k ≠ []) :
    Ctr w loose mean mg mb 262 1 [.int k tk0, .none, .ref O, .int chunk tc, .int place tp] led (RowPost (KRow.mk k (if ((wordsOf fs k).length : Int) = 1 then Str.ofString "void" else Str.ofString "temp") ((wordsOf fs k).headD (Str.ofString "")) place false ((wordsOf fs k).length : Int)) led) := by
  refine ctr_intro ?_
  k_fill
  intro dp un gd cn cs a ccd cl outer A₀ base h₀ L m sH sG sD sT sO Q E B F X N T hk hd hu hret
  refine wpAny_call ?_
  refine' code_defC (binds := [(Str.ofString "number", .int k tk0), (Str.ofString "was", .none), (Str.ofString "found", .ref O), (Str.ofString "chunk", .int chunk tc), (Str.ofString "place", .int place tp)]) ?k1 ?k2 ?k3 ?k4 ?k5 ?kA ?kF ?kK ?k6 ?k7 ?k8 ?k9 ?kB ?kD ?_ ?c2 ?c3 ?c4
  (case kA => exact rfl)
  (case kF => exact rfl)
  (case kK => assumption)
  (case k1 => exact B)
  (case k2 => exact F)
  (case k3 => exact X)
  (case k4 => exact N)
  (case k5 => exact T)
  (case k6 => k_is)
  (case k7 => k_is)
  (case k8 => ktr_room)
  (case k9 => exact BindsTo.of_eq rfl)
  (case kB => exact rfl)
  (case kD => decide +kernel)
  (case c2 => exact rfl)
  (case c3 => exact rfl)
  (case c4 => exact rfl)
  clear B X T
  intro g L' h' tk' cells' FG' F' N' Y' B' X' T' l1
  (try k_lt l1)
  k_cells Y'
  (try simp only [List.cons_append, List.nil_append] at N')
  refine no_raise ?_
  (try dsimp only)
  (try k_fold)
  (rename Obj => oc)
  k_steps
  (rename Fr _ _ _ _ => F9; rename News _ _ _ _ => N9)
  refine comp_restA (n := fvs.toArray.size) (fun i ys nw => nw = (L' + 1, oc) :: led ∧ StrsAre ys (wordsOf (fs.take i) k)) (src_mono (need' := (L' + 1, oc) :: led) (src_list rfl O fvs.toArray fn) (fun p hp => by rw [List.mem_singleton.mp hp]; exact .tail _ hO)) (by rw [List.size_toArray, sizeLine_eq, hf.length]; omega) (by decide) rfl
    (tgt_pair rfl rfl rfl (by decide) rfl (fun i v hv => by
      (try k_fold); (try (show (let GZ : Prop := _; GZ); intro GZ))
      obtain ⟨f, -, a, t, t', n, rfl, hm⟩ := All2.get hf i v (by simpa using hv)
      (try k_unfold)
      exact ⟨a, _, _, n, rfl, .tail _ hm⟩)) F9 N9 ⟨rfl, by simp only [List.take_zero]; exact .nil⟩ (fun i ys nw h p hp => by rw [h.1]; exact hp) ?turn ?done
  case turn =>
    clear F9 N9
    intro i v ys nw I oI C oC D m₂ h tk hin hv hz14 hns hz16 F' N' hoff hIC hID hCD
    (try (show (let GZ : Prop := _; GZ); intro GZ))
    obtain ⟨rfl, hys⟩ := hz14
    obtain ⟨t9, v1, v2, n9, rfl, hm9, hb1, hb2⟩ := hz16
    (try k_unfold)
    (try (show (let GZ : Prop := _; GZ); intro GZ))
    obtain ⟨f, hfi, a9, t, t', n, he, hm⟩ := All2.get hf i _ (by simpa using hv)
    (try k_unfold)
    cases he
    have h9 := news_inj N' (.tail _ (.tail _ (.tail _ hm9))) (.tail _ (.tail _ (.tail _ (.tail _ hm))))
    obtain ⟨rfl, rfl⟩ := pair_inj h9
    rw [take_snoc hfi, wordsOf_snoc]
    refine tests_one ?_
    k_steps
    · rename_i hc
      exact ⟨_, _, _, rfl, F', N', hoff, rfl, by rw [if_pos hc]; exact hys.snoc _ _⟩
    · rename_i hc
      exact ⟨_, _, _, rfl, F', N', hoff, rfl, by rw [if_neg hc]; exact hys⟩
  case done =>
    clear F9 N9
    rintro D C oC ys nw h tk K ⟨rfl, hys⟩ F' N' hoff hCD hlt hK
    rw [show fvs.toArray.size = fs.length from by rw [List.size_toArray, hf.length], List.take_length] at hys
    have hyl := hys.length
    k_steps
    refine hK _ _ _ ((D, LCg.lst ys) :: (L' + 1, oc) :: led) (by assumption) (by assumption) (ne_cons (Ne.symm hCD) fun p hp => (hoff p hp).2) fun h'' tk'' F9 N9 => ?_
    rename_i N8
    clear N8
    (try dsimp only)
    have hDl : AllLt D led := allLt_of fun p hp => hlt p (.tail _ hp)
    obtain ⟨nw, hnw⟩ : ∃ nw, nw = (wordsOf fs k).length := ⟨_, rfl⟩
    have hyl : ys.length = nw := by rw [hnw]; exact hys.length
    have hnb : nw ≤ 50 := by rw [hnw]; unfold wordsOf; rw [List.length_map]; exact Nat.le_trans (List.length_filter_le _ _) hlen
    (try k_fold); (try (show (let GZ : Prop := _; GZ); intro GZ))
    obtain ⟨wd, tw, hhd, hy0⟩ := hys.head hne
    (try k_unfold)
    rw [← hnw, hhd] at hret
    by_cases hone : (nw : Int) = 1
    all_goals first | rw [if_pos hone] at hret | rw [if_neg hone] at hret
    all_goals k_steps
    all_goals refine leaveK_ (by assumption) (by assumption) fun kF kN => ?_
    all_goals refine hret _ _ _ _ kF (news_sub (l' := (_, _) :: ([(D, LCg.lst ys)] ++ led)) kN (by walk_at "led_sub")) ⟨_, _, [(D, LCg.lst ys)], rfl, rfl, ⟨_, _, _, _, _, _, rfl⟩, ?_⟩
    all_goals exact above_cons (by walk_at "ands"; assumption) (above_cons hDl above_nil)
theorem law_grownS (k : Int) (tk0 : Tok) (O : Addr) (fvs : List Value) (fn : Nat) (fs : List (Int × Str)) (chunk : Int) (tc : Tok) (place : Int) (tp : Tok) (led : Led) (hO : (O, listOf fvs.toArray fn) ∈ led) (hf : All2 (PairIn led) fvs fs) (hlen : fs.length ≤ 50) (x dx : Addr) (o : Obj) (i : Info) (hx : (x, instObj 94 dx) ∈ led) (hdx : (dx, o) ∈ led) (ho : InfoObj w o i) :
    Ctr w loose mean mg mb 262 1 [.int k tk0, .ref x, .ref O, .int chunk tc, .int place tp] led (RowPost (KRow.mk k (if i.first_chunk < chunk then Str.ofString "perm" else if i.count + ((wordsOf fs k).length : Int) = 1 then Str.ofString "void" else Str.ofString "temp") i.first place (if i.first_chunk < chunk then (i.first == Str.ofString "goal_arg") else false) (i.count + ((wordsOf fs k).length : Int))) led) := by
  refine ctr_intro ?_
  k_fill
  intro dp un gd cn cs a ccd cl outer A₀ base h₀ L m sH sG sD sT sO Q E B F X N T hk hd hu hret
  refine wpAny_call ?_
  refine' code_defC (binds := [(Str.ofString "number", .int k tk0), (Str.ofString "was", .ref x), (Str.ofString "found", .ref O), (Str.ofString "chunk", .int chunk tc), (Str.ofString "place", .int place tp)]) ?k1 ?k2 ?k3 ?k4 ?k5 ?kA ?kF ?kK ?k6 ?k7 ?k8 ?k9 ?kB ?kD ?_ ?c2 ?c3 ?c4
  (case kA => exact rfl)
  (case kF => exact rfl)
  (case kK => assumption)
  (case k1 => exact B)
  (case k2 => exact F)
  (case k3 => exact X)
  (case k4 => exact N)
  (case k5 => exact T)
  (case k6 => k_is)
  (case k7 => k_is)
  (case k8 => ktr_room)
  (case k9 => exact BindsTo.of_eq rfl)
  (case kB => exact rfl)
  (case kD => decide +kernel)
  (case c2 => exact rfl)
  (case c3 => exact rfl)
  (case c4 => exact rfl)
  clear B X T
  intro g L' h' tk' cells' FG' F' N' Y' B' X' T' l1
  (try k_lt l1)
  k_cells Y'
  (try simp only [List.cons_append, List.nil_append] at N')
  refine no_raise ?_
  (try dsimp only)
  (try k_fold)
  (rename Obj => oc)
  k_steps
  (rename Fr _ _ _ _ => F9; rename News _ _ _ _ => N9)
  refine comp_restA (n := fvs.toArray.size) (fun i ys nw => nw = (L' + 1, oc) :: led ∧ StrsAre ys (wordsOf (fs.take i) k)) (src_mono (need' := (L' + 1, oc) :: led) (src_list rfl O fvs.toArray fn) (fun p hp => by rw [List.mem_singleton.mp hp]; exact .tail _ hO)) (by rw [List.size_toArray, sizeLine_eq, hf.length]; omega) (by decide) rfl
    (tgt_pair rfl rfl rfl (by decide) rfl (fun i v hv => by
      (try k_fold); (try (show (let GZ : Prop := _; GZ); intro GZ))
      obtain ⟨f, -, a, t, t', n, rfl, hm⟩ := All2.get hf i v (by simpa using hv)
      (try k_unfold)
      exact ⟨a, _, _, n, rfl, .tail _ hm⟩)) F9 N9 ⟨rfl, by simp only [List.take_zero]; exact .nil⟩ (fun i ys nw h p hp => by rw [h.1]; exact hp) ?turn ?done
  case turn =>
    clear F9 N9
    intro i v ys nw I oI C oC D m₂ h tk hin hv hz14 hns hz16 F' N' hoff hIC hID hCD
    (try (show (let GZ : Prop := _; GZ); intro GZ))
    obtain ⟨rfl, hys⟩ := hz14
    obtain ⟨t9, v1, v2, n9, rfl, hm9, hb1, hb2⟩ := hz16
    (try k_unfold)
    (try (show (let GZ : Prop := _; GZ); intro GZ))
    obtain ⟨f, hfi, a9, t, t', n, he, hm⟩ := All2.get hf i _ (by simpa using hv)
    (try k_unfold)
    cases he
    have h9 := news_inj N' (.tail _ (.tail _ (.tail _ hm9))) (.tail _ (.tail _ (.tail _ (.tail _ hm))))
    obtain ⟨rfl, rfl⟩ := pair_inj h9
    rw [take_snoc hfi, wordsOf_snoc]
    refine tests_one ?_
    k_steps
    · rename_i hc
      exact ⟨_, _, _, rfl, F', N', hoff, rfl, by rw [if_pos hc]; exact hys.snoc _ _⟩
    · rename_i hc
      exact ⟨_, _, _, rfl, F', N', hoff, rfl, by rw [if_neg hc]; exact hys⟩
  case done =>
    clear F9 N9
    rintro D C oC ys nw h tk K ⟨rfl, hys⟩ F' N' hoff hCD hlt hK
    rw [show fvs.toArray.size = fs.length from by rw [List.size_toArray, hf.length], List.take_length] at hys
    have hyl := hys.length
    k_steps
    refine hK _ _ _ ((D, LCg.lst ys) :: (L' + 1, oc) :: led) (by assumption) (by assumption) (ne_cons (Ne.symm hCD) fun p hp => (hoff p hp).2) fun h'' tk'' F9 N9 => ?_
    rename_i N8
    clear N8
    (try dsimp only)
    have hDl : AllLt D led := allLt_of fun p hp => hlt p (.tail _ hp)
    obtain ⟨nw, hnw⟩ : ∃ nw, nw = (wordsOf fs k).length := ⟨_, rfl⟩
    have hyl : ys.length = nw := by rw [hnw]; exact hys.length
    have hnb : nw ≤ 50 := by rw [hnw]; unfold wordsOf; rw [List.length_map]; exact Nat.le_trans (List.length_filter_le _ _) hlen
    rw [← hnw] at hret
    (try k_fold); (try (show (let GZ : Prop := _; GZ); intro GZ))
    obtain ⟨t0', t1', t2', t3', t4', t5', t6', t7', t8', u0', u1', u2', u3', u5', u6', u7', u8'⟩ := ho
    (try k_unfold)
    by_cases hfc : i.first_chunk < chunk
    · rw [if_pos hfc, if_pos hfc] at hret
      k_steps
      refine leaveK_ (by assumption) (by assumption) fun kF kN => ?_
      refine hret _ _ _ _ kF (news_sub (l' := (_, _) :: ([(D, LCg.lst ys)] ++ led)) kN (by walk_at "led_sub")) ⟨_, _, [(D, LCg.lst ys)], rfl, rfl, ⟨_, _, _, _, _, _, rfl⟩, ?_⟩
      exact above_cons (by walk_at "ands"; assumption) (above_cons hDl above_nil)
    · rw [if_neg hfc, if_neg hfc] at hret
      by_cases hone : i.count + (nw : Int) = 1
      all_goals first | rw [if_pos hone] at hret | rw [if_neg hone] at hret
      all_goals k_steps
      all_goals refine leaveK_ (by assumption) (by assumption) fun kF kN => ?_
      all_goals refine hret _ _ _ _ kF (news_sub (l' := (_, _) :: ([(D, LCg.lst ys)] ++ led)) kN (by walk_at "led_sub")) ⟨_, _, [(D, LCg.lst ys)], rfl, rfl, ⟨_, _, _, _, _, _, rfl⟩, ?_⟩
      all_goals exact above_cons (by walk_at "ands"; assumption) (above_cons hDl above_nil)

end PKP
section PPL3
/-! the plain law, 3: what law asks -/
def calledB (gs : List Goal) : Bool := match gs[gs.length - 1]? with | some g => g.isCall | none => false
def surv (es : List Side) (gs : List Goal) : List Info := survI (headL es) gs gs.length
theorem finL_map (es : List Side) (gs : List Goal) : finL es gs = (surv es gs).map fin1 := kindI_all _
def ordL (es : List Side) (gs : List Goal) (ks : List Int) : List Int := orderK (finL es gs) ks
theorem planL_l {es : List Side} {gs : List Goal} {ks : List Int} (hk : ks.Pairwise (· < ·)) : (planL es gs ks).l = (surv es gs).map (fun i => setS (ordL es gs ks) (fin1 i)) := by
  show slotI _ _ _ = _
  rw [slotI_all _ _ (orderK_nodup _ hk)]
  unfold ordL
  conv => lhs; rw [finL_map es gs]
  rw [List.map_map, finL_map]
  rfl
theorem plan_info {es : List Side} {gs : List Goal} {ks : List Int} (hk : ks.Pairwise (· < ·)) (x : Int) : infoAt (planL es gs ks).l x = (infoAt (surv es gs) x).map (fun i => setS (ordL es gs ks) (fin1 i)) := by
  rw [planL_l hk, infoAt_map]
  intro i
  exact setS_var _ _
theorem needI_any (gs : List Goal) : ∀ i, i ≤ gs.length → needI gs i = (gs.take (min i (gs.length - 1))).any Goal.isCall
  | 0, _ => by simp [needI]
  | i + 1, h => by
    have hi : i < gs.length := h
    rw [needI, needI_any gs i (by omega), List.getElem?_eq_getElem hi]
    by_cases hl : i + 1 < gs.length
    · rw [Nat.min_eq_left (by omega), Nat.min_eq_left (by omega), take_snoc (List.getElem?_eq_getElem hi), List.any_append]
      simp [hl]
    · have hi2 : i = gs.length - 1 := by omega
      rw [Nat.min_eq_left (by omega), Nat.min_eq_right (by omega), ← hi2]
      simp [hl]
theorem need_law (es : List Side) (gs : List Goal) (g : Goal) (ks0 ks1 : List Int) : (planL es (gs ++ [g]) ks1).need = ((planL es gs ks0).need || calledB gs) := by
  show needI (gs ++ [g]) (gs ++ [g]).length = (needI gs gs.length || calledB gs)
  rw [needI_any _ _ (Nat.le_refl _), needI_any _ _ (Nat.le_refl _), List.length_append, List.length_singleton]
  rw [Nat.min_eq_right (by omega), Nat.min_eq_right (by omega), Nat.add_sub_cancel, List.take_append_of_le_length (Nat.le_refl _), List.take_length]
  unfold calledB
  cases h : gs[gs.length - 1]? with
  | none =>
    have : gs = [] := by
      cases gs with
      | nil => rfl
      | cons a r => simp at h
    subst this
    rfl
  | some gl =>
    have e : gs = gs.take (gs.length - 1) ++ [gl] := by
      have h0 : 0 < gs.length := by
        have := (List.getElem?_eq_some_iff.mp h).1
        omega
      have := take_snoc h
      rw [show gs.length - 1 + 1 = gs.length by omega, List.take_length] at this
      exact this
    conv => lhs; rw [e]
    rw [List.any_append]
    simp
def r7 : List Int := (List.range 7).map fun (j : Nat) => (j : Int)
def mineL (g : Goal) : List Int := r7.filter fun k => decide (k ∈ g.found.map (·.1))
theorem r7_lt : r7.Pairwise (· < ·) := by decide
theorem r7_mem {x : Int} : x ∈ r7 ↔ 0 ≤ x ∧ x < 7 := by
  unfold r7
  rw [List.mem_map]
  constructor
  · rintro ⟨j, hj, rfl⟩
    have := List.mem_range.mp hj
    omega
  · rintro ⟨h1, h2⟩
    exact ⟨x.toNat, List.mem_range.mpr (by omega), by omega⟩
section
variable {es : List Side} {gs : List Goal} {g : Goal} {ks0 ks1 : List Int} (hes : ∀ s ∈ es, s.ok) (hgs : ∀ g ∈ gs, g.ok) (hg : g.ok)
theorem surv_good (hes : ∀ s ∈ es, s.ok) (hgs : ∀ g ∈ gs, g.ok) : Good gs.length (surv es gs) := Good.surv (Good.head hes) hgs gs.length
theorem surv_snoc : surv es (gs ++ [g]) = goalL (surv es gs) gs.length (gs.foldl chunkStep 0) g := survI_snoc _ _ _
theorem surv_info (x : Int) : infoAt (surv es (gs ++ [g])) x = grow gs.length (gs.foldl chunkStep 0) x (infoAt (surv es gs) x) (wordsOf g.found x) := by rw [surv_snoc, goalL_info]
theorem side_found_range {s : Side} (h : s.ok) : ∀ f ∈ s.found, 0 ≤ f.1 ∧ f.1 < 7 := by
  cases s with
  | atom => exact fun _ h => nomatch h
  | var k =>
    intro f hf
    rw [List.mem_singleton.mp hf]
    exact ⟨h.1, by have := h.2; show k < 7; omega⟩
  | s2 k j =>
    intro f hf
    rcases List.mem_cons.mp hf with rfl | hf
    · exact ⟨h.1.1, by have := h.1.2; show k < 7; omega⟩
    · rw [List.mem_singleton.mp hf]
      exact ⟨h.2.1, by have := h.2.2; show j < 7; omega⟩
theorem found_range (hg : g.ok) : ∀ f ∈ g.found, 0 ≤ f.1 ∧ f.1 < 7 := by
  cases g with
  | mark =>
    intro f hf
    rw [List.mem_singleton.mp hf]
    decide
  | cutto =>
    intro f hf
    rw [List.mem_singleton.mp hf]
    decide
  | fail => exact fun _ h => nomatch h
  | unify a b => exact fun f hf => (List.mem_append.mp hf).elim (side_found_range hg.1 f) (side_found_range hg.2 f)
  | call ss =>
    intro f hf
    obtain ⟨s, hs, hf⟩ := List.mem_flatMap.mp hf
    exact side_found_range (hg.2 s hs) f hf
  | builtin ss =>
    intro f hf
    obtain ⟨s, hs, hf⟩ := List.mem_flatMap.mp hf
    exact side_found_range (hg.2 s hs) f hf
theorem mineL_mem (hg : g.ok) {x : Int} : x ∈ mineL g ↔ x ∈ g.found.map (·.1) := by
  unfold mineL
  rw [List.mem_filter, decide_eq_true_eq]
  constructor
  · exact fun h => h.2
  · intro h
    refine ⟨r7_mem.mpr ?_, h⟩
    obtain ⟨f, hf, rfl⟩ := List.mem_map.mp h
    exact found_range hg f hf
theorem plan_vars (es : List Side) (gs : List Goal) (ks : List Int) : (planL es gs ks).l.map (·.var) = (surv es gs).map (·.var) := by
  show (slotI _ _ _).map (·.var) = _
  rw [slotI_vars]
  exact kindI_vars _ _
theorem fin_vars (es : List Side) (gs : List Goal) : (finL es gs).map (·.var) = (surv es gs).map (·.var) := kindI_vars _ _
theorem keys_step (x : Int) : x ∈ (surv es (gs ++ [g])).map (·.var) ↔ x ∈ g.found.map (·.1) ∨ x ∈ (surv es gs).map (·.var) := by
  rw [← infoAt_isSome, ← infoAt_isSome, surv_info]
  cases hw : wordsOf g.found x with
  | nil =>
    have := wordsOf_nil.mp hw
    simp [grow, this]
  | cons wd ws =>
    have : x ∈ g.found.map (·.1) := by
      have h : ¬ wordsOf g.found x = [] := by rw [hw]; exact List.cons_ne_nil _ _
      exact Classical.not_not.mp fun h' => h (wordsOf_nil.mpr h')
    cases infoAt (surv es gs) x <;> simp [grow, this]
theorem keys_law (hes : ∀ s ∈ es, s.ok) (hgs : ∀ g ∈ gs, g.ok) (hg : g.ok) {ks : List Int} (hp : ks.Perm ((planL es (gs ++ [g]) ks1).l.map (·.var))) (hw : ks.Pairwise (· ≤ ·)) :
    ks = r7.filter fun k => decide (k ∈ mineL g) || decide (k ∈ (planL es gs ks0).l.map (·.var)) := by
  have hgs1 : ∀ x ∈ gs ++ [g], x.ok := fun x hx => (List.mem_append.mp hx).elim (hgs x) fun h => by rw [List.mem_singleton.mp h]; exact hg
  have hG := surv_good hes hgs1
  rw [plan_vars] at hp
  have hlt := lt_of_perm hG hp hw
  refine eq_of_rel (R := (· < ·)) (fun x y h1 h2 => by omega) hlt (r7_lt.filter _) fun x => ?_
  rw [hp.mem_iff, List.mem_filter, Bool.or_eq_true, decide_eq_true_eq, decide_eq_true_eq, plan_vars, mineL_mem hg, keys_step]
  constructor
  · intro h
    refine ⟨?_, h⟩
    rw [← keys_step] at h
    obtain ⟨i, hi, rfl⟩ := List.mem_map.mp h
    have := hG.2 i hi
    exact r7_mem.mpr ⟨this.1, this.2.1⟩
  · exact fun h => h.2
end

end PPL3
section PPL4
/-! the plain law, 4: rows, slots, lives -/
theorem infoAt_lg {l : List Info} {x : Int} {i : Info} (h : infoAt l x = some i) : lgAt l x = i.last_goal := by unfold lgAt; rw [h]
theorem infoAt_perm {l : List Info} {x : Int} {i : Info} (h : infoAt l x = some i) : permAt l x = (i.kind == Str.ofString "perm") := by unfold permAt; rw [h]
theorem fin_info (es : List Side) (gs : List Goal) (x : Int) : infoAt (finL es gs) x = (infoAt (surv es gs) x).map fin1 := by rw [finL_map, infoAt_map (surv es gs) fin1 (fun _ => rfl)]
theorem kind_perm (i : Info) : (kindL i == Str.ofString "perm") = true ↔ ¬ i.count = 1 ∧ i.first_chunk < i.last_chunk := by
  unfold kindL
  by_cases h1 : i.count = 1
  · rw [if_pos h1]
    simp [h1]
    decide
  · rw [if_neg h1]
    by_cases h2 : i.first_chunk < i.last_chunk
    · rw [if_pos h2]; simp [h1, h2]
    · rw [if_neg h2]; simp [h2]; decide
/-- what a plan says of a variable, out of the survey -/
def planI (i : Info) : KRow := ⟨i.var, kindL i, i.first, i.last_goal, (kindL i == Str.ofString "perm") && (i.first == Str.ofString "goal_arg"), i.count⟩
theorem lt_keys {es : List Side} {gs : List Goal} {ks : List Int} (hes : ∀ s ∈ es, s.ok) (hgs : ∀ g ∈ gs, g.ok) (hp : ks.Perm ((finL es gs).map (·.var))) (hw : ks.Pairwise (· ≤ ·)) : ks.Pairwise (· < ·) := by
  rw [fin_vars] at hp
  exact lt_of_perm (surv_good hes hgs) hp hw
theorem ord_mem {es : List Side} {gs : List Goal} {ks : List Int} (hp : ks.Perm ((finL es gs).map (·.var))) (x : Int) : x ∈ ordL es gs ks ↔ ∃ i, infoAt (surv es gs) x = some i ∧ (kindL i == Str.ofString "perm") = true := by
  unfold ordL
  rw [orderK_mem_iff, hp.mem_iff, fin_vars, ← infoAt_isSome]
  constructor
  · rintro ⟨h1, h2⟩
    obtain ⟨i, hi⟩ := Option.isSome_iff_exists.mp h1
    refine ⟨i, hi, ?_⟩
    rw [infoAt_perm (i := fin1 i) (by rw [fin_info, hi]; rfl)] at h2
    exact h2
  · rintro ⟨i, hi, hk⟩
    refine ⟨by rw [hi]; rfl, ?_⟩
    rw [infoAt_perm (i := fin1 i) (by rw [fin_info, hi]; rfl)]
    exact hk
theorem plan_row {es : List Side} {gs : List Goal} {ks : List Int} (hes : ∀ s ∈ es, s.ok) (hgs : ∀ g ∈ gs, g.ok) (hp : ks.Perm ((finL es gs).map (·.var))) (hw : ks.Pairwise (· ≤ ·)) {x : Int} {i : Info} (h : infoAt (planL es gs ks).l x = some i) :
    ∃ j, infoAt (surv es gs) x = some j ∧ keptR i = planI j ∧ i.kind = kindL j ∧ i.first = j.first ∧ i.last_goal = j.last_goal ∧ i.count = j.count ∧ i.first_chunk = j.first_chunk ∧ j.var = x ∧ (x ∈ ordL es gs ks → i.slot = (((ordL es gs ks).idxOf x : Nat) : Int) + 1) := by
  rw [plan_info (lt_keys hes hgs hp hw)] at h
  cases hj : infoAt (surv es gs) x with
  | none => rw [hj] at h; cases h
  | some j =>
    rw [hj] at h
    have hi : i = setS (ordL es gs ks) (fin1 j) := (Option.some.inj h).symm
    have hv := infoAt_var hj
    have hm := ord_mem hp x
    have hG := (surv_good hes hgs).2 j (infoAt_mem hj)
    refine ⟨j, rfl, ?_⟩
    by_cases hk : (kindL j == Str.ofString "perm") = true
    · have hx : x ∈ ordL es gs ks := hm.mpr ⟨j, hj, hk⟩
      have e : setS (ordL es gs ks) (fin1 j) = { fin1 j with slot := (((ordL es gs ks).idxOf j.var : Nat) : Int) + 1, uns := (j.first == Str.ofString "goal_arg") } := by
        unfold setS
        rw [if_pos (by show j.var ∈ _; rw [hv]; exact hx)]
        rfl
      rw [hi, e]
      refine ⟨?_, rfl, rfl, rfl, rfl, rfl, hv, fun _ => by rw [← hv]⟩
      unfold keptR planI
      rw [hk, Bool.true_and]
      rfl
    · have hx : x ∉ ordL es gs ks := fun hx => by
        obtain ⟨j', hj', hk'⟩ := hm.mp hx
        rw [hj] at hj'
        cases hj'
        exact hk hk'
      have e : setS (ordL es gs ks) (fin1 j) = fin1 j := by
        unfold setS
        rw [if_neg (by show ¬ j.var ∈ _; rw [hv]; exact hx)]
      rw [hi, e]
      refine ⟨?_, rfl, rfl, rfl, rfl, rfl, hv, fun h => absurd h hx⟩
      unfold keptR planI
      rw [Bool.eq_false_iff.mpr hk, Bool.false_and]
      show KRow.mk j.var (kindL j) j.first j.last_goal j.uns j.count = _
      rw [hG.2.2.2.1]
theorem strOk_kind (i : Info) : PyData.strOk (kindL i) = true := by
  unfold kindL
  split
  · decide +kernel
  · split <;> decide +kernel
section
variable {es : List Side} {gs : List Goal} {g : Goal} {ks0 ks1 : List Int}
theorem kindL_met (a c n : Int) (j : Info) : kindL (metI a c n j) = if j.count + n = 1 then Str.ofString "void" else if j.first_chunk < c then Str.ofString "perm" else Str.ofString "temp" := rfl
/-- a variable of the goal, met before -/
theorem row_grownS (hes : ∀ s ∈ es, s.ok) (hgs : ∀ g ∈ gs, g.ok) (hg : g.ok) (hp0 : ks0.Perm ((finL es gs).map (·.var))) (hw0 : ks0.Pairwise (· ≤ ·)) (hp1 : ks1.Perm ((finL es (gs ++ [g])).map (·.var))) (hw1 : ks1.Pairwise (· ≤ ·))
    {x : Int} {i0 i1 : Info} (h0 : infoAt (planL es gs ks0).l x = some i0) (h1 : infoAt (planL es (gs ++ [g]) ks1).l x = some i1) (hm : x ∈ mineL g) :
    keptR i1 = KRow.mk x (if i0.first_chunk < gs.foldl chunkStep 0 then Str.ofString "perm" else if i0.count + ((wordsOf g.found x).length : Int) = 1 then Str.ofString "void" else Str.ofString "temp") i0.first gs.length
      (if i0.first_chunk < gs.foldl chunkStep 0 then (i0.first == Str.ofString "goal_arg") else false) (i0.count + ((wordsOf g.found x).length : Int)) := by
  have hgs1 : ∀ y ∈ gs ++ [g], y.ok := fun y hy => (List.mem_append.mp hy).elim (hgs y) fun h => by rw [List.mem_singleton.mp h]; exact hg
  (try (show (let GZ : Prop := _; GZ); intro GZ))
  obtain ⟨j0, hj0, -, -, hf0, -, hc0, hfc0, hv0, -⟩ := plan_row hes hgs hp0 hw0 h0
  (try k_unfold)
  (try (show (let GZ : Prop := _; GZ); intro GZ))
  obtain ⟨j1, hj1, hk1, -⟩ := plan_row hes hgs1 hp1 hw1 h1
  (try k_unfold)
  have hG := (surv_good hes hgs).2 j0 (infoAt_mem hj0)
  rw [surv_info, hj0] at hj1
  rw [hk1, hc0, hf0, hfc0]
  cases hws : wordsOf g.found x with
  | nil => exact absurd ((mineL_mem hg).mp hm) (wordsOf_nil.mp hws)
  | cons wd ws =>
    rw [hws] at hj1
    have e : j1 = metI gs.length (gs.foldl chunkStep 0) (((wd :: ws).length : Nat) : Int) j0 := (Option.some.inj hj1).symm
    have hn : (((wd :: ws).length : Nat) : Int) = (ws.length : Int) + 1 := by simp
    rw [e]
    generalize gs.foldl chunkStep 0 = c
    by_cases hfc : j0.first_chunk < c
    · have hne : ¬ j0.count + (((wd :: ws).length : Nat) : Int) = 1 := by have := hG.2.2.2.2.1; omega
      have hk : kindL (metI gs.length c (((wd :: ws).length : Nat) : Int) j0) = Str.ofString "perm" := by
        rw [kindL_met, if_neg hne, if_pos hfc]
      unfold planI
      rw [hk, if_pos hfc, if_pos hfc]
      show KRow.mk j0.var _ j0.first _ _ _ = _
      rw [hv0]
      simp [metI]
    · have hk : kindL (metI gs.length c (((wd :: ws).length : Nat) : Int) j0) = if j0.count + (((wd :: ws).length : Nat) : Int) = 1 then Str.ofString "void" else Str.ofString "temp" := by
        rw [kindL_met]
        by_cases h1 : j0.count + (((wd :: ws).length : Nat) : Int) = 1
        · rw [if_pos h1, if_pos h1]
        · rw [if_neg h1, if_neg h1, if_neg hfc]
      unfold planI
      rw [hk, if_neg hfc, if_neg hfc]
      show KRow.mk j0.var _ j0.first _ _ _ = _
      rw [hv0]
      have hb : ((if j0.count + (((wd :: ws).length : Nat) : Int) = 1 then Str.ofString "void" else Str.ofString "temp") == Str.ofString "perm") = false := by
        by_cases h1 : j0.count + (((wd :: ws).length : Nat) : Int) = 1
        · rw [if_pos h1]; rfl
        · rw [if_neg h1]; rfl
      rw [hb, Bool.false_and]
      rfl
theorem row_grownN (hes : ∀ s ∈ es, s.ok) (hgs : ∀ g ∈ gs, g.ok) (hg : g.ok) (hp1 : ks1.Perm ((finL es (gs ++ [g])).map (·.var))) (hw1 : ks1.Pairwise (· ≤ ·))
    {x : Int} {i1 : Info} (h0 : x ∉ (planL es gs ks0).l.map (·.var)) (h1 : infoAt (planL es (gs ++ [g]) ks1).l x = some i1) (hm : x ∈ mineL g) :
    wordsOf g.found x ≠ [] ∧ keptR i1 = KRow.mk x (if ((wordsOf g.found x).length : Int) = 1 then Str.ofString "void" else Str.ofString "temp") ((wordsOf g.found x).headD (Str.ofString "")) gs.length false ((wordsOf g.found x).length : Int) := by
  have hgs1 : ∀ y ∈ gs ++ [g], y.ok := fun y hy => (List.mem_append.mp hy).elim (hgs y) fun h => by rw [List.mem_singleton.mp h]; exact hg
  (try k_fold); (try (show (let GZ : Prop := _; GZ); intro GZ))
  obtain ⟨j1, hj1, hk1, -⟩ := plan_row hes hgs1 hp1 hw1 h1
  (try k_unfold)
  have hne : wordsOf g.found x ≠ [] := fun h => wordsOf_nil.mp h ((mineL_mem hg).mp hm)
  refine ⟨hne, ?_⟩
  rw [plan_vars, ← infoAt_none] at h0
  rw [surv_info, h0] at hj1
  rw [hk1]
  cases hws : wordsOf g.found x with
  | nil => exact absurd hws hne
  | cons wd ws =>
    rw [hws] at hj1
    have e : j1 = newI x wd gs.length (gs.foldl chunkStep 0) (((wd :: ws).length : Nat) : Int) := (Option.some.inj hj1).symm
    rw [e]
    generalize gs.foldl chunkStep 0 = c
    have hk : kindL (newI x wd gs.length c (((wd :: ws).length : Nat) : Int)) = if (((wd :: ws).length : Nat) : Int) = 1 then Str.ofString "void" else Str.ofString "temp" := by
      unfold kindL newI
      simp only [Int.zero_add, Int.lt_irrefl, if_false]
    unfold planI
    rw [hk]
    have hb : ((if (((wd :: ws).length : Nat) : Int) = 1 then Str.ofString "void" else Str.ofString "temp") == Str.ofString "perm") = false := by
      by_cases h1 : (((wd :: ws).length : Nat) : Int) = 1
      · rw [if_pos h1]; rfl
      · rw [if_neg h1]; rfl
    rw [hb, Bool.false_and]
    show KRow.mk x _ wd _ _ (0 + _) = _
    rw [Int.zero_add]
    rfl
theorem row_kept (hes : ∀ s ∈ es, s.ok) (hgs : ∀ g ∈ gs, g.ok) (hg : g.ok) (hp0 : ks0.Perm ((finL es gs).map (·.var))) (hw0 : ks0.Pairwise (· ≤ ·)) (hp1 : ks1.Perm ((finL es (gs ++ [g])).map (·.var))) (hw1 : ks1.Pairwise (· ≤ ·))
    {x : Int} {i1 : Info} (h1 : infoAt (planL es (gs ++ [g]) ks1).l x = some i1) (hm : x ∉ mineL g) :
    x ∈ (planL es gs ks0).l.map (·.var) ∧ ∀ i0, infoAt (planL es gs ks0).l x = some i0 → keptR i1 = keptR i0 := by
  have hgs1 : ∀ y ∈ gs ++ [g], y.ok := fun y hy => (List.mem_append.mp hy).elim (hgs y) fun h => by rw [List.mem_singleton.mp h]; exact hg
  (try k_fold); (try (show (let GZ : Prop := _; GZ); intro GZ))
  obtain ⟨j1, hj1, hk1, -⟩ := plan_row hes hgs1 hp1 hw1 h1
  (try k_unfold)
  have hws : wordsOf g.found x = [] := wordsOf_nil.mpr fun h => hm ((mineL_mem hg).mpr h)
  rw [surv_info, hws] at hj1
  have hj1 : infoAt (surv es gs) x = some j1 := hj1
  refine ⟨by rw [plan_vars, ← infoAt_isSome, hj1]; rfl, fun i0 h0 => ?_⟩
  (try (show (let GZ : Prop := _; GZ); intro GZ))
  obtain ⟨j0, hj0, hk0, -⟩ := plan_row hes hgs hp0 hw0 h0
  (try k_unfold)
  rw [hj1] at hj0
  cases hj0
  rw [hk1, hk0]
theorem row_ok (hes : ∀ s ∈ es, s.ok) (hgs : ∀ g ∈ gs, g.ok) (hp0 : ks0.Perm ((finL es gs).map (·.var))) (hw0 : ks0.Pairwise (· ≤ ·)) {x : Int} {i0 : Info} (h0 : infoAt (planL es gs ks0).l x = some i0) : PyData.strOk (keptR i0).kind = true ∧ PyData.strOk (keptR i0).first = true := by
  (try (show (let GZ : Prop := _; GZ); intro GZ))
  obtain ⟨j0, hj0, hk0, -⟩ := plan_row hes hgs hp0 hw0 h0
  (try k_unfold)
  rw [hk0]
  exact ⟨strOk_kind j0, ((surv_good hes hgs).2 j0 (infoAt_mem hj0)).2.2.2.2.2⟩
end

end PPL4
section PPL5
/-! the plain law, 5: perms, order, lives -/
theorem set_map {ord : List Int} (hn : ord.Nodup) (S : List Int) {v : Int} (hv : v ∈ ord) :
    (ord.map fun k => if k ∈ S then k else 0).set (ord.idxOf v) v = ord.map fun k => if k ∈ v :: S then k else 0 := by
  refine List.ext_getElem (by simp) fun t h1 h2 => ?_
  rw [List.getElem_set, List.getElem_map, List.getElem_map]
  have ht : t < ord.length := by simpa using h2
  by_cases e : ord.idxOf v = t
  · rw [if_pos e]
    have : ord[t] = v := by
      subst e
      exact List.getElem_idxOf ht
    rw [this, if_pos (List.mem_cons_self ..)]
  · rw [if_neg e]
    have hne : ord[t] ≠ v := by
      intro e2
      refine e ?_
      rw [← e2]
      exact hn.idxOf_getElem t ht
    by_cases hS : ord[t] ∈ S
    · rw [if_pos hS, if_pos (List.mem_cons_of_mem _ hS)]
    · rw [if_neg hS, if_neg (by rw [List.mem_cons, not_or]; exact ⟨hne, hS⟩)]
theorem fold_perm {ord : List Int} (hn : ord.Nodup) : ∀ (l : List Info) (S : List Int), (∀ i ∈ l, i.kind = Str.ofString "perm" → i.var ∈ ord ∧ i.slot = ((ord.idxOf i.var : Nat) : Int) + 1) → (∀ i ∈ l, ¬ i.kind = Str.ofString "perm" → i.var ∉ ord) →
    l.foldl permStep (ord.map fun k => if k ∈ S then k else 0) = ord.map fun k => if k ∈ S ∨ k ∈ l.map (·.var) then k else 0
  | [], S, _, _ => by simp
  | i :: l, S, h1, h2 => by
    have e : permStep (ord.map fun k => if k ∈ S then k else 0) i = ord.map fun k => if k ∈ i.var :: S then k else 0 := by
      unfold permStep
      by_cases hk : i.kind = Str.ofString "perm"
      · rw [if_pos hk]
        obtain ⟨hv, hs⟩ := h1 i (.head _) hk
        rw [hs, show ((((ord.idxOf i.var : Nat) : Int) + 1) - 1).toNat = ord.idxOf i.var by omega]
        exact set_map hn S hv
      · rw [if_neg hk]
        have hv := h2 i (.head _) hk
        refine List.map_congr_left fun k hk => ?_
        have hne : k ≠ i.var := fun e => hv (e ▸ hk)
        by_cases hS : k ∈ S
        · rw [if_pos hS, if_pos (List.mem_cons_of_mem _ hS)]
        · rw [if_neg hS, if_neg (by rw [List.mem_cons, not_or]; exact ⟨hne, hS⟩)]
    rw [List.foldl_cons, e, fold_perm hn l (i.var :: S) (fun j hj => h1 j (.tail _ hj)) fun j hj => h2 j (.tail _ hj)]
    refine List.map_congr_left fun k _ => ?_
    have : (k ∈ i.var :: S ∨ k ∈ l.map (·.var)) ↔ (k ∈ S ∨ k ∈ (i :: l).map (·.var)) := by
      simp only [List.map_cons, List.mem_cons]
      constructor
      · rintro ((h | h) | h)
        · exact .inr (.inl h)
        · exact .inl h
        · exact .inr (.inr h)
      · rintro (h | h | h)
        · exact .inl (.inr h)
        · exact .inl (.inl h)
        · exact .inr h
    by_cases hc : k ∈ S ∨ k ∈ (i :: l).map (·.var)
    · rw [if_pos hc, if_pos (this.mpr hc)]
    · rw [if_neg hc, if_neg fun h => hc (this.mp h)]
section
variable {es : List Side} {gs : List Goal} {g : Goal} {ks ks0 ks1 : List Int}
theorem plan_nodup (hes : ∀ s ∈ es, s.ok) (hgs : ∀ g ∈ gs, g.ok) : ((planL es gs ks).l.map (·.var)).Nodup := by rw [plan_vars]; exact (surv_good hes hgs).1
theorem plan_mem (hes : ∀ s ∈ es, s.ok) (hgs : ∀ g ∈ gs, g.ok) (hp : ks.Perm ((finL es gs).map (·.var))) (hw : ks.Pairwise (· ≤ ·)) {i : Info} (hi : i ∈ (planL es gs ks).l) :
    (i.kind = Str.ofString "perm" → i.var ∈ ordL es gs ks ∧ i.slot = (((ordL es gs ks).idxOf i.var : Nat) : Int) + 1) ∧ (¬ i.kind = Str.ofString "perm" → i.var ∉ ordL es gs ks) := by
  have h := infoAt_of_mem (plan_nodup (ks := ks) hes hgs) hi
  (try (show (let GZ : Prop := _; GZ); intro GZ))
  obtain ⟨j, hj, -, hk, -, -, -, -, hv, hs⟩ := plan_row hes hgs hp hw h
  (try k_unfold)
  have hm := ord_mem hp i.var
  rw [hk]
  constructor
  · intro hkp
    have hx : i.var ∈ ordL es gs ks := hm.mpr ⟨j, hj, by rw [hkp]; simp⟩
    exact ⟨hx, hs hx⟩
  · intro hkp hx
    obtain ⟨j', hj', hk'⟩ := hm.mp hx
    rw [hj] at hj'
    cases hj'
    exact hkp (by simpa using hk')
theorem ord_nodup (hes : ∀ s ∈ es, s.ok) (hgs : ∀ g ∈ gs, g.ok) (hp : ks.Perm ((finL es gs).map (·.var))) (hw : ks.Pairwise (· ≤ ·)) : (ordL es gs ks).Nodup := orderK_nodup _ (lt_keys hes hgs hp hw)
theorem ord_vars (hp : ks.Perm ((finL es gs).map (·.var))) {x : Int} (hx : x ∈ ordL es gs ks) : x ∈ (planL es gs ks).l.map (·.var) := by
  obtain ⟨i, hi, -⟩ := (ord_mem hp x).mp hx
  rw [plan_vars, ← infoAt_isSome, hi]
  rfl
theorem perms_law (hes : ∀ s ∈ es, s.ok) (hgs : ∀ g ∈ gs, g.ok) (hp : ks.Perm ((finL es gs).map (·.var))) (hw : ks.Pairwise (· ≤ ·)) : permsL (planL es gs ks).l (planL es gs ks).size.toNat = ordL es gs ks := by
  have hn := ord_nodup hes hgs hp hw
  have h := fold_perm hn (planL es gs ks).l [] (fun i hi => (plan_mem hes hgs hp hw hi).1) fun i hi => (plan_mem hes hgs hp hw hi).2
  rw [permsL_fold]
  have e1 : List.replicate (planL es gs ks).size.toNat (0 : Int) = (ordL es gs ks).map fun k => if k ∈ ([] : List Int) then k else 0 := by
    show List.replicate (((ordL es gs ks).length : Int)).toNat 0 = _
    rw [Int.toNat_natCast]
    refine List.ext_getElem (by simp) fun t h1 h2 => ?_
    simp
  rw [e1, h]
  conv => rhs; rw [← List.map_id (ordL es gs ks)]
  refine List.map_congr_left fun k hk => ?_
  rw [if_pos (.inr (ord_vars hp hk))]
  rfl
theorem perm_ok (hes : ∀ s ∈ es, s.ok) (hgs : ∀ g ∈ gs, g.ok) (hp : ks.Perm ((finL es gs).map (·.var))) (hw : ks.Pairwise (· ≤ ·)) (hl : (planL es gs ks).l.length ≤ 60) : PermOk (planL es gs ks) := by
  have hsz : (planL es gs ks).size = ((ordL es gs ks).length : Int) := rfl
  have hol : (ordL es gs ks).length ≤ 60 := by
    have h1 := orderK_length (finL es gs) ks []
    have h2 := hp.length_eq
    have h3 := congrArg List.length (plan_vars es gs ks)
    have h4 := congrArg List.length (fin_vars es gs)
    simp only [List.length_nil, List.length_map] at h1 h2 h3 h4
    unfold ordL orderK
    omega
  refine ⟨by omega, by rw [hsz]; omega, by rw [hsz]; omega, fun i hi hk => ?_⟩
  obtain ⟨hx, hs⟩ := (plan_mem hes hgs hp hw hi).1 hk
  have := List.idxOf_lt_length_of_mem hx
  rw [hs, hsz]
  omega
/-! how the order grows -/
def lastingL (es : List Side) (gs : List Goal) (g : Goal) (ks1 : List Int) : List Int := (mineL g).filter fun k => permAt (planL es (gs ++ [g]) ks1).l k
def restL (es : List Side) (gs : List Goal) (g : Goal) (ks0 : List Int) : List Int := (ordL es gs ks0).filter fun k => !decide (k ∈ mineL g)
theorem ok_snoc (hgs : ∀ g ∈ gs, g.ok) (hg : g.ok) : ∀ y ∈ gs ++ [g], y.ok := fun y hy => (List.mem_append.mp hy).elim (hgs y) fun h => by rw [List.mem_singleton.mp h]; exact hg
theorem surv_other (hg : g.ok) {x : Int} (hm : x ∉ mineL g) : infoAt (surv es (gs ++ [g])) x = infoAt (surv es gs) x := by
  rw [surv_info, wordsOf_nil.mpr fun h => hm ((mineL_mem hg).mpr h)]
  rfl
theorem surv_mine (hg : g.ok) {x : Int} (hm : x ∈ mineL g) : ∃ i, infoAt (surv es (gs ++ [g])) x = some i ∧ i.last_goal = gs.length := by
  rw [surv_info]
  cases hws : wordsOf g.found x with
  | nil => exact absurd ((mineL_mem hg).mp hm) (wordsOf_nil.mp hws)
  | cons wd ws =>
    cases infoAt (surv es gs) x with
    | none => exact ⟨_, rfl, rfl⟩
    | some i => exact ⟨_, rfl, rfl⟩
theorem lg_fin (x : Int) {i : Info} (h : infoAt (surv es gs) x = some i) : lgAt (finL es gs) x = i.last_goal := infoAt_lg (i := fin1 i) (by rw [fin_info, h]; rfl)
theorem lg_mine (hg : g.ok) {x : Int} (hm : x ∈ mineL g) : lgAt (finL es (gs ++ [g])) x = gs.length := by
  obtain ⟨i, hi, hl⟩ := surv_mine (es := es) (gs := gs) hg hm
  rw [lg_fin x hi, hl]
theorem lg_other (hg : g.ok) {x : Int} (hm : x ∉ mineL g) : lgAt (finL es (gs ++ [g])) x = lgAt (finL es gs) x := by
  unfold lgAt
  rw [fin_info, fin_info, surv_other hg hm]
theorem lg_lt (hes : ∀ s ∈ es, s.ok) (hgs : ∀ g ∈ gs, g.ok) (hp : ks.Perm ((finL es gs).map (·.var))) {x : Int} (hx : x ∈ ordL es gs ks) : lgAt (finL es gs) x < gs.length := by
  obtain ⟨i, hi, -⟩ := (ord_mem hp x).mp hx
  rw [lg_fin x hi]
  exact ((surv_good hes hgs).2 i (infoAt_mem hi)).2.2.1
theorem permAt_plan (hes : ∀ s ∈ es, s.ok) (hgs : ∀ g ∈ gs, g.ok) (hp : ks.Perm ((finL es gs).map (·.var))) (hw : ks.Pairwise (· ≤ ·)) (x : Int) : permAt (planL es gs ks).l x = true ↔ x ∈ ordL es gs ks := by
  rw [ord_mem hp]
  constructor
  · intro h
    cases hi : infoAt (planL es gs ks).l x with
    | none => unfold permAt at h; rw [hi] at h; cases h
    | some i =>
      rw [infoAt_perm hi] at h
      (try k_fold); (try (show (let GZ : Prop := _; GZ); intro GZ))
      obtain ⟨j, hj, -, hk, -⟩ := plan_row hes hgs hp hw hi
      (try k_unfold)
      exact ⟨j, hj, by rw [← hk]; exact h⟩
  · rintro ⟨j, hj, hk⟩
    have hs : (infoAt (planL es gs ks).l x).isSome = true := by rw [infoAt_isSome, plan_vars, ← infoAt_isSome, hj]; rfl
    obtain ⟨i, hi⟩ := Option.isSome_iff_exists.mp hs
    (try (show (let GZ : Prop := _; GZ); intro GZ))
    obtain ⟨j', hj', -, hk', -⟩ := plan_row hes hgs hp hw hi
    (try k_unfold)
    rw [hj] at hj'
    cases hj'
    rw [infoAt_perm hi, hk']
    exact hk
theorem rest_pairwise (hes : ∀ s ∈ es, s.ok) (hgs : ∀ g ∈ gs, g.ok) (hp0 : ks0.Perm ((finL es gs).map (·.var))) (hw0 : ks0.Pairwise (· ≤ ·)) : (restL es gs g ks0).Pairwise (Rk (finL es gs)) := (orderK_pairwise _ (lt_keys hes hgs hp0 hw0)).filter _
theorem rest_mem {x : Int} : x ∈ restL es gs g ks0 ↔ x ∈ ordL es gs ks0 ∧ x ∉ mineL g := by
  unfold restL
  rw [List.mem_filter]
  simp
theorem order_law (hes : ∀ s ∈ es, s.ok) (hgs : ∀ g ∈ gs, g.ok) (hg : g.ok) (hp0 : ks0.Perm ((finL es gs).map (·.var))) (hw0 : ks0.Pairwise (· ≤ ·)) (hp1 : ks1.Perm ((finL es (gs ++ [g])).map (·.var))) (hw1 : ks1.Pairwise (· ≤ ·)) :
    ordL es (gs ++ [g]) ks1 = lastingL es gs g ks1 ++ restL es gs g ks0 := by
  have hgs1 := ok_snoc hgs hg
  refine eq_of_rel (R := Rk (finL es (gs ++ [g]))) (fun x y h k => h.asymm k) (orderK_pairwise _ (lt_keys hes hgs1 hp1 hw1)) ?_ fun x => ?_
  · rw [List.pairwise_append]
    refine ⟨?_, ?_, ?_⟩
    · have h : (lastingL es gs g ks1).Pairwise (· < ·) := (r7_lt.filter _).filter _
      refine List.Pairwise.imp_of_mem (fun {x y} hx hy hxy => ?_) h
      have h1 := (List.mem_filter.mp hx).1
      have h2 := (List.mem_filter.mp hy).1
      exact .inr ⟨by rw [lg_mine hg h1, lg_mine hg h2], hxy⟩
    · refine List.Pairwise.imp_of_mem (fun {x y} hx hy hxy => ?_) (rest_pairwise (g := g) hes hgs hp0 hw0)
      have h1 := (rest_mem.mp hx).2
      have h2 := (rest_mem.mp hy).2
      unfold Rk
      rw [lg_other hg h1, lg_other hg h2]
      exact hxy
    · intro x hx y hy
      have h1 := (List.mem_filter.mp hx).1
      have h2 := rest_mem.mp hy
      refine .inl ?_
      rw [lg_mine hg h1, lg_other hg h2.2]
      exact lg_lt hes hgs hp0 h2.1
  · rw [List.mem_append, rest_mem]
    unfold lastingL
    rw [List.mem_filter, permAt_plan hes hgs1 hp1 hw1]
    constructor
    · intro hx
      by_cases hm : x ∈ mineL g
      · exact .inl ⟨hm, hx⟩
      · refine .inr ⟨?_, hm⟩
        rw [ord_mem hp1, surv_other hg hm] at hx
        exact (ord_mem hp0 x).mpr hx
    · rintro (h | ⟨hx, hm⟩)
      · exact h.2
      · rw [ord_mem hp1, surv_other hg hm]
        exact (ord_mem hp0 x).mp hx
theorem takeWhile_desc (f : Int → Int) (a : Int) : ∀ (l : List Int), l.Pairwise (fun x y => f y ≤ f x) → (l.takeWhile fun k => decide (a < f k)) = l.filter fun k => decide (a < f k)
  | [], _ => rfl
  | x :: l, h => by
    rw [List.pairwise_cons] at h
    rw [List.takeWhile_cons, List.filter_cons]
    by_cases hx : a < f x
    · rw [if_pos (by simpa using hx), if_pos (by simpa using hx), takeWhile_desc f a l h.2]
    · rw [if_neg (by simpa using hx), if_neg (by simpa using hx)]
      symm
      rw [List.filter_eq_nil_iff]
      intro y hy
      have := h.1 y hy
      simp
      omega
theorem lgAt_plan (x : Int) : lgAt (planL es gs ks).l x = lgAt (finL es gs) x := slotI_lg _ _ _ _
theorem lives_law (hes : ∀ s ∈ es, s.ok) (hgs : ∀ g ∈ gs, g.ok) (hg : g.ok) (hp0 : ks0.Perm ((finL es gs).map (·.var))) (hw0 : ks0.Pairwise (· ≤ ·)) (hp1 : ks1.Perm ((finL es (gs ++ [g])).map (·.var))) (hw1 : ks1.Pairwise (· ≤ ·)) :
    (planL es (gs ++ [g]) ks1).lives = ((List.range gs.length).map fun (a : Nat) => (((lastingL es gs g ks1).length : Nat) : Int) + (((restL es gs g ks0).filter fun k => decide ((a : Int) < lgAt (planL es gs ks0).l k)).length : Int)) ++ [0] := by
  have hgs1 := ok_snoc hgs hg
  show (List.range (gs ++ [g]).length).map (liveAt (finL es (gs ++ [g])) (ordL es (gs ++ [g]) ks1)) = _
  rw [List.length_append, List.length_singleton, List.range_succ, List.map_append]
  congr 1
  · refine List.map_congr_left fun a ha => ?_
    have han := List.mem_range.mp ha
    unfold liveAt
    rw [order_law hes hgs hg hp0 hw0 hp1 hw1, List.takeWhile_append_of_pos, List.length_append]
    · rw [takeWhile_desc (lgAt (finL es (gs ++ [g])))]
      · have e : (restL es gs g ks0).filter (fun k => decide ((a : Int) < lgAt (finL es (gs ++ [g])) k)) = (restL es gs g ks0).filter (fun k => decide ((a : Int) < lgAt (planL es gs ks0).l k)) := by
          refine List.filter_congr fun k hk => ?_
          rw [lgAt_plan, lg_other hg (rest_mem.mp hk).2]
        rw [e]
        omega
      · refine List.Pairwise.imp_of_mem (fun {x y} hx hy hxy => ?_) (rest_pairwise (g := g) hes hgs hp0 hw0)
        rw [lg_other hg (rest_mem.mp hx).2, lg_other hg (rest_mem.mp hy).2]
        rcases hxy with h | h <;> omega
    · intro x hx
      have := lg_mine (es := es) (gs := gs) hg (List.mem_filter.mp hx).1
      simp only [decide_eq_true_eq]
      rw [this]
      omega
  · rw [List.map_cons, List.map_nil]
    congr 1
    unfold liveAt
    have h : ∀ x ∈ ordL es (gs ++ [g]) ks1, ¬ ((gs.length : Int) < lgAt (finL es (gs ++ [g])) x) := by
      intro x hx
      have := lg_lt hes hgs1 hp1 hx
      rw [List.length_append, List.length_singleton] at this
      omega
    cases ho : ordL es (gs ++ [g]) ks1 with
    | nil => rfl
    | cons x r =>
      rw [List.takeWhile_cons, if_neg]
      · rfl
      · have := h x (by rw [ho]; exact .head _)
        simpa using this
end

end PPL5
section PCL
local macro_rules | `(tactic| walk_at "subscriptTail") => `(tactic| (k_dflt (refine lv_item ‹_› (by k_mem) ‹_› (by first | rfl | omega) (by omega) ?_)))
local macro_rules | `(tactic| walk_at "subscriptTail") => `(tactic| (k_dflt (refine li_item ‹_› (by k_mem) ‹_› ‹_› (by first | rfl | omega) (by omega) ?_); intro _))
local macro_rules | `(tactic| walk_at "exec While") => `(tactic| (refine hold_of ?_))
theorem special_nc {g : Goal} (h : 0 ≤ g.special) : g.isCall = false := by cases g <;> first | rfl | exact absurd h (by simp [Goal.special])
theorem classify (kx kd gl ar : Addr) (h1 h2 h3 h4 : Int) (t1 t2 t3 t4 : Tok) (fv cv : Value) (gvs : List Value) (gn : Nat) (gs : List Goal) (avs : List Value) (an : Nat) (args : List Side) (rest : Led)
    (hkx : (kx, instObj 59 kd) ∈ rest) (hkd : (kd, dictOf [⟨h1, .str (Str.ofString "functor") t1, fv⟩, ⟨h2, .str (Str.ofString "args") t2, .ref ar⟩, ⟨h3, .str (Str.ofString "goals") t3, .ref gl⟩, ⟨h4, .str (Str.ofString "count") t4, cv⟩] 4) ∈ rest)
    (hgl : (gl, listOf gvs.toArray gn) ∈ rest) (hg : All2 (GoalIn rest) gvs gs) (hgs : gs.length ≤ 7) (hgok : ∀ g ∈ gs, g.ok) (har : (ar, tupO avs an) ∈ rest) (ha : SidesIn rest avs args) (has : args.length ≤ 4) :
    Ctr w loose mean mg mb 217 5 [.ref kx] rest
      (fun r led' => ∃ new ks, led' = new ++ rest ∧ Apart new rest ∧ PlanIn w new r (planL args gs ks) ∧ ks.Perm ((finL args gs).map (·.var)) ∧ ks.Pairwise (· ≤ ·)) := by
  refine ctr_intro ?_
  k_fill
  intro dp un gd cn cs a ccd cl outer A₀ base h₀ L m sH sG sD sT sO Q E B F X N T hk hd hu hret
  refine wpAny_call ?_
  refine' code_def (binds := [(Str.ofString "kernel", .ref kx)]) ?k1 ?k2 ?k3 ?k4 ?k5 ?kA ?kF ?kK ?k6 ?k7 ?k8 ?k9 ?kB ?_ ?c2 ?c3 ?c4 ?c5
  (case kA => exact rfl)
  (case kF => exact rfl)
  (case kK => assumption)
  (case k1 => exact B)
  (case k2 => exact F)
  (case k3 => exact X)
  (case k4 => exact N)
  (case k5 => exact T)
  (case k6 => k_is)
  (case k7 => k_is)
  (case k8 => ktr_room)
  (case k9 => exact BindsTo.of_eq rfl)
  (case c5 => decide)
  (case kB => exact locs rfl)
  (case c2 => exact rfl)
  (case c3 => exact rfl)
  (case c4 => exact rfl)
  clear B X T
  intro g L' h' FG' F' N' B' X' T'
  refine no_raise ?_
  (try dsimp only)
  (try k_fold)
  k_steps
  refine to_hold ?_
  (rename Fr _ _ _ _ => F1)
  (rename News _ _ _ _ => N1)
  refine' ctr_use (chunk_numbers gl gvs gn gs rest hgl hg (by omega)) ?kB F1 ?kX (N1) ?kT rfl ?hd ?hu ?_
  (case kB => exact B')
  (case kX => exact X')
  (case kT => exact T')
  (case hd => first | (dsimp only [ktrTop]; omega) | decide)
  (case hu => first | (dsimp only [ktrTop]; omega) | decide)
  clear F1 N1
  intro r led' h' tk' F' N' hz6
  (try k_fold); (try (show (let GZ : Prop := _; GZ); intro GZ))
  obtain ⟨C, cvs, cn', rfl, rfl, hic, hC⟩ := hz6
  (try k_unfold)
  k_steps
  rename_i sx sd hCc l1 l2 g9 L9 hD9 B9 X9 T9 _ _ tk9 D hE od lo hs9 fs9 hid fi9 l3 hF F9 N9 Tc kX hG Fm Nm
  clear F9 N9 B9 X9 T9 hs9 fs9 fi9 Tc kX
  have hN : ∃ ts hs, News g L' hG ((D, od) :: (sx, instObj 192 sd) :: (sd, dictOf [⟨hs, .str (Str.ofString "infos") ts, .ref D⟩] 1) :: (C, listOf cvs.toArray cn') :: rest) := ⟨_, _, Nm⟩
  clear Nm
  obtain ⟨tsI, hsI, Nm⟩ := hN
  obtain ⟨R0, hR0⟩ : ∃ R0 : Led, R0 = (sx, instObj 192 sd) :: (sd, dictOf [⟨hsI, .str (Str.ofString "infos") tsI, .ref D⟩] 1) :: (C, listOf cvs.toArray cn') :: rest := ⟨_, rfl⟩
  rw [← hR0] at Nm
  have m0sx : (sx, instObj 192 sd) ∈ R0 := by rw [hR0]; exact .head _
  have m0sd : (sd, dictOf [⟨hsI, .str (Str.ofString "infos") tsI, .ref D⟩] 1) ∈ R0 := by rw [hR0]; exact .tail _ (.head _)
  have m0C : (C, listOf cvs.toArray cn') ∈ R0 := by rw [hR0]; exact .tail _ (.tail _ (.head _))
  have m0r : ∀ p ∈ rest, p ∈ R0 := fun p hp => by rw [hR0]; exact .tail _ (.tail _ (.tail _ hp))
  have hS0 : Sv w D [] [(D, od)] R0 := by
    refine ⟨od, [], rfl, hid, (fun _ h => nomatch h), rfl, by simp, ?_⟩
    intro p hp q hq
    rw [List.mem_singleton.mp hp]
    rw [hR0] at hq
    simp only [List.mem_cons] at hq
    rcases hq with rfl | rfl | rfl | hq
    · exact Nat.ne_of_gt l3.1
    · exact Nat.ne_of_gt l3.2.1
    · exact Nat.ne_of_gt l3.2.2.1
    · exact Nat.ne_of_gt (allLt_mem l3.2.2.2 q hq)
  have hAp0 : Apart [(D, od), (sx, instObj 192 sd), (sd, dictOf [⟨hsI, .str (Str.ofString "infos") tsI, .ref D⟩] 1), (C, listOf cvs.toArray cn')] rest := by
    refine Apart.of_above ?_
    refine above_cons l3.2.2.2 (above_cons (allLt_trans l1.2 l2) (above_cons l1.2 (above_cons (allLt_of hC) above_nil)))
  clear l1 l2 l3
  refine to_hold ?_
  (rename Fr _ _ _ _ => F1)
  (rename News _ _ _ _ => N1)
  refine' ctr_use (terms sx sd D hsI tsI [] [(D, od)] R0 _ args (Str.ofString "head") _ (-1) _ 0 _ m0sx m0sd hS0 lo ⟨ar, avs, an, rfl, m0r _ har, ha.mono m0r⟩ (by simp; omega) (by omega) (by decide)) ?kB F1 ?kX (N1) ?kT rfl ?hd ?hu ?_
  (case kB => exact B')
  (case kX => exact X')
  (case kT => exact T')
  (case hd => first | (dsimp only [ktrTop]; omega) | decide)
  (case hu => first | (dsimp only [ktrTop]; omega) | decide)
  clear F1 N1
  intro r led' h' tk' F' N' hz6
  (try k_fold); (try (show (let GZ : Prop := _; GZ); intro GZ))
  obtain ⟨rfl, own, rfl, hSv⟩ := hz6
  (try k_unfold)
  clear hid
  have hgvl := hg.length
  have m0gl := m0r _ hgl
  k_steps
  refine to_hold ?_
  (rename Fr _ _ _ _ => F1)
  (rename News _ _ _ _ => N1)
  refine range_K F1 N1 fun r tr1 tr2 tr3 h' tk' F' N' lr => ?_
  clear F1 N1
  (try k_lt lr)
  (try dsimp only)
  obtain ⟨R1, hR1⟩ : ∃ R1 : Led, R1 = (r, rangeO gs.length tr1 tr2 tr3) :: R0 := ⟨_, rfl⟩
  have hSv1 : Sv w D (headL args) own R1 := by
    rw [hR1]
    exact hSv.ext (Apart.cons hSv.apart fun p hp => Nat.ne_of_lt (lr p (List.mem_append_left _ hp)))
  have m1 : ∀ p ∈ R0, p ∈ R1 := fun p hp => by rw [hR1]; exact .tail _ hp
  have m1r : (r, rangeO gs.length tr1 tr2 tr3) ∈ R1 := by rw [hR1]; exact .head _
  have N1 := news_sub (l' := own ++ R1) N' (by rw [hR1]; walk_at "led_sub")
  clear N' hR1
  have hl0 : (headL args).length ≤ 8 := by
    have := termsL_length (Str.ofString "head") (-1) 0 args []
    simp only [List.length_nil] at this
    unfold headL
    omega
  refine for_rest (n := gs.length)
    (fun i m nw => ∃ own, And6 (nw = own ++ R1) (Sv w D (survI (headL args) gs i) own R1) (m (Str.ofString "goals") = some (.ref gl)) (m (Str.ofString "chunks") = some (.ref C)) (m (Str.ofString "survey") = some (.ref sx)) (m (Str.ofString "needs_env") = some (.bool (needI gs i))))
    (src_rangeO rfl r gs.length gs.length tr1 tr2 tr3 rfl (by omega)) F' N1 rfl rfl rfl ⟨own, rfl, hSv1, rfl, rfl, rfl, rfl⟩ ?need ?turn ?done
  case need =>
    intro i m nw hz3 p hp
    (try (show (let GZ : Prop := _; GZ); intro GZ))
    obtain ⟨own, rfl, -⟩ := hz3
    (try k_unfold)
    rw [List.mem_singleton.mp hp]
    exact List.mem_append_right _ m1r
  case turn =>
    clear F' N1 hSv1 hSv
    intro i v mm nw I oI h tk hin hz9 hz10 hne F' N'
    (try k_fold)
    (try (show (let GZ : Prop := wpAny _ _ _ _ _ _; GZ); intro GZ))
    obtain ⟨tv, rfl⟩ := hz9
    obtain ⟨own, rfl, hS, mg, mc, msv, mne⟩ := hz10
    obtain ⟨g0, hg0⟩ : ∃ g0, gs[i]? = some g0 := ⟨_, List.getElem?_eq_getElem hin⟩
    obtain ⟨gv, hgv⟩ : ∃ gv, gvs[i]? = some gv := ⟨_, List.getElem?_eq_getElem (by omega)⟩
    obtain ⟨g0', hg0', hgi⟩ := All2.get hg i gv hgv
    rw [hg0] at hg0'
    cases hg0'
    have hci := chunksL_get gs 0 i g0 hg0
    rw [show (gs.take i).foldl chunkStep 0 = cAt gs i from rfl] at hci
    have hok := hgok g0 (List.mem_of_getElem? hg0)
    have htl := Goal.terms_length hok
    have hlen2 : (survI (headL args) gs i).length + 8 ≤ 100 := by
      have := survI_length (l0 := headL args) hgok i
      omega
    have hsn : survI (headL args) gs (i + 1) = goalL (survI (headL args) gs i) i (cAt gs i) g0 := by rw [survI, hg0]
    have hnn : needI gs (i + 1) = (needI gs i || (g0.isCall && decide (i + 1 < gs.length))) := by rw [needI, hg0]
    have hcvl := hic.length
    rw [chunksL_length] at hcvl
    have hcl := chunksL_length gs 0
    generalize hcur : survI (headL args) gs i = cur at hS hlen2 hsn
    generalize needI gs i = nb at mne hnn
    generalize cAt gs i = ci at hci hsn
    have hR : Sv w D cur own ((I, oI) :: R1) := hS.ext (Apart.cons hS.apart fun p hp => hne p (List.mem_append_left _ hp))
    have hIr : ∀ p ∈ R1, p.1 ≠ I := fun p hp => hne p (List.mem_append_right _ hp)
    have hgi1 : GoalIn R1 gv g0 := hgi.mono fun p hp => m1 p (m0r p hp)
    have mgl : (gl, listOf gvs.toArray gn) ∈ R1 := m1 _ (m0r _ hgl)
    have mC : (C, listOf cvs.toArray cn') ∈ R1 := m1 _ m0C
    have msx : (sx, instObj 192 sd) ∈ R1 := m1 _ m0sx
    have msd : (sd, dictOf [⟨hsI, .str (Str.ofString "infos") tsI, .ref D⟩] 1) ∈ R1 := m1 _ m0sd
    (try k_fold); (try (show (let GZ : Prop := _; GZ); intro GZ))
    obtain ⟨gp, hd0, tg0, tl0, ng0, hgv0, hgm, hcall⟩ := goal_shape hgi1
    (try k_unfold)
    (try k_fold)
    by_cases hsp : 0 ≤ g0.special
    · have hnc : g0.isCall = false := special_nc hsp
      have hhd : ¬ hd0 = Str.ofString "call" := by rw [hnc] at hcall; exact of_decide_eq_false hcall.symm
      subst hgv0
      k_steps
      refine to_hold ?_
      (rename Fr _ _ _ _ => F1)
      (rename News _ _ _ _ => N1)
      refine' ctr_use (goal_special (.ref gp) g0 _ (hgi1.mono fun p hp => .tail _ (List.mem_append_right _ hp))) ?kB F1 ?kX (N1) ?kT rfl ?hd ?hu ?_
      (case kB => exact B')
      (case kX => exact X')
      (case kT => exact T')
      (case hd => first | (dsimp only [ktrTop]; omega) | decide)
      (case hu => first | (dsimp only [ktrTop]; omega) | decide)
      clear F1 N1
      intro rv led' h' tk' F' N' hz6
      (try k_fold); (try (show (let GZ : Prop := _; GZ); intro GZ))
      obtain ⟨rfl, ts, rfl⟩ := hz6
      (try k_unfold)
      k_steps
      refine to_hold ?_
      (rename Fr _ _ _ _ => F1)
      (rename News _ _ _ _ => N1)
      refine' ctr_use (meet sx sd D hsI tsI cur own ((I, oI) :: R1) g0.special _ (Str.ofString "special") _ i _ ci _ 1 _ (.tail _ msx) (.tail _ msd) hR lo (by omega)) ?kB F1 ?kX (news_sub N1 ?hsub) ?kT rfl ?hd ?hu ?_
      (case kB => exact B')
      (case kX => exact X')
      (case kT => exact T')
      (case hsub => walk_at "led_sub")
      (case hd => first | (dsimp only [ktrTop]; omega) | decide)
      (case hu => first | (dsimp only [ktrTop]; omega) | decide)
      clear F1 N1
      intro rv led' h' tk' F' N' hz6
      (try k_fold); (try (show (let GZ : Prop := _; GZ); intro GZ))
      obtain ⟨rfl, own2, rfl, hS2⟩ := hz6
      (try k_unfold)
      k_steps
      refine to_hold ?_
      (rename Fr _ _ _ _ => F1)
      (rename News _ _ _ _ => N1)
      refine' ctr_use (goal_terms (.ref gp) g0 R1 _ hgi1 (fun p hp => List.mem_append_right _ (.tail _ hp))) ?kB F1 ?kX (N1) ?kT rfl ?hd ?hu ?_
      (case kB => exact B')
      (case kX => exact X')
      (case kT => exact T')
      (case hd => first | (dsimp only [ktrTop]; omega) | decide)
      (case hu => first | (dsimp only [ktrTop]; omega) | decide)
      clear F1 N1
      intro rv led' h' tk' F' N' hz6
      (try k_fold); (try (show (let GZ : Prop := _; GZ); intro GZ))
      obtain ⟨new, rfl, hab, hT⟩ := hz6
      (try k_unfold)
      k_steps
      have hR2 : Sv w D (meetL cur g0.special (Str.ofString "special") i ci 1) own2 (new ++ ((I, oI) :: R1)) := hS2.ext (Apart.append hS2.apart fun p hp q hq => Nat.ne_of_lt (hab q hq p (List.mem_append_left _ hp)))
      refine to_hold ?_
      (rename Fr _ _ _ _ => F1)
      (rename News _ _ _ _ => N1)
      refine' ctr_use (terms sx sd D hsI tsI (meetL cur g0.special (Str.ofString "special") i ci 1) own2 (new ++ ((I, oI) :: R1)) _ g0.terms (Str.ofString "goal") _ i _ ci _ (List.mem_append_right _ (.tail _ msx)) (List.mem_append_right _ (.tail _ msd)) hR2 lo (hT.mono fun p hp => (List.mem_append.mp hp).elim (fun h => List.mem_append_left _ h) fun h => List.mem_append_right _ (.tail _ h)) (by have := meetL_length cur g0.special (Str.ofString "special") i ci 1; omega) (by omega) (by decide)) ?kB F1 ?kX (news_sub N1 ?hsub) ?kT rfl ?hd ?hu ?_
      (case kB => exact B')
      (case kX => exact X')
      (case kT => exact T')
      (case hsub => walk_at "led_sub")
      (case hd => first | (dsimp only [ktrTop]; omega) | decide)
      (case hu => first | (dsimp only [ktrTop]; omega) | decide)
      clear F1 N1
      intro rv led' h' tk' F' N' hz6
      (try k_fold); (try (show (let GZ : Prop := _; GZ); intro GZ))
      obtain ⟨rfl, own3, rfl, hS3⟩ := hz6
      (try k_unfold)
      k_steps
      (rename Fr _ _ _ _ => F9; rename News _ _ _ _ => N9)
      refine turn_next F9 (news_sub N9 (by walk_at "led_sub")) (ne_append (fun p hp => hS3.apart p hp (I, oI) (List.mem_append_right _ (.head _))) hIr) ⟨own3, rfl, ?_, mg, mc, msv, ?_⟩
      · rw [hsn, goalL, if_pos hsp]
        exact hS3.sub fun p hp => List.mem_append_right _ (.tail _ hp)
      · rw [hnn, hnc, Bool.false_and, Bool.or_false]
        exact mne
    · subst hgv0
      k_steps
      refine to_hold ?_
      (rename Fr _ _ _ _ => F1)
      (rename News _ _ _ _ => N1)
      refine' ctr_use (goal_special (.ref gp) g0 _ (hgi1.mono fun p hp => .tail _ (List.mem_append_right _ hp))) ?kB F1 ?kX (N1) ?kT rfl ?hd ?hu ?_
      (case kB => exact B')
      (case kX => exact X')
      (case kT => exact T')
      (case hd => first | (dsimp only [ktrTop]; omega) | decide)
      (case hu => first | (dsimp only [ktrTop]; omega) | decide)
      clear F1 N1
      intro rv led' h' tk' F' N' hz6
      (try k_fold); (try (show (let GZ : Prop := _; GZ); intro GZ))
      obtain ⟨rfl, ts, rfl⟩ := hz6
      (try k_unfold)
      k_steps
      refine to_hold ?_
      (rename Fr _ _ _ _ => F1)
      (rename News _ _ _ _ => N1)
      refine' ctr_use (goal_terms (.ref gp) g0 R1 _ hgi1 (fun p hp => .tail _ (List.mem_append_right _ hp))) ?kB F1 ?kX (N1) ?kT rfl ?hd ?hu ?_
      (case kB => exact B')
      (case kX => exact X')
      (case kT => exact T')
      (case hd => first | (dsimp only [ktrTop]; omega) | decide)
      (case hu => first | (dsimp only [ktrTop]; omega) | decide)
      clear F1 N1
      intro rv led' h' tk' F' N' hz6
      (try k_fold); (try (show (let GZ : Prop := _; GZ); intro GZ))
      obtain ⟨new, rfl, hab, hT⟩ := hz6
      (try k_unfold)
      k_steps
      have hR2 : Sv w D cur own (new ++ ((I, oI) :: R1)) := hR.ext (Apart.append hR.apart fun p hp q hq => Nat.ne_of_lt (hab q hq p (.tail _ (List.mem_append_left _ hp))))
      refine to_hold ?_
      (rename Fr _ _ _ _ => F1)
      (rename News _ _ _ _ => N1)
      refine' ctr_use (terms sx sd D hsI tsI cur own (new ++ ((I, oI) :: R1)) _ g0.terms (Str.ofString "goal") _ i _ ci _ (List.mem_append_right _ (.tail _ msx)) (List.mem_append_right _ (.tail _ msd)) hR2 lo (hT.mono fun p hp => (List.mem_append.mp hp).elim (fun h => List.mem_append_left _ h) fun h => List.mem_append_right _ (.tail _ h)) (by omega) (by omega) (by decide)) ?kB F1 ?kX (news_sub N1 ?hsub) ?kT rfl ?hd ?hu ?_
      (case kB => exact B')
      (case kX => exact X')
      (case kT => exact T')
      (case hsub => walk_at "led_sub")
      (case hd => first | (dsimp only [ktrTop]; omega) | decide)
      (case hu => first | (dsimp only [ktrTop]; omega) | decide)
      clear F1 N1
      intro rv led' h' tk' F' N' hz6
      (try k_fold); (try (show (let GZ : Prop := _; GZ); intro GZ))
      obtain ⟨rfl, own3, rfl, hS3⟩ := hz6
      (try k_unfold)
      by_cases hhd : hd0 = Str.ofString "call"
      · have hic0 : g0.isCall = true := by rw [hcall]; exact decide_eq_true hhd
        subst hhd
        by_cases hlast : i + 1 < gs.length
        · have hlast' : (i : Int) + 1 < (gs.length : Int) := by omega
          k_steps
          (rename Fr _ _ _ _ => F9; rename News _ _ _ _ => N9)
          refine turn_next F9 (news_sub N9 (by walk_at "led_sub")) (ne_append (fun p hp => hS3.apart p hp (I, oI) (List.mem_append_right _ (.head _))) hIr) ⟨own3, rfl, ?_, mg, mc, msv, ?_⟩
          · rw [hsn, goalL, if_neg hsp]
            exact hS3.sub fun p hp => List.mem_append_right _ (.tail _ hp)
          · rw [hnn, hic0, decide_eq_true hlast, Bool.and_true, Bool.or_true]
            exact rfl
        · have hlast' : ¬ (i : Int) + 1 < (gs.length : Int) := by omega
          k_steps
          (rename Fr _ _ _ _ => F9; rename News _ _ _ _ => N9)
          refine turn_next F9 (news_sub N9 (by walk_at "led_sub")) (ne_append (fun p hp => hS3.apart p hp (I, oI) (List.mem_append_right _ (.head _))) hIr) ⟨own3, rfl, ?_, mg, mc, msv, ?_⟩
          · rw [hsn, goalL, if_neg hsp]
            exact hS3.sub fun p hp => List.mem_append_right _ (.tail _ hp)
          · rw [hnn, hic0, decide_eq_false hlast, Bool.and_false, Bool.or_false]
            exact mne
      · have hic0 : g0.isCall = false := by rw [hcall]; exact decide_eq_false hhd
        k_steps
        (rename Fr _ _ _ _ => F9; rename News _ _ _ _ => N9)
        refine turn_next F9 (news_sub N9 (by walk_at "led_sub")) (ne_append (fun p hp => hS3.apart p hp (I, oI) (List.mem_append_right _ (.head _))) hIr) ⟨own3, rfl, ?_, mg, mc, msv, ?_⟩
        · rw [hsn, goalL, if_neg hsp]
          exact hS3.sub fun p hp => List.mem_append_right _ (.tail _ hp)
        · rw [hnn, hic0, Bool.false_and, Bool.or_false]
          exact mne
  case done =>
    clear F' N1 hSv1 hSv
    intro mm nw h tk hz4 F' N'
    (try k_fold); (try (show (let GZ : Prop := _; GZ); intro GZ))
    obtain ⟨own1, rfl, hS1, mg, mc, msv, mne⟩ := hz4
    (try k_unfold)
    have msx : (sx, instObj 192 sd) ∈ R1 := m1 _ m0sx
    have msd : (sd, dictOf [⟨hsI, .str (Str.ofString "infos") tsI, .ref D⟩] 1) ∈ R1 := m1 _ m0sd
    have mgl : (gl, listOf gvs.toArray gn) ∈ R1 := m1 _ (m0r _ hgl)
    have mC : (C, listOf cvs.toArray cn') ∈ R1 := m1 _ m0C
    have hl1 : (survI (headL args) gs gs.length).length ≤ 60 := by
      have := survI_length (l0 := headL args) hgok gs.length
      omega
    obtain ⟨od2, hSO⟩ : ∃ od2, SvO w D od2 (survI (headL args) gs gs.length) own1 R1 := hS1
    (try k_fold); (try (show (let GZ : Prop := _; GZ); intro GZ))
    obtain ⟨-, kvs, hkd, hkv⟩ := hSO.dict
    (try k_unfold)
    generalize hl : survI (headL args) gs gs.length = l at hSO hl1 hkv
    have hkvl : kvs.length = l.length := by have := congrArg List.length hkv; simpa using this
    k_steps
    (rename Fr _ _ _ _ => F9; rename News _ _ _ _ => N9)
    refine for_rest (n := kvs.length)
      (fun i m nw => ∃ own, And6 (nw = own ++ R1) (SvO w D od2 (kindI l i) own R1) (m (Str.ofString "infos") = some (.ref D)) (m (Str.ofString "goals") = some (.ref gl)) (m (Str.ofString "chunks") = some (.ref C)) (m (Str.ofString "needs_env") = some (.bool (needI gs gs.length))))
      (src_dict rfl D od2 kvs hkd lo) F9 N9 rfl rfl rfl ⟨own1, rfl, hSO, rfl, mg, mc, mne⟩ ?need2 ?turn2 ?done2
    case need2 =>
      intro i m nw hz3 p hp
      (try (show (let GZ : Prop := _; GZ); intro GZ))
      obtain ⟨own, rfl, hS, -⟩ := hz3
      (try k_unfold)
      rw [List.mem_singleton.mp hp]
      exact List.mem_append_left _ hS.dict.1
    case turn2 =>
      clear F9 N9
      intro i v m2 nw I oI h tk hin hz9 hz10 hne F' N'
      (try k_fold); (try (show (let GZ : Prop := _; GZ); intro GZ))
      obtain ⟨k, xv, tk0, hkx, rfl⟩ := hz9
      obtain ⟨own, rfl, hS, m2i, m2g, m2c, m2n⟩ := hz10
      (try k_unfold)
      obtain ⟨inf0, hinf0⟩ : ∃ inf0, l[i]? = some inf0 := ⟨_, List.getElem?_eq_getElem (by omega)⟩
      have hk0 : inf0.var = k := by
        have e1 : (kvs.map (·.1))[i]? = some k := by rw [List.getElem?_map, hkx]; rfl
        rw [hkv, List.getElem?_map, hinf0] at e1
        exact Option.some.inj e1
      have hkm : k ∈ (kindI l i).map (·.var) := by
        rw [kindI_vars, ← hk0]
        exact List.mem_map.mpr ⟨inf0, List.mem_of_getElem? hinf0, rfl⟩
      (try k_fold); (try (show (let GZ : Prop := _; GZ); intro GZ))
      obtain ⟨x, dx, o, inf, own2, hvx, hsub, hoffd, hxo, hDo, ho, hia, hvar, hback⟩ := hS.split hkd hkm
      (try k_unfold)
      have hdI : @Ne Nat dx I := hne (dx, o) (List.mem_append_left _ (hsub _ (.head _)))
      have hId : @Ne Nat I dx := Ne.symm hdI
      have hdR : ∀ q ∈ R1, q.1 ≠ dx := fun q hq => Ne.symm (hS.apart (dx, o) (hsub _ (.head _)) q hq)
      have N2 : News g L' h ((dx, o) :: (I, oI) :: (own2 ++ R1)) := news_sub N' (by
        intro p hp
        rcases List.mem_cons.mp hp with rfl | hp
        · exact .tail _ (List.mem_append_left _ (hsub _ (.head _)))
        rcases List.mem_cons.mp hp with rfl | hp
        · exact .head _
        rcases List.mem_append.mp hp with hp | hp
        · exact .tail _ (List.mem_append_left _ (hsub _ (.tail _ hp)))
        · exact .tail _ (List.mem_append_right _ hp))
      clear N'
      have ho' := ho
      (try k_fold); (try (show (let GZ : Prop := _; GZ); intro GZ))
      obtain ⟨t0', t1', t2', t3', t4', t5', t6', t7', t8', u0', u1', u2', u3', u5', u6', u7', u8'⟩ := ho
      (try k_unfold)
      (try k_fold)
      k_steps
      refine to_hold ?_
      (rename Fr _ _ _ _ => F1)
      (rename News _ _ _ _ => N1)
      refine' ctr_use (kind_of x dx _ inf _ (.tail _ (.tail _ (List.mem_append_left _ hxo))) (.head _) ho') ?kB F1 ?kX (N1) ?kT rfl ?hd ?hu ?_
      (case kB => exact B')
      (case kX => exact X')
      (case kT => exact T')
      (case hd => first | (dsimp only [ktrTop]; omega) | decide)
      (case hu => first | (dsimp only [ktrTop]; omega) | decide)
      clear F1 N1
      intro rv led' h' tk' F' N' hz6
      (try k_fold); (try (show (let GZ : Prop := _; GZ); intro GZ))
      obtain ⟨rfl, tkk, rfl⟩ := hz6
      (try k_unfold)
      k_steps
      (rename Fr _ _ _ _ => F9; rename News _ _ _ _ => N9)
      obtain ⟨own3, hsub3, hS3⟩ := hback _ { inf with kind := kindL inf } (InfoO.mk _ _ _ _ _ _ _ _ _ _ _ _ _ _ _ _ _) hvar
      rw [setI_eq (fun i => { i with kind := kindL i }) hia hS.nodup] at hS3
      refine turn_next F9 (news_sub N9 ?_) ?_ ⟨own3, rfl, ?_, m2i, m2g, m2c, m2n⟩
      · intro p hp
        rcases List.mem_cons.mp hp with rfl | hp
        · exact .tail _ (.head _)
        rcases List.mem_append.mp hp with hp | hp
        · rcases List.mem_cons.mp (hsub3 p hp) with rfl | hp
          · exact .head _
          · exact .tail _ (.tail _ (List.mem_append_left _ hp))
        · exact .tail _ (.tail _ (List.mem_append_right _ hp))
      · intro p hp
        rcases List.mem_append.mp hp with hp | hp
        · rcases List.mem_cons.mp (hsub3 p hp) with rfl | hp
          · exact hdI
          · exact hne p (List.mem_append_left _ (hsub _ (.tail _ hp)))
        · exact hne p (List.mem_append_right _ hp)
      · rw [kindI, hinf0]
        show SvO w D od2 (mapAt (kindI l i) inf0.var _) own3 R1
        rw [hk0]
        exact hS3
    case done2 =>
      clear F9 N9 hSO
      intro m2 nw h tk hz4 F' N'
      (try k_fold); (try (show (let GZ : Prop := _; GZ); intro GZ))
      obtain ⟨own2, rfl, hSO, m2i, m2g, m2c, m2n⟩ := hz4
      (try k_unfold)
      rw [hkvl] at hSO
      obtain ⟨l2, hl2e⟩ : ∃ l2, l2 = finL args gs := ⟨_, rfl⟩
      have hl2 : (kindI l l.length).length ≤ 60 := by
        have := congrArg List.length (kindI_vars l l.length)
        simp only [List.length_map] at this
        omega
      rw [show kindI l l.length = l2 from by rw [hl2e, finL, hl]] at hSO hl2
      k_steps
      refine to_hold ?_
      (rename Fr _ _ _ _ => F1)
      (rename News _ _ _ _ => N1)
      refine' ctr_use (slot_order D l2 own2 R1 hSO.sv lo (by omega)) ?kB F1 ?kX (N1) ?kT rfl ?hd ?hu ?_
      (case kB => exact B')
      (case kX => exact X')
      (case kT => exact T')
      (case hd => first | (dsimp only [ktrTop]; omega) | decide)
      (case hu => first | (dsimp only [ktrTop]; omega) | decide)
      clear F1 N1
      intro rv led' h' tk' F' N' hz6
      (try k_fold); (try (show (let GZ : Prop := _; GZ); intro GZ))
      obtain ⟨O, ovs, on, newO, ks, rfl, rfl, hperm, hpw, hio, hAbO⟩ := hz6
      (try k_unfold)
      have hordlen : (orderK l2 ks).length ≤ 60 := by
        have h1 := orderK_length l2 ks []
        have h2 := hperm.length_eq
        simp only [List.length_nil, List.length_map] at h1 h2
        unfold orderK
        omega
      have hordmem : ∀ y ∈ orderK l2 ks, y ∈ l2.map (·.var) := by
        intro y hy
        rcases orderK_mem l2 ks [] hy with h | h
        · cases h
        · exact hperm.mem_iff.mp h
      obtain ⟨ord, hord⟩ : ∃ ord, ord = orderK l2 ks := ⟨_, rfl⟩
      rw [← hord] at hio hordlen hordmem
      have hovl := hio.length
      have hOlt : ∀ p ∈ own2 ++ R1, @LT.lt Nat _ p.1 O := fun p hp => hAbO _ (.head _) p hp
      have N3 : News g L' h' ((O, listOf ovs.toArray on) :: (own2 ++ R1)) := news_sub N' (by walk_at "led_sub")
      clear N' hAbO
      have hoF := allLt_of hOlt
      k_steps
      refine to_hold ?_
      (rename Fr _ _ _ _ => F1)
      (rename News _ _ _ _ => N1)
      refine range_K F1 N1 fun r tr1 tr2 tr3 h' tk' F' N' lr => ?_
      clear F1 N1
      (try k_lt lr)
      (try dsimp only)
      obtain ⟨R2, hR2⟩ : ∃ R2 : Led, R2 = (r, rangeO ord.length tr1 tr2 tr3) :: (O, listOf ovs.toArray on) :: R1 := ⟨_, rfl⟩
      have hSO2 : SvO w D od2 l2 own2 R2 := by
        rw [hR2]
        exact hSO.ext (Apart.cons (Apart.cons hSO.apart fun p hp => Nat.ne_of_lt (hOlt p (List.mem_append_left _ hp))) fun p hp => Nat.ne_of_lt (allLt_mem lr.2 p (List.mem_append_left _ hp)))
      have n2 : ∀ p ∈ R1, p ∈ R2 := fun p hp => by rw [hR2]; exact .tail _ (.tail _ hp)
      have n2O : (O, listOf ovs.toArray on) ∈ R2 := by rw [hR2]; exact .tail _ (.head _)
      have n2r : (r, rangeO ord.length tr1 tr2 tr3) ∈ R2 := by rw [hR2]; exact .head _
      have N2 := news_sub (l' := own2 ++ R2) N' (by rw [hR2]; walk_at "led_sub")
      clear N' hR2 hSO lr hOlt hoF
      refine for_rest (n := ord.length)
        (fun i m nw => ∃ own, And7 (nw = own ++ R2) (SvO w D od2 (slotI l2 ord i) own R2) (m (Str.ofString "infos") = some (.ref D)) (m (Str.ofString "goals") = some (.ref gl)) (m (Str.ofString "chunks") = some (.ref C)) (m (Str.ofString "needs_env") = some (.bool (needI gs gs.length))) (m (Str.ofString "order") = some (.ref O)))
        (src_rangeO rfl r ord.length ord.length tr1 tr2 tr3 rfl (by omega)) F' N2 rfl rfl rfl ⟨own2, rfl, hSO2, m2i, m2g, m2c, m2n, rfl⟩ ?need3 ?turn3 ?done3
      case need3 =>
        intro i m nw hz3 p hp
        (try (show (let GZ : Prop := _; GZ); intro GZ))
        obtain ⟨own, rfl, -⟩ := hz3
        (try k_unfold)
        rw [List.mem_singleton.mp hp]
        exact List.mem_append_right _ n2r
      case turn3 =>
        clear N2 F' hSO2
        intro i v m3 nw I oI h tk hin hz9 hz10 hne F' N'
        (try k_fold); (try (show (let GZ : Prop := _; GZ); intro GZ))
        obtain ⟨tv, rfl⟩ := hz9
        obtain ⟨own, rfl, hS, m3i, m3g, m3c, m3n, m3o⟩ := hz10
        (try k_unfold)
        obtain ⟨k, hk0⟩ : ∃ k, ord[i]? = some k := ⟨_, List.getElem?_eq_getElem hin⟩
        have hkm : k ∈ (slotI l2 ord i).map (·.var) := by rw [slotI_vars]; exact hordmem k (List.mem_of_getElem? hk0)
        (try k_fold); (try (show (let GZ : Prop := _; GZ); intro GZ))
        obtain ⟨x, dx, o, inf, own3, hvx, hsub, hoffd, hxo, hDo, ho, hia, hvar, hback⟩ := hS.split hkd hkm
        (try k_unfold)
        have hdI : @Ne Nat dx I := hne (dx, o) (List.mem_append_left _ (hsub _ (.head _)))
        have hId : @Ne Nat I dx := Ne.symm hdI
        have hdR : ∀ q ∈ R2, q.1 ≠ dx := fun q hq => Ne.symm (hS.apart (dx, o) (hsub _ (.head _)) q hq)
        have N2 : News g L' h ((dx, o) :: (I, oI) :: (own3 ++ R2)) := news_sub N' (by
          intro p hp
          rcases List.mem_cons.mp hp with rfl | hp
          · exact .tail _ (List.mem_append_left _ (hsub _ (.head _)))
          rcases List.mem_cons.mp hp with rfl | hp
          · exact .head _
          rcases List.mem_append.mp hp with hp | hp
          · exact .tail _ (List.mem_append_left _ (hsub _ (.tail _ hp)))
          · exact .tail _ (List.mem_append_right _ hp))
        clear N'
        (try k_fold); (try (show (let GZ : Prop := _; GZ); intro GZ))
        obtain ⟨t0', t1', t2', t3', t4', t5', t6', t7', t8', u0', u1', u2', u3', u5', u6', u7', u8'⟩ := ho
        (try k_unfold)
        (try k_fold)
        k_steps
        (rename Fr _ _ _ _ => F9; rename News _ _ _ _ => N9)
        obtain ⟨own4, hsub4, hS4⟩ := hback _ { inf with slot := (i : Int) + 1, uns := (inf.first == Str.ofString "goal_arg") } (InfoO.mk _ _ _ _ _ _ _ _ _ _ _ _ _ _ _ _ _) hvar
        rw [setI_eq (fun i' => { i' with slot := (i : Int) + 1, uns := (i'.first == Str.ofString "goal_arg") }) hia hS.nodup] at hS4
        refine turn_next F9 (news_sub N9 ?_) ?_ ⟨own4, rfl, ?_, m3i, m3g, m3c, m3n, m3o⟩
        · intro p hp
          rcases List.mem_cons.mp hp with rfl | hp
          · exact .tail _ (.head _)
          rcases List.mem_append.mp hp with hp | hp
          · rcases List.mem_cons.mp (hsub4 p hp) with rfl | hp
            · exact .head _
            · exact .tail _ (.tail _ (List.mem_append_left _ hp))
          · exact .tail _ (.tail _ (List.mem_append_right _ hp))
        · intro p hp
          rcases List.mem_append.mp hp with hp | hp
          · rcases List.mem_cons.mp (hsub4 p hp) with rfl | hp
            · exact hdI
            · exact hne p (List.mem_append_left _ (hsub _ (.tail _ hp)))
          · exact hne p (List.mem_append_right _ hp)
        · rw [slotI, hk0]
          exact hS4
      case done3 =>
        clear N2 F' hSO2
        intro m3 nw h tk hz4 F' N'
        (try k_fold); (try (show (let GZ : Prop := _; GZ); intro GZ))
        obtain ⟨own3, rfl, hSO3, m3i, m3g, m3c, m3n, m3o⟩ := hz4
        (try k_unfold)
        obtain ⟨l3, hl3⟩ : ∃ l3, l3 = slotI l2 ord ord.length := ⟨_, rfl⟩
        have hlg3 : ∀ k, lgAt l3 k = lgAt l2 k := fun k => by rw [hl3]; exact slotI_lg l2 ord k _
        have hmem3 : ∀ y ∈ ord, y ∈ l3.map (·.var) := by rw [hl3, slotI_vars]; exact hordmem
        rw [← hl3] at hSO3
        (try k_fold); (try (show (let GZ : Prop := _; GZ); intro GZ))
        obtain ⟨od3, kvs3, hDo3, hdd3, hkv3, look⟩ := hSO3.sv.look
        (try k_unfold)
        have ngl := n2 _ mgl
        have nC := n2 _ mC
        k_steps
        refine to_hold ?_
        (rename Fr _ _ _ _ => F1)
        (rename News _ _ _ _ => N1)
        refine range_K F1 N1 fun r tr1 tr2 tr3 h' tk' F' N' lr => ?_
        clear F1 N1
        (try k_lt lr)
        (try dsimp only)
        rename_i LV _ lLV _ _ _ _ _
        obtain ⟨R3, hR3⟩ : ∃ R3 : Led, R3 = (r, rangeO gs.length tr1 tr2 tr3) :: R2 := ⟨_, rfl⟩
        have q3 : ∀ p ∈ R2, p ∈ R3 := fun p hp => by rw [hR3]; exact .tail _ hp
        have q3r : (r, rangeO gs.length tr1 tr2 tr3) ∈ R3 := by rw [hR3]; exact .head _
        have hLVo : ∀ p ∈ own3, p.1 ≠ LV := fun p hp => Nat.ne_of_lt (lLV p (List.mem_append_left _ hp))
        have hLVR : ∀ p ∈ R3, p.1 ≠ LV := by rw [hR3]; exact ne_cons (Nat.ne_of_gt lr.1) fun p hp => Nat.ne_of_lt (lLV p (List.mem_append_right _ hp))
        have N3 := news_sub (l' := (LV, listOf #[] 0) :: (own3 ++ R3)) N' (by rw [hR3]; walk_at "led_sub")
        have nO := q3 _ n2O
        clear N' hR3 lr
        refine for_rest (n := gs.length)
          (fun i m nw => ∃ lvs ln, And7 (nw = (LV, listOf lvs.toArray ln) :: (own3 ++ R3)) (IntsAre lvs (liveL l3 ord i)) (m (Str.ofString "infos") = some (.ref D)) (m (Str.ofString "chunks") = some (.ref C)) (m (Str.ofString "needs_env") = some (.bool (needI gs gs.length))) (m (Str.ofString "order") = some (.ref O)) (m (Str.ofString "live_after") = some (.ref LV)))
          (src_rangeO rfl r gs.length gs.length tr1 tr2 tr3 rfl (by omega)) F' N3 rfl rfl rfl ⟨[], 0, rfl, .nil, m3i, m3c, m3n, m3o, rfl⟩ ?need4 ?turn4 ?done4
        case need4 =>
          intro i m nw hz3 p hp
          (try (show (let GZ : Prop := _; GZ); intro GZ))
          obtain ⟨lvs, ln, rfl, -⟩ := hz3
          (try k_unfold)
          rw [List.mem_singleton.mp hp]
          exact .tail _ (List.mem_append_right _ q3r)
        case turn4 =>
          clear N3 F'
          intro i v m4 nw I oI h tk hin hz9 hz10 hne F' N'
          (try k_fold); (try (show (let GZ : Prop := _; GZ); intro GZ))
          obtain ⟨tv, rfl⟩ := hz9
          obtain ⟨lvs, ln, rfl, hil, m4i, m4c, m4n, m4o, m4l⟩ := hz10
          (try k_unfold)
          have hLI : @Ne Nat LV I := hne (LV, listOf lvs.toArray ln) (.head _)
          have hIL := Ne.symm hLI
          have hlvl : lvs.length = i := by
            have := hil.length
            unfold liveL at this
            simpa using this
          have hneR : ∀ p ∈ own3 ++ R3, p.1 ≠ I := fun p hp => hne p (.tail _ hp)
          (try k_fold)
          k_steps
          refine to_hold ?_
          refine whl_start 0 ?_
          (rename Fr _ _ _ _ => F9; rename News _ _ _ _ => N9)
          refine while_rule (fun a m nw => ∃ tl b, And10 (b + a = ord.length) (nw = (I, oI) :: (LV, listOf lvs.toArray ln) :: (own3 ++ R3)) (m (Str.ofString "live") = some (.int ((b : Nat) : Int) tl)) (m (Str.ofString "at") = some (.int (i : Int) tv)) (m (Str.ofString "infos") = some (.ref D)) (m (Str.ofString "chunks") = some (.ref C)) (m (Str.ofString "needs_env") = some (.bool (needI gs gs.length))) (m (Str.ofString "order") = some (.ref O)) (m (Str.ofString "live_after") = some (.ref LV)) (liveAt l3 ord i = (b : Int) + (((ord.drop b).takeWhile fun k => decide ((i : Int) < lgAt l3 k)).length : Int))) ?turn5 ord.length _ _ _ _ _ ?hJ F9 N9
          case hJ => exact ⟨_, 0, Nat.zero_add _, rfl, rfl, rfl, m4i, m4c, m4n, m4o, m4l, by rw [liveAt, List.drop_zero]; omega⟩
          clear F9 N9
          intro a m5 nw h tk hz5 F' N'
          (try k_fold); (try (show (let GZ : Prop := _; GZ); intro GZ))
          obtain ⟨tl, b, hab, rfl, m5v, m5a, m5i, m5c, m5n, m5o, m5l, hlive⟩ := hz5
          (try k_unfold)
          by_cases hb : b < ord.length
          · obtain ⟨k, hk0⟩ : ∃ k, ord[b]? = some k := ⟨_, List.getElem?_eq_getElem hb⟩
            (try k_fold); (try (show (let GZ : Prop := _; GZ); intro GZ))
            obtain ⟨x, dx, o, inf, hvx, hxo, hdo, ho, hia⟩ := look k (hmem3 k (List.mem_of_getElem? hk0))
            (try k_unfold)
            have hlgk : lgAt l3 k = inf.last_goal := by unfold lgAt; rw [hia]
            (try k_fold); (try (show (let GZ : Prop := _; GZ); intro GZ))
            obtain ⟨t0', t1', t2', t3', t4', t5', t6', t7', t8', u0', u1', u2', u3', u5', u6', u7', u8'⟩ := ho
            (try k_unfold)
            have hbI : (b : Int) < (ord.length : Int) := by omega
            by_cases hgt : (i : Int) < inf.last_goal
            · k_steps
              (rename Fr _ _ _ _ => F9; rename News _ _ _ _ => N9)
              refine wh_next (a - 1) F9 N9 (by omega) ⟨_, b + 1, by omega, rfl, rfl, m5a, m5i, m5c, m5n, m5o, m5l, ?_⟩
              rw [hlive, tw_yes hk0 (by rw [hlgk]; exact decide_eq_true hgt)]
              omega
            · k_steps
              (rename Fr _ _ _ _ => F9; rename News _ _ _ _ => N9)
              refine turn_next F9 N9 (ne_cons hLI hneR) ⟨_, _, rfl, ?_, m5i, m5c, m5n, m5o, m5l⟩
              rw [liveL_succ, hlive, tw_no hk0 (by rw [hlgk]; exact decide_eq_false hgt)]
              exact ints_snoc hil _ _
          · have hbI : ¬ (b : Int) < (ord.length : Int) := by omega
            k_steps
            (rename Fr _ _ _ _ => F9; rename News _ _ _ _ => N9)
            refine turn_next F9 N9 (ne_cons hLI hneR) ⟨_, _, rfl, ?_, m5i, m5c, m5n, m5o, m5l⟩
            rw [liveL_succ, hlive, tw_end (by omega)]
            exact ints_snoc hil _ _
        case done4 =>
          clear N3 F'
          intro m4 nw h tk hz4 F' N'
          (try k_fold); (try (show (let GZ : Prop := _; GZ); intro GZ))
          obtain ⟨lvs, ln, rfl, hil, m4i, m4c, m4n, m4o, m4l⟩ := hz4
          (try k_unfold)
          have pO := nO
          have pC := q3 _ nC
          k_steps
          refine leaveK_ (by assumption) (by assumption) fun kF kN => ?_
          rename_i px pd _ _ _ lpd lpx _ _ _ _ _ _ _ _ _ _ _ _ _ _ _ _ _ _
          have hRsub : ∀ p ∈ rest, p ∈ R2 := fun p hp => n2 p (m1 p (m0r p hp))
          have hlv : liveL l3 ord gs.length = liveL l2 ord gs.length := by unfold liveL liveAt; simp only [hlg3]
          rw [hlv] at hil
          have hSf := hSO3.sv
          have hApf := hSO3.apart
          have hpd : ∀ q ∈ rest, @LT.lt Nat _ q.1 pd := fun q hq => allLt_mem lpd.2 q (List.mem_append_right _ (q3 _ (hRsub q hq)))
          rw [hl3, hord, hl2e] at hSf
          rw [hord, hl2e] at hil
          rw [hl2e] at hperm
          have hsz : (ord.length : Int) = (planL args gs ks).size := by rw [hord, hl2e]; rfl
          have fin : ∀ (r9 : Value) (dO : Obj) (h9 : Heap) (tk9 : Nat), Fr h₀ L h9 m → News h₀ L h9 ((px, instObj 150 pd) :: (pd, dO) :: (LV, listOf lvs.toArray ln) :: (own3 ++ R3)) → r9 = .ref px →
              (∃ h1 h2 h3 h4 h5 t1 t2 t3 t4 t5 t6, dO = dictOf [⟨h1, .str (Str.ofString "infos") t1, .ref D⟩, ⟨h2, .str (Str.ofString "chunks") t2, .ref C⟩, ⟨h3, .str (Str.ofString "needs_env") t3, .bool (needI gs gs.length)⟩, ⟨h4, .str (Str.ofString "env_size") t4, .int (ord.length : Int) t6⟩, ⟨h5, .str (Str.ofString "live_after") t5, .ref LV⟩] 5) →
              Q r9 ⟨h9, sG, sD, tk9, sO⟩ := by
            intro r9 dO h9 tk9 kF kN hz6 hz7
            (try k_fold); (try (show (let GZ : Prop := _; GZ); intro GZ))
            obtain rfl := hz6
            obtain ⟨e1, e2, e3, e4, e5, f1, f2, f3, f4, f5, f6, hdO⟩ := hz7
            (try k_unfold)
            refine hret _ (((px, instObj 150 pd) :: (pd, dO) :: (LV, listOf lvs.toArray ln) :: (C, listOf cvs.toArray cn') :: own3) ++ rest) _ _ kF (news_sub kN ?_) ⟨_, ks, rfl, ?_, PlanI.mk px pd D C cvs cn' LV lvs ln own3 R2 e1 e2 e3 e4 e5 f1 f2 f3 f4 f5 f6 (.head _) ?_ (.tail _ (.tail _ (.tail _ (.head _)))) hic (.tail _ (.tail _ (.head _))) hil (fun q hq => .tail _ (.tail _ (.tail _ (.tail _ hq)))) hSf lo, hperm, hpw⟩
            · intro p hp
              rcases List.mem_append.mp hp with hp | hp
              · rcases List.mem_cons.mp hp with rfl | hp
                · exact .head _
                rcases List.mem_cons.mp hp with rfl | hp
                · exact .tail _ (.head _)
                rcases List.mem_cons.mp hp with rfl | hp
                · exact .tail _ (.tail _ (.head _))
                rcases List.mem_cons.mp hp with rfl | hp
                · exact .tail _ (.tail _ (.tail _ (List.mem_append_right _ pC)))
                · exact .tail _ (.tail _ (.tail _ (List.mem_append_left _ hp)))
              · exact .tail _ (.tail _ (.tail _ (List.mem_append_right _ (q3 _ (hRsub p hp)))))
            · intro p hp q hq
              rcases List.mem_cons.mp hp with rfl | hp
              · exact Nat.ne_of_gt (Nat.lt_trans (hpd q hq) lpx)
              rcases List.mem_cons.mp hp with rfl | hp
              · exact Nat.ne_of_gt (hpd q hq)
              rcases List.mem_cons.mp hp with rfl | hp
              · exact Nat.ne_of_gt (lLV q (List.mem_append_right _ (hRsub q hq)))
              rcases List.mem_cons.mp hp with rfl | hp
              · exact Nat.ne_of_gt (hC q hq)
              · exact hApf p hp q (hRsub q hq)
            · rw [hdO, hsz]
              exact .tail _ (.head _)
          exact fin _ _ _ _ kF kN rfl ⟨_, _, _, _, _, _, _, _, _, _, _, rfl⟩

end PCL
section PKF
/-! _law_found -/
theorem pm1 {h₀ h : Heap} {L : Addr} {e1 q x : Addr × Obj} {r : Led} (N : News h₀ L h (q :: e1 :: x :: r)) : News h₀ L h (q :: ([e1] ++ r)) := news_sub N fun p hp => by
  rcases List.mem_cons.mp hp with rfl | hp
  · exact .head _
  rcases List.mem_cons.mp hp with rfl | hp
  · exact .tail _ (.head _)
  · exact .tail _ (.tail _ (.tail _ hp))
theorem pair_app (X : List (Int × Str)) (a b : Int × Str) : X ++ [a, b] = X ++ [a] ++ [b] := by simp
theorem slice_from_K {prog : Program} {w : World} {A : Around} {E : Value → Shared → Prop} {s : Shared} {h₀ : Heap} {L : Addr} {m : Str → Option Value} {news : Led} {value slice : PySem.Expr} {t : Addr} {items : Array Value} {a : Nat} {u : Tok} {Q : Value → Shared → Prop}
    (F : Fr h₀ L s.heap m) (N : News h₀ L s.heap news) (ht : IsTup s.heap t items) (h1 : 1 ≤ a) (ha : a ≤ items.size)
    (h : ∀ X h', Fr h₀ L h' m → News h₀ L h' ((X, tupO (items.toList.drop a) 0) :: news) → (∀ p ∈ news, p.1 < X) → Q (.ref X) { s with heap := h' })
    (hs : subscripted slice false (.ref t) (.ref s.heap.objs.size) = operate [.ref s.heap.objs.size, .ref t] (getItem (.ref t) (.ref s.heap.objs.size)) := by with_unfolding_all rfl)
    (hg : ∀ r, letTemporaryGo value (.ref t) r = pure () := by intro _; with_unfolding_all rfl) (hsz : items.size ≤ sizeLine) :
    wpAny (model prog w) A (subscriptTail value slice (.ref t) (.ref s.heap.objs.size)) Q E { s with heap := s.heap.push { cls := .type "slice", data := .fields #[.int a u, .none, .none] } } :=
  slice_tuple_from F N ht h1 ha (fun h' F' N' => h _ h' F' N' fun p hp => Nat.lt_succ_of_lt (Heap.lt_size (N p hp).1)) hs hg hsz
theorem flat_snoc {l : List Side} {i : Nat} {s : Side} (h : l[i]? = some s) : (l.take (i + 1)).flatMap Side.found = (l.take i).flatMap Side.found ++ s.found := by rw [take_snoc h]; simp
/-- the loop over the sides, walked once -/
abbrev loopAt {st : Stmt} {nm x : Str} {a : Arguments} {s1 s2 s3 s4 : Stmt} {px : Pos} {it : Expr} {body : List Stmt} {pos : Pos} {rest : List Stmt} {dl : List Expr} {rt : Option Expr} {tp : List TypeParam} {sc : Scope} {ts : Option Scope} {bd : Str} {pos' : Pos}
    (_ : st = .FunctionDef nm a (s1 :: s2 :: s3 :: s4 :: .For (.Name x px) it body [] pos :: rest) dl rt tp sc ts bd pos') (k : Pos → List Stmt → Scope → Prop) : Prop := k px body sc
theorem found_loop : loopAt (st := stm 22) rfl fun px body sc => ∀ (dp un : Nat) (gd : Option (List Code)) (cn : Str) (cs : Scope) (L a : Addr) (ccd : Value) (cl : List (Str × Addr)) (outer : List Env) (bs g : Heap) (L' : Addr) (m : Str → Option Value)
    (h0 : Heap) (gs : Array GenState) (dr : Drawn) (tk0 : Nat) (os0 : OsState) (Q : Flow → Shared → Prop) (X O : Addr) (vs : List Value) (n0 : Nat) (ss : List Side) (led base : Led),
    Below (ktrTop dp un gd cn cs L a ccd cl outer) bs (envX cn cs L a ccd cl :: outer) g → (K0 w.params).In g → Top view0 loose mean mg mb g → Fr g L' h0 m → News g L' h0 ((O, listOf #[] 0) :: base) →
    (X, tupO vs n0) ∈ base → SidesIn base vs ss → ss.length ≤ 3 → (∀ p ∈ base, p.1 ≠ O) → (∀ p ∈ led, p ∈ base) → m (Str.ofString "found") = some (.ref O) →
    (∀ m1 os n2 new h tk, All2 (PairIn new) os (ss.flatMap Side.found) → Above new led → m1 (Str.ofString "found") = some (.ref O) → Fr g L' h m1 → News g L' h ((O, listOf os.toArray n2) :: (new ++ base)) → Q .next ⟨h, gs, dr, tk, os0⟩) →
    ForRest PySem.Challenge.rw_sa0145_01.row.prog w ((ktrTop dp un gd cn cs L a ccd cl outer).deeper (envOf (Str.ofString "_law_found") sc L' 250 (.ref 249))) (envOf (Str.ofString "_law_found") sc L' 250 (.ref 249)) (Str.ofString "side") px body Q (.ref X) ⟨h0, gs, dr, tk0, os0⟩ := by
  unfold loopAt
  intro dp un gd cn cs L a ccd cl outer bs g L' m h0 gs dr tk0 os0 Q X O vs n0 ss led base B' X' T' F9 N9 hX h2 hss hOoff hsub m0f hdone
  have hsl := All2.length h2
  refine for_rest (n := vs.length)
    (fun i m nw => ∃ os n new, And6 (nw = (O, listOf os.toArray n) :: (new ++ base)) (All2 (PairIn new) os ((ss.take i).flatMap Side.found)) (Above new led) (∀ p ∈ new, p.1 ≠ O) (os.length ≤ 2 * i) (m (Str.ofString "found") = some (.ref O)))
    (src_tuple rfl X vs n0) F9 N9 rfl rfl rfl ⟨[], 0, [], rfl, .nil, above_nil, (fun _ h => nomatch h), by simp, m0f⟩ ?need ?turn ?done
  case need =>
    intro i m nw hz3 q hq
    (try (show (let GZ : Prop := _; GZ); intro GZ))
    obtain ⟨os, n, new, rfl, -⟩ := hz3
    (try k_unfold)
    rw [List.mem_singleton.mp hq]
    exact .tail _ (List.mem_append_right _ hX)
  case done =>
    clear F9 N9
    intro m1 nw h tk hz4 F' N'
    (try k_fold); (try (show (let GZ : Prop := _; GZ); intro GZ))
    obtain ⟨os, n2, new, rfl, hos, hab, hne2, -, m1f⟩ := hz4
    (try k_unfold)
    rw [hsl, List.take_length] at hos
    exact hdone m1 os n2 new h tk hos hab m1f F' N'
  case turn =>
    clear F9 N9 hdone m0f
    intro i v m1 nw I oI h tk hin hv hz10 hne F' N'
    (try k_fold)
    (try (show (let GZ : Prop := wpAny _ _ _ _ _ _; GZ); intro GZ))
    obtain ⟨os, n2, new, rfl, hos, hab, hne2, hol, m1f⟩ := hz10
    obtain ⟨sd, hsd, hsi⟩ := All2.get h2 i v hv
    have hOI : @Ne Nat O I := hne (O, listOf os.toArray n2) (.head _)
    have hIO := Ne.symm hOI
    have hneR : ∀ q ∈ new ++ base, q.1 ≠ I := fun q hq => hne q (.tail _ hq)
    have hNb := hOoff
    have hil : i ≤ 3 := by
      have : vs.length ≤ 3 := by rw [hsl]; exact hss
      omega
    cases sd with
    | atom =>
      (try k_fold); (try (show (let GZ : Prop := _; GZ); intro GZ))
      obtain ⟨p2, t2, t2', n3, rfl, hm2⟩ := hsi
      (try k_unfold)
      k_steps
      (rename Fr _ _ _ _ => F9; rename News _ _ _ _ => N9)
      refine turn_next F9 N9 (ne_cons hOI hneR) ⟨os, n2, new, rfl, ?_, hab, hne2, by omega, m1f⟩
      rw [flat_snoc hsd]
      simpa [Side.found] using hos
    | var k =>
      (try k_fold); (try (show (let GZ : Prop := _; GZ); intro GZ))
      obtain ⟨p2, t2, t2', n3, rfl, hm2⟩ := hsi
      (try k_unfold)
      k_steps
      (rename Fr _ _ _ _ => F9; rename News _ _ _ _ => N9)
      rename_i T1 _ hT1 _
      have hT1l : AllLt T1 led := allLt_sub (allLt_sub hT1.2.2 (by walk_at "led_sub")) hsub
      refine turn_next F9 (news_sub (l' := (I, oI) :: (O, _) :: (((T1, _) :: new) ++ base)) N9 (by walk_at "led_sub")) (ne_cons hOI (ne_cons (Nat.ne_of_gt hT1.1) hneR)) ⟨_, _, (T1, _) :: new, rfl, ?_, above_cons hT1l hab, ne_cons (Nat.ne_of_gt hT1.2.1) hne2, by simp; omega, m1f⟩
      rw [flat_snoc hsd]
      exact All2.snoc (All2.imp (fun _ _ h => h.mono fun p hp => .tail _ hp) hos) ⟨T1, _, _, _, rfl, .head _⟩
    | s2 k j =>
      (try (show (let GZ : Prop := wpAny _ _ _ _ _ _; GZ); intro GZ))
      (try k_fold); (try (show (let GZ : Prop := _; GZ); intro GZ))
      obtain ⟨p, t, t', b, n1, hm1, a1, d, n2', hm2, u1, u1', n3, hm3, t2, t2', e, n4, hm4, f, a2, n5, hm5, u2, u2', n6, hm6, u3, u3', n7, hm7⟩ := hsi
      (try k_unfold)
      k_steps
      (rename Fr _ _ _ _ => F9; rename News _ _ _ _ => N9)
      rename_i T1 _ hT1 _ _ T2 _ hT2 _
      have hT1l : AllLt T1 led := allLt_sub (allLt_sub hT1.2.2 (by walk_at "led_sub")) hsub
      have hT2l : AllLt T2 led := allLt_sub (allLt_sub hT2.2.2.2 (by walk_at "led_sub")) hsub
      refine turn_next F9 (news_sub (l' := (I, oI) :: (O, _) :: (((T2, _) :: (T1, _) :: new) ++ base)) N9 (by walk_at "led_sub")) (ne_cons hOI (ne_cons (Nat.ne_of_gt hT2.2.1) (ne_cons (Nat.ne_of_gt hT1.1) hneR))) ⟨_, _, (T2, _) :: (T1, _) :: new, rfl, ?_, above_cons hT2l (above_cons hT1l hab), ne_cons (Nat.ne_of_gt hT2.2.2.1) (ne_cons (Nat.ne_of_gt hT1.2.1) hne2), by simp; omega, m1f⟩
      rw [flat_snoc hsd]
      show All2 _ _ (_ ++ [(k, Str.ofString "goal_struct"), (j, Str.ofString "goal_struct")])
      rw [pair_app]
      exact All2.snoc (All2.snoc (All2.imp (fun _ _ h => h.mono fun p hp => .tail _ (.tail _ hp)) hos) ⟨T1, _, _, _, rfl, .tail _ (.head _)⟩) ⟨T2, _, _, _, rfl, .head _⟩
theorem law_found (v0 : Value) (g0 : Goal) (led : Led) (hg : GoalIn led v0 g0) (hok : g0.ok) :
    Ctr w loose mean mg mb 250 1 [v0] led (ListPost (fun vs new => All2 (PairIn new) vs g0.found) led) := by
  refine ctr_intro ?_
  k_fill
  intro dp un gd cn cs a ccd cl outer A₀ base h₀ L m sH sG sD sT sO Q E B F X N T hk hd hu hret
  cases g0 with
  | mark =>
    (try k_fold); (try (show (let GZ : Prop := _; GZ); intro GZ))
    obtain ⟨p, t, t', n, rfl, hm⟩ := hg
    (try k_unfold)
    refine wpAny_call ?_
    refine' code_def (binds := [(Str.ofString "goal", .ref p)]) ?k1 ?k2 ?k3 ?k4 ?k5 ?kA ?kF ?kK ?k6 ?k7 ?k8 ?k9 ?kB ?_ ?c2 ?c3 ?c4 ?c5
    (case kA => exact rfl)
    (case kF => exact rfl)
    (case kK => assumption)
    (case k1 => exact B)
    (case k2 => exact F)
    (case k3 => exact X)
    (case k4 => exact N)
    (case k5 => exact T)
    (case k6 => k_is)
    (case k7 => k_is)
    (case k8 => ktr_room)
    (case k9 => exact BindsTo.of_eq rfl)
    (case c5 => decide)
    (case kB => exact locs rfl)
    (case c2 => exact rfl)
    (case c3 => exact rfl)
    (case c4 => exact rfl)
    clear B X T
    intro g L' h' FG' F' N' B' X' T'
    refine no_raise ?_
    (try dsimp only)
    (try k_fold)
    k_steps
    refine leaveK_ (by assumption) (by assumption) fun kF kN => ?_
    rename_i T1 _ hT1 O _ _ _ hO
    exact hret _ _ _ _ kF (pm1 kN) ⟨O, _, _, _, rfl, rfl, .cons ⟨T1, _, _, _, rfl, .head _⟩ .nil, above_cons hO.2.2 (above_cons hT1.2 above_nil)⟩
  | cutto =>
    (try k_fold); (try (show (let GZ : Prop := _; GZ); intro GZ))
    obtain ⟨p, t, t', n, rfl, hm⟩ := hg
    (try k_unfold)
    refine wpAny_call ?_
    refine' code_def (binds := [(Str.ofString "goal", .ref p)]) ?k1 ?k2 ?k3 ?k4 ?k5 ?kA ?kF ?kK ?k6 ?k7 ?k8 ?k9 ?kB ?_ ?c2 ?c3 ?c4 ?c5
    (case kA => exact rfl)
    (case kF => exact rfl)
    (case kK => assumption)
    (case k1 => exact B)
    (case k2 => exact F)
    (case k3 => exact X)
    (case k4 => exact N)
    (case k5 => exact T)
    (case k6 => k_is)
    (case k7 => k_is)
    (case k8 => ktr_room)
    (case k9 => exact BindsTo.of_eq rfl)
    (case c5 => decide)
    (case kB => exact locs rfl)
    (case c2 => exact rfl)
    (case c3 => exact rfl)
    (case c4 => exact rfl)
    clear B X T
    intro g L' h' FG' F' N' B' X' T'
    refine no_raise ?_
    (try dsimp only)
    (try k_fold)
    k_steps
    refine leaveK_ (by assumption) (by assumption) fun kF kN => ?_
    rename_i T1 _ hT1 O _ _ _ hO
    exact hret _ _ _ _ kF (pm1 kN) ⟨O, _, _, _, rfl, rfl, .cons ⟨T1, _, _, _, rfl, .head _⟩ .nil, above_cons hO.2.2 (above_cons hT1.2 above_nil)⟩
  | call ss =>
    (try k_fold); (try (show (let GZ : Prop := _; GZ); intro GZ))
    obtain ⟨p, t, t', b, n, vs, n', rfl, hm, h1, h2⟩ := hg
    (try k_unfold)
    refine wpAny_call ?_
    refine' code_def (binds := [(Str.ofString "goal", .ref p)]) ?k1 ?k2 ?k3 ?k4 ?k5 ?kA ?kF ?kK ?k6 ?k7 ?k8 ?k9 ?kB ?_ ?c2 ?c3 ?c4 ?c5
    (case kA => exact rfl)
    (case kF => exact rfl)
    (case kK => assumption)
    (case k1 => exact B)
    (case k2 => exact F)
    (case k3 => exact X)
    (case k4 => exact N)
    (case k5 => exact T)
    (case k6 => k_is)
    (case k7 => k_is)
    (case k8 => ktr_room)
    (case k9 => exact BindsTo.of_eq rfl)
    (case c5 => decide)
    (case kB => exact locs rfl)
    (case c2 => exact rfl)
    (case c3 => exact rfl)
    (case c4 => exact rfl)
    clear B X T
    intro g L' h' FG' F' N' B' X' T'
    refine no_raise ?_
    (try dsimp only)
    (try k_fold)
    k_steps
    rename_i O _ hlO _ _ D9 _ hlD _ _ _ _ _ _ _ _
    have hOlt := hlO.2
    have hOoff := allLt_ne hOlt
    have hss : ss.length ≤ 3 := hok.1
    (rename Fr _ _ _ _ => F9; rename News _ _ _ _ => N9)
    refine found_loop _ _ _ _ _ _ _ _ _ _ _ _ _ _ _ _ _ _ _ _ _ O _ _ _ led led B' X' T' F9 (news_sub N9 (by walk_at "led_sub")) h1 h2 hss hOoff (fun _ h => h) rfl fun m1 os n2 new h tk hos hab m1f F' N' => ?_
    clear F9 N9
    k_steps
    refine leaveK_ (by assumption) (by assumption) fun kF kN => ?_
    exact hret _ _ _ _ kF (news_sub (l' := (O, _) :: (new ++ led)) kN (by walk_at "led_sub")) ⟨O, os, n2, new, rfl, rfl, hos, above_cons hOlt hab⟩
  | builtin ss =>
    (try k_fold); (try (show (let GZ : Prop := _; GZ); intro GZ))
    obtain ⟨p, t, t', b, n, vs, n', rfl, hm, h1, h2⟩ := hg
    (try k_unfold)
    refine wpAny_call ?_
    refine' code_def (binds := [(Str.ofString "goal", .ref p)]) ?k1 ?k2 ?k3 ?k4 ?k5 ?kA ?kF ?kK ?k6 ?k7 ?k8 ?k9 ?kB ?_ ?c2 ?c3 ?c4 ?c5
    (case kA => exact rfl)
    (case kF => exact rfl)
    (case kK => assumption)
    (case k1 => exact B)
    (case k2 => exact F)
    (case k3 => exact X)
    (case k4 => exact N)
    (case k5 => exact T)
    (case k6 => k_is)
    (case k7 => k_is)
    (case k8 => ktr_room)
    (case k9 => exact BindsTo.of_eq rfl)
    (case c5 => decide)
    (case kB => exact locs rfl)
    (case c2 => exact rfl)
    (case c3 => exact rfl)
    (case c4 => exact rfl)
    clear B X T
    intro g L' h' FG' F' N' B' X' T'
    refine no_raise ?_
    (try dsimp only)
    (try k_fold)
    k_steps
    rename_i O _ hlO _ _ D9 _ hlD _ _ _ _ _ _ _ _
    have hOlt := hlO.2
    have hOoff := allLt_ne hOlt
    have hss : ss.length ≤ 3 := hok.1
    (rename Fr _ _ _ _ => F9; rename News _ _ _ _ => N9)
    refine found_loop _ _ _ _ _ _ _ _ _ _ _ _ _ _ _ _ _ _ _ _ _ O _ _ _ led led B' X' T' F9 (news_sub N9 (by walk_at "led_sub")) h1 h2 hss hOoff (fun _ h => h) rfl fun m1 os n2 new h tk hos hab m1f F' N' => ?_
    clear F9 N9
    k_steps
    refine leaveK_ (by assumption) (by assumption) fun kF kN => ?_
    exact hret _ _ _ _ kF (news_sub (l' := (O, _) :: (new ++ led)) kN (by walk_at "led_sub")) ⟨O, os, n2, new, rfl, rfl, hos, above_cons hOlt hab⟩
  | fail =>
    (try k_fold); (try (show (let GZ : Prop := _; GZ); intro GZ))
    obtain ⟨p, t, n, rfl, hm⟩ := hg
    (try k_unfold)
    refine wpAny_call ?_
    refine' code_def (binds := [(Str.ofString "goal", .ref p)]) ?k1 ?k2 ?k3 ?k4 ?k5 ?kA ?kF ?kK ?k6 ?k7 ?k8 ?k9 ?kB ?_ ?c2 ?c3 ?c4 ?c5
    (case kA => exact rfl)
    (case kF => exact rfl)
    (case kK => assumption)
    (case k1 => exact B)
    (case k2 => exact F)
    (case k3 => exact X)
    (case k4 => exact N)
    (case k5 => exact T)
    (case k6 => k_is)
    (case k7 => k_is)
    (case k8 => ktr_room)
    (case k9 => exact BindsTo.of_eq rfl)
    (case c5 => decide)
    (case kB => exact locs rfl)
    (case c2 => exact rfl)
    (case c3 => exact rfl)
    (case c4 => exact rfl)
    clear B X T
    intro g L' h' FG' F' N' B' X' T'
    refine no_raise ?_
    (try dsimp only)
    (try k_fold)
    k_steps
    rename_i O _ hlO _ _ D9 _ hlD _ _ _ _ _ _ _
    have hOlt := hlO.2
    have hOoff : ∀ p ∈ (D9, tupO [] 0) :: led, p.1 ≠ O := ne_cons (Nat.ne_of_gt hlD.1) (allLt_ne hOlt)
    have hss : ([] : List Side).length ≤ 3 := by simp
    have h2 : SidesIn ((D9, tupO [] 0) :: led) [] [] := .nil
    (rename Fr _ _ _ _ => F9; rename News _ _ _ _ => N9)
    refine found_loop _ _ _ _ _ _ _ _ _ _ _ _ _ _ _ _ _ _ _ _ _ O _ _ _ led ((D9, tupO [] 0) :: led) B' X' T' F9 (news_sub N9 (by walk_at "led_sub")) (.head _) h2 hss hOoff (fun _ h => .tail _ h) rfl fun m1 os n2 new h tk hos hab m1f F' N' => ?_
    clear F9 N9
    k_steps
    refine leaveK_ (by assumption) (by assumption) fun kF kN => ?_
    exact hret _ _ _ _ kF (news_sub (l' := (O, _) :: (new ++ led)) kN (by walk_at "led_sub")) ⟨O, os, n2, new, rfl, rfl, hos, above_cons hOlt hab⟩
  | unify a b =>
    (try k_fold); (try (show (let GZ : Prop := _; GZ); intro GZ))
    obtain ⟨p, t, v1, v2, n, rfl, hm, h1, h2'⟩ := hg
    (try k_unfold)
    refine wpAny_call ?_
    refine' code_def (binds := [(Str.ofString "goal", .ref p)]) ?k1 ?k2 ?k3 ?k4 ?k5 ?kA ?kF ?kK ?k6 ?k7 ?k8 ?k9 ?kB ?_ ?c2 ?c3 ?c4 ?c5
    (case kA => exact rfl)
    (case kF => exact rfl)
    (case kK => assumption)
    (case k1 => exact B)
    (case k2 => exact F)
    (case k3 => exact X)
    (case k4 => exact N)
    (case k5 => exact T)
    (case k6 => k_is)
    (case k7 => k_is)
    (case k8 => ktr_room)
    (case k9 => exact BindsTo.of_eq rfl)
    (case c5 => decide)
    (case kB => exact locs rfl)
    (case c2 => exact rfl)
    (case c3 => exact rfl)
    (case c4 => exact rfl)
    clear B X T
    intro g L' h' FG' F' N' B' X' T'
    refine no_raise ?_
    (try dsimp only)
    (try k_fold)
    k_steps
    (rename Fr _ _ _ _ => F9; rename News _ _ _ _ => N9)
    rename_i O _ hlO _
    have hOlt := hlO.2
    refine slice_from_K (a := 1) (items := #[_, v1, v2]) F9 N9 ⟨_, (N9 _ (.tail _ (.tail _ hm))).1, rfl, n, rfl⟩ (by decide) (by simp) (fun X h' F' N' lX => ?_) (hsz := by simp [sizeLine_eq])
    have N' : News g L' h' ((X, tupO [v1, v2] 0) :: (O, listOf #[] 0) :: led) := news_sub N' (by
      intro p hp
      rcases List.mem_cons.mp hp with rfl | hp
      · exact .head _
      rcases List.mem_cons.mp hp with rfl | hp
      · exact .tail _ (.head _)
      · exact .tail _ (.tail _ (.tail _ hp)))
    have hXO := lX _ (.head _)
    clear F9 N9 lX
    k_steps
    have hOoff : ∀ p ∈ (X, tupO [v1, v2] 0) :: led, p.1 ≠ O := ne_cons (Nat.ne_of_gt hXO) (allLt_ne hOlt)
    have hss : [a, b].length ≤ 3 := by simp
    have h2 : SidesIn ((X, tupO [v1, v2] 0) :: led) [v1, v2] [a, b] := .cons (h1.mono fun p hp => .tail _ hp) (.cons (h2'.mono fun p hp => .tail _ hp) .nil)
    (rename Fr _ _ _ _ => F9; rename News _ _ _ _ => N9)
    refine found_loop _ _ _ _ _ _ _ _ _ _ _ _ _ _ _ _ _ _ _ _ _ O _ _ _ led ((X, tupO [v1, v2] 0) :: led) B' X' T' F9 (news_sub N9 (by walk_at "led_sub")) (.head _) h2 hss hOoff (fun _ h => .tail _ h) rfl fun m1 os n2 new h tk hos hab m1f F' N' => ?_
    clear F9 N9
    k_steps
    refine leaveK_ (by assumption) (by assumption) fun kF kN => ?_
    exact hret _ _ _ _ kF (news_sub (l' := (O, _) :: (new ++ led)) kN (by walk_at "led_sub")) ⟨O, os, n2, new, rfl, rfl, (by simpa [Goal.found] using hos), above_cons hOlt hab⟩

end PKF
section PLT
/-! tools for the law -/
def Ord6 (c1 c2 c3 c4 c5 c6 : Nat) : Prop := c1 < c2 ∧ c2 < c3 ∧ c3 < c4 ∧ c4 < c5 ∧ c5 < c6
theorem Ord6.mk (z : Nat) : Ord6 (z + 1) (z + 1 + 1) (z + 1 + 1 + 1) (z + 1 + 1 + 1 + 1) (z + 1 + 1 + 1 + 1 + 1) (z + 1 + 1 + 1 + 1 + 1 + 1) := ⟨Nat.lt_succ_self _, Nat.lt_succ_self _, Nat.lt_succ_self _, Nat.lt_succ_self _, Nat.lt_succ_self _⟩
theorem Ord6.ne {c1 c2 c3 c4 c5 c6 : Nat} (h : Ord6 c1 c2 c3 c4 c5 c6) : @Ne Nat c5 c6 ∧ @Ne Nat c4 c6 ∧ @Ne Nat c3 c6 ∧ @Ne Nat c2 c6 := by
  (try k_fold); (try (show (let GZ : Prop := _; GZ); intro GZ))
  obtain ⟨h1, h2, h3, h4, h5⟩ := h
  (try k_unfold)
  omega
section
variable {c1 c2 c3 c4 c5 c6 : Nat} {R S Z : Led} {p2 p3 p4 p5 p6 o : Obj} {a : Addr}
def Off5 (c2 c3 c4 c5 c6 : Nat) (R : Led) : Prop := ∀ p ∈ R, @Ne Nat p.1 c2 ∧ @Ne Nat p.1 c3 ∧ @Ne Nat p.1 c4 ∧ @Ne Nat p.1 c5 ∧ @Ne Nat p.1 c6
abbrev cells5 (c2 c3 c4 c5 c6 : Nat) (p2 p3 p4 p5 p6 : Obj) : Led := [(c6, p6), (c5, p5), (c4, p4), (c3, p3), (c2, p2)]
theorem cells5_in (hZ : Z = (c6, p6) :: (c5, p5) :: (c4, p4) :: (c3, p3) :: (c2, p2) :: R) : ∀ p ∈ cells5 c2 c3 c4 c5 c6 p2 p3 p4 p5 p6, p ∈ Z := by
  subst hZ
  exact fun p hp => List.mem_append_left R hp
theorem Off5.app (h : Off5 c2 c3 c4 c5 c6 R) (k : Off5 c2 c3 c4 c5 c6 S) : Off5 c2 c3 c4 c5 c6 (R ++ S) := fun p hp => (List.mem_append.mp hp).elim (h p) (k p)
theorem Off5.cons (h : Off5 c2 c3 c4 c5 c6 [(a, o)]) (k : Off5 c2 c3 c4 c5 c6 R) : Off5 c2 c3 c4 c5 c6 ((a, o) :: R) := h.app k
theorem Off5.gt (hO : Ord6 c1 c2 c3 c4 c5 c6) (h : @LT.lt Nat _ c6 a) : Off5 c2 c3 c4 c5 c6 [(a, o)] := fun p hp => by
  rw [List.mem_singleton.mp hp]
  (try (show (let GZ : Prop := _; GZ); intro GZ))
  obtain ⟨h1, h2, h3, h4, h5⟩ := hO
  (try k_unfold)
  show @Ne Nat a _ ∧ @Ne Nat a _ ∧ @Ne Nat a _ ∧ @Ne Nat a _ ∧ @Ne Nat a _
  have h' : c6 < (a : Nat) := h
  generalize (a : Nat) = b at h'
  omega
theorem Off5.one (hO : Ord6 c1 c2 c3 c4 c5 c6) : Off5 c2 c3 c4 c5 c6 [(c1, o)] := fun p hp => by
  rw [List.mem_singleton.mp hp]
  (try (show (let GZ : Prop := _; GZ); intro GZ))
  obtain ⟨h1, h2, h3, h4, h5⟩ := hO
  (try k_unfold)
  show @Ne Nat c1 _ ∧ @Ne Nat c1 _ ∧ @Ne Nat c1 _ ∧ @Ne Nat c1 _ ∧ @Ne Nat c1 _
  omega
theorem Off5.apart (h : Apart R S) (hs : ∀ p ∈ cells5 c2 c3 c4 c5 c6 p2 p3 p4 p5 p6, p ∈ S) : Off5 c2 c3 c4 c5 c6 R := fun p hp =>
  ⟨h p hp _ (hs (c2, p2) (.tail _ (.tail _ (.tail _ (.tail _ (.head _)))))), h p hp _ (hs (c3, p3) (.tail _ (.tail _ (.tail _ (.head _))))), h p hp _ (hs (c4, p4) (.tail _ (.tail _ (.head _)))), h p hp _ (hs (c5, p5) (.tail _ (.head _))), h p hp _ (hs (c6, p6) (.head _))⟩
theorem Off5.above (h : Above R S) (hs : ∀ p ∈ cells5 c2 c3 c4 c5 c6 p2 p3 p4 p5 p6, p ∈ S) : Off5 c2 c3 c4 c5 c6 R := Off5.apart (Apart.of_above h) hs
theorem Off5.o2 (h : Off5 c2 c3 c4 c5 c6 R) : ∀ p ∈ R, p.1 ≠ c2 := fun p hp => (h p hp).1
theorem Off5.o3 (h : Off5 c2 c3 c4 c5 c6 R) : ∀ p ∈ R, p.1 ≠ c3 := fun p hp => (h p hp).2.1
theorem Off5.o4 (h : Off5 c2 c3 c4 c5 c6 R) : ∀ p ∈ R, p.1 ≠ c4 := fun p hp => (h p hp).2.2.1
theorem Off5.o5 (h : Off5 c2 c3 c4 c5 c6 R) : ∀ p ∈ R, p.1 ≠ c5 := fun p hp => (h p hp).2.2.2.1
theorem Off5.o6 (h : Off5 c2 c3 c4 c5 c6 R) : ∀ p ∈ R, p.1 ≠ c6 := fun p hp => (h p hp).2.2.2.2
end
inductive KDict (tp D : Addr) (o : Obj) : Prop
  | mk (h1 h2 h3 h4 : Int) (t1 t2 t3 t4 : Tok) (fv cv : Value) (h : o = dictOf [⟨h1, .str (Str.ofString "functor") t1, fv⟩, ⟨h2, .str (Str.ofString "args") t2, .ref tp⟩, ⟨h3, .str (Str.ofString "goals") t3, .ref D⟩, ⟨h4, .str (Str.ofString "count") t4, cv⟩] 4) : KDict tp D o
theorem PlanIn.mono {w : World} {led led' : Led} {r : Value} {p : Plan} (h : PlanIn w led r p) (hs : ∀ q ∈ led, q ∈ led') : PlanIn w led' r p := by
  cases h with
  | mk px pd D C cvs cn LV lvs ln own rest h1 h2 h3 h4 h5 t1 t2 t3 t4 t5 t6 a b c d f g i j k =>
    exact .mk px pd D C cvs cn LV lvs ln own rest h1 h2 h3 h4 h5 t1 t2 t3 t4 t5 t6 (hs _ a) (hs _ b) (hs _ c) d (hs _ f) g (fun q hq => hs _ (i q hq)) j k
def CutEnd (h₀ : Heap) (L : Addr) (J : (Str → Option Value) → Led → Prop) (s : Shared) (f : Flow) (s' : Shared) : Prop :=
  f = .next ∧ ∃ m nw h tk, s' = { s with heap := h, toks := tk } ∧ Fr h₀ L h m ∧ News h₀ L h nw ∧ J m nw
theorem cut_next_0 {M : Model} {A : Around} {t : Sem Flow} {Q : Flow → Shared → Prop} {E : Value → Shared → Prop} {s : Shared} {h₀ : Heap} {L : Addr} (J : (Str → Option Value) → Led → Prop)
    (h1 : wpAny M A t (CutEnd h₀ L J s) (fun _ _ => False) s) (h2 : ∀ m nw h tk, J m nw → Fr h₀ L h m → News h₀ L h nw → Q .next { s with heap := h, toks := tk }) : wpAny M A t Q E s :=
  wpAny_mono h1 (fun f s' hf => by
    (try k_fold); (try (show (let GZ : Prop := _; GZ); intro GZ))
    obtain ⟨rfl, m, nw, h, tk, rfl, F, N, hJ⟩ := hf
    (try k_unfold)
    exact h2 m nw h tk hJ F N) fun _ _ e => e.elim
theorem cut_next {hp0 : Heap} {gs : Array GenState} {dr : Drawn} {tk0 : Nat} {os0 : OsState} {M : Model} {A : Around} {t : Sem Flow} {Q : Flow → Shared → Prop} {E : Value → Shared → Prop} {h₀ : Heap} {L : Addr} (J : (Str → Option Value) → Led → Prop)
    (h1 : wpAny M A t (CutEnd h₀ L J ⟨hp0, gs, dr, tk0, os0⟩) (fun _ _ => False) ⟨hp0, gs, dr, tk0, os0⟩) (h2 : ∀ m nw h tk, J m nw → Fr h₀ L h m → News h₀ L h nw → Q .next ⟨h, gs, dr, tk, os0⟩) : wpAny M A t Q E ⟨hp0, gs, dr, tk0, os0⟩ :=
  cut_next_0 (s := ⟨hp0, gs, dr, tk0, os0⟩) J h1 h2
theorem cut_end {h₀ h : Heap} {L : Addr} {J : (Str → Option Value) → Led → Prop} {s : Shared} {m : Str → Option Value} {nw : Led} {tk : Nat} (F : Fr h₀ L h m) (N : News h₀ L h nw) (hJ : J m nw) : CutEnd h₀ L J s .next { s with heap := h, toks := tk } :=
  ⟨rfl, m, nw, h, tk, rfl, F, N, hJ⟩
/-! goals as data -/
def Side.dat : Side → Dat
  | .atom => .tuple [.str (Str.ofString "a"), .int 3]
  | .var k => .tuple [.str (Str.ofString "v"), .int k]
  | .s2 k j => .tuple [.str (Str.ofString "s"), .int 2, .tuple [.tuple [.str (Str.ofString "v"), .int k], .tuple [.str (Str.ofString "s"), .int 2, .tuple [.tuple [.str (Str.ofString "i"), .int 1], .tuple [.str (Str.ofString "v"), .int j]]]]]
def Goal.dat : Goal → Dat
  | .mark => .tuple [.str (Str.ofString "mark"), .int 6]
  | .cutto => .tuple [.str (Str.ofString "cutto"), .int 6]
  | .fail => .tuple [.str (Str.ofString "fail")]
  | .unify a b => .tuple [.str (Str.ofString "unify"), a.dat, b.dat]
  | .call ss => .tuple [.str (Str.ofString "call"), .int 9, .tuple (ss.map Side.dat)]
  | .builtin ss => .tuple [.str (Str.ofString "builtin"), .int 9, .tuple (ss.map Side.dat)]
theorem side_dat {led : Led} {v : Value} : ∀ {s : Side}, SideIn led v s → DatIn led v s.dat
  | .atom, h => by
    (try k_fold); (try (show (let GZ : Prop := _; GZ); intro GZ))
    obtain ⟨a, t, t', n, rfl, hm⟩ := h
    (try k_unfold)
    exact .tuple hm (.cons (.str _ _) (.cons (.int _ _) .nil))
  | .var k, h => by
    (try k_fold); (try (show (let GZ : Prop := _; GZ); intro GZ))
    obtain ⟨a, t, t', n, rfl, hm⟩ := h
    (try k_unfold)
    exact .tuple hm (.cons (.str _ _) (.cons (.int _ _) .nil))
  | .s2 k j, h => by
    (try k_fold); (try (show (let GZ : Prop := _; GZ); intro GZ))
    obtain ⟨p, t, t', b, n1, hm1, a1, d, n2, hm2, u1, u1', n3, hm3, t2, t2', e, n4, hm4, f, a2, n5, hm5, u2, u2', n6, hm6, u3, u3', n7, hm7⟩ := h
    (try k_unfold)
    refine .tuple hm1 (.cons (.str _ _) (.cons (.int _ _) (.cons (.tuple hm2 (.cons (.tuple hm3 (.cons (.str _ _) (.cons (.int _ _) .nil))) (.cons (.tuple hm4 (.cons (.str _ _) (.cons (.int _ _) (.cons (.tuple hm5 (.cons (.tuple hm6 (.cons (.str _ _) (.cons (.int _ _) .nil))) (.cons (.tuple hm7 (.cons (.str _ _) (.cons (.int _ _) .nil))) .nil))) .nil)))) .nil))) .nil)))
theorem sides_dat {led : Led} {vs : List Value} {ss : List Side} (h : SidesIn led vs ss) : DatAll led vs (ss.map Side.dat) := by
  induction h with
  | nil => exact .nil
  | cons h1 _ ih => exact .cons (side_dat h1) ih
theorem goal_dat {led : Led} {v : Value} : ∀ {g : Goal}, GoalIn led v g → DatIn led v g.dat
  | .mark, h => by
    (try k_fold); (try (show (let GZ : Prop := _; GZ); intro GZ))
    obtain ⟨a, t, t', n, rfl, hm⟩ := h
    (try k_unfold)
    exact .tuple hm (.cons (.str _ _) (.cons (.int _ _) .nil))
  | .cutto, h => by
    (try k_fold); (try (show (let GZ : Prop := _; GZ); intro GZ))
    obtain ⟨a, t, t', n, rfl, hm⟩ := h
    (try k_unfold)
    exact .tuple hm (.cons (.str _ _) (.cons (.int _ _) .nil))
  | .fail, h => by
    (try k_fold); (try (show (let GZ : Prop := _; GZ); intro GZ))
    obtain ⟨a, t, n, rfl, hm⟩ := h
    (try k_unfold)
    exact .tuple hm (.cons (.str _ _) .nil)
  | .unify x y, h => by
    (try k_fold); (try (show (let GZ : Prop := _; GZ); intro GZ))
    obtain ⟨a, t, v1, v2, n, rfl, hm, h1, h2⟩ := h
    (try k_unfold)
    exact .tuple hm (.cons (.str _ _) (.cons (side_dat h1) (.cons (side_dat h2) .nil)))
  | .call ss, h => by
    (try k_fold); (try (show (let GZ : Prop := _; GZ); intro GZ))
    obtain ⟨a, t, t', b, n, vs, n', rfl, hm, h1, h2⟩ := h
    (try k_unfold)
    exact .tuple hm (.cons (.str _ _) (.cons (.int _ _) (.cons (.tuple h1 (sides_dat h2)) .nil)))
  | .builtin ss, h => by
    (try k_fold); (try (show (let GZ : Prop := _; GZ); intro GZ))
    obtain ⟨a, t, t', b, n, vs, n', rfl, hm, h1, h2⟩ := h
    (try k_unfold)
    exact .tuple hm (.cons (.str _ _) (.cons (.int _ _) (.cons (.tuple h1 (sides_dat h2)) .nil)))
theorem goals_dat {led : Led} {vs : List Value} {gs : List Goal} (h : All2 (GoalIn led) vs gs) : DatAll led vs (gs.map Goal.dat) := by
  induction h with
  | nil => exact .nil
  | cons h1 _ ih => exact .cons (goal_dat h1) ih
theorem side_ok8 (s : Side) : kqdOk 6 s.dat = true := by
  cases s <;> simp [Side.dat, kqdOk] <;> decide +kernel
theorem goal_ok8 (g : Goal) : kqdOk 8 g.dat = true := by
  have h7 : ∀ s : Side, kqdOk 7 s.dat = true := fun s => by cases s <;> simp [Side.dat, kqdOk] <;> decide +kernel
  cases g with
  | mark => simp [Goal.dat, kqdOk]; decide +kernel
  | cutto => simp [Goal.dat, kqdOk]; decide +kernel
  | fail => simp [Goal.dat, kqdOk]; decide +kernel
  | unify a b => simp [Goal.dat, kqdOk, h7]; decide +kernel
  | call ss => simp [Goal.dat, kqdOk, side_ok8]; decide +kernel
  | builtin ss => simp [Goal.dat, kqdOk, side_ok8]; decide +kernel
section
variable {prog : Program} {w : World} {A : Around} {E : Value → Shared → Prop} {s : Shared} {h₀ : Heap} {L : Addr} {news : Led}
theorem goals_ne {D e0 : Addr} {vs : List Value} {n k : Nat} {gs : List Goal} {Q : Value → Shared → Prop} (N : News h₀ L s.heap news) (hm : (D, listOf vs.toArray n) ∈ news) (hg : All2 (GoalIn news) vs gs) (he : (e0, listOf #[] k) ∈ news) (hu : A.units + 64 < cLine) (b : Bool) (hb : b = !decide (gs = []))
    (h : Q (.bool b) s) : wpAny (model prog w) A (compareOp .NotEq (.ref D) (.ref e0)) Q E s := by
  refine kqd_ne (xs := vs) (ys := []) (ds := gs.map Goal.dat) (es := []) N hm rfl rfl (goals_dat hg) (fun _ h => h) he rfl rfl .nil (fun _ h => h) ?_ (fun _ h => nomatch h) hu ?_
  · intro d hd
    obtain ⟨g, -, rfl⟩ := List.mem_map.mp hd
    exact goal_ok8 g
  · subst hb
    cases gs with
    | nil => simpa using h
    | cons g gs => simpa using h
theorem rows_ne {a b : Addr} {oa ob : Obj} {r : KRow} {Q : Value → Shared → Prop} (N : News h₀ L s.heap news) (ha : (a, oa) ∈ news) (hb : (b, ob) ∈ news) (ra : r.at oa) (rb : r.at ob) (hk : PyData.strOk r.kind = true) (hf : PyData.strOk r.first = true) (hu : A.units + 64 < cLine)
    (h : Q (.bool false) s) : wpAny (model prog w) A (compareOp .NotEq (.ref a) (.ref b)) Q E s := by
  (try k_fold); (try (show (let GZ : Prop := _; GZ); intro GZ))
  obtain ⟨t1, t2, t3, t4, t5, n, rfl⟩ := ra
  (try k_unfold)
  (try k_fold); (try (show (let GZ : Prop := _; GZ); intro GZ))
  obtain ⟨u1, u2, u3, u4, u5, k, rfl⟩ := rb
  (try k_unfold)
  have hR : ∀ (h' : Heap) t1 t2 t3 t4 t5, ∃ as, ReadsAll h' [.int r.var t1, .str r.kind t2, .str r.first t3, .int r.lg t4, .bool r.uns, .int r.count t5] [.int r.var, .str r.kind, .str r.first, .int r.lg, .bool r.uns, .int r.count] as :=
    fun h' t1 t2 t3 t4 t5 => ⟨_, ReadsAll.cons (Reads.int _ _) (ReadsAll.cons (Reads.str _ _) (ReadsAll.cons (Reads.str _ _) (ReadsAll.cons (Reads.int _ _) (ReadsAll.cons (Reads.bool _) (ReadsAll.cons (Reads.int _ _) ReadsAll.nil)))))⟩
  obtain ⟨as, h1⟩ := hR s.heap t1 t2 t3 t4 t5
  obtain ⟨bs, h2⟩ := hR s.heap u1 u2 u3 u4 u5
  have hsh : PySem.SeqAt.shaped (.tuple [.int r.var, .str r.kind, .str r.first, .int r.lg, .bool r.uns, .int r.count]) = true := by
    unfold PySem.SeqAt.shaped
    simp [PyData.canLay0, PyData.canLayAll0, PyData.depth, PyData.depthAll, hk, hf]
  refine ne_dataH (reads_tuple_at (N.get ha) rfl rfl (by simpa using h1)) (reads_tuple_at (N.get hb) rfl rfl (by simpa using h2)) hsh hsh hu ?_
  have : PyData.eqv (.tuple [.int r.var, .str r.kind, .str r.first, .int r.lg, .bool r.uns, .int r.count]) (.tuple [.int r.var, .str r.kind, .str r.first, .int r.lg, .bool r.uns, .int r.count]) = true := by
    simp [PyData.eqv, PyData.eqvAll]
  rw [this]
  exact h
end
def HoldOn : Prop := True
theorem seq_last {n : Nat} (h : 0 < n) : seqIndex? (-1) n = some (n - 1) := by
  unfold seqIndex?
  simp
  omega
theorem last_split {gs : List Goal} {g : Goal} (h : gs[gs.length - 1]? = some g) : gs.foldl chunkStep 0 = chunkStep (cAt gs (gs.length - 1)) g := by
  have h0 : 0 < gs.length := by
    have := (List.getElem?_eq_some_iff.mp h).1
    omega
  have e : gs = gs.take (gs.length - 1) ++ [g] := by
    have := take_snoc h
    rw [show gs.length - 1 + 1 = gs.length by omega, List.take_length] at this
    exact this
  conv => lhs; rw [e]
  rw [List.foldl_append]
  rfl
section
variable {prog : Program} {w : World} {A : Around} {E : Value → Shared → Prop} {s : Shared} {h₀ : Heap} {L : Addr} {news : Led}
theorem ints_same {a b : Addr} {vs us : List Value} {n k : Nat} {ns ms : List Int} {Q : Value → Shared → Prop} (N : News h₀ L s.heap news) (ha : (a, listOf vs.toArray n) ∈ news) (hi : IntsAre vs ns) (hb : (b, listOf us.toArray k) ∈ news) (hi' : IntsAre us ms) (hu : A.units + 64 < cLine) (he : ns = ms)
    (h : Q (.bool false) s) : wpAny (model prog w) A (compareOp .NotEq (.ref a) (.ref b)) Q E s :=
  ne_intsK ⟨_, (N _ ha).1, rfl, n, rfl⟩ hi ⟨_, (N _ hb).1, rfl, k, rfl⟩ hi' hu (by rw [decide_eq_true he]; exact h)
end
theorem goals_mono {led led' : Led} {vs : List Value} {gs : List Goal} (h : All2 (GoalIn led) vs gs) (hs : ∀ p ∈ led, p ∈ led') : All2 (GoalIn led') vs gs := All2.imp (fun _ _ h => GoalIn.mono hs h) h
theorem found_fst {led : Led} {vs : List Value} {fs : List (Int × Str)} (h : All2 (PairIn led) vs fs) : ∀ (i : Nat) (v : Value), vs[i]? = some v → ∃ f, fs[i]? = some f ∧ PairIn led v f := fun i v hv => All2.get h i v hv
theorem mem_any {ns : List Int} {k : Int} : (ns.any (· == k)) = decide (k ∈ ns) := by
  induction ns with
  | nil => rfl
  | cons a r ih =>
    rw [List.any_cons, ih]
    by_cases h : a = k
    · subst h; simp
    · have : ¬ k = a := fun e => h e.symm
      simp [h, this]
section
variable {prog : Program} {w : World} {A : Around} {E : Value → Shared → Prop} {s : Shared} {h₀ : Heap} {L : Addr} {news : Led}
theorem in_I {a : Addr} {vs : List Value} {n : Nat} {ns : List Int} {k : Int} {t : Tok} {Q : Value → Shared → Prop} (N : News h₀ L s.heap news) (ha : (a, listOf vs.toArray n) ∈ news) (hi : IntsAre vs ns) (h : Q (.bool (decide (k ∈ ns))) s) : wpAny (model prog w) A (compareOp .In (.int k t) (.ref a)) Q E s :=
  in_list_ints ⟨_, (N _ ha).1, rfl, n, rfl⟩ hi (by rw [mem_any]; exact h)
theorem notin_I {a : Addr} {vs : List Value} {n : Nat} {ns : List Int} {k : Int} {t : Tok} {Q : Value → Shared → Prop} (N : News h₀ L s.heap news) (ha : (a, listOf vs.toArray n) ∈ news) (hi : IntsAre vs ns) (h : Q (.bool (!decide (k ∈ ns))) s) : wpAny (model prog w) A (compareOp .NotIn (.int k t) (.ref a)) Q E s :=
  notin_list_ints ⟨_, (N _ ha).1, rfl, n, rfl⟩ hi (by rw [mem_any]; exact h)
end
theorem range_filter_snoc (P : Int → Bool) (i : Nat) : (((List.range (i + 1)).map fun (j : Nat) => (j : Int)).filter P) = (((List.range i).map fun (j : Nat) => (j : Int)).filter P) ++ (if P (i : Int) then [(i : Int)] else []) := by
  rw [List.range_succ, List.map_append, List.filter_append, List.map_cons, List.map_nil, List.filter_cons, List.filter_nil]
theorem sides_found : ∀ (ss : List Side), (ss.flatMap Side.found).length ≤ 2 * ss.length
  | [] => by simp
  | s :: ss => by
    have h := sides_found ss
    rw [List.flatMap_cons, List.length_append, List.length_cons]
    have : s.found.length ≤ 2 := by cases s <;> simp [Side.found]
    omega
theorem Goal.found_length {g : Goal} (h : g.ok) : g.found.length ≤ 6 := by
  cases g with
  | mark => simp [Goal.found]
  | cutto => simp [Goal.found]
  | fail => simp [Goal.found]
  | unify a b =>
    have h1 : a.found.length ≤ 2 := by cases a <;> simp [Side.found]
    have h2 : b.found.length ≤ 2 := by cases b <;> simp [Side.found]
    rw [Goal.found, List.length_append]
    omega
  | call ss =>
    have := sides_found ss
    have h1 : ss.length ≤ 3 := h.1
    rw [Goal.found]
    omega
  | builtin ss =>
    have := sides_found ss
    have h1 : ss.length ≤ 3 := h.1
    rw [Goal.found]
    omega
section
variable {prog : Program} {w : World} {A : Around} {E : Value → Shared → Prop} {s : Shared} {h₀ : Heap} {L : Addr} {news : Led}
theorem ints_eq {a b : Addr} {vs us : List Value} {n k : Nat} {ns ms : List Int} {Q : Value → Shared → Prop} (N : News h₀ L s.heap news) (ha : (a, listOf vs.toArray n) ∈ news) (hi : IntsAre vs ns) (hb : (b, listOf us.toArray k) ∈ news) (hi' : IntsAre us ms) (hu : A.units + 64 < cLine) (he : ns = ms)
    (h : Q (.bool true) s) : wpAny (model prog w) A (compareOp .Eq (.ref a) (.ref b)) Q E s :=
  eq_intsK ⟨_, (N _ ha).1, rfl, n, rfl⟩ hi ⟨_, (N _ hb).1, rfl, k, rfl⟩ hi' hu (by rw [decide_eq_true he]; exact h)
end
section
variable {prog : Program} {w : World} {A : Around} {E : Value → Shared → Prop} {s : Shared} {h₀ : Heap} {L : Addr} {kvs : List (Int × Value)} {o : Obj} {d : Addr} {news : Led}
theorem di_itemA {value slice : PySem.Expr} {Q : Value → Shared → Prop} {k : Int} {t : Tok} {v : Value} (hl : valueAt kvs k = some v) (hd : o.IsDictOf (intKind prog w) kvs) (N : News h₀ L s.heap news) (hp : (d, o) ∈ news) (h : Q v { s with toks := s.toks + 1 })
    (hs : subscripted slice false (.ref d) (.int k t) = operate [.ref d, .int k t] (getItem (.ref d) (.int k t)) := by with_unfolding_all rfl) :
    wpAny (model prog w) A (subscriptTail value slice (.ref d) (.int k t)) Q E s :=
  kba_turn (value' := .Name (Str.ofString "x") ⟨0, 0, 0, 0⟩) (fun _ => rfl) (di_item hl hd N hp h hs (fun _ => rfl))
end

end PLT
section PFC
/-! the for loop whose name is a cell -/
section
variable {prog : Program} {w : World} {A : Around} {E : Value → Shared → Prop} {s : Shared} {env : Env} {x : Str} {px pos : Pos} {iter : PySem.Expr} {body : List Stmt} {Q : Flow → Shared → Prop} {h₀ : Heap}
theorem for_restC_0 {xv : Value} {n : Nat} {P : Nat → Value → Prop} {need : Led} {m : Str → Option Value} {news : Led} {L c : Addr} (J : Nat → (Str → Option Value) → Led → Prop)
    (src : SrcAt prog w A xv n P need) (F : Fr h₀ L s.heap m) (N : News h₀ L s.heap news) (hL : env.locals = L) (hk : env.scope.kind = .function) (hx : env.kindOf x = some .cell) (hc : env.cells.lookup x = some c)
    (hj : J 0 m news) (hcell : ∀ i m nw, J i m nw → ∃ o v₀ nw', nw = (c, o) :: nw' ∧ o.data = .cell v₀ ∧ (∀ p ∈ nw', p.1 ≠ c) ∧ ∀ p ∈ need, p ∈ nw')
    (turn : ∀ i v m₁ o nw I oI o' h tk, i < n → P i v → J i m₁ ((c, o) :: nw) → (∀ p ∈ (c, o) :: nw, p.1 ≠ I) → o'.data = .cell (some v) → Fr h₀ L h m₁ → News h₀ L h ((I, oI) :: (c, o') :: nw) →
      wpAny (model prog w) A (execs body env) (TurnEnd h₀ L (J (i + 1)) (I, oI) { s with heap := h, toks := tk } Q) (fun _ _ => False) { s with heap := h, toks := tk })
    (done : ∀ m₁ nw h tk, J n m₁ nw → Fr h₀ L h m₁ → News h₀ L h nw → Q .next { s with heap := h, toks := tk }) :
    ForRest prog w A env x px body Q xv s := by
  subst hL
  have hneed : ∀ i m nw, J i m nw → ∀ p ∈ need, p ∈ nw := fun i m nw hJ p hp => by
    (try k_fold); (try (show (let GZ : Prop := _; GZ); intro GZ))
    obtain ⟨o, v₀, nw', rfl, -, -, h⟩ := hcell i m nw hJ
    (try k_unfold)
    exact .tail _ (h p hp)
  refine src s _ _ (fun p hp => (N p (hneed _ _ _ hj p hp)).1) fun I fp St h' hkk hI W hfp hst hIo hSt _ => ?_
  have hLlt : ∃ o, s.heap.get? env.locals = some o := let ⟨o, _, _, e, _⟩ := F.ns; ⟨o, e⟩
  have hIL : env.locals ≠ I := fun e => by obtain ⟨o, ho⟩ := hLlt; rw [e, hI] at ho; cases ho
  have hI₀ : h₀.get? I = none := by
    cases e : h₀.get? I with
    | none => rfl
    | some o => have := F.keep I o e; rw [hI] at this; cases this
  have hneI : ∀ p ∈ news, p.1 ≠ I := fun p hp e => by have := (N p hp).1; rw [e, hI] at this; cases this
  refine codeAny_forLoop
    (fun k s' => ForInv h₀ env.locals I n St J s k s') ?_ (n + 1)
    (ForInv.mk h' s.toks m news 0 hst (F.keeps hkk) (fun p hp => ⟨hkk _ _ (N p hp).1, (N p hp).2⟩) hneI hj (Nat.zero_le _))
  intro k s' hz2
  (try k_fold); (try (show (let GZ : Prop := _; GZ); intro GZ))
  obtain ⟨h', tk, m', nw, i, hst', F', N', hnw', hJ, hi⟩ := hz2
  (try k_unfold)
  by_cases hlt : i < n
  · refine W.item i _ _ _ hlt hst' fun v h₁ tk₁ hP hst₁ hk₁ => ?_
    have F₁ := fr_but F' hk₁ hIL hI₀
    have N₁ := news_but N' hk₁ hnw'
    (try k_fold); (try (show (let GZ : Prop := _; GZ); intro GZ))
    obtain ⟨o, v₀, nw', rfl, hod, hoff, hnd⟩ := hcell i m' nw hJ
    (try k_unfold)
    have hmem := N₁ (c, o) (.head _)
    refine wpAny_assign_Name (wpAny_storeName_cell hk hx hc ⟨o, hmem.1, hod⟩ fun h₂ hv hs₂ => ?_)
    obtain ⟨o', ho', hd'⟩ := hv
    have hcI : @Ne Nat c I := hnw' (c, o) (.head _)
    have F₂ := F₁.change hs₂ hmem.2.1 hmem.2.2
    obtain ⟨oI, hoI⟩ := hIo _ _ hst₁
    have hoI₂ : h₂.get? I = some oI := (hs₂.2 I (Ne.symm hcI)).trans hoI
    have N₂ : News h₀ env.locals h₂ ((c, o') :: nw') := fun p hp => by
      rcases List.mem_cons.mp hp with rfl | hp
      · exact ⟨ho', hmem.2⟩
      · exact ⟨(hs₂.2 p.1 (hoff p hp)).trans (N₁ p (.tail _ hp)).1, (N₁ p (.tail _ hp)).2⟩
    have hst₂ : St (i + 1) h₂ := hSt _ _ _ _ hst₁ hoI hoI₂ fun p hp => (N₂ p (.tail _ (hnd p hp))).1
    have N₃ : News h₀ env.locals h₂ ((I, oI) :: (c, o') :: nw') := fun p hp => by
      rcases List.mem_cons.mp hp with rfl | hp
      · exact ⟨hoI₂, Ne.symm hIL, hI₀⟩
      · exact N₂ p hp
    refine wpAny_mono (turn i v m' o nw' I oI o' h₂ _ hlt hP hJ hnw' hd' F₂ N₃) (fun f s₃ h₃ => ?_) fun _ _ e => e.elim
    have fin : ∀ tkx, TurnOk h₀ env.locals (J (i + 1)) (I, oI) { s with heap := h₂, toks := tkx } s₃ → ∃ m, m < n + 1 - i ∧ ForInv h₀ env.locals I n St J s m s₃ := by
      intro tkx hz1
      (try k_fold); (try (show (let GZ : Prop := _; GZ); intro GZ))
      obtain ⟨h₄, tk₄, m₄, nw₄, F₄, N₄, hne₄, hJ₄⟩ := hz1
      (try k_unfold)
      exact ⟨n + 1 - (i + 1), by omega, .mk h₄ tk₄ m₄ nw₄ (i + 1) (hSt _ _ _ _ hst₂ hoI₂ (N₄ _ (.head _)).1 fun p hp => (N₄ p (.tail _ (hneed _ _ _ hJ₄ p hp))).1) F₄ (fun p hp => N₄ p (.tail _ hp)) hne₄ hJ₄ hlt⟩
    cases f with
    | ret v => exact h₃
    | brk => exact h₃
    | next => exact fin _ h₃
    | cont => exact fin _ h₃
  · obtain rfl : i = n := by omega
    refine W.done _ _ _ hst' fun h₁ tk₁ hk₁ => ?_
    exact wpAny_execs_nil (done m' nw h₁ tk₁ hJ (fr_but F' hk₁ hIL hI₀) (news_but N' hk₁ hnw'))
theorem for_restC {hp0 : Heap} {gs : Array GenState} {dr : Drawn} {tk0 : Nat} {os0 : OsState} {xv : Value} {n : Nat} {P : Nat → Value → Prop} {need : Led} {m : Str → Option Value} {news : Led} {L c : Addr} (J : Nat → (Str → Option Value) → Led → Prop)
    (src : SrcAt prog w A xv n P need) (F : Fr h₀ L hp0 m) (N : News h₀ L hp0 news) (hL : env.locals = L) (hk : env.scope.kind = .function) (hx : env.kindOf x = some .cell) (hc : env.cells.lookup x = some c)
    (hj : J 0 m news) (hcell : ∀ i m nw, J i m nw → ∃ o v₀ nw', nw = (c, o) :: nw' ∧ o.data = .cell v₀ ∧ (∀ p ∈ nw', p.1 ≠ c) ∧ ∀ p ∈ need, p ∈ nw')
    (turn : ∀ i v m₁ o nw I oI o' h tk, i < n → P i v → J i m₁ ((c, o) :: nw) → (∀ p ∈ (c, o) :: nw, p.1 ≠ I) → o'.data = .cell (some v) → Fr h₀ L h m₁ → News h₀ L h ((I, oI) :: (c, o') :: nw) →
      wpAny (model prog w) A (execs body env) (TurnEnd h₀ L (J (i + 1)) (I, oI) ⟨h, gs, dr, tk, os0⟩ Q) (fun _ _ => False) ⟨h, gs, dr, tk, os0⟩)
    (done : ∀ m₁ nw h tk, J n m₁ nw → Fr h₀ L h m₁ → News h₀ L h nw → Q .next ⟨h, gs, dr, tk, os0⟩) :
    ForRest prog w A env x px body Q xv ⟨hp0, gs, dr, tk0, os0⟩ :=
  for_restC_0 (s := ⟨hp0, gs, dr, tk0, os0⟩) J src F N hL hk hx hc hj hcell turn done
end
theorem valueAt_none {kvs : List (Int × Value)} {k : Int} (h : k ∉ kvs.map (·.1)) : valueAt kvs k = none := by
  induction kvs with
  | nil => rfl
  | cons a r ih =>
    rw [List.map_cons, List.mem_cons, not_or] at h
    rw [valueAt_cons, if_neg (fun e => h.1 e.symm), ih h.2]
theorem planL_vars (es : List Side) (gs : List Goal) (ks : List Int) : (planL es gs ks).l.map (·.var) = (survI (headL es) gs gs.length).map (·.var) := by
  show (slotI _ _ _).map (·.var) = _
  rw [slotI_vars]
  exact kindI_vars _ _
theorem planL_length {es : List Side} {gs : List Goal} (ks : List Int) (he : es.length ≤ 4) (hg : gs.length ≤ 7) (hok : ∀ g ∈ gs, g.ok) : (planL es gs ks).l.length ≤ 60 := by
  have h1 := congrArg List.length (planL_vars es gs ks)
  simp only [List.length_map] at h1
  have h2 := survI_length (l0 := headL es) hok gs.length
  have h3 := termsL_length (Str.ofString "head") (-1) 0 es []
  simp only [List.length_nil] at h3
  unfold headL at h1 h2
  omega
theorem call_as {M : Model} {A : Around} {E Q : Value → Shared → Prop} {s : Shared} {f : Value} {as bs : List Value} (e : as = bs) (h : wpAny M A (call f bs) Q E s) : wpAny M A (call f as) Q E s := e ▸ h

end PFC
section PLW
section
variable {M : Model} {A : Around} {E : Value → Shared → Prop} {s : Shared}
theorem hold_lc {e : PySem.Expr} {gs : List Comprehension} {sc scope : Scope} {p : Pos} {cl : List (Str × Addr)} {C : Addr} {env : Env} {Q : Value → Shared → Prop} (h : Hold (wpAny M A (eval (.ListComp e gs sc p) (compEnvC scope cl C env)) Q E s)) : wpAny M A (eval (.ListComp e gs sc p) (compEnvC scope cl C env)) Q E s := h
theorem hold_gm {d : Addr} {pl : Sem Bool} {Q : Value × List Value → Shared → Prop} (h : Hold (wpAny M A (getMethod (.ref d) (Str.ofString "get") pl) Q E s)) : wpAny M A (getMethod (.ref d) (Str.ofString "get") pl) Q E s := h
theorem hold_cw {p q : Pos} {first : List Value} {env : Env} {Q : Value → Shared → Prop} (h : Hold (wpAny M A (callWith p (.ref 140) first (backTo q (starEach [] env)) []) Q E s)) : wpAny M A (callWith p (.ref 140) first (backTo q (starEach [] env)) []) Q E s := h
end
-- LAWRULES
local macro_rules | `(tactic| walk_at "getMethod ref") => `(tactic| ((try k_fold); refine hold_gm ?_))
local macro_rules | `(tactic| walk_at "compareOp In int ref") => `(tactic| walk_at "h")
local macro_rules | `(tactic| walk_at "eval ListComp") => `(tactic| ((try k_fold); refine hold_lc ?_))
local macro_rules | `(tactic| walk_at "exec If") => `(tactic| ((rename HoldOn => hHoldOn); (try k_fold); first | refine hold_ifB ?_ | refine hold_ifC ?_))
local macro_rules | `(tactic| walk_at "lwun") => `(tactic| ((try k_fold); first | refine hold_sA ?_ | refine hold_sU ?_))
local macro_rules | `(tactic| walk_at "subscriptTail Name") => `(tactic| walk_at "lwun")
local macro_rules | `(tactic| walk_at "subscriptTail Attribute") => `(tactic| walk_at "lwun")
local macro_rules | `(tactic| walk_at "subscriptTail") => `(tactic| walk_at "lwun")
local macro_rules | `(tactic| walk_at "subscriptTail Name UnaryOp ref int") => `(tactic| walk_at "lwun")
local macro_rules | `(tactic| walk_at "subscriptTail Attribute UnaryOp ref int") => `(tactic| walk_at "lwun")
local macro_rules | `(tactic| walk_at "binaryOp Add ref ref") => `(tactic| walk_at "h")
local macro_rules | `(tactic| walk_at "exec Assign cons BoolOp") => `(tactic| ((rename HoldOn => hHoldOn); walk_at "h"))
local macro_rules | `(tactic| walk_at "compareOp NotEq ref ref") => `(tactic| walk_at "h")
local macro_rules | `(tactic| walk_at "compareOp Eq ref ref") => `(tactic| walk_at "h")
local macro_rules | `(tactic| walk_at "call builtin:list.append") => `(tactic| walk_at "h")
local macro_rules | `(tactic| walk_at "callWith ref") => `(tactic| ((try k_fold); refine hold_cw ?_))
theorem main : PySem.Challenge.rw_sa0145_01.Holds := by
  refine hd (by rfl) (by rfl) (by rfl) ?_
  k_go0
  (try k_fold)
  k_steps
  refine to_hold ?_
  (rename Fr _ _ _ _ => F9; rename News _ _ _ _ => N9; rename Top _ _ _ _ _ _ => T9; rename IntsAre _ _ => hI9; rename Heap.IsList _ _ _ => hls9; rename Below _ _ _ _ => K9)
  rename_i w s₀ s₁ mg mb G Y fa fo pm doc ho hgens KX X V GL B TE TW wa wo M wc ccd hcd zs hs hlay0 hL hr hl2 as1 as2 sl svs as3 ra w1 r0 hr2 hcond1 hcond2 hD h₁ tk₁ o6 o5 o4 o3 o2 o1 d6 d5 d4 d3 d2 d1 X0 qk0 ek0
  have hend : ∀ (m' : Str → Option Value) (L' : Addr) (h' : Heap) (tk' : Nat), Fr s₁.heap L' h' m' → qk0 (.ret (.bool true)) { heap := h', gens := s₁.gens, drawn := s₁.drawn, toks := tk', os := s₁.os } := by
    intro m' L' h' tk' F8
    clear F9
    k_steps
  clear_value qk0 ek0
  have hlen : zs.length ≤ 63 := by omega
  have hHoldOn : HoldOn := trivial
  have B' : Below callerA s₁.heap [] s₁.heap := K9
  clear K9
  clear G Y ho hgens X V GL B TE TW M hcd hs hlay0 hL hr hl2 ra w1 r0 hr2 hcond1 hcond2 hD X0
  have X' := KX
  have T' := T9
  clear KX T9
  have hO6 : Ord6 (s₁.heap.objs.size + 1) (s₁.heap.objs.size + 1 + 1) (s₁.heap.objs.size + 1 + 1 + 1) (s₁.heap.objs.size + 1 + 1 + 1 + 1) (s₁.heap.objs.size + 1 + 1 + 1 + 1 + 1) (s₁.heap.objs.size + 1 + 1 + 1 + 1 + 1 + 1) := Ord6.mk _
  revert qk ek
  generalize s₁.heap.objs.size = z0 at hO6 F9 N9 ⊢
  generalize s₁.gens = sG at hend ⊢
  generalize s₁.drawn = sD at hend ⊢
  generalize s₁.os = sO at hend ⊢
  generalize s₁.heap = H0 at hend B' X' T' F9 N9 hls9 ⊢
  intro qk ek
  refine' law_coins _ _ _ hI9 hlen _ _ _ _ _ _ _ _ _ _ _ _ _ _ _ _ _ B' F9 X' N9 T' rfl (by decide) (by decide) hls9 ?zret
  rintro c vs ns n h' tk' hi hl F' N' lc
  clear F9 N9 hI9 hls9
  k_lt lc
  obtain ⟨m0, F'⟩ : ∃ m0, Fr H0 z0 h' m0 := ⟨_, F'⟩
  have e1 : ∃ x, o1.data = .cell x := ⟨_, d1⟩
  clear d1
  obtain ⟨x1, d1⟩ := e1
  have e2 : ∃ x, o2.data = .cell x := ⟨_, d2⟩
  clear d2
  obtain ⟨x2, d2⟩ := e2
  have e3 : ∃ x, o3.data = .cell x := ⟨_, d3⟩
  clear d3
  obtain ⟨x3, d3⟩ := e3
  have e4 : ∃ x, o4.data = .cell x := ⟨_, d4⟩
  clear d4
  obtain ⟨x4, d4⟩ := e4
  have e5 : ∃ x, o5.data = .cell x := ⟨_, d5⟩
  clear d5
  obtain ⟨x5, d5⟩ := e5
  have e6 : ∃ x, o6.data = .cell x := ⟨_, d6⟩
  clear d6
  obtain ⟨x6, d6⟩ := e6
  (try k_unmd)
  k_steps
  (rename Fr _ _ _ _ => F9; rename News _ _ _ _ => N9)
  rename_i oc dc _ _
  obtain ⟨CS, hCS⟩ : ∃ CS : Led, CS = [((z0 + 1 + 1 + 1 + 1 + 1 + 1), o6), ((z0 + 1 + 1 + 1 + 1 + 1), o5), ((z0 + 1 + 1 + 1 + 1), o4), ((z0 + 1 + 1 + 1), o3), ((z0 + 1 + 1), o2), ((z0 + 1), oc)] := ⟨_, rfl⟩
  have hcm : ((z0 + 1), oc) ∈ CS := by rw [hCS]; simp
  have hcoff : ∀ p ∈ CS, p.1 ≠ c := by
    rw [hCS]
    exact ne_cons (Nat.ne_of_lt lc.1) (ne_cons (Nat.ne_of_lt lc.2.1) (ne_cons (Nat.ne_of_lt lc.2.2.1) (ne_cons (Nat.ne_of_lt lc.2.2.2.1) (ne_cons (Nat.ne_of_lt lc.2.2.2.2.1) (ne_cons (Nat.ne_of_lt lc.2.2.2.2.2) (fun _ h => nomatch h))))))
  rw [← hCS] at N9
  refine to_hold ?_
  (rename Fr _ _ _ _ => F1)
  (rename News _ _ _ _ => N1)
  refine' ctr_use (law_coin c vs ns n 4 _ CS hi hl (by decide) hcoff) ?kB F1 ?kX (news_sub N1 ?hsub) ?kT rfl ?hd ?hu ?_
  (case kB => exact B')
  (case kX => exact X')
  (case kT => exact T')
  (case hsub => walk_at "led_sub")
  (case hd => first | (dsimp only [ktrTop]; omega) | decide)
  (case hu => first | (dsimp only [ktrTop]; omega) | decide)
  clear F1 N1
  intro r led' h' tk' F' N' hz6
  (try k_fold); (try (show (let GZ : Prop := _; GZ); intro GZ))
  obtain ⟨k4, t4, vs0, ns0, n0, rfl, hk0', hk4', hi0, hl0, rfl⟩ := hz6
  (try k_unfold)
  k_steps
  refine to_hold ?_
  (rename Fr _ _ _ _ => F1)
  (rename News _ _ _ _ => N1)
  refine range_K F1 N1 fun r tr1 tr2 tr3 h' tk' F' N' lr => ?_
  clear F1 N1
  (try k_lt lr)
  (try dsimp only)
  refine comp_rest (n := k4.toNat) (CoinJ SideIn Side.ok c (listOf vs0.toArray n0) ((r, rangeO k4 tr1 tr2 tr3) :: CS)) (src_rangeO rfl r k4.toNat k4 tr1 tr2 tr3 (by omega) (by omega)) (by rw [sizeLine_eq]; omega) (by decide) rfl (tgt_name rfl rfl) F' (pull1 N') (CoinJ.zero hi0 hl0) (fun i ys nw h => CoinJ.need (.head _) h) ?turn ?done
  case turn =>
    intro i v ys nw I oI C oC D m₂ h tk _ _ hJ _ _ F N hoff _ _ _
    refine coin_turn (fun led led' v e h hs => h.mono hs) law_side B' X' T' rfl ?hd ?hu ?hoff ?helt _ i v ys nw I oI C oC D h tk hJ F N hoff
    case hd => decide
    case hu => decide
    case hoff => exact ne_cons (Nat.ne_of_gt lr.1) hcoff
    case helt =>
      clear hJ F N hoff F' N'
      intro C s' Q' led F N hs hcall
      have hmem : ((z0 + 1), oc) ∈ led := hs _ (.tail _ hcm)
      k_steps
      exact hcall _
  case done =>
    intro D ys nw h' tk' hz5 F' N' hD hlt
    (try k_fold); (try (show (let GZ : Prop := _; GZ); intro GZ))
    obtain ⟨vs2, ns2, n2, new, es, hi2, hl2, rfl, hab, hes, hlen2, hok⟩ := hz5
    (try k_unfold)
    k_steps
    refine to_hold ?_
    refine tuple_K F' N' (.head _) (by rw [hes.length]; omega) fun tp h' F' N' lt => ?_
    obtain ⟨RA, hRA⟩ : ∃ RA : Led, RA = (tp, tupO ys 0) :: new := ⟨_, rfl⟩
    have har : (tp, tupO ys 0) ∈ RA := by rw [hRA]; exact .head _
    have hargs : SidesIn RA ys es := by rw [hRA]; exact SidesIn.mono hes fun p hp => .tail _ hp
    have hRAc : ∀ p ∈ RA, p.1 ≠ c := by rw [hRA]; exact ne_cons (Nat.ne_of_gt (lt _ (.tail _ (.head _)))) (above_ne hab (.head _))
    have hRAs : Above RA CS := by
      rw [hRA]
      exact above_cons (allLt_of fun q hq => lt q (.tail _ (.tail _ (List.mem_append_right _ (.tail _ hq))))) fun p hp q hq => hab p hp q (.tail _ (.tail _ hq))
    have N1 := news_sub (l' := (c, listOf vs2.toArray n2) :: (RA ++ CS)) N' (by rw [hRA]; walk_at "led_sub")
    have hes3 : es.length ≤ 4 := by omega
    clear N' hRA lt hlt hD hab hes lr hi0 hl0 hi hl
    k_steps
    refine to_hold ?_
    (rename Fr _ _ _ _ => F1)
    (rename News _ _ _ _ => N1)
    refine' ctr_use (law_coin c vs2 ns2 n2 6 _ (RA ++ CS) hi2 hl2 (by decide) (ne_append hRAc hcoff)) ?kB F1 ?kX (N1) ?kT rfl ?hd ?hu ?_
    (case kB => exact B')
    (case kX => exact X')
    (case kT => exact T')
    (case hd => first | (dsimp only [ktrTop]; omega) | decide)
    (case hu => first | (dsimp only [ktrTop]; omega) | decide)
    clear F1 N1
    intro r5 led' h' tk' F' N' hz6
    (try k_fold); (try (show (let GZ : Prop := _; GZ); intro GZ))
    obtain ⟨k6, t6, vs3, ns3, n3, rfl, hk60, hk66, hi3, hl3, rfl⟩ := hz6
    (try k_unfold)
    k_steps
    refine to_hold ?_
    (rename Fr _ _ _ _ => F1)
    (rename News _ _ _ _ => N1)
    refine range_K F1 N1 fun r tr1 tr2 tr3 h' tk' F' N' lr => ?_
    clear F1 N1
    (try k_lt lr)
    (try dsimp only)
    refine comp_restA (n := k6.toNat) (CoinJ GoalIn Goal.ok c (listOf vs3.toArray n3) ((r, rangeO k6 tr1 tr2 tr3) :: (RA ++ CS))) (src_rangeO rfl r k6.toNat k6 tr1 tr2 tr3 (by omega) (by omega)) (by rw [sizeLine_eq]; omega) (by decide) rfl (tgt_name rfl rfl) F' (pull1 N') (CoinJ.zero hi3 hl3) (fun i ys nw h => CoinJ.need (.head _) h) ?turn2 ?done2
    case turn2 =>
      intro i v ys nw I oI C oC D m₂ h tk _ _ hJ _ _ F N hoff _ _ _
      refine coin_turn (EIn := GoalIn) (fun led led' v e h hs => GoalIn.mono hs h) law_goal B' X' T' rfl ?hd ?hu ?hoff ?helt _ i v ys nw I oI C oC D h tk hJ F N hoff
      case hd => decide
      case hu => decide
      case hoff => exact ne_cons (Nat.ne_of_gt lr.1) (ne_append hRAc hcoff)
      case helt =>
        clear hJ F N hoff F' N'
        intro C s' Q' led F N hs hcall
        have hmem : ((z0 + 1), oc) ∈ led := hs _ (.tail _ (List.mem_append_right _ hcm))
        k_steps
        exact hcall _
    case done2 =>
      intro D C oC ys2 nw h tk K hz8 F' N' hoff hCD hlt hK
      (try k_fold); (try (show (let GZ : Prop := _; GZ); intro GZ))
      obtain ⟨vs4, ns4, n4, new4, gs, hi4, hl4, rfl, hab4, hgs, hgl, hgok⟩ := hz8
      (try k_unfold)
      k_steps
      refine hK _ _ _ ((D, LCg.lst ys2) :: (c, listOf vs4.toArray n4) :: (new4 ++ (r, rangeO k6 tr1 tr2 tr3) :: (RA ++ CS))) (by assumption) (by assumption) (ne_cons (Ne.symm hCD) fun p hp => (hoff p hp).2) fun h'' tk'' F9 N9 => ?_
      (try dsimp only)
      obtain ⟨RG, hRG⟩ : ∃ RG : Led, RG = (D, LCg.lst ys2) :: (new4 ++ RA) := ⟨_, rfl⟩
      have hglm : (D, listOf ys2.toArray ys2.length) ∈ RG := by rw [hRG]; exact .head _
      have hgoals : All2 (GoalIn RG) ys2 gs := by rw [hRG]; exact All2.imp (fun _ _ h => GoalIn.mono (fun p hp => .tail _ (List.mem_append_left _ hp)) h) hgs
      have hRAG : ∀ p ∈ RA, p ∈ RG := fun p hp => by rw [hRG]; exact .tail _ (List.mem_append_right _ hp)
      have hRGc : ∀ p ∈ RG, p.1 ≠ c := by rw [hRG]; exact ne_cons (Nat.ne_of_gt (hlt _ (.head _))) (ne_append (above_ne hab4 (.head _)) hRAc)
      have hRGs : Above RG CS := by
        rw [hRG]
        exact above_cons (allLt_of fun q hq => hlt q (.tail _ (List.mem_append_right _ (List.mem_append_right _ hq)))) (above_append (fun p hp q hq => hab4 p hp q (.tail _ (.tail _ (List.mem_append_right _ hq)))) hRAs)
      have N1 := news_sub (l' := (c, listOf vs4.toArray n4) :: (RG ++ CS)) N9 (by rw [hRG]; walk_at "led_sub")
      replace har := hRAG _ har
      replace hargs := SidesIn.mono hargs hRAG
      rename_i F7 N7
      clear F7 N7 N9 hRG hlt hab4 hgs hK hoff hRAG hRAs hRAc hi3 hl3 hi2 hl2
      k_steps
      refine to_hold ?_
      (rename Fr _ _ _ _ => F1)
      (rename News _ _ _ _ => N1)
      refine' ctr_use (law_goal c vs4 ns4 n4 (RG ++ CS) hi4 hl4 (ne_append hRGc hcoff)) ?kB F1 ?kX (N1) ?kT rfl ?hd ?hu ?_
      (case kB => exact B')
      (case kX => exact X')
      (case kT => exact T')
      (case hd => first | (dsimp only [ktrTop]; omega) | decide)
      (case hu => first | (dsimp only [ktrTop]; omega) | decide)
      clear F1 N1
      intro gv led' h' tk' F' N' hz6
      (try k_fold); (try (show (let GZ : Prop := _; GZ); intro GZ))
      obtain ⟨new5, vs5, ns5, n5, g0, hi5, hl5, rfl, hab5, hgi, hg0ok⟩ := hz6
      (try k_unfold)
      obtain ⟨RQ, hRQ⟩ : ∃ RQ : Led, RQ = new5 ++ RG := ⟨_, rfl⟩
      have hGQ : ∀ p ∈ RG, p ∈ RQ := fun p hp => by rw [hRQ]; exact List.mem_append_right _ hp
      replace hgi : GoalIn RQ gv g0 := GoalIn.mono (fun p hp => by rw [hRQ]; exact List.mem_append_left _ hp) hgi
      have hRQs : Above RQ CS := by
        rw [hRQ]
        exact above_append (fun p hp q hq => hab5 p hp q (.tail _ (List.mem_append_right _ hq))) hRGs
      have N1 := news_sub (l' := RQ ++ CS) N' (by rw [hRQ]; walk_at "led_sub")
      replace hglm := hGQ _ hglm
      replace hgoals := All2.imp (fun _ _ h => GoalIn.mono hGQ h) hgoals
      replace har := hGQ _ har
      replace hargs := SidesIn.mono hargs hGQ
      clear N' hRQ hab5 hGQ hRGs hRGc hcoff hi4 hl4 hi5 hl5
      k_steps
      refine to_hold ?_
      (rename Fr _ _ _ _ => F1)
      (rename News _ _ _ _ => N1)
      refine' ctr_use (law_found gv g0 (RQ ++ CS) (GoalIn.mono (fun p hp => List.mem_append_left _ hp) hgi) hg0ok) ?kB F1 ?kX (N1) ?kT rfl ?hd ?hu ?_
      (case kB => exact B')
      (case kX => exact X')
      (case kT => exact T')
      (case hd => first | (dsimp only [ktrTop]; omega) | decide)
      (case hu => first | (dsimp only [ktrTop]; omega) | decide)
      clear F1 N1
      intro fv led' h' tk' F' N' hz6
      (try k_fold); (try (show (let GZ : Prop := _; GZ); intro GZ))
      obtain ⟨O, fvs, fn, newF, rfl, rfl, hfs, habF⟩ := hz6
      (try k_unfold)
      obtain ⟨RF, hRF⟩ : ∃ RF : Led, RF = (O, listOf fvs.toArray fn) :: (newF ++ (RQ ++ [((z0 + 1), oc)])) := ⟨_, rfl⟩
      have hOm : (O, listOf fvs.toArray fn) ∈ RF := by rw [hRF]; exact .head _
      have hQF : ∀ p ∈ RQ, p ∈ RF := fun p hp => by rw [hRF]; exact .tail _ (List.mem_append_right _ (List.mem_append_left _ hp))
      replace hfs := All2.imp (S := PairIn RF) (fun _ _ h => h.mono fun p hp => by rw [hRF]; exact .tail _ (List.mem_append_left _ hp)) hfs
      replace hgi := GoalIn.mono hQF hgi
      replace hglm := hQF _ hglm
      replace hgoals := All2.imp (fun _ _ h => GoalIn.mono hQF h) hgoals
      replace har := hQF _ har
      replace hargs := SidesIn.mono hargs hQF
      have hcs5 : ∀ p ∈ cells5 (z0 + 1 + 1) (z0 + 1 + 1 + 1) (z0 + 1 + 1 + 1 + 1) (z0 + 1 + 1 + 1 + 1 + 1) (z0 + 1 + 1 + 1 + 1 + 1 + 1) o2 o3 o4 o5 o6, p ∈ CS := cells5_in hCS
      have hOff : Off5 (z0 + 1 + 1) (z0 + 1 + 1 + 1) (z0 + 1 + 1 + 1 + 1) (z0 + 1 + 1 + 1 + 1 + 1) (z0 + 1 + 1 + 1 + 1 + 1 + 1) RF := by
        rw [hRF, ← List.cons_append]
        exact (Off5.above habF fun p hp => List.mem_append_right _ (hcs5 p hp)).app ((Off5.above hRQs hcs5).app (Off5.one hO6))
      have N1 := news_sub (l' := ((z0 + 1 + 1 + 1 + 1 + 1 + 1), o6) :: ((z0 + 1 + 1 + 1 + 1 + 1), o5) :: ((z0 + 1 + 1 + 1 + 1), o4) :: ((z0 + 1 + 1 + 1), o3) :: ((z0 + 1 + 1), o2) :: RF) N' (by rw [hRF, hCS]; walk_at "led_sub")
      clear N' hRF habF hQF hRQs hcs5 hcm hCS
      have f2 := hOff.o2
      have f3 := hOff.o3
      have f4 := hOff.o4
      have f5 := hOff.o5
      have f6 := hOff.o6
      k_steps
      rename_i o2' d2' tkk kx kd h5 F5 N5 lk1 lk2 g8 L8 h8 FG8 B8 X8 T8 _ _ h10 h11 h12 h9 F6 N6 kF9 kN9 Tc9 kX9
      (try dsimp only)
      have hpack : ∃ kdo, KDict tp D kdo ∧
          News H0 z0 h9 ((kx, instObj 59 kd) :: (kd, kdo) :: ((z0 + 1 + 1 + 1 + 1 + 1 + 1), o6) :: ((z0 + 1 + 1 + 1 + 1 + 1), o5) :: ((z0 + 1 + 1 + 1 + 1), o4) :: ((z0 + 1 + 1 + 1), o3) :: ((z0 + 1 + 1), o2') :: RF) := ⟨_, .mk _ _ _ _ _ _ _ _ _ _ rfl, kN9⟩
      have kF9' : Fr H0 z0 h9 _ := kF9
      clear F5 N5 FG8 B8 X8 T8 F6 N6 kN9 Tc9 kX9 kF9
      (try k_fold); (try (show (let GZ : Prop := _; GZ); intro GZ))
      obtain ⟨kdo, ⟨e1, e2, e3, e4, y1, y2, y3, y4, fv9, cv9, hkdo⟩, N9⟩ := hpack
      (try k_unfold)
      obtain ⟨RK, hRK⟩ : ∃ RK : Led, RK = (kx, instObj 59 kd) :: (kd, kdo) :: RF := ⟨_, rfl⟩
      have hkxm : (kx, instObj 59 kd) ∈ RK := by rw [hRK]; exact .head _
      have hkdm : (kd, dictOf [⟨e1, .str (Str.ofString "functor") y1, fv9⟩, ⟨e2, .str (Str.ofString "args") y2, .ref tp⟩, ⟨e3, .str (Str.ofString "goals") y3, .ref D⟩, ⟨e4, .str (Str.ofString "count") y4, cv9⟩] 4) ∈ RK := by rw [hRK, ← hkdo]; exact .tail _ (.head _)
      have hFK : ∀ p ∈ RF, p ∈ RK := fun p hp => by rw [hRK]; exact .tail _ (.tail _ hp)
      have hOffK : Off5 (z0 + 1 + 1) (z0 + 1 + 1 + 1) (z0 + 1 + 1 + 1 + 1) (z0 + 1 + 1 + 1 + 1 + 1) (z0 + 1 + 1 + 1 + 1 + 1 + 1) RK := by rw [hRK]; exact Off5.cons (Off5.gt hO6 (Nat.lt_trans lk1.1 lk2)) (Off5.cons (Off5.gt hO6 lk1.1) hOff)
      have N1 := news_sub (l' := ((z0 + 1 + 1 + 1 + 1 + 1 + 1), o6) :: ((z0 + 1 + 1 + 1 + 1 + 1), o5) :: ((z0 + 1 + 1 + 1 + 1), o4) :: ((z0 + 1 + 1 + 1), o3) :: ((z0 + 1 + 1), o2') :: RK) N9 (by rw [hRK]; walk_at "led_sub")
      replace hOm := hFK _ hOm
      replace hfs := All2.imp (S := PairIn RK) (fun _ _ h => h.mono hFK) hfs
      replace hgi := GoalIn.mono hFK hgi
      replace hglm := hFK _ hglm
      replace hgoals := All2.imp (S := GoalIn RK) (fun _ _ h => GoalIn.mono hFK h) hgoals
      replace har := hFK _ har
      replace hargs := SidesIn.mono hargs hFK
      clear N9 hRK hFK hOff f2 f3 f4 f5 f6 lk1 lk2 hkdo
      have hgs5 : gs.length ≤ 5 := by omega
      have hyl := All2.length hgoals
      have hGm := hglm
      have hGg := hgoals
      obtain ⟨Z, hZ⟩ : ∃ Z : Led, Z = ((z0 + 1 + 1 + 1 + 1 + 1 + 1), o6) :: ((z0 + 1 + 1 + 1 + 1 + 1), o5) :: ((z0 + 1 + 1 + 1 + 1), o4) :: ((z0 + 1 + 1 + 1), o3) :: ((z0 + 1 + 1), o2') :: RK := ⟨_, rfl⟩
      rw [← hZ] at N1
      have z5 : ∀ p ∈ RK, p ∈ Z := fun p hp => by rw [hZ]; exact .tail _ (.tail _ (.tail _ (.tail _ (.tail _ hp))))
      have c5 : ∀ p ∈ cells5 (z0 + 1 + 1) (z0 + 1 + 1 + 1) (z0 + 1 + 1 + 1 + 1) (z0 + 1 + 1 + 1 + 1 + 1) (z0 + 1 + 1 + 1 + 1 + 1 + 1) o2' o3 o4 o5 o6, p ∈ Z := cells5_in hZ
      refine to_hold ?_
      (rename Fr _ _ _ _ => F1)
      (rename News _ _ _ _ => N1)
      refine' ctr_use (classify kx kd D tp e1 e2 e3 e4 y1 y2 y3 y4 fv9 cv9 ys2 _ gs ys 0 es Z (z5 _ hkxm) (z5 _ hkdm) (z5 _ hGm) (All2.imp (fun _ _ h => GoalIn.mono z5 h) hGg) (by omega) hgok (z5 _ har) (SidesIn.mono hargs z5) hes3) ?kB F1 ?kX (N1) ?kT rfl ?hd ?hu ?_
      (case kB => exact B')
      (case kX => exact X')
      (case kT => exact T')
      (case hd => first | (dsimp only [ktrTop]; omega) | decide)
      (case hu => first | (dsimp only [ktrTop]; omega) | decide)
      clear F1 N1
      intro ov led' h' tk' F' N' hz6
      (try k_fold); (try (show (let GZ : Prop := _; GZ); intro GZ))
      obtain ⟨newC, ks0, rfl, hapC, hP0, hks0, hkw0⟩ := hz6
      (try k_unfold)
      obtain ⟨RC, hRC⟩ : ∃ RC : Led, RC = newC ++ RK := ⟨_, rfl⟩
      have hKC : ∀ p ∈ RK, p ∈ RC := fun p hp => by rw [hRC]; exact List.mem_append_right _ hp
      replace hP0 : PlanIn w RC ov (planL es gs ks0) := hP0.mono fun p hp => by rw [hRC]; exact List.mem_append_left _ hp
      have hOffRC : Off5 (z0 + 1 + 1) (z0 + 1 + 1 + 1) (z0 + 1 + 1 + 1 + 1) (z0 + 1 + 1 + 1 + 1 + 1) (z0 + 1 + 1 + 1 + 1 + 1 + 1) RC := by rw [hRC]; exact (Off5.apart hapC c5).app hOffK
      have N1 := news_sub (l' := ((z0 + 1 + 1 + 1 + 1 + 1 + 1), o6) :: ((z0 + 1 + 1 + 1 + 1 + 1), o5) :: ((z0 + 1 + 1 + 1 + 1), o4) :: ((z0 + 1 + 1 + 1), o3) :: ((z0 + 1 + 1), o2') :: RC) N' (by rw [hRC, hZ]; walk_at "led_sub")
      replace hOm := hKC _ hOm
      replace hfs := All2.imp (S := PairIn RC) (fun _ _ h => h.mono hKC) hfs
      replace hgi := GoalIn.mono hKC hgi
      replace hglm := hKC _ hglm
      replace hgoals := All2.imp (S := GoalIn RC) (fun _ _ h => GoalIn.mono hKC h) hgoals
      replace har := hKC _ har
      replace hargs := SidesIn.mono hargs hKC
      clear N' hRC hapC hZ z5 c5 hKC hkxm hkdm hGm hGg
      have f2 := hOffRC.o2
      have f3 := hOffRC.o3
      have f4 := hOffRC.o4
      have f5 := hOffRC.o5
      have f6 := hOffRC.o6
      k_steps
      refine to_hold ?_
      (rename Fr _ _ _ _ => F9; rename News _ _ _ _ => N9)
      rename_i o3' d3' e0 _ le0
      refine kmk_add_lit F9 N9 ⟨_, (N9 _ (.tail _ (.tail _ (.tail _ (.tail _ (.tail _ (.tail _ hglm))))))).1, rfl, _, rfl⟩ ⟨_, (N9 _ (.head _)).1, rfl, _, rfl⟩ rfl (fun G2 h' F' N' lG => ?_) (by simp [sizeLine_eq]; omega)
      obtain ⟨RL, hRL⟩ : ∃ RL : Led, RL = (G2, listOf (ys2 ++ [gv]).toArray 0) :: RC := ⟨_, rfl⟩
      have hCL : ∀ p ∈ RC, p ∈ RL := fun p hp => by rw [hRL]; exact .tail _ hp
      have hG2m : (G2, listOf (ys2 ++ [gv]).toArray 0) ∈ RL := by rw [hRL]; exact .head _
      have hOffRL : Off5 (z0 + 1 + 1) (z0 + 1 + 1 + 1) (z0 + 1 + 1 + 1 + 1) (z0 + 1 + 1 + 1 + 1 + 1) (z0 + 1 + 1 + 1 + 1 + 1 + 1) RL := by rw [hRL]; exact Off5.cons (Off5.gt hO6 (lG _ (.tail _ (.head _)))) hOffRC
      have N1 := news_sub (l' := ((z0 + 1 + 1 + 1 + 1 + 1 + 1), o6) :: ((z0 + 1 + 1 + 1 + 1 + 1), o5) :: ((z0 + 1 + 1 + 1 + 1), o4) :: ((z0 + 1 + 1 + 1), o3') :: ((z0 + 1 + 1), o2') :: RL) N' (by rw [hRL]; walk_at "led_sub")
      replace hOm := hCL _ hOm
      replace hfs := All2.imp (S := PairIn RL) (fun _ _ h => h.mono hCL) hfs
      replace hgi := GoalIn.mono hCL hgi
      replace hglm := hCL _ hglm
      replace hgoals := All2.imp (S := GoalIn RL) (fun _ _ h => GoalIn.mono hCL h) hgoals
      replace har := hCL _ har
      replace hargs := SidesIn.mono hargs hCL
      replace hP0 := hP0.mono hCL
      have hgoals2 := All2.snoc hgoals hgi
      have hgok2 : ∀ g ∈ gs ++ [g0], g.ok := fun g hg => (List.mem_append.mp hg).elim (hgok g) fun h => by rw [List.mem_singleton.mp h]; exact hg0ok
      clear F9 N9 N' hRL hCL hOffRC f2 f3 f4 f5 f6 lG le0
      have f2 := hOffRL.o2
      have f3 := hOffRL.o3
      have f4 := hOffRL.o4
      have f5 := hOffRL.o5
      have f6 := hOffRL.o6
      k_steps
      rename_i kx2 kd2 h5 F5 N5 lk1 lk2 g8 L8 h8 FG8 B8 X8 T8 _ _ h10 h11 h12 h9 F6 N6 kF9 kN9 Tc9 kX9
      (try dsimp only)
      have hpack : ∃ kdo2, KDict tp G2 kdo2 ∧
          News H0 z0 h9 ((kx2, instObj 59 kd2) :: (kd2, kdo2) :: ((z0 + 1 + 1 + 1 + 1 + 1 + 1), o6) :: ((z0 + 1 + 1 + 1 + 1 + 1), o5) :: ((z0 + 1 + 1 + 1 + 1), o4) :: ((z0 + 1 + 1 + 1), o3') :: ((z0 + 1 + 1), o2') :: RL) := ⟨_, .mk _ _ _ _ _ _ _ _ _ _ rfl, kN9⟩
      have kF9' : Fr H0 z0 h9 _ := kF9
      clear F5 N5 FG8 B8 X8 T8 F6 N6 kN9 Tc9 kX9 kF9
      (try k_fold); (try (show (let GZ : Prop := _; GZ); intro GZ))
      obtain ⟨kdo2, ⟨e1, e2, e3, e4, y1, y2, y3, y4, fv9, cv9, hkdo⟩, N9⟩ := hpack
      (try k_unfold)
      obtain ⟨RK2, hRK2⟩ : ∃ RK2 : Led, RK2 = (kx2, instObj 59 kd2) :: (kd2, kdo2) :: RL := ⟨_, rfl⟩
      have hkxm2 : (kx2, instObj 59 kd2) ∈ RK2 := by rw [hRK2]; exact .head _
      have hkdm2 : (kd2, dictOf [⟨e1, .str (Str.ofString "functor") y1, fv9⟩, ⟨e2, .str (Str.ofString "args") y2, .ref tp⟩, ⟨e3, .str (Str.ofString "goals") y3, .ref G2⟩, ⟨e4, .str (Str.ofString "count") y4, cv9⟩] 4) ∈ RK2 := by rw [hRK2, ← hkdo]; exact .tail _ (.head _)
      have hFK : ∀ p ∈ RL, p ∈ RK2 := fun p hp => by rw [hRK2]; exact .tail _ (.tail _ hp)
      have hOffK2 : Off5 (z0 + 1 + 1) (z0 + 1 + 1 + 1) (z0 + 1 + 1 + 1 + 1) (z0 + 1 + 1 + 1 + 1 + 1) (z0 + 1 + 1 + 1 + 1 + 1 + 1) RK2 := by rw [hRK2]; exact Off5.cons (Off5.gt hO6 (Nat.lt_trans lk1.1 lk2)) (Off5.cons (Off5.gt hO6 lk1.1) hOffRL)
      have N1 := news_sub (l' := ((z0 + 1 + 1 + 1 + 1 + 1 + 1), o6) :: ((z0 + 1 + 1 + 1 + 1 + 1), o5) :: ((z0 + 1 + 1 + 1 + 1), o4) :: ((z0 + 1 + 1 + 1), o3') :: ((z0 + 1 + 1), o2') :: RK2) N9 (by rw [hRK2]; walk_at "led_sub")
      replace hOm := hFK _ hOm
      replace hfs := All2.imp (S := PairIn RK2) (fun _ _ h => h.mono hFK) hfs
      replace hgi := GoalIn.mono hFK hgi
      replace hglm := hFK _ hglm
      replace hgoals := All2.imp (S := GoalIn RK2) (fun _ _ h => GoalIn.mono hFK h) hgoals
      replace har := hFK _ har
      replace hG2m := hFK _ hG2m
      replace hgoals2 := All2.imp (S := GoalIn RK2) (fun _ _ h => GoalIn.mono hFK h) hgoals2
      replace hP0 := hP0.mono hFK
      replace hargs := SidesIn.mono hargs hFK
      clear N9 hRK2 hFK hOffRL f2 f3 f4 f5 f6 lk1 lk2 hkdo
      have hGm := hG2m
      have hGg := hgoals2
      obtain ⟨Z, hZ⟩ : ∃ Z : Led, Z = ((z0 + 1 + 1 + 1 + 1 + 1 + 1), o6) :: ((z0 + 1 + 1 + 1 + 1 + 1), o5) :: ((z0 + 1 + 1 + 1 + 1), o4) :: ((z0 + 1 + 1 + 1), o3') :: ((z0 + 1 + 1), o2') :: RK2 := ⟨_, rfl⟩
      rw [← hZ] at N1
      have z5 : ∀ p ∈ RK2, p ∈ Z := fun p hp => by rw [hZ]; exact .tail _ (.tail _ (.tail _ (.tail _ (.tail _ hp))))
      have c5 : ∀ p ∈ cells5 (z0 + 1 + 1) (z0 + 1 + 1 + 1) (z0 + 1 + 1 + 1 + 1) (z0 + 1 + 1 + 1 + 1 + 1) (z0 + 1 + 1 + 1 + 1 + 1 + 1) o2' o3' o4 o5 o6, p ∈ Z := cells5_in hZ
      refine to_hold ?_
      (rename Fr _ _ _ _ => F1)
      (rename News _ _ _ _ => N1)
      refine' ctr_use (classify kx2 kd2 G2 tp e1 e2 e3 e4 y1 y2 y3 y4 fv9 cv9 (ys2 ++ [gv]) _ (gs ++ [g0]) ys 0 es Z (z5 _ hkxm2) (z5 _ hkdm2) (z5 _ hGm) (All2.imp (fun _ _ h => GoalIn.mono z5 h) hGg) (by rw [List.length_append, List.length_singleton]; omega) hgok2 (z5 _ har) (SidesIn.mono hargs z5) hes3) ?kB F1 ?kX (N1) ?kT rfl ?hd ?hu ?_
      (case kB => exact B')
      (case kX => exact X')
      (case kT => exact T')
      (case hd => first | (dsimp only [ktrTop]; omega) | decide)
      (case hu => first | (dsimp only [ktrTop]; omega) | decide)
      clear F1 N1
      intro nv led' h' tk' F' N' hz6
      (try k_fold); (try (show (let GZ : Prop := _; GZ); intro GZ))
      obtain ⟨newC, ks1, rfl, hapC, hP1, hks1, hkw1⟩ := hz6
      (try k_unfold)
      obtain ⟨RC2, hRC2⟩ : ∃ RC2 : Led, RC2 = newC ++ RK2 := ⟨_, rfl⟩
      have hKC : ∀ p ∈ RK2, p ∈ RC2 := fun p hp => by rw [hRC2]; exact List.mem_append_right _ hp
      replace hP1 : PlanIn w RC2 nv (planL es (gs ++ [g0]) ks1) := hP1.mono fun p hp => by rw [hRC2]; exact List.mem_append_left _ hp
      have hOffRC2 : Off5 (z0 + 1 + 1) (z0 + 1 + 1 + 1) (z0 + 1 + 1 + 1 + 1) (z0 + 1 + 1 + 1 + 1 + 1) (z0 + 1 + 1 + 1 + 1 + 1 + 1) RC2 := by rw [hRC2]; exact (Off5.apart hapC c5).app hOffK2
      have N1 := news_sub (l' := ((z0 + 1 + 1 + 1 + 1 + 1 + 1), o6) :: ((z0 + 1 + 1 + 1 + 1 + 1), o5) :: ((z0 + 1 + 1 + 1 + 1), o4) :: ((z0 + 1 + 1 + 1), o3') :: ((z0 + 1 + 1), o2') :: RC2) N' (by rw [hRC2, hZ]; walk_at "led_sub")
      replace hOm := hKC _ hOm
      replace hfs := All2.imp (S := PairIn RC2) (fun _ _ h => h.mono hKC) hfs
      replace hgi := GoalIn.mono hKC hgi
      replace hglm := hKC _ hglm
      replace hgoals := All2.imp (S := GoalIn RC2) (fun _ _ h => GoalIn.mono hKC h) hgoals
      replace har := hKC _ har
      replace hP0 := hP0.mono hKC
      replace hargs := SidesIn.mono hargs hKC
      clear N' hRC2 hapC hZ z5 c5 hKC hkxm2 hkdm2 hGm hGg hG2m hgoals2
      have f2 := hOffRC2.o2
      have f3 := hOffRC2.o3
      have f4 := hOffRC2.o4
      have f5 := hOffRC2.o5
      have f6 := hOffRC2.o6
      k_steps
      refine to_hold ?_
      rename_i o4' d4' _ tpl tkp hp F8 N8
      clear lc d1 d2 d3 d4 hlen hk0' hk4' hlen2 hk60 hk66 lr hgl hCD hOffK hOffK2 har hargs hgi
      obtain ⟨ZN, hZN⟩ : ∃ ZN : Led, ZN = ((z0 + 1 + 1 + 1 + 1 + 1 + 1), o6) :: ((z0 + 1 + 1 + 1 + 1 + 1), o5) :: ((z0 + 1 + 1 + 1 + 1), o4') :: ((z0 + 1 + 1 + 1), o3') :: ((z0 + 1 + 1), o2') :: RC2 := ⟨_, rfl⟩
      rw [← hZN] at N8
      have zn : ∀ p ∈ RC2, p ∈ ZN := fun p hp => by rw [hZN]; exact .tail _ (.tail _ (.tail _ (.tail _ (.tail _ hp))))
      have zO := zn _ hOm
      have zD := zn _ hglm
      have zc2 : ((z0 + 1 + 1), o2') ∈ ZN := by rw [hZN]; exact .tail _ (.tail _ (.tail _ (.tail _ (.head _))))
      have zfs : All2 (PairIn ZN) fvs g0.found := All2.imp (fun _ _ h => h.mono zn) hfs
      have hfl : g0.found.length ≤ 6 := Goal.found_length hg0ok
      have zc3 : ((z0 + 1 + 1 + 1), o3') ∈ ZN := by rw [hZN]; exact .tail _ (.tail _ (.tail _ (.head _)))
      have zc4 : ((z0 + 1 + 1 + 1 + 1), o4') ∈ ZN := by rw [hZN]; exact .tail _ (.tail _ (.head _))
      have hP0c := hP0
      have hP1c := hP1
      (try k_fold); (try (show (let GZ : Prop := _; GZ); intro GZ))
      obtain ⟨px0, pd0, D0, C0, cvs0, cn0, LV0, lvs0, ln0, own0, rest0, a1, a2, a3, a4, a5, b1, b2, b3, b4, b5, b6, hpx0r, hpd0r, hC0r, hic0, hLV0r, hil0, hsub0, hSv0, lo0⟩ := hP0
      (try k_unfold)
      have hpx0 := zn _ hpx0r
      have hpd0 := zn _ hpd0r
      have hC0 := zn _ hC0r
      have hLV0 := zn _ hLV0r
      (try k_fold); (try (show (let GZ : Prop := _; GZ); intro GZ))
      obtain ⟨px1, pd1, D1, C1, cvs1, cn1, LV1, lvs1, ln1, own1, rest1, a1', a2', a3', a4', a5', b1', b2', b3', b4', b5', b6', hpx1r, hpd1r, hC1r, hic1, hLV1r, hil1, hsub1, hSv1, lo1⟩ := hP1
      (try k_unfold)
      have hpx1 := zn _ hpx1r
      have hpd1 := zn _ hpd1r
      have hC1 := zn _ hC1r
      have hLV1 := zn _ hLV1r
      have zg : All2 (GoalIn ZN) ys2 gs := All2.imp (fun _ _ h => GoalIn.mono zn h) hgoals
      refine cut_next (h₀ := H0) (L := z0) (fun m nw => And4 (ZN = nw) (m (Str.ofString "goals") = some (.ref D)) (m (Str.ofString "place") = some (.int (gs.length : Int) tpl)) (m (Str.ofString "called") = some (.bool (calledB gs)))) ?c1 ?c2
      case c1 =>
        (rename HoldOn => hHO9)
        clear hHO9
        (try k_fold)
        by_cases hg0 : gs = []
        · k_steps
          refine to_hold ?_
          (rename News _ _ _ _ => N9)
          refine goals_ne N9 (.tail _ zD) (goals_mono zg fun p hp => .tail _ hp) (.head _) (by ((simp only [units_deeper, units_in1, Around.mark_units]); first | ((dsimp only [ktrTop]); omega) | decide)) false (by simp [hg0]) ?_
          k_steps
          (rename Fr _ _ _ _ => F9; rename News _ _ _ _ => N9)
          refine cut_end F9 (news_sub N9 (by walk_at "led_sub")) ⟨rfl, rfl, rfl, ?_⟩
          rw [hg0]
          rfl
        · have hlen0 : 0 < gs.length := List.length_pos_iff.mpr hg0
          obtain ⟨gl, hgl⟩ : ∃ gl, gs[gs.length - 1]? = some gl := ⟨_, List.getElem?_eq_getElem (by omega)⟩
          obtain ⟨glv, hglv⟩ : ∃ glv, ys2[gs.length - 1]? = some glv := ⟨_, List.getElem?_eq_getElem (by omega)⟩
          obtain ⟨gl', hgl', hgli⟩ := All2.get hgoals _ _ hglv
          rw [hgl] at hgl'
          cases hgl'
          (try k_fold); (try (show (let GZ : Prop := _; GZ); intro GZ))
          obtain ⟨gp, hd0, tg0, tl0, ng0, rfl, hgm, hcall⟩ := goal_shape hgli
          (try k_unfold)
          have zgm := zn _ hgm
          k_steps
          refine to_hold ?_
          (rename News _ _ _ _ => N9)
          refine goals_ne N9 (.tail _ zD) (goals_mono zg fun p hp => .tail _ hp) (.head _) (by ((simp only [units_deeper, units_in1, Around.mark_units]); first | ((dsimp only [ktrTop]); omega) | decide)) true (by simp [hg0]) ?_
          k_steps
          refine to_hold ?_
          (rename News _ _ _ _ => N9)
          refine kde_neg (vs := ys2) (j := gs.length - 1) ⟨_, (N9 _ (.tail _ zD)).1, rfl, _, rfl⟩ (by decide) (by decide) (by rw [hyl]; exact seq_last hlen0) hglv ?_
          k_steps
          (rename Fr _ _ _ _ => F9; rename News _ _ _ _ => N9)
          refine cut_end F9 (news_sub N9 (by walk_at "led_sub")) ⟨rfl, rfl, rfl, ?_⟩
          rw [show calledB gs = decide (hd0 = Str.ofString "call") from by rw [calledB, hgl]; exact hcall]
          rfl
      case c2 =>
        intro m1 nw h tk hz4 F' N'
        (try k_fold); (try (show (let GZ : Prop := _; GZ); intro GZ))
        obtain ⟨rfl, m1g, m1p, m1c⟩ := hz4
        (try k_unfold)
        clear F8 N8
        (try dsimp only)
        k_steps
        refine to_hold ?_
        (rename Fr _ _ _ _ => F9; rename News _ _ _ _ => N9)
        refine cut_next (h₀ := H0) (L := z0) (fun m nw => And4 (ZN = nw) (m (Str.ofString "place") = some (.int (gs.length : Int) tpl)) (m (Str.ofString "called") = some (.bool (calledB gs))) (∃ tch, m (Str.ofString "chunk") = some (.int (gs.foldl chunkStep 0) tch))) ?d1 ?d2
        case d1 =>
          (rename HoldOn => hHO9)
          clear hHO9
          (try k_fold)
          by_cases hg0 : gs = []
          · k_steps
            refine to_hold ?_
            (rename News _ _ _ _ => N9)
            refine goals_ne N9 (.tail _ zD) (goals_mono zg fun p hp => .tail _ hp) (.head _) (by ((simp only [units_deeper, units_in1, Around.mark_units]); first | ((dsimp only [ktrTop]); omega) | decide)) false (by simp [hg0]) ?_
            k_steps
            (rename Fr _ _ _ _ => F9; rename News _ _ _ _ => N9)
            exact cut_end F9 (news_sub N9 (by walk_at "led_sub")) ⟨rfl, m1p, m1c, _, by rw [hg0]; rfl⟩
          · have hlen0 : 0 < gs.length := List.length_pos_iff.mpr hg0
            obtain ⟨gl, hgl⟩ : ∃ gl, gs[gs.length - 1]? = some gl := ⟨_, List.getElem?_eq_getElem (by omega)⟩
            have hch : (chunksL 0 gs)[gs.length - 1]? = some (cAt gs (gs.length - 1)) := chunksL_get gs 0 _ gl hgl
            have hcvl0 : cvs0.length = gs.length := by
              have := hic0.length
              rw [this]
              exact chunksL_length gs 0
            obtain ⟨cv, hcv⟩ : ∃ cv, cvs0[gs.length - 1]? = some cv := ⟨_, List.getElem?_eq_getElem (by omega)⟩
            (try k_fold); (try (show (let GZ : Prop := _; GZ); intro GZ))
            obtain ⟨kc, tc, hkc, rfl⟩ := ints_get2 hic0 hcv
            (try k_unfold)
            have hkc : kc = cAt gs (gs.length - 1) := Option.some.inj (hkc.symm.trans hch)
            have hfold := last_split hgl
            have hcb : calledB gs = gl.isCall := by rw [calledB, hgl]
            by_cases hcall0 : gl.isCall = true
            · have hcall := hcall0
              have hfin : kc + 1 = gs.foldl chunkStep 0 := by rw [hfold, chunkStep, if_pos hcall, hkc]
              rw [hcb, hcall] at m1c
              k_steps
              refine to_hold ?_
              (rename News _ _ _ _ => N9)
              refine goals_ne N9 (.tail _ zD) (goals_mono zg fun p hp => .tail _ hp) (.head _) (by ((simp only [units_deeper, units_in1, Around.mark_units]); first | ((dsimp only [ktrTop]); omega) | decide)) true (by simp [hg0]) ?_
              k_steps
              refine to_hold ?_
              (rename News _ _ _ _ => N9)
              refine kde_neg (vs := cvs0) (j := gs.length - 1) ⟨_, (N9 _ (.tail _ hC0)).1, rfl, _, rfl⟩ (by decide) (by decide) (by rw [hcvl0]; exact seq_last hlen0) hcv ?_
              k_steps
              (rename Fr _ _ _ _ => F9; rename News _ _ _ _ => N9)
              have m1c1 : m1 (Str.ofString "called") = some (.bool (calledB gs)) := by rw [hcb, hcall]; exact m1c
              exact cut_end F9 (news_sub N9 (by walk_at "led_sub")) ⟨rfl, m1p, m1c1, _, congrArg (fun z => some (Value.int z _)) hfin⟩
            · have hcall : gl.isCall = false := by simpa using hcall0
              have hfin : kc + 0 = gs.foldl chunkStep 0 := by rw [hfold, chunkStep, if_neg (by rw [hcall]; exact Bool.false_ne_true), hkc, Int.add_zero]
              rw [hcb, hcall] at m1c
              k_steps
              refine to_hold ?_
              (rename News _ _ _ _ => N9)
              refine goals_ne N9 (.tail _ zD) (goals_mono zg fun p hp => .tail _ hp) (.head _) (by ((simp only [units_deeper, units_in1, Around.mark_units]); first | ((dsimp only [ktrTop]); omega) | decide)) true (by simp [hg0]) ?_
              k_steps
              refine to_hold ?_
              (rename News _ _ _ _ => N9)
              refine kde_neg (vs := cvs0) (j := gs.length - 1) ⟨_, (N9 _ (.tail _ hC0)).1, rfl, _, rfl⟩ (by decide) (by decide) (by rw [hcvl0]; exact seq_last hlen0) hcv ?_
              k_steps
              (rename Fr _ _ _ _ => F9; rename News _ _ _ _ => N9)
              have m1c1 : m1 (Str.ofString "called") = some (.bool (calledB gs)) := by rw [hcb, hcall]; exact m1c
              exact cut_end F9 (news_sub N9 (by walk_at "led_sub")) ⟨rfl, m1p, m1c1, _, congrArg (fun z => some (Value.int z _)) hfin⟩
        case d2 =>
          clear m1g m1p m1c F9 N9
          intro m2 nw h tk hz4 F' N'
          (try k_fold); (try (show (let GZ : Prop := _; GZ); intro GZ))
          obtain ⟨rfl, m2p, m2c, tch, m2k⟩ := hz4
          (try k_unfold)
          (try dsimp only)
          k_steps
          refine to_hold ?_
          refine cut_next (h₀ := H0) (L := z0) (fun m nw => ZN = nw ∧ m (Str.ofString "place") = some (.int (gs.length : Int) tpl) ∧ m (Str.ofString "chunk") = some (.int (gs.foldl chunkStep 0) tch)) ?e1 ?e2
          case e1 =>
            (rename HoldOn => hHO9)
            clear hHO9
            (try k_fold)
            k_steps
            refine to_hold ?_
            (rename Fr _ _ _ _ => F9; rename News _ _ _ _ => N9)
            refine kmk_add_ints F9 N9 (a := C0) ⟨_, (N9 _ (.tail _ hC0)).1, rfl, _, rfl⟩ ⟨_, (N9 _ (.head _)).1, rfl, _, rfl⟩ hic0 (.cons _ _ .nil) (fun X us h' F' N' lX hiu => ?_) ?hz
            case hz =>
              rw [sizeLine_eq, show ((planL es gs ks0).chunks).length = gs.length from chunksL_length gs 0]
              simp
              omega
            clear F9 N9
            k_steps
            refine to_hold ?_
            (rename News _ _ _ _ => N9)
            refine ints_same N9 (.tail _ (.tail _ hC1)) hic1 (.head _) hiu (by ((simp only [units_deeper, units_in1, Around.mark_units]); first | ((dsimp only [ktrTop]); omega) | decide)) (chunksL_snoc gs 0 g0) ?_
            have hneed : (planL es (gs ++ [g0]) ks1).need = ((planL es gs ks0).need || calledB gs) := need_law es gs g0 ks0 ks1
            rw [hneed] at hpd1
            generalize (planL es gs ks0).need = n0 at hpd0 hpd1
            generalize calledB gs = cb at hpd1 m2c
            cases n0 <;> cases cb
            all_goals k_steps
            all_goals (rename Fr _ _ _ _ => F9; rename News _ _ _ _ => N8)
            all_goals exact cut_end F9 (news_sub N8 (by walk_at "led_sub")) ⟨rfl, m2p, m2k⟩
          case e2 =>
            clear m2p m2c m2k
            intro m3 nw h tk hz4 F' N'
            (try k_fold); (try (show (let GZ : Prop := _; GZ); intro GZ))
            obtain ⟨rfl, m3p, m3k⟩ := hz4
            (try k_unfold)
            (try dsimp only)
            k_steps
            refine to_hold ?_
            (rename Fr _ _ _ _ => F1)
            (rename News _ _ _ _ => N1)
            refine range_K F1 N1 fun r tr1 tr2 tr3 h' tk' F' N' lr => ?_
            clear F1 N1
            (try k_lt lr)
            (try dsimp only)
            refine comp_rest (n := 7) (fun i ys nw => nw = (r, rangeO 7 tr1 tr2 tr3) :: ZN ∧ IntsAre ys (((List.range i).map fun (j : Nat) => (j : Int)).filter fun k => decide (k ∈ g0.found.map (·.1)))) (src_rangeO rfl r 7 7 tr1 tr2 tr3 rfl (by decide)) (by rw [sizeLine_eq]; decide) (by decide) rfl (tgt_name rfl rfl) F' N' ⟨rfl, .nil⟩ (fun i ys nw h p hp => by rw [h.1, List.mem_singleton.mp hp]; exact .head _) ?turn3 ?done3
            case turn3 =>
              intro i v ys nw I oI C oC D2 m₂ h tk hin hz13 hz14 hns hbd F' N' hoff hIC hID hCD2
              (try k_fold); (try (show (let GZ : Prop := _; GZ); intro GZ))
              obtain ⟨tv, rfl⟩ := hz13
              obtain ⟨rfl, hys⟩ := hz14
              (try k_unfold)
              refine tests_one ?_
              k_steps
              refine to_hold ?_
              refine Comp_hold (cl := []) (by rfl) rfl (by decide) ?_
              k_steps
              (rename Fr _ _ _ _ => F9; rename News _ _ _ _ => N9)
              obtain ⟨Y, hY⟩ : ∃ Y : Led, Y = (I, oI) :: (C, oC) :: (D2, PyProof.Rows.LCg.lst ys) :: (r, rangeO 7 tr1 tr2 tr3) :: ZN := ⟨_, rfl⟩
              have yz : ∀ p ∈ ZN, p ∈ Y := fun p hp => by rw [hY]; exact .tail _ (.tail _ (.tail _ (.tail _ hp)))
              rw [← hY] at N9
              refine comp_rest (n := fvs.toArray.size) (fun i2 ys3 nw2 => nw2 = Y ∧ IntsAre ys3 ((g0.found.take i2).map (·.1))) (src_mono (need' := Y) (src_list rfl O fvs.toArray fn) (fun p hp => by rw [List.mem_singleton.mp hp]; exact yz _ zO)) (by rw [List.size_toArray, sizeLine_eq, zfs.length]; omega) (by decide) rfl
                (tgt_pair rfl rfl rfl (by decide) rfl (fun i v hv => by
                  (try k_fold); (try (show (let GZ : Prop := _; GZ); intro GZ))
                  obtain ⟨f, -, a, t, t', n, rfl, hm⟩ := All2.get zfs i v (by simpa using hv)
                  (try k_unfold)
                  exact ⟨a, _, _, n, rfl, yz _ hm⟩)) F9 N9 ⟨rfl, .nil⟩ (fun i ys nw h p hp => by rw [h.1]; exact hp) ?turn4 ?done4
              case turn4 =>
                clear F9 N9
                intro i2 v2 ys3 nw2 I2 oI2 C2 oC2 D3 m4 h tk hin2 hv2 hz14 hns2 hz16 F' N' hoff2 _ _ _
                (try (show (let GZ : Prop := _; GZ); intro GZ))
                obtain ⟨rfl, hys3⟩ := hz14
                obtain ⟨t9, v1, v3, n9, rfl, hm9, hb1, hb2⟩ := hz16
                (try k_unfold)
                (try (show (let GZ : Prop := _; GZ); intro GZ))
                obtain ⟨f, hfi, a9, t, t', n, he, hm⟩ := All2.get zfs i2 _ (by simpa using hv2)
                (try k_unfold)
                cases he
                have h9 := news_inj N' (.tail _ (.tail _ (.tail _ hm9))) (.tail _ (.tail _ (.tail _ (yz _ hm))))
                obtain ⟨rfl, rfl⟩ := pair_inj h9
                refine tests_none ?_
                rw [if_pos rfl]
                k_steps
                exact ⟨_, _, _, rfl, F', N', hoff2, rfl, by rw [take_snoc hfi, List.map_append]; exact ints_snoc hys3 _ _⟩
              case done4 =>
                clear F9 N9
                rintro D3 ysf nw2 h tk ⟨rfl, hmets⟩ F' N' hoff4 hlt4
                rw [show fvs.toArray.size = g0.found.length from by rw [List.size_toArray, zfs.length], List.take_length] at hmets
                by_cases hmem : (i : Int) ∈ g0.found.map (·.1)
                · k_steps
                  refine to_hold ?_
                  refine in_I N' (.head _) hmets ?_
                  rw [decide_eq_true hmem]
                  rw [hY] at N'
                  k_steps
                  exact ⟨_, _, (r, rangeO 7 tr1 tr2 tr3) :: ZN, rfl, F', news_sub N' (by walk_at "led_sub"), hoff, rfl, by rw [range_filter_snoc, if_pos (by simpa using hmem)]; exact ints_snoc hys _ _⟩
                · k_steps
                  refine to_hold ?_
                  refine in_I N' (.head _) hmets ?_
                  rw [decide_eq_false hmem]
                  rw [hY] at N'
                  k_steps
                  exact ⟨_, _, (r, rangeO 7 tr1 tr2 tr3) :: ZN, rfl, F', news_sub N' (by walk_at "led_sub"), hoff, rfl, by rw [range_filter_snoc, if_neg (by simpa using hmem), List.append_nil]; exact hys⟩
            case done3 =>
              rintro D2 ysm nw h tk ⟨rfl, hmi⟩ F' N' hoff hlt
              rw [hZN] at N'
              have N1 := news_sub (l' := ((z0 + 1 + 1 + 1 + 1 + 1 + 1), o6) :: ((z0 + 1 + 1 + 1 + 1 + 1), o5) :: ((z0 + 1 + 1 + 1 + 1), o4') :: ((z0 + 1 + 1 + 1), o3') :: ((z0 + 1 + 1), o2') :: (D2, listOf ysm.toArray ysm.length) :: RC2) N' (by walk_at "led_sub")
              have hD2 : Off5 (z0 + 1 + 1) (z0 + 1 + 1 + 1) (z0 + 1 + 1 + 1 + 1) (z0 + 1 + 1 + 1 + 1 + 1) (z0 + 1 + 1 + 1 + 1 + 1 + 1) [(D2, listOf ysm.toArray ysm.length)] := Off5.gt hO6 (hlt _ (.tail _ (by rw [hZN]; exact .head _)))
              clear N'
              have f2 := (hD2.app hOffRC2).o2
              have f3 := (hD2.app hOffRC2).o3
              have f4 := (hD2.app hOffRC2).o4
              have f5 := (hD2.app hOffRC2).o5
              have f6 := (hD2.app hOffRC2).o6
              k_steps
              (rename Fr _ _ _ _ => F9; rename News _ _ _ _ => N9)
              rename_i o5' d5'
              obtain ⟨ZQ, hZQ⟩ : ∃ ZQ : Led, ZQ = ((z0 + 1 + 1 + 1 + 1 + 1), o5') :: ((z0 + 1 + 1 + 1 + 1), o4') :: ((z0 + 1 + 1 + 1), o3') :: ((z0 + 1 + 1), o2') :: (D2, listOf ysm.toArray ysm.length) :: RC2 := ⟨_, rfl⟩
              rw [← hZQ] at N9
              obtain ⟨ZM, hZM⟩ : ∃ ZM : Led, ZM = ((z0 + 1 + 1 + 1 + 1 + 1 + 1), o6) :: ZQ := ⟨_, rfl⟩
              rw [← hZM] at N9
              have qm : ∀ p ∈ ZQ, p ∈ ZM := fun p hp => by rw [hZM]; exact .tail _ hp
              have zq : ∀ p ∈ RC2, p ∈ ZQ := fun p hp => by rw [hZQ]; exact .tail _ (.tail _ (.tail _ (.tail _ (.tail _ hp))))
              have zm : ∀ p ∈ RC2, p ∈ ZM := fun p hp => qm p (zq p hp)
              have qoff : ∀ p ∈ ZQ, p.1 ≠ (z0 + 1 + 1 + 1 + 1 + 1 + 1) := by
                have nn := hO6.ne
                rw [hZQ]
                exact ne_cons nn.1 (ne_cons nn.2.1 (ne_cons nn.2.2.1 (ne_cons nn.2.2.2 (hD2.app hOffRC2).o6)))
              clear zn zO zD zc2 zc3 zc4 zfs zg hpx0 hpd0 hC0 hLV0 hpx1 hpd1 hC1 hLV1 f2 f3 f4 f5 f6
              have mO := zm _ hOm
              have mpx0 := zm _ hpx0r
              have mpd0 := zm _ hpd0r
              have mpx1 := zm _ hpx1r
              have mpd1 := zm _ hpd1r
              have mLV1 := zm _ hLV1r
              have mfs : All2 (PairIn ZM) fvs g0.found := All2.imp (fun _ _ h => h.mono zm) hfs
              have mc2q : ((z0 + 1 + 1), o2') ∈ ZQ := by rw [hZQ]; exact .tail _ (.tail _ (.tail _ (.head _)))
              have mc2 := qm _ mc2q
              have mc3q : ((z0 + 1 + 1 + 1), o3') ∈ ZQ := by rw [hZQ]; exact .tail _ (.tail _ (.head _))
              have mc3 := qm _ mc3q
              have mc4q : ((z0 + 1 + 1 + 1 + 1), o4') ∈ ZQ := by rw [hZQ]; exact .tail _ (.head _)
              have mc4 := qm _ mc4q
              have mc5 : ((z0 + 1 + 1 + 1 + 1 + 1), o5') ∈ ZM := qm _ (by rw [hZQ]; exact .head _)
              have mD2 : (D2, listOf ysm.toArray ysm.length) ∈ ZM := qm _ (by rw [hZQ]; exact .tail _ (.tail _ (.tail _ (.tail _ (.head _)))))
              replace hmi : IntsAre ysm (mineL g0) := hmi
              (try k_fold); (try (show (let GZ : Prop := _; GZ); intro GZ))
              obtain ⟨od0, kvs0, hDo0, hdd0, hkv0, look0⟩ := hSv0.look
              (try k_unfold)
              (try k_fold); (try (show (let GZ : Prop := _; GZ); intro GZ))
              obtain ⟨od1, kvs1, hDo1, hdd1, hkv1, look1⟩ := hSv1.look
              (try k_unfold)
              have mD0 := zm _ (hsub0 _ hDo0)
              have mD1 := zm _ (hsub1 _ hDo1)
              have hl0 := planL_length ks0 hes3 (by omega) hgok
              have hl1 := planL_length ks1 hes3 (by rw [List.length_append, List.length_singleton]; omega) hgok2
              have hkl0 : kvs0.length ≤ 60 := by have := congrArg List.length hkv0; simp only [List.length_map] at this; omega
              have hkl1 : kvs1.length ≤ 60 := by have := congrArg List.length hkv1; simp only [List.length_map] at this; omega
              refine sorted_dict_K rfl F9 N9 mD1 hdd1 lo1 (by omega) fun S vsk ks c9 h' tk' F' N' lS hik hperm hpw => ?_
              clear F9 N9
              rw [hkv1] at hperm
              have hkeys : ks = r7.filter fun k => decide (k ∈ mineL g0) || decide (k ∈ (planL es gs ks0).l.map (·.var)) := keys_law hok hgok hg0ok hperm hpw
              k_steps
              refine to_hold ?_
              (rename Fr _ _ _ _ => F1)
              (rename News _ _ _ _ => N1)
              refine range_K F1 N1 fun r tr1 tr2 tr3 h' tk' F' N' lr => ?_
              clear F1 N1
              (try k_lt lr)
              (try dsimp only)
              refine comp_rest (n := 7) (fun i ys nw => nw = (r, rangeO 7 tr1 tr2 tr3) :: (S, listOf vsk.toArray c9) :: ZM ∧ IntsAre ys (((List.range i).map fun (j : Nat) => (j : Int)).filter fun k => decide (k ∈ mineL g0) || decide (k ∈ (planL es gs ks0).l.map (·.var)))) (src_rangeO rfl r 7 7 tr1 tr2 tr3 rfl (by decide)) (by rw [sizeLine_eq]; decide) (by decide) rfl (tgt_name rfl rfl) F' N' ⟨rfl, .nil⟩ (fun i ys nw h p hp => by rw [h.1, List.mem_singleton.mp hp]; exact .head _) ?turn5 ?done5
              case turn5 =>
                clear F' N'
                intro i v ys nw I oI C oC D4 m₂ h tk hin hz13 hz14 hns hbd F' N' hoff hIC hID hCD4
                (try (show (let GZ : Prop := _; GZ); intro GZ))
                obtain ⟨tv, rfl⟩ := hz13
                obtain ⟨rfl, hys⟩ := hz14
                (try k_unfold)
                refine tests_one ?_
                rw [range_filter_snoc]
                by_cases h1 : (i : Int) ∈ mineL g0
                · rw [if_pos (by simp [h1])]
                  (try k_fold)
                  k_steps
                  refine to_hold ?_
                  refine in_I N' (.tail _ (.tail _ (.tail _ (.tail _ (.tail _ mD2))))) hmi ?_
                  rw [decide_eq_true h1]
                  k_steps
                  (rename Fr _ _ _ _ => F9; rename News _ _ _ _ => N9)
                  exact ⟨_, _, _, rfl, F9, N9, hoff, rfl, ints_snoc hys _ _⟩
                · by_cases h2 : (i : Int) ∈ (planL es gs ks0).l.map (·.var)
                  · rw [if_pos (by simp [h1, h2])]
                    (try k_fold); (try (show (let GZ : Prop := _; GZ); intro GZ))
                    obtain ⟨x0, dx0, ox0, inf0, hvx0, hxo0, hdo0, hio0, hia0⟩ := look0 _ h2
                    (try k_unfold)
                    (try k_fold)
                    k_steps
                    refine to_hold ?_
                    refine in_I N' (.tail _ (.tail _ (.tail _ (.tail _ (.tail _ mD2))))) hmi ?_
                    rw [decide_eq_false h1]
                    k_steps
                    refine to_hold ?_
                    refine di_in_some hvx0 hdd0 lo0 N' (.tail _ (.tail _ (.tail _ (.tail _ (.tail _ mD0))))) ?_
                    k_steps
                    (rename Fr _ _ _ _ => F9; rename News _ _ _ _ => N9)
                    exact ⟨_, _, _, rfl, F9, N9, hoff, rfl, ints_snoc hys _ _⟩
                  · rw [if_neg (by simp [h1, h2]), List.append_nil]
                    (try k_fold)
                    k_steps
                    refine to_hold ?_
                    refine in_I N' (.tail _ (.tail _ (.tail _ (.tail _ (.tail _ mD2))))) hmi ?_
                    rw [decide_eq_false h1]
                    k_steps
                    refine to_hold ?_
                    refine di_in_none (valueAt_none (by rw [hkv0]; exact h2)) hdd0 lo0 N' (.tail _ (.tail _ (.tail _ (.tail _ (.tail _ mD0))))) ?_
                    k_steps
                    (rename Fr _ _ _ _ => F9; rename News _ _ _ _ => N9)
                    exact ⟨_, _, _, rfl, F9, N9, hoff, rfl, hys⟩
              case done5 =>
                clear F' N'
                rintro D4 ys4 nw h tk ⟨rfl, hys4⟩ F' N' hoff4 hlt4
                k_steps
                refine to_hold ?_
                refine ints_same N' (.tail _ (.tail _ (.head _))) hik (.head _) hys4 (by ((simp only [units_deeper, units_in1, Around.mark_units]); first | ((dsimp only [ktrTop]); omega) | decide)) hkeys ?_
                k_steps
                (rename Fr _ _ _ _ => F9; rename News _ _ _ _ => N9)
                have N1 := news_sub (l' := ZM) N9 (fun p hp => .tail _ (.tail _ (.tail _ hp)))
                refine for_rest (n := kvs1.length) (fun i m nw => ZM = nw ∧ m (Str.ofString "place") = some (.int (gs.length : Int) tpl) ∧ m (Str.ofString "chunk") = some (.int (gs.foldl chunkStep 0) tch)) (src_dict rfl D1 od1 kvs1 hdd1 lo1) F9 N1 rfl rfl rfl ⟨rfl, m3p, m3k⟩ ?need6 ?turn6 ?done6
                case need6 =>
                  rintro i m nw ⟨rfl, -⟩ p hp
                  rw [List.mem_singleton.mp hp]
                  exact mD1
                case turn6 =>
                  clear F9 N9 N1
                  intro i v m6 nw I oI h tk hin hz9 hz10 hne F' N'
                  (try k_fold)
                  (try (show (let GZ : Prop := wpAny _ _ _ _ _ _; GZ); intro GZ))
                  obtain ⟨k, xv, tk6, hkx, rfl⟩ := hz9
                  obtain ⟨rfl, m6p, m6k⟩ := hz10
                  have hkm : k ∈ (planL es (gs ++ [g0]) ks1).l.map (·.var) := by rw [← hkv1]; exact List.mem_map.mpr ⟨(k, xv), List.mem_of_getElem? hkx, rfl⟩
                  (try k_fold); (try (show (let GZ : Prop := _; GZ); intro GZ))
                  obtain ⟨x1, dx1, ox1, inf1, hvx1, hxo1, hdo1, hio1, hia1⟩ := look1 k hkm
                  (try k_unfold)
                  have nx1 := zm _ (hsub1 _ hxo1)
                  have nd1 := zm _ (hsub1 _ hdo1)
                  have hok1 := row_ok hok hgok2 hks1 hkw1 hia1
                  (try k_fold)
                  by_cases hm : k ∈ mineL g0
                  · by_cases h0 : k ∈ (planL es gs ks0).l.map (·.var)
                    · obtain ⟨x0, dx0, ox0, inf0, hvx0, hxo0, hdo0, hio0, hia0⟩ := look0 k h0
                      have nx0 := zm _ (hsub0 _ hxo0)
                      have nd0 := zm _ (hsub0 _ hdo0)
                      have hrow := row_grownS hok hgok hg0ok hks0 hkw0 hks1 hkw1 hia0 hia1 hm
                      k_steps
                      refine to_hold ?_
                      refine in_I N' (.tail _ mD2) hmi ?_
                      rw [decide_eq_true hm]
                      k_steps
                      refine to_hold ?_
                      (rename News _ _ _ _ => N9)
                      refine kdg_method (knd := PySem.intKind _ _) N9 (.tail _ mD0) hdd0 ?_
                      k_steps
                      refine to_hold ?_
                      (rename News _ _ _ _ => N9)
                      refine di_get2_some hvx0 hdd0 lo0 N9 (.tail _ mD0) ?_
                      k_steps
                      refine to_hold ?_
                      (rename Fr _ _ _ _ => F1)
                      (rename News _ _ _ _ => N1)
                      refine' ctr_use (law_grownS k _ O fvs fn g0.found (gs.foldl chunkStep 0) _ (gs.length : Int) _ _ (.tail _ mO) (All2.imp (fun _ _ h => h.mono fun p hp => .tail _ hp) mfs) (by omega) x0 dx0 ox0 inf0 (.tail _ nx0) (.tail _ nd0) hio0) ?kB F1 ?kX (N1) ?kT rfl ?hd ?hu ?_
                      (case kB => exact B')
                      (case kX => exact X')
                      (case kT => exact T')
                      (case hd => first | (dsimp only [ktrTop]; omega) | decide)
                      (case hu => first | (dsimp only [ktrTop]; omega) | decide)
                      clear F1 N1
                      intro rv led' h' tk' F' N' hz6
                      (try k_fold); (try (show (let GZ : Prop := _; GZ); intro GZ))
                      obtain ⟨a6, oa6, new6, rfl, rfl, hrow6, hab6⟩ := hz6
                      (try k_unfold)
                      rw [← hrow] at hrow6
                      k_steps
                      refine to_hold ?_
                      (rename News _ _ _ _ => N9)
                      refine di_itemA hvx1 hdd1 N9 (.tail _ (List.mem_append_right _ (.tail _ mD1))) ?_
                      k_steps
                      refine to_hold ?_
                      (rename Fr _ _ _ _ => F1)
                      (rename News _ _ _ _ => N1)
                      refine' ctr_use (law_kept x1 dx1 ox1 inf1 _ (.tail _ (List.mem_append_right _ (.tail _ nx1))) (.tail _ (List.mem_append_right _ (.tail _ nd1))) hio1) ?kB F1 ?kX (N1) ?kT rfl ?hd ?hu ?_
                      (case kB => exact B')
                      (case kX => exact X')
                      (case kT => exact T')
                      (case hd => first | (dsimp only [ktrTop]; omega) | decide)
                      (case hu => first | (dsimp only [ktrTop]; omega) | decide)
                      clear F1 N1
                      intro rv led' h' tk' F' N' hz6
                      (try k_fold); (try (show (let GZ : Prop := _; GZ); intro GZ))
                      obtain ⟨a7, oa7, rfl, rfl, hrow7, hab7⟩ := hz6
                      (try k_unfold)
                      k_steps
                      refine to_hold ?_
                      (rename News _ _ _ _ => N9)
                      refine rows_ne N9 (.head _) (.tail _ (.head _)) hrow7 hrow6 hok1.1 hok1.2 (by ((simp only [units_deeper, units_in1, Around.mark_units]); first | ((dsimp only [ktrTop]); omega) | decide)) ?_
                      k_steps
                      (rename Fr _ _ _ _ => F9; rename News _ _ _ _ => N9)
                      exact turn_next F9 (news_sub N9 (by walk_at "led_sub")) hne ⟨rfl, m6p, m6k⟩
                    · have hvn := valueAt_none (kvs := kvs0) (k := k) (by rw [hkv0]; exact h0)
                      obtain ⟨hwn, hrow⟩ := row_grownN (ks0 := ks0) hok hgok hg0ok hks1 hkw1 h0 hia1 hm
                      k_steps
                      refine to_hold ?_
                      refine in_I N' (.tail _ mD2) hmi ?_
                      rw [decide_eq_true hm]
                      k_steps
                      refine to_hold ?_
                      (rename News _ _ _ _ => N9)
                      refine kdg_method (knd := PySem.intKind _ _) N9 (.tail _ mD0) hdd0 ?_
                      k_steps
                      refine to_hold ?_
                      (rename News _ _ _ _ => N9)
                      refine di_get2_none hvn hdd0 lo0 N9 (.tail _ mD0) ?_
                      k_steps
                      refine to_hold ?_
                      (rename Fr _ _ _ _ => F1)
                      (rename News _ _ _ _ => N1)
                      refine' ctr_use (law_grownN k _ O fvs fn g0.found (gs.foldl chunkStep 0) _ (gs.length : Int) _ _ (.tail _ mO) (All2.imp (fun _ _ h => h.mono fun p hp => .tail _ hp) mfs) (by omega) hwn) ?kB F1 ?kX (N1) ?kT rfl ?hd ?hu ?_
                      (case kB => exact B')
                      (case kX => exact X')
                      (case kT => exact T')
                      (case hd => first | (dsimp only [ktrTop]; omega) | decide)
                      (case hu => first | (dsimp only [ktrTop]; omega) | decide)
                      clear F1 N1
                      intro rv led' h' tk' F' N' hz6
                      (try k_fold); (try (show (let GZ : Prop := _; GZ); intro GZ))
                      obtain ⟨a6, oa6, new6, rfl, rfl, hrow6, hab6⟩ := hz6
                      (try k_unfold)
                      rw [← hrow] at hrow6
                      k_steps
                      refine to_hold ?_
                      (rename News _ _ _ _ => N9)
                      refine di_itemA hvx1 hdd1 N9 (.tail _ (List.mem_append_right _ (.tail _ mD1))) ?_
                      k_steps
                      refine to_hold ?_
                      (rename Fr _ _ _ _ => F1)
                      (rename News _ _ _ _ => N1)
                      refine' ctr_use (law_kept x1 dx1 ox1 inf1 _ (.tail _ (List.mem_append_right _ (.tail _ nx1))) (.tail _ (List.mem_append_right _ (.tail _ nd1))) hio1) ?kB F1 ?kX (N1) ?kT rfl ?hd ?hu ?_
                      (case kB => exact B')
                      (case kX => exact X')
                      (case kT => exact T')
                      (case hd => first | (dsimp only [ktrTop]; omega) | decide)
                      (case hu => first | (dsimp only [ktrTop]; omega) | decide)
                      clear F1 N1
                      intro rv led' h' tk' F' N' hz6
                      (try k_fold); (try (show (let GZ : Prop := _; GZ); intro GZ))
                      obtain ⟨a7, oa7, rfl, rfl, hrow7, hab7⟩ := hz6
                      (try k_unfold)
                      k_steps
                      refine to_hold ?_
                      (rename News _ _ _ _ => N9)
                      refine rows_ne N9 (.head _) (.tail _ (.head _)) hrow7 hrow6 hok1.1 hok1.2 (by ((simp only [units_deeper, units_in1, Around.mark_units]); first | ((dsimp only [ktrTop]); omega) | decide)) ?_
                      k_steps
                      (rename Fr _ _ _ _ => F9; rename News _ _ _ _ => N9)
                      exact turn_next F9 (news_sub N9 (by walk_at "led_sub")) hne ⟨rfl, m6p, m6k⟩
                  · obtain ⟨h0, hrow⟩ := row_kept hok hgok hg0ok hks0 hkw0 hks1 hkw1 hia1 hm
                    (try k_fold); (try (show (let GZ : Prop := _; GZ); intro GZ))
                    obtain ⟨x0, dx0, ox0, inf0, hvx0, hxo0, hdo0, hio0, hia0⟩ := look0 k h0
                    (try k_unfold)
                    have nx0 := zm _ (hsub0 _ hxo0)
                    have nd0 := zm _ (hsub0 _ hdo0)
                    have hrow := hrow inf0 hia0
                    k_steps
                    refine to_hold ?_
                    refine in_I N' (.tail _ mD2) hmi ?_
                    rw [decide_eq_false hm]
                    k_steps
                    refine to_hold ?_
                    (rename News _ _ _ _ => N9)
                    refine di_itemA hvx0 hdd0 N9 (.tail _ mD0) ?_
                    k_steps
                    refine to_hold ?_
                    (rename Fr _ _ _ _ => F1)
                    (rename News _ _ _ _ => N1)
                    refine' ctr_use (law_kept x0 dx0 ox0 inf0 _ (.tail _ nx0) (.tail _ nd0) hio0) ?kB F1 ?kX (N1) ?kT rfl ?hd ?hu ?_
                    (case kB => exact B')
                    (case kX => exact X')
                    (case kT => exact T')
                    (case hd => first | (dsimp only [ktrTop]; omega) | decide)
                    (case hu => first | (dsimp only [ktrTop]; omega) | decide)
                    clear F1 N1
                    intro rv led' h' tk' F' N' hz6
                    (try k_fold); (try (show (let GZ : Prop := _; GZ); intro GZ))
                    obtain ⟨a6, oa6, rfl, rfl, hrow6, hab6⟩ := hz6
                    (try k_unfold)
                    rw [← hrow] at hrow6
                    k_steps
                    refine to_hold ?_
                    (rename News _ _ _ _ => N9)
                    refine di_itemA hvx1 hdd1 N9 (.tail _ (.tail _ mD1)) ?_
                    k_steps
                    refine to_hold ?_
                    (rename Fr _ _ _ _ => F1)
                    (rename News _ _ _ _ => N1)
                    refine' ctr_use (law_kept x1 dx1 ox1 inf1 _ (.tail _ (.tail _ nx1)) (.tail _ (.tail _ nd1)) hio1) ?kB F1 ?kX (N1) ?kT rfl ?hd ?hu ?_
                    (case kB => exact B')
                    (case kX => exact X')
                    (case kT => exact T')
                    (case hd => first | (dsimp only [ktrTop]; omega) | decide)
                    (case hu => first | (dsimp only [ktrTop]; omega) | decide)
                    clear F1 N1
                    intro rv led' h' tk' F' N' hz6
                    (try k_fold); (try (show (let GZ : Prop := _; GZ); intro GZ))
                    obtain ⟨a7, oa7, rfl, rfl, hrow7, hab7⟩ := hz6
                    (try k_unfold)
                    k_steps
                    refine to_hold ?_
                    (rename News _ _ _ _ => N9)
                    refine rows_ne N9 (.head _) (.tail _ (.head _)) hrow7 hrow6 hok1.1 hok1.2 (by ((simp only [units_deeper, units_in1, Around.mark_units]); first | ((dsimp only [ktrTop]); omega) | decide)) ?_
                    k_steps
                    (rename Fr _ _ _ _ => F9; rename News _ _ _ _ => N9)
                    exact turn_next F9 (news_sub N9 (by walk_at "led_sub")) hne ⟨rfl, m6p, m6k⟩
                case done6 =>
                  clear F9 N9 N1
                  intro m6 nw h tk hz4 F' N'
                  (try k_fold); (try (show (let GZ : Prop := _; GZ); intro GZ))
                  obtain ⟨rfl, m6p, m6k⟩ := hz4
                  (try k_unfold)
                  (try dsimp only)
                  have hml : ysm.length ≤ 7 := by rw [hmi.length]; exact Nat.le_trans (List.length_filter_le _ _) (by decide)
                  k_steps
                  refine comp_restA (n := ysm.toArray.size) (fun i ys nw => ZM = nw ∧ IntsAre ys (((mineL g0).take i).filter fun k => permAt (planL es (gs ++ [g0]) ks1).l k)) (src_list rfl D2 ysm.toArray ysm.length) (by rw [List.size_toArray, sizeLine_eq]; omega) (by decide) rfl (tgt_name rfl rfl) F' N' ⟨rfl, .nil⟩ (fun i ys nw h p hp => by rw [← h.1, List.mem_singleton.mp hp]; exact mD2) ?turn7 ?done7
                  case turn7 =>
                    clear F' N'
                    rintro i v ys nw I oI C oC D7 m₂ h tk hin hv ⟨rfl, hys⟩ hns hbd F' N' hoff _ _ _
                    (try (show (let GZ : Prop := _; GZ); intro GZ))
                    obtain ⟨k, tk7, hk, rfl⟩ := ints_get2 hmi (by simpa using hv)
                    (try k_unfold)
                    have hk1 : k ∈ (planL es (gs ++ [g0]) ks1).l.map (·.var) := by rw [plan_vars, keys_step]; exact .inl ((mineL_mem hg0ok).mp (List.mem_of_getElem? hk))
                    (try (show (let GZ : Prop := _; GZ); intro GZ))
                    obtain ⟨x1, dx1, ox1, inf1, hvx1, hxo1, hdo1, hio1, hia1⟩ := look1 k hk1
                    (try k_unfold)
                    have nx1 := zm _ (hsub1 _ hxo1)
                    have nd1 := zm _ (hsub1 _ hdo1)
                    have hpa := infoAt_perm hia1
                    rw [take_snoc hk, List.filter_append]
                    refine tests_one ?_
                    (try (show (let GZ : Prop := _; GZ); intro GZ))
                    obtain ⟨t0', t1', t2', t3', t4', t5', t6', t7', t8', u0', u1', u2', u3', u5', u6', u7', u8'⟩ := hio1
                    (try k_unfold)
                    by_cases hkp : inf1.kind = Str.ofString "perm"
                    · rw [hkp] at nd1
                      have hf1 : ([k].filter fun k => permAt (planL es (gs ++ [g0]) ks1).l k) = [k] := by simp [hpa, hkp]
                      rw [hf1]
                      (try k_fold)
                      k_steps
                      refine to_hold ?_
                      (rename News _ _ _ _ => N9)
                      refine di_itemA hvx1 hdd1 N9 (.tail _ (.tail _ (.tail _ mD1))) ?_
                      k_steps
                      (rename Fr _ _ _ _ => F9; rename News _ _ _ _ => N9)
                      exact ⟨_, _, _, rfl, F9, N9, hoff, rfl, ints_snoc hys _ _⟩
                    · have hf1 : ([k].filter fun k => permAt (planL es (gs ++ [g0]) ks1).l k) = [] := by simp [hpa, hkp]
                      rw [hf1, List.append_nil]
                      (try k_fold)
                      k_steps
                      refine to_hold ?_
                      (rename News _ _ _ _ => N9)
                      refine di_itemA hvx1 hdd1 N9 (.tail _ (.tail _ (.tail _ mD1))) ?_
                      k_steps
                      (rename Fr _ _ _ _ => F9; rename News _ _ _ _ => N9)
                      exact ⟨_, _, _, rfl, F9, N9, hoff, rfl, hys⟩
                  case done7 =>
                    clear F' N'
                    rintro D7 C oC ysl nw h tk K ⟨rfl, hlas⟩ F' N' hoff7 hCD7 hlt7 hK
                    rw [show ysm.toArray.size = (mineL g0).length from by rw [List.size_toArray, hmi.length], List.take_length] at hlas
                    replace hlas : IntsAre ysl (lastingL es gs g0 ks1) := hlas
                    k_steps
                    (rename Fr _ _ _ _ => F8; rename News _ _ _ _ => N8)
                    refine hK _ _ _ ((D7, PyProof.Rows.LCg.lst ysl) :: ZM) F8 N8 (ne_cons (Ne.symm hCD7) fun p hp => (hoff7 p hp).2) fun h'' tk'' F9 N9 => ?_
                    (try dsimp only)
                    clear hK F8 N8 hoff7 hCD7
                    k_steps
                    refine to_hold ?_
                    (rename Fr _ _ _ _ => F9)
                    refine callWith_K0 (K := K0 w.params) (Frag.In.keeps X' (Fr.keep F9)) (by k_is) ?_
                    refine call_as (bs := [.ref px0]) rfl ?_
                    refine hold_of ?_
                    have hpo0 := perm_ok hok hgok hks0 hkw0 hl0
                    have hpo1 := perm_ok hok hgok2 hks1 hkw1 hl1
                    refine to_hold ?_
                    (rename Fr _ _ _ _ => F1)
                    (rename News _ _ _ _ => N1)
                    refine' ctr_use (perms (.ref px0) (planL es gs ks0) _ (hP0c.mono fun p hp => .tail _ (zm _ hp)) hpo0) ?kB F1 ?kX (N1) ?kT rfl ?hd ?hu ?_
                    (case kB => exact B')
                    (case kX => exact X')
                    (case kT => exact T')
                    (case hd => first | (dsimp only [ktrTop]; omega) | decide)
                    (case hu => first | (dsimp only [ktrTop]; omega) | decide)
                    clear F1 N1
                    intro rv led' h' tk' F' N' hz6
                    (try k_fold); (try (show (let GZ : Prop := _; GZ); intro GZ))
                    obtain ⟨O8, pvs8, pn8, new8, rfl, rfl, hip8, hab8⟩ := hz6
                    (try k_unfold)
                    rw [perms_law hok hgok hks0 hkw0] at hip8
                    have hol0 : (ordL es gs ks0).length ≤ 60 := by have h : (((ordL es gs ks0).length : Nat) : Int) ≤ 60 := hpo0.2.2.1; omega
                    have hpl8 : pvs8.length ≤ 60 := by rw [hip8.length]; exact hol0
                    have N1 := news_sub (l' := (O8, listOf pvs8.toArray pn8) :: (D7, PyProof.Rows.LCg.lst ysl) :: ZM) N' (by walk_at "led_sub")
                    clear N' hab8
                    k_steps
                    refine comp_restA (n := pvs8.toArray.size) (fun i ys nw => nw = (O8, listOf pvs8.toArray pn8) :: (D7, listOf ysl.toArray ysl.length) :: ZM ∧ IntsAre ys (((ordL es gs ks0).take i).filter fun k => !decide (k ∈ mineL g0))) (src_list rfl O8 pvs8.toArray pn8) (by rw [List.size_toArray, sizeLine_eq]; omega) (by decide) rfl (tgt_name rfl rfl) F' N1 ⟨rfl, .nil⟩ (fun i ys nw h p hp => by rw [h.1, List.mem_singleton.mp hp]; exact .head _) ?turn8 ?done8
                    case turn8 =>
                      clear F' N1
                      rintro i v ys nw I oI C oC D9 m₂ h tk hin hv ⟨rfl, hys⟩ hns hbd F' N' hoff _ _ _
                      (try (show (let GZ : Prop := _; GZ); intro GZ))
                      obtain ⟨k, tk7, hk, rfl⟩ := ints_get2 hip8 (by simpa using hv)
                      (try k_unfold)
                      rw [take_snoc hk, List.filter_append]
                      refine tests_one ?_
                      by_cases hm : k ∈ mineL g0
                      · have hf1 : ([k].filter fun k => !decide (k ∈ mineL g0)) = [] := by simp [hm]
                        rw [hf1, List.append_nil]
                        (try k_fold)
                        k_steps
                        refine to_hold ?_
                        refine notin_I N' (.tail _ (.tail _ (.tail _ (.tail _ (.tail _ mD2))))) hmi ?_
                        rw [decide_eq_true hm]
                        k_steps
                        (rename Fr _ _ _ _ => F9; rename News _ _ _ _ => N9)
                        exact ⟨_, _, _, rfl, F9, N9, hoff, rfl, hys⟩
                      · have hf1 : ([k].filter fun k => !decide (k ∈ mineL g0)) = [k] := by simp [hm]
                        rw [hf1]
                        (try k_fold)
                        k_steps
                        refine to_hold ?_
                        refine notin_I N' (.tail _ (.tail _ (.tail _ (.tail _ (.tail _ mD2))))) hmi ?_
                        rw [decide_eq_false hm]
                        k_steps
                        (rename Fr _ _ _ _ => F9; rename News _ _ _ _ => N9)
                        exact ⟨_, _, _, rfl, F9, N9, hoff, rfl, ints_snoc hys _ _⟩
                    case done8 =>
                      clear F' N1
                      rintro D8 C oC ys8 nw h tk K ⟨rfl, hres⟩ F' N' hoff8 hCD8 hlt8 hK
                      rw [show pvs8.toArray.size = (ordL es gs ks0).length from by rw [List.size_toArray, hip8.length], List.take_length] at hres
                      replace hres : IntsAre ys8 (restL es gs g0 ks0) := hres
                      have hlen7 : ysl.length = (lastingL es gs g0 ks1).length := hlas.length
                      have hlen8 : ys8.length = (restL es gs g0 ks0).length := hres.length
                      have hll : ysl.length ≤ 7 := by rw [hlas.length]; exact Nat.le_trans (List.length_filter_le _ _) (by rw [← hmi.length]; exact hml)
                      have hrl : ys8.length ≤ 60 := by rw [hres.length]; exact Nat.le_trans (List.length_filter_le _ _) hol0
                      k_steps
                      (rename Fr _ _ _ _ => F8; rename News _ _ _ _ => N8)
                      refine hK _ _ _ ((D8, listOf ys8.toArray ys8.length) :: (O8, listOf pvs8.toArray pn8) :: (D7, listOf ysl.toArray ysl.length) :: ZM) F8 N8 (ne_cons (Ne.symm hCD8) fun p hp => (hoff8 p hp).2) fun h'' tk'' F9 N9 => ?_
                      (try dsimp only)
                      have h78 : @LT.lt Nat _ D7 D8 := hlt8 _ (.tail _ (.head _))
                      have h68 : ∀ p ∈ ZM, @LT.lt Nat _ p.1 D8 := fun p hp => hlt8 p (.tail _ (.tail _ hp))
                      have N1 := news_sub (l' := (D8, listOf ys8.toArray ys8.length) :: (D7, listOf ysl.toArray ysl.length) :: ZM) N9 (by walk_at "led_sub")
                      clear hK F8 N8 hoff8 hCD8 hlt8 N9 hip8
                      k_steps
                      refine to_hold ?_
                      refine cut_next (h₀ := H0) (L := z0) (fun m nw => And4 (nw = (D8, listOf ys8.toArray ys8.length) :: (D7, listOf ysl.toArray ysl.length) :: ZM) (m (Str.ofString "place") = some (.int (gs.length : Int) tpl)) (m (Str.ofString "lasting") = some (.ref D7)) (m (Str.ofString "rest") = some (.ref D8))) ?f1 ?f2
                      case f1 =>
                        (rename HoldOn => hHO9)
                        clear hHO9
                        (try k_fold)
                        k_steps
                        refine to_hold ?_
                        (rename Fr _ _ _ _ => F9)
                        refine callWith_K0 (K := K0 w.params) (Frag.In.keeps X' (Fr.keep F9)) (by k_is) ?_
                        refine call_as (bs := [.ref px1]) rfl ?_
                        refine hold_of ?_
                        refine to_hold ?_
                        (rename Fr _ _ _ _ => F1)
                        (rename News _ _ _ _ => N1)
                        refine' ctr_use (perms (.ref px1) (planL es (gs ++ [g0]) ks1) _ (hP1c.mono fun p hp => .tail _ (.tail _ (zm _ hp))) hpo1) ?kB F1 ?kX (N1) ?kT rfl ?hd ?hu ?_
                        (case kB => exact B')
                        (case kX => exact X')
                        (case kT => exact T')
                        (case hd => first | (dsimp only [ktrTop]; omega) | decide)
                        (case hu => first | (dsimp only [ktrTop]; omega) | decide)
                        clear F1 N1
                        intro rv led' h' tk' F' N' hz6
                        (try k_fold); (try (show (let GZ : Prop := _; GZ); intro GZ))
                        obtain ⟨O9, pvs9, pn9, new9, rfl, rfl, hip9, hab9⟩ := hz6
                        (try k_unfold)
                        rw [perms_law hok hgok2 hks1 hkw1, order_law hok hgok hg0ok hks0 hkw0 hks1 hkw1] at hip9
                        have N1 := news_sub (l' := (O9, listOf pvs9.toArray pn9) :: (D8, listOf ys8.toArray ys8.length) :: (D7, listOf ysl.toArray ysl.length) :: ZM) N' (by walk_at "led_sub")
                        clear N' hab9
                        k_steps
                        refine to_hold ?_
                        (rename Fr _ _ _ _ => F9; rename News _ _ _ _ => N9)
                        refine kmk_add_ints F9 N9 (a := D7) (b := D8) ⟨_, (N9 _ (.tail _ (.tail _ (.head _)))).1, rfl, _, rfl⟩ ⟨_, (N9 _ (.tail _ (.head _))).1, rfl, _, rfl⟩ hlas hres (fun X us h' F' N' lX hiu => ?_) ?hz
                        case hz =>
                          rw [← hlas.length, ← hres.length, sizeLine_eq]
                          omega
                        clear F9 N9
                        k_steps
                        refine to_hold ?_
                        (rename News _ _ _ _ => N9)
                        refine ints_same N9 (.tail _ (.head _)) hip9 (.head _) hiu (by ((simp only [units_deeper, units_in1, Around.mark_units]); first | ((dsimp only [ktrTop]); omega) | decide)) rfl ?_
                        have hsz : (planL es (gs ++ [g0]) ks1).size = (((lastingL es gs g0 ks1).length : Nat) : Int) + (((restL es gs g0 ks0).length : Nat) : Int) := by
                          show (((ordL es (gs ++ [g0]) ks1).length : Nat) : Int) = _
                          rw [order_law hok hgok hg0ok hks0 hkw0 hks1 hkw1, List.length_append]
                          omega
                        k_steps
                        (rename Fr _ _ _ _ => F9; rename News _ _ _ _ => N9)
                        exact cut_end F9 (news_sub N9 (by walk_at "led_sub")) ⟨rfl, m6p, rfl, rfl⟩
                      case f2 =>
                        clear F9 N1
                        intro m7 nw h tk hz4 F' N'
                        (try k_fold); (try (show (let GZ : Prop := _; GZ); intro GZ))
                        obtain ⟨rfl, m7p, m7l, m7r⟩ := hz4
                        (try k_unfold)
                        (try dsimp only)
                        k_steps
                        refine to_hold ?_
                        (rename Fr _ _ _ _ => F1)
                        (rename News _ _ _ _ => N1)
                        refine range_K F1 N1 fun r tr1 tr2 tr3 h' tk' F' N' lr => ?_
                        clear F1 N1
                        (try k_lt lr)
                        (try dsimp only)
                        rename_i Dl _ hl1 _ _ _
                        have hDlr : @LT.lt Nat _ Dl r := lr.1
                        have hD8r : @LT.lt Nat _ D8 r := lr.2.1
                        have hD7r : @LT.lt Nat _ D7 r := lr.2.2.1
                        have hZr : AllLt r ZM := lr.2.2.2
                        have hD8l : @LT.lt Nat _ D8 Dl := hl1.1
                        have hD7l : @LT.lt Nat _ D7 Dl := hl1.2.1
                        have hZl : AllLt Dl ZM := hl1.2.2
                        have zc6 : ((z0 + 1 + 1 + 1 + 1 + 1 + 1), o6) ∈ ZM := by rw [hZM]; exact .head _
                        have hDlc : @Ne Nat Dl ((z0 + 1 + 1 + 1 + 1 + 1 + 1)) := Nat.ne_of_gt (allLt_mem hZl _ zc6)
                        have hrc : @Ne Nat r ((z0 + 1 + 1 + 1 + 1 + 1 + 1)) := Nat.ne_of_gt (allLt_mem hZr _ zc6)
                        have hD8c : @Ne Nat D8 ((z0 + 1 + 1 + 1 + 1 + 1 + 1)) := Nat.ne_of_gt (h68 _ zc6)
                        have hD7c : @Ne Nat D7 ((z0 + 1 + 1 + 1 + 1 + 1 + 1)) := Nat.ne_of_gt (hlt7 _ zc6)
                        have N1 := news_sub (l' := ((z0 + 1 + 1 + 1 + 1 + 1 + 1), o6) :: (Dl, listOf ([] : List Value).toArray 0) :: (r, rangeO (gs.length : Int) tr1 tr2 tr3) :: (D8, listOf ys8.toArray ys8.length) :: (D7, listOf ysl.toArray ysl.length) :: ZQ) N' (by rw [hZM]; walk_at "led_sub")
                        have qpx0 := zq _ hpx0r
                        have qpd0 := zq _ hpd0r
                        have qpx1 := zq _ hpx1r
                        have qpd1 := zq _ hpd1r
                        have qLV1 := zq _ hLV1r
                        have qD0 := zq _ (hsub0 _ hDo0)
                        clear mpx0 mpd0 mpx1 mpd1 mLV1 mfs mO mc2 mc3 mc4 mc5 mD0 mD1 mD2
                        refine for_restC (n := gs.length) (c := (z0 + 1 + 1 + 1 + 1 + 1 + 1)) (fun i m nw => ∃ oa xa lvs ln, And6 (nw = ((z0 + 1 + 1 + 1 + 1 + 1 + 1), oa) :: (Dl, listOf lvs.toArray ln) :: (r, rangeO (gs.length : Int) tr1 tr2 tr3) :: (D8, listOf ys8.toArray ys8.length) :: (D7, listOf ysl.toArray ysl.length) :: ZQ) (oa.data = .cell xa) (IntsAre lvs ((List.range i).map fun (a : Nat) => (((lastingL es gs g0 ks1).length : Nat) : Int) + (((restL es gs g0 ks0).filter fun k => decide ((a : Int) < lgAt (planL es gs ks0).l k)).length : Int))) (m (Str.ofString "lasting") = some (.ref D7)) (m (Str.ofString "rest") = some (.ref D8)) (m (Str.ofString "lives") = some (.ref Dl))) (src_rangeO rfl r gs.length gs.length tr1 tr2 tr3 rfl (by omega)) F' N1 rfl rfl rfl rfl ⟨_, _, [], 0, rfl, d6, .nil, m7l, m7r, rfl⟩ ?hcell ?turn9 ?done9
                        case hcell =>
                          intro i m nw hz3
                          (try k_fold); (try (show (let GZ : Prop := _; GZ); intro GZ))
                          obtain ⟨oa, xa, lvs, ln, rfl, hxa, -⟩ := hz3
                          (try k_unfold)
                          refine ⟨oa, xa, _, rfl, hxa, ne_cons hDlc (ne_cons hrc (ne_cons hD8c (ne_cons hD7c qoff))), fun p hp => ?_⟩
                          rw [List.mem_singleton.mp hp]
                          exact .tail _ (.head _)
                        case turn9 =>
                          clear F' N' N1
                          intro i v m9 oa nw I oI oa' h tk hin hz11 hz12 hne hoa' F' N'
                          (try k_fold)
                          (try (show (let GZ : Prop := wpAny _ _ _ _ _ _; GZ); intro GZ))
                          obtain ⟨tv, rfl⟩ := hz11
                          obtain ⟨oa0, xa, lvs, ln, hnw, hxa, hlv, m9l, m9r, m9v⟩ := hz12
                          obtain ⟨he1, hnw⟩ := List.cons.inj hnw
                          subst hnw
                          (try k_fold)
                          k_steps
                          (rename Fr _ _ _ _ => F9; rename News _ _ _ _ => N9)
                          obtain ⟨Y, hY⟩ : ∃ Y : Led, Y = (I, oI) :: ((z0 + 1 + 1 + 1 + 1 + 1 + 1), oa') :: (Dl, listOf lvs.toArray ln) :: (r, rangeO (gs.length : Int) tr1 tr2 tr3) :: (D8, listOf ys8.toArray ys8.length) :: (D7, listOf ysl.toArray ysl.length) :: ZQ := ⟨_, rfl⟩
                          rw [← hY] at N9
                          have yq : ∀ p ∈ ZQ, p ∈ Y := fun p hp => by rw [hY]; exact .tail _ (.tail _ (.tail _ (.tail _ (.tail _ (.tail _ hp)))))
                          have yc6 : ((z0 + 1 + 1 + 1 + 1 + 1 + 1), oa') ∈ Y := by rw [hY]; exact .tail _ (.head _)
                          have yDl : (Dl, listOf lvs.toArray ln) ∈ Y := by rw [hY]; exact .tail _ (.tail _ (.head _))
                          have y8 : (D8, listOf ys8.toArray ys8.length) ∈ Y := by rw [hY]; exact .tail _ (.tail _ (.tail _ (.tail _ (.head _))))
                          have yc3 := yq _ mc3q
                          have ypx0 := yq _ qpx0
                          have ypd0 := yq _ qpd0
                          have yD0 := yq _ qD0
                          refine comp_rest (n := ys8.toArray.size) (fun i2 ys nw2 => Y = nw2 ∧ IntsAre ys (((restL es gs g0 ks0).take i2).filter fun k => decide ((i : Int) < lgAt (planL es gs ks0).l k))) (src_mono (need' := Y) (src_list rfl D8 ys8.toArray ys8.length) (fun p hp => by rw [List.mem_singleton.mp hp]; exact y8)) (by rw [List.size_toArray, sizeLine_eq]; omega) (by decide) rfl (tgt_name rfl rfl) F9 N9 ⟨rfl, .nil⟩ (fun i ys nw h p hp => by rw [← h.1]; exact hp) ?turn10 ?done10
                          case turn10 =>
                            clear F9 N9
                            rintro i2 v2 ys nw I2 oI2 C oC D9 m₂ h tk hin2 hv ⟨rfl, hys⟩ hns hbd F' N' hoff _ _ _
                            (try (show (let GZ : Prop := _; GZ); intro GZ))
                            obtain ⟨k, tk7, hk, rfl⟩ := ints_get2 hres (by simpa using hv)
                            (try k_unfold)
                            have hkr := List.mem_of_getElem? hk
                            have h0 : k ∈ (planL es gs ks0).l.map (·.var) := ord_vars hks0 (rest_mem.mp hkr).1
                            (try (show (let GZ : Prop := _; GZ); intro GZ))
                            obtain ⟨x0, dx0, ox0, inf0, hvx0, hxo0, hdo0, hio0, hia0⟩ := look0 k h0
                            (try k_unfold)
                            have nx0 := yq _ (zq _ (hsub0 _ hxo0))
                            have nd0 := yq _ (zq _ (hsub0 _ hdo0))
                            have hlg : lgAt (planL es gs ks0).l k = inf0.last_goal := infoAt_lg hia0
                            rw [take_snoc hk, List.filter_append]
                            refine tests_one ?_
                            (try (show (let GZ : Prop := _; GZ); intro GZ))
                            obtain ⟨t0', t1', t2', t3', t4', t5', t6', t7', t8', u0', u1', u2', u3', u5', u6', u7', u8'⟩ := hio0
                            (try k_unfold)
                            by_cases hlt : (i : Int) < inf0.last_goal
                            · have hf1 : ([k].filter fun k => decide ((i : Int) < lgAt (planL es gs ks0).l k)) = [k] := by simp [hlg, hlt]
                              rw [hf1]
                              (try k_fold)
                              k_steps
                              refine to_hold ?_
                              (rename News _ _ _ _ => N9)
                              refine di_itemA hvx0 hdd0 N9 (.tail _ (.tail _ (.tail _ yD0))) ?_
                              k_steps
                              (rename Fr _ _ _ _ => F9; rename News _ _ _ _ => N9)
                              exact ⟨_, _, _, rfl, F9, N9, hoff, rfl, ints_snoc hys _ _⟩
                            · have hf1 : ([k].filter fun k => decide ((i : Int) < lgAt (planL es gs ks0).l k)) = [] := by simp [hlg, hlt]
                              rw [hf1, List.append_nil]
                              (try k_fold)
                              k_steps
                              refine to_hold ?_
                              (rename News _ _ _ _ => N9)
                              refine di_itemA hvx0 hdd0 N9 (.tail _ (.tail _ (.tail _ yD0))) ?_
                              k_steps
                              (rename Fr _ _ _ _ => F9; rename News _ _ _ _ => N9)
                              exact ⟨_, _, _, rfl, F9, N9, hoff, rfl, hys⟩
                          case done10 =>
                            clear F9 N9
                            rintro D9 ys9 nw h tk ⟨rfl, hys9⟩ F' N' hoff9 hlt9
                            rw [show ys8.toArray.size = (restL es gs g0 ks0).length from by rw [List.size_toArray, hlen8], List.take_length] at hys9
                            have hlen9 : ys9.length = ((restL es gs g0 ks0).filter fun k => decide ((i : Int) < lgAt (planL es gs ks0).l k)).length := hys9.length
                            have hl9 : ys9.length ≤ 60 := by rw [hlen9]; exact Nat.le_trans (List.length_filter_le _ _) (by omega)
                            have hlvl : lvs.length = i := by rw [hlv.length, List.length_map, List.length_range]
                            have hDl9 : @LT.lt Nat _ Dl D9 := hlt9 _ yDl
                            have N1 := news_sub (l' := (Dl, listOf lvs.toArray ln) :: (D9, listOf ys9.toArray ys9.length) :: (I, oI) :: ((z0 + 1 + 1 + 1 + 1 + 1 + 1), oa') :: (r, rangeO (gs.length : Int) tr1 tr2 tr3) :: (D8, listOf ys8.toArray ys8.length) :: (D7, listOf ysl.toArray ysl.length) :: ZQ) N' (by rw [hY]; walk_at "led_sub")
                            clear N' hoff9
                            k_steps
                            refine to_hold ?_
                            (rename Fr _ _ _ _ => F9; rename News _ _ _ _ => N9)
                            refine append_L F9 N9 (Upd.head (ne_cons (Nat.ne_of_gt hDl9) (ne_cons (Ne.symm (hne _ (.tail _ (.head _)))) (ne_cons (Ne.symm hDlc) (ne_cons (Nat.ne_of_gt hDlr) (ne_cons (Nat.ne_of_lt hD8l) (ne_cons (Nat.ne_of_lt hD7l) fun p hp => Nat.ne_of_lt (allLt_mem hZl p (qm p hp))))))))) (by omega) fun h' F' N' => ?_
                            clear F9 N9
                            k_steps
                            (rename Fr _ _ _ _ => F9; rename News _ _ _ _ => N9)
                            refine turn_next (nw := ((z0 + 1 + 1 + 1 + 1 + 1 + 1), oa') :: (Dl, listOf _ (ln + 1)) :: (r, rangeO (gs.length : Int) tr1 tr2 tr3) :: (D8, listOf ys8.toArray ys8.length) :: (D7, listOf ysl.toArray ysl.length) :: ZQ) F9 (news_sub N9 (by walk_at "led_sub")) (ne_cons (hne _ (.head _)) (ne_cons (hne _ (.tail _ (.head _))) fun p hp => hne p (.tail _ (.tail _ hp)))) ⟨_, _, _, _, rfl, hoa', ?_, m9l, m9r, m9v⟩
                            rw [List.range_succ, List.map_append, List.map_cons, List.map_nil]
                            exact ints_snoc hlv _ _
                        case done9 =>
                          clear F' N' N1
                          intro m9 nw h tk hz4 F' N'
                          (try k_fold); (try (show (let GZ : Prop := _; GZ); intro GZ))
                          obtain ⟨oa, xa, lvs, ln, rfl, hxa, hlv, m9l, m9r, m9v⟩ := hz4
                          (try k_unfold)
                          have hlvl : lvs.length = gs.length := by rw [hlv.length, List.length_map, List.length_range]
                          k_steps
                          refine to_hold ?_
                          (rename Fr _ _ _ _ => F9; rename News _ _ _ _ => N9)
                          refine kmk_add_ints F9 N9 (a := Dl) ⟨_, (N9 _ (.tail _ (.tail _ (.head _)))).1, rfl, _, rfl⟩ ⟨_, (N9 _ (.head _)).1, rfl, _, rfl⟩ hlv (.cons _ _ .nil) (fun X us h' F' N' lX hiu => ?_) ?hz
                          case hz =>
                            rw [← hlv.length, hlvl, sizeLine_eq]
                            simp
                            omega
                          clear F9 N9
                          k_steps
                          refine to_hold ?_
                          (rename News _ _ _ _ => N9)
                          refine ints_eq N9 (.tail _ (.tail _ (.tail _ (.tail _ (.tail _ (.tail _ (.tail _ qLV1))))))) hil1 (.head _) hiu (by ((simp only [units_deeper, units_in1, Around.mark_units]); first | ((dsimp only [ktrTop]); omega) | decide)) (lives_law hok hgok hg0ok hks0 hkw0 hks1 hkw1) ?_
                          k_steps
                          (rename Fr _ _ _ _ => F9)
                          exact hend _ _ _ _ F9

end PLW
end Mine
set_option maxRecDepth 100000 in
set_option maxHeartbeats 8000000 in
theorem PySem.Challenge.cw_sa0145_01_holds : PySem.Challenge.rw_sa0145_01.Holds := by
  exact Mine.main
