import PyProof.Rows.All
import Wide.All
import OpenK.AllK
import Wide.FinOn
import PySem.Challenge.RW_pq1324_01
set_option Elab.async false
set_option maxRecDepth 100000
set_option linter.unusedVariables false
open PySem PySem.W PyProof.Rows PySem.Calls
section
set_option maxHeartbeats 0
namespace Mine
noncomputable abbrev pw : Program := PySem.Challenge.pw_pq1324_01
noncomputable def nthS : List Stmt → Nat → Stmt
  | [], _ => .Pass ⟨0, 0, 0, 0⟩
  | s :: _, 0 => s
  | _ :: r, n + 1 => nthS r n
noncomputable def nthO : List Obj → Nat → Obj
  | [], _ => ⟨.none, none, .plain, #[]⟩
  | s :: _, 0 => s
  | _ :: r, n + 1 => nthO r n
noncomputable def nthC : List (Params → List Obj) → Nat → Params → List Obj
  | [], _ => fun _ => []
  | s :: _, 0 => s
  | _ :: r, n + 1 => nthC r n
noncomputable def nthG : List (List (Params → List Obj)) → Nat → List (Params → List Obj)
  | [], _ => []
  | s :: _, 0 => s
  | _ :: r, n + 1 => nthG r n
noncomputable def takeS : Nat → List Stmt → List Stmt
  | 0, _ => []
  | _ + 1, [] => []
  | n + 1, s :: r => s :: takeS n r
noncomputable def dropS : Nat → List Stmt → List Stmt
  | 0, l => l
  | _ + 1, [] => []
  | n + 1, _ :: r => dropS n r
noncomputable def takeE : Nat → List DictEntry → List DictEntry
  | 0, _ => []
  | _ + 1, [] => []
  | n + 1, s :: r => s :: takeE n r
noncomputable def takeV : Nat → List Value → List Value
  | 0, _ => []
  | _ + 1, [] => []
  | n + 1, s :: r => s :: takeV n r
noncomputable def noArgs : Arguments := { posonlyargs := [], args := [], vararg := none, kwonlyargs := [], kw_defaults := [], kwarg := none, defaults := [] }
noncomputable def noScope : Scope := { kind := .function, names := [], isGenerator := false, isCoroutine := false }
noncomputable def pA : Stmt → Arguments
  | .FunctionDef _ a _ _ _ _ _ _ _ _ => a
  | _ => noArgs
noncomputable def pB : Stmt → List Stmt
  | .FunctionDef _ _ b _ _ _ _ _ _ _ => b
  | .ClassDef _ _ _ b _ _ _ _ _ _ _ => b
  | _ => []
noncomputable def pS : Stmt → Scope
  | .FunctionDef _ _ _ _ _ _ s _ _ _ => s
  | _ => noScope
noncomputable def stF (i : Nat) : Stmt := nthS pw.main.body i
noncomputable def stM (i j : Nat) : Stmt := nthS (pB (stF i)) j
noncomputable def c0 (P : Params) : List Obj :=
  [boot_o_0 P,
   boot_o_1 P,
   ⟨.none, none, .dict #[⟨PyData.keyHash P (Str.ofString "type.__subclasses__.Exception.0"), .str (Str.ofString "type.__subclasses__.Exception.0") 242, .int 55 0⟩, ⟨PyData.keyHash P (Str.ofString "type.__subclasses__.Exception.n"), .str (Str.ofString "type.__subclasses__.Exception.n") 243, .int 1 0⟩] 2, #[]⟩,
   ⟨.type "dict", none, .dict #[⟨PyData.keyHash P (Str.ofString "__name__"), .str (Str.ofString "__name__") 165, .str (Str.ofString "law_pq1324_01") 792⟩, ⟨PyData.keyHash P (Str.ofString "__doc__"), .str (Str.ofString "__doc__") 166, .none⟩, ⟨PyData.keyHash P (Str.ofString "__package__"), .str (Str.ofString "__package__") 167, .none⟩, ⟨PyData.keyHash P (Str.ofString "__loader__"), .str (Str.ofString "__loader__") 168, .builtin "__main__.__loader__#opaque"⟩, ⟨PyData.keyHash P (Str.ofString "__spec__"), .str (Str.ofString "__spec__") 169, .none⟩, ⟨PyData.keyHash P (Str.ofString "__annotations__"), .str (Str.ofString "__annotations__") 170, .ref 6⟩, ⟨PyData.keyHash P (Str.ofString "__builtins__"), .str (Str.ofString "__builtins__") 171, .ref 4⟩, ⟨PyData.keyHash P (Str.ofString "__file__"), .str (Str.ofString "__file__") 173, .str (Str.ofString "/claim/cut.py") 172⟩, ⟨PyData.keyHash P (Str.ofString "__cached__"), .str (Str.ofString "__cached__") 174, .none⟩, ⟨PyData.keyHash P (Str.ofString "_wall"), .str (Str.ofString "_wall") 193, .ref 21⟩, ⟨PyData.keyHash P (Str.ofString "get_attr"), .str (Str.ofString "get_attr") 203, .ref 28⟩, ⟨PyData.keyHash P (Str.ofString "names_of"), .str (Str.ofString "names_of") 209, .ref 33⟩, ⟨PyData.keyHash P (Str.ofString "dim_of"), .str (Str.ofString "dim_of") 217, .ref 40⟩, ⟨PyData.keyHash P (Str.ofString "dimnames_of"), .str (Str.ofString "dimnames_of") 223, .ref 45⟩, ⟨PyData.keyHash P (Str.ofString "CoveError"), .str (Str.ofString "CoveError") 245, .ref 55⟩, ⟨PyData.keyHash P (Str.ofString "Refusal"), .str (Str.ofString "Refusal") 270, .ref 75⟩, ⟨PyData.keyHash P (Str.ofString "Matching"), .str (Str.ofString "Matching") 355, .ref 134⟩, ⟨PyData.keyHash P (Str.ofString "doubled_text"), .str (Str.ofString "doubled_text") 362, .ref 145⟩, ⟨PyData.keyHash P (Str.ofString "argument_text"), .str (Str.ofString "argument_text") 373, .ref 152⟩, ⟨PyData.keyHash P (Str.ofString "unused_text"), .str (Str.ofString "unused_text") 379, .ref 157⟩, ⟨PyData.keyHash P (Str.ofString "match_names"), .str (Str.ofString "match_names") 385, .ref 163⟩, ⟨PyData.keyHash P (Str.ofString "take"), .str (Str.ofString "take") 391, .ref 169⟩, ⟨PyData.keyHash P (Str.ofString "Null"), .str (Str.ofString "Null") 422, .ref 186⟩, ⟨PyData.keyHash P (Str.ofString "Missing"), .str (Str.ofString "Missing") 451, .ref 207⟩, ⟨PyData.keyHash P (Str.ofString "Vector"), .str (Str.ofString "Vector") 493, .ref 236⟩, ⟨PyData.keyHash P (Str.ofString "Symbol"), .str (Str.ofString "Symbol") 524, .ref 257⟩, ⟨PyData.keyHash P (Str.ofString "Call"), .str (Str.ofString "Call") 559, .ref 279⟩, ⟨PyData.keyHash P (Str.ofString "Closure"), .str (Str.ofString "Closure") 595, .ref 301⟩, ⟨PyData.keyHash P (Str.ofString "null"), .str (Str.ofString "null") 601, .ref 312⟩, ⟨PyData.keyHash P (Str.ofString "character"), .str (Str.ofString "character") 608, .ref 319⟩, ⟨PyData.keyHash P (Str.ofString "named"), .str (Str.ofString "named") 616, .ref 326⟩, ⟨PyData.keyHash P (Str.ofString "pairlist_of"), .str (Str.ofString "pairlist_of") 622, .ref 331⟩, ⟨PyData.keyHash P (Str.ofString "symbol"), .str (Str.ofString "symbol") 629, .ref 338⟩, ⟨PyData.keyHash P (Str.ofString "is_vector"), .str (Str.ofString "is_vector") 636, .ref 345⟩, ⟨PyData.keyHash P (Str.ofString "is_function"), .str (Str.ofString "is_function") 643, .ref 352⟩, ⟨PyData.keyHash P (Str.ofString "share"), .str (Str.ofString "share") 650, .ref 359⟩, ⟨PyData.keyHash P (Str.ofString "needed"), .str (Str.ofString "needed") 660, .ref 366⟩, ⟨PyData.keyHash P (Str.ofString "bind_list"), .str (Str.ofString "bind_list") 670, .ref 373⟩, ⟨PyData.keyHash P (Str.ofString "evaluation_env"), .str (Str.ofString "evaluation_env") 682, .ref 380⟩, ⟨PyData.keyHash P (Str.ofString "tagged_items"), .str (Str.ofString "tagged_items") 695, .ref 387⟩, ⟨PyData.keyHash P (Str.ofString "call_with"), .str (Str.ofString "call_with") 701, .ref 392⟩, ⟨PyData.keyHash P (Str.ofString "b_call"), .str (Str.ofString "b_call") 707, .ref 397⟩, ⟨PyData.keyHash P (Str.ofString "b_as_call"), .str (Str.ofString "b_as_call") 718, .ref 404⟩, ⟨PyData.keyHash P (Str.ofString "b_body"), .str (Str.ofString "b_body") 728, .ref 411⟩, ⟨PyData.keyHash P (Str.ofString "b_formals"), .str (Str.ofString "b_formals") 734, .ref 416⟩, ⟨PyData.keyHash P (Str.ofString "needed_closure"), .str (Str.ofString "needed_closure") 744, .ref 423⟩, ⟨PyData.keyHash P (Str.ofString "b_set_body"), .str (Str.ofString "b_set_body") 755, .ref 430⟩, ⟨PyData.keyHash P (Str.ofString "formal_rows"), .str (Str.ofString "formal_rows") 765, .ref 437⟩, ⟨PyData.keyHash P (Str.ofString "b_set_formals"), .str (Str.ofString "b_set_formals") 776, .ref 444⟩, ⟨PyData.keyHash P (Str.ofString "b_as_function"), .str (Str.ofString "b_as_function") 791, .ref 451⟩, ⟨PyData.keyHash P (Str.ofString "_law_shelf"), .str (Str.ofString "_law_shelf") 802, .ref 458⟩, ⟨PyData.keyHash P (Str.ofString "_law_grab"), .str (Str.ofString "_law_grab") 810, .ref 465⟩, ⟨PyData.keyHash P (Str.ofString "_law_argument"), .str (Str.ofString "_law_argument") 818, .ref 472⟩, ⟨PyData.keyHash P (Str.ofString "_law_shown"), .str (Str.ofString "_law_shown") 824, .ref 477⟩, ⟨PyData.keyHash P (Str.ofString "_law_listed"), .str (Str.ofString "_law_listed") 830, .ref 482⟩, ⟨PyData.keyHash P (Str.ofString "_law_refused"), .str (Str.ofString "_law_refused") 839, .ref 489⟩, ⟨PyData.keyHash P (Str.ofString "_law_formals_told"), .str (Str.ofString "_law_formals_told") 845, .ref 494⟩, ⟨PyData.keyHash P (Str.ofString "law"), .str (Str.ofString "law") 851, .ref 499⟩] 58, #[]⟩,
   boot_o_4 P,
   boot_o_5 P,
   boot_o_6 P,
   boot_o_7 P]
noncomputable def c1 (P : Params) : List Obj :=
  [boot_o_8 P,
   boot_o_9 P,
   boot_o_10 P,
   ⟨.type "tuple", none, .seq #[] 0, #[]⟩,
   ⟨.none, none, .fields #[.int 1 0, .int 0 0, .ref 20, .int 5 0, .int 0 0, .ref 27, .int 9 0, .int 0 0, .ref 32, .int 25 0, .int 0 0, .ref 39, .int 30 0, .int 0 0, .ref 44, .int 36 0, .int 0 0, .ref 51, .int 38 0, .int 0 0, .ref 64, .int 43 0, .int 0 0, .ref 83, .int 96 0, .int 0 0, .ref 144, .int 98 0, .int 0 0, .ref 151, .int 107 0, .int 0 0, .ref 156, .int 113 0, .int 0 0, .ref 162, .int 122 0, .int 0 0, .ref 168, .int 134 0, .int 0 0, .ref 175, .int 139 0, .int 0 0, .ref 196, .int 144 0, .int 0 0, .ref 217, .int 155 0, .int 0 0, .ref 246, .int 161 0, .int 0 0, .ref 267, .int 169 0, .int 0 0, .ref 289, .int 177 0, .int 0 0, .ref 311, .int 179 0, .int 0 0, .ref 318, .int 181 0, .int 0 0, .ref 325, .int 185 0, .int 0 0, .ref 330, .int 187 0, .int 0 0, .ref 337, .int 189 0, .int 0 0, .ref 344, .int 191 0, .int 0 0, .ref 351, .int 193 0, .int 0 0, .ref 358, .int 198 0, .int 0 0, .ref 365, .int 202 0, .int 0 0, .ref 372, .int 209 0, .int 0 0, .ref 379, .int 224 0, .int 0 0, .ref 386, .int 233 0, .int 0 0, .ref 391, .int 235 0, .int 0 0, .ref 396, .int 240 0, .int 0 0, .ref 403, .int 248 0, .int 0 0, .ref 410, .int 253 0, .int 0 0, .ref 415, .int 259 0, .int 0 0, .ref 422, .int 264 0, .int 0 0, .ref 429, .int 267 0, .int 0 0, .ref 436, .int 277 0, .int 0 0, .ref 443, .int 280 0, .int 0 0, .ref 450, .int 295 0, .int 0 0, .ref 457, .int 300 0, .int 0 0, .ref 464, .int 304 0, .int 0 0, .ref 471, .int 313 0, .int 0 0, .ref 476, .int 323 0, .int 0 0, .ref 481, .int 329 0, .int 0 0, .ref 488, .int 335 0, .int 0 0, .ref 493, .int 341 0, .int 0 0, .ref 498], #[]⟩,
   ⟨.type "code", none, .fields #[.str (Str.ofString "<module>") 182, .str (Str.ofString "<module>") 183, .str (Str.ofString "/claim/cut.py") 184, .int 1 0, .int 0 0, .int 0 0, .int 0 0, .int 0 0, .ref 11, .bool false, .int 181 0, .ref 12, .none, .none, .none, .none, .int 185 0, .int 1 0, .str (Str.ofString "/claim/cut.py") 186], #[]⟩,
   ⟨.type "frame", none, .plain, #[some (.ref 13), some (.ref 3), some (.ref 3), none, some (.str (Str.ofString "__main__") 164), none, some (.ref 0)]⟩,
   ⟨.type "tuple", none, .seq #[] 0, #[]⟩]
noncomputable def c2 (P : Params) : List Obj :=
  [⟨.none, none, .fields #[], #[]⟩,
   ⟨.type "tuple", none, .seq #[.str (Str.ofString "k") 190] 0, #[]⟩,
   ⟨.type "tuple", none, .seq #[] 0, #[]⟩,
   ⟨.none, none, .func { name := Str.ofString "_wall", qualname := Str.ofString "_wall", params := pA (stF 0), body := .stmts (pB (stF 0)), scope := pS (stF 0), globals := 0, closure := [], defaults := .none, kwdefaults := .none, doc := .none, pyModule := .none, annotations := none, code := .none, closureTuple := .none, builtins := 0 }, #[]⟩,
   ⟨.type "code", none, .fields #[.str (Str.ofString "_wall") 187, .str (Str.ofString "_wall") 188, .str (Str.ofString "/claim/cut.py") 189, .int 1 0, .int 1 0, .int 0 0, .int 0 0, .int 3 0, .ref 15, .bool true, .int 181 0, .ref 16, .none, .ref 17, .ref 18, .ref 19, .int 191 0, .int 1 0, .str (Str.ofString "/claim/cut.py") 192], #[]⟩,
   ⟨.type "function", none, .func { name := Str.ofString "_wall", qualname := Str.ofString "_wall", params := pA (stF 0), body := .stmts (pB (stF 0)), scope := pS (stF 0), globals := 3, closure := [], defaults := .none, kwdefaults := .none, doc := .none, pyModule := .str (Str.ofString "__main__") 164, annotations := none, code := .ref 20, closureTuple := .none, builtins := 0 }, #[]⟩,
   ⟨.type "tuple", none, .seq #[] 0, #[]⟩,
   ⟨.none, none, .fields #[], #[]⟩]
noncomputable def c3 (P : Params) : List Obj :=
  [⟨.type "tuple", none, .seq #[.str (Str.ofString "v") 199, .str (Str.ofString "name") 200] 0, #[]⟩,
   ⟨.type "tuple", none, .seq #[] 0, #[]⟩,
   ⟨.none, none, .func { name := Str.ofString "get_attr", qualname := Str.ofString "get_attr", params := pA (stF 2), body := .stmts (pB (stF 2)), scope := pS (stF 2), globals := 0, closure := [], defaults := .none, kwdefaults := .none, doc := .none, pyModule := .none, annotations := none, code := .none, closureTuple := .none, builtins := 0 }, #[]⟩,
   ⟨.type "code", none, .fields #[.str (Str.ofString "get_attr") 196, .str (Str.ofString "get_attr") 197, .str (Str.ofString "/claim/cut.py") 198, .int 5 0, .int 2 0, .int 0 0, .int 0 0, .int 3 0, .ref 22, .bool true, .int 181 0, .ref 23, .none, .ref 24, .ref 25, .ref 26, .int 201 0, .int 5 0, .str (Str.ofString "/claim/cut.py") 202], #[]⟩,
   ⟨.type "function", none, .func { name := Str.ofString "get_attr", qualname := Str.ofString "get_attr", params := pA (stF 2), body := .stmts (pB (stF 2)), scope := pS (stF 2), globals := 3, closure := [], defaults := .none, kwdefaults := .none, doc := .none, pyModule := .str (Str.ofString "vectorcove.attrs") 194, annotations := none, code := .ref 27, closureTuple := .none, builtins := 0 }, #[]⟩,
   ⟨.type "tuple", none, .seq #[] 0, #[]⟩,
   ⟨.none, none, .fields #[], #[]⟩,
   ⟨.none, none, .func { name := Str.ofString "names_of", qualname := Str.ofString "names_of", params := pA (stF 3), body := .stmts (pB (stF 3)), scope := pS (stF 3), globals := 0, closure := [], defaults := .none, kwdefaults := .none, doc := .none, pyModule := .none, annotations := none, code := .none, closureTuple := .none, builtins := 0 }, #[]⟩]
noncomputable def c4 (P : Params) : List Obj :=
  [⟨.type "code", none, .fields #[.str (Str.ofString "names_of") 204, .str (Str.ofString "names_of") 205, .str (Str.ofString "/claim/cut.py") 206, .int 9 0, .int 1 0, .int 0 0, .int 0 0, .int 3 0, .ref 29, .bool true, .int 181 0, .ref 30, .none, .none, .none, .ref 31, .int 207 0, .int 9 0, .str (Str.ofString "/claim/cut.py") 208], #[]⟩,
   ⟨.type "function", none, .func { name := Str.ofString "names_of", qualname := Str.ofString "names_of", params := pA (stF 3), body := .stmts (pB (stF 3)), scope := pS (stF 3), globals := 3, closure := [], defaults := .none, kwdefaults := .none, doc := .none, pyModule := .str (Str.ofString "vectorcove.attrs") 194, annotations := none, code := .ref 32, closureTuple := .none, builtins := 0 }, #[]⟩,
   ⟨.type "tuple", none, .seq #[] 0, #[]⟩,
   ⟨.none, none, .fields #[], #[]⟩,
   ⟨.type "tuple", none, .seq #[.str (Str.ofString "v") 213, .str (Str.ofString "dims") 214] 0, #[]⟩,
   ⟨.type "tuple", none, .seq #[] 0, #[]⟩,
   ⟨.none, none, .func { name := Str.ofString "dim_of", qualname := Str.ofString "dim_of", params := pA (stF 4), body := .stmts (pB (stF 4)), scope := pS (stF 4), globals := 0, closure := [], defaults := .none, kwdefaults := .none, doc := .none, pyModule := .none, annotations := none, code := .none, closureTuple := .none, builtins := 0 }, #[]⟩,
   ⟨.type "code", none, .fields #[.str (Str.ofString "dim_of") 210, .str (Str.ofString "dim_of") 211, .str (Str.ofString "/claim/cut.py") 212, .int 25 0, .int 1 0, .int 0 0, .int 0 0, .int 3 0, .ref 34, .bool true, .int 181 0, .ref 35, .none, .ref 36, .ref 37, .ref 38, .int 215 0, .int 25 0, .str (Str.ofString "/claim/cut.py") 216], #[]⟩]
noncomputable def c5 (P : Params) : List Obj :=
  [⟨.type "function", none, .func { name := Str.ofString "dim_of", qualname := Str.ofString "dim_of", params := pA (stF 4), body := .stmts (pB (stF 4)), scope := pS (stF 4), globals := 3, closure := [], defaults := .none, kwdefaults := .none, doc := .none, pyModule := .str (Str.ofString "vectorcove.attrs") 194, annotations := none, code := .ref 39, closureTuple := .none, builtins := 0 }, #[]⟩,
   ⟨.type "tuple", none, .seq #[] 0, #[]⟩,
   ⟨.none, none, .fields #[], #[]⟩,
   ⟨.none, none, .func { name := Str.ofString "dimnames_of", qualname := Str.ofString "dimnames_of", params := pA (stF 5), body := .stmts (pB (stF 5)), scope := pS (stF 5), globals := 0, closure := [], defaults := .none, kwdefaults := .none, doc := .none, pyModule := .none, annotations := none, code := .none, closureTuple := .none, builtins := 0 }, #[]⟩,
   ⟨.type "code", none, .fields #[.str (Str.ofString "dimnames_of") 218, .str (Str.ofString "dimnames_of") 219, .str (Str.ofString "/claim/cut.py") 220, .int 30 0, .int 1 0, .int 0 0, .int 0 0, .int 3 0, .ref 41, .bool true, .int 181 0, .ref 42, .none, .none, .none, .ref 43, .int 221 0, .int 30 0, .str (Str.ofString "/claim/cut.py") 222], #[]⟩,
   ⟨.type "function", none, .func { name := Str.ofString "dimnames_of", qualname := Str.ofString "dimnames_of", params := pA (stF 5), body := .stmts (pB (stF 5)), scope := pS (stF 5), globals := 3, closure := [], defaults := .none, kwdefaults := .none, doc := .none, pyModule := .str (Str.ofString "vectorcove.attrs") 194, annotations := none, code := .ref 44, closureTuple := .none, builtins := 0 }, #[]⟩,
   ⟨.type "tuple", none, .seq #[.type "Exception"] 0, #[]⟩,
   ⟨.type "builtin_function_or_method", none, .fields #[.builtin "type.__prepare__", .type "type"], #[]⟩]
noncomputable def c6 (P : Params) : List Obj :=
  [⟨.type "dict", none, .dict #[⟨PyData.keyHash P (Str.ofString "__module__"), .str (Str.ofString "__module__") 233, .str (Str.ofString "vectorcove.errors") 224⟩, ⟨PyData.keyHash P (Str.ofString "__qualname__"), .str (Str.ofString "__qualname__") 235, .str (Str.ofString "CoveError") 234⟩, ⟨PyData.keyHash P (Str.ofString "__firstlineno__"), .str (Str.ofString "__firstlineno__") 237, .int 36 236⟩, ⟨PyData.keyHash P (Str.ofString "__static_attributes__"), .str (Str.ofString "__static_attributes__") 238, .ref 53⟩] 4, #[]⟩,
   ⟨.type "tuple", none, .seq #[] 0, #[]⟩,
   ⟨.none, none, .fields #[], #[]⟩,
   ⟨.type "code", none, .fields #[.str (Str.ofString "CoveError") 228, .str (Str.ofString "CoveError") 229, .str (Str.ofString "/claim/cut.py") 230, .int 36 0, .int 0 0, .int 0 0, .int 0 0, .int 0 0, .ref 49, .bool false, .int 181 0, .ref 50, .none, .none, .none, .none, .int 231 0, .int 36 0, .str (Str.ofString "/claim/cut.py") 232], #[]⟩,
   ⟨.type "frame", none, .plain, #[some (.ref 51), some (.ref 3), some (.ref 48), none, some (.str (Str.ofString "vectorcove.errors") 224), none, some (.ref 0)]⟩,
   ⟨.type "tuple", none, .seq #[] 0, #[]⟩,
   ⟨.type "dict", none, .dict #[⟨PyData.keyHash P (Str.ofString "__module__"), .str (Str.ofString "__module__") 233, .str (Str.ofString "vectorcove.errors") 224⟩, ⟨PyData.keyHash P (Str.ofString "__firstlineno__"), .str (Str.ofString "__firstlineno__") 237, .int 36 236⟩, ⟨PyData.keyHash P (Str.ofString "__static_attributes__"), .str (Str.ofString "__static_attributes__") 238, .ref 53⟩, ⟨PyData.keyHash P (Str.ofString "__weakref__"), .str (Str.ofString "__weakref__") 240, .ref 56⟩, ⟨PyData.keyHash P (Str.ofString "__doc__"), .str (Str.ofString "__doc__") 241, .none⟩] 3, #[]⟩,
   ⟨.type "type", none, .cls { name := Str.ofString "CoveError", bases := [.type "Exception"], mro := [.ref 55, .type "Exception", .type "BaseException", .type "object"], ns := 54, qualname := Str.ofString "CoveError", hasDict := true, slotNames := [], subclasses := [.ref 75], abstract := false, collection := none, hasDel := false }, #[some (.ref 46), none, some (.str (Str.ofString "CoveError") 226), some (.str (Str.ofString "CoveError") 234), some (.builtin "Exception.__new__"), some (.bool true)]⟩]
noncomputable def c7 (P : Params) : List Obj :=
  [⟨.type "getset_descriptor", none, .fields #[.str (Str.ofString "__weakref__") 239, .ref 55, .builtin "ExceptionGroup.__weakref__", .none], #[]⟩,
   ⟨.type "super", none, .fields #[.ref 55, .ref 55, .ref 55], #[]⟩,
   ⟨.type "builtin_function_or_method", none, .fields #[.builtin "object.__init_subclass__", .ref 55], #[]⟩,
   ⟨.type "tuple", none, .seq #[.ref 55] 0, #[]⟩,
   ⟨.type "builtin_function_or_method", none, .fields #[.builtin "type.__prepare__", .type "type"], #[]⟩,
   ⟨.type "dict", none, .dict #[⟨PyData.keyHash P (Str.ofString "__module__"), .str (Str.ofString "__module__") 253, .str (Str.ofString "vectorcove.errors") 224⟩, ⟨PyData.keyHash P (Str.ofString "__qualname__"), .str (Str.ofString "__qualname__") 255, .str (Str.ofString "Refusal") 254⟩, ⟨PyData.keyHash P (Str.ofString "__firstlineno__"), .str (Str.ofString "__firstlineno__") 257, .int 38 256⟩, ⟨PyData.keyHash P (Str.ofString "__init__"), .str (Str.ofString "__init__") 265, .ref 72⟩, ⟨PyData.keyHash P (Str.ofString "__static_attributes__"), .str (Str.ofString "__static_attributes__") 267, .ref 73⟩] 5, #[]⟩,
   ⟨.type "tuple", none, .seq #[] 0, #[]⟩,
   ⟨.none, none, .fields #[.int 40 0, .int 4 0, .ref 71], #[]⟩]
noncomputable def c8 (P : Params) : List Obj :=
  [⟨.type "code", none, .fields #[.str (Str.ofString "Refusal") 248, .str (Str.ofString "Refusal") 249, .str (Str.ofString "/claim/cut.py") 250, .int 38 0, .int 0 0, .int 0 0, .int 0 0, .int 0 0, .ref 62, .bool false, .int 181 0, .ref 63, .none, .none, .none, .none, .int 251 0, .int 38 0, .str (Str.ofString "/claim/cut.py") 252], #[]⟩,
   ⟨.type "frame", none, .plain, #[some (.ref 64), some (.ref 3), some (.ref 61), none, some (.str (Str.ofString "vectorcove.errors") 224), none, some (.ref 0)]⟩,
   ⟨.type "tuple", none, .seq #[] 0, #[]⟩,
   ⟨.none, none, .fields #[], #[]⟩,
   ⟨.type "tuple", none, .seq #[.str (Str.ofString "self") 261, .str (Str.ofString "message") 262] 0, #[]⟩,
   ⟨.type "tuple", none, .seq #[] 0, #[]⟩,
   ⟨.none, none, .func { name := Str.ofString "__init__", qualname := Str.ofString "Refusal.__init__", params := pA (stM 8 0), body := .stmts (pB (stM 8 0)), scope := pS (stM 8 0), globals := 0, closure := [], defaults := .none, kwdefaults := .none, doc := .none, pyModule := .none, annotations := none, code := .none, closureTuple := .none, builtins := 0 }, #[]⟩,
   ⟨.type "code", none, .fields #[.str (Str.ofString "__init__") 258, .str (Str.ofString "Refusal.__init__") 259, .str (Str.ofString "/claim/cut.py") 260, .int 40 0, .int 2 0, .int 0 0, .int 0 0, .int 3 0, .ref 66, .bool true, .int 181 0, .ref 67, .none, .ref 68, .ref 69, .ref 70, .int 263 0, .int 40 0, .str (Str.ofString "/claim/cut.py") 264], #[]⟩]
noncomputable def c9 (P : Params) : List Obj :=
  [⟨.type "function", none, .func { name := Str.ofString "__init__", qualname := Str.ofString "Refusal.__init__", params := pA (stM 8 0), body := .stmts (pB (stM 8 0)), scope := pS (stM 8 0), globals := 3, closure := [], defaults := .none, kwdefaults := .none, doc := .none, pyModule := .str (Str.ofString "vectorcove.errors") 224, annotations := none, code := .ref 71, closureTuple := .none, builtins := 0 }, #[]⟩,
   ⟨.type "tuple", none, .seq #[.str (Str.ofString "message") 266] 0, #[]⟩,
   ⟨.type "dict", none, .dict #[⟨PyData.keyHash P (Str.ofString "__module__"), .str (Str.ofString "__module__") 253, .str (Str.ofString "vectorcove.errors") 224⟩, ⟨PyData.keyHash P (Str.ofString "__firstlineno__"), .str (Str.ofString "__firstlineno__") 257, .int 38 256⟩, ⟨PyData.keyHash P (Str.ofString "__init__"), .str (Str.ofString "__init__") 265, .ref 72⟩, ⟨PyData.keyHash P (Str.ofString "__static_attributes__"), .str (Str.ofString "__static_attributes__") 267, .ref 73⟩, ⟨PyData.keyHash P (Str.ofString "__doc__"), .str (Str.ofString "__doc__") 268, .none⟩] 2, #[]⟩,
   ⟨.type "type", none, .cls { name := Str.ofString "Refusal", bases := [.ref 55], mro := [.ref 75, .ref 55, .type "Exception", .type "BaseException", .type "object"], ns := 74, qualname := Str.ofString "Refusal", hasDict := true, slotNames := [], subclasses := [], abstract := false, collection := none, hasDel := false }, #[some (.ref 59), none, some (.str (Str.ofString "Refusal") 246), some (.str (Str.ofString "Refusal") 254), some (.builtin "Exception.__new__"), some (.bool true)]⟩,
   ⟨.type "super", none, .fields #[.ref 75, .ref 75, .ref 75], #[]⟩,
   ⟨.type "builtin_function_or_method", none, .fields #[.builtin "object.__init_subclass__", .ref 75], #[]⟩,
   ⟨.type "tuple", none, .seq #[] 0, #[]⟩,
   ⟨.type "builtin_function_or_method", none, .fields #[.builtin "type.__prepare__", .type "type"], #[]⟩]
noncomputable def c10 (P : Params) : List Obj :=
  [⟨.type "dict", none, .dict #[⟨PyData.keyHash P (Str.ofString "__module__"), .str (Str.ofString "__module__") 280, .str (Str.ofString "vectorcove.callargs") 271⟩, ⟨PyData.keyHash P (Str.ofString "__qualname__"), .str (Str.ofString "__qualname__") 282, .str (Str.ofString "Matching") 281⟩, ⟨PyData.keyHash P (Str.ofString "__firstlineno__"), .str (Str.ofString "__firstlineno__") 284, .int 43 283⟩, ⟨PyData.keyHash P (Str.ofString "__init__"), .str (Str.ofString "__init__") 293, .ref 91⟩, ⟨PyData.keyHash P (Str.ofString "exact"), .str (Str.ofString "exact") 302, .ref 98⟩, ⟨PyData.keyHash P (Str.ofString "partial"), .str (Str.ofString "partial") 310, .ref 105⟩, ⟨PyData.keyHash P (Str.ofString "partial_of"), .str (Str.ofString "partial_of") 320, .ref 112⟩, ⟨PyData.keyHash P (Str.ofString "positional"), .str (Str.ofString "positional") 329, .ref 119⟩, ⟨PyData.keyHash P (Str.ofString "is_free"), .str (Str.ofString "is_free") 337, .ref 126⟩, ⟨PyData.keyHash P (Str.ofString "rest"), .str (Str.ofString "rest") 343, .ref 131⟩, ⟨PyData.keyHash P (Str.ofString "__static_attributes__"), .str (Str.ofString "__static_attributes__") 348, .ref 132⟩] 11, #[]⟩,
   ⟨.type "tuple", none, .seq #[] 0, #[]⟩,
   ⟨.none, none, .fields #[.int 45 0, .int 4 0, .ref 90, .int 51 0, .int 4 0, .ref 97, .int 61 0, .int 4 0, .ref 104, .int 68 0, .int 4 0, .ref 111, .int 79 0, .int 4 0, .ref 118, .int 91 0, .int 4 0, .ref 125, .int 94 0, .int 4 0, .ref 130], #[]⟩,
   ⟨.type "code", none, .fields #[.str (Str.ofString "Matching") 275, .str (Str.ofString "Matching") 276, .str (Str.ofString "/claim/cut.py") 277, .int 43 0, .int 0 0, .int 0 0, .int 0 0, .int 0 0, .ref 81, .bool false, .int 181 0, .ref 82, .none, .none, .none, .none, .int 278 0, .int 43 0, .str (Str.ofString "/claim/cut.py") 279], #[]⟩,
   ⟨.type "frame", none, .plain, #[some (.ref 83), some (.ref 3), some (.ref 80), none, some (.str (Str.ofString "vectorcove.callargs") 271), none, some (.ref 0)]⟩,
   ⟨.type "tuple", none, .seq #[] 0, #[]⟩,
   ⟨.none, none, .fields #[], #[]⟩,
   ⟨.type "tuple", none, .seq #[.str (Str.ofString "self") 288, .str (Str.ofString "formals") 289, .str (Str.ofString "tags") 290] 0, #[]⟩]
noncomputable def c11 (P : Params) : List Obj :=
  [⟨.type "tuple", none, .seq #[] 0, #[]⟩,
   ⟨.none, none, .func { name := Str.ofString "__init__", qualname := Str.ofString "Matching.__init__", params := pA (stM 10 0), body := .stmts (pB (stM 10 0)), scope := pS (stM 10 0), globals := 0, closure := [], defaults := .none, kwdefaults := .none, doc := .none, pyModule := .none, annotations := none, code := .none, closureTuple := .none, builtins := 0 }, #[]⟩,
   ⟨.type "code", none, .fields #[.str (Str.ofString "__init__") 285, .str (Str.ofString "Matching.__init__") 286, .str (Str.ofString "/claim/cut.py") 287, .int 45 0, .int 3 0, .int 0 0, .int 0 0, .int 3 0, .ref 85, .bool true, .int 181 0, .ref 86, .none, .ref 87, .ref 88, .ref 89, .int 291 0, .int 45 0, .str (Str.ofString "/claim/cut.py") 292], #[]⟩,
   ⟨.type "function", none, .func { name := Str.ofString "__init__", qualname := Str.ofString "Matching.__init__", params := pA (stM 10 0), body := .stmts (pB (stM 10 0)), scope := pS (stM 10 0), globals := 3, closure := [], defaults := .none, kwdefaults := .none, doc := .none, pyModule := .str (Str.ofString "vectorcove.callargs") 271, annotations := none, code := .ref 90, closureTuple := .none, builtins := 0 }, #[]⟩,
   ⟨.type "tuple", none, .seq #[] 0, #[]⟩,
   ⟨.none, none, .fields #[], #[]⟩,
   ⟨.type "tuple", none, .seq #[.str (Str.ofString "self") 297, .str (Str.ofString "name") 298, .str (Str.ofString "place") 299] 0, #[]⟩,
   ⟨.type "tuple", none, .seq #[] 0, #[]⟩]
noncomputable def c12 (P : Params) : List Obj :=
  [⟨.none, none, .func { name := Str.ofString "exact", qualname := Str.ofString "Matching.exact", params := pA (stM 10 1), body := .stmts (pB (stM 10 1)), scope := pS (stM 10 1), globals := 0, closure := [], defaults := .none, kwdefaults := .none, doc := .none, pyModule := .none, annotations := none, code := .none, closureTuple := .none, builtins := 0 }, #[]⟩,
   ⟨.type "code", none, .fields #[.str (Str.ofString "exact") 294, .str (Str.ofString "Matching.exact") 295, .str (Str.ofString "/claim/cut.py") 296, .int 51 0, .int 1 0, .int 0 0, .int 0 0, .int 3 0, .ref 92, .bool true, .int 181 0, .ref 93, .none, .ref 94, .ref 95, .ref 96, .int 300 0, .int 51 0, .str (Str.ofString "/claim/cut.py") 301], #[]⟩,
   ⟨.type "function", none, .func { name := Str.ofString "exact", qualname := Str.ofString "Matching.exact", params := pA (stM 10 1), body := .stmts (pB (stM 10 1)), scope := pS (stM 10 1), globals := 3, closure := [], defaults := .none, kwdefaults := .none, doc := .none, pyModule := .str (Str.ofString "vectorcove.callargs") 271, annotations := none, code := .ref 97, closureTuple := .none, builtins := 0 }, #[]⟩,
   ⟨.type "tuple", none, .seq #[] 0, #[]⟩,
   ⟨.none, none, .fields #[], #[]⟩,
   ⟨.type "tuple", none, .seq #[.str (Str.ofString "self") 306, .str (Str.ofString "name") 307] 0, #[]⟩,
   ⟨.type "tuple", none, .seq #[] 0, #[]⟩,
   ⟨.none, none, .func { name := Str.ofString "partial", qualname := Str.ofString "Matching.partial", params := pA (stM 10 2), body := .stmts (pB (stM 10 2)), scope := pS (stM 10 2), globals := 0, closure := [], defaults := .none, kwdefaults := .none, doc := .none, pyModule := .none, annotations := none, code := .none, closureTuple := .none, builtins := 0 }, #[]⟩]
noncomputable def c13 (P : Params) : List Obj :=
  [⟨.type "code", none, .fields #[.str (Str.ofString "partial") 303, .str (Str.ofString "Matching.partial") 304, .str (Str.ofString "/claim/cut.py") 305, .int 61 0, .int 1 0, .int 0 0, .int 0 0, .int 3 0, .ref 99, .bool true, .int 181 0, .ref 100, .none, .ref 101, .ref 102, .ref 103, .int 308 0, .int 61 0, .str (Str.ofString "/claim/cut.py") 309], #[]⟩,
   ⟨.type "function", none, .func { name := Str.ofString "partial", qualname := Str.ofString "Matching.partial", params := pA (stM 10 2), body := .stmts (pB (stM 10 2)), scope := pS (stM 10 2), globals := 3, closure := [], defaults := .none, kwdefaults := .none, doc := .none, pyModule := .str (Str.ofString "vectorcove.callargs") 271, annotations := none, code := .ref 104, closureTuple := .none, builtins := 0 }, #[]⟩,
   ⟨.type "tuple", none, .seq #[] 0, #[]⟩,
   ⟨.none, none, .fields #[], #[]⟩,
   ⟨.type "tuple", none, .seq #[.str (Str.ofString "self") 314, .str (Str.ofString "name") 315, .str (Str.ofString "place") 316, .str (Str.ofString "tag") 317] 0, #[]⟩,
   ⟨.type "tuple", none, .seq #[] 0, #[]⟩,
   ⟨.none, none, .func { name := Str.ofString "partial_of", qualname := Str.ofString "Matching.partial_of", params := pA (stM 10 3), body := .stmts (pB (stM 10 3)), scope := pS (stM 10 3), globals := 0, closure := [], defaults := .none, kwdefaults := .none, doc := .none, pyModule := .none, annotations := none, code := .none, closureTuple := .none, builtins := 0 }, #[]⟩,
   ⟨.type "code", none, .fields #[.str (Str.ofString "partial_of") 311, .str (Str.ofString "Matching.partial_of") 312, .str (Str.ofString "/claim/cut.py") 313, .int 68 0, .int 2 0, .int 0 0, .int 0 0, .int 3 0, .ref 106, .bool true, .int 181 0, .ref 107, .none, .ref 108, .ref 109, .ref 110, .int 318 0, .int 68 0, .str (Str.ofString "/claim/cut.py") 319], #[]⟩]
noncomputable def c14 (P : Params) : List Obj :=
  [⟨.type "function", none, .func { name := Str.ofString "partial_of", qualname := Str.ofString "Matching.partial_of", params := pA (stM 10 3), body := .stmts (pB (stM 10 3)), scope := pS (stM 10 3), globals := 3, closure := [], defaults := .none, kwdefaults := .none, doc := .none, pyModule := .str (Str.ofString "vectorcove.callargs") 271, annotations := none, code := .ref 111, closureTuple := .none, builtins := 0 }, #[]⟩,
   ⟨.type "tuple", none, .seq #[] 0, #[]⟩,
   ⟨.none, none, .fields #[], #[]⟩,
   ⟨.type "tuple", none, .seq #[.str (Str.ofString "self") 324, .str (Str.ofString "place") 325, .str (Str.ofString "name") 326] 0, #[]⟩,
   ⟨.type "tuple", none, .seq #[] 0, #[]⟩,
   ⟨.none, none, .func { name := Str.ofString "positional", qualname := Str.ofString "Matching.positional", params := pA (stM 10 4), body := .stmts (pB (stM 10 4)), scope := pS (stM 10 4), globals := 0, closure := [], defaults := .none, kwdefaults := .none, doc := .none, pyModule := .none, annotations := none, code := .none, closureTuple := .none, builtins := 0 }, #[]⟩,
   ⟨.type "code", none, .fields #[.str (Str.ofString "positional") 321, .str (Str.ofString "Matching.positional") 322, .str (Str.ofString "/claim/cut.py") 323, .int 79 0, .int 1 0, .int 0 0, .int 0 0, .int 3 0, .ref 113, .bool true, .int 181 0, .ref 114, .none, .ref 115, .ref 116, .ref 117, .int 327 0, .int 79 0, .str (Str.ofString "/claim/cut.py") 328], #[]⟩,
   ⟨.type "function", none, .func { name := Str.ofString "positional", qualname := Str.ofString "Matching.positional", params := pA (stM 10 4), body := .stmts (pB (stM 10 4)), scope := pS (stM 10 4), globals := 3, closure := [], defaults := .none, kwdefaults := .none, doc := .none, pyModule := .str (Str.ofString "vectorcove.callargs") 271, annotations := none, code := .ref 118, closureTuple := .none, builtins := 0 }, #[]⟩]
noncomputable def c15 (P : Params) : List Obj :=
  [⟨.type "tuple", none, .seq #[] 0, #[]⟩,
   ⟨.none, none, .fields #[], #[]⟩,
   ⟨.type "tuple", none, .seq #[.str (Str.ofString "self") 333, .str (Str.ofString "place") 334] 0, #[]⟩,
   ⟨.type "tuple", none, .seq #[] 0, #[]⟩,
   ⟨.none, none, .func { name := Str.ofString "is_free", qualname := Str.ofString "Matching.is_free", params := pA (stM 10 5), body := .stmts (pB (stM 10 5)), scope := pS (stM 10 5), globals := 0, closure := [], defaults := .none, kwdefaults := .none, doc := .none, pyModule := .none, annotations := none, code := .none, closureTuple := .none, builtins := 0 }, #[]⟩,
   ⟨.type "code", none, .fields #[.str (Str.ofString "is_free") 330, .str (Str.ofString "Matching.is_free") 331, .str (Str.ofString "/claim/cut.py") 332, .int 91 0, .int 2 0, .int 0 0, .int 0 0, .int 3 0, .ref 120, .bool true, .int 181 0, .ref 121, .none, .ref 122, .ref 123, .ref 124, .int 335 0, .int 91 0, .str (Str.ofString "/claim/cut.py") 336], #[]⟩,
   ⟨.type "function", none, .func { name := Str.ofString "is_free", qualname := Str.ofString "Matching.is_free", params := pA (stM 10 5), body := .stmts (pB (stM 10 5)), scope := pS (stM 10 5), globals := 3, closure := [], defaults := .none, kwdefaults := .none, doc := .none, pyModule := .str (Str.ofString "vectorcove.callargs") 271, annotations := none, code := .ref 125, closureTuple := .none, builtins := 0 }, #[]⟩,
   ⟨.type "tuple", none, .seq #[] 0, #[]⟩]
noncomputable def c16 (P : Params) : List Obj :=
  [⟨.none, none, .fields #[], #[]⟩,
   ⟨.none, none, .func { name := Str.ofString "rest", qualname := Str.ofString "Matching.rest", params := pA (stM 10 6), body := .stmts (pB (stM 10 6)), scope := pS (stM 10 6), globals := 0, closure := [], defaults := .none, kwdefaults := .none, doc := .none, pyModule := .none, annotations := none, code := .none, closureTuple := .none, builtins := 0 }, #[]⟩,
   ⟨.type "code", none, .fields #[.str (Str.ofString "rest") 338, .str (Str.ofString "Matching.rest") 339, .str (Str.ofString "/claim/cut.py") 340, .int 94 0, .int 1 0, .int 0 0, .int 0 0, .int 3 0, .ref 127, .bool true, .int 181 0, .ref 128, .none, .none, .none, .ref 129, .int 341 0, .int 94 0, .str (Str.ofString "/claim/cut.py") 342], #[]⟩,
   ⟨.type "function", none, .func { name := Str.ofString "rest", qualname := Str.ofString "Matching.rest", params := pA (stM 10 6), body := .stmts (pB (stM 10 6)), scope := pS (stM 10 6), globals := 3, closure := [], defaults := .none, kwdefaults := .none, doc := .none, pyModule := .str (Str.ofString "vectorcove.callargs") 271, annotations := none, code := .ref 130, closureTuple := .none, builtins := 0 }, #[]⟩,
   ⟨.type "tuple", none, .seq #[.str (Str.ofString "formals") 344, .str (Str.ofString "places") 345, .str (Str.ofString "tags") 346, .str (Str.ofString "used") 347] 0, #[]⟩,
   ⟨.type "dict", none, .dict #[⟨PyData.keyHash P (Str.ofString "__module__"), .str (Str.ofString "__module__") 280, .str (Str.ofString "vectorcove.callargs") 271⟩, ⟨PyData.keyHash P (Str.ofString "__firstlineno__"), .str (Str.ofString "__firstlineno__") 284, .int 43 283⟩, ⟨PyData.keyHash P (Str.ofString "__init__"), .str (Str.ofString "__init__") 293, .ref 91⟩, ⟨PyData.keyHash P (Str.ofString "exact"), .str (Str.ofString "exact") 302, .ref 98⟩, ⟨PyData.keyHash P (Str.ofString "partial"), .str (Str.ofString "partial") 310, .ref 105⟩, ⟨PyData.keyHash P (Str.ofString "partial_of"), .str (Str.ofString "partial_of") 320, .ref 112⟩, ⟨PyData.keyHash P (Str.ofString "positional"), .str (Str.ofString "positional") 329, .ref 119⟩, ⟨PyData.keyHash P (Str.ofString "is_free"), .str (Str.ofString "is_free") 337, .ref 126⟩, ⟨PyData.keyHash P (Str.ofString "rest"), .str (Str.ofString "rest") 343, .ref 131⟩, ⟨PyData.keyHash P (Str.ofString "__static_attributes__"), .str (Str.ofString "__static_attributes__") 348, .ref 132⟩, ⟨PyData.keyHash P (Str.ofString "__dict__"), .str (Str.ofString "__dict__") 350, .ref 135⟩, ⟨PyData.keyHash P (Str.ofString "__weakref__"), .str (Str.ofString "__weakref__") 352, .ref 136⟩, ⟨PyData.keyHash P (Str.ofString "__doc__"), .str (Str.ofString "__doc__") 353, .none⟩] 4, #[]⟩,
   ⟨.type "type", none, .cls { name := Str.ofString "Matching", bases := [.type "object"], mro := [.ref 134, .type "object"], ns := 133, qualname := Str.ofString "Matching", hasDict := true, slotNames := [], subclasses := [], abstract := false, collection := none, hasDel := false }, #[none, none, some (.str (Str.ofString "Matching") 273), some (.str (Str.ofString "Matching") 281), some (.builtin "object.__new__"), some (.bool true)]⟩,
   ⟨.type "getset_descriptor", none, .fields #[.str (Str.ofString "__dict__") 349, .ref 134, .builtin "function.__dict__", .builtin "function.__dict__#set"], #[]⟩]
noncomputable def c17 (P : Params) : List Obj :=
  [⟨.type "getset_descriptor", none, .fields #[.str (Str.ofString "__weakref__") 351, .ref 134, .builtin "ExceptionGroup.__weakref__", .none], #[]⟩,
   ⟨.type "super", none, .fields #[.ref 134, .ref 134, .ref 134], #[]⟩,
   ⟨.type "builtin_function_or_method", none, .fields #[.builtin "object.__init_subclass__", .ref 134], #[]⟩,
   ⟨.type "tuple", none, .seq #[] 0, #[]⟩,
   ⟨.none, none, .fields #[], #[]⟩,
   ⟨.type "tuple", none, .seq #[.str (Str.ofString "name") 359] 0, #[]⟩,
   ⟨.type "tuple", none, .seq #[] 0, #[]⟩,
   ⟨.none, none, .func { name := Str.ofString "doubled_text", qualname := Str.ofString "doubled_text", params := pA (stF 11), body := .stmts (pB (stF 11)), scope := pS (stF 11), globals := 0, closure := [], defaults := .none, kwdefaults := .none, doc := .none, pyModule := .none, annotations := none, code := .none, closureTuple := .none, builtins := 0 }, #[]⟩]
noncomputable def c18 (P : Params) : List Obj :=
  [⟨.type "code", none, .fields #[.str (Str.ofString "doubled_text") 356, .str (Str.ofString "doubled_text") 357, .str (Str.ofString "/claim/cut.py") 358, .int 96 0, .int 1 0, .int 0 0, .int 0 0, .int 3 0, .ref 139, .bool true, .int 181 0, .ref 140, .none, .ref 141, .ref 142, .ref 143, .int 360 0, .int 96 0, .str (Str.ofString "/claim/cut.py") 361], #[]⟩,
   ⟨.type "function", none, .func { name := Str.ofString "doubled_text", qualname := Str.ofString "doubled_text", params := pA (stF 11), body := .stmts (pB (stF 11)), scope := pS (stF 11), globals := 3, closure := [], defaults := .none, kwdefaults := .none, doc := .none, pyModule := .str (Str.ofString "vectorcove.callargs") 271, annotations := none, code := .ref 144, closureTuple := .none, builtins := 0 }, #[]⟩,
   ⟨.type "tuple", none, .seq #[] 0, #[]⟩,
   ⟨.none, none, .fields #[], #[]⟩,
   ⟨.type "tuple", none, .seq #[.str (Str.ofString "args") 366, .str (Str.ofString "place") 367, .str (Str.ofString "show") 368, .str (Str.ofString "tag") 369, .str (Str.ofString "value") 370] 0, #[]⟩,
   ⟨.type "tuple", none, .seq #[] 0, #[]⟩,
   ⟨.none, none, .func { name := Str.ofString "argument_text", qualname := Str.ofString "argument_text", params := pA (stF 12), body := .stmts (pB (stF 12)), scope := pS (stF 12), globals := 0, closure := [], defaults := .none, kwdefaults := .none, doc := .none, pyModule := .none, annotations := none, code := .none, closureTuple := .none, builtins := 0 }, #[]⟩,
   ⟨.type "code", none, .fields #[.str (Str.ofString "argument_text") 363, .str (Str.ofString "argument_text") 364, .str (Str.ofString "/claim/cut.py") 365, .int 98 0, .int 3 0, .int 0 0, .int 0 0, .int 3 0, .ref 146, .bool true, .int 181 0, .ref 147, .none, .ref 148, .ref 149, .ref 150, .int 371 0, .int 98 0, .str (Str.ofString "/claim/cut.py") 372], #[]⟩]
noncomputable def c19 (P : Params) : List Obj :=
  [⟨.type "function", none, .func { name := Str.ofString "argument_text", qualname := Str.ofString "argument_text", params := pA (stF 12), body := .stmts (pB (stF 12)), scope := pS (stF 12), globals := 3, closure := [], defaults := .none, kwdefaults := .none, doc := .none, pyModule := .str (Str.ofString "vectorcove.callargs") 271, annotations := none, code := .ref 151, closureTuple := .none, builtins := 0 }, #[]⟩,
   ⟨.type "tuple", none, .seq #[] 0, #[]⟩,
   ⟨.none, none, .fields #[], #[]⟩,
   ⟨.none, none, .func { name := Str.ofString "unused_text", qualname := Str.ofString "unused_text", params := pA (stF 13), body := .stmts (pB (stF 13)), scope := pS (stF 13), globals := 0, closure := [], defaults := .none, kwdefaults := .none, doc := .none, pyModule := .none, annotations := none, code := .none, closureTuple := .none, builtins := 0 }, #[]⟩,
   ⟨.type "code", none, .fields #[.str (Str.ofString "unused_text") 374, .str (Str.ofString "unused_text") 375, .str (Str.ofString "/claim/cut.py") 376, .int 107 0, .int 3 0, .int 0 0, .int 0 0, .int 3 0, .ref 153, .bool true, .int 181 0, .ref 154, .none, .none, .none, .ref 155, .int 377 0, .int 107 0, .str (Str.ofString "/claim/cut.py") 378], #[]⟩,
   ⟨.type "function", none, .func { name := Str.ofString "unused_text", qualname := Str.ofString "unused_text", params := pA (stF 13), body := .stmts (pB (stF 13)), scope := pS (stF 13), globals := 3, closure := [], defaults := .none, kwdefaults := .none, doc := .none, pyModule := .str (Str.ofString "vectorcove.callargs") 271, annotations := none, code := .ref 156, closureTuple := .none, builtins := 0 }, #[]⟩,
   ⟨.type "tuple", none, .seq #[.none] 0, #[]⟩,
   ⟨.type "tuple", none, .seq #[] 0, #[]⟩]
noncomputable def c20 (P : Params) : List Obj :=
  [⟨.none, none, .fields #[], #[]⟩,
   ⟨.none, none, .func { name := Str.ofString "match_names", qualname := Str.ofString "match_names", params := pA (stF 14), body := .stmts (pB (stF 14)), scope := pS (stF 14), globals := 0, closure := [], defaults := .none, kwdefaults := .none, doc := .none, pyModule := .none, annotations := none, code := .none, closureTuple := .none, builtins := 0 }, #[]⟩,
   ⟨.type "code", none, .fields #[.str (Str.ofString "match_names") 380, .str (Str.ofString "match_names") 381, .str (Str.ofString "/claim/cut.py") 382, .int 113 0, .int 3 0, .int 0 0, .int 0 0, .int 3 0, .ref 159, .bool true, .int 181 0, .ref 160, .none, .none, .none, .ref 161, .int 383 0, .int 113 0, .str (Str.ofString "/claim/cut.py") 384], #[]⟩,
   ⟨.type "function", none, .func { name := Str.ofString "match_names", qualname := Str.ofString "match_names", params := pA (stF 14), body := .stmts (pB (stF 14)), scope := pS (stF 14), globals := 3, closure := [], defaults := .ref 158, kwdefaults := .none, doc := .none, pyModule := .str (Str.ofString "vectorcove.callargs") 271, annotations := none, code := .ref 162, closureTuple := .none, builtins := 0 }, #[]⟩,
   ⟨.type "tuple", none, .seq #[.none] 0, #[]⟩,
   ⟨.type "tuple", none, .seq #[] 0, #[]⟩,
   ⟨.none, none, .fields #[], #[]⟩,
   ⟨.none, none, .func { name := Str.ofString "take", qualname := Str.ofString "take", params := pA (stF 15), body := .stmts (pB (stF 15)), scope := pS (stF 15), globals := 0, closure := [], defaults := .none, kwdefaults := .none, doc := .none, pyModule := .none, annotations := none, code := .none, closureTuple := .none, builtins := 0 }, #[]⟩]
noncomputable def c21 (P : Params) : List Obj :=
  [⟨.type "code", none, .fields #[.str (Str.ofString "take") 386, .str (Str.ofString "take") 387, .str (Str.ofString "/claim/cut.py") 388, .int 122 0, .int 3 0, .int 0 0, .int 0 0, .int 3 0, .ref 165, .bool true, .int 181 0, .ref 166, .none, .none, .none, .ref 167, .int 389 0, .int 122 0, .str (Str.ofString "/claim/cut.py") 390], #[]⟩,
   ⟨.type "function", none, .func { name := Str.ofString "take", qualname := Str.ofString "take", params := pA (stF 15), body := .stmts (pB (stF 15)), scope := pS (stF 15), globals := 3, closure := [], defaults := .ref 164, kwdefaults := .none, doc := .none, pyModule := .str (Str.ofString "vectorcove.callargs") 271, annotations := none, code := .ref 168, closureTuple := .none, builtins := 0 }, #[]⟩,
   ⟨.type "tuple", none, .seq #[] 0, #[]⟩,
   ⟨.type "builtin_function_or_method", none, .fields #[.builtin "type.__prepare__", .type "type"], #[]⟩,
   ⟨.type "dict", none, .dict #[⟨PyData.keyHash P (Str.ofString "__module__"), .str (Str.ofString "__module__") 401, .str (Str.ofString "vectorcove.values") 392⟩, ⟨PyData.keyHash P (Str.ofString "__qualname__"), .str (Str.ofString "__qualname__") 403, .str (Str.ofString "Null") 402⟩, ⟨PyData.keyHash P (Str.ofString "__firstlineno__"), .str (Str.ofString "__firstlineno__") 405, .int 134 404⟩, ⟨PyData.keyHash P (Str.ofString "__init__"), .str (Str.ofString "__init__") 412, .ref 183⟩, ⟨PyData.keyHash P (Str.ofString "__static_attributes__"), .str (Str.ofString "__static_attributes__") 415, .ref 184⟩] 5, #[]⟩,
   ⟨.type "tuple", none, .seq #[] 0, #[]⟩,
   ⟨.none, none, .fields #[.int 136 0, .int 4 0, .ref 182], #[]⟩,
   ⟨.type "code", none, .fields #[.str (Str.ofString "Null") 396, .str (Str.ofString "Null") 397, .str (Str.ofString "/claim/cut.py") 398, .int 134 0, .int 0 0, .int 0 0, .int 0 0, .int 0 0, .ref 173, .bool false, .int 181 0, .ref 174, .none, .none, .none, .none, .int 399 0, .int 134 0, .str (Str.ofString "/claim/cut.py") 400], #[]⟩]
noncomputable def c22 (P : Params) : List Obj :=
  [⟨.type "frame", none, .plain, #[some (.ref 175), some (.ref 3), some (.ref 172), none, some (.str (Str.ofString "vectorcove.values") 392), none, some (.ref 0)]⟩,
   ⟨.type "tuple", none, .seq #[] 0, #[]⟩,
   ⟨.none, none, .fields #[], #[]⟩,
   ⟨.type "tuple", none, .seq #[.str (Str.ofString "self") 409] 0, #[]⟩,
   ⟨.type "tuple", none, .seq #[] 0, #[]⟩,
   ⟨.none, none, .func { name := Str.ofString "__init__", qualname := Str.ofString "Null.__init__", params := pA (stM 17 0), body := .stmts (pB (stM 17 0)), scope := pS (stM 17 0), globals := 0, closure := [], defaults := .none, kwdefaults := .none, doc := .none, pyModule := .none, annotations := none, code := .none, closureTuple := .none, builtins := 0 }, #[]⟩,
   ⟨.type "code", none, .fields #[.str (Str.ofString "__init__") 406, .str (Str.ofString "Null.__init__") 407, .str (Str.ofString "/claim/cut.py") 408, .int 136 0, .int 1 0, .int 0 0, .int 0 0, .int 3 0, .ref 177, .bool true, .int 181 0, .ref 178, .none, .ref 179, .ref 180, .ref 181, .int 410 0, .int 136 0, .str (Str.ofString "/claim/cut.py") 411], #[]⟩,
   ⟨.type "function", none, .func { name := Str.ofString "__init__", qualname := Str.ofString "Null.__init__", params := pA (stM 17 0), body := .stmts (pB (stM 17 0)), scope := pS (stM 17 0), globals := 3, closure := [], defaults := .none, kwdefaults := .none, doc := .none, pyModule := .str (Str.ofString "vectorcove.values") 392, annotations := none, code := .ref 182, closureTuple := .none, builtins := 0 }, #[]⟩]
noncomputable def c23 (P : Params) : List Obj :=
  [⟨.type "tuple", none, .seq #[.str (Str.ofString "attrs") 413, .str (Str.ofString "kind") 414] 0, #[]⟩,
   ⟨.type "dict", none, .dict #[⟨PyData.keyHash P (Str.ofString "__module__"), .str (Str.ofString "__module__") 401, .str (Str.ofString "vectorcove.values") 392⟩, ⟨PyData.keyHash P (Str.ofString "__firstlineno__"), .str (Str.ofString "__firstlineno__") 405, .int 134 404⟩, ⟨PyData.keyHash P (Str.ofString "__init__"), .str (Str.ofString "__init__") 412, .ref 183⟩, ⟨PyData.keyHash P (Str.ofString "__static_attributes__"), .str (Str.ofString "__static_attributes__") 415, .ref 184⟩, ⟨PyData.keyHash P (Str.ofString "__dict__"), .str (Str.ofString "__dict__") 417, .ref 187⟩, ⟨PyData.keyHash P (Str.ofString "__weakref__"), .str (Str.ofString "__weakref__") 419, .ref 188⟩, ⟨PyData.keyHash P (Str.ofString "__doc__"), .str (Str.ofString "__doc__") 420, .none⟩] 4, #[]⟩,
   ⟨.type "type", none, .cls { name := Str.ofString "Null", bases := [.type "object"], mro := [.ref 186, .type "object"], ns := 185, qualname := Str.ofString "Null", hasDict := true, slotNames := [], subclasses := [], abstract := false, collection := none, hasDel := false }, #[none, none, some (.str (Str.ofString "Null") 394), some (.str (Str.ofString "Null") 402), some (.builtin "object.__new__"), some (.bool true)]⟩,
   ⟨.type "getset_descriptor", none, .fields #[.str (Str.ofString "__dict__") 416, .ref 186, .builtin "function.__dict__", .builtin "function.__dict__#set"], #[]⟩,
   ⟨.type "getset_descriptor", none, .fields #[.str (Str.ofString "__weakref__") 418, .ref 186, .builtin "ExceptionGroup.__weakref__", .none], #[]⟩,
   ⟨.type "super", none, .fields #[.ref 186, .ref 186, .ref 186], #[]⟩,
   ⟨.type "builtin_function_or_method", none, .fields #[.builtin "object.__init_subclass__", .ref 186], #[]⟩,
   ⟨.type "tuple", none, .seq #[] 0, #[]⟩]
noncomputable def c24 (P : Params) : List Obj :=
  [⟨.type "builtin_function_or_method", none, .fields #[.builtin "type.__prepare__", .type "type"], #[]⟩,
   ⟨.type "dict", none, .dict #[⟨PyData.keyHash P (Str.ofString "__module__"), .str (Str.ofString "__module__") 430, .str (Str.ofString "vectorcove.values") 392⟩, ⟨PyData.keyHash P (Str.ofString "__qualname__"), .str (Str.ofString "__qualname__") 432, .str (Str.ofString "Missing") 431⟩, ⟨PyData.keyHash P (Str.ofString "__firstlineno__"), .str (Str.ofString "__firstlineno__") 434, .int 139 433⟩, ⟨PyData.keyHash P (Str.ofString "__init__"), .str (Str.ofString "__init__") 441, .ref 204⟩, ⟨PyData.keyHash P (Str.ofString "__static_attributes__"), .str (Str.ofString "__static_attributes__") 444, .ref 205⟩] 5, #[]⟩,
   ⟨.type "tuple", none, .seq #[] 0, #[]⟩,
   ⟨.none, none, .fields #[.int 141 0, .int 4 0, .ref 203], #[]⟩,
   ⟨.type "code", none, .fields #[.str (Str.ofString "Missing") 425, .str (Str.ofString "Missing") 426, .str (Str.ofString "/claim/cut.py") 427, .int 139 0, .int 0 0, .int 0 0, .int 0 0, .int 0 0, .ref 194, .bool false, .int 181 0, .ref 195, .none, .none, .none, .none, .int 428 0, .int 139 0, .str (Str.ofString "/claim/cut.py") 429], #[]⟩,
   ⟨.type "frame", none, .plain, #[some (.ref 196), some (.ref 3), some (.ref 193), none, some (.str (Str.ofString "vectorcove.values") 392), none, some (.ref 0)]⟩,
   ⟨.type "tuple", none, .seq #[] 0, #[]⟩,
   ⟨.none, none, .fields #[], #[]⟩]
noncomputable def c25 (P : Params) : List Obj :=
  [⟨.type "tuple", none, .seq #[.str (Str.ofString "self") 438] 0, #[]⟩,
   ⟨.type "tuple", none, .seq #[] 0, #[]⟩,
   ⟨.none, none, .func { name := Str.ofString "__init__", qualname := Str.ofString "Missing.__init__", params := pA (stM 18 0), body := .stmts (pB (stM 18 0)), scope := pS (stM 18 0), globals := 0, closure := [], defaults := .none, kwdefaults := .none, doc := .none, pyModule := .none, annotations := none, code := .none, closureTuple := .none, builtins := 0 }, #[]⟩,
   ⟨.type "code", none, .fields #[.str (Str.ofString "__init__") 435, .str (Str.ofString "Missing.__init__") 436, .str (Str.ofString "/claim/cut.py") 437, .int 141 0, .int 1 0, .int 0 0, .int 0 0, .int 3 0, .ref 198, .bool true, .int 181 0, .ref 199, .none, .ref 200, .ref 201, .ref 202, .int 439 0, .int 141 0, .str (Str.ofString "/claim/cut.py") 440], #[]⟩,
   ⟨.type "function", none, .func { name := Str.ofString "__init__", qualname := Str.ofString "Missing.__init__", params := pA (stM 18 0), body := .stmts (pB (stM 18 0)), scope := pS (stM 18 0), globals := 3, closure := [], defaults := .none, kwdefaults := .none, doc := .none, pyModule := .str (Str.ofString "vectorcove.values") 392, annotations := none, code := .ref 203, closureTuple := .none, builtins := 0 }, #[]⟩,
   ⟨.type "tuple", none, .seq #[.str (Str.ofString "attrs") 442, .str (Str.ofString "kind") 443] 0, #[]⟩,
   ⟨.type "dict", none, .dict #[⟨PyData.keyHash P (Str.ofString "__module__"), .str (Str.ofString "__module__") 430, .str (Str.ofString "vectorcove.values") 392⟩, ⟨PyData.keyHash P (Str.ofString "__firstlineno__"), .str (Str.ofString "__firstlineno__") 434, .int 139 433⟩, ⟨PyData.keyHash P (Str.ofString "__init__"), .str (Str.ofString "__init__") 441, .ref 204⟩, ⟨PyData.keyHash P (Str.ofString "__static_attributes__"), .str (Str.ofString "__static_attributes__") 444, .ref 205⟩, ⟨PyData.keyHash P (Str.ofString "__dict__"), .str (Str.ofString "__dict__") 446, .ref 208⟩, ⟨PyData.keyHash P (Str.ofString "__weakref__"), .str (Str.ofString "__weakref__") 448, .ref 209⟩, ⟨PyData.keyHash P (Str.ofString "__doc__"), .str (Str.ofString "__doc__") 449, .none⟩] 4, #[]⟩,
   ⟨.type "type", none, .cls { name := Str.ofString "Missing", bases := [.type "object"], mro := [.ref 207, .type "object"], ns := 206, qualname := Str.ofString "Missing", hasDict := true, slotNames := [], subclasses := [], abstract := false, collection := none, hasDel := false }, #[none, none, some (.str (Str.ofString "Missing") 423), some (.str (Str.ofString "Missing") 431), some (.builtin "object.__new__"), some (.bool true)]⟩]
noncomputable def c26 (P : Params) : List Obj :=
  [⟨.type "getset_descriptor", none, .fields #[.str (Str.ofString "__dict__") 445, .ref 207, .builtin "function.__dict__", .builtin "function.__dict__#set"], #[]⟩,
   ⟨.type "getset_descriptor", none, .fields #[.str (Str.ofString "__weakref__") 447, .ref 207, .builtin "ExceptionGroup.__weakref__", .none], #[]⟩,
   ⟨.type "super", none, .fields #[.ref 207, .ref 207, .ref 207], #[]⟩,
   ⟨.type "builtin_function_or_method", none, .fields #[.builtin "object.__init_subclass__", .ref 207], #[]⟩,
   ⟨.type "tuple", none, .seq #[] 0, #[]⟩,
   ⟨.type "builtin_function_or_method", none, .fields #[.builtin "type.__prepare__", .type "type"], #[]⟩,
   ⟨.type "dict", none, .dict #[⟨PyData.keyHash P (Str.ofString "__module__"), .str (Str.ofString "__module__") 459, .str (Str.ofString "vectorcove.values") 392⟩, ⟨PyData.keyHash P (Str.ofString "__qualname__"), .str (Str.ofString "__qualname__") 461, .str (Str.ofString "Vector") 460⟩, ⟨PyData.keyHash P (Str.ofString "__firstlineno__"), .str (Str.ofString "__firstlineno__") 463, .int 144 462⟩, ⟨PyData.keyHash P (Str.ofString "__init__"), .str (Str.ofString "__init__") 473, .ref 226⟩, ⟨PyData.keyHash P (Str.ofString "copy"), .str (Str.ofString "copy") 480, .ref 233⟩, ⟨PyData.keyHash P (Str.ofString "__static_attributes__"), .str (Str.ofString "__static_attributes__") 486, .ref 234⟩] 6, #[]⟩,
   ⟨.type "tuple", none, .seq #[] 0, #[]⟩]
noncomputable def c27 (P : Params) : List Obj :=
  [⟨.none, none, .fields #[.int 146 0, .int 4 0, .ref 225, .int 153 0, .int 4 0, .ref 232], #[]⟩,
   ⟨.type "code", none, .fields #[.str (Str.ofString "Vector") 454, .str (Str.ofString "Vector") 455, .str (Str.ofString "/claim/cut.py") 456, .int 144 0, .int 0 0, .int 0 0, .int 0 0, .int 0 0, .ref 215, .bool false, .int 181 0, .ref 216, .none, .none, .none, .none, .int 457 0, .int 144 0, .str (Str.ofString "/claim/cut.py") 458], #[]⟩,
   ⟨.type "frame", none, .plain, #[some (.ref 217), some (.ref 3), some (.ref 214), none, some (.str (Str.ofString "vectorcove.values") 392), none, some (.ref 0)]⟩,
   ⟨.type "tuple", none, .seq #[.none] 0, #[]⟩,
   ⟨.type "tuple", none, .seq #[] 0, #[]⟩,
   ⟨.none, none, .fields #[], #[]⟩,
   ⟨.type "tuple", none, .seq #[.str (Str.ofString "self") 467, .str (Str.ofString "kind") 468, .str (Str.ofString "items") 469, .str (Str.ofString "attrs") 470] 0, #[]⟩,
   ⟨.type "tuple", none, .seq #[] 0, #[]⟩]
noncomputable def c28 (P : Params) : List Obj :=
  [⟨.none, none, .func { name := Str.ofString "__init__", qualname := Str.ofString "Vector.__init__", params := pA (stM 19 0), body := .stmts (pB (stM 19 0)), scope := pS (stM 19 0), globals := 0, closure := [], defaults := .none, kwdefaults := .none, doc := .none, pyModule := .none, annotations := none, code := .none, closureTuple := .none, builtins := 0 }, #[]⟩,
   ⟨.type "code", none, .fields #[.str (Str.ofString "__init__") 464, .str (Str.ofString "Vector.__init__") 465, .str (Str.ofString "/claim/cut.py") 466, .int 146 0, .int 4 0, .int 0 0, .int 0 0, .int 3 0, .ref 220, .bool true, .int 181 0, .ref 221, .none, .ref 222, .ref 223, .ref 224, .int 471 0, .int 146 0, .str (Str.ofString "/claim/cut.py") 472], #[]⟩,
   ⟨.type "function", none, .func { name := Str.ofString "__init__", qualname := Str.ofString "Vector.__init__", params := pA (stM 19 0), body := .stmts (pB (stM 19 0)), scope := pS (stM 19 0), globals := 3, closure := [], defaults := .ref 219, kwdefaults := .none, doc := .none, pyModule := .str (Str.ofString "vectorcove.values") 392, annotations := none, code := .ref 225, closureTuple := .none, builtins := 0 }, #[]⟩,
   ⟨.type "tuple", none, .seq #[] 0, #[]⟩,
   ⟨.none, none, .fields #[], #[]⟩,
   ⟨.type "tuple", none, .seq #[.str (Str.ofString "self") 477] 0, #[]⟩,
   ⟨.type "tuple", none, .seq #[] 0, #[]⟩,
   ⟨.none, none, .func { name := Str.ofString "copy", qualname := Str.ofString "Vector.copy", params := pA (stM 19 1), body := .stmts (pB (stM 19 1)), scope := pS (stM 19 1), globals := 0, closure := [], defaults := .none, kwdefaults := .none, doc := .none, pyModule := .none, annotations := none, code := .none, closureTuple := .none, builtins := 0 }, #[]⟩]
noncomputable def c29 (P : Params) : List Obj :=
  [⟨.type "code", none, .fields #[.str (Str.ofString "copy") 474, .str (Str.ofString "Vector.copy") 475, .str (Str.ofString "/claim/cut.py") 476, .int 153 0, .int 1 0, .int 0 0, .int 0 0, .int 3 0, .ref 227, .bool true, .int 181 0, .ref 228, .none, .ref 229, .ref 230, .ref 231, .int 478 0, .int 153 0, .str (Str.ofString "/claim/cut.py") 479], #[]⟩,
   ⟨.type "function", none, .func { name := Str.ofString "copy", qualname := Str.ofString "Vector.copy", params := pA (stM 19 1), body := .stmts (pB (stM 19 1)), scope := pS (stM 19 1), globals := 3, closure := [], defaults := .none, kwdefaults := .none, doc := .none, pyModule := .str (Str.ofString "vectorcove.values") 392, annotations := none, code := .ref 232, closureTuple := .none, builtins := 0 }, #[]⟩,
   ⟨.type "tuple", none, .seq #[.str (Str.ofString "attrs") 481, .str (Str.ofString "items") 482, .str (Str.ofString "kind") 483, .str (Str.ofString "loose") 484, .str (Str.ofString "shared") 485] 0, #[]⟩,
   ⟨.type "dict", none, .dict #[⟨PyData.keyHash P (Str.ofString "__module__"), .str (Str.ofString "__module__") 459, .str (Str.ofString "vectorcove.values") 392⟩, ⟨PyData.keyHash P (Str.ofString "__firstlineno__"), .str (Str.ofString "__firstlineno__") 463, .int 144 462⟩, ⟨PyData.keyHash P (Str.ofString "__init__"), .str (Str.ofString "__init__") 473, .ref 226⟩, ⟨PyData.keyHash P (Str.ofString "copy"), .str (Str.ofString "copy") 480, .ref 233⟩, ⟨PyData.keyHash P (Str.ofString "__static_attributes__"), .str (Str.ofString "__static_attributes__") 486, .ref 234⟩, ⟨PyData.keyHash P (Str.ofString "__dict__"), .str (Str.ofString "__dict__") 488, .ref 237⟩, ⟨PyData.keyHash P (Str.ofString "__weakref__"), .str (Str.ofString "__weakref__") 490, .ref 238⟩, ⟨PyData.keyHash P (Str.ofString "__doc__"), .str (Str.ofString "__doc__") 491, .none⟩] 4, #[]⟩,
   ⟨.type "type", none, .cls { name := Str.ofString "Vector", bases := [.type "object"], mro := [.ref 236, .type "object"], ns := 235, qualname := Str.ofString "Vector", hasDict := true, slotNames := [], subclasses := [], abstract := false, collection := none, hasDel := false }, #[none, none, some (.str (Str.ofString "Vector") 452), some (.str (Str.ofString "Vector") 460), some (.builtin "object.__new__"), some (.bool true)]⟩,
   ⟨.type "getset_descriptor", none, .fields #[.str (Str.ofString "__dict__") 487, .ref 236, .builtin "function.__dict__", .builtin "function.__dict__#set"], #[]⟩,
   ⟨.type "getset_descriptor", none, .fields #[.str (Str.ofString "__weakref__") 489, .ref 236, .builtin "ExceptionGroup.__weakref__", .none], #[]⟩,
   ⟨.type "super", none, .fields #[.ref 236, .ref 236, .ref 236], #[]⟩]
noncomputable def c30 (P : Params) : List Obj :=
  [⟨.type "builtin_function_or_method", none, .fields #[.builtin "object.__init_subclass__", .ref 236], #[]⟩,
   ⟨.type "tuple", none, .seq #[] 0, #[]⟩,
   ⟨.type "builtin_function_or_method", none, .fields #[.builtin "type.__prepare__", .type "type"], #[]⟩,
   ⟨.type "dict", none, .dict #[⟨PyData.keyHash P (Str.ofString "__module__"), .str (Str.ofString "__module__") 501, .str (Str.ofString "vectorcove.values") 392⟩, ⟨PyData.keyHash P (Str.ofString "__qualname__"), .str (Str.ofString "__qualname__") 503, .str (Str.ofString "Symbol") 502⟩, ⟨PyData.keyHash P (Str.ofString "__firstlineno__"), .str (Str.ofString "__firstlineno__") 505, .int 155 504⟩, ⟨PyData.keyHash P (Str.ofString "__init__"), .str (Str.ofString "__init__") 513, .ref 254⟩, ⟨PyData.keyHash P (Str.ofString "__static_attributes__"), .str (Str.ofString "__static_attributes__") 517, .ref 255⟩] 5, #[]⟩,
   ⟨.type "tuple", none, .seq #[] 0, #[]⟩,
   ⟨.none, none, .fields #[.int 157 0, .int 4 0, .ref 253], #[]⟩,
   ⟨.type "code", none, .fields #[.str (Str.ofString "Symbol") 496, .str (Str.ofString "Symbol") 497, .str (Str.ofString "/claim/cut.py") 498, .int 155 0, .int 0 0, .int 0 0, .int 0 0, .int 0 0, .ref 244, .bool false, .int 181 0, .ref 245, .none, .none, .none, .none, .int 499 0, .int 155 0, .str (Str.ofString "/claim/cut.py") 500], #[]⟩,
   ⟨.type "frame", none, .plain, #[some (.ref 246), some (.ref 3), some (.ref 243), none, some (.str (Str.ofString "vectorcove.values") 392), none, some (.ref 0)]⟩]
noncomputable def c31 (P : Params) : List Obj :=
  [⟨.type "tuple", none, .seq #[] 0, #[]⟩,
   ⟨.none, none, .fields #[], #[]⟩,
   ⟨.type "tuple", none, .seq #[.str (Str.ofString "self") 509, .str (Str.ofString "name") 510] 0, #[]⟩,
   ⟨.type "tuple", none, .seq #[] 0, #[]⟩,
   ⟨.none, none, .func { name := Str.ofString "__init__", qualname := Str.ofString "Symbol.__init__", params := pA (stM 20 0), body := .stmts (pB (stM 20 0)), scope := pS (stM 20 0), globals := 0, closure := [], defaults := .none, kwdefaults := .none, doc := .none, pyModule := .none, annotations := none, code := .none, closureTuple := .none, builtins := 0 }, #[]⟩,
   ⟨.type "code", none, .fields #[.str (Str.ofString "__init__") 506, .str (Str.ofString "Symbol.__init__") 507, .str (Str.ofString "/claim/cut.py") 508, .int 157 0, .int 2 0, .int 0 0, .int 0 0, .int 3 0, .ref 248, .bool true, .int 181 0, .ref 249, .none, .ref 250, .ref 251, .ref 252, .int 511 0, .int 157 0, .str (Str.ofString "/claim/cut.py") 512], #[]⟩,
   ⟨.type "function", none, .func { name := Str.ofString "__init__", qualname := Str.ofString "Symbol.__init__", params := pA (stM 20 0), body := .stmts (pB (stM 20 0)), scope := pS (stM 20 0), globals := 3, closure := [], defaults := .none, kwdefaults := .none, doc := .none, pyModule := .str (Str.ofString "vectorcove.values") 392, annotations := none, code := .ref 253, closureTuple := .none, builtins := 0 }, #[]⟩,
   ⟨.type "tuple", none, .seq #[.str (Str.ofString "attrs") 514, .str (Str.ofString "kind") 515, .str (Str.ofString "name") 516] 0, #[]⟩]
noncomputable def c32 (P : Params) : List Obj :=
  [⟨.type "dict", none, .dict #[⟨PyData.keyHash P (Str.ofString "__module__"), .str (Str.ofString "__module__") 501, .str (Str.ofString "vectorcove.values") 392⟩, ⟨PyData.keyHash P (Str.ofString "__firstlineno__"), .str (Str.ofString "__firstlineno__") 505, .int 155 504⟩, ⟨PyData.keyHash P (Str.ofString "__init__"), .str (Str.ofString "__init__") 513, .ref 254⟩, ⟨PyData.keyHash P (Str.ofString "__static_attributes__"), .str (Str.ofString "__static_attributes__") 517, .ref 255⟩, ⟨PyData.keyHash P (Str.ofString "__dict__"), .str (Str.ofString "__dict__") 519, .ref 258⟩, ⟨PyData.keyHash P (Str.ofString "__weakref__"), .str (Str.ofString "__weakref__") 521, .ref 259⟩, ⟨PyData.keyHash P (Str.ofString "__doc__"), .str (Str.ofString "__doc__") 522, .none⟩] 4, #[]⟩,
   ⟨.type "type", none, .cls { name := Str.ofString "Symbol", bases := [.type "object"], mro := [.ref 257, .type "object"], ns := 256, qualname := Str.ofString "Symbol", hasDict := true, slotNames := [], subclasses := [], abstract := false, collection := none, hasDel := false }, #[none, none, some (.str (Str.ofString "Symbol") 494), some (.str (Str.ofString "Symbol") 502), some (.builtin "object.__new__"), some (.bool true)]⟩,
   ⟨.type "getset_descriptor", none, .fields #[.str (Str.ofString "__dict__") 518, .ref 257, .builtin "function.__dict__", .builtin "function.__dict__#set"], #[]⟩,
   ⟨.type "getset_descriptor", none, .fields #[.str (Str.ofString "__weakref__") 520, .ref 257, .builtin "ExceptionGroup.__weakref__", .none], #[]⟩,
   ⟨.type "super", none, .fields #[.ref 257, .ref 257, .ref 257], #[]⟩,
   ⟨.type "builtin_function_or_method", none, .fields #[.builtin "object.__init_subclass__", .ref 257], #[]⟩,
   ⟨.type "tuple", none, .seq #[] 0, #[]⟩,
   ⟨.type "builtin_function_or_method", none, .fields #[.builtin "type.__prepare__", .type "type"], #[]⟩]
noncomputable def c33 (P : Params) : List Obj :=
  [⟨.type "dict", none, .dict #[⟨PyData.keyHash P (Str.ofString "__module__"), .str (Str.ofString "__module__") 532, .str (Str.ofString "vectorcove.values") 392⟩, ⟨PyData.keyHash P (Str.ofString "__qualname__"), .str (Str.ofString "__qualname__") 534, .str (Str.ofString "Call") 533⟩, ⟨PyData.keyHash P (Str.ofString "__firstlineno__"), .str (Str.ofString "__firstlineno__") 536, .int 161 535⟩, ⟨PyData.keyHash P (Str.ofString "__init__"), .str (Str.ofString "__init__") 546, .ref 276⟩, ⟨PyData.keyHash P (Str.ofString "__static_attributes__"), .str (Str.ofString "__static_attributes__") 552, .ref 277⟩] 5, #[]⟩,
   ⟨.type "tuple", none, .seq #[] 0, #[]⟩,
   ⟨.none, none, .fields #[.int 163 0, .int 4 0, .ref 275], #[]⟩,
   ⟨.type "code", none, .fields #[.str (Str.ofString "Call") 527, .str (Str.ofString "Call") 528, .str (Str.ofString "/claim/cut.py") 529, .int 161 0, .int 0 0, .int 0 0, .int 0 0, .int 0 0, .ref 265, .bool false, .int 181 0, .ref 266, .none, .none, .none, .none, .int 530 0, .int 161 0, .str (Str.ofString "/claim/cut.py") 531], #[]⟩,
   ⟨.type "frame", none, .plain, #[some (.ref 267), some (.ref 3), some (.ref 264), none, some (.str (Str.ofString "vectorcove.values") 392), none, some (.ref 0)]⟩,
   ⟨.type "tuple", none, .seq #[.none] 0, #[]⟩,
   ⟨.type "tuple", none, .seq #[] 0, #[]⟩,
   ⟨.none, none, .fields #[], #[]⟩]
noncomputable def c34 (P : Params) : List Obj :=
  [⟨.type "tuple", none, .seq #[.str (Str.ofString "self") 540, .str (Str.ofString "items") 541, .str (Str.ofString "tags") 542, .str (Str.ofString "attrs") 543] 0, #[]⟩,
   ⟨.type "tuple", none, .seq #[] 0, #[]⟩,
   ⟨.none, none, .func { name := Str.ofString "__init__", qualname := Str.ofString "Call.__init__", params := pA (stM 21 0), body := .stmts (pB (stM 21 0)), scope := pS (stM 21 0), globals := 0, closure := [], defaults := .none, kwdefaults := .none, doc := .none, pyModule := .none, annotations := none, code := .none, closureTuple := .none, builtins := 0 }, #[]⟩,
   ⟨.type "code", none, .fields #[.str (Str.ofString "__init__") 537, .str (Str.ofString "Call.__init__") 538, .str (Str.ofString "/claim/cut.py") 539, .int 163 0, .int 4 0, .int 0 0, .int 0 0, .int 3 0, .ref 270, .bool true, .int 181 0, .ref 271, .none, .ref 272, .ref 273, .ref 274, .int 544 0, .int 163 0, .str (Str.ofString "/claim/cut.py") 545], #[]⟩,
   ⟨.type "function", none, .func { name := Str.ofString "__init__", qualname := Str.ofString "Call.__init__", params := pA (stM 21 0), body := .stmts (pB (stM 21 0)), scope := pS (stM 21 0), globals := 3, closure := [], defaults := .ref 269, kwdefaults := .none, doc := .none, pyModule := .str (Str.ofString "vectorcove.values") 392, annotations := none, code := .ref 275, closureTuple := .none, builtins := 0 }, #[]⟩,
   ⟨.type "tuple", none, .seq #[.str (Str.ofString "attrs") 547, .str (Str.ofString "code") 548, .str (Str.ofString "items") 549, .str (Str.ofString "kind") 550, .str (Str.ofString "tags") 551] 0, #[]⟩,
   ⟨.type "dict", none, .dict #[⟨PyData.keyHash P (Str.ofString "__module__"), .str (Str.ofString "__module__") 532, .str (Str.ofString "vectorcove.values") 392⟩, ⟨PyData.keyHash P (Str.ofString "__firstlineno__"), .str (Str.ofString "__firstlineno__") 536, .int 161 535⟩, ⟨PyData.keyHash P (Str.ofString "__init__"), .str (Str.ofString "__init__") 546, .ref 276⟩, ⟨PyData.keyHash P (Str.ofString "__static_attributes__"), .str (Str.ofString "__static_attributes__") 552, .ref 277⟩, ⟨PyData.keyHash P (Str.ofString "__dict__"), .str (Str.ofString "__dict__") 554, .ref 280⟩, ⟨PyData.keyHash P (Str.ofString "__weakref__"), .str (Str.ofString "__weakref__") 556, .ref 281⟩, ⟨PyData.keyHash P (Str.ofString "__doc__"), .str (Str.ofString "__doc__") 557, .none⟩] 4, #[]⟩,
   ⟨.type "type", none, .cls { name := Str.ofString "Call", bases := [.type "object"], mro := [.ref 279, .type "object"], ns := 278, qualname := Str.ofString "Call", hasDict := true, slotNames := [], subclasses := [], abstract := false, collection := none, hasDel := false }, #[none, none, some (.str (Str.ofString "Call") 525), some (.str (Str.ofString "Call") 533), some (.builtin "object.__new__"), some (.bool true)]⟩]
noncomputable def c35 (P : Params) : List Obj :=
  [⟨.type "getset_descriptor", none, .fields #[.str (Str.ofString "__dict__") 553, .ref 279, .builtin "function.__dict__", .builtin "function.__dict__#set"], #[]⟩,
   ⟨.type "getset_descriptor", none, .fields #[.str (Str.ofString "__weakref__") 555, .ref 279, .builtin "ExceptionGroup.__weakref__", .none], #[]⟩,
   ⟨.type "super", none, .fields #[.ref 279, .ref 279, .ref 279], #[]⟩,
   ⟨.type "builtin_function_or_method", none, .fields #[.builtin "object.__init_subclass__", .ref 279], #[]⟩,
   ⟨.type "tuple", none, .seq #[] 0, #[]⟩,
   ⟨.type "builtin_function_or_method", none, .fields #[.builtin "type.__prepare__", .type "type"], #[]⟩,
   ⟨.type "dict", none, .dict #[⟨PyData.keyHash P (Str.ofString "__module__"), .str (Str.ofString "__module__") 567, .str (Str.ofString "vectorcove.values") 392⟩, ⟨PyData.keyHash P (Str.ofString "__qualname__"), .str (Str.ofString "__qualname__") 569, .str (Str.ofString "Closure") 568⟩, ⟨PyData.keyHash P (Str.ofString "__firstlineno__"), .str (Str.ofString "__firstlineno__") 571, .int 169 570⟩, ⟨PyData.keyHash P (Str.ofString "__init__"), .str (Str.ofString "__init__") 582, .ref 298⟩, ⟨PyData.keyHash P (Str.ofString "__static_attributes__"), .str (Str.ofString "__static_attributes__") 588, .ref 299⟩] 5, #[]⟩,
   ⟨.type "tuple", none, .seq #[] 0, #[]⟩]
noncomputable def c36 (P : Params) : List Obj :=
  [⟨.none, none, .fields #[.int 171 0, .int 4 0, .ref 297], #[]⟩,
   ⟨.type "code", none, .fields #[.str (Str.ofString "Closure") 562, .str (Str.ofString "Closure") 563, .str (Str.ofString "/claim/cut.py") 564, .int 169 0, .int 0 0, .int 0 0, .int 0 0, .int 0 0, .ref 287, .bool false, .int 181 0, .ref 288, .none, .none, .none, .none, .int 565 0, .int 169 0, .str (Str.ofString "/claim/cut.py") 566], #[]⟩,
   ⟨.type "frame", none, .plain, #[some (.ref 289), some (.ref 3), some (.ref 286), none, some (.str (Str.ofString "vectorcove.values") 392), none, some (.ref 0)]⟩,
   ⟨.type "tuple", none, .seq #[.none] 0, #[]⟩,
   ⟨.type "tuple", none, .seq #[] 0, #[]⟩,
   ⟨.none, none, .fields #[], #[]⟩,
   ⟨.type "tuple", none, .seq #[.str (Str.ofString "self") 575, .str (Str.ofString "formals") 576, .str (Str.ofString "body") 577, .str (Str.ofString "env") 578, .str (Str.ofString "attrs") 579] 0, #[]⟩,
   ⟨.type "tuple", none, .seq #[] 0, #[]⟩]
noncomputable def c37 (P : Params) : List Obj :=
  [⟨.none, none, .func { name := Str.ofString "__init__", qualname := Str.ofString "Closure.__init__", params := pA (stM 22 0), body := .stmts (pB (stM 22 0)), scope := pS (stM 22 0), globals := 0, closure := [], defaults := .none, kwdefaults := .none, doc := .none, pyModule := .none, annotations := none, code := .none, closureTuple := .none, builtins := 0 }, #[]⟩,
   ⟨.type "code", none, .fields #[.str (Str.ofString "__init__") 572, .str (Str.ofString "Closure.__init__") 573, .str (Str.ofString "/claim/cut.py") 574, .int 171 0, .int 5 0, .int 0 0, .int 0 0, .int 3 0, .ref 292, .bool true, .int 181 0, .ref 293, .none, .ref 294, .ref 295, .ref 296, .int 580 0, .int 171 0, .str (Str.ofString "/claim/cut.py") 581], #[]⟩,
   ⟨.type "function", none, .func { name := Str.ofString "__init__", qualname := Str.ofString "Closure.__init__", params := pA (stM 22 0), body := .stmts (pB (stM 22 0)), scope := pS (stM 22 0), globals := 3, closure := [], defaults := .ref 291, kwdefaults := .none, doc := .none, pyModule := .str (Str.ofString "vectorcove.values") 392, annotations := none, code := .ref 297, closureTuple := .none, builtins := 0 }, #[]⟩,
   ⟨.type "tuple", none, .seq #[.str (Str.ofString "attrs") 583, .str (Str.ofString "body") 584, .str (Str.ofString "env") 585, .str (Str.ofString "formals") 586, .str (Str.ofString "kind") 587] 0, #[]⟩,
   ⟨.type "dict", none, .dict #[⟨PyData.keyHash P (Str.ofString "__module__"), .str (Str.ofString "__module__") 567, .str (Str.ofString "vectorcove.values") 392⟩, ⟨PyData.keyHash P (Str.ofString "__firstlineno__"), .str (Str.ofString "__firstlineno__") 571, .int 169 570⟩, ⟨PyData.keyHash P (Str.ofString "__init__"), .str (Str.ofString "__init__") 582, .ref 298⟩, ⟨PyData.keyHash P (Str.ofString "__static_attributes__"), .str (Str.ofString "__static_attributes__") 588, .ref 299⟩, ⟨PyData.keyHash P (Str.ofString "__dict__"), .str (Str.ofString "__dict__") 590, .ref 302⟩, ⟨PyData.keyHash P (Str.ofString "__weakref__"), .str (Str.ofString "__weakref__") 592, .ref 303⟩, ⟨PyData.keyHash P (Str.ofString "__doc__"), .str (Str.ofString "__doc__") 593, .none⟩] 4, #[]⟩,
   ⟨.type "type", none, .cls { name := Str.ofString "Closure", bases := [.type "object"], mro := [.ref 301, .type "object"], ns := 300, qualname := Str.ofString "Closure", hasDict := true, slotNames := [], subclasses := [], abstract := false, collection := none, hasDel := false }, #[none, none, some (.str (Str.ofString "Closure") 560), some (.str (Str.ofString "Closure") 568), some (.builtin "object.__new__"), some (.bool true)]⟩,
   ⟨.type "getset_descriptor", none, .fields #[.str (Str.ofString "__dict__") 589, .ref 301, .builtin "function.__dict__", .builtin "function.__dict__#set"], #[]⟩,
   ⟨.type "getset_descriptor", none, .fields #[.str (Str.ofString "__weakref__") 591, .ref 301, .builtin "ExceptionGroup.__weakref__", .none], #[]⟩]
noncomputable def c38 (P : Params) : List Obj :=
  [⟨.type "super", none, .fields #[.ref 301, .ref 301, .ref 301], #[]⟩,
   ⟨.type "builtin_function_or_method", none, .fields #[.builtin "object.__init_subclass__", .ref 301], #[]⟩,
   ⟨.type "tuple", none, .seq #[] 0, #[]⟩,
   ⟨.none, none, .fields #[], #[]⟩,
   ⟨.type "tuple", none, .seq #[] 0, #[]⟩,
   ⟨.type "tuple", none, .seq #[] 0, #[]⟩,
   ⟨.none, none, .func { name := Str.ofString "null", qualname := Str.ofString "null", params := pA (stF 23), body := .stmts (pB (stF 23)), scope := pS (stF 23), globals := 0, closure := [], defaults := .none, kwdefaults := .none, doc := .none, pyModule := .none, annotations := none, code := .none, closureTuple := .none, builtins := 0 }, #[]⟩,
   ⟨.type "code", none, .fields #[.str (Str.ofString "null") 596, .str (Str.ofString "null") 597, .str (Str.ofString "/claim/cut.py") 598, .int 177 0, .int 0 0, .int 0 0, .int 0 0, .int 3 0, .ref 306, .bool true, .int 181 0, .ref 307, .none, .ref 308, .ref 309, .ref 310, .int 599 0, .int 177 0, .str (Str.ofString "/claim/cut.py") 600], #[]⟩]
noncomputable def c39 (P : Params) : List Obj :=
  [⟨.type "function", none, .func { name := Str.ofString "null", qualname := Str.ofString "null", params := pA (stF 23), body := .stmts (pB (stF 23)), scope := pS (stF 23), globals := 3, closure := [], defaults := .none, kwdefaults := .none, doc := .none, pyModule := .str (Str.ofString "vectorcove.values") 392, annotations := none, code := .ref 311, closureTuple := .none, builtins := 0 }, #[]⟩,
   ⟨.type "tuple", none, .seq #[] 0, #[]⟩,
   ⟨.none, none, .fields #[], #[]⟩,
   ⟨.type "tuple", none, .seq #[.str (Str.ofString "items") 605] 0, #[]⟩,
   ⟨.type "tuple", none, .seq #[] 0, #[]⟩,
   ⟨.none, none, .func { name := Str.ofString "character", qualname := Str.ofString "character", params := pA (stF 24), body := .stmts (pB (stF 24)), scope := pS (stF 24), globals := 0, closure := [], defaults := .none, kwdefaults := .none, doc := .none, pyModule := .none, annotations := none, code := .none, closureTuple := .none, builtins := 0 }, #[]⟩,
   ⟨.type "code", none, .fields #[.str (Str.ofString "character") 602, .str (Str.ofString "character") 603, .str (Str.ofString "/claim/cut.py") 604, .int 179 0, .int 1 0, .int 0 0, .int 0 0, .int 3 0, .ref 313, .bool true, .int 181 0, .ref 314, .none, .ref 315, .ref 316, .ref 317, .int 606 0, .int 179 0, .str (Str.ofString "/claim/cut.py") 607], #[]⟩,
   ⟨.type "function", none, .func { name := Str.ofString "character", qualname := Str.ofString "character", params := pA (stF 24), body := .stmts (pB (stF 24)), scope := pS (stF 24), globals := 3, closure := [], defaults := .none, kwdefaults := .none, doc := .none, pyModule := .str (Str.ofString "vectorcove.values") 392, annotations := none, code := .ref 318, closureTuple := .none, builtins := 0 }, #[]⟩]
noncomputable def c40 (P : Params) : List Obj :=
  [⟨.type "tuple", none, .seq #[] 0, #[]⟩,
   ⟨.none, none, .fields #[], #[]⟩,
   ⟨.type "tuple", none, .seq #[.str (Str.ofString "v") 612, .str (Str.ofString "names") 613] 0, #[]⟩,
   ⟨.type "tuple", none, .seq #[] 0, #[]⟩,
   ⟨.none, none, .func { name := Str.ofString "named", qualname := Str.ofString "named", params := pA (stF 25), body := .stmts (pB (stF 25)), scope := pS (stF 25), globals := 0, closure := [], defaults := .none, kwdefaults := .none, doc := .none, pyModule := .none, annotations := none, code := .none, closureTuple := .none, builtins := 0 }, #[]⟩,
   ⟨.type "code", none, .fields #[.str (Str.ofString "named") 609, .str (Str.ofString "named") 610, .str (Str.ofString "/claim/cut.py") 611, .int 181 0, .int 2 0, .int 0 0, .int 0 0, .int 3 0, .ref 320, .bool true, .int 181 0, .ref 321, .none, .ref 322, .ref 323, .ref 324, .int 614 0, .int 181 0, .str (Str.ofString "/claim/cut.py") 615], #[]⟩,
   ⟨.type "function", none, .func { name := Str.ofString "named", qualname := Str.ofString "named", params := pA (stF 25), body := .stmts (pB (stF 25)), scope := pS (stF 25), globals := 3, closure := [], defaults := .none, kwdefaults := .none, doc := .none, pyModule := .str (Str.ofString "vectorcove.values") 392, annotations := none, code := .ref 325, closureTuple := .none, builtins := 0 }, #[]⟩,
   ⟨.type "tuple", none, .seq #[] 0, #[]⟩]
noncomputable def c41 (P : Params) : List Obj :=
  [⟨.none, none, .fields #[], #[]⟩,
   ⟨.none, none, .func { name := Str.ofString "pairlist_of", qualname := Str.ofString "pairlist_of", params := pA (stF 26), body := .stmts (pB (stF 26)), scope := pS (stF 26), globals := 0, closure := [], defaults := .none, kwdefaults := .none, doc := .none, pyModule := .none, annotations := none, code := .none, closureTuple := .none, builtins := 0 }, #[]⟩,
   ⟨.type "code", none, .fields #[.str (Str.ofString "pairlist_of") 617, .str (Str.ofString "pairlist_of") 618, .str (Str.ofString "/claim/cut.py") 619, .int 185 0, .int 2 0, .int 0 0, .int 0 0, .int 3 0, .ref 327, .bool true, .int 181 0, .ref 328, .none, .none, .none, .ref 329, .int 620 0, .int 185 0, .str (Str.ofString "/claim/cut.py") 621], #[]⟩,
   ⟨.type "function", none, .func { name := Str.ofString "pairlist_of", qualname := Str.ofString "pairlist_of", params := pA (stF 26), body := .stmts (pB (stF 26)), scope := pS (stF 26), globals := 3, closure := [], defaults := .none, kwdefaults := .none, doc := .none, pyModule := .str (Str.ofString "vectorcove.values") 392, annotations := none, code := .ref 330, closureTuple := .none, builtins := 0 }, #[]⟩,
   ⟨.type "tuple", none, .seq #[] 0, #[]⟩,
   ⟨.none, none, .fields #[], #[]⟩,
   ⟨.type "tuple", none, .seq #[.str (Str.ofString "name") 626] 0, #[]⟩,
   ⟨.type "tuple", none, .seq #[] 0, #[]⟩]
noncomputable def c42 (P : Params) : List Obj :=
  [⟨.none, none, .func { name := Str.ofString "symbol", qualname := Str.ofString "symbol", params := pA (stF 27), body := .stmts (pB (stF 27)), scope := pS (stF 27), globals := 0, closure := [], defaults := .none, kwdefaults := .none, doc := .none, pyModule := .none, annotations := none, code := .none, closureTuple := .none, builtins := 0 }, #[]⟩,
   ⟨.type "code", none, .fields #[.str (Str.ofString "symbol") 623, .str (Str.ofString "symbol") 624, .str (Str.ofString "/claim/cut.py") 625, .int 187 0, .int 1 0, .int 0 0, .int 0 0, .int 3 0, .ref 332, .bool true, .int 181 0, .ref 333, .none, .ref 334, .ref 335, .ref 336, .int 627 0, .int 187 0, .str (Str.ofString "/claim/cut.py") 628], #[]⟩,
   ⟨.type "function", none, .func { name := Str.ofString "symbol", qualname := Str.ofString "symbol", params := pA (stF 27), body := .stmts (pB (stF 27)), scope := pS (stF 27), globals := 3, closure := [], defaults := .none, kwdefaults := .none, doc := .none, pyModule := .str (Str.ofString "vectorcove.values") 392, annotations := none, code := .ref 337, closureTuple := .none, builtins := 0 }, #[]⟩,
   ⟨.type "tuple", none, .seq #[] 0, #[]⟩,
   ⟨.none, none, .fields #[], #[]⟩,
   ⟨.type "tuple", none, .seq #[.str (Str.ofString "v") 633] 0, #[]⟩,
   ⟨.type "tuple", none, .seq #[] 0, #[]⟩,
   ⟨.none, none, .func { name := Str.ofString "is_vector", qualname := Str.ofString "is_vector", params := pA (stF 28), body := .stmts (pB (stF 28)), scope := pS (stF 28), globals := 0, closure := [], defaults := .none, kwdefaults := .none, doc := .none, pyModule := .none, annotations := none, code := .none, closureTuple := .none, builtins := 0 }, #[]⟩]
noncomputable def c43 (P : Params) : List Obj :=
  [⟨.type "code", none, .fields #[.str (Str.ofString "is_vector") 630, .str (Str.ofString "is_vector") 631, .str (Str.ofString "/claim/cut.py") 632, .int 189 0, .int 1 0, .int 0 0, .int 0 0, .int 3 0, .ref 339, .bool true, .int 181 0, .ref 340, .none, .ref 341, .ref 342, .ref 343, .int 634 0, .int 189 0, .str (Str.ofString "/claim/cut.py") 635], #[]⟩,
   ⟨.type "function", none, .func { name := Str.ofString "is_vector", qualname := Str.ofString "is_vector", params := pA (stF 28), body := .stmts (pB (stF 28)), scope := pS (stF 28), globals := 3, closure := [], defaults := .none, kwdefaults := .none, doc := .none, pyModule := .str (Str.ofString "vectorcove.values") 392, annotations := none, code := .ref 344, closureTuple := .none, builtins := 0 }, #[]⟩,
   ⟨.type "tuple", none, .seq #[] 0, #[]⟩,
   ⟨.none, none, .fields #[], #[]⟩,
   ⟨.type "tuple", none, .seq #[.str (Str.ofString "v") 640] 0, #[]⟩,
   ⟨.type "tuple", none, .seq #[] 0, #[]⟩,
   ⟨.none, none, .func { name := Str.ofString "is_function", qualname := Str.ofString "is_function", params := pA (stF 29), body := .stmts (pB (stF 29)), scope := pS (stF 29), globals := 0, closure := [], defaults := .none, kwdefaults := .none, doc := .none, pyModule := .none, annotations := none, code := .none, closureTuple := .none, builtins := 0 }, #[]⟩,
   ⟨.type "code", none, .fields #[.str (Str.ofString "is_function") 637, .str (Str.ofString "is_function") 638, .str (Str.ofString "/claim/cut.py") 639, .int 191 0, .int 1 0, .int 0 0, .int 0 0, .int 3 0, .ref 346, .bool true, .int 181 0, .ref 347, .none, .ref 348, .ref 349, .ref 350, .int 641 0, .int 191 0, .str (Str.ofString "/claim/cut.py") 642], #[]⟩]
noncomputable def c44 (P : Params) : List Obj :=
  [⟨.type "function", none, .func { name := Str.ofString "is_function", qualname := Str.ofString "is_function", params := pA (stF 29), body := .stmts (pB (stF 29)), scope := pS (stF 29), globals := 3, closure := [], defaults := .none, kwdefaults := .none, doc := .none, pyModule := .str (Str.ofString "vectorcove.values") 392, annotations := none, code := .ref 351, closureTuple := .none, builtins := 0 }, #[]⟩,
   ⟨.type "tuple", none, .seq #[] 0, #[]⟩,
   ⟨.none, none, .fields #[], #[]⟩,
   ⟨.type "tuple", none, .seq #[.str (Str.ofString "v") 647] 0, #[]⟩,
   ⟨.type "tuple", none, .seq #[] 0, #[]⟩,
   ⟨.none, none, .func { name := Str.ofString "share", qualname := Str.ofString "share", params := pA (stF 30), body := .stmts (pB (stF 30)), scope := pS (stF 30), globals := 0, closure := [], defaults := .none, kwdefaults := .none, doc := .none, pyModule := .none, annotations := none, code := .none, closureTuple := .none, builtins := 0 }, #[]⟩,
   ⟨.type "code", none, .fields #[.str (Str.ofString "share") 644, .str (Str.ofString "share") 645, .str (Str.ofString "/claim/cut.py") 646, .int 193 0, .int 1 0, .int 0 0, .int 0 0, .int 3 0, .ref 353, .bool true, .int 181 0, .ref 354, .none, .ref 355, .ref 356, .ref 357, .int 648 0, .int 193 0, .str (Str.ofString "/claim/cut.py") 649], #[]⟩,
   ⟨.type "function", none, .func { name := Str.ofString "share", qualname := Str.ofString "share", params := pA (stF 30), body := .stmts (pB (stF 30)), scope := pS (stF 30), globals := 3, closure := [], defaults := .none, kwdefaults := .none, doc := .none, pyModule := .str (Str.ofString "vectorcove.values") 392, annotations := none, code := .ref 358, closureTuple := .none, builtins := 0 }, #[]⟩]
noncomputable def c45 (P : Params) : List Obj :=
  [⟨.type "tuple", none, .seq #[] 0, #[]⟩,
   ⟨.none, none, .fields #[], #[]⟩,
   ⟨.type "tuple", none, .seq #[.str (Str.ofString "value") 656, .str (Str.ofString "name") 657] 0, #[]⟩,
   ⟨.type "tuple", none, .seq #[] 0, #[]⟩,
   ⟨.none, none, .func { name := Str.ofString "needed", qualname := Str.ofString "needed", params := pA (stF 32), body := .stmts (pB (stF 32)), scope := pS (stF 32), globals := 0, closure := [], defaults := .none, kwdefaults := .none, doc := .none, pyModule := .none, annotations := none, code := .none, closureTuple := .none, builtins := 0 }, #[]⟩,
   ⟨.type "code", none, .fields #[.str (Str.ofString "needed") 653, .str (Str.ofString "needed") 654, .str (Str.ofString "/claim/cut.py") 655, .int 198 0, .int 2 0, .int 0 0, .int 0 0, .int 3 0, .ref 360, .bool true, .int 181 0, .ref 361, .none, .ref 362, .ref 363, .ref 364, .int 658 0, .int 198 0, .str (Str.ofString "/claim/cut.py") 659], #[]⟩,
   ⟨.type "function", none, .func { name := Str.ofString "needed", qualname := Str.ofString "needed", params := pA (stF 32), body := .stmts (pB (stF 32)), scope := pS (stF 32), globals := 3, closure := [], defaults := .none, kwdefaults := .none, doc := .none, pyModule := .str (Str.ofString "vectorcove.evalcalls") 651, annotations := none, code := .ref 365, closureTuple := .none, builtins := 0 }, #[]⟩,
   ⟨.type "tuple", none, .seq #[] 0, #[]⟩]
noncomputable def c46 (P : Params) : List Obj :=
  [⟨.none, none, .fields #[], #[]⟩,
   ⟨.type "tuple", none, .seq #[.str (Str.ofString "env") 664, .str (Str.ofString "value") 665, .str (Str.ofString "names") 666, .str (Str.ofString "place") 667] 0, #[]⟩,
   ⟨.type "tuple", none, .seq #[] 0, #[]⟩,
   ⟨.none, none, .func { name := Str.ofString "bind_list", qualname := Str.ofString "bind_list", params := pA (stF 33), body := .stmts (pB (stF 33)), scope := pS (stF 33), globals := 0, closure := [], defaults := .none, kwdefaults := .none, doc := .none, pyModule := .none, annotations := none, code := .none, closureTuple := .none, builtins := 0 }, #[]⟩,
   ⟨.type "code", none, .fields #[.str (Str.ofString "bind_list") 661, .str (Str.ofString "bind_list") 662, .str (Str.ofString "/claim/cut.py") 663, .int 202 0, .int 2 0, .int 0 0, .int 0 0, .int 3 0, .ref 367, .bool true, .int 181 0, .ref 368, .none, .ref 369, .ref 370, .ref 371, .int 668 0, .int 202 0, .str (Str.ofString "/claim/cut.py") 669], #[]⟩,
   ⟨.type "function", none, .func { name := Str.ofString "bind_list", qualname := Str.ofString "bind_list", params := pA (stF 33), body := .stmts (pB (stF 33)), scope := pS (stF 33), globals := 3, closure := [], defaults := .none, kwdefaults := .none, doc := .none, pyModule := .str (Str.ofString "vectorcove.evalcalls") 651, annotations := none, code := .ref 372, closureTuple := .none, builtins := 0 }, #[]⟩,
   ⟨.type "tuple", none, .seq #[] 0, #[]⟩,
   ⟨.none, none, .fields #[], #[]⟩]
noncomputable def c47 (P : Params) : List Obj :=
  [⟨.type "tuple", none, .seq #[.str (Str.ofString "interp") 674, .str (Str.ofString "value") 675, .str (Str.ofString "enclos") 676, .str (Str.ofString "env") 677, .str (Str.ofString "parent") 678, .str (Str.ofString "made") 679] 0, #[]⟩,
   ⟨.type "tuple", none, .seq #[] 0, #[]⟩,
   ⟨.none, none, .func { name := Str.ofString "evaluation_env", qualname := Str.ofString "evaluation_env", params := pA (stF 34), body := .stmts (pB (stF 34)), scope := pS (stF 34), globals := 0, closure := [], defaults := .none, kwdefaults := .none, doc := .none, pyModule := .none, annotations := none, code := .none, closureTuple := .none, builtins := 0 }, #[]⟩,
   ⟨.type "code", none, .fields #[.str (Str.ofString "evaluation_env") 671, .str (Str.ofString "evaluation_env") 672, .str (Str.ofString "/claim/cut.py") 673, .int 209 0, .int 4 0, .int 0 0, .int 0 0, .int 3 0, .ref 374, .bool true, .int 181 0, .ref 375, .none, .ref 376, .ref 377, .ref 378, .int 680 0, .int 209 0, .str (Str.ofString "/claim/cut.py") 681], #[]⟩,
   ⟨.type "function", none, .func { name := Str.ofString "evaluation_env", qualname := Str.ofString "evaluation_env", params := pA (stF 34), body := .stmts (pB (stF 34)), scope := pS (stF 34), globals := 3, closure := [], defaults := .none, kwdefaults := .none, doc := .none, pyModule := .str (Str.ofString "vectorcove.evalcalls") 651, annotations := none, code := .ref 379, closureTuple := .none, builtins := 0 }, #[]⟩,
   ⟨.type "tuple", none, .seq #[] 0, #[]⟩,
   ⟨.none, none, .fields #[], #[]⟩,
   ⟨.type "tuple", none, .seq #[.str (Str.ofString "value") 688, .str (Str.ofString "names") 689, .str (Str.ofString "rows") 690, .str (Str.ofString "place") 691, .str (Str.ofString "tag") 692] 0, #[]⟩]
noncomputable def c48 (P : Params) : List Obj :=
  [⟨.type "tuple", none, .seq #[] 0, #[]⟩,
   ⟨.none, none, .func { name := Str.ofString "tagged_items", qualname := Str.ofString "tagged_items", params := pA (stF 36), body := .stmts (pB (stF 36)), scope := pS (stF 36), globals := 0, closure := [], defaults := .none, kwdefaults := .none, doc := .none, pyModule := .none, annotations := none, code := .none, closureTuple := .none, builtins := 0 }, #[]⟩,
   ⟨.type "code", none, .fields #[.str (Str.ofString "tagged_items") 685, .str (Str.ofString "tagged_items") 686, .str (Str.ofString "/claim/cut.py") 687, .int 224 0, .int 1 0, .int 0 0, .int 0 0, .int 3 0, .ref 381, .bool true, .int 181 0, .ref 382, .none, .ref 383, .ref 384, .ref 385, .int 693 0, .int 224 0, .str (Str.ofString "/claim/cut.py") 694], #[]⟩,
   ⟨.type "function", none, .func { name := Str.ofString "tagged_items", qualname := Str.ofString "tagged_items", params := pA (stF 36), body := .stmts (pB (stF 36)), scope := pS (stF 36), globals := 3, closure := [], defaults := .none, kwdefaults := .none, doc := .none, pyModule := .str (Str.ofString "vectorcove.langcalls") 683, annotations := none, code := .ref 386, closureTuple := .none, builtins := 0 }, #[]⟩,
   ⟨.type "tuple", none, .seq #[] 0, #[]⟩,
   ⟨.none, none, .fields #[], #[]⟩,
   ⟨.none, none, .func { name := Str.ofString "call_with", qualname := Str.ofString "call_with", params := pA (stF 37), body := .stmts (pB (stF 37)), scope := pS (stF 37), globals := 0, closure := [], defaults := .none, kwdefaults := .none, doc := .none, pyModule := .none, annotations := none, code := .none, closureTuple := .none, builtins := 0 }, #[]⟩,
   ⟨.type "code", none, .fields #[.str (Str.ofString "call_with") 696, .str (Str.ofString "call_with") 697, .str (Str.ofString "/claim/cut.py") 698, .int 233 0, .int 2 0, .int 0 0, .int 0 0, .int 3 0, .ref 388, .bool true, .int 181 0, .ref 389, .none, .none, .none, .ref 390, .int 699 0, .int 233 0, .str (Str.ofString "/claim/cut.py") 700], #[]⟩]
noncomputable def c49 (P : Params) : List Obj :=
  [⟨.type "function", none, .func { name := Str.ofString "call_with", qualname := Str.ofString "call_with", params := pA (stF 37), body := .stmts (pB (stF 37)), scope := pS (stF 37), globals := 3, closure := [], defaults := .none, kwdefaults := .none, doc := .none, pyModule := .str (Str.ofString "vectorcove.langcalls") 683, annotations := none, code := .ref 391, closureTuple := .none, builtins := 0 }, #[]⟩,
   ⟨.type "tuple", none, .seq #[] 0, #[]⟩,
   ⟨.none, none, .fields #[], #[]⟩,
   ⟨.none, none, .func { name := Str.ofString "b_call", qualname := Str.ofString "b_call", params := pA (stF 38), body := .stmts (pB (stF 38)), scope := pS (stF 38), globals := 0, closure := [], defaults := .none, kwdefaults := .none, doc := .none, pyModule := .none, annotations := none, code := .none, closureTuple := .none, builtins := 0 }, #[]⟩,
   ⟨.type "code", none, .fields #[.str (Str.ofString "b_call") 702, .str (Str.ofString "b_call") 703, .str (Str.ofString "/claim/cut.py") 704, .int 235 0, .int 3 0, .int 0 0, .int 0 0, .int 3 0, .ref 393, .bool true, .int 181 0, .ref 394, .none, .none, .none, .ref 395, .int 705 0, .int 235 0, .str (Str.ofString "/claim/cut.py") 706], #[]⟩,
   ⟨.type "function", none, .func { name := Str.ofString "b_call", qualname := Str.ofString "b_call", params := pA (stF 38), body := .stmts (pB (stF 38)), scope := pS (stF 38), globals := 3, closure := [], defaults := .none, kwdefaults := .none, doc := .none, pyModule := .str (Str.ofString "vectorcove.langcalls") 683, annotations := none, code := .ref 396, closureTuple := .none, builtins := 0 }, #[]⟩,
   ⟨.type "tuple", none, .seq #[] 0, #[]⟩,
   ⟨.none, none, .fields #[], #[]⟩]
noncomputable def c50 (P : Params) : List Obj :=
  [⟨.type "tuple", none, .seq #[.str (Str.ofString "interp") 711, .str (Str.ofString "args") 712, .str (Str.ofString "env") 713, .str (Str.ofString "x") 714, .str (Str.ofString "rows") 715] 0, #[]⟩,
   ⟨.type "tuple", none, .seq #[] 0, #[]⟩,
   ⟨.none, none, .func { name := Str.ofString "b_as_call", qualname := Str.ofString "b_as_call", params := pA (stF 39), body := .stmts (pB (stF 39)), scope := pS (stF 39), globals := 0, closure := [], defaults := .none, kwdefaults := .none, doc := .none, pyModule := .none, annotations := none, code := .none, closureTuple := .none, builtins := 0 }, #[]⟩,
   ⟨.type "code", none, .fields #[.str (Str.ofString "b_as_call") 708, .str (Str.ofString "b_as_call") 709, .str (Str.ofString "/claim/cut.py") 710, .int 240 0, .int 3 0, .int 0 0, .int 0 0, .int 3 0, .ref 398, .bool true, .int 181 0, .ref 399, .none, .ref 400, .ref 401, .ref 402, .int 716 0, .int 240 0, .str (Str.ofString "/claim/cut.py") 717], #[]⟩,
   ⟨.type "function", none, .func { name := Str.ofString "b_as_call", qualname := Str.ofString "b_as_call", params := pA (stF 39), body := .stmts (pB (stF 39)), scope := pS (stF 39), globals := 3, closure := [], defaults := .none, kwdefaults := .none, doc := .none, pyModule := .str (Str.ofString "vectorcove.langcalls") 683, annotations := none, code := .ref 403, closureTuple := .none, builtins := 0 }, #[]⟩,
   ⟨.type "tuple", none, .seq #[] 0, #[]⟩,
   ⟨.none, none, .fields #[], #[]⟩,
   ⟨.type "tuple", none, .seq #[.str (Str.ofString "interp") 722, .str (Str.ofString "args") 723, .str (Str.ofString "env") 724, .str (Str.ofString "fun") 725] 0, #[]⟩]
noncomputable def c51 (P : Params) : List Obj :=
  [⟨.type "tuple", none, .seq #[] 0, #[]⟩,
   ⟨.none, none, .func { name := Str.ofString "b_body", qualname := Str.ofString "b_body", params := pA (stF 40), body := .stmts (pB (stF 40)), scope := pS (stF 40), globals := 0, closure := [], defaults := .none, kwdefaults := .none, doc := .none, pyModule := .none, annotations := none, code := .none, closureTuple := .none, builtins := 0 }, #[]⟩,
   ⟨.type "code", none, .fields #[.str (Str.ofString "b_body") 719, .str (Str.ofString "b_body") 720, .str (Str.ofString "/claim/cut.py") 721, .int 248 0, .int 3 0, .int 0 0, .int 0 0, .int 3 0, .ref 405, .bool true, .int 181 0, .ref 406, .none, .ref 407, .ref 408, .ref 409, .int 726 0, .int 248 0, .str (Str.ofString "/claim/cut.py") 727], #[]⟩,
   ⟨.type "function", none, .func { name := Str.ofString "b_body", qualname := Str.ofString "b_body", params := pA (stF 40), body := .stmts (pB (stF 40)), scope := pS (stF 40), globals := 3, closure := [], defaults := .none, kwdefaults := .none, doc := .none, pyModule := .str (Str.ofString "vectorcove.langcalls") 683, annotations := none, code := .ref 410, closureTuple := .none, builtins := 0 }, #[]⟩,
   ⟨.type "tuple", none, .seq #[] 0, #[]⟩,
   ⟨.none, none, .fields #[], #[]⟩,
   ⟨.none, none, .func { name := Str.ofString "b_formals", qualname := Str.ofString "b_formals", params := pA (stF 41), body := .stmts (pB (stF 41)), scope := pS (stF 41), globals := 0, closure := [], defaults := .none, kwdefaults := .none, doc := .none, pyModule := .none, annotations := none, code := .none, closureTuple := .none, builtins := 0 }, #[]⟩,
   ⟨.type "code", none, .fields #[.str (Str.ofString "b_formals") 729, .str (Str.ofString "b_formals") 730, .str (Str.ofString "/claim/cut.py") 731, .int 253 0, .int 3 0, .int 0 0, .int 0 0, .int 3 0, .ref 412, .bool true, .int 181 0, .ref 413, .none, .none, .none, .ref 414, .int 732 0, .int 253 0, .str (Str.ofString "/claim/cut.py") 733], #[]⟩]
noncomputable def c52 (P : Params) : List Obj :=
  [⟨.type "function", none, .func { name := Str.ofString "b_formals", qualname := Str.ofString "b_formals", params := pA (stF 41), body := .stmts (pB (stF 41)), scope := pS (stF 41), globals := 3, closure := [], defaults := .none, kwdefaults := .none, doc := .none, pyModule := .str (Str.ofString "vectorcove.langcalls") 683, annotations := none, code := .ref 415, closureTuple := .none, builtins := 0 }, #[]⟩,
   ⟨.type "tuple", none, .seq #[] 0, #[]⟩,
   ⟨.none, none, .fields #[], #[]⟩,
   ⟨.type "tuple", none, .seq #[.str (Str.ofString "args") 738, .str (Str.ofString "fun") 739, .str (Str.ofString "_") 740, .str (Str.ofString "value") 741] 0, #[]⟩,
   ⟨.type "tuple", none, .seq #[] 0, #[]⟩,
   ⟨.none, none, .func { name := Str.ofString "needed_closure", qualname := Str.ofString "needed_closure", params := pA (stF 42), body := .stmts (pB (stF 42)), scope := pS (stF 42), globals := 0, closure := [], defaults := .none, kwdefaults := .none, doc := .none, pyModule := .none, annotations := none, code := .none, closureTuple := .none, builtins := 0 }, #[]⟩,
   ⟨.type "code", none, .fields #[.str (Str.ofString "needed_closure") 735, .str (Str.ofString "needed_closure") 736, .str (Str.ofString "/claim/cut.py") 737, .int 259 0, .int 1 0, .int 0 0, .int 0 0, .int 3 0, .ref 417, .bool true, .int 181 0, .ref 418, .none, .ref 419, .ref 420, .ref 421, .int 742 0, .int 259 0, .str (Str.ofString "/claim/cut.py") 743], #[]⟩,
   ⟨.type "function", none, .func { name := Str.ofString "needed_closure", qualname := Str.ofString "needed_closure", params := pA (stF 42), body := .stmts (pB (stF 42)), scope := pS (stF 42), globals := 3, closure := [], defaults := .none, kwdefaults := .none, doc := .none, pyModule := .str (Str.ofString "vectorcove.langcalls") 683, annotations := none, code := .ref 422, closureTuple := .none, builtins := 0 }, #[]⟩]
noncomputable def c53 (P : Params) : List Obj :=
  [⟨.type "tuple", none, .seq #[] 0, #[]⟩,
   ⟨.none, none, .fields #[], #[]⟩,
   ⟨.type "tuple", none, .seq #[.str (Str.ofString "interp") 748, .str (Str.ofString "args") 749, .str (Str.ofString "env") 750, .str (Str.ofString "fun") 751, .str (Str.ofString "value") 752] 0, #[]⟩,
   ⟨.type "tuple", none, .seq #[] 0, #[]⟩,
   ⟨.none, none, .func { name := Str.ofString "b_set_body", qualname := Str.ofString "b_set_body", params := pA (stF 43), body := .stmts (pB (stF 43)), scope := pS (stF 43), globals := 0, closure := [], defaults := .none, kwdefaults := .none, doc := .none, pyModule := .none, annotations := none, code := .none, closureTuple := .none, builtins := 0 }, #[]⟩,
   ⟨.type "code", none, .fields #[.str (Str.ofString "b_set_body") 745, .str (Str.ofString "b_set_body") 746, .str (Str.ofString "/claim/cut.py") 747, .int 264 0, .int 3 0, .int 0 0, .int 0 0, .int 3 0, .ref 424, .bool true, .int 181 0, .ref 425, .none, .ref 426, .ref 427, .ref 428, .int 753 0, .int 264 0, .str (Str.ofString "/claim/cut.py") 754], #[]⟩,
   ⟨.type "function", none, .func { name := Str.ofString "b_set_body", qualname := Str.ofString "b_set_body", params := pA (stF 43), body := .stmts (pB (stF 43)), scope := pS (stF 43), globals := 3, closure := [], defaults := .none, kwdefaults := .none, doc := .none, pyModule := .str (Str.ofString "vectorcove.langcalls") 683, annotations := none, code := .ref 429, closureTuple := .none, builtins := 0 }, #[]⟩,
   ⟨.type "tuple", none, .seq #[] 0, #[]⟩]
noncomputable def c54 (P : Params) : List Obj :=
  [⟨.none, none, .fields #[], #[]⟩,
   ⟨.type "tuple", none, .seq #[.str (Str.ofString "value") 759, .str (Str.ofString "rows") 760, .str (Str.ofString "tag") 761, .str (Str.ofString "item") 762] 0, #[]⟩,
   ⟨.type "tuple", none, .seq #[] 0, #[]⟩,
   ⟨.none, none, .func { name := Str.ofString "formal_rows", qualname := Str.ofString "formal_rows", params := pA (stF 44), body := .stmts (pB (stF 44)), scope := pS (stF 44), globals := 0, closure := [], defaults := .none, kwdefaults := .none, doc := .none, pyModule := .none, annotations := none, code := .none, closureTuple := .none, builtins := 0 }, #[]⟩,
   ⟨.type "code", none, .fields #[.str (Str.ofString "formal_rows") 756, .str (Str.ofString "formal_rows") 757, .str (Str.ofString "/claim/cut.py") 758, .int 267 0, .int 1 0, .int 0 0, .int 0 0, .int 3 0, .ref 431, .bool true, .int 181 0, .ref 432, .none, .ref 433, .ref 434, .ref 435, .int 763 0, .int 267 0, .str (Str.ofString "/claim/cut.py") 764], #[]⟩,
   ⟨.type "function", none, .func { name := Str.ofString "formal_rows", qualname := Str.ofString "formal_rows", params := pA (stF 44), body := .stmts (pB (stF 44)), scope := pS (stF 44), globals := 3, closure := [], defaults := .none, kwdefaults := .none, doc := .none, pyModule := .str (Str.ofString "vectorcove.langcalls") 683, annotations := none, code := .ref 436, closureTuple := .none, builtins := 0 }, #[]⟩,
   ⟨.type "tuple", none, .seq #[] 0, #[]⟩,
   ⟨.none, none, .fields #[], #[]⟩]
noncomputable def c55 (P : Params) : List Obj :=
  [⟨.type "tuple", none, .seq #[.str (Str.ofString "interp") 769, .str (Str.ofString "args") 770, .str (Str.ofString "env") 771, .str (Str.ofString "fun") 772, .str (Str.ofString "value") 773] 0, #[]⟩,
   ⟨.type "tuple", none, .seq #[] 0, #[]⟩,
   ⟨.none, none, .func { name := Str.ofString "b_set_formals", qualname := Str.ofString "b_set_formals", params := pA (stF 45), body := .stmts (pB (stF 45)), scope := pS (stF 45), globals := 0, closure := [], defaults := .none, kwdefaults := .none, doc := .none, pyModule := .none, annotations := none, code := .none, closureTuple := .none, builtins := 0 }, #[]⟩,
   ⟨.type "code", none, .fields #[.str (Str.ofString "b_set_formals") 766, .str (Str.ofString "b_set_formals") 767, .str (Str.ofString "/claim/cut.py") 768, .int 277 0, .int 3 0, .int 0 0, .int 0 0, .int 3 0, .ref 438, .bool true, .int 181 0, .ref 439, .none, .ref 440, .ref 441, .ref 442, .int 774 0, .int 277 0, .str (Str.ofString "/claim/cut.py") 775], #[]⟩,
   ⟨.type "function", none, .func { name := Str.ofString "b_set_formals", qualname := Str.ofString "b_set_formals", params := pA (stF 45), body := .stmts (pB (stF 45)), scope := pS (stF 45), globals := 3, closure := [], defaults := .none, kwdefaults := .none, doc := .none, pyModule := .str (Str.ofString "vectorcove.langcalls") 683, annotations := none, code := .ref 443, closureTuple := .none, builtins := 0 }, #[]⟩,
   ⟨.type "tuple", none, .seq #[] 0, #[]⟩,
   ⟨.none, none, .fields #[], #[]⟩,
   ⟨.type "tuple", none, .seq #[.str (Str.ofString "interp") 780, .str (Str.ofString "args") 781, .str (Str.ofString "env") 782, .str (Str.ofString "x") 783, .str (Str.ofString "envir") 784, .str (Str.ofString "last") 785, .str (Str.ofString "body") 786, .str (Str.ofString "names") 787, .str (Str.ofString "front") 788] 0, #[]⟩]
noncomputable def c56 (P : Params) : List Obj :=
  [⟨.type "tuple", none, .seq #[] 0, #[]⟩,
   ⟨.none, none, .func { name := Str.ofString "b_as_function", qualname := Str.ofString "b_as_function", params := pA (stF 46), body := .stmts (pB (stF 46)), scope := pS (stF 46), globals := 0, closure := [], defaults := .none, kwdefaults := .none, doc := .none, pyModule := .none, annotations := none, code := .none, closureTuple := .none, builtins := 0 }, #[]⟩,
   ⟨.type "code", none, .fields #[.str (Str.ofString "b_as_function") 777, .str (Str.ofString "b_as_function") 778, .str (Str.ofString "/claim/cut.py") 779, .int 280 0, .int 3 0, .int 0 0, .int 0 0, .int 3 0, .ref 445, .bool true, .int 181 0, .ref 446, .none, .ref 447, .ref 448, .ref 449, .int 789 0, .int 280 0, .str (Str.ofString "/claim/cut.py") 790], #[]⟩,
   ⟨.type "function", none, .func { name := Str.ofString "b_as_function", qualname := Str.ofString "b_as_function", params := pA (stF 46), body := .stmts (pB (stF 46)), scope := pS (stF 46), globals := 3, closure := [], defaults := .none, kwdefaults := .none, doc := .none, pyModule := .str (Str.ofString "vectorcove.langcalls") 683, annotations := none, code := .ref 450, closureTuple := .none, builtins := 0 }, #[]⟩,
   ⟨.type "tuple", none, .seq #[] 0, #[]⟩,
   ⟨.none, none, .fields #[], #[]⟩,
   ⟨.type "tuple", none, .seq #[.str (Str.ofString "script") 797, .str (Str.ofString "shelf") 798, .str (Str.ofString "cell") 799] 0, #[]⟩,
   ⟨.type "tuple", none, .seq #[] 0, #[]⟩]
noncomputable def c57 (P : Params) : List Obj :=
  [⟨.none, none, .func { name := Str.ofString "_law_shelf", qualname := Str.ofString "_law_shelf", params := pA (stF 48), body := .stmts (pB (stF 48)), scope := pS (stF 48), globals := 0, closure := [], defaults := .none, kwdefaults := .none, doc := .none, pyModule := .none, annotations := none, code := .none, closureTuple := .none, builtins := 0 }, #[]⟩,
   ⟨.type "code", none, .fields #[.str (Str.ofString "_law_shelf") 794, .str (Str.ofString "_law_shelf") 795, .str (Str.ofString "/claim/cut.py") 796, .int 295 0, .int 1 0, .int 0 0, .int 0 0, .int 3 0, .ref 452, .bool true, .int 181 0, .ref 453, .none, .ref 454, .ref 455, .ref 456, .int 800 0, .int 295 0, .str (Str.ofString "/claim/cut.py") 801], #[]⟩,
   ⟨.type "function", none, .func { name := Str.ofString "_law_shelf", qualname := Str.ofString "_law_shelf", params := pA (stF 48), body := .stmts (pB (stF 48)), scope := pS (stF 48), globals := 3, closure := [], defaults := .none, kwdefaults := .none, doc := .none, pyModule := .str (Str.ofString "law_pq1324_01") 792, annotations := none, code := .ref 457, closureTuple := .none, builtins := 0 }, #[]⟩,
   ⟨.type "tuple", none, .seq #[] 0, #[]⟩,
   ⟨.none, none, .fields #[], #[]⟩,
   ⟨.type "tuple", none, .seq #[.str (Str.ofString "shelf") 806, .str (Str.ofString "bound") 807] 0, #[]⟩,
   ⟨.type "tuple", none, .seq #[] 0, #[]⟩,
   ⟨.none, none, .func { name := Str.ofString "_law_grab", qualname := Str.ofString "_law_grab", params := pA (stF 49), body := .stmts (pB (stF 49)), scope := pS (stF 49), globals := 0, closure := [], defaults := .none, kwdefaults := .none, doc := .none, pyModule := .none, annotations := none, code := .none, closureTuple := .none, builtins := 0 }, #[]⟩]
noncomputable def c58 (P : Params) : List Obj :=
  [⟨.type "code", none, .fields #[.str (Str.ofString "_law_grab") 803, .str (Str.ofString "_law_grab") 804, .str (Str.ofString "/claim/cut.py") 805, .int 300 0, .int 2 0, .int 0 0, .int 0 0, .int 3 0, .ref 459, .bool true, .int 181 0, .ref 460, .none, .ref 461, .ref 462, .ref 463, .int 808 0, .int 300 0, .str (Str.ofString "/claim/cut.py") 809], #[]⟩,
   ⟨.type "function", none, .func { name := Str.ofString "_law_grab", qualname := Str.ofString "_law_grab", params := pA (stF 49), body := .stmts (pB (stF 49)), scope := pS (stF 49), globals := 3, closure := [], defaults := .none, kwdefaults := .none, doc := .none, pyModule := .str (Str.ofString "law_pq1324_01") 792, annotations := none, code := .ref 464, closureTuple := .none, builtins := 0 }, #[]⟩,
   ⟨.type "tuple", none, .seq #[] 0, #[]⟩,
   ⟨.none, none, .fields #[], #[]⟩,
   ⟨.type "tuple", none, .seq #[.str (Str.ofString "shelf") 814, .str (Str.ofString "kind") 815] 0, #[]⟩,
   ⟨.type "tuple", none, .seq #[] 0, #[]⟩,
   ⟨.none, none, .func { name := Str.ofString "_law_argument", qualname := Str.ofString "_law_argument", params := pA (stF 50), body := .stmts (pB (stF 50)), scope := pS (stF 50), globals := 0, closure := [], defaults := .none, kwdefaults := .none, doc := .none, pyModule := .none, annotations := none, code := .none, closureTuple := .none, builtins := 0 }, #[]⟩,
   ⟨.type "code", none, .fields #[.str (Str.ofString "_law_argument") 811, .str (Str.ofString "_law_argument") 812, .str (Str.ofString "/claim/cut.py") 813, .int 304 0, .int 1 0, .int 0 0, .int 0 0, .int 3 0, .ref 466, .bool true, .int 181 0, .ref 467, .none, .ref 468, .ref 469, .ref 470, .int 816 0, .int 304 0, .str (Str.ofString "/claim/cut.py") 817], #[]⟩]
noncomputable def c59 (P : Params) : List Obj :=
  [⟨.type "function", none, .func { name := Str.ofString "_law_argument", qualname := Str.ofString "_law_argument", params := pA (stF 50), body := .stmts (pB (stF 50)), scope := pS (stF 50), globals := 3, closure := [], defaults := .none, kwdefaults := .none, doc := .none, pyModule := .str (Str.ofString "law_pq1324_01") 792, annotations := none, code := .ref 471, closureTuple := .none, builtins := 0 }, #[]⟩,
   ⟨.type "tuple", none, .seq #[] 0, #[]⟩,
   ⟨.none, none, .fields #[], #[]⟩,
   ⟨.none, none, .func { name := Str.ofString "_law_shown", qualname := Str.ofString "_law_shown", params := pA (stF 51), body := .stmts (pB (stF 51)), scope := pS (stF 51), globals := 0, closure := [], defaults := .none, kwdefaults := .none, doc := .none, pyModule := .none, annotations := none, code := .none, closureTuple := .none, builtins := 0 }, #[]⟩,
   ⟨.type "code", none, .fields #[.str (Str.ofString "_law_shown") 819, .str (Str.ofString "_law_shown") 820, .str (Str.ofString "/claim/cut.py") 821, .int 313 0, .int 1 0, .int 0 0, .int 0 0, .int 3 0, .ref 473, .bool true, .int 181 0, .ref 474, .none, .none, .none, .ref 475, .int 822 0, .int 313 0, .str (Str.ofString "/claim/cut.py") 823], #[]⟩,
   ⟨.type "function", none, .func { name := Str.ofString "_law_shown", qualname := Str.ofString "_law_shown", params := pA (stF 51), body := .stmts (pB (stF 51)), scope := pS (stF 51), globals := 3, closure := [], defaults := .none, kwdefaults := .none, doc := .none, pyModule := .str (Str.ofString "law_pq1324_01") 792, annotations := none, code := .ref 476, closureTuple := .none, builtins := 0 }, #[]⟩,
   ⟨.type "tuple", none, .seq #[] 0, #[]⟩,
   ⟨.none, none, .fields #[], #[]⟩]
noncomputable def c60 (P : Params) : List Obj :=
  [⟨.none, none, .func { name := Str.ofString "_law_listed", qualname := Str.ofString "_law_listed", params := pA (stF 52), body := .stmts (pB (stF 52)), scope := pS (stF 52), globals := 0, closure := [], defaults := .none, kwdefaults := .none, doc := .none, pyModule := .none, annotations := none, code := .none, closureTuple := .none, builtins := 0 }, #[]⟩,
   ⟨.type "code", none, .fields #[.str (Str.ofString "_law_listed") 825, .str (Str.ofString "_law_listed") 826, .str (Str.ofString "/claim/cut.py") 827, .int 323 0, .int 2 0, .int 0 0, .int 0 0, .int 3 0, .ref 478, .bool true, .int 181 0, .ref 479, .none, .none, .none, .ref 480, .int 828 0, .int 323 0, .str (Str.ofString "/claim/cut.py") 829], #[]⟩,
   ⟨.type "function", none, .func { name := Str.ofString "_law_listed", qualname := Str.ofString "_law_listed", params := pA (stF 52), body := .stmts (pB (stF 52)), scope := pS (stF 52), globals := 3, closure := [], defaults := .none, kwdefaults := .none, doc := .none, pyModule := .str (Str.ofString "law_pq1324_01") 792, annotations := none, code := .ref 481, closureTuple := .none, builtins := 0 }, #[]⟩,
   ⟨.type "tuple", none, .seq #[] 0, #[]⟩,
   ⟨.none, none, .fields #[], #[]⟩,
   ⟨.type "tuple", none, .seq #[.str (Str.ofString "ask") 834, .str (Str.ofString "args") 835, .str (Str.ofString "refusal") 836] 0, #[]⟩,
   ⟨.type "tuple", none, .seq #[] 0, #[]⟩,
   ⟨.none, none, .func { name := Str.ofString "_law_refused", qualname := Str.ofString "_law_refused", params := pA (stF 53), body := .stmts (pB (stF 53)), scope := pS (stF 53), globals := 0, closure := [], defaults := .none, kwdefaults := .none, doc := .none, pyModule := .none, annotations := none, code := .none, closureTuple := .none, builtins := 0 }, #[]⟩]
noncomputable def c61 (P : Params) : List Obj :=
  [⟨.type "code", none, .fields #[.str (Str.ofString "_law_refused") 831, .str (Str.ofString "_law_refused") 832, .str (Str.ofString "/claim/cut.py") 833, .int 329 0, .int 2 0, .int 0 0, .int 0 0, .int 3 0, .ref 483, .bool true, .int 181 0, .ref 484, .none, .ref 485, .ref 486, .ref 487, .int 837 0, .int 329 0, .str (Str.ofString "/claim/cut.py") 838], #[]⟩,
   ⟨.type "function", none, .func { name := Str.ofString "_law_refused", qualname := Str.ofString "_law_refused", params := pA (stF 53), body := .stmts (pB (stF 53)), scope := pS (stF 53), globals := 3, closure := [], defaults := .none, kwdefaults := .none, doc := .none, pyModule := .str (Str.ofString "law_pq1324_01") 792, annotations := none, code := .ref 488, closureTuple := .none, builtins := 0 }, #[]⟩,
   ⟨.type "tuple", none, .seq #[] 0, #[]⟩,
   ⟨.none, none, .fields #[], #[]⟩,
   ⟨.none, none, .func { name := Str.ofString "_law_formals_told", qualname := Str.ofString "_law_formals_told", params := pA (stF 54), body := .stmts (pB (stF 54)), scope := pS (stF 54), globals := 0, closure := [], defaults := .none, kwdefaults := .none, doc := .none, pyModule := .none, annotations := none, code := .none, closureTuple := .none, builtins := 0 }, #[]⟩,
   ⟨.type "code", none, .fields #[.str (Str.ofString "_law_formals_told") 840, .str (Str.ofString "_law_formals_told") 841, .str (Str.ofString "/claim/cut.py") 842, .int 335 0, .int 1 0, .int 0 0, .int 0 0, .int 3 0, .ref 490, .bool true, .int 181 0, .ref 491, .none, .none, .none, .ref 492, .int 843 0, .int 335 0, .str (Str.ofString "/claim/cut.py") 844], #[]⟩,
   ⟨.type "function", none, .func { name := Str.ofString "_law_formals_told", qualname := Str.ofString "_law_formals_told", params := pA (stF 54), body := .stmts (pB (stF 54)), scope := pS (stF 54), globals := 3, closure := [], defaults := .none, kwdefaults := .none, doc := .none, pyModule := .str (Str.ofString "law_pq1324_01") 792, annotations := none, code := .ref 493, closureTuple := .none, builtins := 0 }, #[]⟩,
   ⟨.type "tuple", none, .seq #[] 0, #[]⟩]
noncomputable def c62 (P : Params) : List Obj :=
  [⟨.none, none, .fields #[], #[]⟩,
   ⟨.none, none, .func { name := Str.ofString "law", qualname := Str.ofString "law", params := pA (stF 55), body := .stmts (pB (stF 55)), scope := pS (stF 55), globals := 0, closure := [], defaults := .none, kwdefaults := .none, doc := .none, pyModule := .none, annotations := none, code := .none, closureTuple := .none, builtins := 0 }, #[]⟩,
   ⟨.type "code", none, .fields #[.str (Str.ofString "law") 846, .str (Str.ofString "law") 847, .str (Str.ofString "/claim/cut.py") 848, .int 341 0, .int 1 0, .int 0 0, .int 0 0, .int 3 0, .ref 495, .bool true, .int 181 0, .ref 496, .none, .none, .none, .ref 497, .int 849 0, .int 341 0, .str (Str.ofString "/claim/cut.py") 850], #[]⟩,
   ⟨.type "function", none, .func { name := Str.ofString "law", qualname := Str.ofString "law", params := pA (stF 55), body := .stmts (pB (stF 55)), scope := pS (stF 55), globals := 3, closure := [], defaults := .none, kwdefaults := .none, doc := .none, pyModule := .str (Str.ofString "law_pq1324_01") 792, annotations := none, code := .ref 498, closureTuple := .none, builtins := 0 }, #[]⟩]
noncomputable def g0 : List (Params → List Obj) := [c0, c1, c2, c3, c4, c5, c6, c7]
noncomputable def g1 : List (Params → List Obj) := [c8, c9, c10, c11, c12, c13, c14, c15]
noncomputable def g2 : List (Params → List Obj) := [c16, c17, c18, c19, c20, c21, c22, c23]
noncomputable def g3 : List (Params → List Obj) := [c24, c25, c26, c27, c28, c29, c30, c31]
noncomputable def g4 : List (Params → List Obj) := [c32, c33, c34, c35, c36, c37, c38, c39]
noncomputable def g5 : List (Params → List Obj) := [c40, c41, c42, c43, c44, c45, c46, c47]
noncomputable def g6 : List (Params → List Obj) := [c48, c49, c50, c51, c52, c53, c54, c55]
noncomputable def g7 : List (Params → List Obj) := [c56, c57, c58, c59, c60, c61, c62]
noncomputable def gAll : List (List (Params → List Obj)) := [g0, g1, g2, g3, g4, g5, g6, g7]
noncomputable def obj (P : Params) (i : Nat) : Obj := nthO (nthC (nthG gAll (i / 64)) (i / 8 % 8) P) (i % 8)
noncomputable def treeOf (P : Params) : Nat → Nat → Nat → BT
  | 0, _, _ => .nil
  | k + 1, a, b => match Nat.blt b 500 with
    | true => .node (obj P b) (treeOf P k (Nat.mul 2 a) (Nat.add a b)) (treeOf P k (Nat.mul 2 a) (Nat.add (Nat.mul 2 a) b))
    | false => .nil
noncomputable def treeW (P : Params) (m2 m3 m12 m55 : Obj) : BT := ((((treeOf P 12 1 0).set 2 fun _ => m2).set 3 fun _ => m3).set 12 fun _ => m12).set 55 fun _ => m55
noncomputable def e0 (P : Params) : List DictEntry :=
  [⟨PyData.keyHash P (Str.ofString "__doc__"), .str (Str.ofString "__doc__") 166, .none⟩,
   ⟨PyData.keyHash P (Str.ofString "__package__"), .str (Str.ofString "__package__") 167, .none⟩,
   ⟨PyData.keyHash P (Str.ofString "__loader__"), .str (Str.ofString "__loader__") 168, .builtin "__main__.__loader__#opaque"⟩,
   ⟨PyData.keyHash P (Str.ofString "__spec__"), .str (Str.ofString "__spec__") 169, .none⟩,
   ⟨PyData.keyHash P (Str.ofString "__annotations__"), .str (Str.ofString "__annotations__") 170, .ref 6⟩,
   ⟨PyData.keyHash P (Str.ofString "__builtins__"), .str (Str.ofString "__builtins__") 171, .ref 4⟩,
   ⟨PyData.keyHash P (Str.ofString "__file__"), .str (Str.ofString "__file__") 173, .str (Str.ofString "/claim/cut.py") 172⟩,
   ⟨PyData.keyHash P (Str.ofString "__cached__"), .str (Str.ofString "__cached__") 174, .none⟩]
noncomputable def e1 (P : Params) : List DictEntry :=
  [⟨PyData.keyHash P (Str.ofString "_wall"), .str (Str.ofString "_wall") 193, .ref 21⟩,
   ⟨PyData.keyHash P (Str.ofString "get_attr"), .str (Str.ofString "get_attr") 203, .ref 28⟩,
   ⟨PyData.keyHash P (Str.ofString "names_of"), .str (Str.ofString "names_of") 209, .ref 33⟩,
   ⟨PyData.keyHash P (Str.ofString "dim_of"), .str (Str.ofString "dim_of") 217, .ref 40⟩,
   ⟨PyData.keyHash P (Str.ofString "dimnames_of"), .str (Str.ofString "dimnames_of") 223, .ref 45⟩,
   ⟨PyData.keyHash P (Str.ofString "CoveError"), .str (Str.ofString "CoveError") 245, .ref 55⟩,
   ⟨PyData.keyHash P (Str.ofString "Refusal"), .str (Str.ofString "Refusal") 270, .ref 75⟩,
   ⟨PyData.keyHash P (Str.ofString "Matching"), .str (Str.ofString "Matching") 355, .ref 134⟩]
noncomputable def e2 (P : Params) : List DictEntry :=
  [⟨PyData.keyHash P (Str.ofString "doubled_text"), .str (Str.ofString "doubled_text") 362, .ref 145⟩,
   ⟨PyData.keyHash P (Str.ofString "argument_text"), .str (Str.ofString "argument_text") 373, .ref 152⟩,
   ⟨PyData.keyHash P (Str.ofString "unused_text"), .str (Str.ofString "unused_text") 379, .ref 157⟩,
   ⟨PyData.keyHash P (Str.ofString "match_names"), .str (Str.ofString "match_names") 385, .ref 163⟩,
   ⟨PyData.keyHash P (Str.ofString "take"), .str (Str.ofString "take") 391, .ref 169⟩,
   ⟨PyData.keyHash P (Str.ofString "Null"), .str (Str.ofString "Null") 422, .ref 186⟩,
   ⟨PyData.keyHash P (Str.ofString "Missing"), .str (Str.ofString "Missing") 451, .ref 207⟩,
   ⟨PyData.keyHash P (Str.ofString "Vector"), .str (Str.ofString "Vector") 493, .ref 236⟩]
noncomputable def e3 (P : Params) : List DictEntry :=
  [⟨PyData.keyHash P (Str.ofString "Symbol"), .str (Str.ofString "Symbol") 524, .ref 257⟩,
   ⟨PyData.keyHash P (Str.ofString "Call"), .str (Str.ofString "Call") 559, .ref 279⟩,
   ⟨PyData.keyHash P (Str.ofString "Closure"), .str (Str.ofString "Closure") 595, .ref 301⟩,
   ⟨PyData.keyHash P (Str.ofString "null"), .str (Str.ofString "null") 601, .ref 312⟩,
   ⟨PyData.keyHash P (Str.ofString "character"), .str (Str.ofString "character") 608, .ref 319⟩,
   ⟨PyData.keyHash P (Str.ofString "named"), .str (Str.ofString "named") 616, .ref 326⟩,
   ⟨PyData.keyHash P (Str.ofString "pairlist_of"), .str (Str.ofString "pairlist_of") 622, .ref 331⟩,
   ⟨PyData.keyHash P (Str.ofString "symbol"), .str (Str.ofString "symbol") 629, .ref 338⟩]
noncomputable def e4 (P : Params) : List DictEntry :=
  [⟨PyData.keyHash P (Str.ofString "is_vector"), .str (Str.ofString "is_vector") 636, .ref 345⟩,
   ⟨PyData.keyHash P (Str.ofString "is_function"), .str (Str.ofString "is_function") 643, .ref 352⟩,
   ⟨PyData.keyHash P (Str.ofString "share"), .str (Str.ofString "share") 650, .ref 359⟩,
   ⟨PyData.keyHash P (Str.ofString "needed"), .str (Str.ofString "needed") 660, .ref 366⟩,
   ⟨PyData.keyHash P (Str.ofString "bind_list"), .str (Str.ofString "bind_list") 670, .ref 373⟩,
   ⟨PyData.keyHash P (Str.ofString "evaluation_env"), .str (Str.ofString "evaluation_env") 682, .ref 380⟩,
   ⟨PyData.keyHash P (Str.ofString "tagged_items"), .str (Str.ofString "tagged_items") 695, .ref 387⟩,
   ⟨PyData.keyHash P (Str.ofString "call_with"), .str (Str.ofString "call_with") 701, .ref 392⟩]
noncomputable def e5 (P : Params) : List DictEntry :=
  [⟨PyData.keyHash P (Str.ofString "b_call"), .str (Str.ofString "b_call") 707, .ref 397⟩,
   ⟨PyData.keyHash P (Str.ofString "b_as_call"), .str (Str.ofString "b_as_call") 718, .ref 404⟩,
   ⟨PyData.keyHash P (Str.ofString "b_body"), .str (Str.ofString "b_body") 728, .ref 411⟩,
   ⟨PyData.keyHash P (Str.ofString "b_formals"), .str (Str.ofString "b_formals") 734, .ref 416⟩,
   ⟨PyData.keyHash P (Str.ofString "needed_closure"), .str (Str.ofString "needed_closure") 744, .ref 423⟩,
   ⟨PyData.keyHash P (Str.ofString "b_set_body"), .str (Str.ofString "b_set_body") 755, .ref 430⟩,
   ⟨PyData.keyHash P (Str.ofString "formal_rows"), .str (Str.ofString "formal_rows") 765, .ref 437⟩,
   ⟨PyData.keyHash P (Str.ofString "b_set_formals"), .str (Str.ofString "b_set_formals") 776, .ref 444⟩]
noncomputable def e6 (P : Params) : List DictEntry :=
  [⟨PyData.keyHash P (Str.ofString "b_as_function"), .str (Str.ofString "b_as_function") 791, .ref 451⟩,
   ⟨PyData.keyHash P (Str.ofString "_law_shelf"), .str (Str.ofString "_law_shelf") 802, .ref 458⟩,
   ⟨PyData.keyHash P (Str.ofString "_law_grab"), .str (Str.ofString "_law_grab") 810, .ref 465⟩,
   ⟨PyData.keyHash P (Str.ofString "_law_argument"), .str (Str.ofString "_law_argument") 818, .ref 472⟩,
   ⟨PyData.keyHash P (Str.ofString "_law_shown"), .str (Str.ofString "_law_shown") 824, .ref 477⟩,
   ⟨PyData.keyHash P (Str.ofString "_law_listed"), .str (Str.ofString "_law_listed") 830, .ref 482⟩,
   ⟨PyData.keyHash P (Str.ofString "_law_refused"), .str (Str.ofString "_law_refused") 839, .ref 489⟩,
   ⟨PyData.keyHash P (Str.ofString "_law_formals_told"), .str (Str.ofString "_law_formals_told") 845, .ref 494⟩]
noncomputable def e7 (P : Params) : List DictEntry :=
  [⟨PyData.keyHash P (Str.ofString "law"), .str (Str.ofString "law") 851, .ref 499⟩]
noncomputable def ents (P : Params) : List DictEntry := e0 P ++ (e1 P ++ (e2 P ++ (e3 P ++ (e4 P ++ (e5 P ++ (e6 P ++ (e7 P)))))))
noncomputable def mainAt (P : Params) (k : Nat) (nm : Value) (n : Nat) : Obj := ⟨.type "dict", none, .dict (List.toArray (⟨PyData.keyHash P (Str.ofString "__name__"), .str (Str.ofString "__name__") 165, nm⟩ :: takeE k (ents P))) n, #[]⟩
noncomputable def tabL : List Value :=
  [.int 1 0, .int 0 0, .ref 20, .int 5 0, .int 0 0, .ref 27, .int 9 0, .int 0 0, .ref 32, .int 25 0, .int 0 0, .ref 39, .int 30 0, .int 0 0, .ref 44, .int 36 0, .int 0 0, .ref 51, .int 38 0, .int 0 0, .ref 64, .int 43 0, .int 0 0, .ref 83, .int 96 0, .int 0 0, .ref 144, .int 98 0, .int 0 0, .ref 151, .int 107 0, .int 0 0, .ref 156, .int 113 0, .int 0 0, .ref 162, .int 122 0, .int 0 0, .ref 168, .int 134 0, .int 0 0, .ref 175, .int 139 0, .int 0 0, .ref 196, .int 144 0, .int 0 0, .ref 217, .int 155 0, .int 0 0, .ref 246, .int 161 0, .int 0 0, .ref 267, .int 169 0, .int 0 0, .ref 289, .int 177 0, .int 0 0, .ref 311, .int 179 0, .int 0 0, .ref 318, .int 181 0, .int 0 0, .ref 325, .int 185 0, .int 0 0, .ref 330, .int 187 0, .int 0 0, .ref 337, .int 189 0, .int 0 0, .ref 344, .int 191 0, .int 0 0, .ref 351, .int 193 0, .int 0 0, .ref 358, .int 198 0, .int 0 0, .ref 365, .int 202 0, .int 0 0, .ref 372, .int 209 0, .int 0 0, .ref 379, .int 224 0, .int 0 0, .ref 386, .int 233 0, .int 0 0, .ref 391, .int 235 0, .int 0 0, .ref 396, .int 240 0, .int 0 0, .ref 403, .int 248 0, .int 0 0, .ref 410, .int 253 0, .int 0 0, .ref 415, .int 259 0, .int 0 0, .ref 422, .int 264 0, .int 0 0, .ref 429, .int 267 0, .int 0 0, .ref 436, .int 277 0, .int 0 0, .ref 443, .int 280 0, .int 0 0, .ref 450, .int 295 0, .int 0 0, .ref 457, .int 300 0, .int 0 0, .ref 464, .int 304 0, .int 0 0, .ref 471, .int 313 0, .int 0 0, .ref 476, .int 323 0, .int 0 0, .ref 481, .int 329 0, .int 0 0, .ref 488, .int 335 0, .int 0 0, .ref 493, .int 341 0, .int 0 0, .ref 498]
noncomputable def tabAt (k : Nat) : Obj := ⟨.none, none, .fields (List.toArray (takeV k tabL)), #[]⟩
noncomputable def stat0 (P : Params) : Obj := ⟨.none, none, .dict #[] 0, #[]⟩
noncomputable def stat1 (P : Params) : Obj := ⟨.none, none, .dict #[⟨PyData.keyHash P (Str.ofString "type.__subclasses__.Exception.0"), .str (Str.ofString "type.__subclasses__.Exception.0") 242, .int 55 0⟩, ⟨PyData.keyHash P (Str.ofString "type.__subclasses__.Exception.n"), .str (Str.ofString "type.__subclasses__.Exception.n") 243, .int 1 0⟩] 2, #[]⟩
noncomputable def cov0 : Obj := ⟨.type "type", none, .cls { name := Str.ofString "CoveError", bases := [.type "Exception"], mro := [.ref 55, .type "Exception", .type "BaseException", .type "object"], ns := 54, qualname := Str.ofString "CoveError", hasDict := true, slotNames := [], subclasses := [], abstract := false, collection := none, hasDel := false }, #[some (.ref 46), none, some (.str (Str.ofString "CoveError") 226), some (.str (Str.ofString "CoveError") 234), some (.builtin "Exception.__new__"), some (.bool true)]⟩
noncomputable def cov1 : Obj := ⟨.type "type", none, .cls { name := Str.ofString "CoveError", bases := [.type "Exception"], mro := [.ref 55, .type "Exception", .type "BaseException", .type "object"], ns := 54, qualname := Str.ofString "CoveError", hasDict := true, slotNames := [], subclasses := [.ref 75], abstract := false, collection := none, hasDel := false }, #[some (.ref 46), none, some (.str (Str.ofString "CoveError") 226), some (.str (Str.ofString "CoveError") 234), some (.builtin "Exception.__new__"), some (.bool true)]⟩
noncomputable def benv : Env := { scope := pw.main.scope, locals := mainNs, globals := mainNs, cells := [], code := .ref 13, frame := some 14 }
noncomputable def bE : List Stmt := pw.main.body
noncomputable def cE : Code := .body bE benv
noncomputable def lifeC : Life := { }
noncomputable abbrev qPos : Pos := ⟨0, 0, 0, 0⟩
noncomputable def T0 (P : Params) : BT := treeW P (stat0 P) (mainAt P 8 (.str (Str.ofString "__main__") 164) 9) (tabAt 0) cov0
noncomputable def S0 (P : Params) (os : OsState) : SharedT := ⟨T0 P, 15, lifeC, #[], boot_drawn, 187, os⟩
noncomputable def T1 (P : Params) : BT := treeW P (stat1 P) (mainAt P 14 (.str (Str.ofString "vectorcove.errors") 224) 15) (tabAt 18) cov0
noncomputable def S1 (P : Params) (os : OsState) : SharedT := ⟨T1 P, 59, lifeC, #[], boot_drawn, 246, os⟩
noncomputable def T2 (P : Params) : BT := treeW P (stat1 P) (mainAt P 15 (.str (Str.ofString "vectorcove.callargs") 271) 16) (tabAt 21) cov1
noncomputable def S2 (P : Params) (os : OsState) : SharedT := ⟨T2 P, 78, lifeC, #[], boot_drawn, 273, os⟩
noncomputable def T3 (P : Params) : BT := treeW P (stat1 P) (mainAt P 16 (.str (Str.ofString "vectorcove.callargs") 271) 17) (tabAt 24) cov1
noncomputable def S3 (P : Params) (os : OsState) : SharedT := ⟨T3 P, 139, lifeC, #[], boot_drawn, 356, os⟩
noncomputable def T4 (P : Params) : BT := treeW P (stat1 P) (mainAt P 22 (.str (Str.ofString "vectorcove.values") 392) 23) (tabAt 42) cov1
noncomputable def S4 (P : Params) (os : OsState) : SharedT := ⟨T4 P, 191, lifeC, #[], boot_drawn, 423, os⟩
noncomputable def T5 (P : Params) : BT := treeW P (stat1 P) (mainAt P 23 (.str (Str.ofString "vectorcove.values") 392) 24) (tabAt 45) cov1
noncomputable def S5 (P : Params) (os : OsState) : SharedT := ⟨T5 P, 212, lifeC, #[], boot_drawn, 452, os⟩
noncomputable def T6 (P : Params) : BT := treeW P (stat1 P) (mainAt P 24 (.str (Str.ofString "vectorcove.values") 392) 25) (tabAt 48) cov1
noncomputable def S6 (P : Params) (os : OsState) : SharedT := ⟨T6 P, 241, lifeC, #[], boot_drawn, 494, os⟩
noncomputable def T7 (P : Params) : BT := treeW P (stat1 P) (mainAt P 25 (.str (Str.ofString "vectorcove.values") 392) 26) (tabAt 51) cov1
noncomputable def S7 (P : Params) (os : OsState) : SharedT := ⟨T7 P, 262, lifeC, #[], boot_drawn, 525, os⟩
noncomputable def T8 (P : Params) : BT := treeW P (stat1 P) (mainAt P 26 (.str (Str.ofString "vectorcove.values") 392) 27) (tabAt 54) cov1
noncomputable def S8 (P : Params) (os : OsState) : SharedT := ⟨T8 P, 284, lifeC, #[], boot_drawn, 560, os⟩
noncomputable def T9 (P : Params) : BT := treeW P (stat1 P) (mainAt P 32 (.str (Str.ofString "vectorcove.values") 392) 33) (tabAt 72) cov1
noncomputable def S9 (P : Params) (os : OsState) : SharedT := ⟨T9 P, 339, lifeC, #[], boot_drawn, 630, os⟩
noncomputable def T10 (P : Params) : BT := treeW P (stat1 P) (mainAt P 44 (.str (Str.ofString "vectorcove.langcalls") 683) 45) (tabAt 108) cov1
noncomputable def S10 (P : Params) (os : OsState) : SharedT := ⟨T10 P, 417, lifeC, #[], boot_drawn, 735, os⟩
noncomputable def T11 (P : Params) : BT := treeW P (stat1 P) (mainAt P 56 (.str (Str.ofString "law_pq1324_01") 792) 57) (tabAt 144) cov1
noncomputable def S11 (P : Params) (os : OsState) : SharedT := ⟨T11 P, 495, lifeC, #[], boot_drawn, 846, os⟩
noncomputable def T12 (P : Params) : BT := treeW P (stat1 P) (mainAt P 57 (.str (Str.ofString "law_pq1324_01") 792) 58) (tabAt 147) cov1
noncomputable def S12 (P : Params) (os : OsState) : SharedT := ⟨T12 P, 500, lifeC, #[], boot_drawn, 852, os⟩
noncomputable def l0 : List Stmt := takeS 8 (dropS 0 bE)
noncomputable def P0 (w : World) : Prop := (fun os => segRunT treeTable pw w 11 (some (.ref 6)) 1 356 (S0 w.params os) (piecesOf l0 benv cE ⟨0, 0, 0, 0⟩ [topFrame qPos])) = (fun os => some (Flow.next, S1 w.params os, cE, ⟨36, 0, 37, 8⟩))
noncomputable def l1 : List Stmt := takeS 2 (dropS 8 bE)
noncomputable def P1 (w : World) : Prop := (fun os => segRunT treeTable pw w 11 (some (.ref 6)) 1 255 (S1 w.params os) (piecesOf l1 benv cE ⟨36, 0, 37, 8⟩ [topFrame qPos])) = (fun os => some (Flow.next, S2 w.params os, cE, ⟨42, 0, 42, 8⟩))
noncomputable def l2 : List Stmt := takeS 1 (dropS 10 bE)
noncomputable def P2 (w : World) : Prop := (fun os => segRunT treeTable pw w 11 (some (.ref 6)) 1 419 (S2 w.params os) (piecesOf l2 benv cE ⟨42, 0, 42, 8⟩ [topFrame qPos])) = (fun os => some (Flow.next, S3 w.params os, cE, ⟨43, 0, 95, 82⟩))
noncomputable def l3 : List Stmt := takeS 7 (dropS 11 bE)
noncomputable def P3 (w : World) : Prop := (fun os => segRunT treeTable pw w 11 (some (.ref 6)) 1 374 (S3 w.params os) (piecesOf l3 benv cE ⟨43, 0, 95, 82⟩ [topFrame qPos])) = (fun os => some (Flow.next, S4 w.params os, cE, ⟨134, 0, 138, 25⟩))
noncomputable def l4 : List Stmt := takeS 1 (dropS 18 bE)
noncomputable def P4 (w : World) : Prop := (fun os => segRunT treeTable pw w 11 (some (.ref 6)) 1 223 (S4 w.params os) (piecesOf l4 benv cE ⟨134, 0, 138, 25⟩ [topFrame qPos])) = (fun os => some (Flow.next, S5 w.params os, cE, ⟨139, 0, 143, 25⟩))
noncomputable def l5 : List Stmt := takeS 1 (dropS 19 bE)
noncomputable def P5 (w : World) : Prop := (fun os => segRunT treeTable pw w 11 (some (.ref 6)) 1 261 (S5 w.params os) (piecesOf l5 benv cE ⟨139, 0, 143, 25⟩ [topFrame qPos])) = (fun os => some (Flow.next, S6 w.params os, cE, ⟨144, 0, 154, 16⟩))
noncomputable def l6 : List Stmt := takeS 1 (dropS 20 bE)
noncomputable def P6 (w : World) : Prop := (fun os => segRunT treeTable pw w 11 (some (.ref 6)) 1 225 (S6 w.params os) (piecesOf l6 benv cE ⟨144, 0, 154, 16⟩ [topFrame qPos])) = (fun os => some (Flow.next, S7 w.params os, cE, ⟨155, 0, 160, 25⟩))
noncomputable def l7 : List Stmt := takeS 1 (dropS 21 bE)
noncomputable def P7 (w : World) : Prop := (fun os => segRunT treeTable pw w 11 (some (.ref 6)) 1 230 (S7 w.params os) (piecesOf l7 benv cE ⟨155, 0, 160, 25⟩ [topFrame qPos])) = (fun os => some (Flow.next, S8 w.params os, cE, ⟨161, 0, 168, 24⟩))
noncomputable def l8 : List Stmt := takeS 6 (dropS 22 bE)
noncomputable def P8 (w : World) : Prop := (fun os => segRunT treeTable pw w 11 (some (.ref 6)) 1 373 (S8 w.params os) (piecesOf l8 benv cE ⟨161, 0, 168, 24⟩ [topFrame qPos])) = (fun os => some (Flow.next, S9 w.params os, cE, ⟨187, 0, 188, 23⟩))
noncomputable def l9 : List Stmt := takeS 14 (dropS 28 bE)
noncomputable def P9 (w : World) : Prop := (fun os => segRunT treeTable pw w 11 (some (.ref 6)) 1 378 (S9 w.params os) (piecesOf l9 benv cE ⟨187, 0, 188, 23⟩ [topFrame qPos])) = (fun os => some (Flow.next, S10 w.params os, cE, ⟨253, 0, 258, 70⟩))
noncomputable def l10 : List Stmt := takeS 13 (dropS 42 bE)
noncomputable def P10 (w : World) : Prop := (fun os => segRunT treeTable pw w 11 (some (.ref 6)) 1 377 (S10 w.params os) (piecesOf l10 benv cE ⟨253, 0, 258, 70⟩ [topFrame qPos])) = (fun os => some (Flow.next, S11 w.params os, cE, ⟨335, 0, 340, 80⟩))
noncomputable def l11 : List Stmt := takeS 1 (dropS 55 bE)
noncomputable def P11 (w : World) : Prop := (fun os => segRunT treeTable pw w 11 (some (.ref 6)) 1 27 (S11 w.params os) (piecesOf l11 benv cE ⟨335, 0, 340, 80⟩ [topFrame qPos])) = (fun os => some (Flow.next, S12 w.params os, cE, ⟨341, 0, 385, 101⟩))
noncomputable def keepL : List Nat := [0, 2, 3, 4, 5, 7, 8, 10, 11, 12, 13, 17, 18, 19, 20, 21, 22, 23, 24, 25, 26, 27, 28, 29, 30, 32, 33, 34, 36, 37, 38, 39, 40, 41, 42, 43, 44, 45, 46, 48, 49, 50, 51, 52, 53, 54, 55]
noncomputable abbrev looseL : List Str := [(Str.ofString "match_names"), (Str.ofString "take")]
noncomputable abbrev AF0 : Arguments := by
  refine (?f : (b : Arguments) → pA (stF 0) = b → Arguments) ?b ?h
  case f => exact fun b _ => b
  case h => (conv => lhs; whnf) <;> exact rfl
noncomputable abbrev BF0 : List Stmt := by
  refine (?f : (b : List Stmt) → pB (stF 0) = b → List Stmt) ?b ?h
  case f => exact fun b _ => b
  case h => (conv => lhs; whnf) <;> exact rfl
noncomputable abbrev CF0 : Scope := by
  refine (?f : (b : Scope) → pS (stF 0) = b → Scope) ?b ?h
  case f => exact fun b _ => b
  case h => (conv => lhs; whnf) <;> exact rfl
noncomputable abbrev AF2 : Arguments := by
  refine (?f : (b : Arguments) → pA (stF 2) = b → Arguments) ?b ?h
  case f => exact fun b _ => b
  case h => (conv => lhs; whnf) <;> exact rfl
noncomputable abbrev BF2 : List Stmt := by
  refine (?f : (b : List Stmt) → pB (stF 2) = b → List Stmt) ?b ?h
  case f => exact fun b _ => b
  case h => (conv => lhs; whnf) <;> exact rfl
noncomputable abbrev CF2 : Scope := by
  refine (?f : (b : Scope) → pS (stF 2) = b → Scope) ?b ?h
  case f => exact fun b _ => b
  case h => (conv => lhs; whnf) <;> exact rfl
noncomputable abbrev AF3 : Arguments := by
  refine (?f : (b : Arguments) → pA (stF 3) = b → Arguments) ?b ?h
  case f => exact fun b _ => b
  case h => (conv => lhs; whnf) <;> exact rfl
noncomputable abbrev BF3 : List Stmt := by
  refine (?f : (b : List Stmt) → pB (stF 3) = b → List Stmt) ?b ?h
  case f => exact fun b _ => b
  case h => (conv => lhs; whnf) <;> exact rfl
noncomputable abbrev CF3 : Scope := by
  refine (?f : (b : Scope) → pS (stF 3) = b → Scope) ?b ?h
  case f => exact fun b _ => b
  case h => (conv => lhs; whnf) <;> exact rfl
noncomputable abbrev AF4 : Arguments := by
  refine (?f : (b : Arguments) → pA (stF 4) = b → Arguments) ?b ?h
  case f => exact fun b _ => b
  case h => (conv => lhs; whnf) <;> exact rfl
noncomputable abbrev BF4 : List Stmt := by
  refine (?f : (b : List Stmt) → pB (stF 4) = b → List Stmt) ?b ?h
  case f => exact fun b _ => b
  case h => (conv => lhs; whnf) <;> exact rfl
noncomputable abbrev CF4 : Scope := by
  refine (?f : (b : Scope) → pS (stF 4) = b → Scope) ?b ?h
  case f => exact fun b _ => b
  case h => (conv => lhs; whnf) <;> exact rfl
noncomputable abbrev AF5 : Arguments := by
  refine (?f : (b : Arguments) → pA (stF 5) = b → Arguments) ?b ?h
  case f => exact fun b _ => b
  case h => (conv => lhs; whnf) <;> exact rfl
noncomputable abbrev BF5 : List Stmt := by
  refine (?f : (b : List Stmt) → pB (stF 5) = b → List Stmt) ?b ?h
  case f => exact fun b _ => b
  case h => (conv => lhs; whnf) <;> exact rfl
noncomputable abbrev CF5 : Scope := by
  refine (?f : (b : Scope) → pS (stF 5) = b → Scope) ?b ?h
  case f => exact fun b _ => b
  case h => (conv => lhs; whnf) <;> exact rfl
noncomputable abbrev AM8_0 : Arguments := by
  refine (?f : (b : Arguments) → pA (stM 8 0) = b → Arguments) ?b ?h
  case f => exact fun b _ => b
  case h => (conv => lhs; whnf) <;> exact rfl
noncomputable abbrev BM8_0 : List Stmt := by
  refine (?f : (b : List Stmt) → pB (stM 8 0) = b → List Stmt) ?b ?h
  case f => exact fun b _ => b
  case h => (conv => lhs; whnf) <;> exact rfl
noncomputable abbrev CM8_0 : Scope := by
  refine (?f : (b : Scope) → pS (stM 8 0) = b → Scope) ?b ?h
  case f => exact fun b _ => b
  case h => (conv => lhs; whnf) <;> exact rfl
noncomputable abbrev AM10_0 : Arguments := by
  refine (?f : (b : Arguments) → pA (stM 10 0) = b → Arguments) ?b ?h
  case f => exact fun b _ => b
  case h => (conv => lhs; whnf) <;> exact rfl
noncomputable abbrev BM10_0 : List Stmt := by
  refine (?f : (b : List Stmt) → pB (stM 10 0) = b → List Stmt) ?b ?h
  case f => exact fun b _ => b
  case h => (conv => lhs; whnf) <;> exact rfl
noncomputable abbrev CM10_0 : Scope := by
  refine (?f : (b : Scope) → pS (stM 10 0) = b → Scope) ?b ?h
  case f => exact fun b _ => b
  case h => (conv => lhs; whnf) <;> exact rfl
noncomputable abbrev AM10_1 : Arguments := by
  refine (?f : (b : Arguments) → pA (stM 10 1) = b → Arguments) ?b ?h
  case f => exact fun b _ => b
  case h => (conv => lhs; whnf) <;> exact rfl
noncomputable abbrev BM10_1 : List Stmt := by
  refine (?f : (b : List Stmt) → pB (stM 10 1) = b → List Stmt) ?b ?h
  case f => exact fun b _ => b
  case h => (conv => lhs; whnf) <;> exact rfl
noncomputable abbrev CM10_1 : Scope := by
  refine (?f : (b : Scope) → pS (stM 10 1) = b → Scope) ?b ?h
  case f => exact fun b _ => b
  case h => (conv => lhs; whnf) <;> exact rfl
noncomputable abbrev AM10_2 : Arguments := by
  refine (?f : (b : Arguments) → pA (stM 10 2) = b → Arguments) ?b ?h
  case f => exact fun b _ => b
  case h => (conv => lhs; whnf) <;> exact rfl
noncomputable abbrev BM10_2 : List Stmt := by
  refine (?f : (b : List Stmt) → pB (stM 10 2) = b → List Stmt) ?b ?h
  case f => exact fun b _ => b
  case h => (conv => lhs; whnf) <;> exact rfl
noncomputable abbrev CM10_2 : Scope := by
  refine (?f : (b : Scope) → pS (stM 10 2) = b → Scope) ?b ?h
  case f => exact fun b _ => b
  case h => (conv => lhs; whnf) <;> exact rfl
noncomputable abbrev AM10_3 : Arguments := by
  refine (?f : (b : Arguments) → pA (stM 10 3) = b → Arguments) ?b ?h
  case f => exact fun b _ => b
  case h => (conv => lhs; whnf) <;> exact rfl
noncomputable abbrev BM10_3 : List Stmt := by
  refine (?f : (b : List Stmt) → pB (stM 10 3) = b → List Stmt) ?b ?h
  case f => exact fun b _ => b
  case h => (conv => lhs; whnf) <;> exact rfl
noncomputable abbrev CM10_3 : Scope := by
  refine (?f : (b : Scope) → pS (stM 10 3) = b → Scope) ?b ?h
  case f => exact fun b _ => b
  case h => (conv => lhs; whnf) <;> exact rfl
noncomputable abbrev AM10_4 : Arguments := by
  refine (?f : (b : Arguments) → pA (stM 10 4) = b → Arguments) ?b ?h
  case f => exact fun b _ => b
  case h => (conv => lhs; whnf) <;> exact rfl
noncomputable abbrev BM10_4 : List Stmt := by
  refine (?f : (b : List Stmt) → pB (stM 10 4) = b → List Stmt) ?b ?h
  case f => exact fun b _ => b
  case h => (conv => lhs; whnf) <;> exact rfl
noncomputable abbrev CM10_4 : Scope := by
  refine (?f : (b : Scope) → pS (stM 10 4) = b → Scope) ?b ?h
  case f => exact fun b _ => b
  case h => (conv => lhs; whnf) <;> exact rfl
noncomputable abbrev AM10_5 : Arguments := by
  refine (?f : (b : Arguments) → pA (stM 10 5) = b → Arguments) ?b ?h
  case f => exact fun b _ => b
  case h => (conv => lhs; whnf) <;> exact rfl
noncomputable abbrev BM10_5 : List Stmt := by
  refine (?f : (b : List Stmt) → pB (stM 10 5) = b → List Stmt) ?b ?h
  case f => exact fun b _ => b
  case h => (conv => lhs; whnf) <;> exact rfl
noncomputable abbrev CM10_5 : Scope := by
  refine (?f : (b : Scope) → pS (stM 10 5) = b → Scope) ?b ?h
  case f => exact fun b _ => b
  case h => (conv => lhs; whnf) <;> exact rfl
noncomputable abbrev AM10_6 : Arguments := by
  refine (?f : (b : Arguments) → pA (stM 10 6) = b → Arguments) ?b ?h
  case f => exact fun b _ => b
  case h => (conv => lhs; whnf) <;> exact rfl
noncomputable abbrev BM10_6 : List Stmt := by
  refine (?f : (b : List Stmt) → pB (stM 10 6) = b → List Stmt) ?b ?h
  case f => exact fun b _ => b
  case h => (conv => lhs; whnf) <;> exact rfl
noncomputable abbrev CM10_6 : Scope := by
  refine (?f : (b : Scope) → pS (stM 10 6) = b → Scope) ?b ?h
  case f => exact fun b _ => b
  case h => (conv => lhs; whnf) <;> exact rfl
noncomputable abbrev AF11 : Arguments := by
  refine (?f : (b : Arguments) → pA (stF 11) = b → Arguments) ?b ?h
  case f => exact fun b _ => b
  case h => (conv => lhs; whnf) <;> exact rfl
noncomputable abbrev BF11 : List Stmt := by
  refine (?f : (b : List Stmt) → pB (stF 11) = b → List Stmt) ?b ?h
  case f => exact fun b _ => b
  case h => (conv => lhs; whnf) <;> exact rfl
noncomputable abbrev CF11 : Scope := by
  refine (?f : (b : Scope) → pS (stF 11) = b → Scope) ?b ?h
  case f => exact fun b _ => b
  case h => (conv => lhs; whnf) <;> exact rfl
noncomputable abbrev AF12 : Arguments := by
  refine (?f : (b : Arguments) → pA (stF 12) = b → Arguments) ?b ?h
  case f => exact fun b _ => b
  case h => (conv => lhs; whnf) <;> exact rfl
noncomputable abbrev BF12 : List Stmt := by
  refine (?f : (b : List Stmt) → pB (stF 12) = b → List Stmt) ?b ?h
  case f => exact fun b _ => b
  case h => (conv => lhs; whnf) <;> exact rfl
noncomputable abbrev CF12 : Scope := by
  refine (?f : (b : Scope) → pS (stF 12) = b → Scope) ?b ?h
  case f => exact fun b _ => b
  case h => (conv => lhs; whnf) <;> exact rfl
noncomputable abbrev AF13 : Arguments := by
  refine (?f : (b : Arguments) → pA (stF 13) = b → Arguments) ?b ?h
  case f => exact fun b _ => b
  case h => (conv => lhs; whnf) <;> exact rfl
noncomputable abbrev BF13 : List Stmt := by
  refine (?f : (b : List Stmt) → pB (stF 13) = b → List Stmt) ?b ?h
  case f => exact fun b _ => b
  case h => (conv => lhs; whnf) <;> exact rfl
noncomputable abbrev CF13 : Scope := by
  refine (?f : (b : Scope) → pS (stF 13) = b → Scope) ?b ?h
  case f => exact fun b _ => b
  case h => (conv => lhs; whnf) <;> exact rfl
noncomputable abbrev AF14 : Arguments := by
  refine (?f : (b : Arguments) → pA (stF 14) = b → Arguments) ?b ?h
  case f => exact fun b _ => b
  case h => (conv => lhs; whnf) <;> exact rfl
noncomputable abbrev BF14 : List Stmt := by
  refine (?f : (b : List Stmt) → pB (stF 14) = b → List Stmt) ?b ?h
  case f => exact fun b _ => b
  case h => (conv => lhs; whnf) <;> exact rfl
noncomputable abbrev CF14 : Scope := by
  refine (?f : (b : Scope) → pS (stF 14) = b → Scope) ?b ?h
  case f => exact fun b _ => b
  case h => (conv => lhs; whnf) <;> exact rfl
noncomputable abbrev AF15 : Arguments := by
  refine (?f : (b : Arguments) → pA (stF 15) = b → Arguments) ?b ?h
  case f => exact fun b _ => b
  case h => (conv => lhs; whnf) <;> exact rfl
noncomputable abbrev BF15 : List Stmt := by
  refine (?f : (b : List Stmt) → pB (stF 15) = b → List Stmt) ?b ?h
  case f => exact fun b _ => b
  case h => (conv => lhs; whnf) <;> exact rfl
noncomputable abbrev CF15 : Scope := by
  refine (?f : (b : Scope) → pS (stF 15) = b → Scope) ?b ?h
  case f => exact fun b _ => b
  case h => (conv => lhs; whnf) <;> exact rfl
noncomputable abbrev AM17_0 : Arguments := by
  refine (?f : (b : Arguments) → pA (stM 17 0) = b → Arguments) ?b ?h
  case f => exact fun b _ => b
  case h => (conv => lhs; whnf) <;> exact rfl
noncomputable abbrev BM17_0 : List Stmt := by
  refine (?f : (b : List Stmt) → pB (stM 17 0) = b → List Stmt) ?b ?h
  case f => exact fun b _ => b
  case h => (conv => lhs; whnf) <;> exact rfl
noncomputable abbrev CM17_0 : Scope := by
  refine (?f : (b : Scope) → pS (stM 17 0) = b → Scope) ?b ?h
  case f => exact fun b _ => b
  case h => (conv => lhs; whnf) <;> exact rfl
noncomputable abbrev AM18_0 : Arguments := by
  refine (?f : (b : Arguments) → pA (stM 18 0) = b → Arguments) ?b ?h
  case f => exact fun b _ => b
  case h => (conv => lhs; whnf) <;> exact rfl
noncomputable abbrev BM18_0 : List Stmt := by
  refine (?f : (b : List Stmt) → pB (stM 18 0) = b → List Stmt) ?b ?h
  case f => exact fun b _ => b
  case h => (conv => lhs; whnf) <;> exact rfl
noncomputable abbrev CM18_0 : Scope := by
  refine (?f : (b : Scope) → pS (stM 18 0) = b → Scope) ?b ?h
  case f => exact fun b _ => b
  case h => (conv => lhs; whnf) <;> exact rfl
noncomputable abbrev AM19_0 : Arguments := by
  refine (?f : (b : Arguments) → pA (stM 19 0) = b → Arguments) ?b ?h
  case f => exact fun b _ => b
  case h => (conv => lhs; whnf) <;> exact rfl
noncomputable abbrev BM19_0 : List Stmt := by
  refine (?f : (b : List Stmt) → pB (stM 19 0) = b → List Stmt) ?b ?h
  case f => exact fun b _ => b
  case h => (conv => lhs; whnf) <;> exact rfl
noncomputable abbrev CM19_0 : Scope := by
  refine (?f : (b : Scope) → pS (stM 19 0) = b → Scope) ?b ?h
  case f => exact fun b _ => b
  case h => (conv => lhs; whnf) <;> exact rfl
noncomputable abbrev AM19_1 : Arguments := by
  refine (?f : (b : Arguments) → pA (stM 19 1) = b → Arguments) ?b ?h
  case f => exact fun b _ => b
  case h => (conv => lhs; whnf) <;> exact rfl
noncomputable abbrev BM19_1 : List Stmt := by
  refine (?f : (b : List Stmt) → pB (stM 19 1) = b → List Stmt) ?b ?h
  case f => exact fun b _ => b
  case h => (conv => lhs; whnf) <;> exact rfl
noncomputable abbrev CM19_1 : Scope := by
  refine (?f : (b : Scope) → pS (stM 19 1) = b → Scope) ?b ?h
  case f => exact fun b _ => b
  case h => (conv => lhs; whnf) <;> exact rfl
noncomputable abbrev AM20_0 : Arguments := by
  refine (?f : (b : Arguments) → pA (stM 20 0) = b → Arguments) ?b ?h
  case f => exact fun b _ => b
  case h => (conv => lhs; whnf) <;> exact rfl
noncomputable abbrev BM20_0 : List Stmt := by
  refine (?f : (b : List Stmt) → pB (stM 20 0) = b → List Stmt) ?b ?h
  case f => exact fun b _ => b
  case h => (conv => lhs; whnf) <;> exact rfl
noncomputable abbrev CM20_0 : Scope := by
  refine (?f : (b : Scope) → pS (stM 20 0) = b → Scope) ?b ?h
  case f => exact fun b _ => b
  case h => (conv => lhs; whnf) <;> exact rfl
noncomputable abbrev AM21_0 : Arguments := by
  refine (?f : (b : Arguments) → pA (stM 21 0) = b → Arguments) ?b ?h
  case f => exact fun b _ => b
  case h => (conv => lhs; whnf) <;> exact rfl
noncomputable abbrev BM21_0 : List Stmt := by
  refine (?f : (b : List Stmt) → pB (stM 21 0) = b → List Stmt) ?b ?h
  case f => exact fun b _ => b
  case h => (conv => lhs; whnf) <;> exact rfl
noncomputable abbrev CM21_0 : Scope := by
  refine (?f : (b : Scope) → pS (stM 21 0) = b → Scope) ?b ?h
  case f => exact fun b _ => b
  case h => (conv => lhs; whnf) <;> exact rfl
noncomputable abbrev AM22_0 : Arguments := by
  refine (?f : (b : Arguments) → pA (stM 22 0) = b → Arguments) ?b ?h
  case f => exact fun b _ => b
  case h => (conv => lhs; whnf) <;> exact rfl
noncomputable abbrev BM22_0 : List Stmt := by
  refine (?f : (b : List Stmt) → pB (stM 22 0) = b → List Stmt) ?b ?h
  case f => exact fun b _ => b
  case h => (conv => lhs; whnf) <;> exact rfl
noncomputable abbrev CM22_0 : Scope := by
  refine (?f : (b : Scope) → pS (stM 22 0) = b → Scope) ?b ?h
  case f => exact fun b _ => b
  case h => (conv => lhs; whnf) <;> exact rfl
noncomputable abbrev AF23 : Arguments := by
  refine (?f : (b : Arguments) → pA (stF 23) = b → Arguments) ?b ?h
  case f => exact fun b _ => b
  case h => (conv => lhs; whnf) <;> exact rfl
noncomputable abbrev BF23 : List Stmt := by
  refine (?f : (b : List Stmt) → pB (stF 23) = b → List Stmt) ?b ?h
  case f => exact fun b _ => b
  case h => (conv => lhs; whnf) <;> exact rfl
noncomputable abbrev CF23 : Scope := by
  refine (?f : (b : Scope) → pS (stF 23) = b → Scope) ?b ?h
  case f => exact fun b _ => b
  case h => (conv => lhs; whnf) <;> exact rfl
noncomputable abbrev AF24 : Arguments := by
  refine (?f : (b : Arguments) → pA (stF 24) = b → Arguments) ?b ?h
  case f => exact fun b _ => b
  case h => (conv => lhs; whnf) <;> exact rfl
noncomputable abbrev BF24 : List Stmt := by
  refine (?f : (b : List Stmt) → pB (stF 24) = b → List Stmt) ?b ?h
  case f => exact fun b _ => b
  case h => (conv => lhs; whnf) <;> exact rfl
noncomputable abbrev CF24 : Scope := by
  refine (?f : (b : Scope) → pS (stF 24) = b → Scope) ?b ?h
  case f => exact fun b _ => b
  case h => (conv => lhs; whnf) <;> exact rfl
noncomputable abbrev AF25 : Arguments := by
  refine (?f : (b : Arguments) → pA (stF 25) = b → Arguments) ?b ?h
  case f => exact fun b _ => b
  case h => (conv => lhs; whnf) <;> exact rfl
noncomputable abbrev BF25 : List Stmt := by
  refine (?f : (b : List Stmt) → pB (stF 25) = b → List Stmt) ?b ?h
  case f => exact fun b _ => b
  case h => (conv => lhs; whnf) <;> exact rfl
noncomputable abbrev CF25 : Scope := by
  refine (?f : (b : Scope) → pS (stF 25) = b → Scope) ?b ?h
  case f => exact fun b _ => b
  case h => (conv => lhs; whnf) <;> exact rfl
noncomputable abbrev AF26 : Arguments := by
  refine (?f : (b : Arguments) → pA (stF 26) = b → Arguments) ?b ?h
  case f => exact fun b _ => b
  case h => (conv => lhs; whnf) <;> exact rfl
noncomputable abbrev BF26 : List Stmt := by
  refine (?f : (b : List Stmt) → pB (stF 26) = b → List Stmt) ?b ?h
  case f => exact fun b _ => b
  case h => (conv => lhs; whnf) <;> exact rfl
noncomputable abbrev CF26 : Scope := by
  refine (?f : (b : Scope) → pS (stF 26) = b → Scope) ?b ?h
  case f => exact fun b _ => b
  case h => (conv => lhs; whnf) <;> exact rfl
noncomputable abbrev AF27 : Arguments := by
  refine (?f : (b : Arguments) → pA (stF 27) = b → Arguments) ?b ?h
  case f => exact fun b _ => b
  case h => (conv => lhs; whnf) <;> exact rfl
noncomputable abbrev BF27 : List Stmt := by
  refine (?f : (b : List Stmt) → pB (stF 27) = b → List Stmt) ?b ?h
  case f => exact fun b _ => b
  case h => (conv => lhs; whnf) <;> exact rfl
noncomputable abbrev CF27 : Scope := by
  refine (?f : (b : Scope) → pS (stF 27) = b → Scope) ?b ?h
  case f => exact fun b _ => b
  case h => (conv => lhs; whnf) <;> exact rfl
noncomputable abbrev AF28 : Arguments := by
  refine (?f : (b : Arguments) → pA (stF 28) = b → Arguments) ?b ?h
  case f => exact fun b _ => b
  case h => (conv => lhs; whnf) <;> exact rfl
noncomputable abbrev BF28 : List Stmt := by
  refine (?f : (b : List Stmt) → pB (stF 28) = b → List Stmt) ?b ?h
  case f => exact fun b _ => b
  case h => (conv => lhs; whnf) <;> exact rfl
noncomputable abbrev CF28 : Scope := by
  refine (?f : (b : Scope) → pS (stF 28) = b → Scope) ?b ?h
  case f => exact fun b _ => b
  case h => (conv => lhs; whnf) <;> exact rfl
noncomputable abbrev AF29 : Arguments := by
  refine (?f : (b : Arguments) → pA (stF 29) = b → Arguments) ?b ?h
  case f => exact fun b _ => b
  case h => (conv => lhs; whnf) <;> exact rfl
noncomputable abbrev BF29 : List Stmt := by
  refine (?f : (b : List Stmt) → pB (stF 29) = b → List Stmt) ?b ?h
  case f => exact fun b _ => b
  case h => (conv => lhs; whnf) <;> exact rfl
noncomputable abbrev CF29 : Scope := by
  refine (?f : (b : Scope) → pS (stF 29) = b → Scope) ?b ?h
  case f => exact fun b _ => b
  case h => (conv => lhs; whnf) <;> exact rfl
noncomputable abbrev AF30 : Arguments := by
  refine (?f : (b : Arguments) → pA (stF 30) = b → Arguments) ?b ?h
  case f => exact fun b _ => b
  case h => (conv => lhs; whnf) <;> exact rfl
noncomputable abbrev BF30 : List Stmt := by
  refine (?f : (b : List Stmt) → pB (stF 30) = b → List Stmt) ?b ?h
  case f => exact fun b _ => b
  case h => (conv => lhs; whnf) <;> exact rfl
noncomputable abbrev CF30 : Scope := by
  refine (?f : (b : Scope) → pS (stF 30) = b → Scope) ?b ?h
  case f => exact fun b _ => b
  case h => (conv => lhs; whnf) <;> exact rfl
noncomputable abbrev AF32 : Arguments := by
  refine (?f : (b : Arguments) → pA (stF 32) = b → Arguments) ?b ?h
  case f => exact fun b _ => b
  case h => (conv => lhs; whnf) <;> exact rfl
noncomputable abbrev BF32 : List Stmt := by
  refine (?f : (b : List Stmt) → pB (stF 32) = b → List Stmt) ?b ?h
  case f => exact fun b _ => b
  case h => (conv => lhs; whnf) <;> exact rfl
noncomputable abbrev CF32 : Scope := by
  refine (?f : (b : Scope) → pS (stF 32) = b → Scope) ?b ?h
  case f => exact fun b _ => b
  case h => (conv => lhs; whnf) <;> exact rfl
noncomputable abbrev AF33 : Arguments := by
  refine (?f : (b : Arguments) → pA (stF 33) = b → Arguments) ?b ?h
  case f => exact fun b _ => b
  case h => (conv => lhs; whnf) <;> exact rfl
noncomputable abbrev BF33 : List Stmt := by
  refine (?f : (b : List Stmt) → pB (stF 33) = b → List Stmt) ?b ?h
  case f => exact fun b _ => b
  case h => (conv => lhs; whnf) <;> exact rfl
noncomputable abbrev CF33 : Scope := by
  refine (?f : (b : Scope) → pS (stF 33) = b → Scope) ?b ?h
  case f => exact fun b _ => b
  case h => (conv => lhs; whnf) <;> exact rfl
noncomputable abbrev AF34 : Arguments := by
  refine (?f : (b : Arguments) → pA (stF 34) = b → Arguments) ?b ?h
  case f => exact fun b _ => b
  case h => (conv => lhs; whnf) <;> exact rfl
noncomputable abbrev BF34 : List Stmt := by
  refine (?f : (b : List Stmt) → pB (stF 34) = b → List Stmt) ?b ?h
  case f => exact fun b _ => b
  case h => (conv => lhs; whnf) <;> exact rfl
noncomputable abbrev CF34 : Scope := by
  refine (?f : (b : Scope) → pS (stF 34) = b → Scope) ?b ?h
  case f => exact fun b _ => b
  case h => (conv => lhs; whnf) <;> exact rfl
noncomputable abbrev AF36 : Arguments := by
  refine (?f : (b : Arguments) → pA (stF 36) = b → Arguments) ?b ?h
  case f => exact fun b _ => b
  case h => (conv => lhs; whnf) <;> exact rfl
noncomputable abbrev BF36 : List Stmt := by
  refine (?f : (b : List Stmt) → pB (stF 36) = b → List Stmt) ?b ?h
  case f => exact fun b _ => b
  case h => (conv => lhs; whnf) <;> exact rfl
noncomputable abbrev CF36 : Scope := by
  refine (?f : (b : Scope) → pS (stF 36) = b → Scope) ?b ?h
  case f => exact fun b _ => b
  case h => (conv => lhs; whnf) <;> exact rfl
noncomputable abbrev AF37 : Arguments := by
  refine (?f : (b : Arguments) → pA (stF 37) = b → Arguments) ?b ?h
  case f => exact fun b _ => b
  case h => (conv => lhs; whnf) <;> exact rfl
noncomputable abbrev BF37 : List Stmt := by
  refine (?f : (b : List Stmt) → pB (stF 37) = b → List Stmt) ?b ?h
  case f => exact fun b _ => b
  case h => (conv => lhs; whnf) <;> exact rfl
noncomputable abbrev CF37 : Scope := by
  refine (?f : (b : Scope) → pS (stF 37) = b → Scope) ?b ?h
  case f => exact fun b _ => b
  case h => (conv => lhs; whnf) <;> exact rfl
noncomputable abbrev AF38 : Arguments := by
  refine (?f : (b : Arguments) → pA (stF 38) = b → Arguments) ?b ?h
  case f => exact fun b _ => b
  case h => (conv => lhs; whnf) <;> exact rfl
noncomputable abbrev BF38 : List Stmt := by
  refine (?f : (b : List Stmt) → pB (stF 38) = b → List Stmt) ?b ?h
  case f => exact fun b _ => b
  case h => (conv => lhs; whnf) <;> exact rfl
noncomputable abbrev CF38 : Scope := by
  refine (?f : (b : Scope) → pS (stF 38) = b → Scope) ?b ?h
  case f => exact fun b _ => b
  case h => (conv => lhs; whnf) <;> exact rfl
noncomputable abbrev AF39 : Arguments := by
  refine (?f : (b : Arguments) → pA (stF 39) = b → Arguments) ?b ?h
  case f => exact fun b _ => b
  case h => (conv => lhs; whnf) <;> exact rfl
noncomputable abbrev BF39 : List Stmt := by
  refine (?f : (b : List Stmt) → pB (stF 39) = b → List Stmt) ?b ?h
  case f => exact fun b _ => b
  case h => (conv => lhs; whnf) <;> exact rfl
noncomputable abbrev CF39 : Scope := by
  refine (?f : (b : Scope) → pS (stF 39) = b → Scope) ?b ?h
  case f => exact fun b _ => b
  case h => (conv => lhs; whnf) <;> exact rfl
noncomputable abbrev AF40 : Arguments := by
  refine (?f : (b : Arguments) → pA (stF 40) = b → Arguments) ?b ?h
  case f => exact fun b _ => b
  case h => (conv => lhs; whnf) <;> exact rfl
noncomputable abbrev BF40 : List Stmt := by
  refine (?f : (b : List Stmt) → pB (stF 40) = b → List Stmt) ?b ?h
  case f => exact fun b _ => b
  case h => (conv => lhs; whnf) <;> exact rfl
noncomputable abbrev CF40 : Scope := by
  refine (?f : (b : Scope) → pS (stF 40) = b → Scope) ?b ?h
  case f => exact fun b _ => b
  case h => (conv => lhs; whnf) <;> exact rfl
noncomputable abbrev AF41 : Arguments := by
  refine (?f : (b : Arguments) → pA (stF 41) = b → Arguments) ?b ?h
  case f => exact fun b _ => b
  case h => (conv => lhs; whnf) <;> exact rfl
noncomputable abbrev BF41 : List Stmt := by
  refine (?f : (b : List Stmt) → pB (stF 41) = b → List Stmt) ?b ?h
  case f => exact fun b _ => b
  case h => (conv => lhs; whnf) <;> exact rfl
noncomputable abbrev CF41 : Scope := by
  refine (?f : (b : Scope) → pS (stF 41) = b → Scope) ?b ?h
  case f => exact fun b _ => b
  case h => (conv => lhs; whnf) <;> exact rfl
noncomputable abbrev AF42 : Arguments := by
  refine (?f : (b : Arguments) → pA (stF 42) = b → Arguments) ?b ?h
  case f => exact fun b _ => b
  case h => (conv => lhs; whnf) <;> exact rfl
noncomputable abbrev BF42 : List Stmt := by
  refine (?f : (b : List Stmt) → pB (stF 42) = b → List Stmt) ?b ?h
  case f => exact fun b _ => b
  case h => (conv => lhs; whnf) <;> exact rfl
noncomputable abbrev CF42 : Scope := by
  refine (?f : (b : Scope) → pS (stF 42) = b → Scope) ?b ?h
  case f => exact fun b _ => b
  case h => (conv => lhs; whnf) <;> exact rfl
noncomputable abbrev AF43 : Arguments := by
  refine (?f : (b : Arguments) → pA (stF 43) = b → Arguments) ?b ?h
  case f => exact fun b _ => b
  case h => (conv => lhs; whnf) <;> exact rfl
noncomputable abbrev BF43 : List Stmt := by
  refine (?f : (b : List Stmt) → pB (stF 43) = b → List Stmt) ?b ?h
  case f => exact fun b _ => b
  case h => (conv => lhs; whnf) <;> exact rfl
noncomputable abbrev CF43 : Scope := by
  refine (?f : (b : Scope) → pS (stF 43) = b → Scope) ?b ?h
  case f => exact fun b _ => b
  case h => (conv => lhs; whnf) <;> exact rfl
noncomputable abbrev AF44 : Arguments := by
  refine (?f : (b : Arguments) → pA (stF 44) = b → Arguments) ?b ?h
  case f => exact fun b _ => b
  case h => (conv => lhs; whnf) <;> exact rfl
noncomputable abbrev BF44 : List Stmt := by
  refine (?f : (b : List Stmt) → pB (stF 44) = b → List Stmt) ?b ?h
  case f => exact fun b _ => b
  case h => (conv => lhs; whnf) <;> exact rfl
noncomputable abbrev CF44 : Scope := by
  refine (?f : (b : Scope) → pS (stF 44) = b → Scope) ?b ?h
  case f => exact fun b _ => b
  case h => (conv => lhs; whnf) <;> exact rfl
noncomputable abbrev AF45 : Arguments := by
  refine (?f : (b : Arguments) → pA (stF 45) = b → Arguments) ?b ?h
  case f => exact fun b _ => b
  case h => (conv => lhs; whnf) <;> exact rfl
noncomputable abbrev BF45 : List Stmt := by
  refine (?f : (b : List Stmt) → pB (stF 45) = b → List Stmt) ?b ?h
  case f => exact fun b _ => b
  case h => (conv => lhs; whnf) <;> exact rfl
noncomputable abbrev CF45 : Scope := by
  refine (?f : (b : Scope) → pS (stF 45) = b → Scope) ?b ?h
  case f => exact fun b _ => b
  case h => (conv => lhs; whnf) <;> exact rfl
noncomputable abbrev AF46 : Arguments := by
  refine (?f : (b : Arguments) → pA (stF 46) = b → Arguments) ?b ?h
  case f => exact fun b _ => b
  case h => (conv => lhs; whnf) <;> exact rfl
noncomputable abbrev BF46 : List Stmt := by
  refine (?f : (b : List Stmt) → pB (stF 46) = b → List Stmt) ?b ?h
  case f => exact fun b _ => b
  case h => (conv => lhs; whnf) <;> exact rfl
noncomputable abbrev CF46 : Scope := by
  refine (?f : (b : Scope) → pS (stF 46) = b → Scope) ?b ?h
  case f => exact fun b _ => b
  case h => (conv => lhs; whnf) <;> exact rfl
noncomputable abbrev AF48 : Arguments := by
  refine (?f : (b : Arguments) → pA (stF 48) = b → Arguments) ?b ?h
  case f => exact fun b _ => b
  case h => (conv => lhs; whnf) <;> exact rfl
noncomputable abbrev BF48 : List Stmt := by
  refine (?f : (b : List Stmt) → pB (stF 48) = b → List Stmt) ?b ?h
  case f => exact fun b _ => b
  case h => (conv => lhs; whnf) <;> exact rfl
noncomputable abbrev CF48 : Scope := by
  refine (?f : (b : Scope) → pS (stF 48) = b → Scope) ?b ?h
  case f => exact fun b _ => b
  case h => (conv => lhs; whnf) <;> exact rfl
noncomputable abbrev AF49 : Arguments := by
  refine (?f : (b : Arguments) → pA (stF 49) = b → Arguments) ?b ?h
  case f => exact fun b _ => b
  case h => (conv => lhs; whnf) <;> exact rfl
noncomputable abbrev BF49 : List Stmt := by
  refine (?f : (b : List Stmt) → pB (stF 49) = b → List Stmt) ?b ?h
  case f => exact fun b _ => b
  case h => (conv => lhs; whnf) <;> exact rfl
noncomputable abbrev CF49 : Scope := by
  refine (?f : (b : Scope) → pS (stF 49) = b → Scope) ?b ?h
  case f => exact fun b _ => b
  case h => (conv => lhs; whnf) <;> exact rfl
noncomputable abbrev AF50 : Arguments := by
  refine (?f : (b : Arguments) → pA (stF 50) = b → Arguments) ?b ?h
  case f => exact fun b _ => b
  case h => (conv => lhs; whnf) <;> exact rfl
noncomputable abbrev BF50 : List Stmt := by
  refine (?f : (b : List Stmt) → pB (stF 50) = b → List Stmt) ?b ?h
  case f => exact fun b _ => b
  case h => (conv => lhs; whnf) <;> exact rfl
noncomputable abbrev CF50 : Scope := by
  refine (?f : (b : Scope) → pS (stF 50) = b → Scope) ?b ?h
  case f => exact fun b _ => b
  case h => (conv => lhs; whnf) <;> exact rfl
noncomputable abbrev AF51 : Arguments := by
  refine (?f : (b : Arguments) → pA (stF 51) = b → Arguments) ?b ?h
  case f => exact fun b _ => b
  case h => (conv => lhs; whnf) <;> exact rfl
noncomputable abbrev BF51 : List Stmt := by
  refine (?f : (b : List Stmt) → pB (stF 51) = b → List Stmt) ?b ?h
  case f => exact fun b _ => b
  case h => (conv => lhs; whnf) <;> exact rfl
noncomputable abbrev CF51 : Scope := by
  refine (?f : (b : Scope) → pS (stF 51) = b → Scope) ?b ?h
  case f => exact fun b _ => b
  case h => (conv => lhs; whnf) <;> exact rfl
noncomputable abbrev AF52 : Arguments := by
  refine (?f : (b : Arguments) → pA (stF 52) = b → Arguments) ?b ?h
  case f => exact fun b _ => b
  case h => (conv => lhs; whnf) <;> exact rfl
noncomputable abbrev BF52 : List Stmt := by
  refine (?f : (b : List Stmt) → pB (stF 52) = b → List Stmt) ?b ?h
  case f => exact fun b _ => b
  case h => (conv => lhs; whnf) <;> exact rfl
noncomputable abbrev CF52 : Scope := by
  refine (?f : (b : Scope) → pS (stF 52) = b → Scope) ?b ?h
  case f => exact fun b _ => b
  case h => (conv => lhs; whnf) <;> exact rfl
noncomputable abbrev AF53 : Arguments := by
  refine (?f : (b : Arguments) → pA (stF 53) = b → Arguments) ?b ?h
  case f => exact fun b _ => b
  case h => (conv => lhs; whnf) <;> exact rfl
noncomputable abbrev BF53 : List Stmt := by
  refine (?f : (b : List Stmt) → pB (stF 53) = b → List Stmt) ?b ?h
  case f => exact fun b _ => b
  case h => (conv => lhs; whnf) <;> exact rfl
noncomputable abbrev CF53 : Scope := by
  refine (?f : (b : Scope) → pS (stF 53) = b → Scope) ?b ?h
  case f => exact fun b _ => b
  case h => (conv => lhs; whnf) <;> exact rfl
noncomputable abbrev AF54 : Arguments := by
  refine (?f : (b : Arguments) → pA (stF 54) = b → Arguments) ?b ?h
  case f => exact fun b _ => b
  case h => (conv => lhs; whnf) <;> exact rfl
noncomputable abbrev BF54 : List Stmt := by
  refine (?f : (b : List Stmt) → pB (stF 54) = b → List Stmt) ?b ?h
  case f => exact fun b _ => b
  case h => (conv => lhs; whnf) <;> exact rfl
noncomputable abbrev CF54 : Scope := by
  refine (?f : (b : Scope) → pS (stF 54) = b → Scope) ?b ?h
  case f => exact fun b _ => b
  case h => (conv => lhs; whnf) <;> exact rfl
noncomputable abbrev AF55 : Arguments := by
  refine (?f : (b : Arguments) → pA (stF 55) = b → Arguments) ?b ?h
  case f => exact fun b _ => b
  case h => (conv => lhs; whnf) <;> exact rfl
noncomputable abbrev BF55 : List Stmt := by
  refine (?f : (b : List Stmt) → pB (stF 55) = b → List Stmt) ?b ?h
  case f => exact fun b _ => b
  case h => (conv => lhs; whnf) <;> exact rfl
noncomputable abbrev CF55 : Scope := by
  refine (?f : (b : Scope) → pS (stF 55) = b → Scope) ?b ?h
  case f => exact fun b _ => b
  case h => (conv => lhs; whnf) <;> exact rfl
noncomputable def asK : List Addr := [2, 3, 20, 21, 27, 28, 32, 33, 39, 40, 44, 45, 54, 55, 56, 71, 72, 74, 75, 90, 91, 97, 98, 104, 105, 111, 112, 118, 119, 125, 126, 130, 131, 133, 134, 135, 136, 144, 145, 151, 152, 156, 157, 158, 162, 163, 164, 168, 169, 182, 183, 185, 186, 187, 188, 203, 204, 206, 207, 208, 209, 219, 225, 226, 232, 233, 235, 236, 237, 238, 253, 254, 256, 257, 258, 259, 269, 275, 276, 278, 279, 280, 281, 291, 297, 298, 300, 301, 302, 303, 311, 312, 318, 319, 325, 326, 330, 331, 337, 338, 344, 345, 351, 352, 358, 359, 365, 366, 372, 373, 379, 380, 386, 387, 391, 392, 396, 397, 403, 404, 410, 411, 415, 416, 422, 423, 429, 430, 436, 437, 443, 444, 450, 451, 457, 458, 464, 465, 471, 472, 476, 477, 481, 482, 488, 489, 493, 494, 498, 499]
noncomputable def KT (P : Params) : Frag := asK.map fun a => (a, obj P a)
noncomputable def KX (P : Params) : Frag :=
  (nat_lit 2, ⟨.none, none, .dict #[⟨PyData.keyHash P (Str.ofString "type.__subclasses__.Exception.0"), .str (Str.ofString "type.__subclasses__.Exception.0") 242, .int 55 0⟩, ⟨PyData.keyHash P (Str.ofString "type.__subclasses__.Exception.n"), .str (Str.ofString "type.__subclasses__.Exception.n") 243, .int 1 0⟩] 2, #[]⟩) ::
  (nat_lit 3, ⟨.type "dict", none, .dict #[⟨PyData.keyHash P (Str.ofString "__name__"), .str (Str.ofString "__name__") 165, .str (Str.ofString "law_pq1324_01") 792⟩, ⟨PyData.keyHash P (Str.ofString "__doc__"), .str (Str.ofString "__doc__") 166, .none⟩, ⟨PyData.keyHash P (Str.ofString "__package__"), .str (Str.ofString "__package__") 167, .none⟩, ⟨PyData.keyHash P (Str.ofString "__loader__"), .str (Str.ofString "__loader__") 168, .builtin "__main__.__loader__#opaque"⟩, ⟨PyData.keyHash P (Str.ofString "__spec__"), .str (Str.ofString "__spec__") 169, .none⟩, ⟨PyData.keyHash P (Str.ofString "__annotations__"), .str (Str.ofString "__annotations__") 170, .ref 6⟩, ⟨PyData.keyHash P (Str.ofString "__builtins__"), .str (Str.ofString "__builtins__") 171, .ref 4⟩, ⟨PyData.keyHash P (Str.ofString "__file__"), .str (Str.ofString "__file__") 173, .str (Str.ofString "/claim/cut.py") 172⟩, ⟨PyData.keyHash P (Str.ofString "__cached__"), .str (Str.ofString "__cached__") 174, .none⟩, ⟨PyData.keyHash P (Str.ofString "_wall"), .str (Str.ofString "_wall") 193, .ref 21⟩, ⟨PyData.keyHash P (Str.ofString "get_attr"), .str (Str.ofString "get_attr") 203, .ref 28⟩, ⟨PyData.keyHash P (Str.ofString "names_of"), .str (Str.ofString "names_of") 209, .ref 33⟩, ⟨PyData.keyHash P (Str.ofString "dim_of"), .str (Str.ofString "dim_of") 217, .ref 40⟩, ⟨PyData.keyHash P (Str.ofString "dimnames_of"), .str (Str.ofString "dimnames_of") 223, .ref 45⟩, ⟨PyData.keyHash P (Str.ofString "CoveError"), .str (Str.ofString "CoveError") 245, .ref 55⟩, ⟨PyData.keyHash P (Str.ofString "Refusal"), .str (Str.ofString "Refusal") 270, .ref 75⟩, ⟨PyData.keyHash P (Str.ofString "Matching"), .str (Str.ofString "Matching") 355, .ref 134⟩, ⟨PyData.keyHash P (Str.ofString "doubled_text"), .str (Str.ofString "doubled_text") 362, .ref 145⟩, ⟨PyData.keyHash P (Str.ofString "argument_text"), .str (Str.ofString "argument_text") 373, .ref 152⟩, ⟨PyData.keyHash P (Str.ofString "unused_text"), .str (Str.ofString "unused_text") 379, .ref 157⟩, ⟨PyData.keyHash P (Str.ofString "match_names"), .str (Str.ofString "match_names") 385, .ref 163⟩, ⟨PyData.keyHash P (Str.ofString "take"), .str (Str.ofString "take") 391, .ref 169⟩, ⟨PyData.keyHash P (Str.ofString "Null"), .str (Str.ofString "Null") 422, .ref 186⟩, ⟨PyData.keyHash P (Str.ofString "Missing"), .str (Str.ofString "Missing") 451, .ref 207⟩, ⟨PyData.keyHash P (Str.ofString "Vector"), .str (Str.ofString "Vector") 493, .ref 236⟩, ⟨PyData.keyHash P (Str.ofString "Symbol"), .str (Str.ofString "Symbol") 524, .ref 257⟩, ⟨PyData.keyHash P (Str.ofString "Call"), .str (Str.ofString "Call") 559, .ref 279⟩, ⟨PyData.keyHash P (Str.ofString "Closure"), .str (Str.ofString "Closure") 595, .ref 301⟩, ⟨PyData.keyHash P (Str.ofString "null"), .str (Str.ofString "null") 601, .ref 312⟩, ⟨PyData.keyHash P (Str.ofString "character"), .str (Str.ofString "character") 608, .ref 319⟩, ⟨PyData.keyHash P (Str.ofString "named"), .str (Str.ofString "named") 616, .ref 326⟩, ⟨PyData.keyHash P (Str.ofString "pairlist_of"), .str (Str.ofString "pairlist_of") 622, .ref 331⟩, ⟨PyData.keyHash P (Str.ofString "symbol"), .str (Str.ofString "symbol") 629, .ref 338⟩, ⟨PyData.keyHash P (Str.ofString "is_vector"), .str (Str.ofString "is_vector") 636, .ref 345⟩, ⟨PyData.keyHash P (Str.ofString "is_function"), .str (Str.ofString "is_function") 643, .ref 352⟩, ⟨PyData.keyHash P (Str.ofString "share"), .str (Str.ofString "share") 650, .ref 359⟩, ⟨PyData.keyHash P (Str.ofString "needed"), .str (Str.ofString "needed") 660, .ref 366⟩, ⟨PyData.keyHash P (Str.ofString "bind_list"), .str (Str.ofString "bind_list") 670, .ref 373⟩, ⟨PyData.keyHash P (Str.ofString "evaluation_env"), .str (Str.ofString "evaluation_env") 682, .ref 380⟩, ⟨PyData.keyHash P (Str.ofString "tagged_items"), .str (Str.ofString "tagged_items") 695, .ref 387⟩, ⟨PyData.keyHash P (Str.ofString "call_with"), .str (Str.ofString "call_with") 701, .ref 392⟩, ⟨PyData.keyHash P (Str.ofString "b_call"), .str (Str.ofString "b_call") 707, .ref 397⟩, ⟨PyData.keyHash P (Str.ofString "b_as_call"), .str (Str.ofString "b_as_call") 718, .ref 404⟩, ⟨PyData.keyHash P (Str.ofString "b_body"), .str (Str.ofString "b_body") 728, .ref 411⟩, ⟨PyData.keyHash P (Str.ofString "b_formals"), .str (Str.ofString "b_formals") 734, .ref 416⟩, ⟨PyData.keyHash P (Str.ofString "needed_closure"), .str (Str.ofString "needed_closure") 744, .ref 423⟩, ⟨PyData.keyHash P (Str.ofString "b_set_body"), .str (Str.ofString "b_set_body") 755, .ref 430⟩, ⟨PyData.keyHash P (Str.ofString "formal_rows"), .str (Str.ofString "formal_rows") 765, .ref 437⟩, ⟨PyData.keyHash P (Str.ofString "b_set_formals"), .str (Str.ofString "b_set_formals") 776, .ref 444⟩, ⟨PyData.keyHash P (Str.ofString "b_as_function"), .str (Str.ofString "b_as_function") 791, .ref 451⟩, ⟨PyData.keyHash P (Str.ofString "_law_shelf"), .str (Str.ofString "_law_shelf") 802, .ref 458⟩, ⟨PyData.keyHash P (Str.ofString "_law_grab"), .str (Str.ofString "_law_grab") 810, .ref 465⟩, ⟨PyData.keyHash P (Str.ofString "_law_argument"), .str (Str.ofString "_law_argument") 818, .ref 472⟩, ⟨PyData.keyHash P (Str.ofString "_law_shown"), .str (Str.ofString "_law_shown") 824, .ref 477⟩, ⟨PyData.keyHash P (Str.ofString "_law_listed"), .str (Str.ofString "_law_listed") 830, .ref 482⟩, ⟨PyData.keyHash P (Str.ofString "_law_refused"), .str (Str.ofString "_law_refused") 839, .ref 489⟩, ⟨PyData.keyHash P (Str.ofString "_law_formals_told"), .str (Str.ofString "_law_formals_told") 845, .ref 494⟩, ⟨PyData.keyHash P (Str.ofString "law"), .str (Str.ofString "law") 851, .ref 499⟩] 58, #[]⟩) ::
  (nat_lit 20, ⟨.type "code", none, .fields #[.str (Str.ofString "_wall") 187, .str (Str.ofString "_wall") 188, .str (Str.ofString "/claim/cut.py") 189, .int 1 0, .int 1 0, .int 0 0, .int 0 0, .int 3 0, .ref 15, .bool true, .int 181 0, .ref 16, .none, .ref 17, .ref 18, .ref 19, .int 191 0, .int 1 0, .str (Str.ofString "/claim/cut.py") 192], #[]⟩) ::
  (nat_lit 21, ⟨.type "function", none, .func { name := Str.ofString "_wall", qualname := Str.ofString "_wall", params := AF0, body := .stmts BF0, scope := CF0, globals := 3, closure := [], defaults := .none, kwdefaults := .none, doc := .none, pyModule := .str (Str.ofString "__main__") 164, annotations := none, code := .ref 20, closureTuple := .none, builtins := 0 }, #[]⟩) ::
  (nat_lit 27, ⟨.type "code", none, .fields #[.str (Str.ofString "get_attr") 196, .str (Str.ofString "get_attr") 197, .str (Str.ofString "/claim/cut.py") 198, .int 5 0, .int 2 0, .int 0 0, .int 0 0, .int 3 0, .ref 22, .bool true, .int 181 0, .ref 23, .none, .ref 24, .ref 25, .ref 26, .int 201 0, .int 5 0, .str (Str.ofString "/claim/cut.py") 202], #[]⟩) ::
  (nat_lit 28, ⟨.type "function", none, .func { name := Str.ofString "get_attr", qualname := Str.ofString "get_attr", params := AF2, body := .stmts BF2, scope := CF2, globals := 3, closure := [], defaults := .none, kwdefaults := .none, doc := .none, pyModule := .str (Str.ofString "vectorcove.attrs") 194, annotations := none, code := .ref 27, closureTuple := .none, builtins := 0 }, #[]⟩) ::
  (nat_lit 32, ⟨.type "code", none, .fields #[.str (Str.ofString "names_of") 204, .str (Str.ofString "names_of") 205, .str (Str.ofString "/claim/cut.py") 206, .int 9 0, .int 1 0, .int 0 0, .int 0 0, .int 3 0, .ref 29, .bool true, .int 181 0, .ref 30, .none, .none, .none, .ref 31, .int 207 0, .int 9 0, .str (Str.ofString "/claim/cut.py") 208], #[]⟩) ::
  (nat_lit 33, ⟨.type "function", none, .func { name := Str.ofString "names_of", qualname := Str.ofString "names_of", params := AF3, body := .stmts BF3, scope := CF3, globals := 3, closure := [], defaults := .none, kwdefaults := .none, doc := .none, pyModule := .str (Str.ofString "vectorcove.attrs") 194, annotations := none, code := .ref 32, closureTuple := .none, builtins := 0 }, #[]⟩) ::
  (nat_lit 39, ⟨.type "code", none, .fields #[.str (Str.ofString "dim_of") 210, .str (Str.ofString "dim_of") 211, .str (Str.ofString "/claim/cut.py") 212, .int 25 0, .int 1 0, .int 0 0, .int 0 0, .int 3 0, .ref 34, .bool true, .int 181 0, .ref 35, .none, .ref 36, .ref 37, .ref 38, .int 215 0, .int 25 0, .str (Str.ofString "/claim/cut.py") 216], #[]⟩) ::
  (nat_lit 40, ⟨.type "function", none, .func { name := Str.ofString "dim_of", qualname := Str.ofString "dim_of", params := AF4, body := .stmts BF4, scope := CF4, globals := 3, closure := [], defaults := .none, kwdefaults := .none, doc := .none, pyModule := .str (Str.ofString "vectorcove.attrs") 194, annotations := none, code := .ref 39, closureTuple := .none, builtins := 0 }, #[]⟩) ::
  (nat_lit 44, ⟨.type "code", none, .fields #[.str (Str.ofString "dimnames_of") 218, .str (Str.ofString "dimnames_of") 219, .str (Str.ofString "/claim/cut.py") 220, .int 30 0, .int 1 0, .int 0 0, .int 0 0, .int 3 0, .ref 41, .bool true, .int 181 0, .ref 42, .none, .none, .none, .ref 43, .int 221 0, .int 30 0, .str (Str.ofString "/claim/cut.py") 222], #[]⟩) ::
  (nat_lit 45, ⟨.type "function", none, .func { name := Str.ofString "dimnames_of", qualname := Str.ofString "dimnames_of", params := AF5, body := .stmts BF5, scope := CF5, globals := 3, closure := [], defaults := .none, kwdefaults := .none, doc := .none, pyModule := .str (Str.ofString "vectorcove.attrs") 194, annotations := none, code := .ref 44, closureTuple := .none, builtins := 0 }, #[]⟩) ::
  (nat_lit 54, ⟨.type "dict", none, .dict #[⟨PyData.keyHash P (Str.ofString "__module__"), .str (Str.ofString "__module__") 233, .str (Str.ofString "vectorcove.errors") 224⟩, ⟨PyData.keyHash P (Str.ofString "__firstlineno__"), .str (Str.ofString "__firstlineno__") 237, .int 36 236⟩, ⟨PyData.keyHash P (Str.ofString "__static_attributes__"), .str (Str.ofString "__static_attributes__") 238, .ref 53⟩, ⟨PyData.keyHash P (Str.ofString "__weakref__"), .str (Str.ofString "__weakref__") 240, .ref 56⟩, ⟨PyData.keyHash P (Str.ofString "__doc__"), .str (Str.ofString "__doc__") 241, .none⟩] 3, #[]⟩) ::
  (nat_lit 55, ⟨.type "type", none, .cls { name := Str.ofString "CoveError", bases := [.type "Exception"], mro := [.ref 55, .type "Exception", .type "BaseException", .type "object"], ns := 54, qualname := Str.ofString "CoveError", hasDict := true, slotNames := [], subclasses := [.ref 75], abstract := false, collection := none, hasDel := false }, #[some (.ref 46), none, some (.str (Str.ofString "CoveError") 226), some (.str (Str.ofString "CoveError") 234), some (.builtin "Exception.__new__"), some (.bool true)]⟩) ::
  (nat_lit 56, ⟨.type "getset_descriptor", none, .fields #[.str (Str.ofString "__weakref__") 239, .ref 55, .builtin "ExceptionGroup.__weakref__", .none], #[]⟩) ::
  (nat_lit 71, ⟨.type "code", none, .fields #[.str (Str.ofString "__init__") 258, .str (Str.ofString "Refusal.__init__") 259, .str (Str.ofString "/claim/cut.py") 260, .int 40 0, .int 2 0, .int 0 0, .int 0 0, .int 3 0, .ref 66, .bool true, .int 181 0, .ref 67, .none, .ref 68, .ref 69, .ref 70, .int 263 0, .int 40 0, .str (Str.ofString "/claim/cut.py") 264], #[]⟩) ::
  (nat_lit 72, ⟨.type "function", none, .func { name := Str.ofString "__init__", qualname := Str.ofString "Refusal.__init__", params := AM8_0, body := .stmts BM8_0, scope := CM8_0, globals := 3, closure := [], defaults := .none, kwdefaults := .none, doc := .none, pyModule := .str (Str.ofString "vectorcove.errors") 224, annotations := none, code := .ref 71, closureTuple := .none, builtins := 0 }, #[]⟩) ::
  (nat_lit 74, ⟨.type "dict", none, .dict #[⟨PyData.keyHash P (Str.ofString "__module__"), .str (Str.ofString "__module__") 253, .str (Str.ofString "vectorcove.errors") 224⟩, ⟨PyData.keyHash P (Str.ofString "__firstlineno__"), .str (Str.ofString "__firstlineno__") 257, .int 38 256⟩, ⟨PyData.keyHash P (Str.ofString "__init__"), .str (Str.ofString "__init__") 265, .ref 72⟩, ⟨PyData.keyHash P (Str.ofString "__static_attributes__"), .str (Str.ofString "__static_attributes__") 267, .ref 73⟩, ⟨PyData.keyHash P (Str.ofString "__doc__"), .str (Str.ofString "__doc__") 268, .none⟩] 2, #[]⟩) ::
  (nat_lit 75, ⟨.type "type", none, .cls { name := Str.ofString "Refusal", bases := [.ref 55], mro := [.ref 75, .ref 55, .type "Exception", .type "BaseException", .type "object"], ns := 74, qualname := Str.ofString "Refusal", hasDict := true, slotNames := [], subclasses := [], abstract := false, collection := none, hasDel := false }, #[some (.ref 59), none, some (.str (Str.ofString "Refusal") 246), some (.str (Str.ofString "Refusal") 254), some (.builtin "Exception.__new__"), some (.bool true)]⟩) ::
  (nat_lit 90, ⟨.type "code", none, .fields #[.str (Str.ofString "__init__") 285, .str (Str.ofString "Matching.__init__") 286, .str (Str.ofString "/claim/cut.py") 287, .int 45 0, .int 3 0, .int 0 0, .int 0 0, .int 3 0, .ref 85, .bool true, .int 181 0, .ref 86, .none, .ref 87, .ref 88, .ref 89, .int 291 0, .int 45 0, .str (Str.ofString "/claim/cut.py") 292], #[]⟩) ::
  (nat_lit 91, ⟨.type "function", none, .func { name := Str.ofString "__init__", qualname := Str.ofString "Matching.__init__", params := AM10_0, body := .stmts BM10_0, scope := CM10_0, globals := 3, closure := [], defaults := .none, kwdefaults := .none, doc := .none, pyModule := .str (Str.ofString "vectorcove.callargs") 271, annotations := none, code := .ref 90, closureTuple := .none, builtins := 0 }, #[]⟩) ::
  (nat_lit 97, ⟨.type "code", none, .fields #[.str (Str.ofString "exact") 294, .str (Str.ofString "Matching.exact") 295, .str (Str.ofString "/claim/cut.py") 296, .int 51 0, .int 1 0, .int 0 0, .int 0 0, .int 3 0, .ref 92, .bool true, .int 181 0, .ref 93, .none, .ref 94, .ref 95, .ref 96, .int 300 0, .int 51 0, .str (Str.ofString "/claim/cut.py") 301], #[]⟩) ::
  (nat_lit 98, ⟨.type "function", none, .func { name := Str.ofString "exact", qualname := Str.ofString "Matching.exact", params := AM10_1, body := .stmts BM10_1, scope := CM10_1, globals := 3, closure := [], defaults := .none, kwdefaults := .none, doc := .none, pyModule := .str (Str.ofString "vectorcove.callargs") 271, annotations := none, code := .ref 97, closureTuple := .none, builtins := 0 }, #[]⟩) ::
  (nat_lit 104, ⟨.type "code", none, .fields #[.str (Str.ofString "partial") 303, .str (Str.ofString "Matching.partial") 304, .str (Str.ofString "/claim/cut.py") 305, .int 61 0, .int 1 0, .int 0 0, .int 0 0, .int 3 0, .ref 99, .bool true, .int 181 0, .ref 100, .none, .ref 101, .ref 102, .ref 103, .int 308 0, .int 61 0, .str (Str.ofString "/claim/cut.py") 309], #[]⟩) ::
  (nat_lit 105, ⟨.type "function", none, .func { name := Str.ofString "partial", qualname := Str.ofString "Matching.partial", params := AM10_2, body := .stmts BM10_2, scope := CM10_2, globals := 3, closure := [], defaults := .none, kwdefaults := .none, doc := .none, pyModule := .str (Str.ofString "vectorcove.callargs") 271, annotations := none, code := .ref 104, closureTuple := .none, builtins := 0 }, #[]⟩) ::
  (nat_lit 111, ⟨.type "code", none, .fields #[.str (Str.ofString "partial_of") 311, .str (Str.ofString "Matching.partial_of") 312, .str (Str.ofString "/claim/cut.py") 313, .int 68 0, .int 2 0, .int 0 0, .int 0 0, .int 3 0, .ref 106, .bool true, .int 181 0, .ref 107, .none, .ref 108, .ref 109, .ref 110, .int 318 0, .int 68 0, .str (Str.ofString "/claim/cut.py") 319], #[]⟩) ::
  (nat_lit 112, ⟨.type "function", none, .func { name := Str.ofString "partial_of", qualname := Str.ofString "Matching.partial_of", params := AM10_3, body := .stmts BM10_3, scope := CM10_3, globals := 3, closure := [], defaults := .none, kwdefaults := .none, doc := .none, pyModule := .str (Str.ofString "vectorcove.callargs") 271, annotations := none, code := .ref 111, closureTuple := .none, builtins := 0 }, #[]⟩) ::
  (nat_lit 118, ⟨.type "code", none, .fields #[.str (Str.ofString "positional") 321, .str (Str.ofString "Matching.positional") 322, .str (Str.ofString "/claim/cut.py") 323, .int 79 0, .int 1 0, .int 0 0, .int 0 0, .int 3 0, .ref 113, .bool true, .int 181 0, .ref 114, .none, .ref 115, .ref 116, .ref 117, .int 327 0, .int 79 0, .str (Str.ofString "/claim/cut.py") 328], #[]⟩) ::
  (nat_lit 119, ⟨.type "function", none, .func { name := Str.ofString "positional", qualname := Str.ofString "Matching.positional", params := AM10_4, body := .stmts BM10_4, scope := CM10_4, globals := 3, closure := [], defaults := .none, kwdefaults := .none, doc := .none, pyModule := .str (Str.ofString "vectorcove.callargs") 271, annotations := none, code := .ref 118, closureTuple := .none, builtins := 0 }, #[]⟩) ::
  (nat_lit 125, ⟨.type "code", none, .fields #[.str (Str.ofString "is_free") 330, .str (Str.ofString "Matching.is_free") 331, .str (Str.ofString "/claim/cut.py") 332, .int 91 0, .int 2 0, .int 0 0, .int 0 0, .int 3 0, .ref 120, .bool true, .int 181 0, .ref 121, .none, .ref 122, .ref 123, .ref 124, .int 335 0, .int 91 0, .str (Str.ofString "/claim/cut.py") 336], #[]⟩) ::
  (nat_lit 126, ⟨.type "function", none, .func { name := Str.ofString "is_free", qualname := Str.ofString "Matching.is_free", params := AM10_5, body := .stmts BM10_5, scope := CM10_5, globals := 3, closure := [], defaults := .none, kwdefaults := .none, doc := .none, pyModule := .str (Str.ofString "vectorcove.callargs") 271, annotations := none, code := .ref 125, closureTuple := .none, builtins := 0 }, #[]⟩) ::
  (nat_lit 130, ⟨.type "code", none, .fields #[.str (Str.ofString "rest") 338, .str (Str.ofString "Matching.rest") 339, .str (Str.ofString "/claim/cut.py") 340, .int 94 0, .int 1 0, .int 0 0, .int 0 0, .int 3 0, .ref 127, .bool true, .int 181 0, .ref 128, .none, .none, .none, .ref 129, .int 341 0, .int 94 0, .str (Str.ofString "/claim/cut.py") 342], #[]⟩) ::
  (nat_lit 131, ⟨.type "function", none, .func { name := Str.ofString "rest", qualname := Str.ofString "Matching.rest", params := AM10_6, body := .stmts BM10_6, scope := CM10_6, globals := 3, closure := [], defaults := .none, kwdefaults := .none, doc := .none, pyModule := .str (Str.ofString "vectorcove.callargs") 271, annotations := none, code := .ref 130, closureTuple := .none, builtins := 0 }, #[]⟩) ::
  (nat_lit 133, ⟨.type "dict", none, .dict #[⟨PyData.keyHash P (Str.ofString "__module__"), .str (Str.ofString "__module__") 280, .str (Str.ofString "vectorcove.callargs") 271⟩, ⟨PyData.keyHash P (Str.ofString "__firstlineno__"), .str (Str.ofString "__firstlineno__") 284, .int 43 283⟩, ⟨PyData.keyHash P (Str.ofString "__init__"), .str (Str.ofString "__init__") 293, .ref 91⟩, ⟨PyData.keyHash P (Str.ofString "exact"), .str (Str.ofString "exact") 302, .ref 98⟩, ⟨PyData.keyHash P (Str.ofString "partial"), .str (Str.ofString "partial") 310, .ref 105⟩, ⟨PyData.keyHash P (Str.ofString "partial_of"), .str (Str.ofString "partial_of") 320, .ref 112⟩, ⟨PyData.keyHash P (Str.ofString "positional"), .str (Str.ofString "positional") 329, .ref 119⟩, ⟨PyData.keyHash P (Str.ofString "is_free"), .str (Str.ofString "is_free") 337, .ref 126⟩, ⟨PyData.keyHash P (Str.ofString "rest"), .str (Str.ofString "rest") 343, .ref 131⟩, ⟨PyData.keyHash P (Str.ofString "__static_attributes__"), .str (Str.ofString "__static_attributes__") 348, .ref 132⟩, ⟨PyData.keyHash P (Str.ofString "__dict__"), .str (Str.ofString "__dict__") 350, .ref 135⟩, ⟨PyData.keyHash P (Str.ofString "__weakref__"), .str (Str.ofString "__weakref__") 352, .ref 136⟩, ⟨PyData.keyHash P (Str.ofString "__doc__"), .str (Str.ofString "__doc__") 353, .none⟩] 4, #[]⟩) ::
  (nat_lit 134, ⟨.type "type", none, .cls { name := Str.ofString "Matching", bases := [.type "object"], mro := [.ref 134, .type "object"], ns := 133, qualname := Str.ofString "Matching", hasDict := true, slotNames := [], subclasses := [], abstract := false, collection := none, hasDel := false }, #[none, none, some (.str (Str.ofString "Matching") 273), some (.str (Str.ofString "Matching") 281), some (.builtin "object.__new__"), some (.bool true)]⟩) ::
  (nat_lit 135, ⟨.type "getset_descriptor", none, .fields #[.str (Str.ofString "__dict__") 349, .ref 134, .builtin "function.__dict__", .builtin "function.__dict__#set"], #[]⟩) ::
  (nat_lit 136, ⟨.type "getset_descriptor", none, .fields #[.str (Str.ofString "__weakref__") 351, .ref 134, .builtin "ExceptionGroup.__weakref__", .none], #[]⟩) ::
  (nat_lit 144, ⟨.type "code", none, .fields #[.str (Str.ofString "doubled_text") 356, .str (Str.ofString "doubled_text") 357, .str (Str.ofString "/claim/cut.py") 358, .int 96 0, .int 1 0, .int 0 0, .int 0 0, .int 3 0, .ref 139, .bool true, .int 181 0, .ref 140, .none, .ref 141, .ref 142, .ref 143, .int 360 0, .int 96 0, .str (Str.ofString "/claim/cut.py") 361], #[]⟩) ::
  (nat_lit 145, ⟨.type "function", none, .func { name := Str.ofString "doubled_text", qualname := Str.ofString "doubled_text", params := AF11, body := .stmts BF11, scope := CF11, globals := 3, closure := [], defaults := .none, kwdefaults := .none, doc := .none, pyModule := .str (Str.ofString "vectorcove.callargs") 271, annotations := none, code := .ref 144, closureTuple := .none, builtins := 0 }, #[]⟩) ::
  (nat_lit 151, ⟨.type "code", none, .fields #[.str (Str.ofString "argument_text") 363, .str (Str.ofString "argument_text") 364, .str (Str.ofString "/claim/cut.py") 365, .int 98 0, .int 3 0, .int 0 0, .int 0 0, .int 3 0, .ref 146, .bool true, .int 181 0, .ref 147, .none, .ref 148, .ref 149, .ref 150, .int 371 0, .int 98 0, .str (Str.ofString "/claim/cut.py") 372], #[]⟩) ::
  (nat_lit 152, ⟨.type "function", none, .func { name := Str.ofString "argument_text", qualname := Str.ofString "argument_text", params := AF12, body := .stmts BF12, scope := CF12, globals := 3, closure := [], defaults := .none, kwdefaults := .none, doc := .none, pyModule := .str (Str.ofString "vectorcove.callargs") 271, annotations := none, code := .ref 151, closureTuple := .none, builtins := 0 }, #[]⟩) ::
  (nat_lit 156, ⟨.type "code", none, .fields #[.str (Str.ofString "unused_text") 374, .str (Str.ofString "unused_text") 375, .str (Str.ofString "/claim/cut.py") 376, .int 107 0, .int 3 0, .int 0 0, .int 0 0, .int 3 0, .ref 153, .bool true, .int 181 0, .ref 154, .none, .none, .none, .ref 155, .int 377 0, .int 107 0, .str (Str.ofString "/claim/cut.py") 378], #[]⟩) ::
  (nat_lit 157, ⟨.type "function", none, .func { name := Str.ofString "unused_text", qualname := Str.ofString "unused_text", params := AF13, body := .stmts BF13, scope := CF13, globals := 3, closure := [], defaults := .none, kwdefaults := .none, doc := .none, pyModule := .str (Str.ofString "vectorcove.callargs") 271, annotations := none, code := .ref 156, closureTuple := .none, builtins := 0 }, #[]⟩) ::
  (nat_lit 158, ⟨.type "tuple", none, .seq #[.none] 0, #[]⟩) ::
  (nat_lit 162, ⟨.type "code", none, .fields #[.str (Str.ofString "match_names") 380, .str (Str.ofString "match_names") 381, .str (Str.ofString "/claim/cut.py") 382, .int 113 0, .int 3 0, .int 0 0, .int 0 0, .int 3 0, .ref 159, .bool true, .int 181 0, .ref 160, .none, .none, .none, .ref 161, .int 383 0, .int 113 0, .str (Str.ofString "/claim/cut.py") 384], #[]⟩) ::
  (nat_lit 163, ⟨.type "function", none, .func { name := Str.ofString "match_names", qualname := Str.ofString "match_names", params := AF14, body := .stmts BF14, scope := CF14, globals := 3, closure := [], defaults := .ref 158, kwdefaults := .none, doc := .none, pyModule := .str (Str.ofString "vectorcove.callargs") 271, annotations := none, code := .ref 162, closureTuple := .none, builtins := 0 }, #[]⟩) ::
  (nat_lit 164, ⟨.type "tuple", none, .seq #[.none] 0, #[]⟩) ::
  (nat_lit 168, ⟨.type "code", none, .fields #[.str (Str.ofString "take") 386, .str (Str.ofString "take") 387, .str (Str.ofString "/claim/cut.py") 388, .int 122 0, .int 3 0, .int 0 0, .int 0 0, .int 3 0, .ref 165, .bool true, .int 181 0, .ref 166, .none, .none, .none, .ref 167, .int 389 0, .int 122 0, .str (Str.ofString "/claim/cut.py") 390], #[]⟩) ::
  (nat_lit 169, ⟨.type "function", none, .func { name := Str.ofString "take", qualname := Str.ofString "take", params := AF15, body := .stmts BF15, scope := CF15, globals := 3, closure := [], defaults := .ref 164, kwdefaults := .none, doc := .none, pyModule := .str (Str.ofString "vectorcove.callargs") 271, annotations := none, code := .ref 168, closureTuple := .none, builtins := 0 }, #[]⟩) ::
  (nat_lit 182, ⟨.type "code", none, .fields #[.str (Str.ofString "__init__") 406, .str (Str.ofString "Null.__init__") 407, .str (Str.ofString "/claim/cut.py") 408, .int 136 0, .int 1 0, .int 0 0, .int 0 0, .int 3 0, .ref 177, .bool true, .int 181 0, .ref 178, .none, .ref 179, .ref 180, .ref 181, .int 410 0, .int 136 0, .str (Str.ofString "/claim/cut.py") 411], #[]⟩) ::
  (nat_lit 183, ⟨.type "function", none, .func { name := Str.ofString "__init__", qualname := Str.ofString "Null.__init__", params := AM17_0, body := .stmts BM17_0, scope := CM17_0, globals := 3, closure := [], defaults := .none, kwdefaults := .none, doc := .none, pyModule := .str (Str.ofString "vectorcove.values") 392, annotations := none, code := .ref 182, closureTuple := .none, builtins := 0 }, #[]⟩) ::
  (nat_lit 185, ⟨.type "dict", none, .dict #[⟨PyData.keyHash P (Str.ofString "__module__"), .str (Str.ofString "__module__") 401, .str (Str.ofString "vectorcove.values") 392⟩, ⟨PyData.keyHash P (Str.ofString "__firstlineno__"), .str (Str.ofString "__firstlineno__") 405, .int 134 404⟩, ⟨PyData.keyHash P (Str.ofString "__init__"), .str (Str.ofString "__init__") 412, .ref 183⟩, ⟨PyData.keyHash P (Str.ofString "__static_attributes__"), .str (Str.ofString "__static_attributes__") 415, .ref 184⟩, ⟨PyData.keyHash P (Str.ofString "__dict__"), .str (Str.ofString "__dict__") 417, .ref 187⟩, ⟨PyData.keyHash P (Str.ofString "__weakref__"), .str (Str.ofString "__weakref__") 419, .ref 188⟩, ⟨PyData.keyHash P (Str.ofString "__doc__"), .str (Str.ofString "__doc__") 420, .none⟩] 4, #[]⟩) ::
  (nat_lit 186, ⟨.type "type", none, .cls { name := Str.ofString "Null", bases := [.type "object"], mro := [.ref 186, .type "object"], ns := 185, qualname := Str.ofString "Null", hasDict := true, slotNames := [], subclasses := [], abstract := false, collection := none, hasDel := false }, #[none, none, some (.str (Str.ofString "Null") 394), some (.str (Str.ofString "Null") 402), some (.builtin "object.__new__"), some (.bool true)]⟩) ::
  (nat_lit 187, ⟨.type "getset_descriptor", none, .fields #[.str (Str.ofString "__dict__") 416, .ref 186, .builtin "function.__dict__", .builtin "function.__dict__#set"], #[]⟩) ::
  (nat_lit 188, ⟨.type "getset_descriptor", none, .fields #[.str (Str.ofString "__weakref__") 418, .ref 186, .builtin "ExceptionGroup.__weakref__", .none], #[]⟩) ::
  (nat_lit 203, ⟨.type "code", none, .fields #[.str (Str.ofString "__init__") 435, .str (Str.ofString "Missing.__init__") 436, .str (Str.ofString "/claim/cut.py") 437, .int 141 0, .int 1 0, .int 0 0, .int 0 0, .int 3 0, .ref 198, .bool true, .int 181 0, .ref 199, .none, .ref 200, .ref 201, .ref 202, .int 439 0, .int 141 0, .str (Str.ofString "/claim/cut.py") 440], #[]⟩) ::
  (nat_lit 204, ⟨.type "function", none, .func { name := Str.ofString "__init__", qualname := Str.ofString "Missing.__init__", params := AM18_0, body := .stmts BM18_0, scope := CM18_0, globals := 3, closure := [], defaults := .none, kwdefaults := .none, doc := .none, pyModule := .str (Str.ofString "vectorcove.values") 392, annotations := none, code := .ref 203, closureTuple := .none, builtins := 0 }, #[]⟩) ::
  (nat_lit 206, ⟨.type "dict", none, .dict #[⟨PyData.keyHash P (Str.ofString "__module__"), .str (Str.ofString "__module__") 430, .str (Str.ofString "vectorcove.values") 392⟩, ⟨PyData.keyHash P (Str.ofString "__firstlineno__"), .str (Str.ofString "__firstlineno__") 434, .int 139 433⟩, ⟨PyData.keyHash P (Str.ofString "__init__"), .str (Str.ofString "__init__") 441, .ref 204⟩, ⟨PyData.keyHash P (Str.ofString "__static_attributes__"), .str (Str.ofString "__static_attributes__") 444, .ref 205⟩, ⟨PyData.keyHash P (Str.ofString "__dict__"), .str (Str.ofString "__dict__") 446, .ref 208⟩, ⟨PyData.keyHash P (Str.ofString "__weakref__"), .str (Str.ofString "__weakref__") 448, .ref 209⟩, ⟨PyData.keyHash P (Str.ofString "__doc__"), .str (Str.ofString "__doc__") 449, .none⟩] 4, #[]⟩) ::
  (nat_lit 207, ⟨.type "type", none, .cls { name := Str.ofString "Missing", bases := [.type "object"], mro := [.ref 207, .type "object"], ns := 206, qualname := Str.ofString "Missing", hasDict := true, slotNames := [], subclasses := [], abstract := false, collection := none, hasDel := false }, #[none, none, some (.str (Str.ofString "Missing") 423), some (.str (Str.ofString "Missing") 431), some (.builtin "object.__new__"), some (.bool true)]⟩) ::
  (nat_lit 208, ⟨.type "getset_descriptor", none, .fields #[.str (Str.ofString "__dict__") 445, .ref 207, .builtin "function.__dict__", .builtin "function.__dict__#set"], #[]⟩) ::
  (nat_lit 209, ⟨.type "getset_descriptor", none, .fields #[.str (Str.ofString "__weakref__") 447, .ref 207, .builtin "ExceptionGroup.__weakref__", .none], #[]⟩) ::
  (nat_lit 219, ⟨.type "tuple", none, .seq #[.none] 0, #[]⟩) ::
  (nat_lit 225, ⟨.type "code", none, .fields #[.str (Str.ofString "__init__") 464, .str (Str.ofString "Vector.__init__") 465, .str (Str.ofString "/claim/cut.py") 466, .int 146 0, .int 4 0, .int 0 0, .int 0 0, .int 3 0, .ref 220, .bool true, .int 181 0, .ref 221, .none, .ref 222, .ref 223, .ref 224, .int 471 0, .int 146 0, .str (Str.ofString "/claim/cut.py") 472], #[]⟩) ::
  (nat_lit 226, ⟨.type "function", none, .func { name := Str.ofString "__init__", qualname := Str.ofString "Vector.__init__", params := AM19_0, body := .stmts BM19_0, scope := CM19_0, globals := 3, closure := [], defaults := .ref 219, kwdefaults := .none, doc := .none, pyModule := .str (Str.ofString "vectorcove.values") 392, annotations := none, code := .ref 225, closureTuple := .none, builtins := 0 }, #[]⟩) ::
  (nat_lit 232, ⟨.type "code", none, .fields #[.str (Str.ofString "copy") 474, .str (Str.ofString "Vector.copy") 475, .str (Str.ofString "/claim/cut.py") 476, .int 153 0, .int 1 0, .int 0 0, .int 0 0, .int 3 0, .ref 227, .bool true, .int 181 0, .ref 228, .none, .ref 229, .ref 230, .ref 231, .int 478 0, .int 153 0, .str (Str.ofString "/claim/cut.py") 479], #[]⟩) ::
  (nat_lit 233, ⟨.type "function", none, .func { name := Str.ofString "copy", qualname := Str.ofString "Vector.copy", params := AM19_1, body := .stmts BM19_1, scope := CM19_1, globals := 3, closure := [], defaults := .none, kwdefaults := .none, doc := .none, pyModule := .str (Str.ofString "vectorcove.values") 392, annotations := none, code := .ref 232, closureTuple := .none, builtins := 0 }, #[]⟩) ::
  (nat_lit 235, ⟨.type "dict", none, .dict #[⟨PyData.keyHash P (Str.ofString "__module__"), .str (Str.ofString "__module__") 459, .str (Str.ofString "vectorcove.values") 392⟩, ⟨PyData.keyHash P (Str.ofString "__firstlineno__"), .str (Str.ofString "__firstlineno__") 463, .int 144 462⟩, ⟨PyData.keyHash P (Str.ofString "__init__"), .str (Str.ofString "__init__") 473, .ref 226⟩, ⟨PyData.keyHash P (Str.ofString "copy"), .str (Str.ofString "copy") 480, .ref 233⟩, ⟨PyData.keyHash P (Str.ofString "__static_attributes__"), .str (Str.ofString "__static_attributes__") 486, .ref 234⟩, ⟨PyData.keyHash P (Str.ofString "__dict__"), .str (Str.ofString "__dict__") 488, .ref 237⟩, ⟨PyData.keyHash P (Str.ofString "__weakref__"), .str (Str.ofString "__weakref__") 490, .ref 238⟩, ⟨PyData.keyHash P (Str.ofString "__doc__"), .str (Str.ofString "__doc__") 491, .none⟩] 4, #[]⟩) ::
  (nat_lit 236, ⟨.type "type", none, .cls { name := Str.ofString "Vector", bases := [.type "object"], mro := [.ref 236, .type "object"], ns := 235, qualname := Str.ofString "Vector", hasDict := true, slotNames := [], subclasses := [], abstract := false, collection := none, hasDel := false }, #[none, none, some (.str (Str.ofString "Vector") 452), some (.str (Str.ofString "Vector") 460), some (.builtin "object.__new__"), some (.bool true)]⟩) ::
  (nat_lit 237, ⟨.type "getset_descriptor", none, .fields #[.str (Str.ofString "__dict__") 487, .ref 236, .builtin "function.__dict__", .builtin "function.__dict__#set"], #[]⟩) ::
  (nat_lit 238, ⟨.type "getset_descriptor", none, .fields #[.str (Str.ofString "__weakref__") 489, .ref 236, .builtin "ExceptionGroup.__weakref__", .none], #[]⟩) ::
  (nat_lit 253, ⟨.type "code", none, .fields #[.str (Str.ofString "__init__") 506, .str (Str.ofString "Symbol.__init__") 507, .str (Str.ofString "/claim/cut.py") 508, .int 157 0, .int 2 0, .int 0 0, .int 0 0, .int 3 0, .ref 248, .bool true, .int 181 0, .ref 249, .none, .ref 250, .ref 251, .ref 252, .int 511 0, .int 157 0, .str (Str.ofString "/claim/cut.py") 512], #[]⟩) ::
  (nat_lit 254, ⟨.type "function", none, .func { name := Str.ofString "__init__", qualname := Str.ofString "Symbol.__init__", params := AM20_0, body := .stmts BM20_0, scope := CM20_0, globals := 3, closure := [], defaults := .none, kwdefaults := .none, doc := .none, pyModule := .str (Str.ofString "vectorcove.values") 392, annotations := none, code := .ref 253, closureTuple := .none, builtins := 0 }, #[]⟩) ::
  (nat_lit 256, ⟨.type "dict", none, .dict #[⟨PyData.keyHash P (Str.ofString "__module__"), .str (Str.ofString "__module__") 501, .str (Str.ofString "vectorcove.values") 392⟩, ⟨PyData.keyHash P (Str.ofString "__firstlineno__"), .str (Str.ofString "__firstlineno__") 505, .int 155 504⟩, ⟨PyData.keyHash P (Str.ofString "__init__"), .str (Str.ofString "__init__") 513, .ref 254⟩, ⟨PyData.keyHash P (Str.ofString "__static_attributes__"), .str (Str.ofString "__static_attributes__") 517, .ref 255⟩, ⟨PyData.keyHash P (Str.ofString "__dict__"), .str (Str.ofString "__dict__") 519, .ref 258⟩, ⟨PyData.keyHash P (Str.ofString "__weakref__"), .str (Str.ofString "__weakref__") 521, .ref 259⟩, ⟨PyData.keyHash P (Str.ofString "__doc__"), .str (Str.ofString "__doc__") 522, .none⟩] 4, #[]⟩) ::
  (nat_lit 257, ⟨.type "type", none, .cls { name := Str.ofString "Symbol", bases := [.type "object"], mro := [.ref 257, .type "object"], ns := 256, qualname := Str.ofString "Symbol", hasDict := true, slotNames := [], subclasses := [], abstract := false, collection := none, hasDel := false }, #[none, none, some (.str (Str.ofString "Symbol") 494), some (.str (Str.ofString "Symbol") 502), some (.builtin "object.__new__"), some (.bool true)]⟩) ::
  (nat_lit 258, ⟨.type "getset_descriptor", none, .fields #[.str (Str.ofString "__dict__") 518, .ref 257, .builtin "function.__dict__", .builtin "function.__dict__#set"], #[]⟩) ::
  (nat_lit 259, ⟨.type "getset_descriptor", none, .fields #[.str (Str.ofString "__weakref__") 520, .ref 257, .builtin "ExceptionGroup.__weakref__", .none], #[]⟩) ::
  (nat_lit 269, ⟨.type "tuple", none, .seq #[.none] 0, #[]⟩) ::
  (nat_lit 275, ⟨.type "code", none, .fields #[.str (Str.ofString "__init__") 537, .str (Str.ofString "Call.__init__") 538, .str (Str.ofString "/claim/cut.py") 539, .int 163 0, .int 4 0, .int 0 0, .int 0 0, .int 3 0, .ref 270, .bool true, .int 181 0, .ref 271, .none, .ref 272, .ref 273, .ref 274, .int 544 0, .int 163 0, .str (Str.ofString "/claim/cut.py") 545], #[]⟩) ::
  (nat_lit 276, ⟨.type "function", none, .func { name := Str.ofString "__init__", qualname := Str.ofString "Call.__init__", params := AM21_0, body := .stmts BM21_0, scope := CM21_0, globals := 3, closure := [], defaults := .ref 269, kwdefaults := .none, doc := .none, pyModule := .str (Str.ofString "vectorcove.values") 392, annotations := none, code := .ref 275, closureTuple := .none, builtins := 0 }, #[]⟩) ::
  (nat_lit 278, ⟨.type "dict", none, .dict #[⟨PyData.keyHash P (Str.ofString "__module__"), .str (Str.ofString "__module__") 532, .str (Str.ofString "vectorcove.values") 392⟩, ⟨PyData.keyHash P (Str.ofString "__firstlineno__"), .str (Str.ofString "__firstlineno__") 536, .int 161 535⟩, ⟨PyData.keyHash P (Str.ofString "__init__"), .str (Str.ofString "__init__") 546, .ref 276⟩, ⟨PyData.keyHash P (Str.ofString "__static_attributes__"), .str (Str.ofString "__static_attributes__") 552, .ref 277⟩, ⟨PyData.keyHash P (Str.ofString "__dict__"), .str (Str.ofString "__dict__") 554, .ref 280⟩, ⟨PyData.keyHash P (Str.ofString "__weakref__"), .str (Str.ofString "__weakref__") 556, .ref 281⟩, ⟨PyData.keyHash P (Str.ofString "__doc__"), .str (Str.ofString "__doc__") 557, .none⟩] 4, #[]⟩) ::
  (nat_lit 279, ⟨.type "type", none, .cls { name := Str.ofString "Call", bases := [.type "object"], mro := [.ref 279, .type "object"], ns := 278, qualname := Str.ofString "Call", hasDict := true, slotNames := [], subclasses := [], abstract := false, collection := none, hasDel := false }, #[none, none, some (.str (Str.ofString "Call") 525), some (.str (Str.ofString "Call") 533), some (.builtin "object.__new__"), some (.bool true)]⟩) ::
  (nat_lit 280, ⟨.type "getset_descriptor", none, .fields #[.str (Str.ofString "__dict__") 553, .ref 279, .builtin "function.__dict__", .builtin "function.__dict__#set"], #[]⟩) ::
  (nat_lit 281, ⟨.type "getset_descriptor", none, .fields #[.str (Str.ofString "__weakref__") 555, .ref 279, .builtin "ExceptionGroup.__weakref__", .none], #[]⟩) ::
  (nat_lit 291, ⟨.type "tuple", none, .seq #[.none] 0, #[]⟩) ::
  (nat_lit 297, ⟨.type "code", none, .fields #[.str (Str.ofString "__init__") 572, .str (Str.ofString "Closure.__init__") 573, .str (Str.ofString "/claim/cut.py") 574, .int 171 0, .int 5 0, .int 0 0, .int 0 0, .int 3 0, .ref 292, .bool true, .int 181 0, .ref 293, .none, .ref 294, .ref 295, .ref 296, .int 580 0, .int 171 0, .str (Str.ofString "/claim/cut.py") 581], #[]⟩) ::
  (nat_lit 298, ⟨.type "function", none, .func { name := Str.ofString "__init__", qualname := Str.ofString "Closure.__init__", params := AM22_0, body := .stmts BM22_0, scope := CM22_0, globals := 3, closure := [], defaults := .ref 291, kwdefaults := .none, doc := .none, pyModule := .str (Str.ofString "vectorcove.values") 392, annotations := none, code := .ref 297, closureTuple := .none, builtins := 0 }, #[]⟩) ::
  (nat_lit 300, ⟨.type "dict", none, .dict #[⟨PyData.keyHash P (Str.ofString "__module__"), .str (Str.ofString "__module__") 567, .str (Str.ofString "vectorcove.values") 392⟩, ⟨PyData.keyHash P (Str.ofString "__firstlineno__"), .str (Str.ofString "__firstlineno__") 571, .int 169 570⟩, ⟨PyData.keyHash P (Str.ofString "__init__"), .str (Str.ofString "__init__") 582, .ref 298⟩, ⟨PyData.keyHash P (Str.ofString "__static_attributes__"), .str (Str.ofString "__static_attributes__") 588, .ref 299⟩, ⟨PyData.keyHash P (Str.ofString "__dict__"), .str (Str.ofString "__dict__") 590, .ref 302⟩, ⟨PyData.keyHash P (Str.ofString "__weakref__"), .str (Str.ofString "__weakref__") 592, .ref 303⟩, ⟨PyData.keyHash P (Str.ofString "__doc__"), .str (Str.ofString "__doc__") 593, .none⟩] 4, #[]⟩) ::
  (nat_lit 301, ⟨.type "type", none, .cls { name := Str.ofString "Closure", bases := [.type "object"], mro := [.ref 301, .type "object"], ns := 300, qualname := Str.ofString "Closure", hasDict := true, slotNames := [], subclasses := [], abstract := false, collection := none, hasDel := false }, #[none, none, some (.str (Str.ofString "Closure") 560), some (.str (Str.ofString "Closure") 568), some (.builtin "object.__new__"), some (.bool true)]⟩) ::
  (nat_lit 302, ⟨.type "getset_descriptor", none, .fields #[.str (Str.ofString "__dict__") 589, .ref 301, .builtin "function.__dict__", .builtin "function.__dict__#set"], #[]⟩) ::
  (nat_lit 303, ⟨.type "getset_descriptor", none, .fields #[.str (Str.ofString "__weakref__") 591, .ref 301, .builtin "ExceptionGroup.__weakref__", .none], #[]⟩) ::
  (nat_lit 311, ⟨.type "code", none, .fields #[.str (Str.ofString "null") 596, .str (Str.ofString "null") 597, .str (Str.ofString "/claim/cut.py") 598, .int 177 0, .int 0 0, .int 0 0, .int 0 0, .int 3 0, .ref 306, .bool true, .int 181 0, .ref 307, .none, .ref 308, .ref 309, .ref 310, .int 599 0, .int 177 0, .str (Str.ofString "/claim/cut.py") 600], #[]⟩) ::
  (nat_lit 312, ⟨.type "function", none, .func { name := Str.ofString "null", qualname := Str.ofString "null", params := AF23, body := .stmts BF23, scope := CF23, globals := 3, closure := [], defaults := .none, kwdefaults := .none, doc := .none, pyModule := .str (Str.ofString "vectorcove.values") 392, annotations := none, code := .ref 311, closureTuple := .none, builtins := 0 }, #[]⟩) ::
  (nat_lit 318, ⟨.type "code", none, .fields #[.str (Str.ofString "character") 602, .str (Str.ofString "character") 603, .str (Str.ofString "/claim/cut.py") 604, .int 179 0, .int 1 0, .int 0 0, .int 0 0, .int 3 0, .ref 313, .bool true, .int 181 0, .ref 314, .none, .ref 315, .ref 316, .ref 317, .int 606 0, .int 179 0, .str (Str.ofString "/claim/cut.py") 607], #[]⟩) ::
  (nat_lit 319, ⟨.type "function", none, .func { name := Str.ofString "character", qualname := Str.ofString "character", params := AF24, body := .stmts BF24, scope := CF24, globals := 3, closure := [], defaults := .none, kwdefaults := .none, doc := .none, pyModule := .str (Str.ofString "vectorcove.values") 392, annotations := none, code := .ref 318, closureTuple := .none, builtins := 0 }, #[]⟩) ::
  (nat_lit 325, ⟨.type "code", none, .fields #[.str (Str.ofString "named") 609, .str (Str.ofString "named") 610, .str (Str.ofString "/claim/cut.py") 611, .int 181 0, .int 2 0, .int 0 0, .int 0 0, .int 3 0, .ref 320, .bool true, .int 181 0, .ref 321, .none, .ref 322, .ref 323, .ref 324, .int 614 0, .int 181 0, .str (Str.ofString "/claim/cut.py") 615], #[]⟩) ::
  (nat_lit 326, ⟨.type "function", none, .func { name := Str.ofString "named", qualname := Str.ofString "named", params := AF25, body := .stmts BF25, scope := CF25, globals := 3, closure := [], defaults := .none, kwdefaults := .none, doc := .none, pyModule := .str (Str.ofString "vectorcove.values") 392, annotations := none, code := .ref 325, closureTuple := .none, builtins := 0 }, #[]⟩) ::
  (nat_lit 330, ⟨.type "code", none, .fields #[.str (Str.ofString "pairlist_of") 617, .str (Str.ofString "pairlist_of") 618, .str (Str.ofString "/claim/cut.py") 619, .int 185 0, .int 2 0, .int 0 0, .int 0 0, .int 3 0, .ref 327, .bool true, .int 181 0, .ref 328, .none, .none, .none, .ref 329, .int 620 0, .int 185 0, .str (Str.ofString "/claim/cut.py") 621], #[]⟩) ::
  (nat_lit 331, ⟨.type "function", none, .func { name := Str.ofString "pairlist_of", qualname := Str.ofString "pairlist_of", params := AF26, body := .stmts BF26, scope := CF26, globals := 3, closure := [], defaults := .none, kwdefaults := .none, doc := .none, pyModule := .str (Str.ofString "vectorcove.values") 392, annotations := none, code := .ref 330, closureTuple := .none, builtins := 0 }, #[]⟩) ::
  (nat_lit 337, ⟨.type "code", none, .fields #[.str (Str.ofString "symbol") 623, .str (Str.ofString "symbol") 624, .str (Str.ofString "/claim/cut.py") 625, .int 187 0, .int 1 0, .int 0 0, .int 0 0, .int 3 0, .ref 332, .bool true, .int 181 0, .ref 333, .none, .ref 334, .ref 335, .ref 336, .int 627 0, .int 187 0, .str (Str.ofString "/claim/cut.py") 628], #[]⟩) ::
  (nat_lit 338, ⟨.type "function", none, .func { name := Str.ofString "symbol", qualname := Str.ofString "symbol", params := AF27, body := .stmts BF27, scope := CF27, globals := 3, closure := [], defaults := .none, kwdefaults := .none, doc := .none, pyModule := .str (Str.ofString "vectorcove.values") 392, annotations := none, code := .ref 337, closureTuple := .none, builtins := 0 }, #[]⟩) ::
  (nat_lit 344, ⟨.type "code", none, .fields #[.str (Str.ofString "is_vector") 630, .str (Str.ofString "is_vector") 631, .str (Str.ofString "/claim/cut.py") 632, .int 189 0, .int 1 0, .int 0 0, .int 0 0, .int 3 0, .ref 339, .bool true, .int 181 0, .ref 340, .none, .ref 341, .ref 342, .ref 343, .int 634 0, .int 189 0, .str (Str.ofString "/claim/cut.py") 635], #[]⟩) ::
  (nat_lit 345, ⟨.type "function", none, .func { name := Str.ofString "is_vector", qualname := Str.ofString "is_vector", params := AF28, body := .stmts BF28, scope := CF28, globals := 3, closure := [], defaults := .none, kwdefaults := .none, doc := .none, pyModule := .str (Str.ofString "vectorcove.values") 392, annotations := none, code := .ref 344, closureTuple := .none, builtins := 0 }, #[]⟩) ::
  (nat_lit 351, ⟨.type "code", none, .fields #[.str (Str.ofString "is_function") 637, .str (Str.ofString "is_function") 638, .str (Str.ofString "/claim/cut.py") 639, .int 191 0, .int 1 0, .int 0 0, .int 0 0, .int 3 0, .ref 346, .bool true, .int 181 0, .ref 347, .none, .ref 348, .ref 349, .ref 350, .int 641 0, .int 191 0, .str (Str.ofString "/claim/cut.py") 642], #[]⟩) ::
  (nat_lit 352, ⟨.type "function", none, .func { name := Str.ofString "is_function", qualname := Str.ofString "is_function", params := AF29, body := .stmts BF29, scope := CF29, globals := 3, closure := [], defaults := .none, kwdefaults := .none, doc := .none, pyModule := .str (Str.ofString "vectorcove.values") 392, annotations := none, code := .ref 351, closureTuple := .none, builtins := 0 }, #[]⟩) ::
  (nat_lit 358, ⟨.type "code", none, .fields #[.str (Str.ofString "share") 644, .str (Str.ofString "share") 645, .str (Str.ofString "/claim/cut.py") 646, .int 193 0, .int 1 0, .int 0 0, .int 0 0, .int 3 0, .ref 353, .bool true, .int 181 0, .ref 354, .none, .ref 355, .ref 356, .ref 357, .int 648 0, .int 193 0, .str (Str.ofString "/claim/cut.py") 649], #[]⟩) ::
  (nat_lit 359, ⟨.type "function", none, .func { name := Str.ofString "share", qualname := Str.ofString "share", params := AF30, body := .stmts BF30, scope := CF30, globals := 3, closure := [], defaults := .none, kwdefaults := .none, doc := .none, pyModule := .str (Str.ofString "vectorcove.values") 392, annotations := none, code := .ref 358, closureTuple := .none, builtins := 0 }, #[]⟩) ::
  (nat_lit 365, ⟨.type "code", none, .fields #[.str (Str.ofString "needed") 653, .str (Str.ofString "needed") 654, .str (Str.ofString "/claim/cut.py") 655, .int 198 0, .int 2 0, .int 0 0, .int 0 0, .int 3 0, .ref 360, .bool true, .int 181 0, .ref 361, .none, .ref 362, .ref 363, .ref 364, .int 658 0, .int 198 0, .str (Str.ofString "/claim/cut.py") 659], #[]⟩) ::
  (nat_lit 366, ⟨.type "function", none, .func { name := Str.ofString "needed", qualname := Str.ofString "needed", params := AF32, body := .stmts BF32, scope := CF32, globals := 3, closure := [], defaults := .none, kwdefaults := .none, doc := .none, pyModule := .str (Str.ofString "vectorcove.evalcalls") 651, annotations := none, code := .ref 365, closureTuple := .none, builtins := 0 }, #[]⟩) ::
  (nat_lit 372, ⟨.type "code", none, .fields #[.str (Str.ofString "bind_list") 661, .str (Str.ofString "bind_list") 662, .str (Str.ofString "/claim/cut.py") 663, .int 202 0, .int 2 0, .int 0 0, .int 0 0, .int 3 0, .ref 367, .bool true, .int 181 0, .ref 368, .none, .ref 369, .ref 370, .ref 371, .int 668 0, .int 202 0, .str (Str.ofString "/claim/cut.py") 669], #[]⟩) ::
  (nat_lit 373, ⟨.type "function", none, .func { name := Str.ofString "bind_list", qualname := Str.ofString "bind_list", params := AF33, body := .stmts BF33, scope := CF33, globals := 3, closure := [], defaults := .none, kwdefaults := .none, doc := .none, pyModule := .str (Str.ofString "vectorcove.evalcalls") 651, annotations := none, code := .ref 372, closureTuple := .none, builtins := 0 }, #[]⟩) ::
  (nat_lit 379, ⟨.type "code", none, .fields #[.str (Str.ofString "evaluation_env") 671, .str (Str.ofString "evaluation_env") 672, .str (Str.ofString "/claim/cut.py") 673, .int 209 0, .int 4 0, .int 0 0, .int 0 0, .int 3 0, .ref 374, .bool true, .int 181 0, .ref 375, .none, .ref 376, .ref 377, .ref 378, .int 680 0, .int 209 0, .str (Str.ofString "/claim/cut.py") 681], #[]⟩) ::
  (nat_lit 380, ⟨.type "function", none, .func { name := Str.ofString "evaluation_env", qualname := Str.ofString "evaluation_env", params := AF34, body := .stmts BF34, scope := CF34, globals := 3, closure := [], defaults := .none, kwdefaults := .none, doc := .none, pyModule := .str (Str.ofString "vectorcove.evalcalls") 651, annotations := none, code := .ref 379, closureTuple := .none, builtins := 0 }, #[]⟩) ::
  (nat_lit 386, ⟨.type "code", none, .fields #[.str (Str.ofString "tagged_items") 685, .str (Str.ofString "tagged_items") 686, .str (Str.ofString "/claim/cut.py") 687, .int 224 0, .int 1 0, .int 0 0, .int 0 0, .int 3 0, .ref 381, .bool true, .int 181 0, .ref 382, .none, .ref 383, .ref 384, .ref 385, .int 693 0, .int 224 0, .str (Str.ofString "/claim/cut.py") 694], #[]⟩) ::
  (nat_lit 387, ⟨.type "function", none, .func { name := Str.ofString "tagged_items", qualname := Str.ofString "tagged_items", params := AF36, body := .stmts BF36, scope := CF36, globals := 3, closure := [], defaults := .none, kwdefaults := .none, doc := .none, pyModule := .str (Str.ofString "vectorcove.langcalls") 683, annotations := none, code := .ref 386, closureTuple := .none, builtins := 0 }, #[]⟩) ::
  (nat_lit 391, ⟨.type "code", none, .fields #[.str (Str.ofString "call_with") 696, .str (Str.ofString "call_with") 697, .str (Str.ofString "/claim/cut.py") 698, .int 233 0, .int 2 0, .int 0 0, .int 0 0, .int 3 0, .ref 388, .bool true, .int 181 0, .ref 389, .none, .none, .none, .ref 390, .int 699 0, .int 233 0, .str (Str.ofString "/claim/cut.py") 700], #[]⟩) ::
  (nat_lit 392, ⟨.type "function", none, .func { name := Str.ofString "call_with", qualname := Str.ofString "call_with", params := AF37, body := .stmts BF37, scope := CF37, globals := 3, closure := [], defaults := .none, kwdefaults := .none, doc := .none, pyModule := .str (Str.ofString "vectorcove.langcalls") 683, annotations := none, code := .ref 391, closureTuple := .none, builtins := 0 }, #[]⟩) ::
  (nat_lit 396, ⟨.type "code", none, .fields #[.str (Str.ofString "b_call") 702, .str (Str.ofString "b_call") 703, .str (Str.ofString "/claim/cut.py") 704, .int 235 0, .int 3 0, .int 0 0, .int 0 0, .int 3 0, .ref 393, .bool true, .int 181 0, .ref 394, .none, .none, .none, .ref 395, .int 705 0, .int 235 0, .str (Str.ofString "/claim/cut.py") 706], #[]⟩) ::
  (nat_lit 397, ⟨.type "function", none, .func { name := Str.ofString "b_call", qualname := Str.ofString "b_call", params := AF38, body := .stmts BF38, scope := CF38, globals := 3, closure := [], defaults := .none, kwdefaults := .none, doc := .none, pyModule := .str (Str.ofString "vectorcove.langcalls") 683, annotations := none, code := .ref 396, closureTuple := .none, builtins := 0 }, #[]⟩) ::
  (nat_lit 403, ⟨.type "code", none, .fields #[.str (Str.ofString "b_as_call") 708, .str (Str.ofString "b_as_call") 709, .str (Str.ofString "/claim/cut.py") 710, .int 240 0, .int 3 0, .int 0 0, .int 0 0, .int 3 0, .ref 398, .bool true, .int 181 0, .ref 399, .none, .ref 400, .ref 401, .ref 402, .int 716 0, .int 240 0, .str (Str.ofString "/claim/cut.py") 717], #[]⟩) ::
  (nat_lit 404, ⟨.type "function", none, .func { name := Str.ofString "b_as_call", qualname := Str.ofString "b_as_call", params := AF39, body := .stmts BF39, scope := CF39, globals := 3, closure := [], defaults := .none, kwdefaults := .none, doc := .none, pyModule := .str (Str.ofString "vectorcove.langcalls") 683, annotations := none, code := .ref 403, closureTuple := .none, builtins := 0 }, #[]⟩) ::
  (nat_lit 410, ⟨.type "code", none, .fields #[.str (Str.ofString "b_body") 719, .str (Str.ofString "b_body") 720, .str (Str.ofString "/claim/cut.py") 721, .int 248 0, .int 3 0, .int 0 0, .int 0 0, .int 3 0, .ref 405, .bool true, .int 181 0, .ref 406, .none, .ref 407, .ref 408, .ref 409, .int 726 0, .int 248 0, .str (Str.ofString "/claim/cut.py") 727], #[]⟩) ::
  (nat_lit 411, ⟨.type "function", none, .func { name := Str.ofString "b_body", qualname := Str.ofString "b_body", params := AF40, body := .stmts BF40, scope := CF40, globals := 3, closure := [], defaults := .none, kwdefaults := .none, doc := .none, pyModule := .str (Str.ofString "vectorcove.langcalls") 683, annotations := none, code := .ref 410, closureTuple := .none, builtins := 0 }, #[]⟩) ::
  (nat_lit 415, ⟨.type "code", none, .fields #[.str (Str.ofString "b_formals") 729, .str (Str.ofString "b_formals") 730, .str (Str.ofString "/claim/cut.py") 731, .int 253 0, .int 3 0, .int 0 0, .int 0 0, .int 3 0, .ref 412, .bool true, .int 181 0, .ref 413, .none, .none, .none, .ref 414, .int 732 0, .int 253 0, .str (Str.ofString "/claim/cut.py") 733], #[]⟩) ::
  (nat_lit 416, ⟨.type "function", none, .func { name := Str.ofString "b_formals", qualname := Str.ofString "b_formals", params := AF41, body := .stmts BF41, scope := CF41, globals := 3, closure := [], defaults := .none, kwdefaults := .none, doc := .none, pyModule := .str (Str.ofString "vectorcove.langcalls") 683, annotations := none, code := .ref 415, closureTuple := .none, builtins := 0 }, #[]⟩) ::
  (nat_lit 422, ⟨.type "code", none, .fields #[.str (Str.ofString "needed_closure") 735, .str (Str.ofString "needed_closure") 736, .str (Str.ofString "/claim/cut.py") 737, .int 259 0, .int 1 0, .int 0 0, .int 0 0, .int 3 0, .ref 417, .bool true, .int 181 0, .ref 418, .none, .ref 419, .ref 420, .ref 421, .int 742 0, .int 259 0, .str (Str.ofString "/claim/cut.py") 743], #[]⟩) ::
  (nat_lit 423, ⟨.type "function", none, .func { name := Str.ofString "needed_closure", qualname := Str.ofString "needed_closure", params := AF42, body := .stmts BF42, scope := CF42, globals := 3, closure := [], defaults := .none, kwdefaults := .none, doc := .none, pyModule := .str (Str.ofString "vectorcove.langcalls") 683, annotations := none, code := .ref 422, closureTuple := .none, builtins := 0 }, #[]⟩) ::
  (nat_lit 429, ⟨.type "code", none, .fields #[.str (Str.ofString "b_set_body") 745, .str (Str.ofString "b_set_body") 746, .str (Str.ofString "/claim/cut.py") 747, .int 264 0, .int 3 0, .int 0 0, .int 0 0, .int 3 0, .ref 424, .bool true, .int 181 0, .ref 425, .none, .ref 426, .ref 427, .ref 428, .int 753 0, .int 264 0, .str (Str.ofString "/claim/cut.py") 754], #[]⟩) ::
  (nat_lit 430, ⟨.type "function", none, .func { name := Str.ofString "b_set_body", qualname := Str.ofString "b_set_body", params := AF43, body := .stmts BF43, scope := CF43, globals := 3, closure := [], defaults := .none, kwdefaults := .none, doc := .none, pyModule := .str (Str.ofString "vectorcove.langcalls") 683, annotations := none, code := .ref 429, closureTuple := .none, builtins := 0 }, #[]⟩) ::
  (nat_lit 436, ⟨.type "code", none, .fields #[.str (Str.ofString "formal_rows") 756, .str (Str.ofString "formal_rows") 757, .str (Str.ofString "/claim/cut.py") 758, .int 267 0, .int 1 0, .int 0 0, .int 0 0, .int 3 0, .ref 431, .bool true, .int 181 0, .ref 432, .none, .ref 433, .ref 434, .ref 435, .int 763 0, .int 267 0, .str (Str.ofString "/claim/cut.py") 764], #[]⟩) ::
  (nat_lit 437, ⟨.type "function", none, .func { name := Str.ofString "formal_rows", qualname := Str.ofString "formal_rows", params := AF44, body := .stmts BF44, scope := CF44, globals := 3, closure := [], defaults := .none, kwdefaults := .none, doc := .none, pyModule := .str (Str.ofString "vectorcove.langcalls") 683, annotations := none, code := .ref 436, closureTuple := .none, builtins := 0 }, #[]⟩) ::
  (nat_lit 443, ⟨.type "code", none, .fields #[.str (Str.ofString "b_set_formals") 766, .str (Str.ofString "b_set_formals") 767, .str (Str.ofString "/claim/cut.py") 768, .int 277 0, .int 3 0, .int 0 0, .int 0 0, .int 3 0, .ref 438, .bool true, .int 181 0, .ref 439, .none, .ref 440, .ref 441, .ref 442, .int 774 0, .int 277 0, .str (Str.ofString "/claim/cut.py") 775], #[]⟩) ::
  (nat_lit 444, ⟨.type "function", none, .func { name := Str.ofString "b_set_formals", qualname := Str.ofString "b_set_formals", params := AF45, body := .stmts BF45, scope := CF45, globals := 3, closure := [], defaults := .none, kwdefaults := .none, doc := .none, pyModule := .str (Str.ofString "vectorcove.langcalls") 683, annotations := none, code := .ref 443, closureTuple := .none, builtins := 0 }, #[]⟩) ::
  (nat_lit 450, ⟨.type "code", none, .fields #[.str (Str.ofString "b_as_function") 777, .str (Str.ofString "b_as_function") 778, .str (Str.ofString "/claim/cut.py") 779, .int 280 0, .int 3 0, .int 0 0, .int 0 0, .int 3 0, .ref 445, .bool true, .int 181 0, .ref 446, .none, .ref 447, .ref 448, .ref 449, .int 789 0, .int 280 0, .str (Str.ofString "/claim/cut.py") 790], #[]⟩) ::
  (nat_lit 451, ⟨.type "function", none, .func { name := Str.ofString "b_as_function", qualname := Str.ofString "b_as_function", params := AF46, body := .stmts BF46, scope := CF46, globals := 3, closure := [], defaults := .none, kwdefaults := .none, doc := .none, pyModule := .str (Str.ofString "vectorcove.langcalls") 683, annotations := none, code := .ref 450, closureTuple := .none, builtins := 0 }, #[]⟩) ::
  (nat_lit 457, ⟨.type "code", none, .fields #[.str (Str.ofString "_law_shelf") 794, .str (Str.ofString "_law_shelf") 795, .str (Str.ofString "/claim/cut.py") 796, .int 295 0, .int 1 0, .int 0 0, .int 0 0, .int 3 0, .ref 452, .bool true, .int 181 0, .ref 453, .none, .ref 454, .ref 455, .ref 456, .int 800 0, .int 295 0, .str (Str.ofString "/claim/cut.py") 801], #[]⟩) ::
  (nat_lit 458, ⟨.type "function", none, .func { name := Str.ofString "_law_shelf", qualname := Str.ofString "_law_shelf", params := AF48, body := .stmts BF48, scope := CF48, globals := 3, closure := [], defaults := .none, kwdefaults := .none, doc := .none, pyModule := .str (Str.ofString "law_pq1324_01") 792, annotations := none, code := .ref 457, closureTuple := .none, builtins := 0 }, #[]⟩) ::
  (nat_lit 464, ⟨.type "code", none, .fields #[.str (Str.ofString "_law_grab") 803, .str (Str.ofString "_law_grab") 804, .str (Str.ofString "/claim/cut.py") 805, .int 300 0, .int 2 0, .int 0 0, .int 0 0, .int 3 0, .ref 459, .bool true, .int 181 0, .ref 460, .none, .ref 461, .ref 462, .ref 463, .int 808 0, .int 300 0, .str (Str.ofString "/claim/cut.py") 809], #[]⟩) ::
  (nat_lit 465, ⟨.type "function", none, .func { name := Str.ofString "_law_grab", qualname := Str.ofString "_law_grab", params := AF49, body := .stmts BF49, scope := CF49, globals := 3, closure := [], defaults := .none, kwdefaults := .none, doc := .none, pyModule := .str (Str.ofString "law_pq1324_01") 792, annotations := none, code := .ref 464, closureTuple := .none, builtins := 0 }, #[]⟩) ::
  (nat_lit 471, ⟨.type "code", none, .fields #[.str (Str.ofString "_law_argument") 811, .str (Str.ofString "_law_argument") 812, .str (Str.ofString "/claim/cut.py") 813, .int 304 0, .int 1 0, .int 0 0, .int 0 0, .int 3 0, .ref 466, .bool true, .int 181 0, .ref 467, .none, .ref 468, .ref 469, .ref 470, .int 816 0, .int 304 0, .str (Str.ofString "/claim/cut.py") 817], #[]⟩) ::
  (nat_lit 472, ⟨.type "function", none, .func { name := Str.ofString "_law_argument", qualname := Str.ofString "_law_argument", params := AF50, body := .stmts BF50, scope := CF50, globals := 3, closure := [], defaults := .none, kwdefaults := .none, doc := .none, pyModule := .str (Str.ofString "law_pq1324_01") 792, annotations := none, code := .ref 471, closureTuple := .none, builtins := 0 }, #[]⟩) ::
  (nat_lit 476, ⟨.type "code", none, .fields #[.str (Str.ofString "_law_shown") 819, .str (Str.ofString "_law_shown") 820, .str (Str.ofString "/claim/cut.py") 821, .int 313 0, .int 1 0, .int 0 0, .int 0 0, .int 3 0, .ref 473, .bool true, .int 181 0, .ref 474, .none, .none, .none, .ref 475, .int 822 0, .int 313 0, .str (Str.ofString "/claim/cut.py") 823], #[]⟩) ::
  (nat_lit 477, ⟨.type "function", none, .func { name := Str.ofString "_law_shown", qualname := Str.ofString "_law_shown", params := AF51, body := .stmts BF51, scope := CF51, globals := 3, closure := [], defaults := .none, kwdefaults := .none, doc := .none, pyModule := .str (Str.ofString "law_pq1324_01") 792, annotations := none, code := .ref 476, closureTuple := .none, builtins := 0 }, #[]⟩) ::
  (nat_lit 481, ⟨.type "code", none, .fields #[.str (Str.ofString "_law_listed") 825, .str (Str.ofString "_law_listed") 826, .str (Str.ofString "/claim/cut.py") 827, .int 323 0, .int 2 0, .int 0 0, .int 0 0, .int 3 0, .ref 478, .bool true, .int 181 0, .ref 479, .none, .none, .none, .ref 480, .int 828 0, .int 323 0, .str (Str.ofString "/claim/cut.py") 829], #[]⟩) ::
  (nat_lit 482, ⟨.type "function", none, .func { name := Str.ofString "_law_listed", qualname := Str.ofString "_law_listed", params := AF52, body := .stmts BF52, scope := CF52, globals := 3, closure := [], defaults := .none, kwdefaults := .none, doc := .none, pyModule := .str (Str.ofString "law_pq1324_01") 792, annotations := none, code := .ref 481, closureTuple := .none, builtins := 0 }, #[]⟩) ::
  (nat_lit 488, ⟨.type "code", none, .fields #[.str (Str.ofString "_law_refused") 831, .str (Str.ofString "_law_refused") 832, .str (Str.ofString "/claim/cut.py") 833, .int 329 0, .int 2 0, .int 0 0, .int 0 0, .int 3 0, .ref 483, .bool true, .int 181 0, .ref 484, .none, .ref 485, .ref 486, .ref 487, .int 837 0, .int 329 0, .str (Str.ofString "/claim/cut.py") 838], #[]⟩) ::
  (nat_lit 489, ⟨.type "function", none, .func { name := Str.ofString "_law_refused", qualname := Str.ofString "_law_refused", params := AF53, body := .stmts BF53, scope := CF53, globals := 3, closure := [], defaults := .none, kwdefaults := .none, doc := .none, pyModule := .str (Str.ofString "law_pq1324_01") 792, annotations := none, code := .ref 488, closureTuple := .none, builtins := 0 }, #[]⟩) ::
  (nat_lit 493, ⟨.type "code", none, .fields #[.str (Str.ofString "_law_formals_told") 840, .str (Str.ofString "_law_formals_told") 841, .str (Str.ofString "/claim/cut.py") 842, .int 335 0, .int 1 0, .int 0 0, .int 0 0, .int 3 0, .ref 490, .bool true, .int 181 0, .ref 491, .none, .none, .none, .ref 492, .int 843 0, .int 335 0, .str (Str.ofString "/claim/cut.py") 844], #[]⟩) ::
  (nat_lit 494, ⟨.type "function", none, .func { name := Str.ofString "_law_formals_told", qualname := Str.ofString "_law_formals_told", params := AF54, body := .stmts BF54, scope := CF54, globals := 3, closure := [], defaults := .none, kwdefaults := .none, doc := .none, pyModule := .str (Str.ofString "law_pq1324_01") 792, annotations := none, code := .ref 493, closureTuple := .none, builtins := 0 }, #[]⟩) ::
  (nat_lit 498, ⟨.type "code", none, .fields #[.str (Str.ofString "law") 846, .str (Str.ofString "law") 847, .str (Str.ofString "/claim/cut.py") 848, .int 341 0, .int 1 0, .int 0 0, .int 0 0, .int 3 0, .ref 495, .bool true, .int 181 0, .ref 496, .none, .none, .none, .ref 497, .int 849 0, .int 341 0, .str (Str.ofString "/claim/cut.py") 850], #[]⟩) ::
  (nat_lit 499, ⟨.type "function", none, .func { name := Str.ofString "law", qualname := Str.ofString "law", params := AF55, body := .stmts BF55, scope := CF55, globals := 3, closure := [], defaults := .none, kwdefaults := .none, doc := .none, pyModule := .str (Str.ofString "law_pq1324_01") 792, annotations := none, code := .ref 498, closureTuple := .none, builtins := 0 }, #[]⟩) :: []
noncomputable def K : Params → Frag := by
  refine (?f : (b : Params → Frag) → KX = b → Params → Frag) ?b ?h
  case f => exact fun b _ => b
  case h => (delta KX AF0 BF0 CF0 AF2 BF2 CF2 AF3 BF3 CF3 AF4 BF4 CF4 AF5 BF5 CF5 AM8_0 BM8_0 CM8_0 AM10_0 BM10_0 CM10_0 AM10_1 BM10_1 CM10_1 AM10_2 BM10_2 CM10_2 AM10_3 BM10_3 CM10_3 AM10_4 BM10_4 CM10_4 AM10_5 BM10_5 CM10_5 AM10_6 BM10_6 CM10_6 AF11 BF11 CF11 AF12 BF12 CF12 AF13 BF13 CF13 AF14 BF14 CF14 AF15 BF15 CF15 AM17_0 BM17_0 CM17_0 AM18_0 BM18_0 CM18_0 AM19_0 BM19_0 CM19_0 AM19_1 BM19_1 CM19_1 AM20_0 BM20_0 CM20_0 AM21_0 BM21_0 CM21_0 AM22_0 BM22_0 CM22_0 AF23 BF23 CF23 AF24 BF24 CF24 AF25 BF25 CF25 AF26 BF26 CF26 AF27 BF27 CF27 AF28 BF28 CF28 AF29 BF29 CF29 AF30 BF30 CF30 AF32 BF32 CF32 AF33 BF33 CF33 AF34 BF34 CF34 AF36 BF36 CF36 AF37 BF37 CF37 AF38 BF38 CF38 AF39 BF39 CF39 AF40 BF40 CF40 AF41 BF41 CF41 AF42 BF42 CF42 AF43 BF43 CF43 AF44 BF44 CF44 AF45 BF45 CF45 AF46 BF46 CF46 AF48 BF48 CF48 AF49 BF49 CF49 AF50 BF50 CF50 AF51 BF51 CF51 AF52 BF52 CF52 AF53 BF53 CF53 AF54 BF54 CF54 AF55 BF55 CF55) <;> exact rfl
noncomputable def seenG {α : Type} (_ : α) : Bool := true
noncomputable def Pg (pw : Program) (a : Nat) (S S' : Params → OsState → SharedT) (l : List Stmt) (be : Env) (cE : Code) (p p' q : Pos) (w : World) : Prop := (fun os => segRunT treeTable pw w 11 (some (.ref 6)) 1 a (S w.params os) (piecesOf l be cE p [topFrame q])) = (fun os => some (Flow.next, S' w.params os, cE, p'))
theorem mkPg : seenG Pg = true := by k_qdec
theorem viaG {pw : Program} {a : Nat} {S S' : Params → OsState → SharedT} {l : List Stmt} {be : Env} {cE : Code} {p p' q : Pos} {w : World} (h : PySem.W.Fast.tw7455365521969018399 pw a S S' l be cE p p' q w) : Pg pw a S S' l be cE p p' q w := by
  rw [PySem.W.Fast.te7455365521969018399]; exact h
theorem p0 (w : World) : P0 w := by
  refine viaG (a := 356) (S := S0) (S' := S1) (l := l0) (be := benv) (cE := cE) (p := ⟨0, 0, 0, 0⟩) (p' := ⟨36, 0, 37, 8⟩) (q := qPos) (pw := pw) ?_
  delta PySem.W.Fast.tw7455365521969018399
  kernel_rfl
theorem p1 (w : World) : P1 w := by
  refine viaG (a := 255) (S := S1) (S' := S2) (l := l1) (be := benv) (cE := cE) (p := ⟨36, 0, 37, 8⟩) (p' := ⟨42, 0, 42, 8⟩) (q := qPos) (pw := pw) ?_
  delta PySem.W.Fast.tw7455365521969018399
  kernel_rfl
theorem p2 (w : World) : P2 w := by
  refine viaG (a := 419) (S := S2) (S' := S3) (l := l2) (be := benv) (cE := cE) (p := ⟨42, 0, 42, 8⟩) (p' := ⟨43, 0, 95, 82⟩) (q := qPos) (pw := pw) ?_
  delta PySem.W.Fast.tw7455365521969018399
  kernel_rfl
theorem p3 (w : World) : P3 w := by
  refine viaG (a := 374) (S := S3) (S' := S4) (l := l3) (be := benv) (cE := cE) (p := ⟨43, 0, 95, 82⟩) (p' := ⟨134, 0, 138, 25⟩) (q := qPos) (pw := pw) ?_
  delta PySem.W.Fast.tw7455365521969018399
  kernel_rfl
theorem p4 (w : World) : P4 w := by
  refine viaG (a := 223) (S := S4) (S' := S5) (l := l4) (be := benv) (cE := cE) (p := ⟨134, 0, 138, 25⟩) (p' := ⟨139, 0, 143, 25⟩) (q := qPos) (pw := pw) ?_
  delta PySem.W.Fast.tw7455365521969018399
  kernel_rfl
theorem p5 (w : World) : P5 w := by
  refine viaG (a := 261) (S := S5) (S' := S6) (l := l5) (be := benv) (cE := cE) (p := ⟨139, 0, 143, 25⟩) (p' := ⟨144, 0, 154, 16⟩) (q := qPos) (pw := pw) ?_
  delta PySem.W.Fast.tw7455365521969018399
  kernel_rfl
theorem p6 (w : World) : P6 w := by
  refine viaG (a := 225) (S := S6) (S' := S7) (l := l6) (be := benv) (cE := cE) (p := ⟨144, 0, 154, 16⟩) (p' := ⟨155, 0, 160, 25⟩) (q := qPos) (pw := pw) ?_
  delta PySem.W.Fast.tw7455365521969018399
  kernel_rfl
theorem p7 (w : World) : P7 w := by
  refine viaG (a := 230) (S := S7) (S' := S8) (l := l7) (be := benv) (cE := cE) (p := ⟨155, 0, 160, 25⟩) (p' := ⟨161, 0, 168, 24⟩) (q := qPos) (pw := pw) ?_
  delta PySem.W.Fast.tw7455365521969018399
  kernel_rfl
theorem p8 (w : World) : P8 w := by
  refine viaG (a := 373) (S := S8) (S' := S9) (l := l8) (be := benv) (cE := cE) (p := ⟨161, 0, 168, 24⟩) (p' := ⟨187, 0, 188, 23⟩) (q := qPos) (pw := pw) ?_
  delta PySem.W.Fast.tw7455365521969018399
  kernel_rfl
theorem p9 (w : World) : P9 w := by
  refine viaG (a := 378) (S := S9) (S' := S10) (l := l9) (be := benv) (cE := cE) (p := ⟨187, 0, 188, 23⟩) (p' := ⟨253, 0, 258, 70⟩) (q := qPos) (pw := pw) ?_
  delta PySem.W.Fast.tw7455365521969018399
  kernel_rfl
theorem p10 (w : World) : P10 w := by
  refine viaG (a := 377) (S := S10) (S' := S11) (l := l10) (be := benv) (cE := cE) (p := ⟨253, 0, 258, 70⟩) (p' := ⟨335, 0, 340, 80⟩) (q := qPos) (pw := pw) ?_
  delta PySem.W.Fast.tw7455365521969018399
  kernel_rfl
theorem p11 (w : World) : P11 w := by
  refine viaG (a := 27) (S := S11) (S' := S12) (l := l11) (be := benv) (cE := cE) (p := ⟨335, 0, 340, 80⟩) (p' := ⟨341, 0, 385, 101⟩) (q := qPos) (pw := pw) ?_
  delta PySem.W.Fast.tw7455365521969018399
  kernel_rfl
noncomputable def flat (P : Params) : List Obj := c0 P ++ (c1 P ++ (c2 P ++ (c3 P ++ (c4 P ++ (c5 P ++ (c6 P ++ (c7 P ++ (c8 P ++ (c9 P ++ (c10 P ++ (c11 P ++ (c12 P ++ (c13 P ++ (c14 P ++ (c15 P ++ (c16 P ++ (c17 P ++ (c18 P ++ (c19 P ++ (c20 P ++ (c21 P ++ (c22 P ++ (c23 P ++ (c24 P ++ (c25 P ++ (c26 P ++ (c27 P ++ (c28 P ++ (c29 P ++ (c30 P ++ (c31 P ++ (c32 P ++ (c33 P ++ (c34 P ++ (c35 P ++ (c36 P ++ (c37 P ++ (c38 P ++ (c39 P ++ (c40 P ++ (c41 P ++ (c42 P ++ (c43 P ++ (c44 P ++ (c45 P ++ (c46 P ++ (c47 P ++ (c48 P ++ (c49 P ++ (c50 P ++ (c51 P ++ (c52 P ++ (c53 P ++ (c54 P ++ (c55 P ++ (c56 P ++ (c57 P ++ (c58 P ++ (c59 P ++ (c60 P ++ (c61 P ++ (c62 P))))))))))))))))))))))))))))))))))))))))))))))))))))))))))))))
noncomputable def H1 (P : Params) : Heap := ⟨(flat P).toArray, lifeC⟩
noncomputable def sF (P : Params) (os : OsState) : Shared := ⟨H1 P, Array.mk [], boot_drawn, 852, os⟩
noncomputable def sB (P : Params) (os : OsState) : Shared := ⟨boot_heap P, Array.mk [], boot_drawn, boot_toks, os⟩
noncomputable def PR (w : World) : Prop := (fun os => topGo treeTable pw w 11 (some (.ref 6)) 12 (sB w.params os) (topStub pw)) = (fun os => some ((S0 w.params os).abs, ⟨denote treeTable cE, cE, ⟨0, 0, 0, 0⟩, [topFrame qPos]⟩))
noncomputable def PB (w : World) : Prop := (fun os => segRun treeTable pw w 11 (some (.ref 6)) 1 1 (S0 w.params os).abs (blockOf bE benv cE ⟨0, 0, 0, 0⟩ [topFrame qPos])) = (fun os => some (Flow.next, (S0 w.params os).abs, cE, ⟨0, 0, 0, 0⟩))
noncomputable def PF (w : World) : Prop := (fun os => topRun treeTable pw w 11 (some (.ref 6)) 2 (S12 w.params os).abs ⟨doneF .next, cE, ⟨341, 0, 385, 101⟩, [topFrame qPos]⟩) = (fun os => some (sF w.params os))
noncomputable def PZ (w : World) : Prop := ((boot_heap w.params).isNs mainGlobals && (Array.mk [] : Array GenState).size == 0, (boot_heap w.params).objs.size, (boot_heap w.params).nsMap mainGlobals "__annotations__") = (true, 11, some (.ref 6))
theorem pR (w : World) : PR w := by
  delta PR
  kernel_rfl
theorem pB_ (w : World) : PB w := by
  delta PB
  kernel_rfl
theorem pF (w : World) : PF w := by
  delta PF
  kernel_rfl
theorem pZ (w : World) : PZ w := by
  delta PZ
  kernel_rfl
theorem bE_eq : bE = l0 ++ (l1 ++ (l2 ++ (l3 ++ (l4 ++ (l5 ++ (l6 ++ (l7 ++ (l8 ++ (l9 ++ (l10 ++ (l11 ++ []))))))))))) := by kernel_rfl
noncomputable abbrev stepsM : Nat := (12 + (1 + (356 + (255 + (419 + (374 + (223 + (261 + (225 + (230 + (373 + (378 + (377 + (27 + 2))))))))))))))
theorem run (w : World) (os : OsState) : topRun treeTable pw w 11 (some (.ref 6)) stepsM (sB w.params os) (topStub pw) = some (sF w.params os) := by
  refine go_top (congrFun (pR w) os) ?_
  refine piece_block (congrFun (pB_ w) os) ?_
  rw [bE_eq]
  refine piece_app (segRun_of (congrFun (p0 w) os)) ?_
  refine piece_app (segRun_of (congrFun (p1 w) os)) ?_
  refine piece_app (segRun_of (congrFun (p2 w) os)) ?_
  refine piece_app (segRun_of (congrFun (p3 w) os)) ?_
  refine piece_app (segRun_of (congrFun (p4 w) os)) ?_
  refine piece_app (segRun_of (congrFun (p5 w) os)) ?_
  refine piece_app (segRun_of (congrFun (p6 w) os)) ?_
  refine piece_app (segRun_of (congrFun (p7 w) os)) ?_
  refine piece_app (segRun_of (congrFun (p8 w) os)) ?_
  refine piece_app (segRun_of (congrFun (p9 w) os)) ?_
  refine piece_app (segRun_of (congrFun (p10 w) os)) ?_
  refine piece_app (segRun_of (congrFun (p11 w) os)) ?_
  exact piece_nil (congrFun (pF w) os)
noncomputable def qv : Program := view pw keepL
noncomputable abbrev rowR : OpenRow := PySem.Challenge.rw_pq1324_01.row
noncomputable def modsL : List Str := importedModules pw.main.body
noncomputable def XtF (s : Shared) : Bool := xlAt qv [] s && recOk (RowW.records rowR.toRowW) s
noncomputable def LA (w : World) : Prop := (fun os => staticsOk modsL (boot_heap w.params) (H1 w.params) && namesBound pw (H1 w.params) && gensDone (sF w.params os) && laidKept (boot_heap w.params) (H1 w.params)) = fun _ => true
noncomputable def LB1 (w : World) : Prop := (fun os => seen ((recsOf qv).map (·.name)) (ownsOf qv) [] { sF w.params os with gens := #[] }) = fun _ => expectedOf qv
noncomputable def LB2 (w : World) : Prop := (H1 w.params).bltView = bltViewBooted
noncomputable def LB3 (w : World) : Prop := (fun os => (H1 w.params).keysOk (looseW qv looseL) ((recsOf qv).map (·.name)) ((litsOf qv).map (·.1)) ((clssOf qv (looseW qv looseL)).map (·.name)) && (H1 w.params).accountedOkI modsL && (H1 w.params).isNs mainGlobals && (H1 w.params).isNs builtinsNs && tablesOk qv (H1 w.params) && XtF (sF w.params os) && ((sF w.params os).gens.size == 0)) = fun _ => true
noncomputable def LB4 (w : World) : Prop := (fun os => tabsOk qv (sF w.params os)) = fun _ => true
noncomputable def LB5 (w : World) : Prop := (fun os => pinSeenD qv (drecsOf qv) (sF w.params os)) = fun _ => pinGoodD (drecsOf qv)
noncomputable def LB6 (w : World) : Prop := (fun os => plainSeenE qv (looseW qv looseL) (sF w.params os)) = fun _ => plainGoodE qv (looseW qv looseL)
noncomputable def LB7 (w : World) : Prop := (fun os => plainSeenD qv looseL (sF w.params os)) = fun _ => plainGoodD qv looseL
noncomputable def LB8 (w : World) : Prop := (fun os => wideSeen qv (sF w.params os)) = fun _ => wideGood qv
noncomputable def LB9 (w : World) : Prop := (fun os => clsSeenW qv looseL (sF w.params os)) = fun _ => clsGoodW qv looseL
noncomputable def LC (w : World) : Prop := (asK.map (H1 w.params).get?) = (KT w.params).map fun p => some p.2
theorem lA (w : World) : LA w := by
  delta LA
  kernel_rfl
theorem lB1 (w : World) : LB1 w := by
  delta LB1
  kernel_rfl
theorem lB2 (w : World) : LB2 w := by
  delta LB2
  kernel_rfl
theorem lB3 (w : World) : LB3 w := by
  delta LB3
  kernel_rfl
theorem lB4 (w : World) : LB4 w := by
  delta LB4
  kernel_rfl
theorem lB5 (w : World) : LB5 w := by
  delta LB5
  kernel_rfl
theorem lB6 (w : World) : LB6 w := by
  delta LB6
  kernel_rfl
theorem lB7 (w : World) : LB7 w := by
  delta LB7
  kernel_rfl
theorem lB8 (w : World) : LB8 w := by
  delta LB8
  kernel_rfl
theorem lB9 (w : World) : LB9 w := by
  delta LB9
  kernel_rfl
theorem lC (w : World) : LC w := by
  delta LC
  kernel_rfl
theorem KT_eq : KT = K := by kernel_rfl
theorem asK_eq (P : Params) : asK = (KT P).map (·.1) := by kernel_rfl
noncomputable def hk : Hook := ⟨List (Option Obj), fun s => asK.map s.heap.get?, fun w => (KT w.params).map fun p => some p.2, InK K, fun w s x => by rw [← KT_eq]; exact InK.of asK_eq w s x, InK.keeps⟩
theorem openOk (s : Shared) : fenceModules? pw s = some s := by kernel_rfl
theorem opens : opening pw = plainProg pw.main.scope.names := by kernel_rfl
theorem seenOk (w : World) (os : OsState) : openSeen qv looseL modsL XtF true (sF w.params os) = openGood qv looseL := by
  unfold openSeen openGood
  refine looks_pair (congrFun (lB1 w) os) (looks_pair (lB2 w) (looks_pair (congrFun (lB3 w) os) (looks_pair (congrFun (lB4 w) os) (looks_pair (congrFun (lB5 w) os) (looks_pair (congrFun (lB6 w) os) (looks_pair (congrFun (lB7 w) os) (looks_pair (congrFun (lB8 w) os) (congrFun (lB9 w) os))))))))
theorem left : LeftO pw qv looseL XtF (Hook.obs hk) (Hook.val hk) 7098 :=
  LeftO.of_pieces (H₁ := H1) (boot_open opens (by decide +kernel) openOk) pZ run (by decide +kernel) fun w => funext fun os =>
    looks_pair (congrFun (lA w) os) (looks_pair (seenOk w os) (lC w))
end Mine
end
section
set_option maxHeartbeats 0
namespace Mine
theorem said : OpenLaw.wellSaid PySem.Challenge.rw_pq1324_01 = true := by
  rw [PySem.W.Fast.te9446332074065402090]
  delta PySem.W.Fast.tw9446332074065402090
  repeat' with_reducible refine look_both ?_ ?_
  all_goals try delta PySem.W.Fast.tw17960256430627541270
  repeat' with_reducible refine look_both ?_ ?_
  all_goals try delta PySem.W.Fast.tw2436336058641802641
  repeat' with_reducible refine look_both ?_ ?_
  all_goals try delta PySem.W.Fast.tw12908688711261696721
  repeat' with_reducible refine look_both ?_ ?_
  all_goals decide +kernel
noncomputable abbrev lawD : DefRec := { name := Str.ofString "law", params := AF55, body := BF55, scope := CF55, pos := ⟨341, 0, 385, 101⟩ }
noncomputable abbrev YPk (w : World) (h : Heap) : Prop := (K w.params).In h
theorem hd (walk : WalkO qv looseL (XL qv []) YPk PySem.Challenge.rw_pq1324_01.row.toRowW lawD [] (fun f vs => PySem.call f vs)) : PySem.Challenge.rw_pq1324_01.Holds := by
  w_on
  refine holds_law said fun said => ?_
  refine holds_open (q := qv) (loose := looseL) (Xt := XtF) (XP := XL qv []) (Yf := Hook.obs hk) (Ya := Hook.val hk) (YP := Hook.says hk) (N := 7098) left (Hook.of hk) (Hook.keeps hk) (fun s e => xl_of s (Bool.and_eq_true_iff.mp e).1) XL.keeps (by rfl) (by rfl) (by rfl) (fun s e => recFacts_of (Bool.and_eq_true_iff.mp e).2) (by rfl) (by first | assumption | decide +kernel) (by decide +kernel) ⟨rfl, rfl, rfl, rfl, rfl, by decide +kernel⟩ ?hw ?hc
  case hw => w_witness2
  case hc => exact walk
end Mine
end
section
set_option maxHeartbeats 8000000
namespace Mine
noncomputable abbrev prg : Program := PySem.Challenge.rw_pq1324_01.row.prog
theorem fold_ {G : Prop} (h : ∀ P : Prop, (G → P) → P) : G := h G id
noncomputable abbrev Lz : List Str := looseW qv looseL
noncomputable abbrev lobj (vs : List Value) (n : Nat) : Obj := { cls := .type "list", data := .seq vs.toArray n }
noncomputable abbrev tobj (vs : List Value) (n : Nat) : Obj := { cls := .type "tuple", data := .seq vs.toArray n }
noncomputable abbrev iobj (C d : Addr) : Obj := ⟨.ref C, some d, .plain, #[]⟩
noncomputable abbrev ent (w : World) (x : Str) (t : Tok) (v : Value) : DictEntry := ⟨PyData.keyHash w.params x, .str x t, v⟩
section
variable {prog : Program} {w : World} {A₀ A : Around} {s : Shared} {base h₀ : Heap} {outer : List Env} {L : Addr} {m : Str → Option Value} {env : Env} {news : List (Addr × Obj)} {Kf : Frag} {p : Program} {loose : List Str} {mean : ExcName → Option Value} {mg mb : Str → Option Value}
  {R : Result → Shared → Prop} {name qual : Str} {params : Arguments} {body : List Stmt} {scope : Scope} {dV kV doc pm cdv ct oc : Value} {an od : Option Addr} {osl : Array (Option Value)} {f : Addr} {args : Args} {binds : List (Str × Value)}
end
section
variable {h₀ h g h' : Heap} {L L' : Addr} {m : Str → Option Value} {news ex tl : List (Addr × Obj)} {q : Addr × Obj}
end
end Mine
end
section
set_option maxHeartbeats 1000000
namespace Mine
noncomputable def TurnEnd (h₀ : Heap) (L : Addr) (I : Addr) (oI : Obj) (J : (Str → Option Value) → List (Addr × Obj) → Prop) (s : Shared) (f : Flow) (s' : Shared) : Prop :=
  f = .next ∧ ∃ h' tk m' news', s' = { s with heap := h', toks := tk } ∧ Fr h₀ L h' m' ∧ News h₀ L h' ((I, oI) :: news') ∧ (∀ p ∈ news', p.1 ≠ I) ∧ J m' news'
section
variable {prog : Program} {w : World} {A : Around} {E : Value → Shared → Prop} {s : Shared} {env : Env} {h₀ : Heap} {x : Str} {body : List Stmt} {Q : Flow → Shared → Prop} {m : Str → Option Value} {news : List (Addr × Obj)}
end
section
open LCg
variable {prog : Program} {w : World} {A : Around} {s : Shared} {h₀ : Heap} {L : Addr} {m : Str → Option Value} {env : Env}
end
end Mine
end
section
set_option maxHeartbeats 8000000
namespace Mine
noncomputable def NeAll (d : Addr) : List (Addr × Obj) → Prop
  | [] => True
  | p :: r => @Ne Nat d p.1 ∧ NeAll d r
noncomputable def Dis : List (Addr × Obj) → Prop
  | [] => True
  | p :: r => NeAll p.1 r ∧ Dis r
noncomputable def Apart : List (Addr × Obj) → List (Addr × Obj) → Prop
  | [], _ => True
  | p :: r, l => NeAll p.1 l ∧ Apart r l
section
variable {d : Addr} {l l' ex rest : List (Addr × Obj)}
theorem neAll_iff : ∀ {l : List (Addr × Obj)}, NeAll d l ↔ ∀ p ∈ l, p.1 ≠ d
  | [] => ⟨fun _ _ h => (nomatch h), fun _ => trivial⟩
  | q :: r => ⟨fun h p hp => (List.mem_cons.mp hp).elim (fun e => e ▸ Ne.symm h.1) (fun hp => neAll_iff.mp h.2 p hp), fun h => ⟨Ne.symm (h q (.head _)), neAll_iff.mpr fun p hp => h p (.tail _ hp)⟩⟩
theorem NeAll.ne (h : NeAll d l) : ∀ p ∈ l, p.1 ≠ d := neAll_iff.mp h
theorem NeAll.sub (h : NeAll d l) (k : ∀ p ∈ l', p ∈ l) : NeAll d l' := neAll_iff.mpr fun p hp => h.ne p (k p hp)
theorem neAll_app : NeAll d (l ++ l') ↔ NeAll d l ∧ NeAll d l' := by
  simp only [neAll_iff, List.mem_append]
  constructor
  · intro h
    exact ⟨fun p hp => h p (.inl hp), fun p hp => h p (.inr hp)⟩
  · intro h p hp
    exact hp.elim (h.1 p) (h.2 p)
theorem apart_iff : ∀ {ex : List (Addr × Obj)}, Apart ex rest ↔ ∀ p ∈ ex, NeAll p.1 rest
  | [] => ⟨fun _ _ h => (nomatch h), fun _ => trivial⟩
  | q :: r => ⟨fun h p hp => (List.mem_cons.mp hp).elim (fun e => e ▸ h.1) (fun hp => apart_iff.mp h.2 p hp), fun h => ⟨h q (.head _), apart_iff.mpr fun p hp => h p (.tail _ hp)⟩⟩
theorem dis_app : Dis (ex ++ l) ↔ Dis ex ∧ Dis l ∧ Apart ex l := by
  induction ex with
  | nil => simp [Dis, Apart]
  | cons p r ih =>
    simp only [List.cons_append, Dis, Apart, neAll_app, ih]
    constructor
    · rintro ⟨⟨a, b⟩, c, d, e⟩; exact ⟨⟨a, c⟩, d, b, e⟩
    · rintro ⟨⟨a, c⟩, d, b, e⟩; exact ⟨⟨a, b⟩, c, d, e⟩
end
section
variable {h₀ g h h' : Heap} {L L' : Addr} {m' : Str → Option Value} {ex ex' rest : List (Addr × Obj)}
end
end Mine
end
section
open PySem PySem.W PyProof.Rows PySem.Calls PySem.Spec PyProof.V
namespace Mine
section
variable {w : World} {A : Around} {E : Value → Shared → Prop} {s : Shared} {h₀ : Heap} {L : Addr} {m : Str → Option Value} {news news' : List (Addr × Obj)} {l : Addr} {vs : List Value} {n : Nat} {x v : Value}
theorem m_set {i : Nat} {t : Tok} {Q : Unit → Shared → Prop} (F : Fr h₀ L s.heap m) (N : News h₀ L s.heap news) (hi : i < vs.length) (hf : i < 2 ^ 62) (U : Upd l (lobj vs n) (lobj (vs.set i v) n) news news')
    (h : ∀ h', Fr h₀ L h' m → News h₀ L h' news' → Q () { s with heap := h' }) : wpAny (model prg w) A (setItem (.ref l) (.int (i : Int) t) v) Q E s := by
  refine ki_set (q := vs.set i v) F N (by omega) (by omega) ?_ U h
  have : ∀ (vs : List Value) (i : Nat), i < vs.length → ki_setL vs i v = some (vs.set i v) := by
    intro vs
    induction vs with
    | nil => intro i h; cases h
    | cons a r ih =>
      intro i h
      cases i with
      | zero => rfl
      | succ i =>
        simp only [ki_setL, List.set_cons_succ]
        rw [ih i (by simpa using h)]
  simpa using this vs i hi
theorem m_app {Q : Value → Shared → Prop} (F : Fr h₀ L s.heap m) (N : News h₀ L s.heap news) (hf : vs.length ≤ 1000000) (U : Upd l (lobj vs n) (lobj (vs ++ [x]) (n + 1)) news news')
    (h : ∀ h', Fr h₀ L h' m → News h₀ L h' news' → Q .none { s with heap := h' }) : wpAny (model prg w) A (call (.builtin "list.append") [.ref l, x]) Q E s := by
  have e : ({ cls := .type "list", data := .seq (vs.toArray.push x) (n + 1) } : Obj) = lobj (vs ++ [x]) (n + 1) := by simp
  refine append_K (its := vs.toArray) (n := n) F N ?_ h (by rw [sizeLine_eq]; simp; omega)
  show Upd l _ (listOf (vs.toArray.push x) (n + 1)) news news'
  rw [show listOf (vs.toArray.push x) (n + 1) = lobj (vs ++ [x]) (n + 1) from e]
  exact U
end
section
variable {prog : Program} {w : World} {A : Around} {E : Value → Shared → Prop} {s : Shared} {env : Env} {h₀ : Heap} {x : Str} {body : List Stmt} {Q : Flow → Shared → Prop} {m : Str → Option Value} {news : List (Addr × Obj)}
end
theorem szOK {n : Nat} (h : n ≤ 1000) : n ≤ sizeLine := by rw [sizeLine_eq]; omega
section
open LCg
variable {prog : Program} {w : World} {A : Around} {s : Shared} {h₀ : Heap} {L : Addr} {m : Str → Option Value} {env : Env}
theorem smallR {n : Nat} (hn : n ≤ 1000) : Builtin.Range.small 0 (n : Int) 1 = true := by
  unfold Builtin.Range.small
  simp [Builtin.Range.rangeFitsLong, Builtin.Range.rangeSize]
  split <;> omega
theorem sizeR {n : Nat} : Builtin.Range.rangeSize 0 (n : Int) 1 = ((n : Nat) : Int) := by
  simp only [Builtin.Range.rangeSize]
  rw [if_pos (by decide)]
  by_cases h : (0 : Int) < n
  · rw [if_pos h, Int.ediv_one]; omega
  · rw [if_neg h]; omega
end
section
open LCg
variable {prog : Program} {w : World} {A : Around} {s₁ : Shared} {h₀ : Heap} {L : Addr} {m : Str → Option Value} {env : Env}
end
theorem neAll_off {D : Addr} : ∀ {l : List (Addr × Obj)}, LCg.Off1 D l → NeAll D l
  | [], _ => trivial
  | _ :: _, h => ⟨fun e => h.1 e.symm, neAll_off h.2⟩
section
variable {prog : Program} {w : World} {A : Around} {E : Value → Shared → Prop} {Q : Flow → Shared → Prop} {s : Shared} {env : Env} {h₀ : Heap} {L : Addr}
end
section
variable {prog : Program} {w : World} {A : Around} {E : Value → Shared → Prop} {s : Shared} {env : Env} {h₀ : Heap} {x : Str} {body : List Stmt} {Q : Flow → Shared → Prop} {m : Str → Option Value} {news : List (Addr × Obj)}
end
section
variable {prog : Program} {w : World} {A : Around} {E : Value → Shared → Prop} {s : Shared} {env : Env} {h₀ : Heap} {x : Str} {body : List Stmt} {Q : Flow → Shared → Prop} {m : Str → Option Value} {X : List (Addr × Obj)}
end
end Mine
end
section
namespace Mine
inductive SV where
  | none
  | bool (b : Bool)
  | int (n : Int)
  | str (x : Str)
  | ref (n : Nat)
  | con (v : Value)
  | any
  | kind
  | bi (n : Nat)
  | txt (n : Nat)
noncomputable def biV : Nat → Value
  | 0 => .builtin "len"
  | 1 => .type "range"
  | 2 => .type "list"
  | _ => .builtin "isinstance"
noncomputable def kindL : List Str := [Str.ofString "integer", Str.ofString "character", Str.ofString "symbol", Str.ofString "language", Str.ofString "missing"]
noncomputable def Is (ρ : List Addr) : SV → Value → Prop
  | .none, v => v = .none
  | .bool b, v => v = .bool b
  | .int n, v => ∃ t, v = .int n t
  | .str x, v => ∃ t, v = .str x t
  | .ref n, v => ∃ a, ρ[n]? = some a ∧ v = .ref a
  | .con c, v => v = c
  | .any, _ => True
  | .kind, v => ∃ x t, x ∈ kindL ∧ v = .str x t
  | .bi n, v => v = biV n
  | .txt n, v => ∃ a t, ρ[n]? = some a ∧ @LT.lt Nat _ a 1114112 ∧ v = .str ⟨#[a]⟩ t
noncomputable def IsL (ρ : List Addr) : List SV → List Value → Prop
  | [], [] => True
  | a :: l, v :: vs => Is ρ a v ∧ IsL ρ l vs
  | _, _ => False
noncomputable def IsD (w : World) (ρ : List Addr) : List (Str × SV) → List DictEntry → Prop
  | [], [] => True
  | (x, a) :: l, e :: es => (∃ t v, e = ent w x t v ∧ Is ρ a v) ∧ IsD w ρ l es
  | _, _ => False
noncomputable def IsKV (ρ : List Addr) : List (Str × SV) → List (Str × Value) → Prop
  | [], [] => True
  | (x, a) :: l, (y, v) :: l' => y = x ∧ Is ρ a v ∧ IsKV ρ l l'
  | _, _ => False
/-- an argument of the law, told by its data alone -/
inductive ItemD where
  | int (z : Int)
  | chr (c : Str)
  | sym (c : Str)
  | call
  | miss
/-- what the symbolic states leave open: the arguments, and the objects that a loop holds fast -/
structure Xp where
  V : Nat → ItemD
  O : Nat → Obj
  S : Nat → List Int
inductive SO where
  | list (l : List SV)
  | tup (l : List SV)
  | inst (C : Addr) (n : Nat)
  | dict (es : List (Str × SV))
  | tab (es : List (Str × SV))
  | shelf (j : Nat)
  | fix (l : List SV) (j : Nat)
  | rng (n : Nat)
  | item (i : Nat)
  | shown (i : Nat)
noncomputable def SO.base : SO → Bool
  | .item _ => false
  | .shown _ => false
  | _ => true
noncomputable def IsO (w : World) (X : Xp) (ρ : List Addr) : SO → Obj → Prop
  | .list l, o => ∃ vs n, o = lobj vs n ∧ IsL ρ l vs
  | .tup l, o => ∃ vs n, o = tobj vs n ∧ IsL ρ l vs
  | .inst C n, o => ∃ d, ρ[n]? = some d ∧ o = iobj C d
  | .dict es, o => ∃ ds n, o = dictOf ds n ∧ IsD w ρ es ds
  | .tab es, o => ∃ kvs, o.IsDictOf (strKind prg w) kvs ∧ IsKV ρ es kvs
  | .shelf j, o => ∃ vs n, o = lobj vs n ∧ IsL ρ ((X.S j).map .int) vs
  | .fix l j, o => o = X.O j ∧ ∃ vs n, o = lobj vs n ∧ IsL ρ l vs
  | .rng n, o => ∃ t u v, o = { cls := .type "range", dict := none, data := .fields #[.int 0 t, .int (n : Int) u, .int 1 v], slots := #[] }
  | .item _, _ => False
  | .shown _, _ => False
noncomputable def TabOk : SO → Addr → Prop
  | .tab _, a => (a == sysModules) = false
  | _, _ => True
/-- one symbolic object, one object -/
inductive IsZ (w : World) (X : Xp) (ρ : List Addr) : List (Nat × SO) → List (Addr × Obj) → Prop
  | nil : IsZ w X ρ [] []
  | cons {n : Nat} {so : SO} {a : Addr} {o : Obj} {l : List (Nat × SO)} {l' : List (Addr × Obj)} : ρ[n]? = some a → IsO w X ρ so o ∧ TabOk so a → IsZ w X ρ l l' → IsZ w X ρ ((n, so) :: l) ((a, o) :: l')
noncomputable def str! (s : String) : SV := .str (Str.ofString s)
noncomputable def symO (n : Nat) (c : Str) : List (Nat × SO) := [(n, .inst 257 (n + 1)), (n + 1, .dict [(Str.ofString "kind", str! "symbol"), (Str.ofString "name", .str c), (Str.ofString "attrs", .none)])]
noncomputable def vecO (kind : String) (a : SV) (sh : Bool) : List (Nat × SO) := [(0, .inst 236 1), (1, .dict [(Str.ofString "kind", str! kind), (Str.ofString "items", .ref 2), (Str.ofString "attrs", .none), (Str.ofString "shared", .bool sh), (Str.ofString "loose", .bool false)]), (2, .list [a])]
/-- the objects of an argument, by numbers of their own -/
noncomputable def itemO : ItemD → Bool → List (Nat × SO)
  | .int z, sh => vecO "integer" (.int z) sh
  | .chr c, sh => vecO "character" (.str c) sh
  | .sym c, _ => symO 0 c
  | .call, _ => [(0, .inst 279 1), (1, .dict [(Str.ofString "kind", str! "language"), (Str.ofString "items", .ref 2), (Str.ofString "tags", .ref 3), (Str.ofString "attrs", .none), (Str.ofString "code", .none)]), (2, .list [.ref 4, .ref 6]), (3, .list [.none, str! "k"])] ++ symO 4 (Str.ofString "f") ++ symO 6 (Str.ofString "x")
  | .miss, _ => [(0, .inst 207 1), (1, .dict [(Str.ofString "kind", str! "missing"), (Str.ofString "attrs", .none)])]
/-- what the law shows of an argument -/
noncomputable def shownO : ItemD → List (Nat × SO)
  | .int z => [(0, .list [str! "integer", .int z])]
  | .chr c => [(0, .list [str! "character", .str c])]
  | .sym c => [(0, .list [str! "symbol", .str c])]
  | .call => [(0, .list [str! "call", .ref 1, .ref 2, .none, str! "k"]), (1, .list [str! "symbol", str! "f"]), (2, .list [str! "symbol", str! "x"])]
  | .miss => [(0, .list [str! "missing"])]
noncomputable def X0 : Xp := ⟨fun _ => .miss, fun _ => ⟨.none, none, .plain, #[]⟩, fun _ => []⟩
noncomputable def okD : ItemD → Prop
  | .chr c => PyData.strOk c = true
  | .sym c => PyData.strOk c = true ∧ c ≠ Str.ofString ""
  | _ => True
noncomputable def ItemC (w : World) (d : ItemD) (a : Addr) (c : List (Addr × Obj)) : Prop := okD d ∧ ∃ ρ sh, ρ.length = (itemO d sh).length ∧ ρ[0]? = some a ∧ IsZ w X0 ρ (itemO d sh) c
noncomputable def ShownC (w : World) (d : ItemD) (a : Addr) (c : List (Addr × Obj)) : Prop := okD d ∧ ∃ ρ, ρ.length = (shownO d).length ∧ ρ[0]? = some a ∧ IsZ w X0 ρ (shownO d) c
inductive IsObjs (w : World) (X : Xp) (ρ : List Addr) : List (Nat × SO) → List (Addr × Obj) → Prop
  | nil : IsObjs w X ρ [] []
  | cons {n : Nat} {so : SO} {a : Addr} {o : Obj} {l : List (Nat × SO)} {l' : List (Addr × Obj)} : ρ[n]? = some a → IsO w X ρ so o ∧ TabOk so a → IsObjs w X ρ l l' → IsObjs w X ρ ((n, so) :: l) ((a, o) :: l')
  | item {n i : Nat} {a : Addr} {c l' : List (Addr × Obj)} {l : List (Nat × SO)} : ρ[n]? = some a → ItemC w (X.V i) a c → IsObjs w X ρ l l' → IsObjs w X ρ ((n, .item i) :: l) (c ++ l')
  | shown {n i : Nat} {a : Addr} {c l' : List (Addr × Obj)} {l : List (Nat × SO)} : ρ[n]? = some a → ShownC w (X.V i) a c → IsObjs w X ρ l l' → IsObjs w X ρ ((n, .shown i) :: l) (c ++ l')
section mono
variable {w : World} {X : Xp} {ρ ρ' : List Addr}
theorem pre_get {n : Nat} {a : Addr} (p : ρ <+: ρ') (h : ρ[n]? = some a) : ρ'[n]? = some a := by
  obtain ⟨r, rfl⟩ := p
  rw [List.getElem?_append_left (List.getElem?_eq_some_iff.mp h).1]; exact h
theorem Is.mono (p : ρ <+: ρ') : ∀ {a : SV} {v : Value}, Is ρ a v → Is ρ' a v
  | .none, _, h => h
  | .bool _, _, h => h
  | .int _, _, h => h
  | .str _, _, h => h
  | .ref _, _, ⟨a, h, e⟩ => ⟨a, pre_get p h, e⟩
  | .con _, _, h => h
  | .any, _, h => h
  | .kind, _, h => h
  | .bi _, _, h => h
  | .txt _, _, ⟨a, t, h, b, e⟩ => ⟨a, t, pre_get p h, b, e⟩
theorem IsKV.mono (p : ρ <+: ρ') : ∀ {l : List (Str × SV)} {vs : List (Str × Value)}, IsKV ρ l vs → IsKV ρ' l vs
  | [], [], _ => trivial
  | (_, _) :: _, (_, _) :: _, ⟨h1, h2, h3⟩ => ⟨h1, h2.mono p, IsKV.mono p h3⟩
  | [], _ :: _, h => h.elim
  | (_, _) :: _, [], h => h.elim
theorem IsL.mono (p : ρ <+: ρ') : ∀ {l : List SV} {vs : List Value}, IsL ρ l vs → IsL ρ' l vs
  | [], [], _ => trivial
  | _ :: _, _ :: _, h => ⟨h.1.mono p, IsL.mono p h.2⟩
  | [], _ :: _, h => h.elim
  | _ :: _, [], h => h.elim
theorem IsD.mono (p : ρ <+: ρ') : ∀ {l : List (Str × SV)} {vs : List DictEntry}, IsD w ρ l vs → IsD w ρ' l vs
  | [], [], _ => trivial
  | (_, _) :: _, _ :: _, ⟨⟨t, v, e, h⟩, h'⟩ => ⟨⟨t, v, e, h.mono p⟩, IsD.mono p h'⟩
  | [], _ :: _, h => h.elim
  | (_, _) :: _, [], h => h.elim
theorem IsO.mono (p : ρ <+: ρ') : ∀ {so : SO} {o : Obj}, IsO w X ρ so o → IsO w X ρ' so o
  | .list _, _, ⟨vs, n, e, h⟩ => ⟨vs, n, e, h.mono p⟩
  | .tup _, _, ⟨vs, n, e, h⟩ => ⟨vs, n, e, h.mono p⟩
  | .inst _ _, _, ⟨d, h, e⟩ => ⟨d, pre_get p h, e⟩
  | .dict _, _, ⟨ds, n, e, h⟩ => ⟨ds, n, e, h.mono p⟩
  | .tab _, _, ⟨v, e, h⟩ => ⟨v, e, h.mono p⟩
  | .fix _ _, _, ⟨e0, vs, n, e, h⟩ => ⟨e0, vs, n, e, h.mono p⟩
  | .shelf _, _, ⟨vs, n, e, h⟩ => ⟨vs, n, e, h.mono p⟩
  | .rng _, _, h => h
  | .item _, _, h => h
  | .shown _, _, h => h
theorem IsObjs.mono (p : ρ <+: ρ') {l : List (Nat × SO)} {l' : List (Addr × Obj)} (h : IsObjs w X ρ l l') : IsObjs w X ρ' l l' := by
  induction h with
  | nil => exact .nil
  | cons h1 h2 _ ih => exact .cons (pre_get p h1) ⟨IsO.mono p h2.1, h2.2⟩ ih
  | item h1 h2 _ ih => exact .item (pre_get p h1) h2 ih
  | shown h1 h2 _ ih => exact .shown (pre_get p h1) h2 ih
theorem IsL.length : ∀ {l : List SV} {vs : List Value}, IsL ρ l vs → vs.length = l.length
  | [], [], _ => rfl
  | _ :: _, _ :: _, h => by simp [IsL.length h.2]
  | [], _ :: _, h => h.elim
  | _ :: _, [], h => h.elim
theorem IsL.append : ∀ {l l' : List SV} {vs vs' : List Value}, IsL ρ l vs → IsL ρ l' vs' → IsL ρ (l ++ l') (vs ++ vs')
  | [], _, [], _, _, h => h
  | _ :: _, _, _ :: _, _, h, h' => ⟨h.1, IsL.append h.2 h'⟩
  | [], _, _ :: _, _, h, _ => h.elim
  | _ :: _, _, [], _, h, _ => h.elim
theorem IsL.get : ∀ {l : List SV} {vs : List Value} {i : Nat} {a : SV}, IsL ρ l vs → l[i]? = some a → ∃ v, vs[i]? = some v ∧ Is ρ a v
  | _ :: _, v :: _, 0, _, h, e => ⟨v, rfl, Option.some.inj e ▸ h.1⟩
  | _ :: _, _ :: _, i + 1, _, h, e => by simpa using IsL.get (i := i) h.2 (by simpa using e)
  | [], _, _, _, _, e => by simp at e
  | _ :: _, [], _, _, h, _ => h.elim
theorem IsL.set : ∀ {l : List SV} {vs : List Value} {i : Nat} {a : SV} {v : Value}, IsL ρ l vs → Is ρ a v → IsL ρ (l.set i a) (vs.set i v)
  | [], [], _, _, _, _, _ => trivial
  | _ :: _, _ :: _, 0, _, _, h, h' => ⟨h', h.2⟩
  | _ :: _, _ :: _, i + 1, _, _, h, h' => ⟨h.1, IsL.set h.2 h'⟩
  | [], _ :: _, _, _, _, h, _ => h.elim
  | _ :: _, [], _, _, _, h, _ => h.elim
theorem IsL.take : ∀ {l : List SV} {vs : List Value} (i : Nat), IsL ρ l vs → IsL ρ (l.take i) (vs.take i)
  | _, _, 0, _ => trivial
  | [], [], _ + 1, _ => trivial
  | _ :: _, _ :: _, i + 1, h => ⟨h.1, IsL.take i h.2⟩
  | [], _ :: _, _, h => h.elim
  | _ :: _, [], _, h => h.elim
theorem IsL.drop : ∀ {l : List SV} {vs : List Value} (i : Nat), IsL ρ l vs → IsL ρ (l.drop i) (vs.drop i)
  | _, _, 0, h => h
  | [], [], _ + 1, _ => trivial
  | _ :: _, _ :: _, i + 1, h => IsL.drop i h.2
  | [], _ :: _, _, h => h.elim
  | _ :: _, [], _, h => h.elim
end mono
noncomputable def setO (n : Nat) (so : SO) : List (Nat × SO) → List (Nat × SO)
  | [] => []
  | (k, o) :: l => if n = k then (k, so) :: l else (k, o) :: setO n so l
section objs
variable {w : World} {X : Xp} {ρ : List Addr}
theorem look_cons {k n : Nat} {o so : SO} {l : List (Nat × SO)} (e : ((k, o) :: l).lookup n = some so) : (n = k ∧ o = so) ∨ (n ≠ k ∧ l.lookup n = some so) := by
  rw [List.lookup_cons] at e
  by_cases hn : n = k
  · subst hn
    simp at e
    exact .inl ⟨rfl, e⟩
  · have : (n == k) = false := by simpa using hn
    rw [this] at e
    exact .inr ⟨hn, e⟩
theorem IsObjs.split {l : List (Nat × SO)} {l' : List (Addr × Obj)} {n : Nat} {so : SO} (h : IsObjs w X ρ l l') (e : l.lookup n = some so) (hb : so.base = true) : ∃ a o pre post, ρ[n]? = some a ∧ l' = pre ++ (a, o) :: post ∧ (IsO w X ρ so o ∧ TabOk so a) ∧ ∀ ρ' so' o', ρ <+: ρ' → IsO w X ρ' so' o' → TabOk so' a → IsObjs w X ρ' (setO n so' l) (pre ++ (a, o') :: post) := by
  induction h with
  | nil => simp at e
  | @cons k o1 a o l l' h1 h2 h3 ih =>
    rcases look_cons e with ⟨rfl, rfl⟩ | ⟨hn, e⟩
    · refine ⟨a, o, [], l', h1, rfl, h2, fun ρ' so' o'' p h ht => ?_⟩
      unfold setO
      rw [if_pos rfl]
      exact .cons (pre_get p h1) ⟨h, ht⟩ (h3.mono p)
    · obtain ⟨b, ob, pre, post, g1, g2, g3, g4⟩ := ih e
      refine ⟨b, ob, (a, o) :: pre, post, g1, by rw [g2]; rfl, g3, fun ρ' so' o'' p h ht => ?_⟩
      unfold setO
      rw [if_neg hn]
      exact .cons (pre_get p h1) ⟨IsO.mono p h2.1, h2.2⟩ (g4 ρ' so' o'' p h ht)
  | @item k i a c l' l h1 h2 h3 ih =>
    rcases look_cons e with ⟨rfl, rfl⟩ | ⟨hn, e⟩
    · cases hb
    · obtain ⟨b, ob, pre, post, g1, g2, g3, g4⟩ := ih e
      refine ⟨b, ob, c ++ pre, post, g1, by rw [g2, List.append_assoc], g3, fun ρ' so' o'' p h ht => ?_⟩
      unfold setO
      rw [if_neg hn, List.append_assoc]
      exact .item (pre_get p h1) h2 (g4 ρ' so' o'' p h ht)
  | @shown k i a c l' l h1 h2 h3 ih =>
    rcases look_cons e with ⟨rfl, rfl⟩ | ⟨hn, e⟩
    · cases hb
    · obtain ⟨b, ob, pre, post, g1, g2, g3, g4⟩ := ih e
      refine ⟨b, ob, c ++ pre, post, g1, by rw [g2, List.append_assoc], g3, fun ρ' so' o'' p h ht => ?_⟩
      unfold setO
      rw [if_neg hn, List.append_assoc]
      exact .shown (pre_get p h1) h2 (g4 ρ' so' o'' p h ht)
theorem IsObjs.tab {l : List (Nat × SO)} {l' : List (Addr × Obj)} {n : Nat} {so : SO} (h : IsObjs w X ρ l l') (e : l.lookup n = some so) (hb : so.base = true := by rfl) : ∃ a o, ρ[n]? = some a ∧ (a, o) ∈ l' ∧ IsO w X ρ so o ∧ TabOk so a := by
  obtain ⟨a, o, pre, post, g1, rfl, g3, _⟩ := h.split e hb
  exact ⟨a, o, g1, by simp, g3⟩
theorem IsObjs.find {l : List (Nat × SO)} {l' : List (Addr × Obj)} {n : Nat} {so : SO} (h : IsObjs w X ρ l l') (e : l.lookup n = some so) (hb : so.base = true := by rfl) : ∃ a o, ρ[n]? = some a ∧ (a, o) ∈ l' ∧ IsO w X ρ so o :=
  let ⟨a, o, g1, g2, g3, _⟩ := h.tab e hb
  ⟨a, o, g1, g2, g3⟩
end objs
structure EC where
  w : World
  mean : ExcName → Option Value
  mg : Str → Option Value
  mb : Str → Option Value
  env : Env
  fenv : Env
  outer : List Env
  A : Around
  A₀ : Around
  base : Heap
  h₀ : Heap
  L : Addr
  m : Str → Option Value
  ext : List (Addr × Obj)
  raw : List (Addr × Obj)
  b : Nat
  X : Xp
structure EC.Ok (k : EC) : Prop where
  hh : k.A.handled = none
  fr : k.A.frames = some (k.fenv :: k.outer)
  gd : k.A.guards = some []
  ff : k.fenv.frame = some k.L
  fk : k.fenv.scope.kind = .function
  B : Below k.A₀ k.base k.outer k.h₀
  X : (K k.w.params).In k.h₀
  T : Top qv Lz k.mean k.mg k.mb k.h₀
  dep : k.A.depth + 2 * k.b ≤ 900
  uni : k.A.units + 8 * k.b ≤ 5000
structure HE (k : EC) (ρ : List Addr) (objs : List (Nat × SO)) (s : Shared) : Prop where
  F : Fr k.h₀ k.L s.heap k.m
  N : ∃ n', IsObjs k.w k.X ρ objs n' ∧ News k.h₀ k.L s.heap (k.ext ++ n') ∧ Dis (k.ext ++ n')
structure Names (k : EC) (ρ : List Addr) (nm : Str → Option SV) : Prop where
  ev : ∀ x sv, nm x = some sv → ∀ (pos : Pos) (s : Shared) (Q E : Value → Shared → Prop), Fr k.h₀ k.L s.heap k.m → News k.h₀ k.L s.heap k.ext → (∀ v, Is ρ sv v → Q v s) → wpAny (model prg k.w) k.A (eval (.Name x pos) k.env) Q E s
  cp : ∀ x sv c, nm x = some sv → k.env.cells.lookup x = some c → ∃ o v, (c, o) ∈ k.ext ∧ o.data = .cell (some v) ∧ Is ρ sv v
theorem Names.mono {k : EC} {ρ ρ' : List Addr} {nm : Str → Option SV} (h : Names k ρ nm) (p : ρ <+: ρ') : Names k ρ' nm :=
  ⟨fun x sv e pos s Q E F N q => h.ev x sv e pos s Q E F N fun v i => q v (i.mono p), fun x sv c e e' => let ⟨o, v, a, b, i⟩ := h.cp x sv c e e'; ⟨o, v, a, b, i.mono p⟩⟩
noncomputable def Same (s s' : Shared) : Prop := ∃ h tk, s' = { s with heap := h, toks := tk }
theorem Same.refl {s : Shared} : Same s s := ⟨s.heap, s.toks, rfl⟩
theorem Same.trans {s s' s'' : Shared} : Same s s' → Same s' s'' → Same s s'' := fun ⟨_, _, e⟩ ⟨h, t, e'⟩ => ⟨h, t, by subst e; subst e'; rfl⟩
noncomputable def D {α β : Type} (k : EC) (nm : Str → Option SV) (objs : List (Nat × SO)) (nx : Nat) (svs : List SV) (t : List Value → Sem α) (R : List Addr → β → α → Prop) (r : β) (objs' : List (Nat × SO)) (nx' : Nat) : Prop :=
  k.Ok → ∀ ρ s E vs, ρ.length = nx → Names k ρ nm → HE k ρ objs s → IsL ρ svs vs → wpAny (model prg k.w) k.A (t vs) (fun v s' => ∃ ρ', ρ <+: ρ' ∧ ρ'.length = nx' ∧ R ρ' r v ∧ HE k ρ' objs' s' ∧ Same s s') E s
noncomputable abbrev DE (k : EC) (nm : Str → Option SV) (objs : List (Nat × SO)) (nx : Nat) (e : Expr) (r : SV) (objs' : List (Nat × SO)) (nx' : Nat) : Prop := D k nm objs nx [] (fun _ => eval e k.env) Is r objs' nx'
section
variable {k : EC} {nm : Str → Option SV} {objs objs' objs₁ objs₂ objs₃ : List (Nat × SO)} {nx nx' nx₁ nx₂ nx₃ : Nat} {r a b : SV} {svs : List SV}
theorem HE.tok {ρ : List Addr} {s : Shared} {tk : Nat} (h : HE k ρ objs s) : HE k ρ objs { s with toks := tk } := ⟨h.F, h.N⟩
theorem HE.toRho {ρ ρ' : List Addr} {s : Shared} (h : HE k ρ objs s) (p : ρ <+: ρ') : HE k ρ' objs s := ⟨h.F, let ⟨n, a, b, c⟩ := h.N; ⟨n, a.mono p, b, c⟩⟩
theorem pre_refl {ρ : List Addr} : ρ <+: ρ := List.prefix_refl _
/-- a result without a change but the tokens -/
theorem D.ret {t : List Value → Sem Value} (h : k.Ok → ∀ ρ s (Q E : Value → Shared → Prop) vs, Names k ρ nm → HE k ρ objs s → IsL ρ svs vs → (∀ v tk, Is ρ r v → Q v { s with toks := tk }) → wpAny (model prg k.w) k.A (t vs) Q E s) :
    D k nm objs nx svs t Is r objs nx := fun ok ρ s E vs hl hn he hi => h ok ρ s _ E vs hn he hi fun v tk i => ⟨ρ, pre_refl, hl, i, he.tok, ⟨s.heap, tk, rfl⟩⟩
theorem DE_name {x : Str} {pos : Pos} (h : nm x = some r) : DE k nm objs nx (.Name x pos) r objs nx := fun ok ρ s E vs hl hn he hi => by
  refine fold_ fun P_ hP_ => ?_
  obtain ⟨n', o, N, d⟩ := he.N
  refine hP_ ?_
  exact hn.ev x r h pos s _ E he.F (fun p hp => N p (List.mem_append_left _ hp)) fun v i => ⟨ρ, pre_refl, hl, i, he, Same.refl⟩
theorem DE_int {i : Int} {q : Nat} {pos : Pos} : DE k nm objs nx (.Constant (.int i) q pos) (.int i) objs nx := D.ret fun ok ρ s Q E vs hn he hi q => wpAny_Constant_int (q _ _ ⟨_, rfl⟩)
theorem DE_str {x : Str} {q : Nat} {pos : Pos} : DE k nm objs nx (.Constant (.str x) q pos) (.str x) objs nx := D.ret fun ok ρ s Q E vs hn he hi q => Calls.Constant_str (q _ _ ⟨_, rfl⟩)
theorem DE_none {q : Nat} {pos : Pos} : DE k nm objs nx (.Constant .none q pos) .none objs nx := D.ret fun ok ρ s Q E vs hn he hi q => wpAny_Constant_none (q _ s.toks rfl)
/-- one value, then what is done with it -/
theorem D.then1 {α : Type} {e : Expr} {T : Sem α} {t : Value → Sem α} {R : List Addr → β → α → Prop} {r₂ : β} (K₁ : ∀ {Q E s}, wpAny (model prg k.w) k.A (eval e k.env) (fun v s₁ => wpAny (model prg k.w) k.A (t v) Q E s₁) E s → wpAny (model prg k.w) k.A T Q E s)
    (h1 : DE k nm objs nx e a objs₁ nx₁) (h2 : D k nm objs₁ nx₁ [a] (fun vs => t (vs.headD .none)) R r₂ objs₂ nx₂) : D k nm objs nx [] (fun _ => T) R r₂ objs₂ nx₂ := fun ok ρ s E vs hl hn he hi =>
  K₁ (wpAny_mono (h1 ok ρ s E vs hl hn he hi) (fun v s₁ ⟨ρ₁, p₁, l₁, i₁, e₁, S₁⟩ => wpAny_mono (h2 ok ρ₁ s₁ E [v] l₁ (hn.mono p₁) e₁ ⟨i₁, trivial⟩) (fun v s₂ ⟨ρ₂, p₂, l₂, i₂, e₂, S₂⟩ => ⟨ρ₂, p₁.trans p₂, l₂, i₂, e₂, S₁.trans S₂⟩) fun _ _ z => z) fun _ _ z => z)
/-- two values, then what is done with them -/
theorem D.then2 {α : Type} {e e' : Expr} {T : Sem α} {t : Value → Value → Sem α} {R : List Addr → β → α → Prop} {r₂ : β}
    (K₁ : ∀ {Q E s}, wpAny (model prg k.w) k.A (eval e k.env) (fun v s₁ => wpAny (model prg k.w) k.A (eval e' k.env) (fun v' s₂ => wpAny (model prg k.w) k.A (t v v') Q E s₂) E s₁) E s → wpAny (model prg k.w) k.A T Q E s)
    (h1 : DE k nm objs nx e a objs₁ nx₁) (h2 : DE k nm objs₁ nx₁ e' b objs₂ nx₂) (h3 : D k nm objs₂ nx₂ [a, b] (fun vs => t (vs.headD .none) (vs.tail.headD .none)) R r₂ objs₃ nx₃) : D k nm objs nx [] (fun _ => T) R r₂ objs₃ nx₃ := fun ok ρ s E vs hl hn he hi =>
  K₁ (wpAny_mono (h1 ok ρ s E vs hl hn he hi) (fun v s₁ ⟨ρ₁, p₁, l₁, i₁, e₁, S₁⟩ => wpAny_mono (h2 ok ρ₁ s₁ E vs l₁ (hn.mono p₁) e₁ (hi.mono p₁)) (fun v' s₂ ⟨ρ₂, p₂, l₂, i₂, e₂, S₂⟩ =>
    wpAny_mono (h3 ok ρ₂ s₂ E [v, v'] l₂ ((hn.mono p₁).mono p₂) e₂ ⟨i₁.mono p₂, i₂, trivial⟩) (fun v s₃ ⟨ρ₃, p₃, l₃, i₃, e₃, S₃⟩ => ⟨ρ₃, p₁.trans (p₂.trans p₃), l₃, i₃, e₃, S₁.trans (S₂.trans S₃)⟩) fun _ _ z => z) fun _ _ z => z) fun _ _ z => z)
end
end Mine
end
section
namespace Mine
theorem fillV2 (w : World) (h : Heap) : (K w.params).In h → PySem.Challenge.rw_pq1324_01 = PySem.Challenge.rw_pq1324_01 → True := by
  k_fill
  intros; trivial
structure ClsOk (w : World) (C : Addr) : Prop where
  pg : ∀ x, plainGet (K w.params) C x = true
  hd : hasDictIn (K w.params) C = true
  sa : findIn (K w.params) (.ref C) (Str.ofString "__setattr__") = some (some (.builtin "object.__setattr__"))
  po : plainOver (K w.params) C = true
  mk_ : makesIn (K w.params) C = true
  kp : keepIn (K w.params) (.ref C) = true
structure AttrOk (w : World) (C : Addr) (x : Str) : Prop where
  fi : findIn (K w.params) (.ref C) x = some none
  tk : takerIn (K w.params) C x = some none
noncomputable def clsTab : List Addr := [134, 186, 207, 236, 257, 279, 301]
noncomputable def attrTab : List (Addr × Str) :=
  [(134, Str.ofString "formals"), (134, Str.ofString "tags"), (134, Str.ofString "used"), (134, Str.ofString "places"), (186, Str.ofString "kind"), (186, Str.ofString "attrs"), (207, Str.ofString "kind"), (207, Str.ofString "attrs"),
   (236, Str.ofString "kind"), (236, Str.ofString "items"), (236, Str.ofString "attrs"), (236, Str.ofString "shared"), (236, Str.ofString "loose"),
   (257, Str.ofString "kind"), (257, Str.ofString "name"), (257, Str.ofString "attrs"),
   (279, Str.ofString "kind"), (279, Str.ofString "items"), (279, Str.ofString "tags"), (279, Str.ofString "attrs"), (279, Str.ofString "code"),
   (301, Str.ofString "kind"), (301, Str.ofString "formals"), (301, Str.ofString "body"), (301, Str.ofString "env"), (301, Str.ofString "attrs")]
structure MethOk (w : World) (C : Addr) (x : Str) (g : Addr) : Prop where
  fi : findIn (K w.params) (.ref C) x = some (some (.ref g))
  fn : isFn (K w.params) (.ref g) = true
  kp : keepIn (K w.params) (.ref g) = true
noncomputable def methTab : List (Addr × Str × Addr) := [(134, Str.ofString "exact", 98), (134, Str.ofString "partial", 105), (134, Str.ofString "partial_of", 112), (134, Str.ofString "positional", 119), (134, Str.ofString "is_free", 126), (134, Str.ofString "rest", 131)]
theorem methOk_all (w : World) : ∀ p ∈ methTab, MethOk w p.1 p.2.1 p.2.2 := by
  k_fill
  unfold methTab
  repeat' (first | exact List.forall_mem_nil _ | refine List.forall_mem_cons.mpr ⟨?_, ?_⟩ | refine MethOk.mk ?_ ?_ ?_ | (k_dflt k_is))
theorem clsOk_all (w : World) : ∀ C ∈ clsTab, ClsOk w C := by
  k_fill
  unfold clsTab
  repeat' (first | exact List.forall_mem_nil _ | refine List.forall_mem_cons.mpr ⟨?_, ?_⟩ | refine ClsOk.mk ?_ ?_ ?_ ?_ ?_ ?_ | (k_dflt k_is) | (intro x; show plainGet (K w.params) _ (Str.ofString "kind") = true; k_dflt k_is))
theorem attrOk_all (w : World) : ∀ p ∈ attrTab, AttrOk w p.1 p.2 := by
  k_fill
  unfold attrTab
  repeat' (first | exact List.forall_mem_nil _ | refine List.forall_mem_cons.mpr ⟨?_, ?_⟩ | refine AttrOk.mk ?_ ?_ | (k_dflt k_is))
end Mine
end
section
namespace Mine
section
variable {w : World} {ρ ρ' : List Addr}
theorem isStr_ent {x y : Str} {t : Tok} {v : Value} : (ent w x t v).key.isStr y = (x == y) := rfl
theorem IsD.getL : ∀ {es : List (Str × SV)} {ds : List DictEntry} {x : Str}, IsD w ρ es ds → (∀ r, es.lookup x = some r → ∃ v, getL x ds = some (some v) ∧ Is ρ r v) ∧ (es.lookup x = none → getL x ds = some none)
  | [], [], x, _ => ⟨fun r h => by simp at h, fun _ => rfl⟩
  | (y, a) :: es, e :: ds, x, ⟨⟨t, v, he, hv⟩, h⟩ => by
    subst he
    have ih := IsD.getL (x := x) h
    by_cases e : x = y
    · subst e
      refine ⟨fun r hr => ?_, fun hr => ?_⟩
      · rw [List.lookup_cons_self] at hr
        cases hr
        refine ⟨v, ?_, hv⟩
        unfold W.getL
        rw [List.find?_cons_of_pos (by rw [isStr_ent]; simp)]
      · rw [List.lookup_cons_self] at hr; cases hr
    · have e' : (y == x) = false := by simpa using Ne.symm e
      have hg : W.getL x (ent w y t v :: ds) = W.getL x ds := by
        unfold W.getL
        rw [List.find?_cons_of_neg (by rw [isStr_ent, e']; simp)]
        have : (ent w y t v).refKey = false := rfl
        simp only [List.any_cons, this, Bool.false_or]
      have hl : ((y, a) :: es).lookup x = es.lookup x := by
        rw [List.lookup_cons]
        have : (x == y) = false := by simpa using e
        rw [this]
      rw [hg, hl]
      exact ih
  | [], _ :: _, _, h => h.elim
  | (_, _) :: _, [], _, h => h.elim
noncomputable def putS (x : Str) (a : SV) : List (Str × SV) → List (Str × SV)
  | [] => [(x, a)]
  | (y, b) :: r => if y = x then (y, a) :: r else (y, b) :: putS x a r
theorem IsD.put {x : Str} {a : SV} {v : Value} {t : Tok} (hv : Is ρ a v) : ∀ {es : List (Str × SV)} {ds : List DictEntry}, IsD w ρ es ds → IsD w ρ (putS x a es) (putL x (PyData.keyHash w.params x) (.str x t) v ds)
  | [], [], _ => ⟨⟨t, v, rfl, hv⟩, trivial⟩
  | (y, b) :: es, e :: ds, ⟨⟨u, v', he, hv'⟩, h⟩ => by
    subst he
    unfold putS putL
    rw [isStr_ent]
    by_cases e : y = x
    · subst e
      rw [if_pos rfl, if_pos (by simp)]
      exact ⟨⟨u, v, rfl, hv⟩, h⟩
    · rw [if_neg e, if_neg (by simpa using e)]
      exact ⟨⟨u, v', rfl, hv'⟩, IsD.put hv h⟩
  | [], _ :: _, h => h.elim
  | (_, _) :: _, [], h => h.elim
theorem IsD.length : ∀ {l : List (Str × SV)} {vs : List DictEntry}, IsD w ρ l vs → vs.length = l.length
  | [], [], _ => rfl
  | (_, _) :: _, _ :: _, h => by simp [IsD.length h.2]
  | [], _ :: _, h => h.elim
  | (_, _) :: _, [], h => h.elim
theorem handed_of : ∀ {a : SV} {v : Value}, Is ρ a v → (∀ c, a = .con c → handedIn c = true) → (a ≠ .any) → handedIn v = true
  | .none, _, h, _, _ => by subst h; rfl
  | .bool _, _, h, _, _ => by subst h; rfl
  | .int _, _, ⟨t, h⟩, _, _ => by subst h; rfl
  | .str _, _, ⟨t, h⟩, _, _ => by subst h; rfl
  | .ref _, _, ⟨a, _, h⟩, _, _ => by subst h; rfl
  | .con _, _, h, k, _ => by cases h; exact k _ rfl
  | .kind, _, ⟨x, t, _, h⟩, _, _ => by subst h; rfl
  | .any, _, _, _, k => absurd rfl k
  | .txt n, _, ⟨a, t, _, _, h⟩, _, _ => by subst h; rfl
  | .bi n, _, h, _, _ => by
    rw [show _ = biV n from h]
    unfold biV
    split <;> decide
end
noncomputable def handedS : SV → Bool
  | .con c => handedIn c
  | .any => false
  | _ => true
section
variable {k : EC} {nm : Str → Option SV} {objs objs' objs₁ objs₂ objs₃ : List (Nat × SO)} {nx nx' nx₁ nx₂ nx₃ n dn i : Nat} {r a b : SV} {svs l : List SV} {C : Addr} {es : List (Str × SV)} {x : Str} {ρ : List Addr} {s : Shared}
theorem HE.inst (he : HE k ρ objs s) (h1 : objs.lookup n = some (.inst C dn)) (h2 : objs.lookup dn = some (.dict es)) :
    ∃ x d ds c, ρ[n]? = some x ∧ ρ[dn]? = some d ∧ W.InstAt s.heap x (iobj C d) C (some (dictOf ds c)) ∧ IsD k.w ρ es ds ∧ s.heap.get? d = some (dictOf ds c) := by
  refine fold_ fun P_ hP_ => ?_
  obtain ⟨n', io, N, _⟩ := he.N
  obtain ⟨x, o, e1, m1, d, e2, rfl⟩ := io.find h1
  obtain ⟨d', o', e3, m2, ds, c, rfl, hd⟩ := io.find h2
  rw [e2] at e3
  cases e3
  refine hP_ ?_
  exact ⟨x, d, ds, c, e1, e2, InstAt.of_news N (List.mem_append_right _ m1) (List.mem_append_right _ m2), hd, (N _ (List.mem_append_right _ m2)).1⟩
theorem D_attr {ex : Bool} (hc : clsTab.contains C = true) (ha : attrTab.contains (C, x) = true) (h1 : objs.lookup n = some (.inst C dn)) (h2 : objs.lookup dn = some (.dict es)) (h3 : es.lookup x = some r) (h4 : handedS r = true) :
    D k nm objs nx [.ref n] (fun vs => getAttr (vs.headD .none) x ex) Is r objs nx := D.ret fun ok ρ s Q E vs hn he hi q => by
  match vs, hi with
  | [v], ⟨⟨a, e0, ev⟩, _⟩ =>
    refine fold_ fun P_ hP_ => ?_
    subst ev
    obtain ⟨xa, d, ds, c, g1, g2, g3, g4, _⟩ := he.inst h1 h2
    rw [e0] at g1
    cases g1
    obtain ⟨v, g5, g6⟩ := (g4.getL (x := x)).1 r h3
    have co := clsOk_all k.w C (by simpa using hc)
    have ao := attrOk_all k.w (C, x) (by simpa using ha)
    refine hP_ ?_
    exact get_own he.F ok.X g3 (co.pg x) co.hd ao.fi rfl g5 (handed_of g6 (fun c e => by subst e; exact h4) fun e => by subst e; cases h4) (q _ _ g6)
theorem Dis.mid {pre post : List (Addr × Obj)} {p : Addr × Obj} (h : Dis (pre ++ p :: post)) : (∀ q ∈ pre, q.1 ≠ p.1) ∧ ∀ q ∈ post, q.1 ≠ p.1 := by
  have h' := dis_app.mp h
  exact ⟨fun q hq => Ne.symm ((apart_iff.mp h'.2.2 q hq).ne p (.head _)), h'.2.1.1.ne⟩
theorem Upd.mid {pre post : List (Addr × Obj)} {d : Addr} {o o' : Obj} (h1 : ∀ q ∈ pre, q.1 ≠ d) (h2 : ∀ q ∈ post, q.1 ≠ d) : Upd d o o' (pre ++ (d, o) :: post) (pre ++ (d, o') :: post) := by
  induction pre with
  | nil => exact .head h2
  | cons p r ih => exact .tail (h1 p (.head _)) (ih fun q hq => h1 q (.tail _ hq))
theorem Dis.same {pre post : List (Addr × Obj)} {d : Addr} {o o' : Obj} (h : Dis (pre ++ (d, o) :: post)) : Dis (pre ++ (d, o') :: post) := by
  have h' := dis_app.mp h
  refine dis_app.mpr ⟨h'.1, ⟨h'.2.1.1, h'.2.1.2⟩, apart_iff.mpr fun p hp => ?_⟩
  have := apart_iff.mp h'.2.2 p hp
  exact ⟨this.1, this.2⟩
/-- an object of the ledger is changed: what a rule with `Upd` needs and what comes after it -/
theorem HE.change {so so' : SO} (he : HE k ρ objs s) (h : objs.lookup n = some so) (hb : so.base = true := by rfl) : ∃ a o news, ρ[n]? = some a ∧ IsO k.w k.X ρ so o ∧ News k.h₀ k.L s.heap news ∧ (a, o) ∈ news ∧
    ∀ o', IsO k.w k.X ρ so' o' → TabOk so' a → ∃ news', Upd a o o' news news' ∧ ∀ s' : Shared, Fr k.h₀ k.L s'.heap k.m → News k.h₀ k.L s'.heap news' → HE k ρ (setO n so' objs) s' := by
  refine fold_ fun P_ hP_ => ?_
  obtain ⟨n', io, N, d⟩ := he.N
  obtain ⟨a, o, pre, post, e1, e2, ⟨e3, _⟩, e4⟩ := io.split h hb
  subst e2
  refine hP_ ?_
  have d' : Dis ((k.ext ++ pre) ++ (a, o) :: post) := by rw [List.append_assoc]; exact d
  have dm := Dis.mid d'
  refine ⟨a, o, _, e1, e3, N, List.mem_append_right _ (List.mem_append_right _ (.head _)), fun o' io' ht => ⟨k.ext ++ (pre ++ (a, o') :: post), ?_, fun s' F' N' => ⟨F', _, e4 ρ so' o' pre_refl io' ht, N', ?_⟩⟩⟩
  · have := Upd.mid (o := o) (o' := o') dm.1 dm.2
    rwa [List.append_assoc, List.append_assoc] at this
  · have := Dis.same (o' := o') d'
    rwa [List.append_assoc] at this
theorem D_setattr (hc : clsTab.contains C = true) (ha : attrTab.contains (C, x) = true) (h1 : objs.lookup n = some (.inst C dn)) (h2 : objs.lookup dn = some (.dict es)) (hl : es.length ≤ 100) :
    D k nm objs nx [.ref n, a] (fun vs => setAttr (vs.headD .none) x (vs.tail.headD .none)) (fun _ (_ : Unit) (_ : Unit) => True) () (setO dn (.dict (putS x a es)) objs) nx := fun ok ρ s E vs hlen hn he hi => by
  match vs, hi with
  | [v, v'], ⟨⟨xa, e0, ev⟩, hv', _⟩ =>
    refine fold_ fun P_ hP_ => ?_
    subst ev
    obtain ⟨x', d, ds, c, g1, g2, g3, g4, z5⟩ := he.inst h1 h2
    rw [e0] at g1
    cases g1
    obtain ⟨d', o, news, f1, f2, f3, f4, f5⟩ := he.change (so' := .dict (putS x a es)) h2
    rw [g2] at f1
    cases f1
    have co := clsOk_all k.w C (by simpa using hc)
    have ao := attrOk_all k.w (C, x) (by simpa using ha)
    obtain ⟨ds', c', rfl, hd'⟩ := f2
    refine hP_ ?_
    have hds : ds' = ds ∧ c' = c := by
      have := (f3 _ f4).1
      rw [this] at z5
      have z6 := Option.some.inj z5
      injection z6 with _ _ z7 _
      injection z7 with z8 z9
      exact ⟨by simpa using z8, z9⟩
    refine fold_ fun P_ hP_ => ?_
    obtain ⟨rfl, rfl⟩ := hds
    obtain ⟨news', u, fin⟩ := f5 (dictOf (putL x (PyData.keyHash k.w.params x) (.str x (s.toks + 1)) v' ds') (putN x ds' c')) ⟨_, _, rfl, g4.put hv'⟩ trivial
    refine hP_ ?_
    have gl : (getL x ds').isSome = true := by
      cases hx : es.lookup x with
      | none => rw [(g4.getL (x := x)).2 hx]; rfl
      | some r => obtain ⟨v, q, _⟩ := (g4.getL (x := x)).1 r hx; rw [q]; rfl
    refine set_dict he.F ok.X f3 g3 rfl co.sa co.po ao.tk co.hd gl rfl u ?_ fun h' F' N' => ⟨ρ, pre_refl, hlen, trivial, fin _ F' N', ⟨h', _, rfl⟩⟩
    have : ∀ (es : List DictEntry), (putL x (PyData.keyHash k.w.params x) (.str x (s.toks + 1)) v' es).length ≤ es.length + 1 := by
      intro es
      induction es with
      | nil => simp [putL]
      | cons e r ih => unfold putL; split <;> simp; exact ih
    have := this ds'
    have := g4.length
    refine (?_ : (putL x (PyData.keyHash k.w.params x) (.str x (s.toks + 1)) v' ds').length ≤ 1000)
    omega
end
end Mine
end
section
namespace Mine
theorem fillV4 (w : World) (h : Heap) : (K w.params).In h → PySem.Challenge.rw_pq1324_01 = PySem.Challenge.rw_pq1324_01 → True := by
  k_fill
  intros; trivial
noncomputable def glTab : List (Str × Value) :=
  [(Str.ofString "get_attr", .ref 28), (Str.ofString "names_of", .ref 33), (Str.ofString "dim_of", .ref 40), (Str.ofString "dimnames_of", .ref 45),
   (Str.ofString "take", .ref 169), (Str.ofString "Matching", .ref 134), (Str.ofString "match_names", .ref 163), (Str.ofString "Refusal", .ref 75), (Str.ofString "Null", .ref 186), (Str.ofString "Missing", .ref 207), (Str.ofString "Vector", .ref 236), (Str.ofString "Symbol", .ref 257), (Str.ofString "Call", .ref 279), (Str.ofString "Closure", .ref 301),
   (Str.ofString "null", .ref 312), (Str.ofString "character", .ref 319), (Str.ofString "named", .ref 326), (Str.ofString "pairlist_of", .ref 331), (Str.ofString "symbol", .ref 338), (Str.ofString "is_vector", .ref 345), (Str.ofString "is_function", .ref 352), (Str.ofString "share", .ref 359),
   (Str.ofString "needed", .ref 366), (Str.ofString "evaluation_env", .ref 380), (Str.ofString "tagged_items", .ref 387), (Str.ofString "call_with", .ref 392), (Str.ofString "b_call", .ref 397), (Str.ofString "b_as_call", .ref 404), (Str.ofString "b_body", .ref 411), (Str.ofString "b_formals", .ref 416),
   (Str.ofString "needed_closure", .ref 423), (Str.ofString "b_set_body", .ref 430), (Str.ofString "formal_rows", .ref 437), (Str.ofString "b_set_formals", .ref 444), (Str.ofString "b_as_function", .ref 451), (Str.ofString "_law_shelf", .ref 458), (Str.ofString "_law_grab", .ref 465), (Str.ofString "_law_argument", .ref 472),
   (Str.ofString "_law_shown", .ref 477), (Str.ofString "_law_listed", .ref 482), (Str.ofString "_law_refused", .ref 489), (Str.ofString "_law_formals_told", .ref 494)]
noncomputable def blTab : List (Str × Nat) := [(Str.ofString "len", 0), (Str.ofString "range", 1), (Str.ofString "list", 2), (Str.ofString "isinstance", 3)]
theorem glOk (w : World) : ∀ p ∈ glTab, nsIn (K w.params) mainGlobals p.1 = some (some p.2) := by
  k_fill
  unfold glTab
  repeat' (first | exact List.forall_mem_nil _ | refine List.forall_mem_cons.mpr ⟨?_, ?_⟩ | (k_dflt k_is))
theorem blOk (w : World) : ∀ p ∈ blTab, nsIn (K w.params) mainGlobals p.1 = some none ∧ bootBuiltins p.1 = some (biV p.2) ∧ p.1 ≠ Str.ofString "__name__" := by
  k_fill
  unfold blTab
  repeat' (first | exact List.forall_mem_nil _ | refine List.forall_mem_cons.mpr ⟨?_, ?_⟩ | refine And.intro ?_ ?_ | boot_fast | decide | (k_dflt k_is))
end Mine
end
section
namespace Mine
structure FnS where
  f : Addr
  qual : Str
  ps : List Str
  ds : List SV
  body : List Stmt
  sc : Scope
  cdv : Value
noncomputable def LocV (ρ : List Addr) : Option SV → Option Value → Prop
  | none, v => v = none
  | some a, v => ∃ b, v = some b ∧ Is ρ a b
theorem LocV.mono {ρ ρ' : List Addr} (p : ρ <+: ρ') : ∀ {a : Option SV} {v : Option Value}, LocV ρ a v → LocV ρ' a v
  | none, _, h => h
  | some _, _, ⟨b, e, h⟩ => ⟨b, e, h.mono p⟩
noncomputable def Loc (q : FnS) (ρ : List Addr) (σ : List (Str × SV)) (m : Str → Option Value) : Prop := ∀ y, q.sc.names.lookup y = some .local → LocV ρ (σ.lookup y) (m y)
noncomputable def Cls (ρ : List Addr) (σ : List (Str × SV)) : List (Str × Addr) → List (Addr × Obj) → Prop
  | [], [] => True
  | (y, c) :: cs, (a, o) :: l => a = c ∧ (∃ v, o.data = .cell v ∧ LocV ρ (σ.lookup y) v) ∧ Cls ρ σ cs l
  | _, _ => False
theorem Cls.mono {ρ ρ' : List Addr} (p : ρ <+: ρ') {σ : List (Str × SV)} : ∀ {cs : List (Str × Addr)} {l : List (Addr × Obj)}, Cls ρ σ cs l → Cls ρ' σ cs l
  | [], [], _ => trivial
  | (_, _) :: _, (_, _) :: _, ⟨h1, ⟨v, h2, h3⟩, h4⟩ => ⟨h1, ⟨v, h2, h3.mono p⟩, Cls.mono p h4⟩
  | [], _ :: _, h => h.elim
  | (_, _) :: _, [], h => h.elim
theorem Cls.find {ρ : List Addr} {σ : List (Str × SV)} : ∀ {cs : List (Str × Addr)} {l : List (Addr × Obj)} {y : Str} {c : Addr}, Cls ρ σ cs l → cs.lookup y = some c → ∃ o v, (c, o) ∈ l ∧ o.data = .cell v ∧ LocV ρ (σ.lookup y) v
  | (z, c) :: cs, (a, o) :: l, y, d, ⟨h1, ⟨v, h2, h3⟩, h4⟩, e => by
    rw [List.lookup_cons] at e
    by_cases hy : y = z
    · subst hy
      simp at e
      subst e; subst h1
      exact ⟨o, v, .head _, h2, h3⟩
    · have : (y == z) = false := by simpa using hy
      rw [this] at e
      obtain ⟨o', v', m', r⟩ := Cls.find h4 e
      exact ⟨o', v', .tail _ m', r⟩
  | [], _, _, _, _, e => by simp at e
  | (_, _) :: _, [], _, _, h, _ => h.elim
noncomputable def EC.at (k : EC) (m : Str → Option Value) (ext : List (Addr × Obj)) : EC := { k with m := m, ext := ext }
theorem EC.Ok.at {k : EC} (h : k.Ok) (m : Str → Option Value) (ext : List (Addr × Obj)) : (k.at m ext).Ok := ⟨h.hh, h.fr, h.gd, h.ff, h.fk, h.B, h.X, h.T, h.dep, h.uni⟩
noncomputable def cellsOf (q : FnS) (L : Addr) : List (Str × Addr) := cellsFrom (L + 1) q.sc.names []
noncomputable def HS (q : FnS) (k : EC) (ρ : List Addr) (σ : List (Str × SV)) (objs : List (Nat × SO)) (s : Shared) : Prop := ∃ m cs, Loc q ρ σ m ∧ Cls ρ σ (cellsOf q k.L) cs ∧ HE (k.at m (cs ++ k.raw)) ρ objs s
noncomputable def cellsOk (q : FnS) : Bool := q.sc.names.all fun p => p.2 != .cell || q.sc.names.lookup p.1 == some .cell
structure Frm (q : FnS) (k : EC) : Prop where
  env : k.env = envX q.qual q.sc k.L q.f q.cdv (cellsOf q k.L)
  fk : q.sc.kind = .function
  ck : cellsOk q = true
noncomputable def lookT : List (Str × Value) → Str → Option SV
  | [], _ => none
  | (x, v) :: r, y => if y = x then some (.con v) else lookT r y
theorem lookT_mem : ∀ {l : List (Str × Value)} {y : Str} {a : SV}, lookT l y = some a → ∃ v, a = .con v ∧ (y, v) ∈ l
  | (x, v) :: r, y, a, h => by
    unfold lookT at h
    by_cases e : y = x
    · rw [if_pos e] at h; cases h; subst e; exact ⟨v, rfl, .head _⟩
    · rw [if_neg e] at h
      obtain ⟨v', e1, e2⟩ := lookT_mem h
      exact ⟨v', e1, .tail _ e2⟩
  | [], _, _, h => nomatch h
noncomputable def lookB : List (Str × Nat) → Str → Option SV
  | [], _ => none
  | (x, v) :: r, y => if y = x then some (.bi v) else lookB r y
theorem lookB_mem : ∀ {l : List (Str × Nat)} {y : Str} {a : SV}, lookB l y = some a → ∃ v, a = .bi v ∧ (y, v) ∈ l
  | (x, v) :: r, y, a, h => by
    unfold lookB at h
    by_cases e : y = x
    · rw [if_pos e] at h; cases h; subst e; exact ⟨v, rfl, .head _⟩
    · rw [if_neg e] at h
      obtain ⟨v', e1, e2⟩ := lookB_mem h
      exact ⟨v', e1, .tail _ e2⟩
  | [], _, _, h => nomatch h
noncomputable def globS (x : Str) : Option SV := match lookT glTab x with
  | some a => some a
  | none => lookB blTab x
noncomputable def dbg : Str := Str.ofString "__debug__"
noncomputable def nmOf (q : FnS) (σ : List (Str × SV)) (x : Str) : Option SV := if x == dbg then none else match q.sc.names.lookup x with
  | some .local => σ.lookup x
  | some .cell => if ((cellsFrom 0 q.sc.names []).lookup x).isSome then σ.lookup x else none
  | some .globalImplicit => globS x
  | _ => none
theorem cells_shift : ∀ (names : List (Str × NameKind)) (n m : Nat) (acc acc' : List (Str × Addr)) (x : Str), ((acc.lookup x).isSome = (acc'.lookup x).isSome) → ((cellsFrom n names acc).lookup x).isSome = ((cellsFrom m names acc').lookup x).isSome
  | [], _, _, _, _, _, h => h
  | (y, kd) :: r, n, m, acc, acc', x, h => by
    unfold cellsFrom
    by_cases hk : (kd == .cell) = true
    · rw [if_pos hk, if_pos hk]
      refine cells_shift r (n + 1) (m + 1) _ _ x ?_
      rw [List.lookup_cons, List.lookup_cons]
      by_cases e : (x == y) = true
      · rw [e]; rfl
      · have : (x == y) = false := by simpa using e
        rw [this]; exact h
    · rw [if_neg hk, if_neg hk]
      exact cells_shift r n m acc acc' x h
theorem cells_kind : ∀ (names all : List (Str × NameKind)) (n : Nat) (acc : List (Str × Addr)) (y : Str), (∀ p ∈ names, p ∈ all) → (∀ z ∈ acc.map (·.1), (z, NameKind.cell) ∈ all) → y ∈ (cellsFrom n names acc).map (·.1) → (y, NameKind.cell) ∈ all
  | [], _, _, _, y, _, ha, hy => ha y hy
  | (z, kd) :: r, all, n, acc, y, hs, ha, hy => by
    unfold cellsFrom at hy
    by_cases hk : (kd == .cell) = true
    · rw [if_pos hk] at hy
      refine cells_kind r all (n + 1) _ y (fun p hp => hs p (.tail _ hp)) (fun x hx => ?_) hy
      simp only [List.map_cons, List.mem_cons] at hx
      rcases hx with rfl | hx
      · have := hs _ (.head _)
        rwa [beq_iff_eq.mp hk] at this
      · exact ha x hx
    · rw [if_neg hk] at hy
      exact cells_kind r all n acc y (fun p hp => hs p (.tail _ hp)) ha hy
theorem names_fn {q : FnS} {k : EC} {ρ : List Addr} {σ : List (Str × SV)} {m : Str → Option Value} {ext : List (Addr × Obj)} (ok : k.Ok) (fr : Frm q k) (hl : Loc q ρ σ m) (hc : Cls ρ σ (cellsOf q k.L) ext) : Names (k.at m (ext ++ k.raw)) ρ (nmOf q σ) := by
  refine ⟨?_, ?_⟩
  case refine_2 =>
    intro x sv c hx hcx
    have hcx' : (cellsOf q k.L).lookup x = some c := by
      have : (k.at m (ext ++ k.raw)).env.cells = cellsOf q k.L := by show k.env.cells = _; rw [fr.env]
      rwa [this] at hcx
    refine fold_ fun P_ hP_ => ?_
    obtain ⟨o, v, g1, g2, g3⟩ := hc.find hcx'
    refine hP_ ?_
    have hmem : x ∈ (cellsOf q k.L).map (·.1) := by
      have : ∀ (l : List (Str × Addr)), l.lookup x = some c → x ∈ l.map (·.1) := by
        intro l
        induction l with
        | nil => intro h; cases h
        | cons p r ih =>
          intro h
          rw [List.lookup_cons] at h
          by_cases e : (x == p.1) = true
          · simp only [List.map_cons, List.mem_cons]; exact .inl (by simpa using e)
          · have e' : (x == p.1) = false := by simpa using e
            rw [e'] at h
            simp only [List.map_cons, List.mem_cons]; exact .inr (ih h)
      exact this _ hcx'
    have hk := cells_kind q.sc.names q.sc.names _ [] x (fun _ h => h) (fun _ h => by simp at h) hmem
    have hk2 : q.sc.names.lookup x = some .cell := by simpa using List.all_eq_true.mp fr.ck _ hk
    unfold nmOf at hx
    split at hx
    · cases hx
    · rw [hk2] at hx
      simp only at hx
      split at hx
      · rw [hx] at g3
        obtain ⟨b, e1, e2⟩ := g3
        subst e1
        exact ⟨o, b, List.mem_append_left _ g1, g2, e2⟩
      · cases hx
  intro x sv hx pos s Q E F N h
  unfold nmOf at hx
  by_cases hd : (x == dbg) = true
  · rw [if_pos hd] at hx; cases hx
  rw [if_neg hd] at hx
  have hd' : (x == Str.ofString "__debug__") = false := by simpa [dbg] using hd
  refine (?_ : wpAny _ _ (eval (.Name x pos) k.env) Q E s)
  rw [fr.env]
  split at hx
  · rename_i e
    have := hl x e
    rw [hx] at this
    obtain ⟨b, e1, e2⟩ := this
    exact nameX_L F e1 (h b e2) fr.fk e hd'
  · rename_i e
    by_cases hs : ((cellsFrom 0 q.sc.names []).lookup x).isSome = true
    · rw [if_pos hs] at hx
      refine fold_ fun P_ hP_ => ?_
      rw [cells_shift q.sc.names 0 (k.L + 1) [] [] x rfl] at hs
      obtain ⟨c, hcx⟩ := Option.isSome_iff_exists.mp hs
      obtain ⟨o, v, g1, g2, g3⟩ := hc.find hcx
      rw [hx] at g3
      obtain ⟨b, e1, e2⟩ := g3
      subst e1
      refine hP_ ?_
      exact nameX_C N hcx (List.mem_append_left _ g1) g2 (h b e2) fr.fk e hd'
    · rw [if_neg hs] at hx; cases hx
  · rename_i e
    unfold globS at hx
    split at hx
    · rename_i a g
      refine fold_ fun P_ hP_ => ?_
      cases hx
      obtain ⟨v, rfl, g2⟩ := lookT_mem g
      refine hP_ ?_
      exact nameX_K F ok.X (topRead_of ok.T) (glOk k.w _ g2) (h v rfl) fr.fk e hd'
    · obtain ⟨v, rfl, g2⟩ := lookB_mem hx
      have := blOk k.w _ g2
      exact nameX_B F ok.X (topRead_of ok.T) this.1 this.2.1 this.2.2 (h _ rfl) fr.fk e hd'
  · cases hx
end Mine
end
section
namespace Mine
theorem cells_names : ∀ (names : List (Str × NameKind)) (n m : Nat) (acc acc' : List (Str × Addr)), acc.map (·.1) = acc'.map (·.1) → (cellsFrom n names acc).map (·.1) = (cellsFrom m names acc').map (·.1)
  | [], _, _, _, _, h => h
  | (y, kd) :: r, n, m, acc, acc', h => by
    unfold cellsFrom
    by_cases hk : (kd == .cell) = true
    · rw [if_pos hk, if_pos hk]
      exact cells_names r (n + 1) (m + 1) _ _ (by simp [h])
    · rw [if_neg hk, if_neg hk]
      exact cells_names r n m acc acc' h
noncomputable def cellNames (q : FnS) : List Str := (cellsFrom 0 q.sc.names []).map (·.1)
theorem cellNames_eq (q : FnS) (L : Addr) : (cellsOf q L).map (·.1) = cellNames q := cells_names _ _ _ _ _ rfl
theorem Cls.other {ρ : List Addr} {σ : List (Str × SV)} {x : Str} {a : SV} : ∀ {cs : List (Str × Addr)} {l : List (Addr × Obj)}, x ∉ cs.map (·.1) → Cls ρ σ cs l → Cls ρ ((x, a) :: σ) cs l
  | [], [], _, _ => trivial
  | (y, c) :: cs, (b, o) :: l, hx, ⟨h1, ⟨v, h2, h3⟩, h4⟩ => by
    refine ⟨h1, ⟨v, h2, ?_⟩, Cls.other (fun h => hx (by simp [h])) h4⟩
    rw [List.lookup_cons]
    have : (y == x) = false := by
      rw [beq_eq_false_iff_ne]
      intro e; subst e; exact hx (by simp)
    rw [this]; exact h3
  | [], _ :: _, _, h => h.elim
  | (_, _) :: _, [], _, h => h.elim
theorem Cls.split {ρ : List Addr} {σ : List (Str × SV)} {x : Str} {a : SV} : ∀ {cs : List (Str × Addr)} {l : List (Addr × Obj)} {c : Addr}, (cs.map (·.1)).Nodup → Cls ρ σ cs l → cs.lookup x = some c →
    ∃ o v pre post, l = pre ++ (c, o) :: post ∧ o.data = .cell v ∧ ∀ o' v', o'.data = .cell (some v') → Is ρ a v' → Cls ρ ((x, a) :: σ) cs (pre ++ (c, o') :: post)
  | (y, d) :: cs, (b, o) :: l, c, hn, ⟨h1, ⟨v, h2, h3⟩, h4⟩, e => by
    simp only [List.map_cons, List.nodup_cons] at hn
    rw [List.lookup_cons] at e
    by_cases hy : x = y
    · subst hy
      simp at e
      subst e; subst h1
      refine ⟨o, v, [], l, rfl, h2, fun o' v' ho hv => ⟨rfl, ⟨some v', ho, ?_⟩, h4.other hn.1⟩⟩
      rw [List.lookup_cons_self]
      exact ⟨v', rfl, hv⟩
    · have : (x == y) = false := by simpa using hy
      refine fold_ fun P_ hP_ => ?_
      rw [this] at e
      obtain ⟨o₁, v₁, pre, post, g1, g2, g3⟩ := Cls.split (a := a) hn.2 h4 e
      refine hP_ ?_
      refine ⟨o₁, v₁, (b, o) :: pre, post, by rw [g1]; rfl, g2, fun o' v' ho hv => ⟨h1, ⟨v, h2, ?_⟩, g3 o' v' ho hv⟩⟩
      rw [List.lookup_cons]
      have : (y == x) = false := by simpa using Ne.symm hy
      rw [this]; exact h3
  | [], _, _, _, _, e => by simp at e
  | (_, _) :: _, [], _, _, h, _ => h.elim
theorem UpdF.mid {pre post : List (Addr × Obj)} {d : Addr} {o : Obj} (h1 : ∀ q ∈ pre, q.1 ≠ d) (h2 : ∀ q ∈ post, q.1 ≠ d) : UpdF d o (pre ++ (d, o) :: post) (fun o' => pre ++ (d, o') :: post) := by
  induction pre with
  | nil => exact .head h2
  | cons p r ih => exact .tail (h1 p (.head _)) (ih fun q hq => h1 q (.tail _ hq))
/-- may a name be stored: a plain local, or a cell of the frame -/
noncomputable def stOk (q : FnS) (x : Str) : Bool := (q.sc.names.lookup x == some .local && !(cellNames q).contains x) || (q.sc.names.lookup x == some .cell && (cellNames q).contains x && decide (cellNames q).Nodup)
section
variable {q : FnS} {k : EC} {ρ : List Addr} {σ : List (Str × SV)} {objs : List (Nat × SO)} {s : Shared}
theorem HS.store {x : Str} {a : SV} {v : Value} {E : Value → Shared → Prop} (fr : Frm q k) (hx : stOk q x = true) (h : HS q k ρ σ objs s) (hv : Is ρ a v) :
    wpAny (model prg k.w) k.A (storeName k.env x v) (fun _ s' => HS q k ρ ((x, a) :: σ) objs s' ∧ Same s s') E s := by
  obtain ⟨m, ext, hl, hc, he⟩ := h
  obtain ⟨n', io, N, d⟩ := he.N
  rw [fr.env]
  unfold stOk at hx
  rcases Bool.or_eq_true_iff.mp hx with hx | hx
  · have hx' := Bool.and_eq_true_iff.mp hx
    have e1 : q.sc.names.lookup x = some .local := by simpa using hx'.1
    have e2 : x ∉ (cellsOf q k.L).map (·.1) := by rw [cellNames_eq]; simpa using hx'.2
    refine storeX_L he.F N (fun h' F' N' => ⟨⟨fun y => if y = x then some v else m y, ext, fun y hy => ?_, hc.other e2, ⟨F', n', io, N', d⟩⟩, ⟨h', _, rfl⟩⟩) fr.fk e1
    rw [List.lookup_cons]
    show LocV ρ _ (if y = x then some v else m y)
    by_cases e : y = x
    · subst e
      rw [if_pos rfl, beq_self_eq_true]
      exact ⟨v, rfl, hv⟩
    · rw [if_neg e]
      have : (y == x) = false := by simpa using e
      rw [this]
      exact hl y hy
  · simp only [Bool.and_eq_true, beq_iff_eq, decide_eq_true_eq] at hx
    obtain ⟨⟨e1, e2⟩, e3⟩ := hx
    rw [← cellNames_eq q k.L] at e3
    have e4 : x ∈ (cellsOf q k.L).map (·.1) := by rw [cellNames_eq]; simpa using e2
    have e5 : ((cellsOf q k.L).lookup x).isSome = true := by
      cases hh : (cellsOf q k.L).lookup x with
      | some _ => rfl
      | none =>
        obtain ⟨p, hp, rfl⟩ := List.mem_map.mp e4
        have := List.lookup_eq_none_iff.mp hh p hp
        simp at this
    refine fold_ fun P_ hP_ => ?_
    obtain ⟨c, hcx⟩ := Option.isSome_iff_exists.mp e5
    obtain ⟨o, v₀, pre, post, g1, g2, g3⟩ := Cls.split (a := a) e3 hc hcx
    refine hP_ ?_
    have eL : ∀ o, ((pre ++ (c, o) :: post) ++ k.raw) ++ n' = pre ++ (c, o) :: (post ++ (k.raw ++ n')) := fun o => by simp
    have N2 : News k.h₀ k.L s.heap (pre ++ (c, o) :: (post ++ (k.raw ++ n'))) := by rw [← eL, ← g1]; exact N
    have d2 : Dis (pre ++ (c, o) :: (post ++ (k.raw ++ n'))) := by rw [← eL, ← g1]; exact d
    have dm := Dis.mid d2
    refine storeX_C he.F N2 hcx (UpdF.mid dm.1 dm.2) g2 (fun h' o' F' N' d' => ⟨⟨m, pre ++ (c, o') :: post, fun y hy => ?_, g3 o' v d' hv, ⟨F', n', io, ?_, ?_⟩⟩, ⟨h', _, rfl⟩⟩) fr.fk e1
    · rw [List.lookup_cons]
      have : (y == x) = false := by
        rw [beq_eq_false_iff_ne]
        intro e; subst e; rw [e1] at hy; cases hy
      rw [this]; exact hl y hy
    · refine (?_ : News _ _ _ (((pre ++ (c, o') :: post) ++ k.raw) ++ n'))
      rw [eL]; exact N'
    · refine (?_ : Dis (((pre ++ (c, o') :: post) ++ k.raw) ++ n'))
      rw [eL]; exact Dis.same d2
end
inductive SF where
  | next
  | ret (a : SV)
noncomputable def IsF (ρ : List Addr) : SF → Flow → Prop
  | .next, f => f = .next
  | .ret a, f => ∃ v, f = .ret v ∧ Is ρ a v
structure St where
  σ : List (Str × SV)
  objs : List (Nat × SO)
  nx : Nat
noncomputable def DS (q : FnS) (k : EC) (st : St) (t : Sem Flow) (f : SF) (st' : St) : Prop :=
  k.Ok → Frm q k → ∀ ρ s E, ρ.length = st.nx → HS q k ρ st.σ st.objs s → wpAny (model prg k.w) k.A t (fun fl s' => ∃ ρ', ρ <+: ρ' ∧ ρ'.length = st'.nx ∧ IsF ρ' f fl ∧ HS q k ρ' st'.σ st'.objs s' ∧ Same s s') E s
/-- the same for an expression in the frame -/
noncomputable def DX (q : FnS) (k : EC) (st : St) (e : Expr) (r : SV) (objs' : List (Nat × SO)) (nx' : Nat) : Prop := ∀ m ext, DE (k.at m ext) (nmOf q st.σ) st.objs st.nx e r objs' nx'
theorem HS.mono {q : FnS} {k : EC} {ρ ρ' : List Addr} {σ : List (Str × SV)} {m : Str → Option Value} {ext : List (Addr × Obj)} {objs : List (Nat × SO)} {s : Shared} (p : ρ <+: ρ') (hl : Loc q ρ σ m) (hc : Cls ρ σ (cellsOf q k.L) ext) (he : HE (k.at m (ext ++ k.raw)) ρ' objs s) : HS q k ρ' σ objs s :=
  ⟨m, ext, fun y hy => (hl y hy).mono p, hc.mono p, he⟩
theorem DX.run {q : FnS} {k : EC} {st : St} {e : Expr} {r : SV} {objs' : List (Nat × SO)} {nx' : Nat} (h : DX q k st e r objs' nx') (ok : k.Ok) (fr : Frm q k) {ρ : List Addr} {s : Shared} {E : Value → Shared → Prop} (hl : ρ.length = st.nx) (hs : HS q k ρ st.σ st.objs s) :
    wpAny (model prg k.w) k.A (eval e k.env) (fun v s' => ∃ ρ', ρ <+: ρ' ∧ ρ'.length = nx' ∧ Is ρ' r v ∧ HS q k ρ' st.σ objs' s' ∧ Same s s') E s := by
  refine fold_ fun P_ hP_ => ?_
  obtain ⟨m, ext, h1, h2, h3⟩ := hs
  refine hP_ ?_
  exact wpAny_mono (h m (ext ++ k.raw) (ok.at m _) ρ s E [] hl (names_fn ok fr h1 h2) h3 trivial) (fun v s' ⟨ρ', p, l, i, he, S⟩ => ⟨ρ', p, l, i, HS.mono p h1 h2 he, S⟩) fun _ _ z => z
noncomputable def noSwap : Expr → Bool
  | .ListComp .. => false
  | .SetComp .. => false
  | .DictComp .. => false
  | _ => true
theorem swaps_of {e : Expr} {t : Option Expr} {l : Nat} {env : Env} (h : noSwap e = true) : swapsWith e t l env = pure false := by
  cases e <;> first | rfl | cases h
section
variable {q : FnS} {k : EC} {st st' st'' : St} {f : SF} {a : SV} {objs' : List (Nat × SO)} {nx' : Nat}
theorem DS_nil : DS q k st (execs [] k.env) .next st := fun ok fr ρ s E hl hs => wpAny_execs_nil ⟨ρ, pre_refl, hl, rfl, hs, Same.refl⟩
theorem DS_cons {t : Stmt} {rest : List Stmt} (h1 : DS q k st (exec t k.env) .next st') (h2 : DS q k st' (execs rest k.env) f st'') : DS q k st (execs (t :: rest) k.env) f st'' := fun ok fr ρ s E hl hs =>
  wpAny_execs_cons (wpAny_mono (h1 ok fr ρ s E hl hs) (fun fl s' ⟨ρ', p, l, i, hs', S⟩ => by
    cases i
    exact wpAny_mono (h2 ok fr ρ' s' E l hs') (fun fl s'' ⟨ρ₂, p₂, l₂, i₂, hs₂, S₂⟩ => ⟨ρ₂, p.trans p₂, l₂, i₂, hs₂, S.trans S₂⟩) fun _ _ z => z) fun _ _ z => z)
theorem DS_ret {t : Stmt} {rest : List Stmt} (h1 : DS q k st (exec t k.env) (.ret a) st') : DS q k st (execs (t :: rest) k.env) (.ret a) st' := fun ok fr ρ s E hl hs =>
  wpAny_execs_cons (wpAny_mono (h1 ok fr ρ s E hl hs) (fun fl s' ⟨ρ', p, l, i, hs', S⟩ => by
    obtain ⟨v, rfl, i'⟩ := i
    exact ⟨ρ', p, l, ⟨v, rfl, i'⟩, hs', S⟩) fun _ _ z => z)
theorem DS_assign {x : Str} {p' pos : Pos} {e : Expr} (hn : noSwap e = true) (hx : stOk q x = true) (h : DX q k st e a objs' nx') : DS q k st (exec (.Assign [.Name x p'] e pos) k.env) .next ⟨(x, a) :: st.σ, objs', nx'⟩ := fun ok fr ρ s E hl hs =>
  wpAny_Assign_Name (wpAny_mono (h.run ok fr hl hs) (fun v s' ⟨ρ', p, l, i, hs', S⟩ => wpAny_mono (HS.store fr hx hs' i) (fun _ s'' ⟨hs'', S'⟩ => ⟨ρ', p, l, rfl, hs'', S.trans S'⟩) fun _ _ z => z) fun _ _ z => z) (swaps_of hn)
theorem DS_return {pos : Pos} {e : Expr} (h : DX q k st e a objs' nx') : DS q k st (exec (.Return (some e) pos) k.env) (.ret a) ⟨st.σ, objs', nx'⟩ := fun ok fr ρ s E hl hs =>
  wpAny_Return_some (wpAny_mono (h.run ok fr hl hs) (fun v s' ⟨ρ', p, l, i, hs', S⟩ => ⟨ρ', p, l, ⟨v, rfl, i⟩, hs', S⟩) fun _ _ z => z)
theorem DS_expr {pos : Pos} {e : Expr} (hn : noSwap e = true) (h : DX q k st e a objs' nx') : DS q k st (exec (.Expr e pos) k.env) .next ⟨st.σ, objs', nx'⟩ := fun ok fr ρ s E hl hs =>
  wpAny_Expr_any (wpAny_mono (h.run ok fr hl hs) (fun v s' ⟨ρ', p, l, i, hs', S⟩ => ⟨ρ', p, l, rfl, hs', S⟩) fun _ _ z => z) (by rw [fr.env]; simp [interactive, fr.fk]) (swaps_of hn)
end
end Mine
end
section
namespace Mine
noncomputable def bindS (q : FnS) (svs : List SV) : Option (List (Str × SV)) :=
  if svs.length ≤ q.ps.length ∧ q.ps.length - svs.length ≤ q.ds.length then some (q.ps.zip (svs ++ q.ds.drop (q.ds.length - (q.ps.length - svs.length)))) else none
noncomputable def IsB (ρ : List Addr) : List (Str × SV) → List (Str × Value) → Prop
  | [], [] => True
  | (x, a) :: l, (y, v) :: l' => x = y ∧ Is ρ a v ∧ IsB ρ l l'
  | _, _ => False
structure FnOk (w : World) (q : FnS) : Prop where
  ho : ∃ oc od osl name dV kV doc pm an ct params, (K w.params).lookup q.f = some ⟨oc, od, .func (fnOf name q.qual params q.body q.sc dV kV doc pm an q.cdv ct), osl⟩ ∧
    ∀ (s : Shared) (ρ : List Addr) (svs : List SV) (vs : List Value) (bs : List (Str × SV)), (K w.params).In s.heap → IsL ρ svs vs → bindS q svs = some bs → ∃ binds, BindsTo s (fnOf name q.qual params q.body q.sc dV kV doc pm an q.cdv ct) ⟨vs, []⟩ binds ∧ IsB ρ bs binds
  cd : codeIn (K w.params) q.cdv q.qual = true
  nd : (cellNames q).Nodup
  co : q.sc.isCoroutine = false
  gen : q.sc.isGenerator = false
  kd : q.sc.kind = .function
  kn : (q.ps.all fun y => q.sc.names.lookup y == some .local || q.sc.names.lookup y == some .cell) = true
noncomputable def SF.val : SF → SV
  | .next => .none
  | .ret a => a
section
variable {ρ ρ' : List Addr}
theorem IsB.names : ∀ {bs : List (Str × SV)} {l : List (Str × Value)}, IsB ρ bs l → l.map (·.1) = bs.map (·.1)
  | [], [], _ => rfl
  | (x, a) :: l, (y, v) :: l', ⟨h1, _, h3⟩ => by simp [h1, IsB.names h3]
  | [], _ :: _, h => h.elim
  | (_, _) :: _, [], h => h.elim
theorem bindL_loc {kf : Str → Option NameKind} {y : Str} (hy : kf y = some .local) : ∀ {bs σ : List (Str × SV)} {l : List (Str × Value)} {m : Str → Option Value}, IsB ρ bs l → LocV ρ (σ.lookup y) (m y) → LocV ρ ((bs.reverse ++ σ).lookup y) (bindL kf l m y)
  | [], _, [], _, _, h => h
  | (x, a) :: bs, σ, (z, v) :: l, m, ⟨h1, h2, h3⟩, h => by
    subst h1
    unfold bindL
    rw [List.reverse_cons, List.append_assoc, List.singleton_append]
    refine bindL_loc hy h3 ?_
    rw [List.lookup_cons]
    by_cases e : y = x
    · subst e
      rw [if_pos hy, beq_self_eq_true]
      exact ⟨v, if_pos rfl, h2⟩
    · have e' : (y == x) = false := by simpa using e
      simp only [e']
      by_cases hk : kf x = some .local
      · rw [if_pos hk]
        refine (?_ : LocV ρ _ (if y = x then some v else m y))
        rw [if_neg e]; exact h
      · rw [if_neg hk]; exact h
  | [], _, _ :: _, _, h, _ => h.elim
  | (_, _) :: _, _, [], _, h, _ => h.elim
theorem bindC_loc {kf : Str → Option NameKind} {y : Str} (hy : kf y ≠ some .local) : ∀ {bs σ : List (Str × SV)} {l : List (Str × Value)} {m : Str → Option Value}, IsB ρ bs l → LocV ρ (σ.lookup y) (m y) → LocV ρ ((bs.reverse ++ σ).lookup y) (bindC kf l m y)
  | [], _, [], _, _, h => h
  | (x, a) :: bs, σ, (z, v) :: l, m, ⟨h1, h2, h3⟩, h => by
    subst h1
    unfold bindC
    rw [List.reverse_cons, List.append_assoc, List.singleton_append]
    refine bindC_loc hy h3 ?_
    rw [List.lookup_cons]
    by_cases e : y = x
    · subst e
      rw [if_neg hy, beq_self_eq_true]
      exact ⟨v, if_pos rfl, h2⟩
    · have e' : (y == x) = false := by simpa using e
      simp only [e']
      by_cases hk : kf x = some .local
      · rw [if_pos hk]; exact h
      · rw [if_neg hk]
        refine (?_ : LocV ρ _ (if y = x then some v else m y))
        rw [if_neg e]; exact h
  | [], _, _ :: _, _, h, _ => h.elim
  | (_, _) :: _, _, [], _, h, _ => h.elim
theorem Cls.of {cm : Str → Option Value} {σ : List (Str × SV)} : ∀ {cs : List (Str × Addr)} {cells : List (Addr × Obj)}, CellsAre cm cs cells → (∀ y ∈ cs.map (·.1), LocV ρ (σ.lookup y) (cm y)) → Cls ρ σ cs cells
  | _, _, .nil, _ => trivial
  | _, _, .cons h1 h2, h => ⟨rfl, ⟨_, h1, h _ (by simp)⟩, Cls.of h2 fun y hy => h y (by simp only [List.map_cons, List.mem_cons]; exact .inr hy)⟩
end
theorem IsF.val {ρ : List Addr} {f : SF} {fl : Flow} : Is ρ f.val (match fl with | .ret v => v | _ => .none) ∨ ¬ IsF ρ f fl := by
  by_cases i : IsF ρ f fl
  case neg => exact .inr i
  refine .inl ?_
  cases f with
  | next => cases i; rfl
  | ret a => obtain ⟨v, rfl, i'⟩ := i; exact i'
section
variable {prog : Program} {w : World} {A₀ A : Around} {s : Shared} {base h₀ : Heap} {outer : List Env} {L : Addr} {m : Str → Option Value} {env : Env} {news : List (Addr × Obj)} {Kf : Frag} {p : Program} {loose : List Str} {mean : ExcName → Option Value} {mg mb : Str → Option Value}
  {R : Result → Shared → Prop} {name qual : Str} {params : Arguments} {body : List Stmt} {scope : Scope} {dV kV doc pm cdv ct oc : Value} {an od : Option Addr} {osl : Array (Option Value)} {f : Addr} {args : Args} {binds : List (Str × Value)}
/-- a def is entered: what it leaves is told as it is -/
theorem code_defX (B : Below A₀ base outer h₀) (F : Fr h₀ L s.heap m) (X₀ : Kf.In h₀) (N : News h₀ L s.heap news) (T : Top p loose mean mg mb h₀) (hA : A.frames = some (env :: outer)) (hf : env.frame = some L) (hke : env.scope.kind = .function)
    (ho : Kf.lookup f = some ⟨oc, od, .func (fnOf name qual params body scope dV kV doc pm an cdv ct), osl⟩) (hcd : codeIn Kf cdv qual = true) (hroom : A.depth < recursionLimit)
    (hbind : BindsTo s (fnOf name qual params body scope dV kV doc pm an cdv ct) args binds) (hkind : (binds.all fun y => scope.names.lookup y.1 == some .local || scope.names.lookup y.1 == some .cell) = true)
    (hnd : ((cellsFrom 0 scope.names []).map (·.1)).Nodup)
    (h : ∀ g L' h₁ tk cells, L' = s.heap.objs.size → (∀ b o, s.heap.get? b = some o → h₁.get? b = some o) → Fr h₀ L g m → Fr g L' h₁ (bindL (envOfC qual scope L' f cdv).kindOf binds fun _ => none) → News g L' h₁ (cells ++ news) →
      CellsAre (bindC (envOfC qual scope L' f cdv).kindOf binds fun _ => none) (cellsFrom (L' + 1) scope.names []) cells → Below A base (env :: outer) g → Kf.In g → Top p loose mean mg mb g → (∀ p ∈ news, p.1 < L') →
      (∀ h' L₂ m' news', Fr g L₂ h' m' → News g L₂ h' news' → Fr h₀ L h' m ∧ News h₀ L h' news') →
      wpAny (model prog w) (A.deeper (envOfC qual scope L' f cdv)) (execs body (envOfC qual scope L' f cdv))
        (fun fl s' => R (.ok (.ret (match fl with | .ret v => v | _ => .none))) s')
        (fun e s' => wpAny (model prog w) (A.deeper (envOfC qual scope L' f cdv)) (leaving (envOfC qual scope L' f cdv) e) (fun _ s'' => R (.error e) s'') (fun e' s'' => R (.error e') s'') s')
        { s with heap := h₁, toks := tk })
    (hco : scope.isCoroutine = false) (hgen : scope.isGenerator = false) (hk : scope.kind = .function) : codeAny (model prog w) A (.call (.ref f) args) R s := by
  have z := groundX (R := fun _ s' => Fr h₀ L s'.heap m) B F N hA hf hke
  refine codeAny_call_function hroom (X₀.keeps F.keep _ _ ho) rfl hco hgen rfl (codeRec_of (X₀.keeps F.keep) hcd) (hbind _ _ _ _ (wpAny_newFunctionEnv_cells hk (kindsX hkind _) fun env' he s' x => ?_))
  cases he
  have old := x.toInCall.keep
  refine ⟨(T.nolimit.keeps F.keep).keeps old, codeAny_func ?_⟩
  obtain ⟨h₁, tk, rfl, _⟩ := x.done
  obtain ⟨cells, NC, Y⟩ := Cl.news (h₀ := s.heap) (Nat.le_refl _) fun n c hm => ⟨x.cell n c (lookup_of_mem_nodup (cellsFrom_names scope.names 0 (s.heap.objs.size + 1) [] [] rfl ▸ hnd) hm), x.above n c hm⟩
  refine h _ s.heap.objs.size h₁ tk cells rfl old z.1 ⟨x.toInCall.ns, fun b o e => old b o (of_hideAll _ e), Nat.le_of_eq (hideAll_size _ _)⟩ (fun q hq => ?_) Y z.2.1 (X₀.keeps z.2.2.1) (T.keeps z.2.2.1) (fun q hq => Heap.lt_size (N q hq).1) fun h' L₂ m' news' F' N' => ?_
  · cases List.mem_append.mp hq with
    | inl hq =>
      refine ⟨(NC q hq).1, (NC q hq).2.1, ?_⟩
      match e : (hideAll s.heap (news.map (·.1))).get? q.1 with
      | none => exact e
      | some o => exact absurd ((NC q hq).2.2.symm.trans (of_hideAll _ e)) (fun z => nomatch z)
    | inr hq => exact ⟨old _ _ (N q hq).1, Nat.ne_of_lt (Heap.lt_size (N q hq).1), hideAll_none _ (List.mem_map_of_mem hq)⟩
  · exact (groundX (R := fun _ s' => Fr h₀ L s'.heap m ∧ News h₀ L s'.heap news') B F N hA hf hke).2.2.2 .none { s with heap := h' } ⟨L₂, m', news', F', N', fun a b => ⟨a, b⟩⟩
end
/-- a function of the text is entered: what its body leaves is told as it is -/
theorem fn_enter {q : FnS} {k : EC} {A' : Around} {svs : List SV} {bs : List (Str × SV)} {objs : List (Nat × SO)} {nx : Nat} {ρ : List Addr} {s : Shared} {vs : List Value} {R : Result → Shared → Prop}
    (a1 : A'.handled = none) (a2 : A'.frames = some (k.fenv :: k.outer)) (a3 : A'.guards = some []) (a4 : A'.depth ≤ k.A.depth + 1) (a5 : A'.units ≤ k.A.units + 1) (ok : k.Ok) (fo : FnOk k.w q) (hb : 0 < k.b) (hbs : bindS q svs = some bs)
    (hlc : ((q.sc.names.all fun p => p.2 != .cell || q.sc.names.lookup p.1 == some .cell)) = true) (hl : ρ.length = nx) (he : HE k ρ objs s) (hi : IsL ρ svs vs)
    (h : ∀ k' : EC, k'.w = k.w → k'.b = k.b - 1 → k'.X = k.X → (∀ b o, k.h₀.get? b = some o → k'.h₀.get? b = some o) → k'.Ok → Frm q k' → k'.fenv = k'.env → k'.outer = k.fenv :: k.outer →
      (∀ h' m' cs n', Fr k'.h₀ k'.L h' m' → News k'.h₀ k'.L h' ((cs ++ k'.raw) ++ n') → Dis ((cs ++ k'.raw) ++ n') → Fr k.h₀ k.L h' k.m ∧ News k.h₀ k.L h' (k.ext ++ n') ∧ Dis (k.ext ++ n')) →
      k'.raw = k.ext → k'.L = s.heap.objs.size → ∀ s', HS q k' ρ bs.reverse objs s' → (∀ b o, s.heap.get? b = some o → s'.heap.get? b = some o) → Same s s' →
      wpAny (model prg k'.w) k'.A (execs q.body k'.env) (fun fl s'' => R (.ok (.ret (match fl with | .ret v => v | _ => .none))) s'')
        (fun e s'' => wpAny (model prg k'.w) k'.A (leaving k'.env e) (fun _ s₃ => R (.error e) s₃) (fun e' s₃ => R (.error e') s₃) s'') s') :
    codeAny (model prg k.w) A' (.call (.ref q.f) ⟨vs, []⟩) R s := by
  refine fold_ fun P_ hP_ => ?_
  obtain ⟨oc, od, osl, name, dV, kV, doc, pm, an, ct, params, g1, g2⟩ := fo.ho
  obtain ⟨n', io, N, d⟩ := he.N
  obtain ⟨binds, b1, b2⟩ := g2 s ρ svs vs bs (ok.X.keeps he.F.keep) hi hbs
  have hnm := b2.names
  refine hP_ ?_
  have hps : bs.map (·.1) = q.ps := by
    unfold bindS at hbs
    split at hbs
    · rename_i hh
      cases hbs
      rw [List.map_fst_zip]
      simp only [List.length_append, List.length_drop]
      omega
    · cases hbs
  refine code_defX (env := k.fenv) (outer := k.outer) ok.B he.F ok.X N ok.T a2 ok.ff ok.fk g1 fo.cd (by have := ok.dep; show A'.depth < 1000; omega) b1 ?_ fo.nd ?_ fo.co fo.gen fo.kd
  · have := fo.kn
    rw [← hps, ← hnm, List.all_map] at this
    exact this
  · intro g L' h₁ tk cells eL kp FG F' N' Y B' X' T' l1 cl
    let e' : Env := envOfC q.qual q.sc L' q.f q.cdv
    let k' : EC := { w := k.w, mean := k.mean, mg := k.mg, mb := k.mb, env := e', fenv := e', outer := k.fenv :: k.outer, A := A'.deeper e', A₀ := A', base := k.base, h₀ := g, L := L', m := k.m, ext := [], raw := k.ext, b := k.b - 1, X := k.X }
    have ok' : k'.Ok := ⟨a1, by show Option.map (fun l => e' :: l) A'.frames = some (e' :: k.fenv :: k.outer); rw [a2]; rfl, a3, rfl, fo.kd, B', X', T', by have := ok.dep; show A'.depth + 1 + 2 * (k.b - 1) ≤ 900; omega, by have := ok.uni; show A'.units + 3 + 8 * (k.b - 1) ≤ 5000; omega⟩
    have fr' : Frm q k' := ⟨rfl, fo.kd, hlc⟩
    have hcl : Cls ρ bs.reverse (cellsOf q L') cells := Cls.of Y fun y hy => by
      have hy' : y ∈ cellNames q := by rw [← cellNames_eq q L']; exact hy
      have hk := cells_kind q.sc.names q.sc.names 0 [] y (fun _ h => h) (fun _ h => by simp at h) hy'
      have hk2 := List.all_eq_true.mp hlc _ hk
      have hk3 : q.sc.names.lookup y = some .cell := by simpa using hk2
      have := bindC_loc (ρ := ρ) (kf := (envOfC q.qual q.sc L' q.f q.cdv).kindOf) (y := y) (σ := []) (m := fun _ => none) (by show q.sc.names.lookup y ≠ _; rw [hk3]; simp) b2 rfl
      rwa [List.append_nil] at this
    have hs : HS q k' ρ bs.reverse objs { s with heap := h₁, toks := tk } := by
      refine ⟨_, cells, fun y hy => ?_, hcl, ⟨F', n', io, ?_, ?_⟩⟩
      · have := bindL_loc (ρ := ρ) (kf := (envOfC q.qual q.sc L' q.f q.cdv).kindOf) (y := y) (σ := []) (m := fun _ => none) hy b2 rfl
        rwa [List.append_nil] at this
      · refine (?_ : News g L' h₁ ((cells ++ k.ext) ++ n'))
        rw [List.append_assoc]; exact N'
      · refine (?_ : Dis ((cells ++ k.ext) ++ n'))
        rw [List.append_assoc]
        refine dis_app.mpr ⟨?_, d, ?_⟩
        · clear hcl N'
          have : ∀ (cm : Str → Option Value) (names : List (Str × NameKind)) (n : Nat) (acc : List (Str × Addr)) (cells : List (Addr × Obj)), CellsAre cm (cellsFrom n names acc) cells → (acc.map (·.2)).Nodup → (∀ a ∈ acc.map (·.2), @LT.lt Nat _ a n) → Dis cells := by
            intro cm names
            induction names with
            | nil =>
              intro n acc
              induction acc with
              | nil => intro cells Y _ _; cases Y; trivial
              | cons p r ih =>
                intro cells Y hn hlt
                unfold cellsFrom at Y
                cases Y with
                | cons h1 h2 =>
                  simp only [List.map_cons, List.nodup_cons] at hn
                  refine ⟨neAll_iff.mpr fun p hp e => ?_, ih _ (by unfold cellsFrom; exact h2) hn.2 fun a ha => hlt a (by simp only [List.map_cons, List.mem_cons]; exact .inr ha)⟩
                  have : ∀ {cs : List (Str × Addr)} {cl : List (Addr × Obj)}, CellsAre cm cs cl → ∀ p ∈ cl, p.1 ∈ cs.map (·.2) := by
                    intro cs cl hc
                    induction hc with
                    | nil => intro p hp; cases hp
                    | cons _ _ ih => intro p hp; rcases List.mem_cons.mp hp with rfl | hp
                                     · simp
                                     · have := ih p hp; simp only [List.map_cons, List.mem_cons]; exact .inr this
                  have := this h2 p hp
                  rw [e] at this
                  exact hn.1 this
            | cons p r ih =>
              intro n acc cells Y hn hlt
              obtain ⟨y, kd⟩ := p
              unfold cellsFrom at Y
              split at Y
              · refine ih (n + 1) _ cells Y ?_ ?_
                · simp only [List.map_cons, List.nodup_cons]
                  exact ⟨fun hm => Nat.lt_irrefl _ (hlt _ hm), hn⟩
                · intro a ha
                  simp only [List.map_cons, List.mem_cons] at ha
                  rcases ha with rfl | ha
                  · exact Nat.lt_succ_self _
                  · exact Nat.lt_succ_of_lt (hlt a ha)
              · exact ih n acc cells Y hn hlt
          exact this _ _ _ _ _ Y (by simp) (by simp)
        · refine apart_iff.mpr fun p hp => neAll_iff.mpr fun p' hp' e => ?_
          have h1 := l1 p' hp'
          have : ∀ (names : List (Str × NameKind)) (n : Nat) (acc : List (Str × Addr)), @LT.lt Nat _ L' n → (∀ a ∈ acc.map (·.2), @LT.lt Nat _ L' a) → ∀ a ∈ (cellsFrom n names acc).map (·.2), @LT.lt Nat _ L' a := by
            intro names
            induction names with
            | nil => intro n acc _ ha; exact ha
            | cons p r ih =>
              intro n acc hn ha
              obtain ⟨y, kd⟩ := p
              unfold cellsFrom
              split
              · refine ih (n + 1) _ (Nat.lt_succ_of_lt hn) fun a h => ?_
                simp only [List.map_cons, List.mem_cons] at h
                rcases h with rfl | h
                · exact hn
                · exact ha a h
              · exact ih n acc hn ha
          have h2 := this q.sc.names (L' + 1) [] (Nat.lt_succ_self _) (by simp)
          have h3 : ∀ {cs : List (Str × Addr)} {cl : List (Addr × Obj)} {cm : Str → Option Value}, CellsAre cm cs cl → ∀ p ∈ cl, p.1 ∈ cs.map (·.2) := by
            intro cs cl cm hc
            induction hc with
            | nil => intro p hp; cases hp
            | cons _ _ ih => intro p hp; rcases List.mem_cons.mp hp with rfl | hp
                             · simp
                             · have := ih p hp; simp only [List.map_cons, List.mem_cons]; exact .inr this
          have h4 := h2 _ (h3 Y p hp)
          rw [← e] at h4
          exact Nat.lt_irrefl _ (Nat.lt_trans h4 h1)
    refine h k' rfl rfl rfl FG.keep ok' fr' rfl rfl (fun h' m' cs n'' Fh Nh Dh => ?_) rfl eL _ hs kp ⟨h₁, tk, rfl⟩
    obtain ⟨c1, c2⟩ := cl h' L' m' _ Fh Nh
    refine ⟨c1, fun p hp => c2 p (by rw [List.append_assoc]; exact List.mem_append_right _ hp), ?_⟩
    have : Dis ((cs ++ k.ext) ++ n'') := Dh
    rw [List.append_assoc] at this
    exact (dis_app.mp this).2.1
theorem fn_code {q : FnS} {k : EC} {A' : Around} {svs : List SV} {bs : List (Str × SV)} {objs : List (Nat × SO)} {nx : Nat} {f : SF} {st' : St} {ρ : List Addr} {s : Shared} {vs : List Value} {R : Result → Shared → Prop}
    (a1 : A'.handled = none) (a2 : A'.frames = some (k.fenv :: k.outer)) (a3 : A'.guards = some []) (a4 : A'.depth ≤ k.A.depth + 1) (a5 : A'.units ≤ k.A.units + 1) (ok : k.Ok) (fo : FnOk k.w q) (hb : 0 < k.b) (hbs : bindS q svs = some bs)
    (hlc : ((q.sc.names.all fun p => p.2 != .cell || q.sc.names.lookup p.1 == some .cell)) = true)
    (h : ∀ k' : EC, k'.w = k.w → k'.b = k.b - 1 → k'.X = k.X → (∀ b o, k.h₀.get? b = some o → k'.h₀.get? b = some o) → DS q k' ⟨bs.reverse, objs, nx⟩ (execs q.body k'.env) f st') (hl : ρ.length = nx) (he : HE k ρ objs s) (hi : IsL ρ svs vs)
    (hR : ∀ v ρ' s', ρ <+: ρ' → ρ'.length = st'.nx → Is ρ' f.val v → HE k ρ' st'.objs s' → Same s s' → R (.ok (.ret v)) s') :
    codeAny (model prg k.w) A' (.call (.ref q.f) ⟨vs, []⟩) R s := by
  refine fn_enter a1 a2 a3 a4 a5 ok fo hb hbs hlc hl he hi fun k' ew eb eX hk ok' fr' _ _ cl _ _ s₁ hs _ S₁ => ?_
  refine wpAny_mono (h k' ew eb eX hk ok' fr' ρ s₁ _ hl hs) (fun fl s' ⟨ρ', p, l, i, ⟨m', cs', _, _, he'⟩, S⟩ => ?_) fun _ _ z => z
  obtain ⟨n'', io', N'', d''⟩ := he'.N
  obtain ⟨c1, c2, c3⟩ := cl _ _ _ _ he'.F N'' d''
  have io : IsObjs k.w k.X ρ' st'.objs n'' := by rw [← ew, ← eX]; exact io'
  exact hR _ ρ' s' p l (IsF.val.resolve_right fun z => z i) ⟨c1, n'', io, c2, c3⟩ (S₁.trans S)
end Mine
end
section
namespace Mine
section
variable {k : EC} {nm : Str → Option SV} {objs objs' objs₁ objs₂ objs₃ : List (Nat × SO)} {nx nx' nx₁ nx₂ nx₃ n dn : Nat} {r a b : SV} {svs l l' : List SV} {ρ : List Addr} {s : Shared} {n' : List (Addr × Obj)}
theorem HE.alloc {so : SO} {o : Obj} {x : Addr} {s' : Shared} (hl : ρ.length = nx) (io : IsObjs k.w k.X ρ objs n') (d : Dis (k.ext ++ n')) (F' : Fr k.h₀ k.L s'.heap k.m) (N' : News k.h₀ k.L s'.heap ((x, o) :: (k.ext ++ n'))) (l1 : ∀ p ∈ k.ext ++ n', @LT.lt Nat _ p.1 x) (ho : IsO k.w k.X (ρ ++ [x]) so o) (ht : TabOk so x) :
    HE k (ρ ++ [x]) ((nx, so) :: objs) s' := by
  have p : ρ <+: ρ ++ [x] := List.prefix_append _ _
  refine ⟨F', (x, o) :: n', .cons (by rw [← hl]; simp) ⟨ho, ht⟩ (io.mono p), fun q hq => N' q ?_, ?_⟩
  · rcases List.mem_append.mp hq with h | h
    · exact .tail _ (List.mem_append_left _ h)
    · rcases List.mem_cons.mp h with rfl | h
      · exact .head _
      · exact .tail _ (List.mem_append_right _ h)
  · have d' := dis_app.mp d
    refine dis_app.mpr ⟨d'.1, ⟨neAll_iff.mpr fun q hq => Nat.ne_of_lt (l1 q (List.mem_append_right _ hq)), d'.2.1⟩, apart_iff.mpr fun q hq => ⟨Nat.ne_of_lt (l1 q (List.mem_append_left _ hq)), apart_iff.mp d'.2.2 q hq⟩⟩
theorem pre_snoc {x : Addr} : ρ <+: ρ ++ [x] := List.prefix_append _ _
theorem is_new {x : Addr} (hl : ρ.length = nx) : Is (ρ ++ [x]) (.ref nx) (.ref x) := ⟨x, by rw [← hl]; simp, rfl⟩
theorem D_newList (hz : svs.length ≤ 1000) : D k nm objs nx svs newList Is (.ref nx) ((nx, .list svs) :: objs) (nx + 1) := fun ok ρ s E vs hl hn he hi => by
  obtain ⟨n', io, N, d⟩ := he.N
  refine newList_K he.F N (fun x h' F' N' l1 => ⟨ρ ++ [x], pre_snoc, by simp [hl], is_new hl, HE.alloc hl io d F' N' l1 ⟨vs, 0, rfl, hi.mono pre_snoc⟩ trivial, ⟨h', _, rfl⟩⟩) (szOK (by rw [hi.length]; exact hz))
theorem D_newTuple (hz : svs.length ≤ 1000) : D k nm objs nx svs newTuple Is (.ref nx) ((nx, .tup svs) :: objs) (nx + 1) := fun ok ρ s E vs hl hn he hi => by
  obtain ⟨n', io, N, d⟩ := he.N
  refine kup_newTuple he.F N (fun x h' F' N' l1 => ⟨ρ ++ [x], pre_snoc, by simp [hl], is_new hl, HE.alloc hl io d F' N' l1 ⟨vs, 0, rfl, hi.mono pre_snoc⟩ trivial, ⟨h', _, rfl⟩⟩) (szOK (by rw [hi.length]; exact hz))
noncomputable def noStar : Expr → Bool
  | .Starred .. => false
  | _ => true
theorem star_cons {e : Expr} {rest : List Expr} {env : Env} (h : noStar e = true) : starEach (e :: rest) env = (false, eval e env) :: starEach rest env := by
  cases e <;> first | rfl | cases h
theorem star_any : ∀ {es : List Expr} {env : Env} {pos : Pos}, (es.all noStar) = true → ((backTo pos (starEach es env)).any fun x => x.1) = false
  | [], _, _, _ => rfl
  | e :: rest, env, pos, h => by
    simp only [List.all_cons, Bool.and_eq_true] at h
    rw [star_cons h.1]
    have := star_any (env := env) (pos := pos) h.2
    simp only [backTo, List.map_cons, List.any_cons, Bool.false_or] at this ⊢
    exact this
noncomputable abbrev DA (k : EC) (nm : Str → Option SV) (objs : List (Nat × SO)) (nx : Nat) (pos : Pos) (es : List Expr) (l : List SV) (objs' : List (Nat × SO)) (nx' : Nat) : Prop := D k nm objs nx [] (fun _ => spliced (backTo pos (starEach es k.env))) IsL l objs' nx'
theorem DA_nil {pos : Pos} : DA k nm objs nx pos [] [] objs nx := fun ok ρ s E vs hl hn he hi => spliced_none ⟨ρ, pre_refl, hl, trivial, he, Same.refl⟩
theorem DA_cons {pos : Pos} {e : Expr} {es : List Expr} (hs : noStar e = true) (h1 : DE k nm objs nx e a objs₁ nx₁) (h2 : DA k nm objs₁ nx₁ pos es l objs₂ nx₂) : DA k nm objs nx pos (e :: es) (a :: l) objs₂ nx₂ := fun ok ρ s E vs hl hn he hi =>
  spliced_more (wpAny_mono (h1 ok ρ s E vs hl hn he hi) (fun v s₁ ⟨ρ₁, p₁, l₁, i₁, e₁, S₁⟩ => wpAny_mono (h2 ok ρ₁ s₁ E [] l₁ (hn.mono p₁) e₁ trivial) (fun vs' s₂ ⟨ρ₂, p₂, l₂, i₂, e₂, S₂⟩ => ⟨ρ₂, p₁.trans p₂, l₂, ⟨i₁.mono p₂, i₂⟩, e₂, S₁.trans S₂⟩) fun _ _ z => z) fun _ _ z => z) (star_cons hs)
/-- a list of values, then what is done with them -/
theorem D.thenA {α β : Type} {pos : Pos} {es : List Expr} {T : Sem α} {t : List Value → Sem α} {R : List Addr → β → α → Prop} {r₂ : β}
    (K₁ : ∀ {Q E s}, wpAny (model prg k.w) k.A (spliced (backTo pos (starEach es k.env))) (fun vs s₁ => wpAny (model prg k.w) k.A (t vs) Q E s₁) E s → wpAny (model prg k.w) k.A T Q E s)
    (h1 : DA k nm objs nx pos es l objs₁ nx₁) (h2 : D k nm objs₁ nx₁ l t R r₂ objs₂ nx₂) : D k nm objs nx [] (fun _ => T) R r₂ objs₂ nx₂ := fun ok ρ s E vs hl hn he hi =>
  K₁ (wpAny_mono (h1 ok ρ s E vs hl hn he hi) (fun vs' s₁ ⟨ρ₁, p₁, l₁, i₁, e₁, S₁⟩ => wpAny_mono (h2 ok ρ₁ s₁ E vs' l₁ (hn.mono p₁) e₁ i₁) (fun v s₂ ⟨ρ₂, p₂, l₂, i₂, e₂, S₂⟩ => ⟨ρ₂, p₁.trans p₂, l₂, i₂, e₂, S₁.trans S₂⟩) fun _ _ z => z) fun _ _ z => z)
theorem DE_list {es : List Expr} {pos : Pos} (h1 : DA k nm objs nx pos es l objs₁ nx₁) (hz : l.length ≤ 1000) : DE k nm objs nx (.List es pos) (.ref nx₁) ((nx₁, .list l) :: objs₁) (nx₁ + 1) := D.thenA (fun h => List_ h) h1 (D_newList hz)
theorem DE_tuple {es : List Expr} {q : Nat} {pos : Pos} (h1 : DA k nm objs nx pos es l objs₁ nx₁) (hz : l.length ≤ 1000) : DE k nm objs nx (.Tuple es q pos) (.ref nx₁) ((nx₁, .tup l) :: objs₁) (nx₁ + 1) := D.thenA (fun h => Tuple_ h) h1 (D_newTuple hz)
noncomputable def attrBase : Expr → Bool
  | .Name .. => true
  | .Attribute .. => true
  | .Subscript .. => true
  | _ => false
theorem DE_attr {e : Expr} {x : Str} {pos : Pos} (hb : attrBase e = true) (h1 : DE k nm objs nx e a objs₁ nx₁) (h2 : D k nm objs₁ nx₁ [a] (fun vs => getAttr (vs.headD .none) x true) Is r objs₂ nx₂) : DE k nm objs nx (.Attribute e x pos) r objs₂ nx₂ := D.then1 (t := fun v => getAttr v x true) (fun h => Attribute_any_ h (by cases e <;> first | rfl | cases hb)) h1 h2
theorem DE_bin {e e' : Expr} {op : Operator} {pos : Pos} (h1 : DE k nm objs nx e a objs₁ nx₁) (h2 : DE k nm objs₁ nx₁ e' b objs₂ nx₂) (h3 : D k nm objs₂ nx₂ [a, b] (fun vs => binaryOp op (vs.headD .none) (vs.tail.headD .none)) Is r objs₃ nx₃) : DE k nm objs nx (.BinOp e op e' pos) r objs₃ nx₃ :=
  D.then2 (t := binaryOp op) (fun h => wpAny_BinOp h) h1 h2 h3
noncomputable def noSet : Expr → Bool
  | .Set .. => false
  | _ => true
theorem behind_of {op : CmpOp} {e : Expr} (h : noSet e = true) : behindInMarks op e = false := by
  cases e <;> first | rfl | cases h
theorem DE_cmp {e e' : Expr} {op : CmpOp} {pos : Pos} (hn : noSet e' = true) (h1 : DE k nm objs nx e a objs₁ nx₁) (h2 : DE k nm objs₁ nx₁ e' b objs₂ nx₂) (h3 : D k nm objs₂ nx₂ [a, b] (fun vs => compareOp op (vs.headD .none) (vs.tail.headD .none)) Is r objs₃ nx₃) : DE k nm objs nx (.Compare e [op] [e'] pos) r objs₃ nx₃ :=
  D.then2 (t := compareOp op) (fun h => wpAny_Compare1 h (behind_of hn)) h1 h2 h3
theorem DE_unary {e : Expr} {op : UnaryOp} {pos : Pos} (h1 : DE k nm objs nx e a objs₁ nx₁) (h2 : D k nm objs₁ nx₁ [a] (fun vs => unaryOp op (vs.headD .none)) Is r objs₂ nx₂) : DE k nm objs nx (.UnaryOp op e pos) r objs₂ nx₂ := D.then1 (t := unaryOp op) (fun h => UnaryOp_ h) h1 h2
theorem DE_sub {e e' : Expr} {pos : Pos} (h1 : DE k nm objs nx e a objs₁ nx₁) (h2 : DE k nm objs₁ nx₁ e' b objs₂ nx₂) (h3 : D k nm objs₂ nx₂ [a, b] (fun vs => subscriptTail e e' (vs.headD .none) (vs.tail.headD .none)) Is r objs₃ nx₃) : DE k nm objs nx (.Subscript e e' pos) r objs₃ nx₃ :=
  D.then2 (t := subscriptTail e e') (fun h => Subscript_ h) h1 h2 h3
/-- the tests -/
noncomputable abbrev IsT : List Addr → Bool → Bool → Prop := fun _ b b' => b' = b
noncomputable abbrev DT (k : EC) (nm : Str → Option SV) (objs : List (Nat × SO)) (nx : Nat) (e : Expr) (c : Bool) (objs' : List (Nat × SO)) (nx' : Nat) : Prop := ∀ whole, D k nm objs nx [] (fun _ => PySem.isTrue e k.env whole) IsT c objs' nx'
noncomputable def plainT : Expr → Bool
  | .Name .. => true
  | .Attribute .. => true
  | .Call .. => true
  | .Subscript .. => true
  | _ => false
theorem D_truthy {c : Bool} : D k nm objs nx [.bool c] (fun vs => truthy (vs.headD .none)) IsT c objs nx := fun ok ρ s E vs hl hn he hi => by
  match vs, hi with
  | [v], ⟨e, _⟩ => cases e; exact wpAny_truthy_bool ⟨ρ, pre_refl, hl, rfl, he, Same.refl⟩
theorem DT_plain {e : Expr} {c : Bool} (hp : plainT e = true) (h1 : DE k nm objs nx e (.bool c) objs₁ nx₁) : D k nm objs nx [] (fun _ => PySem.isTrue e k.env (eval e k.env)) IsT c objs₁ nx₁ :=
  D.then1 (t := truthy) (fun h => isTrue_plain h (by cases e <;> first | rfl | cases hp)) h1 D_truthy
theorem DT_cmp {e e' : Expr} {op : CmpOp} {pos : Pos} {c : Bool} (hn : noSet e' = true) (h1 : DE k nm objs nx e a objs₁ nx₁) (h2 : DE k nm objs₁ nx₁ e' b objs₂ nx₂) (h3 : D k nm objs₂ nx₂ [a, b] (fun vs => compareOp op (vs.headD .none) (vs.tail.headD .none)) Is (.bool c) objs₃ nx₃) {whole : Sem Value} :
    D k nm objs nx [] (fun _ => PySem.isTrue (.Compare e [op] [e'] pos) k.env whole) IsT c objs₃ nx₃ := fun ok ρ s E vs hl hn' he hi =>
  wpAny_isTrue_Compare1 (wpAny_mono (h1 ok ρ s E vs hl hn' he hi) (fun v s₁ ⟨ρ₁, p₁, l₁, i₁, e₁, S₁⟩ => wpAny_mono (h2 ok ρ₁ s₁ E vs l₁ (hn'.mono p₁) e₁ (hi.mono p₁)) (fun v' s₂ ⟨ρ₂, p₂, l₂, i₂, e₂, S₂⟩ =>
    wpAny_mono (h3 ok ρ₂ s₂ E [v, v'] l₂ ((hn'.mono p₁).mono p₂) e₂ ⟨i₁.mono p₂, i₂, trivial⟩) (fun w s₃ ⟨ρ₃, p₃, l₃, i₃, e₃, S₃⟩ => by
      cases i₃
      exact wpAny_truthy_bool ⟨ρ₃, p₁.trans (p₂.trans p₃), l₃, rfl, e₃, S₁.trans (S₂.trans S₃)⟩) fun _ _ z => z) fun _ _ z => z) fun _ _ z => z) (behind_of hn)
end
end Mine
end
section
namespace Mine
theorem fillV11 (w : World) (h : Heap) : (K w.params).In h → PySem.Challenge.rw_pq1324_01 = PySem.Challenge.rw_pq1324_01 → True := by
  k_fill
  intros; trivial
structure IsiOk (w : World) (C : Addr) : Prop where
  k5 : hasDictIn (K w.params) C = true
  k4 : plainGet (K w.params) C (Str.ofString "__class__") = true
  k6 : findIn (K w.params) (.ref C) (Str.ofString "__class__") = some (some (.builtin "object.__class__"))
  k7 : specialIn (K w.params) (.builtin "object.__class__") (Str.ofString "__get__") = some (some (.builtin "getset_descriptor.__get__"))
  k8 : takesIn (K w.params) (.builtin "object.__class__") = some true
  k9 : mroIn (K w.params) C (.type "object") = some true
noncomputable def isiTab : List (Addr × Bool) := [(186, false), (207, false), (236, true), (257, false), (279, false), (301, false)]
theorem isiOk_all (w : World) : ∀ p ∈ isiTab, IsiOk w p.1 := by
  k_fill
  unfold isiTab
  repeat' (first | exact List.forall_mem_nil _ | refine List.forall_mem_cons.mpr ⟨?_, ?_⟩ | refine IsiOk.mk ?_ ?_ ?_ ?_ ?_ ?_ | (k_dflt k_is))
theorem isiOne_all (w : World) : ∀ p ∈ isiTab, kitOne (K w.params) (.ref p.1) (.ref 236) = some p.2 := by
  k_fill
  unfold isiTab
  repeat' (first | exact List.forall_mem_nil _ | refine List.forall_mem_cons.mpr ⟨?_, ?_⟩ | (k_dflt k_is) | kit_is)
end Mine
end
section
namespace Mine
/-- plain comparisons and lookups, quick for the kernel -/
noncomputable def leqN (l : List Nat) : List Nat → Bool := @List.rec Nat (fun _ => List Nat → Bool) (fun m => @List.rec Nat (fun _ => Bool) true (fun _ _ _ => false) m)
  (fun a _ ih m => @List.rec Nat (fun _ => Bool) false (fun b m' _ => @Bool.rec (fun _ => Bool) false (ih m') (Nat.beq a b)) m) l
theorem leqN_cons {a b : Nat} {l m : List Nat} : leqN (a :: l) (b :: m) = @Bool.rec (fun _ => Bool) false (leqN l m) (Nat.beq a b) := rfl
theorem leqN_iff : ∀ {l m : List Nat}, leqN l m = true ↔ l = m
  | [], [] => by simp [leqN]
  | [], _ :: _ => by simp [leqN]
  | _ :: _, [] => by simp [leqN]
  | a :: l, b :: m => by
    rw [leqN_cons]
    have := @leqN_iff l m
    cases h : Nat.beq a b with
    | true => have e := Nat.eq_of_beq_eq_true h; simp [this, e]
    | false => have e : a ≠ b := fun e => by rw [e, Nat.beq_refl] at h; cases h
               simp [e]
noncomputable def seq (x y : Str) : Bool := leqN x.cps.toList y.cps.toList
theorem seq_iff {x y : Str} : seq x y = true ↔ x = y := by
  unfold seq
  rw [leqN_iff]
  constructor
  · intro h
    obtain ⟨⟨a⟩⟩ := x
    obtain ⟨⟨b⟩⟩ := y
    simp at h
    rw [h]
  · intro h; rw [h]
theorem seq_eq {x y : Str} : seq x y = (x == y) := by
  by_cases h : x = y
  · rw [seq_iff.mpr h]; simp [h]
  · have : seq x y = false := Bool.eq_false_iff.mpr fun e => h (seq_iff.mp e)
    rw [this]; simp [h]
noncomputable def lkN {α : Type} (l : List (Nat × α)) (n : Nat) : Option α := @List.rec (Nat × α) (fun _ => Option α) none (fun p _ ih => @Bool.rec (fun _ => Option α) ih (some p.2) (Nat.beq n p.1)) l
theorem lkN_cons {α : Type} {p : Nat × α} {l : List (Nat × α)} {n : Nat} : lkN (p :: l) n = @Bool.rec (fun _ => Option α) (lkN l n) (some p.2) (Nat.beq n p.1) := rfl
theorem lkN_eq {α : Type} {n : Nat} : ∀ {l : List (Nat × α)}, lkN l n = l.lookup n
  | [] => rfl
  | (k, o) :: l => by
    rw [List.lookup_cons, lkN_cons]
    have : (n == k) = Nat.beq n k := by
      cases h : Nat.beq n k with
      | true => simp [Nat.eq_of_beq_eq_true h]
      | false => simp; intro e; rw [e, Nat.beq_refl] at h; cases h
    rw [this]
    cases Nat.beq n k with
    | true => rfl
    | false => exact lkN_eq
noncomputable def lkS {α : Type} (l : List (Str × α)) (x : Str) : Option α := @List.rec (Str × α) (fun _ => Option α) none (fun p _ ih => @Bool.rec (fun _ => Option α) ih (some p.2) (seq x p.1)) l
theorem lkS_cons {α : Type} {p : Str × α} {l : List (Str × α)} {x : Str} : lkS (p :: l) x = @Bool.rec (fun _ => Option α) (lkS l x) (some p.2) (seq x p.1) := rfl
theorem lkS_eq {α : Type} {x : Str} : ∀ {l : List (Str × α)}, lkS l x = l.lookup x
  | [] => rfl
  | (k, o) :: l => by
    rw [List.lookup_cons, ← seq_eq, lkS_cons]
    cases seq x k with
    | true => rfl
    | false => exact lkS_eq
noncomputable def memS (x : Str) (l : List Str) : Bool := @List.rec Str (fun _ => Bool) false (fun y _ ih => @Bool.rec (fun _ => Bool) ih true (seq x y)) l
theorem memS_cons {x y : Str} {l : List Str} : memS x (y :: l) = @Bool.rec (fun _ => Bool) (memS x l) true (seq x y) := rfl
theorem memS_iff {x : Str} : ∀ {l : List Str}, memS x l = true ↔ x ∈ l
  | [] => by simp [memS]
  | y :: l => by
    rw [memS_cons]
    have := @memS_iff x l
    cases h : seq x y with
    | true => simp [seq_iff.mp h]
    | false => have e : x ≠ y := fun e => by rw [seq_iff.mpr e] at h; cases h
               simp [e, this]
noncomputable def stN (n : Nat) (so : SO) (l : List (Nat × SO)) : List (Nat × SO) := @List.rec (Nat × SO) (fun _ => List (Nat × SO)) [] (fun p l ih => @Bool.rec (fun _ => List (Nat × SO)) (p :: ih) ((p.1, so) :: l) (Nat.beq n p.1)) l
theorem stN_cons {n : Nat} {so : SO} {p : Nat × SO} {l : List (Nat × SO)} : stN n so (p :: l) = @Bool.rec (fun _ => List (Nat × SO)) (p :: stN n so l) ((p.1, so) :: l) (Nat.beq n p.1) := rfl
theorem stN_eq {n : Nat} {so : SO} : ∀ {l : List (Nat × SO)}, stN n so l = setO n so l
  | [] => rfl
  | (k, o) :: l => by
    rw [stN_cons]
    unfold setO
    cases h : Nat.beq n k with
    | true => rw [if_pos (Nat.eq_of_beq_eq_true h)]
    | false => rw [if_neg (fun e => by rw [e, Nat.beq_refl] at h; cases h), ← stN_eq]
noncomputable def ptS (x : Str) (a : SV) (l : List (Str × SV)) : List (Str × SV) := @List.rec (Str × SV) (fun _ => List (Str × SV)) [(x, a)] (fun p l ih => @Bool.rec (fun _ => List (Str × SV)) (p :: ih) ((p.1, a) :: l) (seq p.1 x)) l
theorem ptS_cons {x : Str} {a : SV} {p : Str × SV} {l : List (Str × SV)} : ptS x a (p :: l) = @Bool.rec (fun _ => List (Str × SV)) (p :: ptS x a l) ((p.1, a) :: l) (seq p.1 x) := rfl
theorem ptS_eq {x : Str} {a : SV} : ∀ {l : List (Str × SV)}, ptS x a l = putS x a l
  | [] => rfl
  | (y, b) :: l => by
    rw [ptS_cons]
    unfold putS
    cases h : seq y x with
    | true => rw [if_pos (seq_iff.mp h)]
    | false => rw [if_neg (fun e => by rw [seq_iff.mpr e] at h; cases h), ← ptS_eq]
noncomputable def guardO {α : Type} (b : Bool) (r : Option α) : Option α := match b with
  | true => r
  | false => none
theorem guardO_some {α : Type} {b : Bool} {r : Option α} {x : α} (h : guardO b r = some x) : b = true ∧ r = some x := by
  cases b with
  | true => exact ⟨rfl, h⟩
  | false => cases h
noncomputable def ltS {α : Type} (l : List α) (n : Nat) : Bool := Nat.ble l.length n
theorem ltS_le {α : Type} {l : List α} {n : Nat} (h : ltS l n = true) : l.length ≤ n := Nat.le_of_ble_eq_true h
end Mine
end
section
namespace Mine
noncomputable def listO : Option SO → Option (List SV)
  | some (.list l) => some l
  | some (.fix l _) => some l
  | _ => none
noncomputable def tupO : Option SO → Option (List SV)
  | some (.tup l) => some l
  | _ => none
noncomputable def tabO : Option SO → Option (List (Str × SV))
  | some (.tab l) => some l
  | _ => none
noncomputable def seqO : Option SO → Option (List SV)
  | some (.list l) => some l
  | some (.fix l _) => some l
  | some (.tup l) => some l
  | _ => none
section
variable {k : EC} {nm : Str → Option SV} {objs objs' objs₁ objs₂ objs₃ : List (Nat × SO)} {nx nx' nx₁ nx₂ nx₃ n dn i : Nat} {r a b : SV} {svs l l' : List SV} {ρ : List Addr} {s : Shared} {n' : List (Addr × Obj)}
theorem IsL.inv {vs : List Value} (h : IsL ρ (a :: l) vs) : ∃ v vs', vs = v :: vs' ∧ Is ρ a v ∧ IsL ρ l vs' := by
  cases vs with
  | nil => exact h.elim
  | cons v vs' => exact ⟨v, vs', rfl, h.1, h.2⟩
theorem IsL.inv0 {vs : List Value} (h : IsL ρ [] vs) : vs = [] := by
  cases vs with
  | nil => rfl
  | cons v vs' => exact h.elim
theorem IsL.inv1 {vs : List Value} (h : IsL ρ [a] vs) : ∃ v, vs = [v] ∧ Is ρ a v := by
  obtain ⟨v, vs', rfl, h1, h2⟩ := h.inv
  rw [h2.inv0]
  exact ⟨v, rfl, h1⟩
theorem IsL.inv2 {vs : List Value} (h : IsL ρ [a, b] vs) : ∃ v v', vs = [v, v'] ∧ Is ρ a v ∧ Is ρ b v' := by
  obtain ⟨v, vs', rfl, h1, h2⟩ := h.inv
  obtain ⟨v', rfl, h3⟩ := h2.inv1
  exact ⟨v, v', rfl, h1, h3⟩
theorem HE.list (he : HE k ρ objs s) (h : listO (lkN objs n) = some l) : ∃ x vs c, ρ[n]? = some x ∧ s.heap.IsList x vs.toArray ∧ IsL ρ l vs ∧ s.heap.get? x = some (lobj vs c) ∧ (∃ news, News k.h₀ k.L s.heap news ∧ (x, lobj vs c) ∈ news) := by
  obtain ⟨n', io, N, _⟩ := he.N
  rw [lkN_eq] at h
  have key : ∃ x o vs c, ρ[n]? = some x ∧ (x, o) ∈ n' ∧ o = lobj vs c ∧ IsL ρ l vs := by
    match hh : objs.lookup n, h with
    | some (.list l), h =>
      refine fold_ fun P_ hP_ => ?_
      cases h
      obtain ⟨x, o, e, m, vs, c, e', hl⟩ := io.find hh
      refine hP_ ?_
      exact ⟨x, o, vs, c, e, m, e', hl⟩
    | some (.fix l j), h =>
      refine fold_ fun P_ hP_ => ?_
      cases h
      obtain ⟨x, o, e, m, _, vs, c, e', hl⟩ := io.find hh
      refine hP_ ?_
      exact ⟨x, o, vs, c, e, m, e', hl⟩
  refine fold_ fun P_ hP_ => ?_
  obtain ⟨x, o, vs, c, e, m, rfl, hl⟩ := key
  refine hP_ ?_
  exact ⟨x, vs, c, e, News.isList N (List.mem_append_right _ m), hl, (N _ (List.mem_append_right _ m)).1, _, N, List.mem_append_right _ m⟩
theorem tupO_eq (h : tupO (lkN objs n) = some l) : objs.lookup n = some (.tup l) := by
  rw [lkN_eq] at h
  match hh : objs.lookup n, h with
  | some (.tup _), h => cases h; rfl
theorem HE.tup (he : HE k ρ objs s) (h : tupO (lkN objs n) = some l) : ∃ x vs, ρ[n]? = some x ∧ IsTup s.heap x vs.toArray ∧ IsL ρ l vs := by
  refine fold_ fun P_ hP_ => ?_
  obtain ⟨n', io, N, _⟩ := he.N
  obtain ⟨x, o, e, m, vs, c, rfl, hl⟩ := io.find (tupO_eq h)
  refine hP_ ?_
  exact ⟨x, vs, e, News.isTup N (List.mem_append_right _ m), hl⟩
theorem seqO_of (h : seqO (lkN objs n) = some l) : listO (lkN objs n) = some l ∨ tupO (lkN objs n) = some l := by
  match lkN objs n, h with
  | some (.list _), h => exact .inl h
  | some (.fix _ _), h => exact .inl h
  | some (.tup _), h => exact .inr h
theorem tabO_eq {es : List (Str × SV)} (h : tabO (lkN objs n) = some es) : objs.lookup n = some (.tab es) := by
  rw [lkN_eq] at h
  match hh : objs.lookup n, h with
  | some (.tab _), h => cases h; rfl
theorem HE.tab {es : List (Str × SV)} (he : HE k ρ objs s) (h : tabO (lkN objs n) = some es) : ∃ d o kvs news, ρ[n]? = some d ∧ News k.h₀ k.L s.heap news ∧ (d, o) ∈ news ∧ o.IsDictOf (strKind prg k.w) kvs ∧ (d == sysModules) = false ∧ IsKV ρ es kvs := by
  refine fold_ fun P_ hP_ => ?_
  obtain ⟨n', io, N, _⟩ := he.N
  obtain ⟨d, o, e, m, ⟨v, g1, g2⟩, ht⟩ := io.tab (tabO_eq h)
  refine hP_ ?_
  exact ⟨d, o, v, _, e, N, List.mem_append_right _ m, g1, ht, g2⟩
theorem IsKV.at {x : Str} : ∀ {es : List (Str × SV)} {kvs : List (Str × Value)}, IsKV ρ es kvs → (∀ a, lkS es x = some a → ∃ v, valueAt kvs x = some v ∧ Is ρ a v) ∧ (lkS es x = none → valueAt kvs x = none)
  | [], [], _ => ⟨fun a h => (nomatch h), fun _ => rfl⟩
  | (y, a) :: es, (z, v) :: kvs, ⟨h1, h2, h3⟩ => by
    subst h1
    have ih := IsKV.at (x := x) h3
    rw [lkS_cons]
    unfold valueAt
    by_cases e : x = z
    · subst e
      rw [seq_iff.mpr rfl]
      refine ⟨fun a h => ?_, fun h => ?_⟩
      · cases h
        exact ⟨v, by simp, h2⟩
      · cases h
    · have : seq x z = false := Bool.eq_false_iff.mpr fun q => e (seq_iff.mp q)
      rw [this]
      have e2 : List.find? (fun kv => decide (kv.1 = x)) ((z, v) :: kvs) = List.find? (fun kv => decide (kv.1 = x)) kvs := by
        rw [List.find?_cons_of_neg]
        simp [Ne.symm e]
      rw [e2]
      exact ih
  | [], _ :: _, h => h.elim
  | (_, _) :: _, [], h => h.elim
noncomputable def strsOf : List SV → Option (List Str)
  | [] => some []
  | .str x :: r => (strsOf r).map (x :: ·)
  | _ :: _ => none
theorem strsOf_are : ∀ {l : List SV} {ys : List Str} {vs : List Value}, strsOf l = some ys → IsL ρ l vs → StrsAre vs ys
  | [], ys, [], h, _ => by cases h; exact .nil
  | a :: r, ys, v :: vs, h, hi => by
    cases a with
    | str x =>
      obtain ⟨ys', h1, rfl⟩ := Option.map_eq_some_iff.mp h
      obtain ⟨⟨t, rfl⟩, hi'⟩ := hi
      exact .cons x t (strsOf_are h1 hi')
    | _ => cases h
  | [], _, _ :: _, _, h => h.elim
  | _ :: _, _, [], _, h => h.elim
/-- is a text among a sequence's texts, or a dict's keys -/
noncomputable def inO (x : Str) : Option SO → Option Bool
  | some (.list l) => (strsOf l).map (memS x)
  | some (.fix l _) => (strsOf l).map (memS x)
  | some (.tup l) => (strsOf l).map (memS x)
  | some (.tab es) => some (lkS es x).isSome
  | _ => none
noncomputable def cmpSS : CmpOp → Str → Str → Option Bool
  | .Eq, x, y => some (seq x y)
  | .NotEq, x, y => some (!seq x y)
  | _, _, _ => none
noncomputable def cmpII : CmpOp → Int → Int → Option Bool
  | .Eq, x, y => some (decide (x = y))
  | .NotEq, x, y => some (!decide (x = y))
  | .Gt, x, y => some (decide (y < x))
  | .Lt, x, y => some (decide (x < y))
  | .GtE, x, y => some (decide (y ≤ x))
  | _, _, _ => none
noncomputable def cmpKS : CmpOp → Str → Option Bool
  | .Eq, y => guardO (!memS y kindL) (some false)
  | .NotEq, y => guardO (!memS y kindL) (some true)
  | _, _ => none
noncomputable def cmpNS : CmpOp → Option Bool
  | .Eq => some false
  | .NotEq => some true
  | _ => none
noncomputable def cmpTS : CmpOp → Str → Option Bool
  | .Eq, y => guardO (List.isEmpty y.cps.toList) (some false)
  | .NotEq, y => guardO (List.isEmpty y.cps.toList) (some true)
  | _, _ => none
noncomputable def cmpIn (objs : List (Nat × SO)) (x : Str) (n : Nat) : CmpOp → Option Bool
  | .In => inO x (lkN objs n)
  | .NotIn => (inO x (lkN objs n)).map (!·)
  | _ => none
noncomputable def isN : SV → Option Bool
  | .none => some true
  | .con _ => none
  | .any => none
  | .bi _ => none
  | _ => some false
noncomputable def cmpN (a : SV) : CmpOp → Option Bool
  | .Is => isN a
  | .IsNot => (isN a).map (!·)
  | _ => none
noncomputable def evCmp (objs : List (Nat × SO)) (op : CmpOp) (a : SV) : SV → Option Bool
  | .none => cmpN a op
  | .str y => match a with
    | .str x => cmpSS op x y
    | .kind => cmpKS op y
    | .none => cmpNS op
    | .txt _ => cmpTS op y
    | _ => none
  | .int y => match a with
    | .int x => cmpII op x y
    | _ => none
  | .ref n => match a with
    | .str x => cmpIn objs x n op
    | _ => none
  | _ => none
noncomputable def DCmp (k : EC) (nm : Str → Option SV) (objs : List (Nat × SO)) (nx : Nat) (op : CmpOp) (a b : SV) (c : Bool) : Prop := D k nm objs nx [a, b] (fun vs => compareOp op (vs.headD .none) (vs.tail.headD .none)) Is (.bool c) objs nx
theorem DCmp.of {op : CmpOp} {c : Bool} (h : k.Ok → ∀ ρ s (Q E : Value → Shared → Prop) v v', HE k ρ objs s → Is ρ a v → Is ρ b v' → (∀ tk, Q (.bool c) { s with toks := tk }) → wpAny (model prg k.w) k.A (compareOp op v v') Q E s) : DCmp k nm objs nx op a b c :=
  D.ret fun ok ρ s Q E vs hn he hi q => by
    obtain ⟨v, v', rfl, i1, i2⟩ := hi.inv2
    exact h ok ρ s Q E v v' he i1 i2 fun tk => q _ tk rfl
theorem ret_cmpN {op : CmpOp} {c : Bool} (h : cmpN a op = some c) : DCmp k nm objs nx op a .none c := DCmp.of fun ok ρ s Q E v v' he i1 i2 q => by
  cases i2
  have q0 : Q (.bool c) s := q s.toks
  have dec : (a = .none ∧ v = .none) ∨ ((v == Value.none) = false ∧ PySem.plainIs v Value.none = true ∧ isN a = some false) ∨ isN a = none := by
    cases a with
    | none => cases i1; exact .inl ⟨rfl, rfl⟩
    | bool b => cases i1; exact .inr (.inl ⟨rfl, rfl, rfl⟩)
    | int z => obtain ⟨t, rfl⟩ := i1; exact .inr (.inl ⟨rfl, rfl, rfl⟩)
    | str z => obtain ⟨t, rfl⟩ := i1; exact .inr (.inl ⟨rfl, rfl, rfl⟩)
    | ref z => obtain ⟨t, _, rfl⟩ := i1; exact .inr (.inl ⟨rfl, rfl, rfl⟩)
    | txt n => obtain ⟨a, t, _, _, rfl⟩ := i1; exact .inr (.inl ⟨rfl, rfl, rfl⟩)
    | kind => obtain ⟨x, t, _, rfl⟩ := i1; exact .inr (.inl ⟨rfl, rfl, rfl⟩)
    | con _ => exact .inr (.inr rfl)
    | bi _ => exact .inr (.inr rfl)
    | any => exact .inr (.inr rfl)
  cases op with
  | Is =>
    rcases dec with ⟨rfl, rfl⟩ | ⟨e1, e3, e2⟩ | e
    · cases h; exact is_none_none q0
    · have h' : isN a = some c := h
      rw [e2] at h'; cases h'
      exact wpAny_is_other e3 (fun x => by rw [x] at e1; cases e1) q0
    · have h' : isN a = some c := h
      rw [e] at h'; cases h'
  | IsNot =>
    have h' : (isN a).map (!·) = some c := h
    rcases dec with ⟨rfl, rfl⟩ | ⟨e1, e3, e2⟩ | e
    · cases h'; exact wpAny_isNot_self rfl q0
    · rw [e2] at h'; cases h'
      exact wpAny_isNot_other e3 (fun x => by rw [x] at e1; cases e1) q0
    · rw [e] at h'; cases h'
  | _ => cases h
theorem ret_cmpSS {op : CmpOp} {x y : Str} {c : Bool} (h : cmpSS op x y = some c) : DCmp k nm objs nx op (.str x) (.str y) c := DCmp.of fun ok ρ s Q E v v' he i1 i2 q => by
  obtain ⟨t, rfl⟩ := i1; obtain ⟨u, rfl⟩ := i2
  cases op with
  | Eq => cases h; rw [seq_eq] at q; exact eq_str (q s.toks)
  | NotEq => cases h; rw [seq_eq] at q; exact ne_str (q s.toks)
  | _ => cases h
theorem ret_cmpII {op : CmpOp} {x y : Int} {c : Bool} (h : cmpII op x y = some c) : DCmp k nm objs nx op (.int x) (.int y) c := DCmp.of fun ok ρ s Q E v v' he i1 i2 q => by
  obtain ⟨t, rfl⟩ := i1; obtain ⟨u, rfl⟩ := i2
  cases op with
  | Eq => cases h; exact eq_int (q s.toks)
  | NotEq => cases h; exact ne_int (q s.toks)
  | Gt => cases h; exact gt_int (q s.toks)
  | Lt => cases h; exact lt_int (q s.toks)
  | GtE => cases h; exact ge_int (q s.toks)
  | _ => cases h
theorem ret_cmpKS {op : CmpOp} {y : Str} {c : Bool} (h : cmpKS op y = some c) : DCmp k nm objs nx op .kind (.str y) c := DCmp.of fun ok ρ s Q E v v' he i1 i2 q => by
  obtain ⟨x, t, hx, rfl⟩ := i1; obtain ⟨u, rfl⟩ := i2
  have key : ∀ {c'}, guardO (!memS y kindL) (some c') = some c → c' = c ∧ (x == y) = false := fun h => by
    obtain ⟨h1, h2⟩ := guardO_some h
    refine ⟨Option.some.inj h2, ?_⟩
    rw [beq_eq_false_iff_ne]
    intro e; subst e
    rw [memS_iff.mpr hx] at h1; cases h1
  cases op with
  | Eq => obtain ⟨rfl, e⟩ := key h; have := q s.toks; rw [← e] at this; exact eq_str this
  | NotEq => obtain ⟨rfl, e⟩ := key h; have := q s.toks; refine ne_str ?_; have e2 : (x != y) = true := by simp [bne, e]
             rw [e2]; exact this
  | _ => cases h
theorem ret_cmpNS {op : CmpOp} {y : Str} {c : Bool} (h : cmpNS op = some c) : DCmp k nm objs nx op .none (.str y) c := DCmp.of fun ok ρ s Q E v v' he i1 i2 q => by
  cases i1; obtain ⟨u, rfl⟩ := i2
  cases op with
  | Eq => cases h; exact EqNone.eq_none_str (q s.toks)
  | NotEq => cases h; exact EqNone.ne_none_str (q s.toks)
  | _ => cases h
theorem ret_cmpTS {op : CmpOp} {y : Str} {c : Bool} (h : cmpTS op y = some c) : DCmp k nm objs nx op (.txt n) (.str y) c := DCmp.of fun ok ρ s Q E v v' he i1 i2 q => by
  obtain ⟨x, t, hx, _, rfl⟩ := i1; obtain ⟨u, rfl⟩ := i2
  have key : ∀ {c'}, guardO (List.isEmpty y.cps.toList) (some c') = some c → c' = c ∧ ((⟨#[x]⟩ : Str) == y) = false := fun h => by
    obtain ⟨h1, h2⟩ := guardO_some h
    refine ⟨Option.some.inj h2, ?_⟩
    rw [beq_eq_false_iff_ne]
    intro e
    rw [← e] at h1
    cases h1
  cases op with
  | Eq => obtain ⟨rfl, e⟩ := key h; have := q s.toks; rw [← e] at this; exact eq_str this
  | NotEq => obtain ⟨rfl, e⟩ := key h; have := q s.toks; refine ne_str ?_; have e2 : ((⟨#[x]⟩ : Str) != y) = true := by simp [bne, e]
             rw [e2]; exact this
  | _ => cases h
theorem inO_any {x : Str} {ys : List Str} : ys.any (· == x) = memS x ys := by
  by_cases h : x ∈ ys
  · rw [memS_iff.mpr h]; simpa using h
  · have : memS x ys = false := Bool.eq_false_iff.mpr fun e => h (memS_iff.mp e)
    rw [this]; simp only [List.any_eq_false, beq_iff_eq]; intro z hz e; exact h (e ▸ hz)
theorem ret_cmpIn {op : CmpOp} {x : Str} {c : Bool} (h : cmpIn objs x n op = some c) : DCmp k nm objs nx op (.str x) (.ref n) c := DCmp.of fun ok ρ s Q E v v' he i1 i2 q => by
  obtain ⟨t, rfl⟩ := i1; obtain ⟨z, e1, rfl⟩ := i2
  have key : ∀ {b}, inO x (lkN objs n) = some b → (∃ l ys, listO (lkN objs n) = some l ∧ strsOf l = some ys ∧ b = ys.any (· == x)) ∨ (∃ l ys, tupO (lkN objs n) = some l ∧ strsOf l = some ys ∧ b = ys.any (· == x)) ∨ ∃ es, tabO (lkN objs n) = some es ∧ b = (lkS es x).isSome := fun {b} h => by
    cases hh : lkN objs n with
    | none => rw [hh] at h; cases h
    | some so =>
      rw [hh] at h
      cases so with
      | list l => obtain ⟨ys, h1, rfl⟩ := Option.map_eq_some_iff.mp h; exact .inl ⟨l, ys, rfl, h1, inO_any.symm⟩
      | fix l j => obtain ⟨ys, h1, rfl⟩ := Option.map_eq_some_iff.mp h; exact .inl ⟨l, ys, rfl, h1, inO_any.symm⟩
      | tup l => obtain ⟨ys, h1, rfl⟩ := Option.map_eq_some_iff.mp h; exact .inr (.inl ⟨l, ys, rfl, h1, inO_any.symm⟩)
      | tab es => exact .inr (.inr ⟨es, rfl, (Option.some.inj h).symm⟩)
      | _ => cases h
  have tab : ∀ {es}, tabO (lkN objs n) = some es → ∀ {Q' : Value → Shared → Prop}, (∀ tk, Q' (.bool (lkS es x).isSome) { s with toks := tk }) → wpAny (model prg k.w) k.A (compareOp .In (.str x t) (.ref z)) Q' E s := fun {es} hh {Q'} hq => by
    refine fold_ fun P_ hP_ => ?_
    obtain ⟨d, o, kvs, news, g1, g2, g3, g4, g5, g6⟩ := he.tab hh
    rw [e1] at g1; cases g1
    have q1 := g6.at (x := x)
    refine hP_ ?_
    refine kda_in (knd := PySem.strKind _ _) g2 g3 g4 g5 (strKind_is _ _ _ _) (lkS es x).isSome ?_ (hq _)
    cases hx : lkS es x with
    | none => rw [q1.2 hx]; rfl
    | some a => obtain ⟨v, e, _⟩ := q1.1 a hx; rw [e]; rfl
  cases op with
  | In =>
    rcases key h with ⟨l, ys, h1, h2, rfl⟩ | ⟨l, ys, h1, h2, rfl⟩ | ⟨es, h1, rfl⟩
    · obtain ⟨x', vs, c, g1, g2, g3, _⟩ := he.list h1
      rw [e1] at g1; cases g1
      exact in_list_strs g2 (strsOf_are h2 g3) (q s.toks)
    · obtain ⟨x', vs, g1, g2, g3⟩ := he.tup h1
      rw [e1] at g1; cases g1
      exact in_tuple_strs g2 (by simpa using strsOf_are h2 g3) (q s.toks)
    · exact tab h1 q
  | NotIn =>
    obtain ⟨b, hb, rfl⟩ := Option.map_eq_some_iff.mp (show (inO x (lkN objs n)).map (!·) = some c from h)
    rcases key hb with ⟨l, ys, h1, h2, rfl⟩ | ⟨l, ys, h1, h2, rfl⟩ | ⟨es, h1, rfl⟩
    · obtain ⟨x', vs, c, g1, g2, g3, _⟩ := he.list h1
      rw [e1] at g1; cases g1
      exact notin_list_strs g2 (strsOf_are h2 g3) (q s.toks)
    · obtain ⟨x', vs, g1, g2, g3⟩ := he.tup h1
      rw [e1] at g1; cases g1
      exact notin_tuple_strs g2 (by simpa using strsOf_are h2 g3) (q s.toks)
    · obtain ⟨d, o, kvs, news, g1, g2, g3, g4, g5, g6⟩ := he.tab h1
      rw [e1] at g1; cases g1
      have q1 := g6.at (x := x)
      refine kdg_notin (knd := PySem.strKind _ _) g2 g3 g4 g5 (strKind_is _ _ _ _) (lkS es x).isSome ?_ (q _)
      cases hx : lkS es x with
      | none => rw [q1.2 hx]; rfl
      | some a => obtain ⟨v, e, _⟩ := q1.1 a hx; rw [e]; rfl
  | _ => cases h
theorem ret_cmp {op : CmpOp} {c : Bool} (h : evCmp objs op a b = some c) : DCmp k nm objs nx op a b c := by
  cases b with
  | none => exact ret_cmpN h
  | str y => cases a with
    | str x => exact ret_cmpSS h
    | kind => exact ret_cmpKS h
    | none => exact ret_cmpNS h
    | txt n => exact ret_cmpTS h
    | _ => cases h
  | int y => cases a with
    | int x => exact ret_cmpII h
    | _ => cases h
  | ref n => cases a with
    | str x => exact ret_cmpIn h
    | _ => cases h
  | _ => cases h
end
end Mine
end
section
namespace Mine
theorem IsZ.inv {w : World} {X : Xp} {ρ : List Addr} {n : Nat} {so : SO} {l : List (Nat × SO)} {c : List (Addr × Obj)} (h : IsZ w X ρ ((n, so) :: l) c) : ∃ a o c', c = (a, o) :: c' ∧ ρ[n]? = some a ∧ IsO w X ρ so o ∧ TabOk so a ∧ IsZ w X ρ l c' := by
  cases h with
  | cons h1 h2 h3 => exact ⟨_, _, _, rfl, h1, h2.1, h2.2, h3⟩
/-- what the law shows of an argument, as data -/
noncomputable def shownP : ItemD → PyData
  | .int z => .list [.str (Str.ofString "integer"), .int z]
  | .chr c => .list [.str (Str.ofString "character"), .str c]
  | .sym c => .list [.str (Str.ofString "symbol"), .str c]
  | .call => .list [.str (Str.ofString "call"), .list [.str (Str.ofString "symbol"), .str (Str.ofString "f")], .list [.str (Str.ofString "symbol"), .str (Str.ofString "x")], .none, .str (Str.ofString "k")]
  | .miss => .list [.str (Str.ofString "missing")]
section
variable {w : World} {X : Xp} {ρ : List Addr} {h : Heap}
theorem IsObjs.shownAt {l : List (Nat × SO)} {l' : List (Addr × Obj)} {n i : Nat} (h : IsObjs w X ρ l l') (e : l.lookup n = some (.shown i)) : ∃ a c, ρ[n]? = some a ∧ ShownC w (X.V i) a c ∧ ∀ p ∈ c, p ∈ l' := by
  induction h with
  | nil => simp at e
  | @cons k o1 a o l l' h1 h2 h3 ih =>
    rcases look_cons e with ⟨rfl, rfl⟩ | ⟨hn, e⟩
    · exact h2.1.elim
    · obtain ⟨b, c, g1, g2, g3⟩ := ih e
      exact ⟨b, c, g1, g2, fun p hp => .tail _ (g3 p hp)⟩
  | @item k i' a c l' l h1 h2 h3 ih =>
    rcases look_cons e with ⟨rfl, q⟩ | ⟨hn, e⟩
    · cases q
    · obtain ⟨b, c, g1, g2, g3⟩ := ih e
      exact ⟨b, c, g1, g2, fun p hp => List.mem_append_right _ (g3 p hp)⟩
  | @shown k i' a c l' l h1 h2 h3 ih =>
    rcases look_cons e with ⟨rfl, q⟩ | ⟨hn, e⟩
    · cases q
      exact ⟨a, c, h1, h2, fun p hp => List.mem_append_left _ hp⟩
    · obtain ⟨b, c, g1, g2, g3⟩ := ih e
      exact ⟨b, c, g1, g2, fun p hp => List.mem_append_right _ (g3 p hp)⟩
theorem reads_str {x : Str} {v : Value} (hi : Is ρ (.str x) v) : Reads h v (.str x) [] := by obtain ⟨t, rfl⟩ := hi; exact .str _ _
theorem reads_int {x : Int} {v : Value} (hi : Is ρ (.int x) v) : Reads h v (.int x) [] := by obtain ⟨t, rfl⟩ := hi; exact .int _ _
/-- a list of plain values -/
theorem reads_two {a : Addr} {o : Obj} {x y : SV} {dx dy : PyData} (hg : h.get? a = some o) (ho : IsO w X ρ (.list [x, y]) o) (hx : ∀ v, Is ρ x v → Reads h v dx []) (hy : ∀ v, Is ρ y v → Reads h v dy []) : ∃ as, Reads h (.ref a) (.list [dx, dy]) as := by
  refine fold_ fun P_ hP_ => ?_
  obtain ⟨vs, n, rfl, hl⟩ := ho
  obtain ⟨v, v', rfl, h1, h2⟩ := hl.inv2
  refine hP_ ?_
  exact ⟨_, .list hg rfl rfl (.cons (hx v h1) (.cons (hy v' h2) .nil))⟩
theorem ShownC.reads {d : ItemD} {a : Addr} {c : List (Addr × Obj)} (hc : ShownC w d a c) (hg : ∀ p ∈ c, h.get? p.1 = some p.2) : ∃ as, Reads h (.ref a) (shownP d) as := by
  obtain ⟨_, ρ, _, h0, hz⟩ := hc
  cases d with
  | int z =>
    obtain ⟨a', o, c', rfl, e, ho, _, hz'⟩ := hz.inv
    rw [h0] at e; cases e
    exact reads_two (hg _ (.head _)) ho (fun _ => reads_str) fun _ => reads_int
  | chr z =>
    obtain ⟨a', o, c', rfl, e, ho, _, hz'⟩ := hz.inv
    rw [h0] at e; cases e
    exact reads_two (hg _ (.head _)) ho (fun _ => reads_str) fun _ => reads_str
  | sym z =>
    obtain ⟨a', o, c', rfl, e, ho, _, hz'⟩ := hz.inv
    rw [h0] at e; cases e
    exact reads_two (hg _ (.head _)) ho (fun _ => reads_str) fun _ => reads_str
  | miss =>
    obtain ⟨a', o, c', rfl, e, ho, _, hz'⟩ := hz.inv
    rw [h0] at e; cases e
    obtain ⟨vs, n, rfl, hl⟩ := ho
    obtain ⟨v, rfl, h1⟩ := hl.inv1
    exact ⟨_, .list (hg _ (.head _)) rfl rfl (.cons (reads_str h1) .nil)⟩
  | call =>
    refine fold_ fun P_ hP_ => ?_
    obtain ⟨a', o, c', rfl, e, ho, _, hz'⟩ := hz.inv
    rw [h0] at e; cases e
    obtain ⟨a₁, o₁, c₁, rfl, e₁, ho₁, _, hz₁⟩ := hz'.inv
    obtain ⟨a₂, o₂, c₂, rfl, e₂, ho₂, _, _⟩ := hz₁.inv
    obtain ⟨vs, n, rfl, hl⟩ := ho
    obtain ⟨v, _, rfl, h1, hl⟩ := hl.inv
    obtain ⟨v₁, _, rfl, h2, hl⟩ := hl.inv
    obtain ⟨v₂, _, rfl, h3, hl⟩ := hl.inv
    obtain ⟨v₃, v₄, rfl, h4, h5⟩ := hl.inv2
    obtain ⟨_, f1, rfl⟩ := h2
    obtain ⟨_, f2, rfl⟩ := h3
    rw [e₁] at f1; cases f1
    rw [e₂] at f2; cases f2
    cases h4
    obtain ⟨as, r1⟩ := reads_two (hg _ (.tail _ (.head _))) ho₁ (fun _ => reads_str) fun _ => reads_str
    obtain ⟨bs, r2⟩ := reads_two (hg _ (.tail _ (.tail _ (.head _)))) ho₂ (fun _ => reads_str) fun _ => reads_str
    refine hP_ ?_
    exact ⟨_, .list (hg _ (.head _)) rfl rfl (.cons (reads_str h1) (.cons r1 (.cons r2 (.cons .none (.cons (reads_str h5) .nil)))))⟩
theorem shownP_ok {d : ItemD} (hd : okD d) : (shownP d).canLay0 = true ∧ (shownP d).depth ≤ 2 ∧ PyData.eqv (shownP d) (shownP d) = true := by
  have k : ∀ s : String, s = "integer" ∨ s = "character" ∨ s = "symbol" ∨ s = "call" ∨ s = "missing" ∨ s = "f" ∨ s = "x" ∨ s = "k" → PyData.strOk (Str.ofString s) = true := by
    rintro s (rfl | rfl | rfl | rfl | rfl | rfl | rfl | rfl) <;> decide +kernel
  cases d with
  | int z => exact ⟨by simp [shownP, PyData.canLay0, PyData.canLayAll0, k], by simp [shownP, PyData.depth, PyData.depthAll], by simp [shownP, PyData.eqv, PyData.eqvAll]⟩
  | chr z => exact ⟨by simp [shownP, PyData.canLay0, PyData.canLayAll0, k, show PyData.strOk z = true from hd], by simp [shownP, PyData.depth, PyData.depthAll], by simp [shownP, PyData.eqv, PyData.eqvAll]⟩
  | sym z => exact ⟨by simp [shownP, PyData.canLay0, PyData.canLayAll0, k, hd.1], by simp [shownP, PyData.depth, PyData.depthAll], by simp [shownP, PyData.eqv, PyData.eqvAll]⟩
  | miss => exact ⟨by simp [shownP, PyData.canLay0, PyData.canLayAll0, k], by simp [shownP, PyData.depth, PyData.depthAll], by simp [shownP, PyData.eqv, PyData.eqvAll]⟩
  | call => exact ⟨by simp [shownP, PyData.canLay0, PyData.canLayAll0, k], by simp [shownP, PyData.depth, PyData.depthAll], by simp [shownP, PyData.eqv, PyData.eqvAll]⟩
end
noncomputable def okS (x : Str) : Bool := x.cps.toList.all fun c => Nat.blt c 1114112
theorem okS_ok {x : Str} (h : okS x = true) : PyData.strOk x = true := by
  unfold PyData.strOk
  unfold okS at h
  rw [← Array.all_toList]
  rw [List.all_eq_true] at h ⊢
  intro c hc
  have := Nat.le_of_ble_eq_true (h c hc)
  exact decide_eq_true this
noncomputable def eqTL (f : SV → SV → Bool) : List SV → List SV → Bool
  | [], [] => true
  | a :: l, b :: m => match f a b with
    | true => eqTL f l m
    | false => false
  | _, _ => false
noncomputable def eqTO (f : SV → SV → Bool) : Option SO → Option SO → Bool
  | some (.list l), some (.list m) => eqTL f l m
  | some (.tup l), some (.tup m) => eqTL f l m
  | some (.shown i), some (.shown j) => Nat.beq i j
  | _, _ => false
/-- are two values surely equal -/
noncomputable def eqT : Nat → List (Nat × SO) → SV → SV → Bool
  | 0, _, _, _ => false
  | n + 1, objs, a, b => match a with
    | .none => match b with
      | .none => true
      | _ => false
    | .str x => match b with
      | .str y => match okS x with
        | true => seq x y
        | false => false
      | _ => false
    | .int x => match b with
      | .int y => decide (x = y)
      | _ => false
    | .ref i => match b with
      | .ref j => eqTO (eqT n objs) (lkN objs i) (lkN objs j)
      | _ => false
    | .txt i => match b with
      | .txt j => Nat.beq i j
      | _ => false
    | _ => false
noncomputable def EqAt (n : Nat) (h : Heap) (v v' : Value) : Prop := ∃ d e as bs, Reads h v d as ∧ Reads h v' e bs ∧ d.canLay0 = true ∧ e.canLay0 = true ∧ d.depth ≤ n + 2 ∧ e.depth ≤ n + 2 ∧ PyData.eqv d e = true
noncomputable def EqAll (n : Nat) (h : Heap) (vs vs' : List Value) : Prop := ∃ ds es as bs, ReadsAll h vs ds as ∧ ReadsAll h vs' es bs ∧ PyData.canLayAll0 ds = true ∧ PyData.canLayAll0 es = true ∧ PyData.depthAll ds ≤ n + 2 ∧ PyData.depthAll es ≤ n + 2 ∧ PyData.eqvAll ds es = true
section
variable {k : EC} {objs : List (Nat × SO)} {ρ : List Addr} {s : Shared}
theorem eqTL_ok {n : Nat} {f : SV → SV → Bool} (ih : ∀ a b v v', f a b = true → Is ρ a v → Is ρ b v' → EqAt n s.heap v v') : ∀ {l m : List SV} {vs vs' : List Value}, eqTL f l m = true → IsL ρ l vs → IsL ρ m vs' → EqAll n s.heap vs vs'
  | [], [], [], [], _, _, _ => ⟨[], [], [], [], .nil, .nil, rfl, rfl, Nat.zero_le _, Nat.zero_le _, rfl⟩
  | a :: l, b :: m, v :: vs, v' :: vs', h, ⟨h1, h2⟩, ⟨h3, h4⟩ => by
    unfold eqTL at h
    cases hf : f a b with
    | false => rw [hf] at h; cases h
    | true =>
      refine fold_ fun P_ hP_ => ?_
      rw [hf] at h
      obtain ⟨d, e, as, bs, r1, r2, c1, c2, d1, d2, q⟩ := ih a b v v' hf h1 h3
      obtain ⟨ds, es, as', bs', r3, r4, c3, c4, d3, d4, q'⟩ := eqTL_ok ih h h2 h4
      refine hP_ ?_
      refine ⟨d :: ds, e :: es, _, _, .cons r1 r3, .cons r2 r4, ?_, ?_, ?_, ?_, ?_⟩
      · simp [PyData.canLayAll0, c1, c3]
      · simp [PyData.canLayAll0, c2, c4]
      · simp only [PyData.depthAll]; omega
      · simp only [PyData.depthAll]; omega
      · simp [PyData.eqvAll, q, q']
  | [], _, _ :: _, _, _, h, _ => h.elim
  | [], _ :: _, _, _, h, _, _ => nomatch h
  | _ :: _, _, [], _, _, h, _ => h.elim
  | _ :: _, [], _, _, h, _, _ => nomatch h
  | _, [], _, _ :: _, _, _, h => h.elim
  | _, _ :: _, _, [], _, _, h => h.elim
theorem eqTO_ok {n i j : Nat} {f : SV → SV → Bool} {a a' : Addr} (he : HE k ρ objs s) (ih : ∀ a b v v', f a b = true → Is ρ a v → Is ρ b v' → EqAt n s.heap v v') (h : eqTO f (lkN objs i) (lkN objs j) = true) (h1 : ρ[i]? = some a) (h2 : ρ[j]? = some a') : EqAt (n + 1) s.heap (.ref a) (.ref a') := by
  obtain ⟨n', io, N, _⟩ := he.N
  have hg : ∀ p ∈ n', s.heap.get? p.1 = some p.2 := fun p hp => (N p (List.mem_append_right _ hp)).1
  rw [lkN_eq, lkN_eq] at h
  cases hi : objs.lookup i with
  | none => rw [hi] at h; cases h
  | some so =>
    cases hj : objs.lookup j with
    | none => rw [hi, hj] at h; cases so <;> cases h
    | some so' =>
      rw [hi, hj] at h
      cases so with
      | list l =>
        cases so' with
        | list m =>
          obtain ⟨x, o, e1, m1, vs, c1, rfl, l1⟩ := io.find hi
          obtain ⟨y, o', e2, m2, vs', c2, rfl, l2⟩ := io.find hj
          rw [h1] at e1; cases e1
          rw [h2] at e2; cases e2
          obtain ⟨ds, es, as, bs, r1, r2, k1, k2, d1, d2, q⟩ := eqTL_ok ih h l1 l2
          exact ⟨.list ds, .list es, _, _, .list (hg _ m1) rfl rfl (by simpa using r1), .list (hg _ m2) rfl rfl (by simpa using r2), k1, k2, by simp only [PyData.depth]; omega, by simp only [PyData.depth]; omega, by simpa [PyData.eqv] using q⟩
        | _ => cases h
      | tup l =>
        cases so' with
        | tup m =>
          obtain ⟨x, o, e1, m1, vs, c1, rfl, l1⟩ := io.find hi
          obtain ⟨y, o', e2, m2, vs', c2, rfl, l2⟩ := io.find hj
          rw [h1] at e1; cases e1
          rw [h2] at e2; cases e2
          obtain ⟨ds, es, as, bs, r1, r2, k1, k2, d1, d2, q⟩ := eqTL_ok ih h l1 l2
          exact ⟨.tuple ds, .tuple es, _, _, .tuple (hg _ m1) rfl rfl (by simpa using r1), .tuple (hg _ m2) rfl rfl (by simpa using r2), k1, k2, by simp only [PyData.depth]; omega, by simp only [PyData.depth]; omega, by simpa [PyData.eqv] using q⟩
        | _ => cases h
      | shown p =>
        cases so' with
        | shown q =>
          have hpq : p = q := Nat.eq_of_beq_eq_true h
          refine fold_ fun P_ hP_ => ?_
          subst hpq
          obtain ⟨x, c, e1, s1, m1⟩ := io.shownAt hi
          obtain ⟨y, c', e2, s2, m2⟩ := io.shownAt hj
          rw [h1] at e1; cases e1
          rw [h2] at e2; cases e2
          obtain ⟨as, r1⟩ := s1.reads fun p hp => hg p (m1 p hp)
          obtain ⟨bs, r2⟩ := s2.reads fun p hp => hg p (m2 p hp)
          have ok := shownP_ok s1.1
          refine hP_ ?_
          exact ⟨_, _, as, bs, r1, r2, ok.1, ok.1, by omega, by omega, ok.2.2⟩
        | _ => cases h
      | _ => cases h
theorem eqT_ok (he : HE k ρ objs s) : ∀ (n : Nat) (a b : SV) (v v' : Value), eqT n objs a b = true → Is ρ a v → Is ρ b v' → EqAt n s.heap v v'
  | 0, _, _, _, _, h, _, _ => nomatch h
  | n + 1, a, b, v, v', h, i1, i2 => by
    cases a with
    | none => cases b with
      | none => cases i1; cases i2; exact ⟨.none, .none, _, _, .none, .none, rfl, rfl, Nat.zero_le _, Nat.zero_le _, rfl⟩
      | _ => cases h
    | str x => cases b with
      | str y =>
        cases hx : okS x with
        | false => simp only [eqT, hx] at h; cases h
        | true =>
          simp only [eqT, hx] at h
          have e := seq_iff.mp h
          subst e
          have := okS_ok hx
          exact ⟨_, _, _, _, reads_str i1, reads_str i2, this, this, Nat.zero_le _, Nat.zero_le _, by simp [PyData.eqv]⟩
      | _ => cases h
    | int x => cases b with
      | int y =>
        have e : x = y := of_decide_eq_true h
        subst e
        exact ⟨_, _, _, _, reads_int i1, reads_int i2, rfl, rfl, Nat.zero_le _, Nat.zero_le _, by simp [PyData.eqv]⟩
      | _ => cases h
    | ref i => cases b with
      | ref j =>
        obtain ⟨x, e1, rfl⟩ := i1
        obtain ⟨y, e2, rfl⟩ := i2
        exact eqTO_ok he (fun a b v v' => eqT_ok he n a b v v') h e1 e2
      | _ => cases h
    | txt i => cases b with
      | txt j =>
        have e : i = j := Nat.eq_of_beq_eq_true h
        subst e
        obtain ⟨x, t, e1, l1, rfl⟩ := i1
        obtain ⟨y, u, e2, _, rfl⟩ := i2
        rw [e1] at e2; cases e2
        have ok : PyData.strOk ⟨#[x]⟩ = true := by
          unfold PyData.strOk
          simpa using l1
        exact ⟨_, _, _, _, .str _ _, .str _ _, ok, ok, Nat.zero_le _, Nat.zero_le _, by simp [PyData.eqv]⟩
      | _ => cases h
    | _ => cases h
end
section
variable {k : EC} {nm : Str → Option SV} {objs : List (Nat × SO)} {nx : Nat} {a b : SV}
noncomputable def cmpQ : CmpOp → Option Bool
  | .Eq => some true
  | .NotEq => some false
  | _ => none
theorem ret_cmpQ {op : CmpOp} {c : Bool} (hq : eqT 9 objs a b = true) (h : cmpQ op = some c) : DCmp k nm objs nx op a b c := DCmp.of fun ok ρ s Q E v v' he i1 i2 q => by
  obtain ⟨d, e, as, bs, r1, r2, k1, k2, d1, d2, qq⟩ := eqT_ok he 9 a b v v' hq i1 i2
  have u : k.A.units + 64 < cLine := by have := ok.uni; have : cLine = 9900 := rfl; omega
  have sh : ∀ {d : PyData}, d.canLay0 = true → d.depth ≤ 9 + 2 → SeqAt.shaped d = true := fun h1 h2 => by unfold SeqAt.shaped; rw [h1, Bool.true_and]; exact decide_eq_true (by omega)
  cases op with
  | Eq => cases h; exact eq_dataH r1 r2 (sh k1 d1) (sh k2 d2) u (by rw [qq]; exact q s.toks)
  | NotEq => cases h; exact ne_dataH r1 r2 (sh k1 d1) (sh k2 d2) u (by rw [qq]; exact q s.toks)
  | _ => cases h
end
end Mine
end
section
namespace Mine
noncomputable def pickV : Option Nat → Option Nat → List Value → List Value
  | none, some j, vs => vs.take j
  | some j, none, vs => vs.drop j
  | _, _, _ => []
theorem pick_upto (vs : List Value) (y : Nat) : slicePick vs.toArray none (some (y : Int)) none = (vs.take y).toArray := by
  have e : sliceBounds none (some (y : Int)) none vs.toArray.size = (((0 : Nat) : Int), ((min y vs.toArray.size : Nat) : Int), 1) := by
    simp only [sliceBounds, Option.getD_none, show (1 : Int) > 0 by decide, if_true, if_neg (show ¬ ((y : Int) < 0) by omega)]
    congr 1
    congr 1
    omega
  rw [kmk_pick_nat _ e]
  refine (?_ : ((vs.drop 0).take (min y vs.toArray.size - 0)).toArray = _)
  rw [List.drop_zero, Nat.sub_zero, List.size_toArray, kmk_take_min]
theorem pick_from (vs : List Value) (x : Nat) : slicePick vs.toArray (some (x : Int)) none none = (vs.drop x).toArray := by
  have e : sliceBounds (some (x : Int)) none none vs.toArray.size = (((min x vs.toArray.size : Nat) : Int), ((vs.toArray.size : Nat) : Int), 1) := by
    simp only [sliceBounds, Option.getD_none, show (1 : Int) > 0 by decide, if_true, if_neg (show ¬ ((x : Int) < 0) by omega)]
    congr 1
    omega
  rw [kmk_pick_nat _ e]
  refine (?_ : ((vs.drop (min x vs.toArray.size)).take (vs.toArray.size - min x vs.toArray.size)).toArray = _)
  rw [List.size_toArray, kmk_drop_min, List.take_of_length_le (by rw [List.length_drop]; omega)]
section
variable {k : EC} {nm : Str → Option SV} {objs objs' objs₁ objs₂ objs₃ : List (Nat × SO)} {nx nx' nx₁ nx₂ nx₃ n dn i j : Nat} {r a b : SV} {svs l l' : List SV} {ρ : List Addr} {s : Shared} {n' : List (Addr × Obj)} {x : Str}
theorem HE.push (he : HE k ρ objs s) (o : Obj) : HE k ρ objs { s with heap := s.heap.push o } :=
  ⟨he.F.push o, let ⟨n', io, N, d⟩ := he.N; ⟨n', io, N.grown fun _ _ e => Heap.get?_push_of_some _ e, d⟩⟩
/-- a new object at the heap's end -/
theorem HE.snoc {so : SO} {o : Obj} (he : HE k ρ objs s) (hl : ρ.length = nx) (ho : IsO k.w k.X (ρ ++ [s.heap.objs.size]) so o) (ht : TabOk so s.heap.objs.size) (hf : o.isFreed = false := by rfl) : HE k (ρ ++ [s.heap.objs.size]) ((nx, so) :: objs) { s with heap := s.heap.push o } := by
  obtain ⟨n', io, N, d⟩ := he.N
  exact HE.alloc hl io d (he.F.push o) (News.push he.F N o (hfree := hf)) (fun p hp => Heap.lt_size (N p hp).1) ho ht
noncomputable def noSlice : Expr → Bool
  | .Slice .. => false
  | _ => true
theorem subd_of {e : Expr} {o i : Value} (h : noSlice e = true) : subscripted e false o i = operate [o, i] (getItem o i) := by
  cases e <;> first | rfl | cases h
noncomputable def getN : List SV → Nat → Option SV
  | [], _ => none
  | a :: _, 0 => some a
  | _ :: l, n + 1 => getN l n
theorem getN_eq : ∀ {l : List SV} {n : Nat}, getN l n = l[n]?
  | [], _ => by simp [getN]
  | a :: l, 0 => by simp [getN]
  | a :: l, n + 1 => by simp [getN, getN_eq]
noncomputable def natI : Int → Option Nat
  | .ofNat n => some n
  | _ => none
theorem natI_eq {j : Int} {i : Nat} (h : natI j = some i) : j = (i : Int) := by
  cases j with
  | ofNat m => cases h; rfl
  | negSucc m => cases h
noncomputable def itemO1 : Option SO → SV → Option SV
  | some (.list l), .int j => (natI j).bind (getN l)
  | some (.fix l _), .int j => (natI j).bind (getN l)
  | some (.tup l), .int j => (natI j).bind (getN l)
  | some (.tab es), .str x => lkS es x
  | _, _ => none
noncomputable def strAt (x : Str) : SV → Option SV
  | .int j => match natI j with
    | some i => match x.cps.toList[i]? with
      | some c => some (.str ⟨#[c]⟩)
      | none => none
    | none => none
  | _ => none
noncomputable def evItem (objs : List (Nat × SO)) (a b : SV) : Option SV := match a with
  | .ref n => itemO1 (lkN objs n) b
  | .str x => strAt x b
  | _ => none
/-- no element beyond this number is read -/
noncomputable def smallI : SV → Bool
  | .int j => decide (j < 1000)
  | _ => true
theorem lenLt {i : Nat} (h : l[i]? = some a) : i < l.length := (List.getElem?_eq_some_iff.mp h).1
noncomputable def DItem (k : EC) (nm : Str → Option SV) (objs : List (Nat × SO)) (nx : Nat) (e e' : Expr) (a b r : SV) : Prop := D k nm objs nx [a, b] (fun vs => subscriptTail e e' (vs.headD .none) (vs.tail.headD .none)) Is r objs nx
theorem DItem.of {e e' : Expr} (h : k.Ok → ∀ ρ s (Q E : Value → Shared → Prop) z v', HE k ρ objs s → ρ[n]? = some z → Is ρ b v' → (∀ v tk, Is ρ r v → Q v { s with toks := tk }) → wpAny (model prg k.w) k.A (subscriptTail e e' (.ref z) v') Q E s) : DItem k nm objs nx e e' (.ref n) b r :=
  D.ret fun ok ρ s Q E vs hn he hi q => by
    obtain ⟨v, v', rfl, ⟨z, e1, rfl⟩, i2⟩ := hi.inv2
    exact h ok ρ s Q E z v' he e1 i2 q
theorem ret_itemL {e e' : Expr} {i : Nat} (hs : noSlice e' = true) (h1 : listO (lkN objs n) = some l) (h2 : l[i]? = some r) (hz : i < 1000) : DItem k nm objs nx e e' (.ref n) (.int (i : Int)) r := DItem.of fun ok ρ s Q E z v' he e1 i2 q => by
  obtain ⟨u, rfl⟩ := i2
  obtain ⟨x', vs, c, g1, g2, g3, _⟩ := he.list h1
  rw [e1] at g1; cases g1
  obtain ⟨w, g4, g5⟩ := g3.get h2
  exact tail_any g2.typeIs slot_list_getitem.lookup (wpAny_getItem_list g2 (by omega) (by omega) (by simpa using g4) (q _ s.toks g5)) (subd_of hs)
theorem ret_itemT {e e' : Expr} {i : Nat} (hs : noSlice e' = true) (h1 : tupO (lkN objs n) = some l) (h2 : l[i]? = some r) (hz : i < 1000) : DItem k nm objs nx e e' (.ref n) (.int (i : Int)) r := DItem.of fun ok ρ s Q E z v' he e1 i2 q => by
  obtain ⟨u, rfl⟩ := i2
  obtain ⟨x', vs, g1, g2, g3⟩ := he.tup h1
  rw [e1] at g1; cases g1
  obtain ⟨w, g4, g5⟩ := g3.get h2
  have hlt := lenLt h2
  refine tail_any g2.typeIs slot_tuple_getitem.lookup (getItem_tuple (j := i) g2 (by omega) (by omega) ?_ (by simpa using g4) (q _ s.toks g5)) (subd_of hs)
  unfold seqIndex?
  rw [List.size_toArray, g3.length]
  simp only [if_neg (show ¬ (i : Int) < 0 by omega)]
  rw [if_pos]
  · simp
  simp only [Bool.and_eq_true, decide_eq_true_eq]
  omega
theorem ret_itemD {e e' : Expr} {es : List (Str × SV)} (hs : noSlice e' = true) (h1 : tabO (lkN objs n) = some es) (h2 : lkS es x = some r) : DItem k nm objs nx e e' (.ref n) (.str x) r := DItem.of fun ok ρ s Q E z v' he e1 i2 q => by
  refine fold_ fun P_ hP_ => ?_
  obtain ⟨u, rfl⟩ := i2
  obtain ⟨d, o, kvs, news, g1, g2, g3, g4, g5, g6⟩ := he.tab h1
  rw [e1] at g1; cases g1
  obtain ⟨v, h3, h4⟩ := g6.at.1 r h2
  have hD := kda_dict (knd := PySem.strKind _ _) g2 g3 g4
  refine hP_ ?_
  exact tail_any hD.typeIs slot_dict_getitem.lookup (wpAny_getItem_of (strKind_is _ _ _ _) hD.mapOf h3 (q _ _ h4)) (subd_of hs)
theorem ret_itemS {e e' : Expr} {v : SV} (hs : noSlice e' = true) (h : strAt x b = some v) (hz : smallI b = true) : DItem k nm objs nx e e' (.str x) b v := D.ret fun ok ρ s Q E vs hn he hi q => by
  obtain ⟨v1, v2, rfl, ⟨t, rfl⟩, i2⟩ := hi.inv2
  cases b with
  | int j =>
    obtain ⟨u, rfl⟩ := i2
    simp only [strAt] at h
    cases h1 : natI j with
    | none => rw [h1] at h; cases h
    | some i =>
      rw [h1] at h
      dsimp only at h
      cases h2 : x.cps.toList[i]? with
      | none => rw [h2] at h; cases h
      | some c =>
        rw [h2] at h
        cases h
        have ej := natI_eq h1
        subst ej
        have hlt : (i : Int) < 1000 := of_decide_eq_true hz
        obtain ⟨hl, hc⟩ := List.getElem?_eq_some_iff.mp h2
        have hl' : i < x.length := by simpa [Str.length] using hl
        refine (?_ : wpAny _ _ (subscriptTail e e' (.str x t) (.int (i : Int) u)) Q E s)
        refine tail_any (typeIs_str s x t) PySem.F.slot_str_getitem.lookup (getItem_str (c := c) ?_ ?_ (q _ _ ⟨_, rfl⟩)) (subd_of hs)
        · simp only [Bool.or_eq_false_iff, decide_eq_false_iff_not]; omega
        · unfold seqIndex?
          simp only [if_neg (show ¬ (i : Int) < 0 by omega)]
          rw [if_pos (by simp only [Bool.and_eq_true, decide_eq_true_eq]; omega)]
          refine (?_ : x.cps[((i : Int)).toNat]? = some c)
          rw [Int.toNat_natCast]
          simpa using h2
  | _ => cases h
theorem ret_item {e e' : Expr} (hs : noSlice e' = true) (h : evItem objs a b = some r) (hz : smallI b = true) : DItem k nm objs nx e e' a b r := by
  cases a with
  | ref n =>
    have h' : itemO1 (lkN objs n) b = some r := h
    have num : ∀ {l : List SV} {j : Int}, b = .int j → (natI j).bind (getN l) = some r → ∃ i : Nat, b = .int (i : Int) ∧ l[i]? = some r ∧ i < 1000 := fun {l j} hb hq => by
      subst hb
      obtain ⟨i, h1, h2⟩ := Option.bind_eq_some_iff.mp hq
      rw [getN_eq] at h2
      have := natI_eq h1
      subst this
      have := of_decide_eq_true hz
      exact ⟨i, rfl, h2, by omega⟩
    cases hh : lkN objs n with
    | none => rw [hh] at h'; cases h'
    | some so =>
      rw [hh] at h'
      cases so with
      | list l => cases b with
        | int j => obtain ⟨i, e1, e2, e3⟩ := num rfl h'; rw [e1]; exact ret_itemL hs (by rw [hh]; rfl) e2 e3
        | _ => cases h'
      | fix l _ => cases b with
        | int j => obtain ⟨i, e1, e2, e3⟩ := num rfl h'; rw [e1]; exact ret_itemL hs (by rw [hh]; rfl) e2 e3
        | _ => cases h'
      | tup l => cases b with
        | int j => obtain ⟨i, e1, e2, e3⟩ := num rfl h'; rw [e1]; exact ret_itemT hs (by rw [hh]; rfl) e2 e3
        | _ => cases h'
      | tab es => cases b with
        | str x => exact ret_itemD hs (by rw [hh]; rfl) h'
        | _ => cases h'
      | _ => cases h'
  | str x => exact ret_itemS hs h hz
  | _ => cases h
theorem ret_slice {e : Expr} {lo hi : Option Expr} {p : Pos} {l₂ : List SV} (hl2 : l.length ≤ 1000) (h : listO (lkN objs n) = some l) (vl vu : SV) (x y : Option Nat)
    (hp : (vl = .none ∧ x = none ∨ ∃ i : Nat, vl = .int (i : Int) ∧ x = some i) ∧ (vu = .none ∧ y = none ∨ ∃ i : Nat, vu = .int (i : Int) ∧ y = some i)) (hr : (x = none ∧ ∃ j, y = some j ∧ l₂ = l.take j) ∨ (y = none ∧ ∃ j, x = some j ∧ l₂ = l.drop j)) :
    ∀ (ok : k.Ok) ρ s (E : Value → Shared → Prop) (v v₁ v₂ : Value), ρ.length = nx → HE k ρ objs s → Is ρ (.ref n) v → Is ρ vl v₁ → Is ρ vu v₂ →
      wpAny (model prg k.w) k.A (subscriptTail e (.Slice lo hi none p) v (.ref s.heap.objs.size)) (fun w s' => ∃ ρ', ρ <+: ρ' ∧ ρ'.length = nx + 1 ∧ Is ρ' (.ref nx) w ∧ HE k ρ' ((nx, .list l₂) :: objs) s' ∧ Same s s') E { s with heap := s.heap.push { cls := .type "slice", data := .fields #[v₁, v₂, .none] } } := by
  intro ok ρ s E v v₁ v₂ hlen he ⟨a, e0, ev⟩ h1 h2
  subst ev
  have he2 := he.push { cls := .type "slice", data := .fields #[v₁, v₂, .none] }
  obtain ⟨a', vs, c, g1, g2, g3, _⟩ := he2.list h
  rw [e0] at g1; cases g1
  have pl : IsPart v₁ (x.map fun z : Nat => (z : Int)) := by
    rcases hp.1 with ⟨q1, q2⟩ | ⟨i, q1, q2⟩
    · subst q1; subst q2; cases h1; exact .none
    · subst q1; subst q2; obtain ⟨t, rfl⟩ := h1; exact .int _ _
  have pu : IsPart v₂ (y.map fun z : Nat => (z : Int)) := by
    rcases hp.2 with ⟨q1, q2⟩ | ⟨i, q1, q2⟩
    · subst q1; subst q2; cases h2; exact .none
    · subst q1; subst q2; obtain ⟨t, rfl⟩ := h2; exact .int _ _
  refine tail_any (ops := [.ref s.heap.objs.size, .ref a]) g2.typeIs slot_list_getitem.lookup (wpAny_getItem_list_slice g2 (Heap.IsSliceOf.new ..) pl pu .none (by simp) ?_ (szOK (by rw [List.size_toArray, g3.length]; exact hl2))) rfl
  have hpick : slicePick vs.toArray (x.map fun z : Nat => (z : Int)) (y.map fun z : Nat => (z : Int)) none = (pickV x y vs).toArray ∧ IsL ρ l₂ (pickV x y vs) := by
    rcases hr with ⟨rfl, j, rfl, rfl⟩ | ⟨rfl, j, rfl, rfl⟩
    · exact ⟨pick_upto vs j, g3.take j⟩
    · exact ⟨pick_from vs j, g3.drop j⟩
  rw [hpick.1]
  exact ⟨_, pre_snoc, by simp [hlen], is_new hlen, HE.snoc he2 hlen ⟨_, 0, rfl, hpick.2.mono pre_snoc⟩ trivial, ⟨_, _, rfl⟩⟩
noncomputable def DP (k : EC) (nm : Str → Option SV) (objs : List (Nat × SO)) (nx : Nat) (e : Option Expr) (r : SV) (objs' : List (Nat × SO)) (nx' : Nat) : Prop := D k nm objs nx [] (fun _ => evalPart e k.env) Is r objs' nx'
theorem DP_none : DP k nm objs nx none .none objs nx := fun ok ρ s E vs hl hn he hi => wpAny_pure ⟨ρ, pre_refl, hl, rfl, he, Same.refl⟩
theorem DP_some {e : Expr} (h : DE k nm objs nx e r objs' nx') : DP k nm objs nx (some e) r objs' nx' := h
theorem DE_slice {e : Expr} {lo hi : Option Expr} {p pos : Pos} {l₂ : List SV} {vl vu : SV} {x y : Option Nat} (h1 : DE k nm objs nx e (.ref n) objs₁ nx₁) (h2 : DP k nm objs₁ nx₁ lo vl objs₂ nx₂) (h3 : DP k nm objs₂ nx₂ hi vu objs₃ nx₃) (hl2 : l.length ≤ 1000) (h : listO (lkN objs₃ n) = some l)
    (hp : (vl = .none ∧ x = none ∨ ∃ i : Nat, vl = .int (i : Int) ∧ x = some i) ∧ (vu = .none ∧ y = none ∨ ∃ i : Nat, vu = .int (i : Int) ∧ y = some i)) (hr : (x = none ∧ ∃ j, y = some j ∧ l₂ = l.take j) ∨ (y = none ∧ ∃ j, x = some j ∧ l₂ = l.drop j)) :
    DE k nm objs nx (.Subscript e (.Slice lo hi none p) pos) (.ref nx₃) ((nx₃, .list l₂) :: objs₃) (nx₃ + 1) := fun ok ρ s E vs hl hn he hi' =>
  Subscript_ (wpAny_mono (h1 ok ρ s E vs hl hn he hi') (fun v s₁ ⟨ρ₁, p₁, l₁, i₁, e₁, S₁⟩ => wpAny_Slice (wpAny_mono (h2 ok ρ₁ s₁ E [] l₁ (hn.mono p₁) e₁ trivial) (fun v₁ s₂ ⟨ρ₂, p₂, l₂', i₂, e₂, S₂⟩ => wpAny_mono (h3 ok ρ₂ s₂ E [] l₂' ((hn.mono p₁).mono p₂) e₂ trivial) (fun v₂ s₃ ⟨ρ₃, p₃, l₃, i₃, e₃, S₃⟩ =>
    wpAny_pure (wpAny_mono (ret_slice hl2 h vl vu x y hp hr ok ρ₃ s₃ E v v₁ v₂ l₃ e₃ (i₁.mono (p₂.trans p₃)) (i₂.mono p₃) i₃) (fun w s₄ ⟨ρ₄, p₄, l₄, i₄, e₄, S₄⟩ => ⟨ρ₄, p₁.trans (p₂.trans (p₃.trans p₄)), l₄, i₄, e₄, S₁.trans (S₂.trans (S₃.trans S₄))⟩) fun _ _ z => z)) fun _ _ z => z) fun _ _ z => z)) fun _ _ z => z)
/-- binary operations -/
noncomputable def addO (nx : Nat) (objs : List (Nat × SO)) : Option (List SV) → Option (List SV) → Option (SV × List (Nat × SO) × Nat)
  | some l, some m => match ltS l 500 with
    | true => match ltS m 500 with
      | true => some (.ref nx, (nx, .list (l ++ m)) :: objs, nx + 1)
      | false => none
    | false => none
  | _, _ => none
noncomputable def repL (a : SV) : Nat → List SV
  | 0 => []
  | n + 1 => a :: repL a n
noncomputable def mulO (nx : Nat) (objs : List (Nat × SO)) : Option (List SV) → Option Nat → Option (SV × List (Nat × SO) × Nat)
  | some [.int z], some k => match Nat.ble k 1000 with
    | true => some (.ref nx, (nx, .list (repL (.int z) k)) :: objs, nx + 1)
    | false => none
  | _, _ => none
noncomputable def evBin (objs : List (Nat × SO)) (nx : Nat) (op : Operator) (a b : SV) : Option (SV × List (Nat × SO) × Nat) := match op with
  | .Add => match a with
    | .ref i => match b with
      | .ref j => addO nx objs (listO (lkN objs i)) (listO (lkN objs j))
      | _ => none
    | .int x => match b with
      | .int y => some (.int (x + y), objs, nx)
      | _ => none
    | _ => none
  | .Sub => match a with
    | .int x => match b with
      | .int y => some (.int (x - y), objs, nx)
      | _ => none
    | _ => none
  | .Mult => match a with
    | .ref i => match b with
      | .int y => mulO nx objs (listO (lkN objs i)) (natI y)
      | _ => none
    | _ => none
  | _ => none
noncomputable def DBin (k : EC) (nm : Str → Option SV) (objs : List (Nat × SO)) (nx : Nat) (op : Operator) (a b : SV) (r : SV) (o' : List (Nat × SO)) (m' : Nat) : Prop := D k nm objs nx [a, b] (fun vs => binaryOp op (vs.headD .none) (vs.tail.headD .none)) Is r o' m'
theorem ret_addL (h1 : listO (lkN objs i) = some l) (h2 : listO (lkN objs j) = some l') (hz : l.length + l'.length ≤ 1000) : DBin k nm objs nx .Add (.ref i) (.ref j) (.ref nx) ((nx, .list (l ++ l')) :: objs) (nx + 1) := fun ok ρ s E vs hl hn he hi => by
  obtain ⟨v, v', rfl, ⟨x, e1, rfl⟩, ⟨y, e2, rfl⟩⟩ := hi.inv2
  refine (?_ : wpAny _ _ (binaryOp .Add (.ref x) (.ref y)) _ E s)
  refine fold_ fun P_ hP_ => ?_
  obtain ⟨x', vs, c, g1, g2, g3, _⟩ := he.list h1
  obtain ⟨y', vs', c', f1, f2, f3, _⟩ := he.list h2
  rw [e1] at g1; cases g1
  rw [e2] at f1; cases f1
  obtain ⟨n', io, N, d⟩ := he.N
  refine hP_ ?_
  refine add_arrays he.F N g2 f2 (fun h' F' N' => ⟨_, pre_snoc, by simp [hl], is_new hl, HE.alloc hl io d F' N' (fun p hp => Heap.lt_size (N p hp).1) ⟨vs ++ vs', 0, by simp, (g3.append f3).mono pre_snoc⟩ trivial, ⟨h', _, rfl⟩⟩) (szOK (by rw [List.size_toArray, List.size_toArray, g3.length, f3.length]; exact hz))
theorem isL_rep {z : Int} {t : Tok} : ∀ k : Nat, IsL ρ (repL (.int z) k) (List.replicate k [Value.int z t]).flatten
  | 0 => trivial
  | k + 1 => by
    rw [List.replicate_succ, List.flatten_cons]
    exact ⟨⟨t, rfl⟩, isL_rep k⟩
theorem ret_mulL {z : Int} {m : Nat} (h1 : listO (lkN objs i) = some [.int z]) (hm : m ≤ 1000) : DBin k nm objs nx .Mult (.ref i) (.int (m : Int)) (.ref nx) ((nx, .list (repL (.int z) m)) :: objs) (nx + 1) := fun ok ρ s E vs hl hn he hi => by
  obtain ⟨v, v', rfl, ⟨x, e1, rfl⟩, ⟨y, rfl⟩⟩ := hi.inv2
  refine (?_ : wpAny _ _ (binaryOp .Mult (.ref x) (.int (m : Int) y)) _ E s)
  refine fold_ fun P_ hP_ => ?_
  obtain ⟨x', vs, c, g1, g2, g3, _⟩ := he.list h1
  rw [e1] at g1; cases g1
  obtain ⟨v, rfl, ⟨t, rfl⟩⟩ := g3.inv1
  obtain ⟨n', io, N, d⟩ := he.N
  refine hP_ ?_
  refine KM.mul (vs := [.int z t]) (ns := [z]) he.F N g2 (IntsAre.cons z t IntsAre.nil) (by omega) (by omega) (by simp; omega) fun D h' F' N' l1 _ _ _ _ _ _ => ?_
  rw [Int.toNat_natCast] at N'
  exact ⟨_, pre_snoc, by simp [hl], is_new hl, HE.alloc hl io d F' N' l1 ⟨_, 0, rfl, isL_rep m⟩ trivial, ⟨h', _, rfl⟩⟩
theorem ret_bin {op : Operator} {o' : List (Nat × SO)} {m' : Nat} (h : evBin objs nx op a b = some (r, o', m')) : DBin k nm objs nx op a b r o' m' := by
  cases op with
  | Add => cases a with
    | ref i => cases b with
      | ref j =>
        have h' : addO nx objs (listO (lkN objs i)) (listO (lkN objs j)) = some (r, o', m') := h
        cases h1 : listO (lkN objs i) with
        | none => rw [h1] at h'; cases h'
        | some l => cases h2 : listO (lkN objs j) with
          | none => rw [h1, h2] at h'; cases h'
          | some m =>
            rw [h1, h2] at h'
            cases h3 : ltS l 500 with
            | false => simp only [addO, h3] at h'; cases h'
            | true => cases h4 : ltS m 500 with
              | false => simp only [addO, h3, h4] at h'; cases h'
              | true =>
                simp only [addO, h3, h4] at h'
                cases h'
                have := ltS_le h3
                have := ltS_le h4
                exact ret_addL h1 h2 (by omega)
      | _ => cases h
    | int x => cases b with
      | int y =>
        cases h
        exact D.ret fun ok ρ s Q E vs hn he hi q => by
          obtain ⟨v, v', rfl, ⟨t, rfl⟩, ⟨u, rfl⟩⟩ := hi.inv2
          exact add_int (q _ _ ⟨_, rfl⟩)
      | _ => cases h
    | _ => cases h
  | Sub => cases a with
    | int x => cases b with
      | int y =>
        cases h
        exact D.ret fun ok ρ s Q E vs hn he hi q => by
          obtain ⟨v, v', rfl, ⟨t, rfl⟩, ⟨u, rfl⟩⟩ := hi.inv2
          exact sub_int (q _ _ ⟨_, rfl⟩)
      | _ => cases h
    | _ => cases h
  | Mult => cases a with
    | ref i => cases b with
      | int y =>
        have h' : mulO nx objs (listO (lkN objs i)) (natI y) = some (r, o', m') := h
        have key : ∃ z m, listO (lkN objs i) = some [.int z] ∧ natI y = some m ∧ m ≤ 1000 ∧ r = .ref nx ∧ o' = (nx, .list (repL (.int z) m)) :: objs ∧ m' = nx + 1 := by
          generalize listO (lkN objs i) = A at h'
          generalize natI y = B at h'
          unfold mulO at h'
          split at h'
          · split at h'
            · rename_i h3
              cases h'
              exact ⟨_, _, rfl, rfl, Nat.le_of_ble_eq_true h3, rfl, rfl, rfl⟩
            · cases h'
          · cases h'
        obtain ⟨z, m, h1, h2, h3, rfl, rfl, rfl⟩ := key
        rw [natI_eq h2]
        exact ret_mulL h1 h3
      | _ => cases h
    | _ => cases h
  | _ => cases h
end
end Mine
end
section
namespace Mine
section
variable {k : EC} {nm : Str → Option SV} {objs objs' objs₁ objs₂ objs₃ : List (Nat × SO)} {nx nx' nx₁ nx₂ nx₃ n dn i j : Nat} {r a b : SV} {svs l l' : List SV} {ρ : List Addr} {s : Shared} {n' : List (Addr × Obj)} {x : Str}
theorem ret_len (h : listO (lkN objs n) = some l) (hz : l.length ≤ 1000) : D k nm objs nx [.ref n] (fun vs => call (.builtin "len") vs) Is (.int (l.length : Nat)) objs nx := D.ret fun ok ρ s Q E vs hn he hi q => by
  obtain ⟨v, rfl, ⟨y, e1, rfl⟩⟩ := hi.inv1
  obtain ⟨x', vs, c, g1, g2, g3, _⟩ := he.list h
  rw [e1] at g1; cases g1
  refine Calls.call_len_list g2 (by rw [List.size_toArray, g3.length]; omega) ?_
  rw [List.size_toArray, g3.length]
  exact q _ _ ⟨_, rfl⟩
theorem ret_listcopy (h : listO (lkN objs n) = some l) (hz : l.length ≤ 1000) : D k nm objs nx [.ref n] (fun vs => call (.type "list") vs) Is (.ref nx) ((nx, .list l) :: objs) (nx + 1) := fun ok ρ s E vs hl hn he hi => by
  refine fold_ fun P_ hP_ => ?_
  obtain ⟨v, rfl, ⟨y, e1, rfl⟩⟩ := hi.inv1
  obtain ⟨x', vs, c, g1, g2, g3, _⟩ := he.list h
  rw [e1] at g1; cases g1
  obtain ⟨n', io, N, d⟩ := he.N
  refine hP_ ?_
  exact list_copyK he.F N g2 (fun D c' h' F' N' l1 => ⟨_, pre_snoc, by simp [hl], is_new hl, HE.alloc hl io d F' N' l1 ⟨vs, c', rfl, g3.mono pre_snoc⟩ trivial, ⟨h', _, rfl⟩⟩) (szOK (by rw [List.size_toArray, g3.length]; exact hz))
theorem ret_range {m : Nat} : D k nm objs nx [.int (m : Int)] (fun vs => call (.type "range") vs) Is (.ref nx) ((nx, .rng m) :: objs) (nx + 1) := fun ok ρ s E vs hl hn he hi => by
  obtain ⟨v, rfl, ⟨t, rfl⟩⟩ := hi.inv1
  exact call_range_1 ⟨_, pre_snoc, by simp [hl], is_new hl, (HE.snoc (so := .rng m) he hl ⟨_, _, _, rfl⟩ trivial).tok, ⟨_, _, rfl⟩⟩
theorem ret_isi {C : Addr} {es : List (Str × SV)} {c : Bool} (hC : (C, c) ∈ isiTab) (h1 : objs.lookup n = some (.inst C dn)) (h2 : objs.lookup dn = some (.dict es)) : D k nm objs nx [.ref n, .con (.ref 236)] (fun vs => call (.builtin "isinstance") vs) Is (.bool c) objs nx := D.ret fun ok ρ s Q E vs hn he hi q => by
  refine fold_ fun P_ hP_ => ?_
  obtain ⟨v, v', rfl, ⟨y, e1, rfl⟩, q2⟩ := hi.inv2
  cases q2
  obtain ⟨x', d, ds, c', g1, g2, g3, g4, _⟩ := he.inst h1 h2
  rw [e1] at g1; cases g1
  have io := isiOk_all k.w _ hC
  refine hP_ ?_
  exact kia_one (kitx_own io.k4 io.k5 io.k6 io.k7 io.k8 io.k9) (ok.X.keeps he.F.keep) g3 (isiOne_all k.w _ hC) (fun e => nomatch e) fun tk => q _ tk rfl
theorem ret_append (h : objs.lookup n = some (.list l)) (hz : l.length ≤ 1000) : D k nm objs nx [.ref n, a] (fun vs => call (.builtin "list.append") vs) Is .none (setO n (.list (l ++ [a])) objs) nx := fun ok ρ s E vs hl hn he hi => by
  refine fold_ fun P_ hP_ => ?_
  obtain ⟨v, v', rfl, ⟨y, e1, rfl⟩, q2⟩ := hi.inv2
  obtain ⟨y', o, news, f1, ⟨vs, c, rfl, f2⟩, f3, f4, f5⟩ := he.change (so' := .list (l ++ [a])) h
  rw [e1] at f1; cases f1
  obtain ⟨news', u, fin⟩ := f5 (lobj (vs ++ [v']) (c + 1)) ⟨_, _, rfl, f2.append ⟨q2, trivial⟩⟩ trivial
  refine hP_ ?_
  exact m_app he.F f3 (by rw [f2.length]; omega) u fun h' F' N' => ⟨ρ, pre_refl, hl, rfl, fin _ F' N', ⟨h', _, rfl⟩⟩
theorem ret_pop0 {k : EC} {nm : Str → Option SV} {objs : List (Nat × SO)} {nx n : Nat} {a : SV} {l : List SV} {so so' : SO} (h : objs.lookup n = some so) (hb : so.base = true) (hT : ∀ ρ o, IsO k.w k.X ρ so o → ∃ vs c, o = lobj vs c ∧ IsL ρ (a :: l) vs) (hT' : ∀ ρ vs c x, IsL ρ l vs → IsO k.w k.X ρ so' (lobj vs c) ∧ TabOk so' x) (hz : l.length ≤ 900) : D k nm objs nx [.ref n, .int 0] (fun vs => call (.builtin "list.pop") vs) Is a (setO n so' objs) nx := fun ok ρ s E vs hl hn he hi => by
  refine fold_ fun P_ hP_ => ?_
  obtain ⟨v, v', rfl, ⟨y, e1, rfl⟩, ⟨t, rfl⟩⟩ := hi.inv2
  obtain ⟨y', o, news, f1, fo, f3, f4, f5⟩ := he.change (so' := so') h hb
  rw [e1] at f1; cases f1
  obtain ⟨vs, c, rfl, f2⟩ := hT _ _ fo
  obtain ⟨v, vs, rfl, f2, f6⟩ := f2.inv
  obtain ⟨news', u, fin⟩ := f5 (lobj vs (c + 1)) (hT' _ _ _ y f6).1 (hT' ρ vs 0 y f6).2
  have hlen := f6.length
  refine hP_ ?_
  exact kl_popAt (its := (v :: vs).toArray) (n := c) (p := []) (q := vs) (y := v) (k := 0) he.F f3 rfl (by simp [seqIndex?]) (by simp [kl_cut]) u (szOK (by simp; omega)) fun h' F' N' => ⟨ρ, pre_refl, hl, f2, fin _ F' N', ⟨h', _, rfl⟩⟩
theorem ret_get {es : List (Str × SV)} (h : tabO (lkN objs n) = some es) : D k nm objs nx [.ref n, .str x] (fun vs => call (.builtin "dict.get") vs) Is ((lkS es x).getD .none) objs nx := D.ret fun ok ρ s Q E vs hn he hi q => by
  refine fold_ fun P_ hP_ => ?_
  obtain ⟨v, v', rfl, ⟨z, e1, rfl⟩, ⟨t, rfl⟩⟩ := hi.inv2
  obtain ⟨d, o, kvs, news, g1, g2, g3, g4, g5, g6⟩ := he.tab h
  rw [e1] at g1; cases g1
  have q1 := g6.at (x := x)
  refine hP_ ?_
  cases hx : lkS es x with
  | none => exact kdg_get1 (knd := PySem.strKind _ _) g2 g3 g4 g5 (strKind_is _ _ _ _) none (q1.2 hx) (q _ _ (by rw [hx]; rfl))
  | some a =>
    obtain ⟨v, e, hv⟩ := q1.1 a hx
    exact kdg_get1 (knd := PySem.strKind _ _) g2 g3 g4 g5 (strKind_is _ _ _ _) (some v) e (q _ _ (by rw [hx]; exact hv))
/-- stores at an index or a key -/
theorem ret_setL (h : objs.lookup n = some (.list l)) (hi' : i < l.length) (hz : l.length ≤ 1000) : D k nm objs nx [.ref n, .int (i : Int), a] (fun vs => setItem (vs.headD .none) (vs.tail.headD .none) (vs.tail.tail.headD .none)) (fun _ (_ : Unit) (_ : Unit) => True) () (setO n (.list (l.set i a)) objs) nx := fun ok ρ s E vs hl hn he hi => by
  refine fold_ fun P_ hP_ => ?_
  obtain ⟨v, _, rfl, ⟨y, e1, rfl⟩, hi2⟩ := hi.inv
  obtain ⟨v', v'', rfl, ⟨t, rfl⟩, q2⟩ := hi2.inv2
  obtain ⟨y', o, news, f1, ⟨vs, c, rfl, f2⟩, f3, f4, f5⟩ := he.change (so' := .list (l.set i a)) h
  rw [e1] at f1; cases f1
  obtain ⟨news', u, fin⟩ := f5 (lobj (vs.set i v'') c) ⟨_, _, rfl, f2.set q2⟩ trivial
  have := f2.length
  refine hP_ ?_
  exact m_set he.F f3 (by omega) (by omega) u fun h' F' N' => ⟨ρ, pre_refl, hl, trivial, fin _ F' N', ⟨h', _, rfl⟩⟩
theorem HE.changeF {so so' : SO} (he : HE k ρ objs s) (h : objs.lookup n = some so) (hb : so.base = true := by rfl) : ∃ a o pre post, ρ[n]? = some a ∧ IsO k.w k.X ρ so o ∧ TabOk so a ∧ News k.h₀ k.L s.heap (pre ++ (a, o) :: post) ∧ (∀ q ∈ pre, q.1 ≠ a) ∧ (∀ q ∈ post, q.1 ≠ a) ∧
    ∀ o', IsO k.w k.X ρ so' o' → TabOk so' a → ∀ s' : Shared, Fr k.h₀ k.L s'.heap k.m → News k.h₀ k.L s'.heap (pre ++ (a, o') :: post) → HE k ρ (setO n so' objs) s' := by
  refine fold_ fun P_ hP_ => ?_
  obtain ⟨n', io, N, d⟩ := he.N
  obtain ⟨a, o, pre, post, e1, e2, ⟨e3, et⟩, e4⟩ := io.split h hb
  subst e2
  refine hP_ ?_
  have eL : ∀ o, k.ext ++ (pre ++ (a, o) :: post) = (k.ext ++ pre) ++ (a, o) :: post := fun o => by simp
  have dm := Dis.mid (by rw [← eL]; exact d)
  refine ⟨a, o, k.ext ++ pre, post, e1, e3, et, by rw [← eL]; exact N, dm.1, dm.2, fun o' io' ht s' F' N' => ⟨F', _, e4 ρ so' o' pre_refl io' ht, by rw [eL]; exact N', ?_⟩⟩
  have := Dis.same (o' := o') (by rw [← eL]; exact d)
  rwa [← eL] at this
theorem ret_setD {es : List (Str × SV)} (h : tabO (lkN objs n) = some es) (hx : lkS es x = none) (hz : es.length ≤ 100) : D k nm objs nx [.ref n, .str x, a] (fun vs => setItem (vs.headD .none) (vs.tail.headD .none) (vs.tail.tail.headD .none)) (fun _ (_ : Unit) (_ : Unit) => True) () (setO n (.tab (es ++ [(x, a)])) objs) nx := fun ok ρ s E vs hl hn he hi => by
  refine fold_ fun P_ hP_ => ?_
  obtain ⟨v, _, rfl, ⟨y, e1, rfl⟩, hi2⟩ := hi.inv
  obtain ⟨v', v'', rfl, ⟨t, rfl⟩, q2⟩ := hi2.inv2
  obtain ⟨y', o, pre, post, f1, ⟨kvs, hd, f2⟩, ft, f3, f4, f5, fin⟩ := he.changeF (so' := .tab (es ++ [(x, a)])) (tabO_eq h)
  rw [e1] at f1; cases f1
  refine hP_ ?_
  have hlen : ∀ {es : List (Str × SV)} {kvs : List (Str × Value)}, IsKV ρ es kvs → kvs.length = es.length ∧ IsKV ρ (es ++ [(x, a)]) (kvs ++ [(x, v'')]) := by
    intro es
    induction es with
    | nil => intro kvs h; cases kvs with
      | nil => exact ⟨rfl, rfl, q2, trivial⟩
      | cons _ _ => exact h.elim
    | cons p es ih => intro kvs h; cases kvs with
      | nil => exact h.elim
      | cons p' kvs => exact ⟨by simp [(ih h.2.2).1], h.1, h.2.1, (ih h.2.2).2⟩
  have hl2 := hlen f2
  refine kda_set (knd := PySem.strKind _ _) (g := fun o' => pre ++ (y, o') :: post) he.F f3 (UpdF.mid f4 f5) hd (strKind_is _ _ _ _) (by have := szOK (n := kvs.length) (by omega); exact this) fun h' o' F' N' hd' => ?_
  rw [stored_absent (f2.at.2 hx)] at hd'
  exact ⟨ρ, pre_refl, hl, trivial, fin o' ⟨_, hd', hl2.2⟩ ft _ F' N', ⟨h', _, rfl⟩⟩
/-- the dispatch of a call -/
theorem DE_callK {fx : Str} {px : Pos} {es : List Expr} {e : Expr} {pos : Pos} {c : Addr} (hk : keepIn (K k.w.params) (.ref c) = true) (hs : (e :: es).all noStar = true) (h1 : DE k nm objs nx (.Name fx px) (.con (.ref c)) objs₁ nx₁) (h2 : DA k nm objs₁ nx₁ pos (e :: es) l objs₂ nx₂) (h3 : D k nm objs₂ nx₂ l (fun vs => call (.ref c) vs) Is r objs₃ nx₃) :
    DE k nm objs nx (.Call (.Name fx px) (e :: es) [] pos) r objs₃ nx₃ := fun ok ρ s E vs hl hn he hi => by
  simp only [List.all_cons, Bool.and_eq_true] at hs
  refine Call_ (wpAny_mono (h1 ok ρ s E vs hl hn he hi) (fun v s₁ ⟨ρ₁, p₁, l₁, i₁, e₁, S₁⟩ => ?_) fun _ _ z => z)
  cases i₁
  refine callWith_K ok.X hk (wpAny_mono (h2 ok ρ₁ s₁ E [] l₁ (hn.mono p₁) e₁ trivial) (fun vs' s₂ ⟨ρ₂, p₂, l₂, i₂, e₂, S₂⟩ => ⟨ok.X.keeps e₂.F.keep, wpAny_mono (h3 ok ρ₂ s₂ E vs' l₂ ((hn.mono p₁).mono p₂) e₂ i₂) (fun v s₃ ⟨ρ₃, p₃, l₃, i₃, e₃, S₃⟩ => ⟨ρ₃, p₁.trans (p₂.trans p₃), l₃, i₃, e₃, S₁.trans (S₂.trans S₃)⟩) fun _ _ z => z⟩) fun _ _ z => z) (star_cons hs.1) (star_any hs.2)
theorem DE_callK0 {fx : Str} {px : Pos} {pos : Pos} {c : Addr} (hk : keepIn (K k.w.params) (.ref c) = true) (h1 : DE k nm objs nx (.Name fx px) (.con (.ref c)) objs₁ nx₁) (h3 : D k nm objs₁ nx₁ [] (fun vs => call (.ref c) vs) Is r objs₃ nx₃) :
    DE k nm objs nx (.Call (.Name fx px) [] [] pos) r objs₃ nx₃ := fun ok ρ s E vs hl hn he hi => by
  refine Call_ (wpAny_mono (h1 ok ρ s E vs hl hn he hi) (fun v s₁ ⟨ρ₁, p₁, l₁, i₁, e₁, S₁⟩ => ?_) fun _ _ z => z)
  cases i₁
  exact callWith_K0 (ok.X.keeps e₁.F.keep) hk (wpAny_mono (h3 ok ρ₁ s₁ E [] l₁ (hn.mono p₁) e₁ trivial) (fun v s₃ ⟨ρ₃, p₃, l₃, i₃, e₃, S₃⟩ => ⟨ρ₃, p₁.trans p₃, l₃, i₃, e₃, S₁.trans S₃⟩) fun _ _ z => z)
theorem DE_callB {fx : Str} {px : Pos} {es : List Expr} {e : Expr} {pos : Pos} {c : String} (hs : (e :: es).all noStar = true) (h1 : DE k nm objs nx (.Name fx px) (.con (.builtin c)) objs₁ nx₁) (h2 : DA k nm objs₁ nx₁ pos (e :: es) l objs₂ nx₂) (h3 : D k nm objs₂ nx₂ l (fun vs => call (.builtin c) vs) Is r objs₃ nx₃) :
    DE k nm objs nx (.Call (.Name fx px) (e :: es) [] pos) r objs₃ nx₃ := fun ok ρ s E vs hl hn he hi => by
  simp only [List.all_cons, Bool.and_eq_true] at hs
  refine Call_ (wpAny_mono (h1 ok ρ s E vs hl hn he hi) (fun v s₁ ⟨ρ₁, p₁, l₁, i₁, e₁, S₁⟩ => ?_) fun _ _ z => z)
  cases i₁
  exact PyProof.Rows.callWith_builtin1 (wpAny_mono (h2 ok ρ₁ s₁ E [] l₁ (hn.mono p₁) e₁ trivial) (fun vs' s₂ ⟨ρ₂, p₂, l₂, i₂, e₂, S₂⟩ => wpAny_mono (h3 ok ρ₂ s₂ E vs' l₂ ((hn.mono p₁).mono p₂) e₂ i₂) (fun v s₃ ⟨ρ₃, p₃, l₃, i₃, e₃, S₃⟩ => ⟨ρ₃, p₁.trans (p₂.trans p₃), l₃, i₃, e₃, S₁.trans (S₂.trans S₃)⟩) fun _ _ z => z) fun _ _ z => z) (star_cons hs.1) (star_any hs.2)
theorem DE_callT {fx : Str} {px : Pos} {es : List Expr} {e : Expr} {pos : Pos} {c : String} (hs : (e :: es).all noStar = true) (h1 : DE k nm objs nx (.Name fx px) (.con (.type c)) objs₁ nx₁) (h2 : DA k nm objs₁ nx₁ pos (e :: es) l objs₂ nx₂) (h3 : D k nm objs₂ nx₂ l (fun vs => call (.type c) vs) Is r objs₃ nx₃) :
    DE k nm objs nx (.Call (.Name fx px) (e :: es) [] pos) r objs₃ nx₃ := fun ok ρ s E vs hl hn he hi => by
  simp only [List.all_cons, Bool.and_eq_true] at hs
  refine Call_ (wpAny_mono (h1 ok ρ s E vs hl hn he hi) (fun v s₁ ⟨ρ₁, p₁, l₁, i₁, e₁, S₁⟩ => ?_) fun _ _ z => z)
  cases i₁
  exact PyProof.Rows.callWith_type1 (wpAny_mono (h2 ok ρ₁ s₁ E [] l₁ (hn.mono p₁) e₁ trivial) (fun vs' s₂ ⟨ρ₂, p₂, l₂, i₂, e₂, S₂⟩ => wpAny_mono (h3 ok ρ₂ s₂ E vs' l₂ ((hn.mono p₁).mono p₂) e₂ i₂) (fun v s₃ ⟨ρ₃, p₃, l₃, i₃, e₃, S₃⟩ => ⟨ρ₃, p₁.trans (p₂.trans p₃), l₃, i₃, e₃, S₁.trans (S₂.trans S₃)⟩) fun _ _ z => z) fun _ _ z => z) (star_cons hs.1) (star_any hs.2)
/-- a method of a list or of a dict -/
theorem ret_methL {name : Str} {id : String} (slot : Slot "list" name id) (hty : typeOf (.builtin id) = pure (.type "method_descriptor")) (h : objs.lookup n = some (.list l)) : ∀ (ok : k.Ok) ρ s (E : (Value × List Value) → Shared → Prop) (E' : Value → Shared → Prop) (pl : Sem Bool) (v : Value), HE k ρ objs s → Is ρ (.ref n) v → E (.builtin id, [v]) s → wpAny (model prg k.w) k.A (getMethod v name pl) E E' s := by
  intro ok ρ s Q E pl v he ⟨y, e1, q1⟩ q
  refine fold_ fun P_ hP_ => ?_
  subst q1
  obtain ⟨n', io, N, d⟩ := he.N
  obtain ⟨x', o, g1, g2, vs, c, rfl, g3⟩ := io.find h
  rw [e1] at g1; cases g1
  refine hP_ ?_
  exact kl_method N (List.mem_append_right _ g2) slot hty q
noncomputable def plOf (o : Expr) (env : Env) : Sem Bool := do return (← importBound o env).getD true
theorem mpos {few : Bool} {o : Expr} {env : Env} {apos pos : Pos} (hp : (apos.endLine == pos.line) = true) : methodCallPos few o env apos pos = pure pos := by
  unfold methodCallPos
  rw [hp, Bool.or_true]
  rfl
theorem abase {o : Expr} {name : Str} {env : Env} (hb : attrBase o = true) {t : Sem Value} : attributeBase o name env t = t := by
  cases o <;> first | rfl | cases hb
theorem meth_eq {o : Expr} {name : Str} {apos pos : Pos} {e : Expr} {env : Env} (hb : attrBase o = true) (hs : noStar e = true) (hp : (apos.endLine == pos.line) = true) : eval (.Call (.Attribute o name apos) [e] [] pos) env = (do
    let ov ← eval o env
    standAt apos.atName
    let (f, first) ← holding [ov] (getMethod ov name (plOf o env))
    callWith pos f first (backTo pos (starEach [e] env)) []) := by
  rw [arm_eval_Call, abase hb]
  unfold methodCall
  simp only [mpos hp]
  have hf : methodCallForm ([e].length + ([] : List Keyword).length) (backTo pos (starEach [e] env)) (backToKw pos (keywordEach [] env)) = true := by
    rw [star_cons hs]; rfl
  rw [hf]
  rfl
theorem DE_meth {o : Expr} {name : Str} {apos pos : Pos} {e : Expr} {id : String} (hb : attrBase o = true) (hs : noStar e = true) (hp : (apos.endLine == pos.line) = true) (h1 : DE k nm objs nx o (.ref n) objs₁ nx₁)
    (hm : ∀ (ok : k.Ok) ρ s (Q : (Value × List Value) → Shared → Prop) (E : Value → Shared → Prop) (pl : Sem Bool) (v : Value), HE k ρ objs₁ s → Is ρ (.ref n) v → Q (.builtin id, [v]) s → wpAny (model prg k.w) k.A (getMethod v name pl) Q E s)
    (h2 : DA k nm objs₁ nx₁ pos [e] l objs₂ nx₂) (h3 : D k nm objs₂ nx₂ (.ref n :: l) (fun vs => call (.builtin id) vs) Is r objs₃ nx₃) : DE k nm objs nx (.Call (.Attribute o name apos) [e] [] pos) r objs₃ nx₃ := fun ok ρ s E vs hl hn he hi => by
  refine MethodCall_ (pl := plOf o k.env) (wpAny_mono (h1 ok ρ s E vs hl hn he hi) (fun v s₁ ⟨ρ₁, p₁, l₁, i₁, e₁, S₁⟩ => hm ok ρ₁ s₁ _ _ _ v e₁ i₁ ?_) fun _ _ z => z) (meth_eq hb hs hp)
  refine callWith_method1 (wpAny_mono (h2 ok ρ₁ s₁ E [] l₁ (hn.mono p₁) e₁ trivial) (fun vs' s₂ ⟨ρ₂, p₂, l₂, i₂, e₂, S₂⟩ => wpAny_mono (h3 ok ρ₂ s₂ E (v :: vs') l₂ ((hn.mono p₁).mono p₂) e₂ ⟨i₁.mono p₂, i₂⟩) (fun v s₃ ⟨ρ₃, p₃, l₃, i₃, e₃, S₃⟩ => ⟨ρ₃, p₁.trans (p₂.trans p₃), l₃, i₃, e₃, S₁.trans (S₂.trans S₃)⟩) fun _ _ z => z) fun _ _ z => z) (star_cons hs) rfl
theorem ret_methT {es : List (Str × SV)} (h : tabO (lkN objs n) = some es) : ∀ (ok : k.Ok) ρ s (E : (Value × List Value) → Shared → Prop) (E' : Value → Shared → Prop) (pl : Sem Bool) (v : Value), HE k ρ objs s → Is ρ (.ref n) v → E (.builtin "dict.get", [v]) s → wpAny (model prg k.w) k.A (getMethod v "get" pl) E E' s := by
  intro ok ρ s Q E pl v he ⟨z, e1, q1⟩ q
  refine fold_ fun P_ hP_ => ?_
  subst q1
  obtain ⟨d, o, kvs, news, g1, g2, g3, g4, g5, g6⟩ := he.tab h
  rw [e1] at g1; cases g1
  refine hP_ ?_
  exact kdg_method (knd := PySem.strKind _ _) g2 g3 g4 q
theorem meth_eq0 {o : Expr} {name : Str} {apos pos : Pos} {env : Env} (hb : attrBase o = true) (hp : (apos.endLine == pos.line) = true) : eval (.Call (.Attribute o name apos) [] [] pos) env = (do
    let ov ← eval o env
    standAt apos.atName
    let (f, first) ← holding [ov] (getMethod ov name (plOf o env))
    callWith pos f first (backTo pos (starEach [] env)) []) := by
  rw [arm_eval_Call, abase hb]
  unfold methodCall
  simp only [mpos hp]
  rfl
/-- a method of an object of our own -/
noncomputable def DMethC (k : EC) (nm : Str → Option SV) (objs₁ : List (Nat × SO)) (n : Nat) (name : Str) (g : Addr) : Prop :=
  ∀ (ok : k.Ok) ρ s (Q : (Value × List Value) → Shared → Prop) (E : Value → Shared → Prop) (pl : Sem Bool) (v : Value), HE k ρ objs₁ s → Is ρ (.ref n) v → Q (.ref g, [v]) s → wpAny (model prg k.w) k.A (getMethod v name pl) Q E s
theorem ret_methC {C g : Addr} {es : List (Str × SV)} (hc : clsTab.contains C = true) (hm : (C, x, g) ∈ methTab) (h1 : objs.lookup n = some (.inst C dn)) (h2 : objs.lookup dn = some (.dict es)) (h3 : es.lookup x = none) : DMethC k nm objs n x g := by
  intro ok ρ s Q E pl v he ⟨z, e1, q1⟩ q
  refine fold_ fun P_ hP_ => ?_
  subst q1
  obtain ⟨xa, d, ds, c, g1, g2, g3, g4, _⟩ := he.inst h1 h2
  rw [e1] at g1; cases g1
  have co := clsOk_all k.w C (by simpa using hc)
  have mo := methOk_all k.w _ hm
  refine hP_ ?_
  exact method_inst he.F ok.X g3 (co.pg x) mo.fi mo.fn ((g4.getL (x := x)).2 h3) q
theorem DE_methC1 {o : Expr} {name : Str} {apos pos : Pos} {e : Expr} {g : Addr} (hk : keepIn (K k.w.params) (.ref g) = true) (hb : attrBase o = true) (hs : noStar e = true) (hp : (apos.endLine == pos.line) = true) (h1 : DE k nm objs nx o (.ref n) objs₁ nx₁) (hm : DMethC k nm objs₁ n name g)
    (h2 : DA k nm objs₁ nx₁ pos [e] l objs₂ nx₂) (h3 : D k nm objs₂ nx₂ (.ref n :: l) (fun vs => call (.ref g) vs) Is r objs₃ nx₃) : DE k nm objs nx (.Call (.Attribute o name apos) [e] [] pos) r objs₃ nx₃ := fun ok ρ s E vs hl hn he hi => by
  refine MethodCall_ (pl := plOf o k.env) (wpAny_mono (h1 ok ρ s E vs hl hn he hi) (fun v s₁ ⟨ρ₁, p₁, l₁, i₁, e₁, S₁⟩ => hm ok ρ₁ s₁ _ _ _ v e₁ i₁ ?_) fun _ _ z => z) (meth_eq hb hs hp)
  exact callWith_K ok.X hk (wpAny_mono (h2 ok ρ₁ s₁ E [] l₁ (hn.mono p₁) e₁ trivial) (fun vs' s₂ ⟨ρ₂, p₂, l₂, i₂, e₂, S₂⟩ => ⟨ok.X.keeps e₂.F.keep, wpAny_mono (h3 ok ρ₂ s₂ E (v :: vs') l₂ ((hn.mono p₁).mono p₂) e₂ ⟨i₁.mono p₂, i₂⟩) (fun v s₃ ⟨ρ₃, p₃, l₃, i₃, e₃, S₃⟩ => ⟨ρ₃, p₁.trans (p₂.trans p₃), l₃, i₃, e₃, S₁.trans (S₂.trans S₃)⟩) fun _ _ z => z⟩) fun _ _ z => z) (star_cons hs) rfl
theorem DE_methC0 {o : Expr} {name : Str} {apos pos : Pos} {g : Addr} (hk : keepIn (K k.w.params) (.ref g) = true) (hb : attrBase o = true) (hp : (apos.endLine == pos.line) = true) (h1 : DE k nm objs nx o (.ref n) objs₁ nx₁) (hm : DMethC k nm objs₁ n name g)
    (h3 : D k nm objs₁ nx₁ [.ref n] (fun vs => call (.ref g) vs) Is r objs₃ nx₃) : DE k nm objs nx (.Call (.Attribute o name apos) [] [] pos) r objs₃ nx₃ := fun ok ρ s E vs hl hn he hi => by
  refine MethodCall_ (pl := plOf o k.env) (wpAny_mono (h1 ok ρ s E vs hl hn he hi) (fun v s₁ ⟨ρ₁, p₁, l₁, i₁, e₁, S₁⟩ => hm ok ρ₁ s₁ _ _ _ v e₁ i₁ ?_) fun _ _ z => z) (meth_eq0 hb hp)
  exact callWith_K0 (ok.X.keeps e₁.F.keep) hk (wpAny_mono (h3 ok ρ₁ s₁ E [v] l₁ (hn.mono p₁) e₁ ⟨i₁, trivial⟩) (fun v s₃ ⟨ρ₃, p₃, l₃, i₃, e₃, S₃⟩ => ⟨ρ₃, p₁.trans p₃, l₃, i₃, e₃, S₁.trans S₃⟩) fun _ _ z => z)
end
end Mine
end
section
namespace Mine
section
variable {k : EC} {nm : Str → Option SV} {objs objs' objs₁ objs₂ objs₃ : List (Nat × SO)} {nx nx' nx₁ nx₂ nx₃ n dn i j : Nat} {r a b : SV} {svs l l' : List SV} {ρ : List Addr} {s : Shared} {n' : List (Addr × Obj)} {x : Str}
theorem ret_fn {q : FnS} {bs : List (Str × SV)} {f : SF} {st' : St} (fo : FnOk k.w q) (hlc : cellsOk q = true) (hb : 0 < k.b) (hbs : bindS q svs = some bs) (h : ∀ k' : EC, k'.w = k.w → k'.b = k.b - 1 → k'.X = k.X → (∀ b o, k.h₀.get? b = some o → k'.h₀.get? b = some o) → DS q k' ⟨bs.reverse, objs, nx⟩ (execs q.body k'.env) f st') :
    D k nm objs nx svs (fun vs => call (.ref q.f) vs) Is f.val st'.objs st'.nx := fun ok ρ s E vs hl hn he hi =>
  wpAny_call (fn_code ok.hh ok.fr ok.gd (Nat.le_succ _) (Nat.le_succ _) ok fo hb hbs hlc h hl he hi fun v ρ' s' p l i he' S => ⟨ρ', p, l, i, he', S⟩)
theorem ret_make {q : FnS} {C : Addr} {bs : List (Str × SV)} {st' : St} (hC : clsTab.contains C = true) (hi0 : findIn (K k.w.params) (.ref C) "__init__" = some (some (.ref q.f))) (hf0 : isFn (K k.w.params) (.ref q.f) = true) (fo : FnOk k.w q) (hlc : cellsOk q = true) (hb : 0 < k.b) (hbs : bindS q (.ref (nx + 1) :: svs) = some bs)
    (h : ∀ k' : EC, k'.w = k.w → k'.b = k.b - 1 → k'.X = k.X → (∀ b o, k.h₀.get? b = some o → k'.h₀.get? b = some o) → DS q k' ⟨bs.reverse, (nx + 1, .inst C nx) :: (nx, .dict []) :: objs, nx + 2⟩ (execs q.body k'.env) .next st') :
    D k nm objs nx svs (fun vs => call (.ref C) vs) Is (.ref (nx + 1)) st'.objs st'.nx := fun ok ρ s E vs hl hn he hi => by
  have co := clsOk_all k.w C (by simpa using hC)
  obtain ⟨n', io, N, d⟩ := he.N
  refine call_cls he.F ok.X N co.mk_ hi0 hf0 fun x dx h' F' N' l1 l2 => ?_
  have he1 : HE k (ρ ++ [dx]) ((nx, .dict []) :: objs) { s with heap := h' } := HE.alloc hl io d F' (fun p hp => N' p (.tail _ hp)) l1 ⟨[], 0, rfl, trivial⟩ trivial
  obtain ⟨n₁, io₁, N₁, d₁⟩ := he1.N
  have hl1 : (ρ ++ [dx]).length = nx + 1 := by simp [hl]
  have io₁' : IsObjs k.w k.X (ρ ++ [dx]) ((nx, .dict []) :: objs) ((dx, dictOf [] 0) :: n') := .cons (by rw [← hl]; simp) ⟨⟨[], 0, rfl, trivial⟩, trivial⟩ (io.mono pre_snoc)
  have d₁' : Dis (k.ext ++ (dx, dictOf [] 0) :: n') := by
    have d' := dis_app.mp d
    exact dis_app.mpr ⟨d'.1, ⟨neAll_iff.mpr fun q hq => Nat.ne_of_lt (l1 q (List.mem_append_right _ hq)), d'.2.1⟩, apart_iff.mpr fun q hq => ⟨Nat.ne_of_lt (l1 q (List.mem_append_left _ hq)), apart_iff.mp d'.2.2 q hq⟩⟩
  have he2 : HE k ((ρ ++ [dx]) ++ [x]) ((nx + 1, .inst C nx) :: (nx, .dict []) :: objs) { s with heap := h' } := by
    refine HE.alloc hl1 io₁' d₁' F' (fun p hp => N' p ?_) (fun p hp => ?_) ⟨dx, ?_, rfl⟩ trivial
    · rcases List.mem_cons.mp hp with rfl | hp
      · exact .head _
      · rcases List.mem_append.mp hp with h | h
        · exact .tail _ (.tail _ (List.mem_append_left _ h))
        · rcases List.mem_cons.mp h with rfl | h
          · exact .tail _ (.head _)
          · exact .tail _ (.tail _ (List.mem_append_right _ h))
    · rcases List.mem_append.mp hp with h | h
      · exact Nat.lt_trans (l1 p (List.mem_append_left _ h)) l2
      · rcases List.mem_cons.mp h with rfl | h
        · exact l2
        · exact Nat.lt_trans (l1 p (List.mem_append_right _ h)) l2
    · rw [List.getElem?_append_left (by rw [hl1]; omega), ← hl]; simp
  have p2 : ρ <+: (ρ ++ [dx]) ++ [x] := pre_snoc.trans pre_snoc
  have hx : Is ((ρ ++ [dx]) ++ [x]) (.ref (nx + 1)) (.ref x) := ⟨x, by rw [← hl1]; simp, rfl⟩
  refine fn_code (A' := k.A.under (.builtin "type.__call__" ⟨.ref C :: vs, []⟩)) ok.hh ok.fr (by exact ok.gd) (Nat.le_refl _) (Nat.le_refl _) ok fo hb hbs hlc h (by simp [hl]) he2 ⟨hx, hi.mono p2⟩ fun v ρ' s' p l i he' S => ?_
  refine ⟨i, ρ', p2.trans p, l, hx.mono p, he', ?_⟩
  obtain ⟨h'', t, e⟩ := S
  exact ⟨h'', t, by rw [e]⟩
end
end Mine
end
section
namespace Mine
section
variable {q : FnS} {k : EC} {st st' st'' : St} {f : SF} {a b : SV} {objs' objs₁ objs₂ : List (Nat × SO)} {nx' nx₁ nx₂ n : Nat}
/-- a test in the frame -/
noncomputable def DTX (q : FnS) (k : EC) (st : St) (e : Expr) (c : Bool) (objs' : List (Nat × SO)) (nx' : Nat) : Prop := ∀ m ext, D (k.at m ext) (nmOf q st.σ) st.objs st.nx [] (fun _ => PySem.isTrue e k.env (eval e k.env)) IsT c objs' nx'
theorem DTX.run {e : Expr} {c : Bool} (h : DTX q k st e c objs' nx') (ok : k.Ok) (fr : Frm q k) {ρ : List Addr} {s : Shared} {E : Value → Shared → Prop} (hl : ρ.length = st.nx) (hs : HS q k ρ st.σ st.objs s) :
    wpAny (model prg k.w) k.A (PySem.isTrue e k.env (eval e k.env)) (fun v s' => ∃ ρ', ρ <+: ρ' ∧ ρ'.length = nx' ∧ v = c ∧ HS q k ρ' st.σ objs' s' ∧ Same s s') E s := by
  obtain ⟨m, ext, h1, h2, h3⟩ := hs
  exact wpAny_mono (h m (ext ++ k.raw) (ok.at m _) ρ s E [] hl (names_fn ok fr h1 h2) h3 trivial) (fun v s' ⟨ρ', p, l, i, he, S⟩ => ⟨ρ', p, l, i, HS.mono p h1 h2 he, S⟩) fun _ _ z => z
theorem DS_if {e : Expr} {body orelse : List Stmt} {pos : Pos} {c : Bool} (h1 : DTX q k st e c objs₁ nx₁) (h2 : DS q k ⟨st.σ, objs₁, nx₁⟩ (execs (if c then body else orelse) k.env) f st') : DS q k st (exec (.If e body orelse pos) k.env) f st' := fun ok fr ρ s E hl hs =>
  wpAny_If (wpAny_mono (h1.run ok fr hl hs) (fun v s' ⟨ρ', p, l, i, hs', S⟩ => by
    subst i
    have h3 := wpAny_mono (h2 ok fr ρ' s' E l hs') (fun fl s'' ⟨ρ₂, p₂, l₂, i₂, hs₂, S₂⟩ => (⟨ρ₂, p.trans p₂, l₂, i₂, hs₂, S.trans S₂⟩ : ∃ ρ', ρ <+: ρ' ∧ ρ'.length = st'.nx ∧ IsF ρ' f fl ∧ HS q k ρ' st'.σ st'.objs s'' ∧ Same s s'')) fun _ _ z => z
    cases v with
    | true => exact h3
    | false => exact h3) fun _ _ z => z)
theorem DS_attr {e o : Expr} {x : Str} {p' pos : Pos} (hn : noSwap e = true) (h1 : DX q k st e a objs₁ nx₁) (h2 : DX q k ⟨st.σ, objs₁, nx₁⟩ o b objs₂ nx₂)
    (h3 : ∀ m ext nm, D (k.at m ext) nm objs₂ nx₂ [b, a] (fun vs => setAttr (vs.headD .none) x (vs.tail.headD .none)) (fun _ (_ : Unit) (_ : Unit) => True) () objs' nx') : DS q k st (exec (.Assign [.Attribute o x p'] e pos) k.env) .next ⟨st.σ, objs', nx'⟩ := fun ok fr ρ s E hl hs =>
  plainObj_wpAny_Assign_Attribute (wpAny_mono (h1.run ok fr hl hs) (fun v s₁ ⟨ρ₁, p₁, l₁, i₁, hs₁, S₁⟩ => wpAny_mono (h2.run ok fr l₁ hs₁) (fun v₂ s₂ ⟨ρ₂, p₂, l₂, i₂, hs₂, S₂⟩ => by
    obtain ⟨m, ext, g1, g2, g3⟩ := hs₂
    exact wpAny_mono (h3 m (ext ++ k.raw) (nmOf q st.σ) (ok.at m _) ρ₂ s₂ E [v₂, v] l₂ (names_fn ok fr g1 g2) g3 ⟨i₂, i₁.mono p₂, trivial⟩) (fun _ s₃ ⟨ρ₃, p₃, l₃, _, he, S₃⟩ => ⟨ρ₃, p₁.trans (p₂.trans p₃), l₃, rfl, HS.mono p₃ g1 g2 he, S₁.trans (S₂.trans S₃)⟩) fun _ _ z => z) fun _ _ z => z) fun _ _ z => z) (swaps_of hn)
theorem DS_returnN {pos : Pos} : DS q k st (exec (.Return none pos) k.env) (.ret .none) st := fun ok fr ρ s E hl hs => wpAny_Return_none ⟨ρ, pre_refl, hl, ⟨_, rfl, rfl⟩, hs, Same.refl⟩
end
end Mine
end
section
namespace Mine
noncomputable def freeStep (cells : List (Str × Addr)) (p : Str × NameKind) (acc : List (Str × Addr)) : Option (List (Str × Addr)) :=
  if p.2 == .free then (cells.lookup p.1).map fun c => (p.1, c) :: acc else some acc
noncomputable def freeCl (cells : List (Str × Addr)) : List (Str × NameKind) → List (Str × Addr) → Option (List (Str × Addr))
  | [], acc => some acc
  | p :: r, acc => (freeStep cells p acc).bind fun acc' => freeCl cells r acc'
theorem forIn_free {cells : List (Str × Addr)} (f : Str × NameKind → List (Str × Addr) → Sem (ForInStep (List (Str × Addr)))) (hf : ∀ p acc acc', freeStep cells p acc = some acc' → f p acc = pure (.yield acc')) :
    ∀ (names : List (Str × NameKind)) (acc cl : List (Str × Addr)), freeCl cells names acc = some cl → forIn names acc f = (pure cl : Sem _)
  | [], acc, cl, h => by cases h; rfl
  | p :: r, acc, cl, h => by
    unfold freeCl at h
    refine fold_ fun P_ hP_ => ?_
    obtain ⟨acc', h1, h2⟩ := Option.bind_eq_some_iff.mp h
    refine hP_ ?_
    rw [List.forIn_cons, hf p acc acc' h1]
    exact forIn_free f hf r acc' cl h2
theorem closure_of {scope : Scope} {env : Env} {cl : List (Str × Addr)} (h : freeCl env.cells scope.names [] = some cl) : closureFor scope env = pure cl := by
  unfold closureFor
  simp only []
  rw [forIn_free (cells := env.cells) _ ?_ _ _ _ h]
  · rfl
  · rintro ⟨x, kd⟩ acc acc' h
    unfold freeStep at h
    simp only at h ⊢
    split at h
    · rename_i hk
      rw [if_pos hk]
      obtain ⟨c, h1, rfl⟩ := Option.map_eq_some_iff.mp h
      have : cellOf env x = pure c := by unfold cellOf; rw [h1]
      rw [this]
      rfl
    · rename_i hk
      rw [if_neg hk]
      cases h
      rfl
theorem freeCl_sub {cells : List (Str × Addr)} : ∀ {names : List (Str × NameKind)} {acc cl : List (Str × Addr)}, freeCl cells names acc = some cl → (∀ p ∈ acc, cells.lookup p.1 = some p.2) → (∀ p ∈ cl, cells.lookup p.1 = some p.2) ∧ (∀ p ∈ acc, p ∈ cl) ∧ ∀ x, (x, NameKind.free) ∈ names → ∃ c, (x, c) ∈ cl
  | [], acc, cl, h, ha => by cases h; exact ⟨ha, fun _ h => h, fun x hx => nomatch hx⟩
  | p :: r, acc, cl, h, ha => by
    unfold freeCl at h
    obtain ⟨acc', h1, h2⟩ := Option.bind_eq_some_iff.mp h
    unfold freeStep at h1
    split at h1
    · rename_i hk
      obtain ⟨c, h3, rfl⟩ := Option.map_eq_some_iff.mp h1
      obtain ⟨g1, g2, g3⟩ := freeCl_sub h2 (fun q hq => by rcases List.mem_cons.mp hq with rfl | hq; exact h3; exact ha q hq)
      refine ⟨g1, fun q hq => g2 q (.tail _ hq), fun x hx => ?_⟩
      rcases List.mem_cons.mp hx with e | hx
      · subst e; exact ⟨c, g2 _ (.head _)⟩
      · exact g3 x hx
    · rename_i hk
      cases h1
      obtain ⟨g1, g2, g3⟩ := freeCl_sub h2 ha
      refine ⟨g1, g2, fun x hx => ?_⟩
      rcases List.mem_cons.mp hx with e | hx
      · subst e; exact absurd rfl hk
      · exact g3 x hx
theorem lookup_mem {β : Type} : ∀ {l : List (Str × β)} {x : Str} {c : β}, l.lookup x = some c → (x, c) ∈ l
  | p :: r, x, c, h => by
    rw [List.lookup_cons] at h
    by_cases e : (x == p.1) = true
    · rw [e] at h
      cases h
      have : x = p.1 := by simpa using e
      subst this; exact .head _
    · have e' : (x == p.1) = false := by simpa using e
      rw [e'] at h
      exact .tail _ (lookup_mem h)
  | [], _, _, h => nomatch h
theorem lookup_isSome {β : Type} : ∀ {l : List (Str × β)} {x : Str} {c : β}, (x, c) ∈ l → ∃ c', l.lookup x = some c'
  | p :: r, x, c, h => by
    rw [List.lookup_cons]
    by_cases e : (x == p.1) = true
    · rw [e]; exact ⟨_, rfl⟩
    · have e' : (x == p.1) = false := by simpa using e
      rw [e']
      rcases List.mem_cons.mp h with h | h
      · subst h; simp at e
      · exact lookup_isSome h
  | [], _, _, h => nomatch h
theorem lookup_relabel {env : Env} {kd : NameKind} (hk : kd ≠ .free) : ∀ {names : List (Str × NameKind)} {x : Str}, names.lookup x = some kd →
    (names.map fun (n, k) => if (k == NameKind.free && env.scope.kind == .function && env.kindOf n == some .cell) then (n, NameKind.cell) else (n, k)).lookup x = some kd
  | (n, k) :: r, x, h => by
    rw [List.lookup_cons] at h
    rw [List.map_cons, List.lookup_cons]
    by_cases e : (x == n) = true
    · rw [e] at h
      cases h
      have : (kd == NameKind.free) = false := by simpa using hk
      simp only [this, Bool.false_and, Bool.false_eq_true, if_false, e]
    · have e' : (x == n) = false := by simpa using e
      rw [e'] at h
      have h1 : ((if (k == NameKind.free && env.scope.kind == .function && env.kindOf n == some .cell) = true then (n, NameKind.cell) else (n, k)) : Str × NameKind).1 = n := by split <;> rfl
      rw [h1, e']
      exact lookup_relabel hk h
  | [], _, h => nomatch h
theorem lookup_relabel_free {env : Env} : ∀ {names : List (Str × NameKind)} {x : Str}, names.lookup x = some .free →
    (names.map fun (n, k) => if (k == NameKind.free && env.scope.kind == .function && env.kindOf n == some .cell) then (n, NameKind.cell) else (n, k)).lookup x = some .cell ∨
    (names.map fun (n, k) => if (k == NameKind.free && env.scope.kind == .function && env.kindOf n == some .cell) then (n, NameKind.cell) else (n, k)).lookup x = some .free
  | (n, k) :: r, x, h => by
    rw [List.lookup_cons] at h
    rw [List.map_cons, List.lookup_cons]
    by_cases e : (x == n) = true
    · rw [e] at h
      cases h
      by_cases hh : (NameKind.free == NameKind.free && env.scope.kind == .function && env.kindOf n == some .cell) = true
      · left; simp only [hh, if_true, e]
      · right
        have hh' : (NameKind.free == NameKind.free && env.scope.kind == .function && env.kindOf n == some .cell) = false := by simpa using hh
        simp only [hh', Bool.false_eq_true, if_false, e]
    · have e' : (x == n) = false := by simpa using e
      rw [e'] at h
      have h1 : ((if (k == NameKind.free && env.scope.kind == .function && env.kindOf n == some .cell) = true then (n, NameKind.cell) else (n, k)) : Str × NameKind).1 = n := by split <;> rfl
      rw [h1, e']
      exact lookup_relabel_free h
  | [], _, h => nomatch h
theorem freeCl_mem {cells : List (Str × Addr)} : ∀ {names : List (Str × NameKind)} {acc cl : List (Str × Addr)}, freeCl cells names acc = some cl → ∀ p ∈ cl, p ∈ acc ∨ (p.1, NameKind.free) ∈ names
  | [], acc, cl, h, p, hp => by cases h; exact .inl hp
  | q :: r, acc, cl, h, p, hp => by
    unfold freeCl at h
    obtain ⟨acc', h1, h2⟩ := Option.bind_eq_some_iff.mp h
    unfold freeStep at h1
    split at h1
    · rename_i hk
      obtain ⟨c, h3, rfl⟩ := Option.map_eq_some_iff.mp h1
      rcases freeCl_mem h2 p hp with h | h
      · rcases List.mem_cons.mp h with rfl | h
        · right
          have : q.2 = NameKind.free := by simpa using hk
          rw [← this]; exact .head _
        · exact .inl h
      · exact .inr (.tail _ h)
    · cases h1
      rcases freeCl_mem h2 p hp with h | h
      · exact .inl h
      · exact .inr (.tail _ h)
noncomputable def freeOk (scope : Scope) : Bool := scope.names.all fun p => p.2 != .free || scope.names.lookup p.1 == some .free
end Mine
end
section
namespace Mine
noncomputable def EC.blk (k : EC) (env : Env) (ext : List (Addr × Obj)) : EC := { k with env := env, ext := ext }
theorem EC.Ok.blk {k : EC} (h : k.Ok) (env : Env) (ext : List (Addr × Obj)) : (k.blk env ext).Ok := ⟨h.hh, h.fr, h.gd, h.ff, h.fk, h.B, h.X, h.T, h.dep, h.uni⟩
noncomputable def cdict : Str := Str.ofString "__classdict__"
noncomputable def blkNm (nm : Str → Option SV) (scope : Scope) (vars : List (Str × SV)) (x : Str) : Option SV := if x == dbg || x == cdict then none else match scope.names.lookup x with
  | some .local => vars.lookup x
  | some .free => nm x
  | some .globalImplicit => globS x
  | _ => none
theorem names_block {k : EC} {nm : Str → Option SV} {ρ : List Addr} {scope : Scope} {cl : List (Str × Addr)} {C : Addr} {oC : Obj} {m₂ : Str → Option Value} {vars : List (Str × SV)} {ext : List (Addr × Obj)} (ok : k.Ok) (hn : Names k ρ nm)
    (hcl : freeCl k.env.cells scope.names [] = some cl) (hsk : scope.kind = .function) (hfo : freeOk scope = true) (hg : k.env.globals = mainGlobals) (hb : k.env.builtins = builtinsNs) (hC : LCg.NsObj oC m₂) (hm : (C, oC) ∈ ext) (hsub : ∀ p ∈ k.ext, p ∈ ext) (hv : ∀ x a, vars.lookup x = some a → ∃ v, m₂ x = some v ∧ Is ρ a v) :
    Names (k.blk (compEnvC scope cl C k.env) ext) ρ (blkNm nm scope vars) := by
  have fs := freeCl_sub hcl (fun _ h => by cases h)
  have cap : ∀ x sv, scope.names.lookup x = some .free → nm x = some sv → ∃ c o v, cl.lookup x = some c ∧ (c, o) ∈ ext ∧ o.data = .cell (some v) ∧ Is ρ sv v := by
    intro x sv hx hnx
    refine fold_ fun P_ hP_ => ?_
    obtain ⟨c, hc⟩ := fs.2.2 x (lookup_mem hx)
    obtain ⟨c', hc'⟩ := lookup_isSome hc
    have := fs.1 _ (lookup_mem hc')
    obtain ⟨o, v, g1, g2, g3⟩ := hn.cp x sv c' hnx this
    refine hP_ ?_
    exact ⟨c', o, v, hc', hsub _ g1, g2, g3⟩
  refine ⟨fun x sv hx pos s Q E F N h => ?_, fun x sv c hx hc => ?_⟩
  · unfold blkNm at hx
    split at hx
    · cases hx
    rename_i hd
    have hd' : (x == dbg) = false ∧ (x == cdict) = false := by simpa using hd
    refine (?_ : wpAny _ _ (eval (.Name x pos) (compEnvC scope cl C k.env)) Q E s)
    split at hx
    · rename_i e
      obtain ⟨v, e1, e2⟩ := hv x sv hx
      exact LCgL.ld_own N hm hC e1 (h v e2) hsk (lookup_relabel (by simp) e) hd'.1
    · rename_i e
      obtain ⟨c, o, v, g1, g2, g3, g4⟩ := cap x sv e hx
      rcases lookup_relabel_free (env := k.env) e with e' | e'
      · exact lcf_cell N g1 g2 g3 (h v g4) hsk e' hd'.1
      · exact lcf_free N g1 g2 g3 (h v g4) hsk e' hd'.1 hd'.2
    · rename_i e
      unfold globS at hx
      split at hx
      · rename_i a g
        cases hx
        obtain ⟨v, rfl, g2⟩ := lookT_mem g
        exact LCgL.ld_global F ok.X ok.T (glOk k.w _ g2) (h v rfl) hg hsk (lookup_relabel (by simp) e) hd'.1
      · obtain ⟨v, rfl, g2⟩ := lookB_mem hx
        have := blOk k.w _ g2
        exact LCgL.ld_built F ok.X ok.T this.1 this.2.1 this.2.2 (h _ rfl) hg hb hsk (lookup_relabel (by simp) e) hd'.1
    · cases hx
  · unfold blkNm at hx
    split at hx
    · cases hx
    have hc' : cl.lookup x = some c := hc
    have hfx : scope.names.lookup x = some .free := by
      rcases freeCl_mem hcl _ (lookup_mem hc') with h | h
      · cases h
      · simpa using List.all_eq_true.mp hfo _ h
    split at hx
    · rename_i e
      rw [hfx] at e; cases e
    · rename_i e
      refine fold_ fun P_ hP_ => ?_
      obtain ⟨c', o, v, g1, g2, g3, g4⟩ := cap x sv e hx
      rw [hc'] at g1; cases g1
      refine hP_ ?_
      exact ⟨o, v, g2, g3, g4⟩
    · rename_i e
      rw [hfx] at e; cases e
    · cases hx
noncomputable def eraseO (n : Nat) : List (Nat × SO) → List (Nat × SO)
  | [] => []
  | (k, o) :: l => if n = k then l else (k, o) :: eraseO n l
section
variable {w : World} {X : Xp} {ρ ρ' : List Addr}
end
end Mine
end
section
namespace Mine
theorem HE.alloc2 {k : EC} {ρ : List Addr} {objs : List (Nat × SO)} {nx : Nat} {n' : List (Addr × Obj)} {so : SO} {o : Obj} {x : Addr} {s' : Shared} (hl : ρ.length = nx) (io : IsObjs k.w k.X ρ objs n') (d : Dis (k.ext ++ n')) (F' : Fr k.h₀ k.L s'.heap k.m) (N' : News k.h₀ k.L s'.heap ((x, o) :: (k.ext ++ n'))) (l1 : ∀ p ∈ k.ext ++ n', p.1 ≠ x) (ho : IsO k.w k.X (ρ ++ [x]) so o) (ht : TabOk so x) :
    HE k (ρ ++ [x]) ((nx, so) :: objs) s' := by
  have p : ρ <+: ρ ++ [x] := List.prefix_append _ _
  refine ⟨F', (x, o) :: n', .cons (by rw [← hl]; simp) ⟨ho, ht⟩ (io.mono p), fun q hq => N' q ?_, ?_⟩
  · rcases List.mem_append.mp hq with h | h
    · exact .tail _ (List.mem_append_left _ h)
    · rcases List.mem_cons.mp h with rfl | h
      · exact .head _
      · exact .tail _ (List.mem_append_right _ h)
  · have d' := dis_app.mp d
    refine dis_app.mpr ⟨d'.1, ⟨neAll_iff.mpr fun q hq => l1 q (List.mem_append_right _ hq), d'.2.1⟩, apart_iff.mpr fun q hq => ⟨l1 q (List.mem_append_left _ hq), apart_iff.mp d'.2.2 q hq⟩⟩
/-- lists held fast while something runs over them -/
noncomputable def fixO (j : Nat) : Option SO → Bool
  | some (.fix _ i) => Nat.beq i j
  | _ => false
noncomputable def fixAt (objs : List (Nat × SO)) (n j : Nat) : Bool := fixO j (lkN objs n)
noncomputable def notFix (n : Nat) : SO → Bool
  | .fix _ j => !(Nat.beq j n)
  | _ => true
noncomputable def noFix (n : Nat) (l : List (Nat × SO)) : Bool := @List.rec (Nat × SO) (fun _ => Bool) true (fun p _ ih => @Bool.rec (fun _ => Bool) false ih (notFix n p.2)) l
theorem noFix_eq {n : Nat} {p : Nat × SO} {l : List (Nat × SO)} : noFix n (p :: l) = @Bool.rec (fun _ => Bool) false (noFix n l) (notFix n p.2) := rfl
structure SrcS where
  l : List SV
  j : Nat
  new : Bool
  objs : List (Nat × SO)
noncomputable def srcO2 (objs : List (Nat × SO)) (n : Nat) : Option SO → Option SrcS
  | some (.list l) => match noFix n objs with
    | true => some ⟨l, n, true, stN n (.fix l n) objs⟩
    | false => none
  | some (.fix l j) => some ⟨l, j, false, objs⟩
  | _ => none
noncomputable def srcO (objs : List (Nat × SO)) (n : Nat) : Option SrcS := srcO2 objs n (lkN objs n)
noncomputable def srcBack (S : SrcS) (objs : List (Nat × SO)) : Option (List (Nat × SO)) := match S.new with
  | true => match fixAt objs S.j S.j with
    | true => match noFix S.j (stN S.j (.list S.l) objs) with
      | true => some (stN S.j (.list S.l) objs)
      | false => none
    | false => none
  | false => some objs
noncomputable def Xp.setO (X : Xp) (n : Nat) (o : Obj) : Xp := { X with O := fun i => if i = n then o else X.O i }
section
variable {w : World} {X : Xp} {ρ : List Addr} {n : Nat} {o' : Obj}
theorem IsO.setX {so : SO} {o : Obj} (h : notFix n so = true) : IsO w (X.setO n o') ρ so o ↔ IsO w X ρ so o := by
  cases so with
  | fix l j =>
    have : j ≠ n := fun e => by
      have h' : (!(Nat.beq j n)) = true := h
      rw [e, Nat.beq_refl] at h'; cases h'
    have e : (X.setO n o').O j = X.O j := if_neg this
    refine (?_ : _ ∧ _ ↔ _ ∧ _)
    rw [e]
  | _ => exact Iff.rfl
theorem noFix_cons {p : Nat × SO} {l : List (Nat × SO)} (h : noFix n (p :: l) = true) : notFix n p.2 = true ∧ noFix n l = true := by
  rw [noFix_eq] at h
  cases hp : notFix n p.2 with
  | true => rw [hp] at h; exact ⟨rfl, h⟩
  | false => rw [hp] at h; cases h
theorem IsObjs.setX {l : List (Nat × SO)} {l' : List (Addr × Obj)} (h : IsObjs w X ρ l l') : noFix n l = true → IsObjs w (X.setO n o') ρ l l' := by
  induction h with
  | nil => exact fun _ => .nil
  | cons h1 h2 _ ih => exact fun h => .cons h1 ⟨(IsO.setX (noFix_cons h).1).mpr h2.1, h2.2⟩ (ih (noFix_cons h).2)
  | item h1 h2 _ ih => exact fun h => .item h1 h2 (ih (noFix_cons h).2)
  | shown h1 h2 _ ih => exact fun h => .shown h1 h2 (ih (noFix_cons h).2)
theorem IsObjs.unX {X' : Xp} {l : List (Nat × SO)} {l' : List (Addr × Obj)} (h : IsObjs w X' ρ l l') : X' = X.setO n o' → noFix n l = true → IsObjs w X ρ l l' := by
  intro e
  subst e
  induction h with
  | nil => exact fun _ => .nil
  | cons h1 h2 _ ih => exact fun h => .cons h1 ⟨(IsO.setX (noFix_cons h).1).mp h2.1, h2.2⟩ (ih (noFix_cons h).2)
  | item h1 h2 _ ih => exact fun h => .item h1 h2 (ih (noFix_cons h).2)
  | shown h1 h2 _ ih => exact fun h => .shown h1 h2 (ih (noFix_cons h).2)
theorem fixAt_eq {objs : List (Nat × SO)} {j : Nat} (h : fixAt objs n j = true) : ∃ l, objs.lookup n = some (.fix l j) := by
  unfold fixAt at h
  rw [lkN_eq] at h
  cases hh : objs.lookup n with
  | none => rw [hh] at h; cases h
  | some so =>
    rw [hh] at h
    cases so with
    | fix l i => have h' : Nat.beq i j = true := h
                 rw [Nat.eq_of_beq_eq_true h']; exact ⟨l, rfl⟩
    | _ => cases h
theorem IsObjs.fixAt {objs : List (Nat × SO)} {l' : List (Addr × Obj)} {j : Nat} (io : IsObjs w X ρ objs l') (h : fixAt objs n j = true) : ∃ a, ρ[n]? = some a ∧ (a, X.O j) ∈ l' := by
  refine fold_ fun P_ hP_ => ?_
  obtain ⟨l, e⟩ := fixAt_eq h
  obtain ⟨a, o, g1, g2, g3, _⟩ := io.find e
  subst g3
  refine hP_ ?_
  exact ⟨a, g1, g2⟩
theorem lookup_setO {so : SO} : ∀ {objs : List (Nat × SO)} {x : SO}, objs.lookup n = some x → (setO n so objs).lookup n = some so
  | (k, o) :: l, x, h => by
    unfold setO
    by_cases e : n = k
    · rw [if_pos e, e]; simp
    · rw [if_neg e]
      rcases look_cons h with ⟨e', _⟩ | ⟨_, h'⟩
      · exact absurd e' e
      · rw [List.lookup_cons]
        have : (n == k) = false := by simpa using e
        rw [this]
        exact lookup_setO h'
  | [], _, h => nomatch h
theorem IsObjs.toFix {sv : List SV} {l : List (Nat × SO)} {l' : List (Addr × Obj)} (h : IsObjs w X ρ l l') : l.lookup n = some (.list sv) → noFix n l = true → ∃ a vs c, ρ[n]? = some a ∧ IsL ρ sv vs ∧ IsObjs w (X.setO n (lobj vs c)) ρ (setO n (.fix sv n) l) l' := by
  induction h with
  | nil => intro e; simp at e
  | @cons k so a o l l' h1 h2 h3 ih =>
    intro e hn
    rcases look_cons e with ⟨rfl, rfl⟩ | ⟨hne, e⟩
    · obtain ⟨⟨vs, c, rfl, g⟩, g'⟩ := h2
      refine ⟨a, vs, c, h1, g, ?_⟩
      unfold Mine.setO
      rw [if_pos rfl]
      exact .cons h1 ⟨⟨(if_pos rfl).symm, vs, c, rfl, g⟩, trivial⟩ (h3.setX (noFix_cons hn).2)
    · obtain ⟨b, vs, c, g1, g2, g3⟩ := ih e (noFix_cons hn).2
      refine ⟨b, vs, c, g1, g2, ?_⟩
      unfold Mine.setO
      rw [if_neg hne]
      exact .cons h1 ⟨(IsO.setX (noFix_cons hn).1).mpr h2.1, h2.2⟩ g3
  | @item k i a c l' l h1 h2 h3 ih =>
    intro e hn
    rcases look_cons e with ⟨rfl, q⟩ | ⟨hne, e⟩
    · cases q
    · obtain ⟨b, vs, c, g1, g2, g3⟩ := ih e (noFix_cons hn).2
      refine ⟨b, vs, c, g1, g2, ?_⟩
      unfold Mine.setO
      rw [if_neg hne]
      exact .item h1 h2 g3
  | @shown k i a c l' l h1 h2 h3 ih =>
    intro e hn
    rcases look_cons e with ⟨rfl, q⟩ | ⟨hne, e⟩
    · cases q
    · obtain ⟨b, vs, c, g1, g2, g3⟩ := ih e (noFix_cons hn).2
      refine ⟨b, vs, c, g1, g2, ?_⟩
      unfold Mine.setO
      rw [if_neg hne]
      exact .shown h1 h2 g3
theorem IsObjs.src {objs : List (Nat × SO)} {n' : List (Addr × Obj)} {S : SrcS} (io : IsObjs w X ρ objs n') (h : srcO objs n = some S) : ∃ X' a vs c, ρ[n]? = some a ∧ X'.O S.j = lobj vs c ∧ IsL ρ S.l vs ∧ Mine.fixAt S.objs n S.j = true ∧ X'.V = X.V ∧ X'.S = X.S ∧ IsObjs w X' ρ S.objs n' ∧
    ∀ ρ' objs' objs'' n'', ρ <+: ρ' → srcBack S objs' = some objs'' → IsObjs w X' ρ' objs' n'' → IsObjs w X ρ' objs'' n'' := by
  unfold srcO at h
  rw [lkN_eq] at h
  cases hh : objs.lookup n with
  | none => rw [hh] at h; cases h
  | some so =>
    rw [hh] at h
    cases so with
    | fix l j =>
      refine fold_ fun P_ hP_ => ?_
      cases h
      obtain ⟨a, o, g1, g2, g3, vs, c, g4, g5⟩ := io.find hh
      subst g3
      refine hP_ ?_
      refine ⟨X, a, vs, c, g1, g4, g5, ?_, rfl, rfl, io, fun ρ' objs' objs'' n'' p e i => ?_⟩
      · unfold Mine.fixAt; rw [lkN_eq, hh]; exact Nat.beq_refl j
      · cases e; exact i
    | list l =>
      simp only [srcO2] at h
      cases hn : noFix n objs with
      | false => rw [hn] at h; cases h
      | true =>
        refine fold_ fun P_ hP_ => ?_
        rw [hn] at h
        cases h
        obtain ⟨a, vs, c, g1, g5, g6⟩ := io.toFix hh hn
        refine hP_ ?_
        have eo : (X.setO n (lobj vs c)).O n = lobj vs c := if_pos rfl
        refine ⟨X.setO n (lobj vs c), a, vs, c, g1, eo, g5, ?_, rfl, rfl, by rw [stN_eq]; exact g6, fun ρ' objs' objs'' n'' p e i => ?_⟩
        · unfold Mine.fixAt
          rw [stN_eq, lkN_eq, lookup_setO hh]
          exact Nat.beq_refl n
        · simp only [srcBack] at e
          cases hf : Mine.fixAt objs' n n with
          | false => rw [hf] at e; cases e
          | true =>
            rw [hf] at e
            cases hq : noFix n (stN n (.list l) objs') with
            | false => rw [hq] at e; cases e
            | true =>
              rw [hq] at e
              cases e
              rw [stN_eq] at hq ⊢
              obtain ⟨l2, e2⟩ := fixAt_eq hf
              obtain ⟨a', o', pre, post, e1, rfl, ⟨e3, _⟩, e4⟩ := i.split e2 rfl
              have e5 : o' = lobj vs c := e3.1.trans eo
              subst e5
              exact (e4 ρ' (.list l) _ pre_refl ⟨vs, c, rfl, g5.mono p⟩ trivial).unX rfl hq
    | _ => cases h
end
end Mine
end
section
namespace Mine
noncomputable def EC.withX (k : EC) (X : Xp) : EC := { k with X := X }
theorem EC.Ok.withX {k : EC} (h : k.Ok) (X : Xp) : (k.withX X).Ok := ⟨h.hh, h.fr, h.gd, h.ff, h.fk, h.B, h.X, h.T, h.dep, h.uni⟩
theorem Names.withX {k : EC} {ρ : List Addr} {nm : Str → Option SV} (h : Names k ρ nm) (X : Xp) : Names (k.withX X) ρ nm := ⟨h.ev, h.cp⟩
theorem set_of {e : Expr} {env : Env} {x : Value} (h : noSet e = true) : foldedSetIterable e env x = pure x := by
  cases e <;> first | rfl | cases h
/-- what a block's scope must be -/
noncomputable def blkOk (scope : Scope) (x : Str) : Bool := (scope.names.all fun p => p.2 != .cell) && (scope.names.all fun p => p.2 != .local || scope.names.lookup p.1 == some .local) && scope.names.lookup x == some .local && freeOk scope
structure BlkOk (k : EC) (scope : Scope) (cl : List (Str × Addr)) : Prop where
  hcl : freeCl k.env.cells scope.names [] = some cl
  hsk : scope.kind = .function
  b1 : ∀ y ∈ scope.names, y.2 ≠ .cell
  b2 : ∀ y ∈ scope.names, y.2 = .local → scope.names.lookup y.1 = some .local
  hfo : freeOk scope = true
  hg : k.env.globals = mainGlobals
  hb : k.env.builtins = builtinsNs
noncomputable abbrev ext3 (k : EC) (I : Addr) (oI : Obj) (C : Addr) (oC : Obj) (D : Addr) (ys : List Value) : List (Addr × Obj) := (I, oI) :: (C, oC) :: (D, LCg.lst ys) :: k.ext
noncomputable def TurnPost (k : EC) (ρ : List Addr) (I : Addr) (oI : Obj) (C : Addr) (oC : Obj) (D : Addr) (ys : List Value) (s : Shared) {α β : Type} (R : List Addr → β → α → Prop) (r : β) (o₁ : List (Nat × SO)) (n₁ : Nat) (y : α) (s' : Shared) : Prop :=
  ∃ ρ' n'' h' tk', ρ <+: ρ' ∧ ρ'.length = n₁ ∧ R ρ' r y ∧ s' = { s with heap := h', toks := tk' } ∧ Fr k.h₀ k.L h' k.m ∧ News k.h₀ k.L h' ((I, oI) :: (C, oC) :: (D, LCg.lst ys) :: (k.ext ++ n'')) ∧ LCg.Off3 I C D (k.ext ++ n'') ∧ IsObjs k.w k.X ρ' o₁ n'' ∧ Dis (k.ext ++ n'')
section
variable {k : EC} {nm : Str → Option SV} {scope : Scope} {cl : List (Str × Addr)} {ct elt : Expr} {x x₂ : Str} {s : Shared} {P : EC → Prop}
theorem blk_turn {α β : Type} {t : Env → Sem α} {R : List Addr → β → α → Prop} {r : β} {objs o₁ : List (Nat × SO)} {nx n₁ : Nat} {vars : List (Str × SV)} {ρ : List Addr} {n' : List (Addr × Obj)} {I C D : Addr} {oI oC : Obj} {ys : List Value} {m₂ : Str → Option Value} {h : Heap} {tk : Nat} {E' : Value → Shared → Prop}
    (ok : k.Ok) (bo : BlkOk k scope cl) (hP : ∀ C ext, P (k.blk (compEnvC scope cl C k.env) ext)) (hn : Names k ρ nm) (hd : ∀ kb, P kb → Mine.D kb (blkNm nm scope vars) objs nx [] (fun _ => t kb.env) R r o₁ n₁)
    (hl : ρ.length = nx) (io : IsObjs k.w k.X ρ objs n') (d : Dis (k.ext ++ n')) (F : Fr k.h₀ k.L h k.m) (N : News k.h₀ k.L h ((I, oI) :: (C, oC) :: (D, LCg.lst ys) :: (k.ext ++ n'))) (off : LCg.Off3 I C D (k.ext ++ n')) (ne : (@Ne Nat I C) ∧ (@Ne Nat I D) ∧ (@Ne Nat C D)) (hC : LCg.NsObj oC m₂)
    (hv : ∀ x a, vars.lookup x = some a → ∃ v, m₂ x = some v ∧ Is ρ a v) :
    wpAny (model prg k.w) k.A (t (compEnvC scope cl C k.env)) (TurnPost k ρ I oI C oC D ys s R r o₁ n₁) E' { s with heap := h, toks := tk } := by
  have offm := LCg.Off3.mem off
  have he : HE (k.blk (compEnvC scope cl C k.env) (ext3 k I oI C oC D ys)) ρ objs { s with heap := h, toks := tk } := by
    refine ⟨F, n', io, N, ⟨?_, ?_, ?_, d⟩⟩
    · exact ⟨ne.1, ne.2.1, neAll_iff.mpr fun p hp => (offm p hp).1⟩
    · exact ⟨ne.2.2, neAll_iff.mpr fun p hp => (offm p hp).2.1⟩
    · exact neAll_iff.mpr fun p hp => (offm p hp).2.2
  have hnb := names_block (ext := ext3 k I oI C oC D ys) (vars := vars) ok hn bo.hcl bo.hsk bo.hfo bo.hg bo.hb hC (.tail _ (.head _)) (fun p hp => .tail _ (.tail _ (.tail _ hp))) hv
  refine wpAny_mono (hd _ (hP C (ext3 k I oI C oC D ys)) (ok.blk _ _) ρ _ E' [] hl hnb he trivial) (fun y s' ⟨ρ', p, l', i', he', S⟩ => ?_) fun _ _ z => z
  obtain ⟨h', tk', rfl⟩ := S
  obtain ⟨n'', io', N', d'⟩ := he'.N
  exact ⟨ρ', n'', h', tk', p, l', i', rfl, he'.F, N', LCg.Off3.of fun p hp => ⟨d'.1.2.2.ne p hp, d'.2.1.2.ne p hp, d'.2.2.1.ne p hp⟩, io', d'.2.2.2⟩
theorem look_consS {y z : Str} {o so : SV} {l : List (Str × SV)} (e : ((y, o) :: l).lookup z = some so) : (z = y ∧ o = so) ∨ (z ≠ y ∧ l.lookup z = some so) := by
  rw [List.lookup_cons] at e
  by_cases hn : z = y
  · subst hn; simp at e; exact .inl ⟨rfl, e⟩
  · have : (z == y) = false := by simpa using hn
    rw [this] at e; exact .inr ⟨hn, e⟩
theorem var1 {ρ : List Addr} {m₂ : Str → Option Value} {a : SV} {v : Value} (hx : m₂ x = some v) (hi : Is ρ a v) : ∀ z b, [(x, a)].lookup z = some b → ∃ v, m₂ z = some v ∧ Is ρ b v := fun z b hz => by
  rcases look_consS hz with ⟨e1, e2⟩ | ⟨_, hz⟩
  · subst e1; subst e2; exact ⟨v, hx, hi⟩
  · cases hz
theorem var2 {ρ : List Addr} {m₂ : Str → Option Value} {a b : SV} {v v₂ : Value} (hx : m₂ x = some v) (hx₂ : m₂ x₂ = some v₂) (hi : Is ρ a v) (hi₂ : Is ρ b v₂) : ∀ z c, [(x, a), (x₂, b)].lookup z = some c → ∃ v, m₂ z = some v ∧ Is ρ c v := fun z c hz => by
  rcases look_consS hz with ⟨e1, e2⟩ | ⟨_, hz⟩
  · subst e1; subst e2; exact ⟨v, hx, hi⟩
  · exact var1 hx₂ hi₂ z c hz
theorem drop_at {vs : List Value} {i : Nat} {v : Value} (hv : vs[i]? = some v) : vs.drop i = v :: vs.drop (i + 1) := by
  obtain ⟨hlt, hv'⟩ := List.getElem?_eq_some_iff.mp hv
  rw [List.drop_eq_getElem_cons hlt, hv']
noncomputable abbrev FinP (k : EC) (ρ : List Addr) (rs : List SV) (objs' : List (Nat × SO)) (nx' : Nat) (Fin : List Value → List (Addr × Obj) → Prop) : Prop :=
  ∀ ρ' n'' ys', ρ <+: ρ' → ρ'.length = nx' → IsObjs k.w k.X ρ' objs' n'' → Dis (k.ext ++ n'') → IsL ρ' rs ys' → Fin ys' (k.ext ++ n'')
/-- turns over a list -/
noncomputable def CTF (P : EC → Prop) (n j : Nat) (nmOfA : SV → Str → Option SV) (elt : Expr) : List SV → List (Nat × SO) → Nat → List SV → List (Nat × SO) → Nat → Prop
  | [], objs, nx, rs, objs', nx' => rs = [] ∧ objs' = objs ∧ nx' = nx
  | a :: l, objs, nx, rs, objs', nx' => ∃ r rs' o₁ n₁, rs = r :: rs' ∧ (∀ kb, P kb → DE kb (nmOfA a) objs nx elt r o₁ n₁) ∧ fixAt o₁ n j = true ∧ CTF P n j nmOfA elt l o₁ n₁ rs' objs' nx'
theorem comp_restF {n j c : Nat} {ax : Addr} {vs : List Value} (ok : k.Ok) (bo : BlkOk k scope cl) (hP : ∀ C ext, P (k.blk (compEnvC scope cl C k.env) ext)) (hX : k.X.O j = lobj vs c) {Fin : List Value → List (Addr × Obj) → Prop} :
    ∀ (l : List SV) (objs : List (Nat × SO)) (nx : Nat) (rs : List SV) (objs' : List (Nat × SO)) (nx' : Nat), CTF P n j (fun a => blkNm nm scope [(x, a)]) elt l objs nx rs objs' nx' →
      ∀ (i : Nat) (ys : List Value) (ρ : List Addr) (n' : List (Addr × Obj)) (ysS : List SV), ρ[n]? = some ax → IsL ρ l (vs.drop i) → ρ.length = nx → IsObjs k.w k.X ρ objs n' → Dis (k.ext ++ n') → Names k ρ nm → IsL ρ ysS ys → FinP k ρ (ysS ++ rs) objs' nx' Fin →
      LCg.CompRest prg k.w k.A k.h₀ k.L k.m k.env elt x scope cl s (LCg.SrcAt k.h₀ ax vs.toArray) (fun i v => vs.toArray[i]? = some v) Fin (vs.length - i) i ys (k.ext ++ n')
  | [], objs, nx, rs, objs', nx', ht, i, ys, ρ, n', ysS, ha, hi, hl, io, d, hn, hy, fin => by
    obtain ⟨rfl, rfl, rfl⟩ := ht
    have : vs.length - i = 0 := by have := hi.length; simpa using this
    rw [this]
    exact LCg.CompRest.zero (fin ρ n' ys pre_refl hl io d (by simpa using hy))
  | a :: l, objs, nx, rs, objs', nx', ⟨r, rs', o₁, n₁, hr, hd, hf, ht⟩, i, ys, ρ, n', ysS, ha, hi, hl, io, d, hn, hy, fin => by
    have hlen : vs.length - i = l.length + 1 := by have := hi.length; simpa using this
    have hlen' : vs.length - (i + 1) = l.length := by omega
    rw [hlen]
    refine LCg.CompRest.succ fun v I oI C oC D m₂ h tk E' hQ hC hx F N off ne => ?_
    rw [drop_at (by simpa using hQ)] at hi
    refine wpAny_mono (blk_turn (s := s) (t := fun env => eval elt env) ok bo hP hn hd hl io d F N off ne hC (var1 hx hi.1)) (fun y s' ⟨ρ', n'', h', tk', p, l', i', e, F', N', off', io', d'⟩ => ?_) fun _ _ z => z
    refine fold_ fun P_ hP_ => ?_
    subst e; subst hr
    obtain ⟨a', g1, g2⟩ := io'.fixAt hf
    rw [pre_get p ha] at g1; cases g1
    refine hP_ ?_
    refine LCg.CompEnd.intro F' N' (k.ext ++ n'') (fun p hp => hp) off' (.inr ⟨_, List.mem_append_right _ g2, by rw [hX], by rw [hX]; exact ⟨_, rfl⟩⟩) ?_
    rw [← hlen']
    exact comp_restF ok bo hP hX l o₁ n₁ rs' objs' nx' ht (i + 1) (ys ++ [y]) ρ' n'' (ysS ++ [r]) (pre_get p ha) (hi.2.mono p) l' io' d' (hn.mono p) ((hy.mono p).append ⟨i', trivial⟩) (fun ρ₂ n₂ ys' p₂ l₂ io₂ d₂ hy₂ => fin ρ₂ n₂ ys' (p.trans p₂) l₂ io₂ d₂ (by simpa using hy₂))
/-- turns over a list of pairs -/
noncomputable def CTP (P : EC → Prop) (n j : Nat) (nmOfP : SV → SV → Str → Option SV) (elt : Expr) : List SV → List (Nat × SO) → Nat → List SV → List (Nat × SO) → Nat → Prop
  | [], objs, nx, rs, objs', nx' => rs = [] ∧ objs' = objs ∧ nx' = nx
  | a :: l, objs, nx, rs, objs', nx' => ∃ t u₁ u₂ r rs' o₁ n₁, a = .ref t ∧ objs.lookup t = some (.tup [u₁, u₂]) ∧ rs = r :: rs' ∧ (∀ kb, P kb → DE kb (nmOfP u₁ u₂) objs nx elt r o₁ n₁) ∧ fixAt o₁ n j = true ∧ CTP P n j nmOfP elt l o₁ n₁ rs' objs' nx'
theorem comp_restP {n j c : Nat} {ax : Addr} {vs : List Value} (ok : k.Ok) (bo : BlkOk k scope cl) (hP : ∀ C ext, P (k.blk (compEnvC scope cl C k.env) ext)) (hX : k.X.O j = lobj vs c) (hxx : x ≠ x₂) {Fin : List Value → List (Addr × Obj) → Prop} :
    ∀ (l : List SV) (objs : List (Nat × SO)) (nx : Nat) (rs : List SV) (objs' : List (Nat × SO)) (nx' : Nat), CTP P n j (fun a b => blkNm nm scope [(x, a), (x₂, b)]) elt l objs nx rs objs' nx' →
      ∀ (i : Nat) (ys : List Value) (ρ : List Addr) (n' : List (Addr × Obj)) (ysS : List SV), ρ[n]? = some ax → IsL ρ l (vs.drop i) → ρ.length = nx → IsObjs k.w k.X ρ objs n' → Dis (k.ext ++ n') → Names k ρ nm → IsL ρ ysS ys → FinP k ρ (ysS ++ rs) objs' nx' Fin →
      LCp.CompRestP prg k.w k.A k.h₀ k.L k.m k.env elt x x₂ scope cl s (LCg.SrcAt k.h₀ ax vs.toArray) (fun i v => vs.toArray[i]? = some v) Fin (vs.length - i) i ys (k.ext ++ n')
  | [], objs, nx, rs, objs', nx', ht, i, ys, ρ, n', ysS, ha, hi, hl, io, d, hn, hy, fin => by
    obtain ⟨rfl, rfl, rfl⟩ := ht
    have : vs.length - i = 0 := by have := hi.length; simpa using this
    rw [this]
    exact LCp.CompRestP.zero (fin ρ n' ys pre_refl hl io d (by simpa using hy))
  | a :: l, objs, nx, rs, objs', nx', ⟨t, u₁, u₂, r, rs', o₁, n₁, hat, htu, hr, hd, hf, ht⟩, i, ys, ρ, n', ysS, ha, hi, hl, io, d, hn, hy, fin => by
    have hlen : vs.length - i = l.length + 1 := by have := hi.length; simpa using this
    have hlen' : vs.length - (i + 1) = l.length := by omega
    rw [hlen]
    refine LCp.CompRestP.succ fun v hQ => ?_
    refine fold_ fun P_ hP_ => ?_
    rw [drop_at (by simpa using hQ)] at hi
    subst hat
    obtain ⟨⟨ta, e1, ev⟩, hi2⟩ := hi
    obtain ⟨ta', ot, e2, mt, tvs, tc, rfl, htv⟩ := io.find htu
    rw [e1] at e2; cases e2
    obtain ⟨v₁, v₂, rfl, i1, i2⟩ := htv.inv2
    refine hP_ ?_
    refine ⟨ta, tobj [v₁, v₂] tc, v₁, v₂, tc, ev, List.mem_append_right _ mt, rfl, rfl, fun I oI C oC D m₂ h tk E' hC hx hx₂ F N off ne => ?_⟩
    refine wpAny_mono (blk_turn (s := s) (t := fun env => eval elt env) ok bo hP hn hd hl io d F N off ne hC (var2 hx hx₂ i1 i2)) (fun y s' ⟨ρ', n'', h', tk', p, l', i', e, F', N', off', io', d'⟩ => ?_) fun _ _ z => z
    refine fold_ fun P_ hP_ => ?_
    subst e; subst hr
    obtain ⟨a', g1, g2⟩ := io'.fixAt hf
    rw [pre_get p ha] at g1; cases g1
    refine hP_ ?_
    refine LCg.CompEnd.intro F' N' (k.ext ++ n'') (fun p hp => hp) off' (.inr ⟨_, List.mem_append_right _ g2, by rw [hX], by rw [hX]; exact ⟨_, rfl⟩⟩) ?_
    rw [← hlen']
    exact comp_restP ok bo hP hX hxx l o₁ n₁ rs' objs' nx' ht (i + 1) (ys ++ [y]) ρ' n'' (ysS ++ [r]) (pre_get p ha) (hi2.mono p) l' io' d' (hn.mono p) ((hy.mono p).append ⟨i', trivial⟩) (fun ρ₂ n₂ ys' p₂ l₂ io₂ d₂ hy₂ => fin ρ₂ n₂ ys' (p.trans p₂) l₂ io₂ d₂ (by simpa using hy₂))
/-- turns over a range -/
noncomputable def CTR (P : EC → Prop) (nmOfI : Nat → Str → Option SV) (elt : Expr) : Nat → Nat → List (Nat × SO) → Nat → List SV → List (Nat × SO) → Nat → Prop
  | 0, i, objs, nx, rs, objs', nx' => rs = [] ∧ objs' = objs ∧ nx' = nx
  | m + 1, i, objs, nx, rs, objs', nx' => ∃ r rs' o₁ n₁, rs = r :: rs' ∧ (∀ kb, P kb → DE kb (nmOfI i) objs nx elt r o₁ n₁) ∧ CTR P nmOfI elt m (i + 1) o₁ n₁ rs' objs' nx'
theorem comp_restR (ok : k.Ok) (bo : BlkOk k scope cl) (hP : ∀ C ext, P (k.blk (compEnvC scope cl C k.env) ext)) {Fin : List Value → List (Addr × Obj) → Prop} :
    ∀ (m i : Nat) (objs : List (Nat × SO)) (nx : Nat) (rs : List SV) (objs' : List (Nat × SO)) (nx' : Nat), CTR P (fun i => blkNm nm scope [(x, .int (i : Int))]) elt m i objs nx rs objs' nx' →
      ∀ (ys : List Value) (ρ : List Addr) (n' : List (Addr × Obj)) (ysS : List SV), ρ.length = nx → IsObjs k.w k.X ρ objs n' → Dis (k.ext ++ n') → Names k ρ nm → IsL ρ ysS ys → FinP k ρ (ysS ++ rs) objs' nx' Fin →
      LCg.CompRest prg k.w k.A k.h₀ k.L k.m k.env elt x scope cl s (fun _ => True) (fun i v => ∃ t, v = .int (0 + (i : Int)) t) Fin m i ys (k.ext ++ n')
  | 0, i, objs, nx, rs, objs', nx', ht, ys, ρ, n', ysS, hl, io, d, hn, hy, fin => by
    refine fold_ fun P_ hP_ => ?_
    obtain ⟨rfl, rfl, rfl⟩ := ht
    refine hP_ ?_
    exact LCg.CompRest.zero (fin ρ n' ys pre_refl hl io d (by simpa using hy))
  | m + 1, i, objs, nx, rs, objs', nx', ⟨r, rs', o₁, n₁, hr, hd, ht⟩, ys, ρ, n', ysS, hl, io, d, hn, hy, fin => by
    refine LCg.CompRest.succ fun v I oI C oC D m₂ h tk E' hQ hC hx F N off ne => ?_
    obtain ⟨t, rfl⟩ := hQ
    rw [Int.zero_add] at hx
    refine wpAny_mono (blk_turn (s := s) (t := fun env => eval elt env) ok bo hP hn hd hl io d F N off ne hC (var1 hx ⟨t, rfl⟩)) (fun y s' ⟨ρ', n'', h', tk', p, l', i', e, F', N', off', io', d'⟩ => ?_) fun _ _ z => z
    subst e; subst hr
    refine LCg.CompEnd.intro F' N' (k.ext ++ n'') (fun p hp => hp) off' trivial ?_
    exact comp_restR ok bo hP m (i + 1) o₁ n₁ rs' objs' nx' ht (ys ++ [y]) ρ' n'' (ysS ++ [r]) l' io' d' (hn.mono p) ((hy.mono p).append ⟨i', trivial⟩) (fun ρ₂ n₂ ys' p₂ l₂ io₂ d₂ hy₂ => fin ρ₂ n₂ ys' (p.trans p₂) l₂ io₂ d₂ (by simpa using hy₂))
/-- turns over a range, with a test that never holds -/
noncomputable def CTN (P : EC → Prop) (nmOfI : Nat → Str → Option SV) (ct : Expr) : Nat → Nat → List (Nat × SO) → Nat → List (Nat × SO) → Nat → Prop
  | 0, i, objs, nx, objs', nx' => objs' = objs ∧ nx' = nx
  | m + 1, i, objs, nx, objs', nx' => ∃ o₁ n₁, (∀ kb : EC, P kb → D kb (nmOfI i) objs nx [] (fun _ => PySem.isTrue ct kb.env (eval ct kb.env)) IsT false o₁ n₁) ∧ CTN P nmOfI ct m (i + 1) o₁ n₁ objs' nx'
theorem comp_restN (ok : k.Ok) (bo : BlkOk k scope cl) (hP : ∀ C ext, P (k.blk (compEnvC scope cl C k.env) ext)) {Fin : List Value → List (Addr × Obj) → Prop} :
    ∀ (m i : Nat) (objs : List (Nat × SO)) (nx : Nat) (objs' : List (Nat × SO)) (nx' : Nat), CTN P (fun i => blkNm nm scope [(x, .int (i : Int))]) ct m i objs nx objs' nx' →
      ∀ (ρ : List Addr) (n' : List (Addr × Obj)), ρ.length = nx → IsObjs k.w k.X ρ objs n' → Dis (k.ext ++ n') → Names k ρ nm → FinP k ρ [] objs' nx' Fin →
      LCt.CompRestT prg k.w k.A k.h₀ k.L k.m k.env ct elt x scope cl s (fun _ => True) (fun i v => ∃ t, v = .int (0 + (i : Int)) t) Fin m i [] (k.ext ++ n')
  | 0, i, objs, nx, objs', nx', ht, ρ, n', hl, io, d, hn, fin => by
    obtain ⟨rfl, rfl⟩ := ht
    exact LCt.CompRestT.zero (fin ρ n' [] pre_refl hl io d trivial)
  | m + 1, i, objs, nx, objs', nx', ⟨o₁, n₁, hd, ht⟩, ρ, n', hl, io, d, hn, fin => by
    refine LCt.CompRestT.succ fun v I oI C oC D m₂ h tk E' hQ hC hx F N off ne => ?_
    obtain ⟨t, rfl⟩ := hQ
    rw [Int.zero_add] at hx
    refine wpAny_mono (blk_turn (s := s) (t := fun env => PySem.isTrue ct env (eval ct env)) ok bo hP hn hd hl io d F N off ne hC (var1 hx ⟨t, rfl⟩)) (fun y s' ⟨ρ', n'', h', tk', p, l', i', e, F', N', off', io', d'⟩ => ?_) fun _ _ z => z
    subst e
    cases i'
    simp only [Bool.false_eq_true, if_false]
    refine LCg.CompEnd.intro F' N' (k.ext ++ n'') (fun p hp => hp) off' trivial ?_
    exact comp_restN ok bo hP m (i + 1) o₁ n₁ objs' nx' ht ρ' n'' l' io' d' (hn.mono p) (fun ρ₂ n₂ ys' p₂ l₂ io₂ d₂ hy₂ => fin ρ₂ n₂ ys' (p.trans p₂) l₂ io₂ d₂ hy₂)
end
end Mine
end
section
namespace Mine
section
variable {k : EC} {nm : Str → Option SV} {scope : Scope} {cl : List (Str × Addr)} {ct elt iter : Expr} {x x₂ y : Str} {P : EC → Prop} {objs objs₀ objs' objs'' : List (Nat × SO)} {nx nx₀ nx' n m : Nat} {rs : List SV} {S : SrcS} {ρ ρ₁ : List Addr} {s s₁ : Shared}
noncomputable def PBlk (P : EC → Prop) (k : EC) (scope : Scope) (cl : List (Str × Addr)) : Prop := ∀ X', X'.V = k.X.V → X'.S = k.X.S → ∀ C ext, P ((k.withX X').blk (compEnvC scope cl C k.env) ext)
/-- the end of a block, as an expression -/
theorem finE {g : Heap} {X' : Xp} (p₁ : ρ <+: ρ₁) (S₁ : Same s s₁) (hback : ∀ ρ' n'', ρ₁ <+: ρ' → IsObjs k.w X' ρ' objs' n'' → IsObjs k.w k.X ρ' objs'' n'') :
    FinP (k.withX X') ρ₁ rs objs' nx' (LCg.FinE k.h₀ k.L k.m { s₁ with heap := g } (fun v s' => ∃ ρ', ρ <+: ρ' ∧ ρ'.length = nx' + 1 ∧ Is ρ' (.ref nx') v ∧ HE k ρ' ((nx', .list rs) :: objs'') s' ∧ Same s s')) := by
  intro ρ' n'' ys' p' l' io' d' hy' D h tk F' N' o1
  refine ⟨ρ' ++ [D], (p₁.trans p').trans pre_snoc, by simp [l'], is_new l', HE.alloc2 l' (hback ρ' n'' p' io') d' F' N' (neAll_off o1).ne ⟨ys', ys'.length, rfl, hy'.mono pre_snoc⟩ trivial, ?_⟩
  obtain ⟨h₁, t₁, rfl⟩ := S₁
  exact ⟨h, tk, rfl⟩
theorem BlkOk.of (hcl : freeCl k.env.cells scope.names [] = some cl) (hsk : scope.kind = .function) (hbo : blkOk scope x = true) (hg : k.env.globals = mainGlobals) (hb : k.env.builtins = builtinsNs) : BlkOk k scope cl ∧ scope.names.lookup x = some .local := by
  simp only [blkOk, Bool.and_eq_true] at hbo
  obtain ⟨⟨⟨b1, b2⟩, b3⟩, b4⟩ := hbo
  exact ⟨⟨hcl, hsk, fun y hy => by have := List.all_eq_true.mp b1 y hy; simpa using this, fun y hy e => by have := List.all_eq_true.mp b2 y hy; rw [e] at this; simpa using this, b4, hg, hb⟩, by simpa using b3⟩
theorem DE_compL {px pos : Pos} (hcl : freeCl k.env.cells scope.names [] = some cl) (hsk : scope.kind = .function) (hbo : blkOk scope x = true) (hg : k.env.globals = mainGlobals) (hb : k.env.builtins = builtinsNs) (hns : noSet iter = true) (hP : PBlk P k scope cl)
    (h1 : DE k nm objs nx iter (.ref n) objs₀ nx₀) (hS : srcO objs₀ n = some S) (hz : S.l.length ≤ 1000) (ht : CTF P n S.j (fun a => blkNm nm scope [(x, a)]) elt S.l S.objs nx₀ rs objs' nx') (hB : srcBack S objs' = some objs'') :
    DE k nm objs nx (.ListComp elt [⟨.Name x px, iter, [], 0⟩] scope pos) (.ref nx') ((nx', .list rs) :: objs'') (nx' + 1) := fun ok ρ s E vs hl hn he hi => by
  obtain ⟨bo, bx⟩ := BlkOk.of hcl hsk hbo hg hb
  refine LCg.ListComp_U he.F (closure_of hcl) bo.b1 hsk bo.b2 bx (wpAny_mono (h1 ok ρ s E vs hl hn he hi) (fun v s₁ ⟨ρ₁, p₁, l₁, i₁, e₁, S₁⟩ => ?_) fun _ _ z => z) (fun x => set_of hns)
  refine fold_ fun P_ hP_ => ?_
  obtain ⟨n', io, N, d⟩ := e₁.N
  obtain ⟨X', a, vs', c, g1, g2, g3, g4, g5, g6, io', back⟩ := io.src hS
  obtain ⟨a', g7, rfl⟩ := i₁
  rw [g7] at g1; cases g1
  obtain ⟨a2, f1, f2⟩ := io'.fixAt g4
  rw [g7] at f1; cases f1
  rw [g2] at f2
  refine hP_ ?_
  refine LCg.CompSrc.ledger ok.hh e₁.F N (List.mem_append_right _ f2) (szOK (by rw [List.size_toArray, g3.length]; exact hz)) fun g => ?_
  have key := comp_restF (k := k.withX X') (s := { s₁ with heap := g }) (ok.withX X') ⟨bo.hcl, bo.hsk, bo.b1, bo.b2, bo.hfo, bo.hg, bo.hb⟩ (hP X' g5 g6) g2 (Fin := _) S.l S.objs nx₀ rs objs' nx' ht 0 [] ρ₁ n' [] g7 (by simpa using g3) l₁ io' d ((hn.mono p₁).withX X') trivial (finE (g := g) p₁ S₁ fun ρ' n'' p io'' => back ρ' objs' objs'' n'' p hB io'')
  have e : vs'.toArray.size = vs'.length - 0 := by simp
  rw [e]
  exact key
theorem DE_compP {px px₂ tp pos : Pos} {tk : Nat} (hcl : freeCl k.env.cells scope.names [] = some cl) (hsk : scope.kind = .function) (hbo : blkOk scope x = true) (hbo2 : scope.names.lookup x₂ = some .local) (hxx : x ≠ x₂) (hg : k.env.globals = mainGlobals) (hb : k.env.builtins = builtinsNs) (hns : noSet iter = true) (hP : PBlk P k scope cl)
    (h1 : DE k nm objs nx iter (.ref n) objs₀ nx₀) (hS : srcO objs₀ n = some S) (hz : S.l.length ≤ 1000) (ht : CTP P n S.j (fun a b => blkNm nm scope [(x, a), (x₂, b)]) elt S.l S.objs nx₀ rs objs' nx') (hB : srcBack S objs' = some objs'') :
    DE k nm objs nx (.ListComp elt [⟨.Tuple [.Name x px, .Name x₂ px₂] tk tp, iter, [], 0⟩] scope pos) (.ref nx') ((nx', .list rs) :: objs'') (nx' + 1) := fun ok ρ s E vs hl hn he hi => by
  obtain ⟨bo, bx⟩ := BlkOk.of hcl hsk hbo hg hb
  refine LCp.ListComp_P he.F (closure_of hcl) bo.b1 hsk bo.b2 bx hbo2 hxx (wpAny_mono (h1 ok ρ s E vs hl hn he hi) (fun v s₁ ⟨ρ₁, p₁, l₁, i₁, e₁, S₁⟩ => ?_) fun _ _ z => z) (fun x => set_of hns)
  refine fold_ fun P_ hP_ => ?_
  obtain ⟨n', io, N, d⟩ := e₁.N
  obtain ⟨X', a, vs', c, g1, g2, g3, g4, g5, g6, io', back⟩ := io.src hS
  obtain ⟨a', g7, rfl⟩ := i₁
  rw [g7] at g1; cases g1
  obtain ⟨a2, f1, f2⟩ := io'.fixAt g4
  rw [g7] at f1; cases f1
  rw [g2] at f2
  refine hP_ ?_
  refine ⟨_, vs'.toArray, _, rfl, ok.hh, e₁.F, N, .inr ⟨_, List.mem_append_right _ f2, rfl, _, rfl⟩, szOK (by rw [List.size_toArray, g3.length]; exact hz), fun s₂ ⟨g, e⟩ => ?_⟩
  subst e
  have key := comp_restP (k := k.withX X') (s := { s₁ with heap := g }) (ok.withX X') ⟨bo.hcl, bo.hsk, bo.b1, bo.b2, bo.hfo, bo.hg, bo.hb⟩ (hP X' g5 g6) g2 hxx (Fin := _) S.l S.objs nx₀ rs objs' nx' ht 0 [] ρ₁ n' [] g7 (by simpa using g3) l₁ io' d ((hn.mono p₁).withX X') trivial (finE (g := g) p₁ S₁ fun ρ' n'' p io'' => back ρ' objs' objs'' n'' p hB io'')
  have e : vs'.toArray.size = vs'.length - 0 := by simp
  rw [e]
  exact key
theorem DE_compR {px pos : Pos} (hcl : freeCl k.env.cells scope.names [] = some cl) (hsk : scope.kind = .function) (hbo : blkOk scope x = true) (hg : k.env.globals = mainGlobals) (hb : k.env.builtins = builtinsNs) (hns : noSet iter = true) (hP : PBlk P k scope cl)
    (h1 : DE k nm objs nx iter (.ref n) objs₀ nx₀) (hL : objs₀.lookup n = some (.rng m)) (hz : m ≤ 1000) (ht : CTR P (fun i => blkNm nm scope [(x, .int (i : Int))]) elt m 0 objs₀ nx₀ rs objs' nx') :
    DE k nm objs nx (.ListComp elt [⟨.Name x px, iter, [], 0⟩] scope pos) (.ref nx') ((nx', .list rs) :: objs') (nx' + 1) := fun ok ρ s E vs hl hn he hi => by
  obtain ⟨bo, bx⟩ := BlkOk.of hcl hsk hbo hg hb
  refine LCg.ListComp_U he.F (closure_of hcl) bo.b1 hsk bo.b2 bx (wpAny_mono (h1 ok ρ s E vs hl hn he hi) (fun v s₁ ⟨ρ₁, p₁, l₁, i₁, e₁, S₁⟩ => ?_) fun _ _ z => z) (fun x => set_of hns)
  refine fold_ fun P_ hP_ => ?_
  obtain ⟨a', g4, rfl⟩ := i₁
  obtain ⟨n', io, N, d⟩ := e₁.N
  obtain ⟨a, o, g1, g2, t, u, v, rfl⟩ := io.find hL
  rw [g4] at g1; cases g1
  refine hP_ ?_
  refine LCg.CompSrc.range ok.hh e₁.F N (N _ (List.mem_append_right _ g2)).1 (smallR hz) sizeR (szOK hz) fun g => ?_
  exact comp_restR (s := { s₁ with heap := g }) ok bo (hP k.X rfl rfl) (Fin := _) m 0 objs₀ nx₀ rs objs' nx' ht [] ρ₁ n' [] l₁ io d (hn.mono p₁) trivial (finE (X' := k.X) (g := g) p₁ S₁ fun ρ' n'' p io'' => io'')
theorem DE_compN {px pos : Pos} (hcl : freeCl k.env.cells scope.names [] = some cl) (hsk : scope.kind = .function) (hbo : blkOk scope x = true) (hg : k.env.globals = mainGlobals) (hb : k.env.builtins = builtinsNs) (hns : noSet iter = true) (hP : PBlk P k scope cl)
    (h1 : DE k nm objs nx iter (.ref n) objs₀ nx₀) (hL : objs₀.lookup n = some (.rng m)) (hz : m ≤ 1000) (ht : CTN P (fun i => blkNm nm scope [(x, .int (i : Int))]) ct m 0 objs₀ nx₀ objs' nx') :
    DE k nm objs nx (.ListComp elt [⟨.Name x px, iter, [ct], 0⟩] scope pos) (.ref nx') ((nx', .list []) :: objs') (nx' + 1) := fun ok ρ s E vs hl hn he hi => by
  obtain ⟨bo, bx⟩ := BlkOk.of hcl hsk hbo hg hb
  refine LCt.ListComp_T he.F (closure_of hcl) bo.b1 hsk bo.b2 bx (wpAny_mono (h1 ok ρ s E vs hl hn he hi) (fun v s₁ ⟨ρ₁, p₁, l₁, i₁, e₁, S₁⟩ => ?_) fun _ _ z => z) (fun x => set_of hns)
  refine fold_ fun P_ hP_ => ?_
  obtain ⟨a', g4, rfl⟩ := i₁
  obtain ⟨n', io, N, d⟩ := e₁.N
  obtain ⟨a, o, g1, g2, t, u, v, rfl⟩ := io.find hL
  rw [g4] at g1; cases g1
  refine hP_ ?_
  refine LCt.CompSrcT.range ok.hh e₁.F N (N _ (List.mem_append_right _ g2)).1 (smallR hz) sizeR (szOK hz) fun g => ?_
  exact comp_restN (s := { s₁ with heap := g }) ok bo (hP k.X rfl rfl) (Fin := _) m 0 objs₀ nx₀ objs' nx' ht ρ₁ n' l₁ io d (hn.mono p₁) (finE (X' := k.X) (g := g) p₁ S₁ fun ρ' n'' p io'' => io'')
end
section
variable {q : FnS} {k : EC} {st : St} {objs₀ objs' objs'' : List (Nat × SO)} {nx₀ nx' n m : Nat} {scope : Scope} {cl : List (Str × Addr)} {elt iter : Expr} {x x₂ y : Str} {rs : List SV} {P : EC → Prop} {S : SrcS} {ρ ρ₁ : List Addr} {s s₁ : Shared}
/-- the end of a block whose list is stored in a plain local -/
theorem finA {g : Heap} {X' : Xp} {m₀ : Str → Option Value} {cs : List (Addr × Obj)} (p₁ : ρ <+: ρ₁) (S₁ : Same s s₁) (w1 : Loc q ρ st.σ m₀) (w2 : Cls ρ st.σ (cellsOf q k.L) cs) (hyc : y ∉ (cellsOf q k.L).map (·.1)) (hback : ∀ ρ' n'', ρ₁ <+: ρ' → IsObjs k.w X' ρ' objs' n'' → IsObjs k.w k.X ρ' objs'' n'') :
    FinP ((k.at m₀ (cs ++ k.raw)).withX X') ρ₁ rs objs' nx' (LCg.FinA k.h₀ k.L m₀ { s₁ with heap := g } y (fun fl s' => ∃ ρ', ρ <+: ρ' ∧ ρ'.length = nx' + 1 ∧ IsF ρ' .next fl ∧ HS q k ρ' ((y, .ref nx') :: st.σ) ((nx', .list rs) :: objs'') s' ∧ Same s s')) := by
  intro ρ' n'' ys' p' l' io' d' hy' D h tk F' N' o1
  have hE : HE (k.at (fun z => if z = y then some (.ref D) else m₀ z) (cs ++ k.raw)) (ρ' ++ [D]) ((nx', .list rs) :: objs'') { s₁ with heap := h, toks := tk } :=
    HE.alloc2 (k := k.at (fun z => if z = y then some (.ref D) else m₀ z) (cs ++ k.raw)) l' (hback ρ' n'' p' io') d' F' N' (neAll_off o1).ne ⟨ys', ys'.length, rfl, hy'.mono pre_snoc⟩ trivial
  have pp := (p₁.trans p').trans (pre_snoc (x := D))
  refine ⟨ρ' ++ [D], pp, by simp [l'], rfl, ⟨_, cs, fun z hz => ?_, Cls.other hyc (w2.mono pp), hE⟩, ?_⟩
  · show LocV _ _ (if z = y then some (.ref D) else m₀ z)
    rw [List.lookup_cons]
    by_cases e : z = y
    · subst e
      rw [if_pos rfl, beq_self_eq_true]
      exact ⟨_, rfl, is_new l'⟩
    · rw [if_neg e]
      have : (z == y) = false := by simpa using e
      rw [this]
      exact (w1 z hz).mono pp
  · obtain ⟨h₁, t₁, rfl⟩ := S₁
    exact ⟨h, tk, rfl⟩
theorem DS_compP {px px₂ tp pos py spos : Pos} {tk : Nat} (hy : stOk q y = true) (hyl : q.sc.names.lookup y = some .local) (hsw : swapsWith (.ListComp elt [⟨.Tuple [.Name x px, .Name x₂ px₂] tk tp, iter, [], 0⟩] scope pos) (some (.Name y py)) spos.line k.env = pure true)
    (hcl : freeCl k.env.cells scope.names [] = some cl) (hsk : scope.kind = .function) (hbo : blkOk scope x = true) (hbo2 : scope.names.lookup x₂ = some .local) (hxx : x ≠ x₂) (hns : noSet iter = true) (hP : PBlk P k scope cl) (hPk : ∀ {k' : EC} {m ext}, P k' → P (k'.at m ext))
    (h1 : DX q k st iter (.ref n) objs₀ nx₀) (hS : srcO objs₀ n = some S) (hz : S.l.length ≤ 1000) (ht : CTP P n S.j (fun a b => blkNm (nmOf q st.σ) scope [(x, a), (x₂, b)]) elt S.l S.objs nx₀ rs objs' nx') (hB : srcBack S objs' = some objs'') :
    DS q k st (exec (.Assign [.Name y py] (.ListComp elt [⟨.Tuple [.Name x px, .Name x₂ px₂] tk tp, iter, [], 0⟩] scope pos) spos) k.env) .next ⟨(y, .ref nx') :: st.σ, (nx', .list rs) :: objs'', nx' + 1⟩ := fun ok fr ρ s E hl hs => by
  have hLe : k.env.locals = k.L := by rw [fr.env]
  refine fold_ fun P_ hP_ => ?_
  obtain ⟨m, cs, w1, w2, w3⟩ := hs
  have hn := names_fn ok fr w1 w2
  have okA := ok.at m (cs ++ k.raw)
  refine hP_ ?_
  have hyc : y ∉ (cellsOf q k.L).map (·.1) := by
    rw [cellNames_eq]
    unfold stOk at hy
    rw [hyl] at hy
    simpa using hy
  obtain ⟨bo, bx⟩ := BlkOk.of (k := k) hcl hsk hbo (by rw [fr.env]) (by rw [fr.env])
  refine LCp.Assign_ListComp_P w3.F hLe hsw (closure_of hcl) bo.b1 hsk bo.b2 bx hbo2 hxx (by rw [fr.env]; exact hyl) (by rw [fr.env]; simp [fr.fk]) (wpAny_mono (h1 m (cs ++ k.raw) okA ρ s E [] hl hn w3 trivial) (fun v s₁ ⟨ρ₁, p₁, l₁, i₁, e₁, S₁⟩ => ?_) fun _ _ z => z) (fun x => set_of hns)
  refine fold_ fun P_ hP_ => ?_
  obtain ⟨n', io, N, d⟩ := e₁.N
  obtain ⟨X', a, vs', c, g1, g2, g3, g4, g5, g6, io', back⟩ := io.src hS
  obtain ⟨a', g7, rfl⟩ := i₁
  rw [g7] at g1; cases g1
  obtain ⟨a2, f1, f2⟩ := io'.fixAt g4
  rw [g7] at f1; cases f1
  rw [g2] at f2
  refine hP_ ?_
  refine ⟨_, vs'.toArray, _, rfl, ok.hh, e₁.F, N, .inr ⟨_, List.mem_append_right _ f2, rfl, _, rfl⟩, szOK (by rw [List.size_toArray, g3.length]; exact hz), fun s₂ ⟨g, e⟩ => ?_⟩
  subst e
  have key := comp_restP (k := (k.at m (cs ++ k.raw)).withX X') (s := { s₁ with heap := g }) (okA.withX X') ⟨bo.hcl, bo.hsk, bo.b1, bo.b2, bo.hfo, bo.hg, bo.hb⟩ (fun C ext => hPk (m := m) (ext := ext) (hP X' g5 g6 C ext)) g2 hxx (Fin := _) S.l S.objs nx₀ rs objs' nx' ht 0 [] ρ₁ n' [] g7 (by simpa using g3) l₁ io' d ((hn.mono p₁).withX X') trivial (finA (g := g) p₁ S₁ w1 w2 hyc fun ρ' n'' p io'' => back ρ' objs' objs'' n'' p hB io'')
  have e : vs'.toArray.size = vs'.length - 0 := by simp
  rw [e]
  exact key
theorem DS_compR {px pos py spos : Pos} (hy : stOk q y = true) (hyl : q.sc.names.lookup y = some .local) (hsw : swapsWith (.ListComp elt [⟨.Name x px, iter, [], 0⟩] scope pos) (some (.Name y py)) spos.line k.env = pure true)
    (hcl : freeCl k.env.cells scope.names [] = some cl) (hsk : scope.kind = .function) (hbo : blkOk scope x = true) (hns : noSet iter = true) (hP : PBlk P k scope cl) (hPk : ∀ {k' : EC} {m ext}, P k' → P (k'.at m ext))
    (h1 : DX q k st iter (.ref n) objs₀ nx₀) (hL : objs₀.lookup n = some (.rng m)) (hz : m ≤ 1000) (ht : CTR P (fun i => blkNm (nmOf q st.σ) scope [(x, .int (i : Int))]) elt m 0 objs₀ nx₀ rs objs' nx') :
    DS q k st (exec (.Assign [.Name y py] (.ListComp elt [⟨.Name x px, iter, [], 0⟩] scope pos) spos) k.env) .next ⟨(y, .ref nx') :: st.σ, (nx', .list rs) :: objs', nx' + 1⟩ := fun ok fr ρ s E hl hs => by
  have hLe : k.env.locals = k.L := by rw [fr.env]
  refine fold_ fun P_ hP_ => ?_
  obtain ⟨m₀, cs, w1, w2, w3⟩ := hs
  have hn := names_fn ok fr w1 w2
  have okA := ok.at m₀ (cs ++ k.raw)
  refine hP_ ?_
  have hyc : y ∉ (cellsOf q k.L).map (·.1) := by
    rw [cellNames_eq]
    unfold stOk at hy
    rw [hyl] at hy
    simpa using hy
  obtain ⟨bo, bx⟩ := BlkOk.of (k := k) hcl hsk hbo (by rw [fr.env]) (by rw [fr.env])
  refine LCg.Assign_ListComp_U w3.F hLe hsw (closure_of hcl) bo.b1 hsk bo.b2 bx (by rw [fr.env]; exact hyl) (by rw [fr.env]; simp [fr.fk]) (wpAny_mono (h1 m₀ (cs ++ k.raw) okA ρ s E [] hl hn w3 trivial) (fun v s₁ ⟨ρ₁, p₁, l₁, i₁, e₁, S₁⟩ => ?_) fun _ _ z => z) (fun x => set_of hns)
  refine fold_ fun P_ hP_ => ?_
  obtain ⟨a', g4, rfl⟩ := i₁
  obtain ⟨n', io, N, d⟩ := e₁.N
  obtain ⟨a, o, g1, g2, t, u, v, rfl⟩ := io.find hL
  rw [g4] at g1; cases g1
  refine hP_ ?_
  refine LCg.CompSrc.range ok.hh e₁.F N (N _ (List.mem_append_right _ g2)).1 (smallR hz) sizeR (szOK hz) fun g => ?_
  exact comp_restR (k := k.at m₀ (cs ++ k.raw)) (s := { s₁ with heap := g }) okA ⟨bo.hcl, bo.hsk, bo.b1, bo.b2, bo.hfo, bo.hg, bo.hb⟩ (fun C ext => hPk (m := m₀) (ext := ext) (hP k.X rfl rfl C ext)) (Fin := _) m 0 objs₀ nx₀ rs objs' nx' ht [] ρ₁ n' [] l₁ io d (hn.mono p₁) trivial (finA (X' := k.X) (g := g) p₁ S₁ w1 w2 hyc fun ρ' n'' p io'' => io'')
end
end Mine
end
section
namespace Mine
section
variable {prog : Program} {w : World} {A : Around} {E : Value → Shared → Prop} {s : Shared} {env : Env} {h₀ : Heap} {target : Expr} {body : List Stmt} {Q : Flow → Shared → Prop} {m : Str → Option Value} {news : List (Addr × Obj)}
theorem loopT {l : Addr} {vs : List Value} {n : Nat} (J : Nat → (Str → Option Value) → List (Addr × Obj) → Prop) (hh : A.handled = none) (F : Fr h₀ env.locals s.heap m) (N : News h₀ env.locals s.heap news) (hl : (l, lobj vs n) ∈ news) (hj : J 0 m news)
    (keep : ∀ i m₁ news₁, J i m₁ news₁ → (l, lobj vs n) ∈ news₁)
    (turn : ∀ i v m₁ news₁ I oI h tk, vs[i]? = some v → J i m₁ news₁ → NeAll I news₁ → Fr h₀ env.locals h m₁ → News h₀ env.locals h ((I, oI) :: news₁) →
      wpAny (model prog w) A (assign target env v) (fun _ s₃ => wpAny (model prog w) A (execs body env) (TurnEnd h₀ env.locals I oI (J (i + 1)) { s with heap := h, toks := tk }) E s₃) E { s with heap := h, toks := tk })
    (done : ∀ m₁ news₁ h tk, J vs.length m₁ news₁ → Fr h₀ env.locals h m₁ → News h₀ env.locals h news₁ → Q .next { s with heap := h, toks := tk }) :
    wpAny (model prog w) A (pyIter (.ref l)) (fun it s₂ => TurnsAt prog w A h₀ env target body Q E it s₂) E s := by
  have hm := N _ hl
  have hls : s.heap.IsList l vs.toArray := ⟨_, hm.1, rfl, n, rfl⟩
  have hne : l ≠ s.heap.objs.size := Nat.ne_of_lt (Heap.lt_size hm.1)
  refine wpAny_pyIter_list hls ?_
  have W := Walks.list (prog := prog) (w := w) hh s.heap.objs.size l hne vs.toArray
  have hI0 : h₀.get? s.heap.objs.size = none := next_is_new F
  have hLI : env.locals ≠ s.heap.objs.size := Nat.ne_of_lt F.ns.lt
  refine ⟨_, _, _, vs.toArray.size, _, _, _, m, news, J, rfl, KTurns.ofWalks W (fun i v s Q E st h => letGo_listiter st.1 h), ?_, ?_, ?_, ⟨⟨_, Heap.get?_push_size _ rfl, rfl, rfl⟩, hls.at fun o e => Heap.get?_push_of_some _ e⟩, F.push _, (fun p hp => ⟨Heap.get?_push_of_some _ (N p hp).1, (N p hp).2⟩), hj, ?_, ?_⟩
  · intro hb
    rcases List.mem_cons.mp hb with e | hb
    · exact hLI e
    · exact hm.2.1 (List.mem_singleton.mp hb).symm
  · intro b hb
    rw [List.mem_singleton.mp hb]
    exact hI0
  · intro p hp hI
    exact absurd (Heap.lt_size (N p hp).1) ((List.mem_singleton.mp hI) ▸ Nat.lt_irrefl _)
  · intro i v m₁ news₁ hh' tk' own hin hP hJ hoff hsub hget hall hst F₁ N₁
    obtain ⟨oI, hIe, _⟩ := hst.1
    have hIm : (s.heap.objs.size, oI) ∈ own := hall _ (List.mem_cons_self ..) hI0 _ hIe
    have off : ∀ p ∈ news₁, p.1 ≠ s.heap.objs.size := fun p hp e => hoff p hp (List.mem_singleton.mpr e)
    have N₂ : News h₀ env.locals hh' ((s.heap.objs.size, oI) :: news₁) := fun p hp => by
      rcases List.mem_cons.mp hp with rfl | hp
      · exact N₁ _ (List.mem_append.mpr (.inl hIm))
      · exact N₁ _ (List.mem_append.mpr (.inr hp))
    refine wpAny_mono (turn i v m₁ news₁ s.heap.objs.size oI hh' tk' (by simpa using hP) hJ (neAll_iff.mpr off) F₁ N₂) (fun _ s₃ h₃ => wpAny_mono h₃ (fun f s₂ ht => ?_) fun _ _ e => e) fun _ _ e => e
    obtain ⟨rfl, h', tk, m', news', rfl, F', N', off', hJ'⟩ := ht
    refine LoopStepV.next ⟨rfl, h', tk, m', news', rfl, F', fun p hp => ?_, fun p hp hb => off' p hp (List.mem_singleton.mp hb), hJ'⟩
    rcases List.mem_append.mp hp with hp | hp
    · rcases List.mem_cons.mp (hsub p hp) with e | e
      · have := hget p hp
        rw [e] at this
        have e2 : p = (s.heap.objs.size, oI) := Prod.ext e (Option.some.inj (this.symm.trans hIe))
        rw [e2]; exact N' _ (List.mem_cons_self ..)
      · have e1 := List.mem_singleton.mp e
        have h1 := (N₁ p (List.mem_append.mpr (.inl hp))).1
        have h2 := (N₁ _ (List.mem_append.mpr (.inr (keep _ _ _ hJ)))).1
        have e2 : p = (l, lobj vs n) := Prod.ext e1 (by rw [e1] at h1; exact Option.some.inj (h1.symm.trans h2))
        rw [e2]; exact N' _ (List.mem_cons_of_mem _ (keep _ _ _ hJ'))
    · exact N' _ (List.mem_cons_of_mem _ hp)
  · intro h' tk m' news' F' N' _ hJ
    exact done m' news' h' tk (by simpa using hJ) F' N'
theorem loopTR {x : Str} {px : Pos} {r : Addr} {t u v : Tok} {n : Nat} (J : Nat → (Str → Option Value) → List (Addr × Obj) → Prop) (hh : A.handled = none) (F : Fr h₀ env.locals s.heap m) (N : News h₀ env.locals s.heap news)
    (hr : IsRange s.heap r 0 (n : Int) 1 t u v) (hn : n ≤ 1000) (hj : J 0 m news)
    (turn : ∀ i t m₁ news₁ I oI h tk, i < n → J i m₁ news₁ → NeAll I news₁ → Fr h₀ env.locals h m₁ → News h₀ env.locals h ((I, oI) :: news₁) →
      wpAny (model prog w) A (assign (.Name x px) env (.int (i : Int) t)) (fun _ s₃ => wpAny (model prog w) A (execs body env) (TurnEnd h₀ env.locals I oI (J (i + 1)) { s with heap := h, toks := tk }) E s₃) E { s with heap := h, toks := tk })
    (done : ∀ m₁ news₁ h tk, J n m₁ news₁ → Fr h₀ env.locals h m₁ → News h₀ env.locals h news₁ → Q .next { s with heap := h, toks := tk }) :
    wpAny (model prog w) A (pyIter (.ref r)) (fun it s₂ => TurnsAt prog w A h₀ env (.Name x px) body Q E it s₂) E s := by
  refine wpAny_pyIter_range hr (smallR hn) ?_
  have W := LCg.range_walks (prog := prog) (w := w) (A := A) (I := s.heap.objs.size) hh 0 n
  have hI0 : h₀.get? s.heap.objs.size = none := next_is_new F
  have hLI : env.locals ≠ s.heap.objs.size := Nat.ne_of_lt F.ns.lt
  refine ⟨_, _, _, n, _, _, _, m, news, J, rfl, KTurns.ofWalks W (fun i v s Q E st h => ?_), ?_, ?_, ?_, (by show IsRangeIter _ _ _ _ _; rw [sizeR]; simpa using Heap.get?_push_size _ rfl), F.push _, (fun p hp => ⟨Heap.get?_push_of_some _ (N p hp).1, (N p hp).2⟩), hj, ?_, ?_⟩
  · exact wpAny_pure h
  · intro hb
    exact hLI (List.mem_singleton.mp hb)
  · intro b hb
    rw [List.mem_singleton.mp hb]
    exact hI0
  · intro p hp hI
    exact absurd (Heap.lt_size (N p hp).1) ((List.mem_singleton.mp hI) ▸ Nat.lt_irrefl _)
  · intro i v m₁ news₁ hh' tk' own hin hP hJ hoff hsub hget hall hst F₁ N₁
    obtain ⟨oI, hIe⟩ : ∃ oI, hh'.get? s.heap.objs.size = some oI := ⟨_, hst⟩
    have hIm := hall _ (List.mem_cons_self ..) hI0 _ hIe
    have off : ∀ p ∈ news₁, p.1 ≠ s.heap.objs.size := fun p hp e => hoff p hp (List.mem_singleton.mpr e)
    obtain ⟨t', rfl⟩ := hP
    rw [Int.zero_add]
    refine wpAny_mono (turn i t' m₁ news₁ s.heap.objs.size oI hh' tk' hin hJ (neAll_iff.mpr off) F₁ (fun p hp => ?_)) (fun _ s₃ h₃ => wpAny_mono h₃ (fun f s₂ ht => ?_) fun _ _ e => e) fun _ _ e => e
    · rcases List.mem_cons.mp hp with rfl | hp
      · exact N₁ _ (List.mem_append.mpr (.inl hIm))
      · exact N₁ _ (List.mem_append.mpr (.inr hp))
    refine fold_ fun P_ hP_ => ?_
    obtain ⟨rfl, h', tk, m', news', rfl, F', N', off', hJ'⟩ := ht
    refine hP_ ?_
    refine LoopStepV.next ⟨rfl, h', tk, m', news', rfl, F', fun p hp => ?_, fun p hp hb => off' p hp (List.mem_singleton.mp hb), hJ'⟩
    rcases List.mem_append.mp hp with hp | hp
    · have e := List.mem_singleton.mp (hsub p hp)
      have := hget p hp
      rw [e] at this
      rw [show p = (s.heap.objs.size, oI) from Prod.ext e (Option.some.inj (this.symm.trans hIe))]; exact N' _ (List.mem_cons_self ..)
    · exact N' _ (List.mem_cons_of_mem _ hp)
  · intro h' tk m' news' F' N' _ hJ
    exact done m' news' h' tk hJ F' N'
end
end Mine
end
section
namespace Mine
section
variable {k : EC} {nm : Str → Option SV} {objs objs' objs₁ objs₂ : List (Nat × SO)} {nx nx' nx₁ nx₂ : Nat} {r : SV} {c : Bool} {e : Expr} {es : List Expr} {pos : Pos}
/-- a test of an expression, by its own value or by its parts -/
noncomputable abbrev DQ (k : EC) (nm : Str → Option SV) (objs : List (Nat × SO)) (nx : Nat) (e : Expr) (c : Bool) (objs' : List (Nat × SO)) (nx' : Nat) : Prop := D k nm objs nx [] (fun _ => PySem.isTrue e k.env (eval e k.env)) IsT c objs' nx'
theorem DT_andN : DT k nm objs nx (.BoolOp .And [] pos) true objs nx := fun whole ok ρ s E vs hl hn he hi => isTrue_and_nil ⟨ρ, pre_refl, hl, rfl, he, Same.refl⟩
theorem DT_orN : DT k nm objs nx (.BoolOp .Or [] pos) false objs nx := fun whole ok ρ s E vs hl hn he hi => isTrue_or_nil ⟨ρ, pre_refl, hl, rfl, he, Same.refl⟩
theorem DT_andT (h1 : DQ k nm objs nx e true objs₁ nx₁) (h2 : DT k nm objs₁ nx₁ (.BoolOp .And es pos) c objs₂ nx₂) : DT k nm objs nx (.BoolOp .And (e :: es) pos) c objs₂ nx₂ := fun whole ok ρ s E vs hl hn he hi =>
  isTrue_and (wpAny_mono (h1 ok ρ s E vs hl hn he hi) (fun v s₁ ⟨ρ₁, p₁, l₁, i₁, e₁, S₁⟩ => by
    cases i₁
    simp only [if_true]
    exact wpAny_mono (h2 whole ok ρ₁ s₁ E [] l₁ (hn.mono p₁) e₁ trivial) (fun v s₂ ⟨ρ₂, p₂, l₂, i₂, e₂, S₂⟩ => ⟨ρ₂, p₁.trans p₂, l₂, i₂, e₂, S₁.trans S₂⟩) fun _ _ z => z) fun _ _ z => z)
theorem DT_andF (h1 : DQ k nm objs nx e false objs₁ nx₁) : DT k nm objs nx (.BoolOp .And (e :: es) pos) false objs₁ nx₁ := fun whole ok ρ s E vs hl hn he hi =>
  isTrue_and (wpAny_mono (h1 ok ρ s E vs hl hn he hi) (fun v s₁ ⟨ρ₁, p₁, l₁, i₁, e₁, S₁⟩ => by
    cases i₁
    simp only [Bool.false_eq_true, if_false]
    exact ⟨ρ₁, p₁, l₁, (by first | rfl | trivial), e₁, S₁⟩) fun _ _ z => z)
theorem DT_orT (h1 : DQ k nm objs nx e true objs₁ nx₁) : DT k nm objs nx (.BoolOp .Or (e :: es) pos) true objs₁ nx₁ := fun whole ok ρ s E vs hl hn he hi =>
  isTrue_or (wpAny_mono (h1 ok ρ s E vs hl hn he hi) (fun v s₁ ⟨ρ₁, p₁, l₁, i₁, e₁, S₁⟩ => by
    cases i₁
    simp only [if_true]
    exact ⟨ρ₁, p₁, l₁, (by first | rfl | trivial), e₁, S₁⟩) fun _ _ z => z)
theorem DT_orF (h1 : DQ k nm objs nx e false objs₁ nx₁) (h2 : DT k nm objs₁ nx₁ (.BoolOp .Or es pos) c objs₂ nx₂) : DT k nm objs nx (.BoolOp .Or (e :: es) pos) c objs₂ nx₂ := fun whole ok ρ s E vs hl hn he hi =>
  isTrue_or (wpAny_mono (h1 ok ρ s E vs hl hn he hi) (fun v s₁ ⟨ρ₁, p₁, l₁, i₁, e₁, S₁⟩ => by
    cases i₁
    simp only [Bool.false_eq_true, if_false]
    exact wpAny_mono (h2 whole ok ρ₁ s₁ E [] l₁ (hn.mono p₁) e₁ trivial) (fun v s₂ ⟨ρ₂, p₂, l₂, i₂, e₂, S₂⟩ => ⟨ρ₂, p₁.trans p₂, l₂, i₂, e₂, S₁.trans S₂⟩) fun _ _ z => z) fun _ _ z => z)
theorem DE_ifexp {t b o : Expr} (h1 : DQ k nm objs nx t c objs₁ nx₁) (h2 : DE k nm objs₁ nx₁ (if c then b else o) r objs₂ nx₂) : DE k nm objs nx (.IfExp t b o pos) r objs₂ nx₂ := fun ok ρ s E vs hl hn he hi =>
  IfExp_ (wpAny_mono (h1 ok ρ s E vs hl hn he hi) (fun v s₁ ⟨ρ₁, p₁, l₁, i₁, e₁, S₁⟩ => by
    subst i₁
    have h3 := wpAny_mono (h2 ok ρ₁ s₁ E [] l₁ (hn.mono p₁) e₁ trivial) (fun w s₂ ⟨ρ₂, p₂, l₂, i₂, e₂, S₂⟩ => (⟨ρ₂, p₁.trans p₂, l₂, i₂, e₂, S₁.trans S₂⟩ : ∃ ρ', ρ <+: ρ' ∧ ρ'.length = nx₂ ∧ Is ρ' r w ∧ HE k ρ' objs₂ s₂ ∧ Same s s₂)) fun _ _ z => z
    cases v with
    | true => exact h3
    | false => exact h3) fun _ _ z => z)
theorem DT_not (h1 : DQ k nm objs nx e c objs₁ nx₁) : DT k nm objs nx (.UnaryOp .Not e pos) (!c) objs₁ nx₁ := fun whole ok ρ s E vs hl hn he hi =>
  isTrue_not (wpAny_mono (h1 ok ρ s E vs hl hn he hi) (fun v s₁ ⟨ρ₁, p₁, l₁, i₁, e₁, S₁⟩ => ⟨ρ₁, p₁, l₁, by rw [i₁], e₁, S₁⟩) fun _ _ z => z)
end
end Mine
end
section
namespace Mine
noncomputable def DPost (q : FnS) (k : EC) (ρ : List Addr) (s : Shared) (f : SF) (st' : St) (fl : Flow) (s' : Shared) : Prop := ∃ ρ', ρ <+: ρ' ∧ ρ'.length = st'.nx ∧ IsF ρ' f fl ∧ HS q k ρ' st'.σ st'.objs s' ∧ Same s s'
/-- a turn of a loop: the value is assigned, the body is run -/
noncomputable def DTurn (q : FnS) (k : EC) (st : St) (a : SV) (target : Expr) (body : List Stmt) (st' : St) : Prop :=
  k.Ok → Frm q k → ∀ ρ s E v, ρ.length = st.nx → HS q k ρ st.σ st.objs s → Is ρ a v → wpAny (model prg k.w) k.A (assign target k.env v) (fun _ s₃ => wpAny (model prg k.w) k.A (execs body k.env) (DPost q k ρ s .next st') E s₃) E s
theorem no_raise {α : Type} {M : Model} {A : Around} {t : Sem α} {Q : α → Shared → Prop} {E : Value → Shared → Prop} {s : Shared} (h : wpAny M A t Q (fun _ _ => False) s) : wpAny M A t Q E s := wpAny_mono h (fun _ _ z => z) fun _ _ z => z.elim
noncomputable def nmsE : List Expr → Option (List Str)
  | [] => some []
  | .Name x _ :: r => (nmsE r).map (x :: ·)
  | _ => none
noncomputable def bindN : List Str → List SV → List (Str × SV) → List (Str × SV)
  | x :: xs, a :: l, σ => bindN xs l ((x, a) :: σ)
  | _, _, σ => σ
section
variable {q : FnS} {k : EC} {st st' st'' st₁ : St} {f : SF} {a b : SV} {objs objs' objs₀ objs₁ objs₂ objs₃ : List (Nat × SO)} {nx nx' nx₀ nx₁ nx₂ nx₃ n m : Nat} {x : Str} {body : List Stmt} {l : List SV} {ρ ρ' : List Addr} {s s' : Shared} {σ : List (Str × SV)}
theorem turn_name {px : Pos} (hx : stOk q x = true) (h : DS q k ⟨(x, a) :: st.σ, st.objs, st.nx⟩ (execs body k.env) .next st') : DTurn q k st a (.Name x px) body st' := fun ok fr ρ s E v hl hs hi =>
  assign_Name (wpAny_mono (HS.store fr hx hs hi) (fun _ s₁ ⟨hs₁, S₁⟩ => wpAny_mono (h ok fr ρ s₁ E hl hs₁) (fun fl s₂ ⟨ρ₂, p₂, l₂, i₂, hs₂, S₂⟩ => ⟨ρ₂, p₂, l₂, i₂, hs₂, S₁.trans S₂⟩) fun _ _ z => z) fun _ _ z => z)
theorem nmsE_cons {e : Expr} {es : List Expr} {xs : List Str} (h : nmsE (e :: es) = some xs) : ∃ x p ys, e = .Name x p ∧ nmsE es = some ys ∧ xs = x :: ys := by
  cases e with
  | Name x p => obtain ⟨ys, h1, h2⟩ := Option.map_eq_some_iff.mp h; exact ⟨x, p, ys, rfl, h1, h2.symm⟩
  | _ => cases h
theorem each_len {env : Env} : ∀ {es : List Expr} {xs : List Str}, nmsE es = some xs → (assignEach es env).length = xs.length ∧ (assignEach es env).findIdx? (·.1) = none
  | [], xs, h => by cases h; exact ⟨rfl, rfl⟩
  | e :: es, xs, h => by
    obtain ⟨x, p, ys, rfl, h1, rfl⟩ := nmsE_cons h
    have ih := each_len (env := env) h1
    have e : assignEach (.Name x p :: es) env = (false, assign (.Name x p) env) :: assignEach es env := rfl
    rw [e, List.length_cons, List.length_cons, ih.1]
    exact ⟨rfl, by rw [List.findIdx?_cons, ih.2]; rfl⟩
theorem store_many {E : Value → Shared → Prop} (fr : Frm q k) : ∀ {es : List Expr} {xs : List Str} {l : List SV} {vs : List Value} {σ : List (Str × SV)} {s : Shared}, nmsE es = some xs → (xs.all (stOk q)) = true → xs.length = l.length → IsL ρ l vs → HS q k ρ σ objs s →
    wpAny (model prg k.w) k.A (assignInOrder ((assignEach es k.env).map (·.2)) vs) (fun _ s' => HS q k ρ (bindN xs l σ) objs s' ∧ Same s s') E s
  | [], xs, l, vs, σ, s, h, _, hlen, hi, hs => by
    cases h
    cases l with
    | nil => exact assignInOrder_nil ⟨hs, Same.refl⟩
    | cons _ _ => cases hlen
  | e :: es, xs, l, vs, σ, s, h, hst, hlen, hi, hs => by
    obtain ⟨x, p, ys, rfl, h1, rfl⟩ := nmsE_cons h
    cases l with
    | nil => cases hlen
    | cons a l =>
      obtain ⟨v, vs', rfl, i1, i2⟩ := hi.inv
      simp only [List.all_cons, Bool.and_eq_true] at hst
      refine assignInOrder_cons (assign_Name (wpAny_mono (HS.store fr hst.1 hs i1) (fun _ s₁ ⟨hs₁, S₁⟩ => ?_) fun _ _ z => z))
      exact wpAny_mono (store_many fr h1 hst.2 (by simpa using hlen) i2 hs₁) (fun _ s₂ ⟨hs₂, S₂⟩ => ⟨hs₂, S₁.trans S₂⟩) fun _ _ z => z
/-- a sequence is taken apart into names -/
theorem unpack_seq {E : Value → Shared → Prop} {es : List Expr} {kk : Nat} {tp : Pos} {xs : List Str} {v : Value} (ok : k.Ok) (fr : Frm q k) (h1 : nmsE es = some xs) (h2 : (xs.all (stOk q)) = true) (hs : HS q k ρ σ objs s) (hL : seqO (lkN objs n) = some l) (hlen : xs.length = l.length) (hi : Is ρ (.ref n) v) :
    wpAny (model prg k.w) k.A (assign (.Tuple es kk tp) k.env v) (fun _ s' => HS q k ρ (bindN xs l σ) objs s' ∧ Same s s') E s := by
  refine fold_ fun P_ hP_ => ?_
  obtain ⟨z, e1, rfl⟩ := hi
  obtain ⟨m₁, cs, g1, g2, g3⟩ := hs
  obtain ⟨n', io, N, d⟩ := g3.N
  have el := each_len (env := k.env) h1
  refine hP_ ?_
  have fin : ∀ (vs : List Value) (h' : Heap), IsL ρ l vs → Fr k.h₀ k.L h' m₁ → News k.h₀ k.L h' ((cs ++ k.raw) ++ n') → wpAny (model prg k.w) k.A (assignInOrder ((assignEach es k.env).map (·.2)) vs) (fun _ s' => HS q k ρ (bindN xs l σ) objs s' ∧ Same s s') E { s with heap := h' } := fun vs h' hv F' N' =>
    wpAny_mono (store_many fr h1 h2 hlen hv ⟨m₁, cs, g1, g2, F', n', io, N', d⟩) (fun _ s₂ ⟨hs₂, S₂⟩ => ⟨hs₂, Same.trans ⟨h', _, rfl⟩ S₂⟩) fun _ _ z => z
  rcases seqO_of hL with h | h
  · obtain ⟨x', vs, c, f1, f2, f3, _⟩ := g3.list h
    rw [e1] at f1; cases f1
    exact kun_list g3.F N f2 ok.hh (by rw [el.1, hlen, List.size_toArray, f3.length]) el.2 fun h' F' N' => by simpa using fin vs h' f3 F' N'
  · obtain ⟨x', vs, f1, f2, f3⟩ := g3.tup h
    rw [e1] at f1; cases f1
    exact unpackN_ g3.F N f2 ok.hh (by rw [el.1, hlen, List.size_toArray, f3.length]) el.2 fun h' F' N' => by simpa using fin vs h' f3 F' N'
theorem turn_tup {es : List Expr} {kk : Nat} {tp : Pos} {xs : List Str} (h1 : nmsE es = some xs) (h2 : (xs.all (stOk q)) = true) (hL : seqO (lkN st.objs n) = some l) (hlen : xs.length = l.length) (h : DS q k ⟨bindN xs l st.σ, st.objs, st.nx⟩ (execs body k.env) .next st') : DTurn q k st (.ref n) (.Tuple es kk tp) body st' := fun ok fr ρ s E v hl hs hi =>
  wpAny_mono (unpack_seq ok fr h1 h2 hs hL hlen hi) (fun _ s₁ ⟨hs₁, S₁⟩ => wpAny_mono (h ok fr ρ s₁ E hl hs₁) (fun fl s₂ ⟨ρ₂, p₂, l₂, i₂, hs₂, S₂⟩ => ⟨ρ₂, p₂, l₂, i₂, hs₂, S₁.trans S₂⟩) fun _ _ z => z) fun _ _ z => z
noncomputable def isCallE : Expr → Bool
  | .Call .. => true
  | _ => false
theorem DS_unpack {es : List Expr} {kk : Nat} {tp pos : Pos} {xs : List Str} {e : Expr} (hc : isCallE e = true) (h0 : DX q k st e (.ref n) objs₁ nx₁) (h1 : nmsE es = some xs) (h2 : (xs.all (stOk q)) = true) (hL : seqO (lkN objs₁ n) = some l) (hlen : xs.length = l.length) :
    DS q k st (exec (.Assign [.Tuple es kk tp] e pos) k.env) .next ⟨bindN xs l st.σ, objs₁, nx₁⟩ := fun ok fr ρ s E hl hs =>
  Assign_Tuple (wpAny_mono (h0.run ok fr hl hs) (fun v s₁ ⟨ρ₁, p₁, l₁, i₁, hs₁, S₁⟩ => wpAny_mono (unpack_seq ok fr h1 h2 hs₁ hL hlen i₁) (fun _ s₂ ⟨hs₂, S₂⟩ => ⟨ρ₁, p₁, l₁, rfl, hs₂, S₁.trans S₂⟩) fun _ _ z => z) fun _ _ z => z) (by cases e <;> first | rfl | cases hc) (by cases e <;> first | rfl | cases hc)
theorem DS_item {e o i : Expr} {p' pos : Pos} {r : SV} (hn : noSwap e = true) (h1 : DX q k st e a objs₁ nx₁) (h2 : DX q k ⟨st.σ, objs₁, nx₁⟩ o b objs₂ nx₂) (h3 : DX q k ⟨st.σ, objs₂, nx₂⟩ i r objs₃ nx₃)
    (h4 : ∀ m ext nm, D (k.at m ext) nm objs₃ nx₃ [b, r, a] (fun vs => setItem (vs.headD .none) (vs.tail.headD .none) (vs.tail.tail.headD .none)) (fun _ (_ : Unit) (_ : Unit) => True) () objs' nx') : DS q k st (exec (.Assign [.Subscript o i p'] e pos) k.env) .next ⟨st.σ, objs', nx'⟩ := fun ok fr ρ s E hl hs =>
  wpAny_Assign_Subscript (wpAny_mono (h1.run ok fr hl hs) (fun v s₁ ⟨ρ₁, p₁, l₁, i₁, hs₁, S₁⟩ => wpAny_mono (h2.run ok fr l₁ hs₁) (fun v₂ s₂ ⟨ρ₂, p₂, l₂, i₂, hs₂, S₂⟩ => wpAny_mono (h3.run ok fr l₂ hs₂) (fun v₃ s₃ ⟨ρ₃, p₃, l₃, i₃, hs₃, S₃⟩ => by
    refine fold_ fun P_ hP_ => ?_
    obtain ⟨m, ext, g1, g2, g3⟩ := hs₃
    refine hP_ ?_
    exact wpAny_mono (h4 m (ext ++ k.raw) (nmOf q st.σ) (ok.at m _) ρ₃ s₃ E [v₂, v₃, v] l₃ (names_fn ok fr g1 g2) g3 ⟨i₂.mono p₃, i₃, i₁.mono (p₂.trans p₃), trivial⟩) (fun _ s₄ ⟨ρ₄, p₄, l₄, _, he, S₄⟩ => ⟨ρ₄, p₁.trans (p₂.trans (p₃.trans p₄)), l₄, rfl, HS.mono p₄ g1 g2 he, S₁.trans (S₂.trans (S₃.trans S₄))⟩) fun _ _ z => z) fun _ _ z => z) fun _ _ z => z) fun _ _ z => z) (swaps_of hn)
theorem DS_aug {e : Expr} {p' pos : Pos} {i j : Int} (hx : stOk q x = true) (hxl : q.sc.names.lookup x = some .local) (h0 : st.σ.lookup x = some (.int i)) (h1 : DX q k st e (.int j) objs₁ nx₁) : DS q k st (exec (.AugAssign (.Name x p') .Add e pos) k.env) .next ⟨(x, .int (i + j)) :: st.σ, objs₁, nx₁⟩ := fun ok fr ρ s E hl hs => by
  refine fold_ fun P_ hP_ => ?_
  obtain ⟨m, cs, g1, g2, g3⟩ := id hs
  have hv := g1 x hxl
  rw [h0] at hv
  obtain ⟨v, e0, ⟨t, e1⟩⟩ := hv
  subst e1
  have henv := fr.env
  refine hP_ ?_
  refine wpAny_AugAssign_Name ?_
  have hld : ∀ {Q E : Value → Shared → Prop}, Q (.int i t) s → wpAny (model prg k.w) k.A (loadName k.env x) Q E s := fun {Q E} hq => by
    rw [henv]
    exact wpAny_loadName_local fr.fk hxl g3.F.ns e0 hq
  refine hld (wpAny_mono (h1.run ok fr hl hs) (fun v₁ s₁ ⟨ρ₁, p₁, l₁, ⟨u, e2⟩, hs₁, S₁⟩ => ?_) fun _ _ z => z)
  subst e2
  refine iadd_int ?_
  refine fold_ fun P_ hP_ => ?_
  obtain ⟨m₁, cs₁, f1, f2, f3⟩ := hs₁
  refine hP_ ?_
  refine wpAny_mono (HS.store (s := { s₁ with toks := _ }) (a := .int (i + j)) fr hx ⟨m₁, cs₁, f1, f2, f3.tok⟩ ⟨_, rfl⟩) (fun _ s₂ ⟨hs₂, S₂⟩ => ⟨ρ₁, p₁, l₁, rfl, hs₂, S₁.trans (Same.trans ⟨s₁.heap, _, rfl⟩ S₂)⟩) fun _ _ z => z
end
end Mine
end
section
namespace Mine
/-- turns of a loop: value after value -/
noncomputable def TR (P : EC → Prop) (q : FnS) (target : Expr) (body : List Stmt) (chk : List (Nat × SO) → Bool) : List SV → St → St → Prop
  | [], st, st' => st' = st
  | a :: l, st, st' => ∃ st₁, (∀ kb, P kb → DTurn q kb st a target body st₁) ∧ chk st₁.objs = true ∧ TR P q target body chk l st₁ st'
theorem TR.seq {P : EC → Prop} {q : FnS} {target : Expr} {body : List Stmt} {chk : List (Nat × SO) → Bool} : ∀ {l : List SV} {st st' : St}, TR P q target body chk l st st' → chk st.objs = true →
    ∃ sts : Nat → St, sts 0 = st ∧ sts l.length = st' ∧ (∀ i, chk (sts i).objs = true) ∧ ∀ i a, l[i]? = some a → ∀ kb, P kb → DTurn q kb (sts i) a target body (sts (i + 1))
  | [], st, st', h, hc => ⟨fun _ => st, rfl, h.symm, fun _ => hc, fun i a hi => by simp at hi⟩
  | a :: l, st, st', ⟨st₁, h1, h2, h3⟩, hc => by
    refine fold_ fun P_ hP_ => ?_
    obtain ⟨sts, e0, e1, hs, ht⟩ := TR.seq h3 h2
    refine hP_ ?_
    refine ⟨fun i => match i with | 0 => st | i + 1 => sts i, rfl, e1, fun i => ?_, fun i b hi => ?_⟩
    · cases i with
      | zero => exact hc
      | succ i => exact hs i
    · cases i with
      | zero =>
        have : a = b := by simpa using hi
        subst this
        refine (?_ : ∀ kb, _ → DTurn q kb st a target body (sts 0))
        rw [e0]
        exact h1
      | succ i => exact ht i b (by simpa using hi)
noncomputable def EC.withR (k : EC) (raw : List (Addr × Obj)) : EC := { k with raw := raw }
theorem EC.Ok.withR {k : EC} (h : k.Ok) (raw : List (Addr × Obj)) : (k.withR raw).Ok := ⟨h.hh, h.fr, h.gd, h.ff, h.fk, h.B, h.X, h.T, h.dep, h.uni⟩
section
variable {q : FnS} {k : EC} {body : List Stmt} {target : Expr} {n m : Nat} {st st' : St} {objs₀ objs'' : List (Nat × SO)} {nx₀ : Nat} {P : EC → Prop}
/-- a loop's invariant: the i-th state -/
noncomputable def LJ (q : FnS) (k : EC) (ρ₁ : List Addr) (sts : Nat → St) (i : Nat) (m' : Str → Option Value) (news' : List (Addr × Obj)) : Prop :=
  ∃ ρ' cs n', ρ₁ <+: ρ' ∧ ρ'.length = (sts i).nx ∧ Loc q ρ' (sts i).σ m' ∧ Cls ρ' (sts i).σ (cellsOf q k.L) cs ∧ IsObjs k.w k.X ρ' (sts i).objs n' ∧ news' = (cs ++ k.raw) ++ n' ∧ Dis news'
theorem loop_turn (ok : k.Ok) (fr : Frm q k) (hP : ∀ raw, P (k.withR raw)) {ρ₁ : List Addr} {sts : Nat → St} {i : Nat} {a : SV} {v : Value} {m₁ : Str → Option Value} {news₁ : List (Addr × Obj)} {I : Addr} {oI : Obj} {s : Shared} {E : Value → Shared → Prop}
    (hd : ∀ kb, P kb → DTurn q kb (sts i) a target body (sts (i + 1))) (hv : ∀ ρ', ρ₁ <+: ρ' → Is ρ' a v) (hJ : LJ q k ρ₁ sts i m₁ news₁) (hI : NeAll I news₁) (F₁ : Fr k.h₀ k.L s.heap m₁) (N₁ : News k.h₀ k.L s.heap ((I, oI) :: news₁)) :
    wpAny (model prg k.w) k.A (assign target k.env v) (fun _ s₃ => wpAny (model prg k.w) k.A (execs body k.env) (TurnEnd k.h₀ k.L I oI (LJ q k ρ₁ sts (i + 1)) s) E s₃) E s := by
  refine fold_ fun P_ hP_ => ?_
  obtain ⟨ρ', cs, n', p, hl, h1, h2, io, rfl, d⟩ := hJ
  refine hP_ ?_
  have hs : HS q (k.withR (k.raw ++ [(I, oI)])) ρ' (sts i).σ (sts i).objs s := by
    refine ⟨m₁, cs, h1, h2, F₁, n', io, fun z hz => N₁ z ?_, ?_⟩
    · simp only [EC.at, EC.withR, List.mem_append, List.mem_cons, List.not_mem_nil, or_false] at hz ⊢
      rcases hz with (h | h | h) | h
      · exact .inr (.inl (.inl h))
      · exact .inr (.inl (.inr h))
      · exact .inl h
      · exact .inr (.inr h)
    · refine (?_ : Dis ((cs ++ (k.raw ++ [(I, oI)])) ++ n'))
      have e1 : (cs ++ (k.raw ++ [(I, oI)])) ++ n' = (cs ++ k.raw) ++ (I, oI) :: n' := by simp
      rw [e1]
      have hd' := dis_app.mp d
      have hI' := neAll_app.mp hI
      exact dis_app.mpr ⟨hd'.1, ⟨hI'.2, hd'.2.1⟩, apart_iff.mpr fun z hz => ⟨hI'.1.ne z hz, apart_iff.mp hd'.2.2 z hz⟩⟩
  refine wpAny_mono (hd _ (hP (k.raw ++ [(I, oI)])) (ok.withR _) ⟨fr.env, fr.fk, fr.ck⟩ ρ' s E v hl hs (hv ρ' p)) (fun _ s₃ h₃ => wpAny_mono h₃ (fun fl s' ⟨ρ₂, p₂, l₂, i₂, hs₂, S⟩ => ?_) fun _ _ z => z) fun _ _ z => z
  refine fold_ fun P_ hP_ => ?_
  cases i₂
  obtain ⟨h', tk, rfl⟩ := S
  obtain ⟨m₂, cs₂, g1, g2, g3⟩ := hs₂
  obtain ⟨n₂, io₂, N₂, d₂⟩ := g3.N
  refine hP_ ?_
  have e1 : (cs₂ ++ (k.raw ++ [(I, oI)])) ++ n₂ = (cs₂ ++ k.raw) ++ (I, oI) :: n₂ := by simp
  have d₃ : Dis ((cs₂ ++ k.raw) ++ (I, oI) :: n₂) := by rw [← e1]; exact d₂
  have d₄ := dis_app.mp d₃
  refine ⟨rfl, h', tk, m₂, (cs₂ ++ k.raw) ++ n₂, rfl, g3.F, fun z hz => N₂ z ?_, ?_, ρ₂, cs₂, n₂, p.trans p₂, l₂, g1, g2, io₂, rfl, ?_⟩
  · refine (?_ : z ∈ (cs₂ ++ (k.raw ++ [(I, oI)])) ++ n₂)
    rw [e1]
    rcases List.mem_cons.mp hz with rfl | h
    · exact List.mem_append_right _ (.head _)
    · rcases List.mem_append.mp h with h | h
      · exact List.mem_append_left _ h
      · exact List.mem_append_right _ (.tail _ h)
  · intro z hz
    rcases List.mem_append.mp hz with h | h
    · exact Ne.symm ((apart_iff.mp d₄.2.2 z h).1.symm)
    · exact d₄.2.1.1.ne z h
  · exact dis_app.mpr ⟨d₄.1, d₄.2.1.2, apart_iff.mpr fun z hz => (apart_iff.mp d₄.2.2 z hz).2⟩
noncomputable def rangeS : Nat → Nat → List SV
  | 0, _ => []
  | m + 1, i => .int (i : Int) :: rangeS m (i + 1)
theorem rangeS_len : ∀ {m i : Nat}, (rangeS m i).length = m
  | 0, _ => rfl
  | m + 1, i => by unfold rangeS; rw [List.length_cons, rangeS_len]
theorem rangeS_get : ∀ {m i j : Nat}, j < m → (rangeS m i)[j]? = some (.int ((i + j : Nat) : Int))
  | m + 1, i, 0, _ => rfl
  | m + 1, i, j + 1, h => by
    refine (?_ : (rangeS m (i + 1))[j]? = _)
    rw [rangeS_get (by omega), show i + 1 + j = i + (j + 1) by omega]
theorem DS_forR {x : Str} {iter : Expr} {px pos : Pos} (hns : noSet iter = true) (hP : ∀ raw, P (k.withR raw)) (h1 : DX q k st iter (.ref n) objs₀ nx₀) (hL : objs₀.lookup n = some (.rng m)) (hz : m ≤ 1000) (ht : TR P q (.Name x px) body (fun _ => true) (rangeS m 0) ⟨st.σ, objs₀, nx₀⟩ st') :
    DS q k st (exec (.For (.Name x px) iter body [] pos) k.env) .next st' := fun ok fr ρ s E hl hs => no_raise (by
  refine fold_ fun P_ hP_ => ?_
  obtain ⟨sts, e0, e1, _, hts⟩ := ht.seq rfl
  refine hP_ ?_
  have hLe : k.env.locals = k.L := by rw [fr.env]
  refine fold_ fun P_ hP_ => ?_
  obtain ⟨_, _, _, _, hF⟩ := id hs
  refine hP_ ?_
  refine For_turns (h₀ := k.h₀) (by rw [hLe]; exact hF.F) (wpAny_mono (h1.run ok fr hl hs) (fun v s₁ ⟨ρ₁, p₁, l₁, i₁, hs₁, S₁⟩ => ?_) fun _ _ z => z) (fun x => set_of hns) (fun _ _ z => z.elim)
  refine fold_ fun P_ hP_ => ?_
  obtain ⟨m₁, cs, g1, g2, g3⟩ := hs₁
  obtain ⟨n', io, N, d⟩ := g3.N
  obtain ⟨r, o, f1, f2, t, u, w, rfl⟩ := io.find hL
  obtain ⟨r', f3, rfl⟩ := i₁
  rw [f3] at f1; cases f1
  refine hP_ ?_
  have hJ0 : LJ q k ρ₁ sts 0 m₁ ((cs ++ k.raw) ++ n') := ⟨ρ₁, cs, n', pre_refl, by rw [e0]; exact l₁, by rw [e0]; exact g1, by rw [e0]; exact g2, by rw [e0]; exact io, rfl, d⟩
  refine loopTR (n := m) (LJ q k ρ₁ sts) ok.hh (by rw [hLe]; exact g3.F) (by rw [hLe]; exact N) (N _ (List.mem_append_right _ f2)).1 hz hJ0 (fun i t m₁ news₁ I oI h tk hi hJ hI F₁ N₁ => ?_) (fun m' news' h tk hJ F' N' => ?_)
  · rw [hLe] at F₁ N₁ ⊢
    have ha := rangeS_get (m := m) (i := 0) hi
    rw [Nat.zero_add] at ha
    exact loop_turn ok fr hP (hts i _ ha) (fun _ _ => ⟨t, rfl⟩) hJ hI F₁ N₁
  · rw [hLe] at F' N'
    obtain ⟨ρ', cs', n₂, p', l', q1, q2, q3, rfl, q4⟩ := hJ
    have hm : sts m = st' := by rw [← e1, rangeS_len]
    rw [hm] at l' q1 q2 q3
    obtain ⟨h₁, t₁, rfl⟩ := S₁
    exact ⟨ρ', p₁.trans p', l', rfl, ⟨m', cs', q1, q2, F', n₂, q3, N', q4⟩, ⟨h, tk, rfl⟩⟩)
theorem DS_forL {S : SrcS} {iter : Expr} {pos : Pos} (hns : noSet iter = true) (hP : ∀ X' raw, X'.V = k.X.V → X'.S = k.X.S → P ((k.withX X').withR raw)) (h1 : DX q k st iter (.ref n) objs₀ nx₀) (hS : srcO objs₀ n = some S) (ht : TR P q target body (fun o => fixAt o n S.j) S.l ⟨st.σ, S.objs, nx₀⟩ st') (hB : srcBack S st'.objs = some objs'') :
    DS q k st (exec (.For target iter body [] pos) k.env) .next ⟨st'.σ, objs'', st'.nx⟩ := fun ok fr ρ s E hl hs => no_raise (by
  have hLe : k.env.locals = k.L := by rw [fr.env]
  obtain ⟨_, _, _, _, hF⟩ := id hs
  refine For_turns (h₀ := k.h₀) (by rw [hLe]; exact hF.F) (wpAny_mono (h1.run ok fr hl hs) (fun v s₁ ⟨ρ₁, p₁, l₁, i₁, hs₁, S₁⟩ => ?_) fun _ _ z => z) (fun x => set_of hns) (fun _ _ z => z.elim)
  refine fold_ fun P_ hP_ => ?_
  obtain ⟨m₁, cs, g1, g2, g3⟩ := hs₁
  obtain ⟨n', io, N, d⟩ := g3.N
  obtain ⟨X', a, vs, c, f1, f2, f3, f4, f5, f6, io', back⟩ := io.src hS
  obtain ⟨a', f7, rfl⟩ := i₁
  rw [f7] at f1; cases f1
  obtain ⟨sts, e0, e1, hck, hts⟩ := ht.seq f4
  refine hP_ ?_
  have hmem : ∀ ρ' n₂, ρ₁ <+: ρ' → ∀ i, IsObjs k.w X' ρ' (sts i).objs n₂ → (a, lobj vs c) ∈ n₂ := fun ρ' n₂ p i io₂ => by
    obtain ⟨a2, y1, y2⟩ := io₂.fixAt (hck i)
    rw [pre_get p f7] at y1; cases y1
    rwa [f2] at y2
  have hJ0 : LJ q (k.withX X') ρ₁ sts 0 m₁ ((cs ++ k.raw) ++ n') := ⟨ρ₁, cs, n', pre_refl, by rw [e0]; exact l₁, by rw [e0]; exact g1, by rw [e0]; exact g2, by rw [e0]; exact io', rfl, d⟩
  refine loopT (vs := vs) (n := c) (LJ q (k.withX X') ρ₁ sts) ok.hh (by rw [hLe]; exact g3.F) (by rw [hLe]; exact N) (List.mem_append_right _ (hmem ρ₁ n' pre_refl 0 (by rw [e0]; exact io'))) hJ0 ?_ (fun i v m₁ news₁ I oI h tk hv hJ hI F₁ N₁ => ?_) (fun m' news' h tk hJ F' NZ => ?_)
  · rintro i m₁ news₁ ⟨ρ', cs', n₂, p', l', q1, q2, q3, rfl, q4⟩
    exact List.mem_append_right _ (hmem ρ' n₂ p' i q3)
  · rw [hLe] at F₁ N₁ ⊢
    have hlt : i < S.l.length := by rw [← f3.length]; exact (List.getElem?_eq_some_iff.mp hv).1
    have ha : S.l[i]? = some S.l[i] := List.getElem?_eq_getElem hlt
    refine fold_ fun P_ hP_ => ?_
    obtain ⟨v', hv', hi'⟩ := f3.get ha
    rw [hv] at hv'; cases hv'
    refine hP_ ?_
    exact loop_turn (k := k.withX X') (ok.withX X') ⟨fr.env, fr.fk, fr.ck⟩ (fun raw => hP X' raw f5 f6) (hts i _ ha) (fun ρ' p' => hi'.mono p') hJ hI F₁ N₁
  · rw [hLe] at F' NZ
    refine fold_ fun P_ hP_ => ?_
    obtain ⟨ρ', cs', n₂, p', l', q1, q2, q3, rfl, q4⟩ := hJ
    refine hP_ ?_
    have hm : sts vs.length = st' := by rw [← e1, f3.length]
    rw [hm] at l' q1 q2 q3
    obtain ⟨h₁, t₁, rfl⟩ := S₁
    exact ⟨ρ', p₁.trans p', l', rfl, ⟨m', cs', q1, q2, F', n₂, back ρ' _ _ n₂ p' hB q3, NZ, q4⟩, ⟨h, tk, rfl⟩⟩)
/-- turns of a while loop -/
inductive TW (P : EC → Prop) (q : FnS) (k : EC) (test : Expr) (body : List Stmt) : St → St → Prop
  | stop {st : St} {o' : List (Nat × SO)} {n' : Nat} : DTX q k st test false o' n' → TW P q k test body st ⟨st.σ, o', n'⟩
  | turn {st st₁ st' : St} {o' : List (Nat × SO)} {n' : Nat} : DTX q k st test true o' n' → DS q k ⟨st.σ, o', n'⟩ (execs body k.env) .next st₁ → TW P q k test body st₁ st' → TW P q k test body st st'
theorem DS_while {test : Expr} {pos : Pos} (h : TW P q k test body st st') : DS q k st (exec (.While test body [] pos) k.env) .next st' := fun ok fr ρ s E hl hs => no_raise (by
  refine whl_start 0 ?_
  have : ∀ s₀, Same s₀ s → ∀ ρ₀, ρ₀ <+: ρ → WhlRest prg k.w k.A (fun _ _ => False) k.env test body [] (fun fl s' => ∃ ρ', ρ₀ <+: ρ' ∧ ρ'.length = st'.nx ∧ IsF ρ' .next fl ∧ HS q k ρ' st'.σ st'.objs s' ∧ Same s₀ s') 0 s := by
    induction h generalizing ρ s with
    | @stop st o' n' h1 =>
      intro s₀ S₀ ρ₀ p₀
      refine whl_turn (k := 0) (fun _ _ z => z.elim) (wpAny_mono (h1.run ok fr hl hs) (fun v s₁ ⟨ρ₁, p₁, l₁, i₁, hs₁, S₁⟩ => WhlIf.no i₁ (wpAny_execs_nil ⟨ρ₁, p₀.trans p₁, l₁, rfl, hs₁, S₀.trans S₁⟩)) fun _ _ z => z)
    | @turn st st₁ st' o' n' h1 h2 h3 ih =>
      intro s₀ S₀ ρ₀ p₀
      refine whl_turn (k := 0) (fun _ _ z => z.elim) (wpAny_mono (h1.run ok fr hl hs) (fun v s₁ ⟨ρ₁, p₁, l₁, i₁, hs₁, S₁⟩ => WhlIf.yes i₁ (wpAny_mono (h2 ok fr ρ₁ s₁ _ l₁ hs₁) (fun fl s₂ ⟨ρ₂, p₂, l₂, i₂, hs₂, S₂⟩ => ?_) fun _ _ z => z)) fun _ _ z => z)
      cases i₂
      exact ih ρ₂ s₂ l₂ hs₂ s₀ (S₀.trans (S₁.trans S₂)) ρ₀ (p₀.trans (p₁.trans p₂))
  exact this s Same.refl ρ pre_refl)
end
section
variable {k : EC} {nm : Str → Option SV} {objs objs' objs₁ objs₂ : List (Nat × SO)} {nx nx' nx₁ nx₂ : Nat} {r a : SV} {e : Expr} {pos : Pos}
theorem Names.ext {ρ : List Addr} {ext' : List (Addr × Obj)} (h : Names k ρ nm) (hs : ∀ p ∈ k.ext, p ∈ ext') : Names (k.blk k.env ext') ρ nm :=
  ⟨fun x sv e pos s Q E F N q => h.ev x sv e pos s Q E F (fun p hp => N p (hs p hp)) q, fun x sv c e e' => let ⟨o, v, a, b, i⟩ := h.cp x sv c e e'; ⟨o, v, hs _ a, b, i⟩⟩
theorem DE_dict1 {x : Str} {q : Nat} {pk : Pos} (h1 : ∀ ext', DE (k.blk k.env ext') nm objs nx e a objs₁ nx₁) :
    DE k nm objs nx (.Dict [some (.Constant (.str x) q pk)] [e] pos) (.ref nx₁) ((nx₁, .tab [(x, a)]) :: objs₁) (nx₁ + 1) := fun ok ρ s E vs hl hn he hi => by
  refine fold_ fun P_ hP_ => ?_
  obtain ⟨n', io, N, d⟩ := he.N
  refine hP_ ?_
  refine kdn_str rfl he.F N (Top.nolimit ok.T) rfl rfl (List.cons_ne_nil _ _) (by simp) fun da h' o F' N' l1 lo hd => ?_
  have he' : HE (k.blk k.env ((da, o) :: k.ext)) ρ objs { s with heap := h' } := ⟨F', n', io, N', ⟨neAll_iff.mpr fun p hp => Nat.ne_of_lt (l1 p hp), d⟩⟩
  refine evalPairs_cons (Calls.Constant_str ?_)
  refine wpAny_bind (wpAny_mono (h1 ((da, o) :: k.ext) (ok.blk _ _) ρ _ E [] hl (hn.ext fun p hp => .tail _ hp) he'.tok trivial) (fun v s₂ ⟨ρ₂, p₂, l₂, i₂, e₂, S₂⟩ => wpAny_bind (wpAny_standAt (wpAny_pure (evalPairs_nil ?_)))) fun _ _ z => z)
  obtain ⟨n₂, io₂, N₂, d₂⟩ := e₂.N
  refine kdn_made_str (g := fun o' => (da, o') :: (k.ext ++ n₂)) e₂.F N₂ (.head (d₂.1.ne)) hd rfl (by simp [strPairs]) fun h'' o' F'' N'' hd' => ?_
  refine ⟨ρ₂ ++ [da], p₂.trans pre_snoc, by simp [l₂], is_new l₂, HE.alloc2 l₂ io₂ d₂.2 F'' N'' d₂.1.ne ⟨_, hd', rfl, i₂.mono pre_snoc, trivial⟩ lo, ?_⟩
  obtain ⟨h₁, t₁, rfl⟩ := S₂
  exact ⟨h'', _, rfl⟩
theorem DE_bool {b : Bool} {q : Nat} : DE k nm objs nx (.Constant (.bool b) q pos) (.bool b) objs nx := D.ret fun ok ρ s Q E vs hn he hi q => wpAny_Constant_bool (q _ s.toks rfl)
end
end Mine
end
section
namespace Mine
/-! # The evaluator -/
noncomputable abbrev Ob := List (Nat × SO)
noncomputable abbrev RE := Option (SV × Ob × Nat)
noncomputable abbrev RL := Option (List SV × Ob × Nat)
noncomputable abbrev RT := Option (Bool × Ob × Nat)
noncomputable abbrev RS := Option (SF × St)
inductive Op where
  | grab (b g : Int)
  | tag (b : Bool)
  | arg
structure Cfg where
  fns : List (Nat × FnS)
  ini : List (Nat × FnS)
  ops : List Op
  hk : Bool
  mg : Nat
structure Cx where
  nm : Str → Option SV
  cells : List Str
structure Rec where
  E : Cx → Ob → Nat → Expr → RE
  T : Cx → Ob → Nat → Expr → RT
  S : FnS → St → List Stmt → RS
section
variable {G : Prop} {α β γ δ : Type}
noncomputable def gd (b : Bool) (X : Option α) : Option α := @Bool.rec (fun _ => Option α) none X b
noncomputable def ng (b : Bool) (X : Option α) : Option α := @Bool.rec (fun _ => Option α) X none b
noncomputable def gdT (b X : Bool) : Bool := @Bool.rec (fun _ => Bool) false X b
noncomputable def ngT (b X : Bool) : Bool := @Bool.rec (fun _ => Bool) X false b
noncomputable def bd (o : Option β) (F : β → Option α) : Option α := @Option.rec β (fun _ => Option α) none F o
noncomputable def bdT (o : Option β) (F : β → Bool) : Bool := @Option.rec β (fun _ => Bool) false F o
noncomputable def nn (o : Option β) (X : Option α) : Option α := @Option.rec β (fun _ => Option α) X (fun _ => none) o
noncomputable def bd2 (o : Option (β × γ)) (F : β → γ → Option α) : Option α := @Option.rec (β × γ) (fun _ => Option α) none (fun p => @Prod.rec β γ (fun _ => Option α) F p) o
noncomputable def bd3 (o : Option (β × γ × δ)) (F : β → γ → δ → Option α) : Option α := @Option.rec (β × γ × δ) (fun _ => Option α) none (fun p => @Prod.rec β (γ × δ) (fun _ => Option α) (fun a q => @Prod.rec γ δ (fun _ => Option α) (F a) q) p) o
noncomputable def bb (b : Bool) (X Y : Option α) : Option α := @Bool.rec (fun _ => Option α) Y X b
theorem dead_o {c : Prop} [Decidable c] {t : c → Option α} {r : α} (hc : ¬ c) (h : (if h : c then t h else none) = some r) : G := by
  rw [dif_neg hc] at h; cases h
noncomputable def rb (e : SV) (F : Bool → Option α) : Option α := if h : e.ctorIdx = 1 then SV.bool.elim (motive := fun _ => Option α) e h F else none
theorem inv_rb {e : SV} {F : Bool → Option α} {r : α} (h : rb e F = some r) (k : ∀ b, F b = some r → e = .bool b → G) : G := by
  by_cases hi : e.ctorIdx = 1
  · exact SV.bool.elim (motive := fun e => rb e F = some r → (∀ b, F b = some r → e = .bool b → G) → G) e hi (fun b h k => k b h rfl) h k
  · exact dead_o hi h
noncomputable def ri (e : SV) (F : Int → Option α) : Option α := if h : e.ctorIdx = 2 then SV.int.elim (motive := fun _ => Option α) e h F else none
theorem inv_ri {e : SV} {F : Int → Option α} {r : α} (h : ri e F = some r) (k : ∀ n, F n = some r → e = .int n → G) : G := by
  by_cases hi : e.ctorIdx = 2
  · exact SV.int.elim (motive := fun e => ri e F = some r → (∀ n, F n = some r → e = .int n → G) → G) e hi (fun n h k => k n h rfl) h k
  · exact dead_o hi h
noncomputable def rstr (e : SV) (F : Str → Option α) : Option α := if h : e.ctorIdx = 3 then SV.str.elim (motive := fun _ => Option α) e h F else none
theorem inv_rs {e : SV} {F : Str → Option α} {r : α} (h : rstr e F = some r) (k : ∀ x, F x = some r → e = .str x → G) : G := by
  by_cases hi : e.ctorIdx = 3
  · exact SV.str.elim (motive := fun e => rstr e F = some r → (∀ x, F x = some r → e = .str x → G) → G) e hi (fun x h k => k x h rfl) h k
  · exact dead_o hi h
noncomputable def rf (e : SV) (F : Nat → Option α) : Option α := if h : e.ctorIdx = 4 then SV.ref.elim (motive := fun _ => Option α) e h F else none
theorem inv_rf {e : SV} {F : Nat → Option α} {r : α} (h : rf e F = some r) (k : ∀ n, F n = some r → e = .ref n → G) : G := by
  by_cases hi : e.ctorIdx = 4
  · exact SV.ref.elim (motive := fun e => rf e F = some r → (∀ n, F n = some r → e = .ref n → G) → G) e hi (fun n h k => k n h rfl) h k
  · exact dead_o hi h
noncomputable def rc (e : SV) (F : Value → Option α) : Option α := if h : e.ctorIdx = 5 then SV.con.elim (motive := fun _ => Option α) e h F else none
theorem inv_rc {e : SV} {F : Value → Option α} {r : α} (h : rc e F = some r) (k : ∀ v, F v = some r → e = .con v → G) : G := by
  by_cases hi : e.ctorIdx = 5
  · exact SV.con.elim (motive := fun e => rc e F = some r → (∀ v, F v = some r → e = .con v → G) → G) e hi (fun v h k => k v h rfl) h k
  · exact dead_o hi h
noncomputable def vRef (e : Value) (F : Nat → Option α) : Option α := if h : e.ctorIdx = 10 then Value.ref.elim (motive := fun _ => Option α) e h F else none
theorem inv_vref {e : Value} {F : Nat → Option α} {r : α} (h : vRef e F = some r) (k : ∀ n, F n = some r → e = .ref n → G) : G := by
  by_cases hi : e.ctorIdx = 10
  · exact Value.ref.elim (motive := fun e => vRef e F = some r → (∀ n, F n = some r → e = .ref n → G) → G) e hi (fun n h k => k n h rfl) h k
  · exact dead_o hi h
noncomputable def soList (e : SO) (F : List SV → Option α) : Option α := if h : e.ctorIdx = 0 then SO.list.elim (motive := fun _ => Option α) e h F else none
theorem inv_sl {e : SO} {F : List SV → Option α} {r : α} (h : soList e F = some r) (k : ∀ l, F l = some r → e = .list l → G) : G := by
  by_cases hi : e.ctorIdx = 0
  · exact SO.list.elim (motive := fun e => soList e F = some r → (∀ l, F l = some r → e = .list l → G) → G) e hi (fun l h k => k l h rfl) h k
  · exact dead_o hi h
noncomputable def soTup (e : SO) (F : List SV → Option α) : Option α := if h : e.ctorIdx = 1 then SO.tup.elim (motive := fun _ => Option α) e h F else none
theorem inv_st {e : SO} {F : List SV → Option α} {r : α} (h : soTup e F = some r) (k : ∀ l, F l = some r → e = .tup l → G) : G := by
  by_cases hi : e.ctorIdx = 1
  · exact SO.tup.elim (motive := fun e => soTup e F = some r → (∀ l, F l = some r → e = .tup l → G) → G) e hi (fun l h k => k l h rfl) h k
  · exact dead_o hi h
noncomputable def soInst (e : SO) (F : Addr → Nat → Option α) : Option α := if h : e.ctorIdx = 2 then SO.inst.elim (motive := fun _ => Option α) e h F else none
theorem inv_si {e : SO} {F : Addr → Nat → Option α} {r : α} (h : soInst e F = some r) (k : ∀ C n, F C n = some r → e = .inst C n → G) : G := by
  by_cases hi : e.ctorIdx = 2
  · exact SO.inst.elim (motive := fun e => soInst e F = some r → (∀ C n, F C n = some r → e = .inst C n → G) → G) e hi (fun C n h k => k C n h rfl) h k
  · exact dead_o hi h
noncomputable def soDict (e : SO) (F : List (Str × SV) → Option α) : Option α := if h : e.ctorIdx = 3 then SO.dict.elim (motive := fun _ => Option α) e h F else none
theorem inv_sd {e : SO} {F : List (Str × SV) → Option α} {r : α} (h : soDict e F = some r) (k : ∀ es, F es = some r → e = .dict es → G) : G := by
  by_cases hi : e.ctorIdx = 3
  · exact SO.dict.elim (motive := fun e => soDict e F = some r → (∀ es, F es = some r → e = .dict es → G) → G) e hi (fun es h k => k es h rfl) h k
  · exact dead_o hi h
noncomputable def soTab (e : SO) (F : List (Str × SV) → Option α) : Option α := if h : e.ctorIdx = 4 then SO.tab.elim (motive := fun _ => Option α) e h F else none
theorem inv_stb {e : SO} {F : List (Str × SV) → Option α} {r : α} (h : soTab e F = some r) (k : ∀ es, F es = some r → e = .tab es → G) : G := by
  by_cases hi : e.ctorIdx = 4
  · exact SO.tab.elim (motive := fun e => soTab e F = some r → (∀ es, F es = some r → e = .tab es → G) → G) e hi (fun es h k => k es h rfl) h k
  · exact dead_o hi h
noncomputable def soShelf (e : SO) (F : Nat → Option α) : Option α := if h : e.ctorIdx = 5 then SO.shelf.elim (motive := fun _ => Option α) e h F else none
theorem inv_ss {e : SO} {F : Nat → Option α} {r : α} (h : soShelf e F = some r) (k : ∀ j, F j = some r → e = .shelf j → G) : G := by
  by_cases hi : e.ctorIdx = 5
  · exact SO.shelf.elim (motive := fun e => soShelf e F = some r → (∀ j, F j = some r → e = .shelf j → G) → G) e hi (fun j h k => k j h rfl) h k
  · exact dead_o hi h
noncomputable def soRng (e : SO) (F : Nat → Option α) : Option α := if h : e.ctorIdx = 7 then SO.rng.elim (motive := fun _ => Option α) e h F else none
theorem inv_sr {e : SO} {F : Nat → Option α} {r : α} (h : soRng e F = some r) (k : ∀ n, F n = some r → e = .rng n → G) : G := by
  by_cases hi : e.ctorIdx = 7
  · exact SO.rng.elim (motive := fun e => soRng e F = some r → (∀ n, F n = some r → e = .rng n → G) → G) e hi (fun n h k => k n h rfl) h k
  · exact dead_o hi h
noncomputable def soItem (e : SO) (F : Nat → Option α) : Option α := if h : e.ctorIdx = 8 then SO.item.elim (motive := fun _ => Option α) e h F else none
theorem inv_item {e : SO} {F : Nat → Option α} {r : α} (h : soItem e F = some r) (k : ∀ i, F i = some r → e = .item i → G) : G := by
  by_cases hi : e.ctorIdx = 8
  · exact SO.item.elim (motive := fun e => soItem e F = some r → (∀ i, F i = some r → e = .item i → G) → G) e hi (fun i h k => k i h rfl) h k
  · exact dead_o hi h
noncomputable def opGrab (e : Op) (F : Int → Int → Option α) : Option α := if h : e.ctorIdx = 0 then Op.grab.elim (motive := fun _ => Option α) e h F else none
theorem inv_og {e : Op} {F : Int → Int → Option α} {r : α} (h : opGrab e F = some r) (k : ∀ b g, F b g = some r → e = .grab b g → G) : G := by
  by_cases hi : e.ctorIdx = 0
  · exact Op.grab.elim (motive := fun e => opGrab e F = some r → (∀ b g, F b g = some r → e = .grab b g → G) → G) e hi (fun b g h k => k b g h rfl) h k
  · exact dead_o hi h
noncomputable def opTag (e : Op) (F : Bool → Option α) : Option α := if h : e.ctorIdx = 1 then Op.tag.elim (motive := fun _ => Option α) e h F else none
theorem inv_ot {e : Op} {F : Bool → Option α} {r : α} (h : opTag e F = some r) (k : ∀ b, F b = some r → e = .tag b → G) : G := by
  by_cases hi : e.ctorIdx = 1
  · exact Op.tag.elim (motive := fun e => opTag e F = some r → (∀ b, F b = some r → e = .tag b → G) → G) e hi (fun b h k => k b h rfl) h k
  · exact dead_o hi h
noncomputable def opArg (e : Op) (F : Option α) : Option α := if h : e.ctorIdx = 2 then Op.arg.elim (motive := fun _ => Option α) e h F else none
theorem inv_oa {e : Op} {F : Option α} {r : α} (h : opArg e F = some r) (k : F = some r → e = .arg → G) : G := by
  by_cases hi : e.ctorIdx = 2
  · exact Op.arg.elim (motive := fun e => opArg e F = some r → (F = some r → e = .arg → G) → G) e hi (fun h k => k h rfl) h k
  · exact dead_o hi h
noncomputable def oName (e : Expr) (F : Str → Pos → Option α) : Option α := if h : e.ctorIdx = 23 then Expr.Name.elim (motive_1 := fun _ => Option α) e h F else none
theorem inv_name {e : Expr} {F : Str → Pos → Option α} {r : α} (h : oName e F = some r) (k : ∀ x p, F x p = some r → e = .Name x p → G) : G := by
  by_cases hi : e.ctorIdx = 23
  · exact Expr.Name.elim (motive_1 := fun e => oName e F = some r → (∀ x p, F x p = some r → e = .Name x p → G) → G) e hi (fun x p h k => k x p h rfl) h k
  · exact dead_o hi h
noncomputable def oAttr (e : Expr) (F : Expr → Str → Pos → Option α) : Option α := if h : e.ctorIdx = 20 then Expr.Attribute.elim (motive_1 := fun _ => Option α) e h F else none
theorem inv_attr {e : Expr} {F : Expr → Str → Pos → Option α} {r : α} (h : oAttr e F = some r) (k : ∀ b x p, F b x p = some r → e = .Attribute b x p → G) : G := by
  by_cases hi : e.ctorIdx = 20
  · exact Expr.Attribute.elim (motive_1 := fun e => oAttr e F = some r → (∀ b x p, F b x p = some r → e = .Attribute b x p → G) → G) e hi (fun b x p h k => k b x p h rfl) h k
  · exact dead_o hi h
noncomputable def oConst (e : Expr) (F : Const → Nat → Pos → Option α) : Option α := if h : e.ctorIdx = 19 then Expr.Constant.elim (motive_1 := fun _ => Option α) e h F else none
theorem inv_const {e : Expr} {F : Const → Nat → Pos → Option α} {r : α} (h : oConst e F = some r) (k : ∀ c q p, F c q p = some r → e = .Constant c q p → G) : G := by
  by_cases hi : e.ctorIdx = 19
  · exact Expr.Constant.elim (motive_1 := fun e => oConst e F = some r → (∀ c q p, F c q p = some r → e = .Constant c q p → G) → G) e hi (fun c q p h k => k c q p h rfl) h k
  · exact dead_o hi h
noncomputable def oComp (e : Expr) (F : Expr → List CmpOp → List Expr → Pos → Option α) : Option α := if h : e.ctorIdx = 15 then Expr.Compare.elim (motive_1 := fun _ => Option α) e h F else none
theorem inv_comp {e : Expr} {F : Expr → List CmpOp → List Expr → Pos → Option α} {r : α} (h : oComp e F = some r) (k : ∀ l ops es p, F l ops es p = some r → e = .Compare l ops es p → G) : G := by
  by_cases hi : e.ctorIdx = 15
  · exact Expr.Compare.elim (motive_1 := fun e => oComp e F = some r → (∀ l ops es p, F l ops es p = some r → e = .Compare l ops es p → G) → G) e hi (fun l ops es p h k => k l ops es p h rfl) h k
  · exact dead_o hi h
noncomputable def oBoolOp (e : Expr) (F : BoolOp → List Expr → Pos → Option α) : Option α := if h : e.ctorIdx = 0 then Expr.BoolOp.elim (motive_1 := fun _ => Option α) e h F else none
theorem inv_boolop {e : Expr} {F : BoolOp → List Expr → Pos → Option α} {r : α} (h : oBoolOp e F = some r) (k : ∀ op es p, F op es p = some r → e = .BoolOp op es p → G) : G := by
  by_cases hi : e.ctorIdx = 0
  · exact Expr.BoolOp.elim (motive_1 := fun e => oBoolOp e F = some r → (∀ op es p, F op es p = some r → e = .BoolOp op es p → G) → G) e hi (fun op es p h k => k op es p h rfl) h k
  · exact dead_o hi h
noncomputable def oList (e : Expr) (F : List Expr → Pos → Option α) : Option α := if h : e.ctorIdx = 24 then Expr.List.elim (motive_1 := fun _ => Option α) e h F else none
theorem inv_list {e : Expr} {F : List Expr → Pos → Option α} {r : α} (h : oList e F = some r) (k : ∀ es p, F es p = some r → e = .List es p → G) : G := by
  by_cases hi : e.ctorIdx = 24
  · exact Expr.List.elim (motive_1 := fun e => oList e F = some r → (∀ es p, F es p = some r → e = .List es p → G) → G) e hi (fun es p h k => k es p h rfl) h k
  · exact dead_o hi h
noncomputable def oCall (e : Expr) (F : Expr → List Expr → List Keyword → Pos → Option α) : Option α := if h : e.ctorIdx = 16 then Expr.Call.elim (motive_1 := fun _ => Option α) e h F else none
theorem inv_call {e : Expr} {F : Expr → List Expr → List Keyword → Pos → Option α} {r : α} (h : oCall e F = some r) (k : ∀ f es kws p, F f es kws p = some r → e = .Call f es kws p → G) : G := by
  by_cases hi : e.ctorIdx = 16
  · exact Expr.Call.elim (motive_1 := fun e => oCall e F = some r → (∀ f es kws p, F f es kws p = some r → e = .Call f es kws p → G) → G) e hi (fun f es kws p h k => k f es kws p h rfl) h k
  · exact dead_o hi h
noncomputable def oCNone (e : Const) (F : Option α) : Option α := if h : e.ctorIdx = 0 then Const.none.elim (motive := fun _ => Option α) e h F else none
theorem inv_cnone {e : Const} {F : Option α} {r : α} (h : oCNone e F = some r) (k : F = some r → e = .none → G) : G := by
  by_cases hi : e.ctorIdx = 0
  · exact Const.none.elim (motive := fun e => oCNone e F = some r → (F = some r → e = .none → G) → G) e hi (fun h k => k h rfl) h k
  · exact dead_o hi h
noncomputable def oCInt (e : Const) (F : Int → Option α) : Option α := if h : e.ctorIdx = 2 then Const.int.elim (motive := fun _ => Option α) e h F else none
theorem inv_cint {e : Const} {F : Int → Option α} {r : α} (h : oCInt e F = some r) (k : ∀ i, F i = some r → e = .int i → G) : G := by
  by_cases hi : e.ctorIdx = 2
  · exact Const.int.elim (motive := fun e => oCInt e F = some r → (∀ i, F i = some r → e = .int i → G) → G) e hi (fun i h k => k i h rfl) h k
  · exact dead_o hi h
noncomputable def oCStr (e : Const) (F : Str → Option α) : Option α := if h : e.ctorIdx = 5 then Const.str.elim (motive := fun _ => Option α) e h F else none
theorem inv_cstr {e : Const} {F : Str → Option α} {r : α} (h : oCStr e F = some r) (k : ∀ x, F x = some r → e = .str x → G) : G := by
  by_cases hi : e.ctorIdx = 5
  · exact Const.str.elim (motive := fun e => oCStr e F = some r → (∀ x, F x = some r → e = .str x → G) → G) e hi (fun x h k => k x h rfl) h k
  · exact dead_o hi h
noncomputable def oEq (e : CmpOp) (F : Option α) : Option α := if h : e.ctorIdx = 0 then CmpOp.Eq.elim (motive := fun _ => Option α) e h F else none
theorem inv_eq {e : CmpOp} {F : Option α} {r : α} (h : oEq e F = some r) (k : F = some r → e = .Eq → G) : G := by
  by_cases hi : e.ctorIdx = 0
  · exact CmpOp.Eq.elim (motive := fun e => oEq e F = some r → (F = some r → e = .Eq → G) → G) e hi (fun h k => k h rfl) h k
  · exact dead_o hi h
noncomputable def oAnd (e : BoolOp) (F : Option α) : Option α := if h : e.ctorIdx = 0 then BoolOp.And.elim (motive := fun _ => Option α) e h F else none
theorem inv_and {e : BoolOp} {F : Option α} {r : α} (h : oAnd e F = some r) (k : F = some r → e = .And → G) : G := by
  by_cases hi : e.ctorIdx = 0
  · exact BoolOp.And.elim (motive := fun e => oAnd e F = some r → (F = some r → e = .And → G) → G) e hi (fun h k => k h rfl) h k
  · exact dead_o hi h
noncomputable def nxt (e : SF) (F : Option α) : Option α := if h : e.ctorIdx = 0 then SF.next.elim (motive := fun _ => Option α) e h F else none
theorem inv_nxt {e : SF} {F : Option α} {r : α} (h : nxt e F = some r) (k : F = some r → e = .next → G) : G := by
  by_cases hi : e.ctorIdx = 0
  · exact SF.next.elim (motive := fun e => nxt e F = some r → (F = some r → e = .next → G) → G) e hi (fun h k => k h rfl) h k
  · exact dead_o hi h
noncomputable def oUn (e : Expr) (F : UnaryOp → Expr → Pos → Option α) : Option α := if h : e.ctorIdx = 3 then @Expr.UnaryOp.elim (fun _ => Option α) e h F else none
theorem inv_un {e : Expr} {F : UnaryOp → Expr → Pos → Option α} {r : α} (h : oUn e F = some r) (k : ∀ op b p, F op b p = some r → e = .UnaryOp op b p → G) : G := by
  by_cases hi : e.ctorIdx = 3
  · exact @Expr.UnaryOp.elim (fun (e : Expr) => oUn e F = some r → (∀ op b p, F op b p = some r → e = .UnaryOp op b p → G) → G) e hi (fun op b p h k => k op b p h rfl) h k
  · exact dead_o hi h
noncomputable def oSubs (e : Expr) (F : Expr → Expr → Pos → Option α) : Option α := if h : e.ctorIdx = 21 then @Expr.Subscript.elim (fun _ => Option α) e h F else none
theorem inv_subs {e : Expr} {F : Expr → Expr → Pos → Option α} {r : α} (h : oSubs e F = some r) (k : ∀ b i p, F b i p = some r → e = .Subscript b i p → G) : G := by
  by_cases hi : e.ctorIdx = 21
  · exact @Expr.Subscript.elim (fun (e : Expr) => oSubs e F = some r → (∀ b i p, F b i p = some r → e = .Subscript b i p → G) → G) e hi (fun b i p h k => k b i p h rfl) h k
  · exact dead_o hi h
noncomputable def oTuple (e : Expr) (F : List Expr → Nat → Pos → Option α) : Option α := if h : e.ctorIdx = 25 then @Expr.Tuple.elim (fun _ => Option α) e h F else none
theorem inv_tuple {e : Expr} {F : List Expr → Nat → Pos → Option α} {r : α} (h : oTuple e F = some r) (k : ∀ es q p, F es q p = some r → e = .Tuple es q p → G) : G := by
  by_cases hi : e.ctorIdx = 25
  · exact @Expr.Tuple.elim (fun (e : Expr) => oTuple e F = some r → (∀ es q p, F es q p = some r → e = .Tuple es q p → G) → G) e hi (fun es q p h k => k es q p h rfl) h k
  · exact dead_o hi h
noncomputable def rbi (e : SV) (F : Nat → Option α) : Option α := if h : e.ctorIdx = 8 then @SV.bi.elim (fun _ => Option α) e h F else none
theorem inv_rbi {e : SV} {F : Nat → Option α} {r : α} (h : rbi e F = some r) (k : ∀ n, F n = some r → e = .bi n → G) : G := by
  by_cases hi : e.ctorIdx = 8
  · exact @SV.bi.elim (fun (e : SV) => rbi e F = some r → (∀ n, F n = some r → e = .bi n → G) → G) e hi (fun n h k => k n h rfl) h k
  · exact dead_o hi h
noncomputable def opNot (e : UnaryOp) (F : Option α) : Option α := if h : e.ctorIdx = 1 then @UnaryOp.Not.elim (fun _ => Option α) e h F else none
theorem inv_not {e : UnaryOp} {F : Option α} {r : α} (h : opNot e F = some r) (k : F = some r → e = .Not → G) : G := by
  by_cases hi : e.ctorIdx = 1
  · exact @UnaryOp.Not.elim (fun (e : UnaryOp) => opNot e F = some r → (F = some r → e = .Not → G) → G) e hi (fun h k => k h rfl) h k
  · exact dead_o hi h
noncomputable def opNeg (e : UnaryOp) (F : Option α) : Option α := if h : e.ctorIdx = 3 then @UnaryOp.USub.elim (fun _ => Option α) e h F else none
theorem inv_neg {e : UnaryOp} {F : Option α} {r : α} (h : opNeg e F = some r) (k : F = some r → e = .USub → G) : G := by
  by_cases hi : e.ctorIdx = 3
  · exact @UnaryOp.USub.elim (fun (e : UnaryOp) => opNeg e F = some r → (F = some r → e = .USub → G) → G) e hi (fun h k => k h rfl) h k
  · exact dead_o hi h
noncomputable def opAdd (e : Operator) (F : Option α) : Option α := if h : e.ctorIdx = 0 then @Operator.Add.elim (fun _ => Option α) e h F else none
theorem inv_add {e : Operator} {F : Option α} {r : α} (h : opAdd e F = some r) (k : F = some r → e = .Add → G) : G := by
  by_cases hi : e.ctorIdx = 0
  · exact @Operator.Add.elim (fun (e : Operator) => opAdd e F = some r → (F = some r → e = .Add → G) → G) e hi (fun h k => k h rfl) h k
  · exact dead_o hi h
noncomputable def dSlice (e : Expr) (F : Option Expr → Option Expr → Option Expr → Pos → Option α) (d : Option α) : Option α := if h : e.ctorIdx = 26 then @Expr.Slice.elim (fun _ => Option α) e h F else d
theorem inv_dslice {e : Expr} {F : Option Expr → Option Expr → Option Expr → Pos → Option α} {d : Option α} {r : α} (h : dSlice e F d = some r) (k : ∀ lo hi st p, F lo hi st p = some r → e = .Slice lo hi st p → G) (k2 : d = some r → ¬ e.ctorIdx = 26 → G) : G := by
  by_cases hx : e.ctorIdx = 26
  · exact @Expr.Slice.elim (fun (e : Expr) => dSlice e F d = some r → (∀ lo hi st p, F lo hi st p = some r → e = .Slice lo hi st p → G) → G) e hx (fun lo hi st p h k => k lo hi st p h rfl) h k
  · exact k2 ((dif_neg hx).symm.trans h) hx
noncomputable def dLC (e : Expr) (F : Expr → List Comprehension → Scope → Pos → Option α) (d : Option α) : Option α := if h : e.ctorIdx = 8 then @Expr.ListComp.elim (fun _ => Option α) e h F else d
theorem inv_dlc {e : Expr} {F : Expr → List Comprehension → Scope → Pos → Option α} {d : Option α} {r : α} (h : dLC e F d = some r) (k : ∀ elt gs sc p, F elt gs sc p = some r → e = .ListComp elt gs sc p → G) (k2 : d = some r → ¬ e.ctorIdx = 8 → G) : G := by
  by_cases hi : e.ctorIdx = 8
  · exact @Expr.ListComp.elim (fun (e : Expr) => dLC e F d = some r → (∀ elt gs sc p, F elt gs sc p = some r → e = .ListComp elt gs sc p → G) → G) e hi (fun elt gs sc p h k => k elt gs sc p h rfl) h k
  · exact k2 ((dif_neg hi).symm.trans h) hi
noncomputable def oo (x y : Option α) : Option α := @Option.rec α (fun _ => Option α) y some x
theorem oo_inv {x y : Option α} {b : α} (h : oo x y = some b) : x = some b ∨ y = some b := by
  cases x with
  | none => exact .inr h
  | some a => exact .inl h
noncomputable def cons_ (l : List β) (F : Option α) : Option α := match l with
  | [] => none
  | _ :: _ => F
theorem inv_cons {l : List β} {F : Option α} {r : α} (h : cons_ l F = some r) (k : ∀ a m, F = some r → l = a :: m → G) : G := match l, h, k with
  | a :: m, h, k => k a m h rfl
noncomputable def one (l : List β) (F : β → Option α) : Option α := match l with
  | [a] => F a
  | _ => none
theorem inv_one {l : List β} {F : β → Option α} {r : α} (h : one l F = some r) (k : ∀ a, F a = some r → l = [a] → G) : G := match l, h, k with
  | [a], h, k => k a h rfl
noncomputable def two (l : List β) : Option (β × β) := match l with
  | [a, b] => some (a, b)
  | _ => none
theorem two_eq {l : List β} {a b : β} (h : two l = some (a, b)) : l = [a, b] := match l, h with
  | [_, _], rfl => rfl
noncomputable def nil_ (l : List β) (F : Option α) : Option α := match l with
  | [] => F
  | _ :: _ => none
theorem inv_nil {l : List β} {F : Option α} {r : α} (h : nil_ l F = some r) (k : F = some r → l = [] → G) : G := match l, h, k with
  | [], h, k => k h rfl
theorem fin1 {P : α → Prop} {a a' : α} (h : some a = some a') (k : P a) : P a' := Option.some.inj h ▸ k
theorem fin2 {P : α → β → Prop} {a a' : α} {b b' : β} (h : some (a, b) = some (a', b')) (k : P a b) : P a' b' := by
  cases h; exact k
theorem fin3 {P : α → β → γ → Prop} {a a' : α} {b b' : β} {c c' : γ} (h : some (a, b, c) = some (a', b', c')) (k : P a b c) : P a' b' c' := by
  cases h; exact k
theorem inv_b {b : Bool} {X : Option α} {r : α} (h : gd b X = some r) (k : X = some r → b = true → G) : G := match b, h, k with
  | true, h, k => k h rfl
theorem inv_bT {b X : Bool} (h : gdT b X = true) (k : X = true → b = true → G) : G := match b, h, k with
  | true, h, k => k h rfl
theorem inv_nb {b : Bool} {X : Option α} {r : α} (h : ng b X = some r) (k : X = some r → b = false → G) : G := match b, h, k with
  | false, h, k => k h rfl
theorem inv_nbT {b X : Bool} (h : ngT b X = true) (k : X = true → b = false → G) : G := match b, h, k with
  | false, h, k => k h rfl
theorem inv_o {o : Option β} {F : β → Option α} {r : α} (h : bd o F = some r) (k : ∀ v, F v = some r → o = some v → G) : G := match o, h, k with
  | some v, h, k => k v h rfl
theorem inv_oT {o : Option β} {F : β → Bool} (h : bdT o F = true) (k : ∀ v, F v = true → o = some v → G) : G := match o, h, k with
  | some v, h, k => k v h rfl
theorem inv_f {o : Option β} {f : Option β → Option α} {r : α} (h : f o = some r) (e : f none = none) (k : ∀ v, f (some v) = some r → o = some v → G) : G := match o, h, k with
  | some v, h, k => k v h rfl
  | none, h, _ => nomatch e.symm.trans h
theorem inv_fT {o : Option β} {f : Option β → Bool} (h : f o = true) (e : f none = false) (k : ∀ v, f (some v) = true → o = some v → G) : G := match o, h, k with
  | some v, h, k => k v h rfl
  | none, h, _ => nomatch e.symm.trans h
theorem inv_g {b : Bool} {f : Bool → Option α} {r : α} (h : f b = some r) (e : f false = none) (k : f true = some r → b = true → G) : G := match b, h, k with
  | true, h, k => k h rfl
  | false, h, _ => nomatch e.symm.trans h
theorem inv_no {o : Option β} {X : Option α} {r : α} (h : nn o X = some r) (k : X = some r → o = none → G) : G := match o, h, k with
  | none, h, k => k h rfl
theorem inv_o2 {o : Option (β × γ)} {F : β → γ → Option α} {r : α} (h : bd2 o F = some r) (k : ∀ a b, F a b = some r → o = some (a, b) → G) : G := match o, h, k with
  | some (a, b), h, k => k a b h rfl
theorem inv_o3 {o : Option (β × γ × δ)} {F : β → γ → δ → Option α} {r : α} (h : bd3 o F = some r) (k : ∀ a b c, F a b c = some r → o = some (a, b, c) → G) : G := match o, h, k with
  | some (a, b, c), h, k => k a b c h rfl
end
noncomputable section
/-- names -/
noncomputable def globE (x : Str) : Option SV := match lkS glTab x with
  | some v => some (.con v)
  | none => bd (lkS blTab x) (fun n => some (.bi n))
noncomputable def isCellE (q : FnS) (x : Str) : Bool := memS x (cellNames q)
noncomputable def nmK (q : FnS) (σ : List (Str × SV)) (x : Str) : Option NameKind → Option SV
  | some .local => lkS σ x
  | some .cell => gd (isCellE q x) (lkS σ x)
  | some .globalImplicit => globE x
  | _ => none
noncomputable def nmE (q : FnS) (σ : List (Str × SV)) (x : Str) : Option SV := ng (seq x dbg) (nmK q σ x (lkS q.sc.names x))
noncomputable def bkK (nm : Str → Option SV) (vars : List (Str × SV)) (x : Str) : Option NameKind → Option SV
  | some .local => lkS vars x
  | some .free => nm x
  | some .globalImplicit => globE x
  | _ => none
noncomputable def bkE (nm : Str → Option SV) (scope : Scope) (vars : List (Str × SV)) (x : Str) : Option SV := ng (seq x dbg) (ng (seq x cdict) (bkK nm vars x (lkS scope.names x)))
noncomputable def stK (q : FnS) (x : Str) : Option NameKind → Bool
  | some .local => !(isCellE q x)
  | some .cell => isCellE q x && decide (cellNames q).Nodup
  | _ => false
noncomputable def stE (q : FnS) (x : Str) : Bool := stK q x (lkS q.sc.names x)
/-- arguments -/
noncomputable def evL (E : Ob → Nat → Expr → RE) : List Expr → Ob → Nat → RL
  | [], o, n => some ([], o, n)
  | e :: es, o, n => gd (noStar e) (bd3 (E o n e) (fun a o₁ n₁ => bd3 (evL E es o₁ n₁) (fun l o₂ n₂ => some (a :: l, o₂, n₂))))
noncomputable def mkList (r : RL) : RE := bd3 (r) (fun l o n => gd (ltS l 1000) (some (.ref n, (n, .list l) :: o, n.succ)))
noncomputable def mkTup (r : RL) : RE := bd3 (r) (fun l o n => gd (ltS l 1000) (some (.ref n, (n, .tup l) :: o, n.succ)))
noncomputable def memN (C : Nat) (l : List Nat) : Bool := @List.rec Nat (fun _ => Bool) false (fun D _ ih => @Bool.rec (fun _ => Bool) ih true (Nat.beq C D)) l
/-- attributes -/
noncomputable def memAt (C : Nat) (x : Str) : List (Addr × Str) → Bool
  | [] => false
  | (D, y) :: l => match Nat.beq C D with
    | true => match seq x y with
      | true => true
      | false => memAt C x l
    | false => memAt C x l
noncomputable def dictO (x : Option SO) : Option (List (Str × SV)) := bd x fun so => soDict so some
noncomputable def attrR (a : SV) : Option SV := gd (handedS a) (some a)
noncomputable def attrO (o : Ob) (x : Str) (y : Option SO) : Option SV := bd y fun s => oo (soInst s fun C dn => gd (memN C clsTab) (gd (memAt C x attrTab) (bd (dictO (lkN o dn)) (fun es => bd (lkS es x) (fun a => attrR a))))) (soItem s fun _ => gd (seq x (Str.ofString "kind")) (some .kind))
noncomputable def eAttr (o : Ob) (a : SV) (x : Str) : Option SV := rf a (fun n => attrO o x (lkN o n))
noncomputable def setAO (o : Ob) (x : Str) (v : SV) (y : Option SO) : Option Ob := bd y fun so => soInst so fun C dn => gd (memN C clsTab) (gd (memAt C x attrTab) (bd (dictO (lkN o dn)) (fun es => gd (ltS es 100) (some (stN dn (.dict (ptS x v es)) o)))))
noncomputable def eSetA (o : Ob) (a : SV) (x : Str) (v : SV) : Option Ob := rf a (fun n => setAO o x v (lkN o n))
noncomputable def setL : List SV → Nat → SV → List SV
  | [], _, _ => []
  | _ :: l, 0, a => a :: l
  | b :: l, n + 1, a => b :: setL l n a
noncomputable def setIO (o : Ob) (n : Nat) (i v : SV) (y : Option SO) : Option Ob := bd y fun s => oo (soList s fun l => ri i (fun j => bd (natI j) (fun k => gd (Nat.blt k l.length) (gd (ltS l 1000) (some (stN n (.list (setL l k v)) o)))))) (soTab s fun es => rstr i (fun x => nn (lkS es x) (gd (ltS es 100) (some (stN n (.tab (es ++ [(x, v)])) o)))))
noncomputable def eSetI (o : Ob) (a i v : SV) : Option Ob := rf a (fun n => setIO o n i v (lkN o n))
/-- comparisons: of two lists only what is surely equal -/
noncomputable def eCmp (o : Ob) (op : CmpOp) (a b : SV) : Option Bool := match evCmp o op a b with
  | some c => some c
  | none => gd (eqT 9 o a b) (cmpQ op)
/-- slices -/
noncomputable def partS : SV → Option (Option Nat)
  | .none => some none
  | .int i => bd (natI i) (fun k => some (some k))
  | _ => none
noncomputable def takeL : List SV → Nat → List SV
  | [], _ => []
  | _ :: _, 0 => []
  | a :: l, n + 1 => a :: takeL l n
noncomputable def dropL : List SV → Nat → List SV
  | [], _ => []
  | a :: l, 0 => a :: l
  | _ :: l, n + 1 => dropL l n
noncomputable def cutL (l : List SV) : Option Nat → Option Nat → Option (List SV)
  | none, some j => some (takeL l j)
  | some j, none => some (dropL l j)
  | _, _ => none
noncomputable def sliceO (o : Ob) (nx : Nat) (a lo hi : SV) : RE := rf a (fun n => bd (listO (lkN o n)) (fun l => gd (ltS l 1000) (bd (partS lo) (fun x => bd (partS hi) (fun y => bd (cutL l x y) (fun l' => some (.ref nx, (nx, .list l') :: o, nx.succ)))))))
noncomputable def evPart (E : Ob → Nat → Expr → RE) (e : Option Expr) (o : Ob) (n : Nat) : RE := match e with
  | none => some (.none, o, n)
  | some e => E o n e
/-- calls -/
noncomputable def bindE (q : FnS) (svs : List SV) : Option (List (Str × SV)) := gd (Nat.ble svs.length q.ps.length) (gd (Nat.ble (q.ps.length - svs.length) q.ds.length) (some (q.ps.zip (svs ++ q.ds.drop (q.ds.length - (q.ps.length - svs.length))))))
/-- what a call leaves behind: only what its result reaches -/
noncomputable def refsL : List SV → List Nat → List Nat
  | [], t => t
  | a :: l, t => match a with
    | .ref n => n :: refsL l t
    | _ => refsL l t
noncomputable def refsD : List (Str × SV) → List Nat → List Nat
  | [], t => t
  | p :: l, t => match p.2 with
    | .ref n => n :: refsD l t
    | _ => refsD l t
noncomputable def refsO (t : List Nat) : Option SO → List Nat
  | some (.list l) => refsL l t
  | some (.tup l) => refsL l t
  | some (.inst _ n) => n :: t
  | some (.dict es) => refsD es t
  | some (.tab es) => refsD es t
  | _ => t
noncomputable def reach (o : Ob) (nx : Nat) : Nat → List Nat → List Nat → List Nat
  | 0, _, seen => seen
  | k + 1, todo, seen => match todo with
    | [] => seen
    | n :: t => match Nat.blt n nx with
      | true => reach o nx k t seen
      | false => match memN n seen with
        | true => reach o nx k t seen
        | false => reach o nx k (refsO t (lkN o n)) (n :: seen)
noncomputable def gcF (seen : List Nat) (nx : Nat) (l : Ob) : Ob := @List.rec (Nat × SO) (fun _ => Ob) [] (fun p l ih => @Bool.rec (fun _ => Ob) (@Bool.rec (fun _ => Ob) ih (p :: ih) (memN p.1 seen)) (p :: l) (Nat.blt p.1 nx)) l
noncomputable def gcV (a : SV) (o : Ob) (nx : Nat) : Ob := match a with
  | .ref n => gcF (reach o nx 400 [n] []) nx o
  | _ => gcF [] nx o
noncomputable def gcC (f : Nat) (a : SV) (o : Ob) (nx : Nat) : Ob := match Nat.beq f 326 with
  | true => o
  | false => gcV a o nx
noncomputable def callF (r : Rec) (q : FnS) (svs : List SV) (o : Ob) (nx : Nat) : RE := bd (bindE q svs) (fun bs => bd2 (r.S q ⟨bs.reverse, o, nx⟩ q.body) (fun f st => some (f.val, gcC q.f f.val st.objs nx, st.nx)))
noncomputable def makeC (r : Rec) (C : Nat) (q : FnS) (svs : List SV) (o : Ob) (nx : Nat) : RE := bd (bindE q (.ref (nx + 1) :: svs)) (fun bs => bd2 (r.S q ⟨bs.reverse, (nx + 1, .inst C nx) :: (nx, .dict []) :: o, nx + 2⟩ q.body) (fun f_ st => nxt f_ <| some (.ref (nx + 1), st.objs, st.nx)))
noncomputable def getOp : List Op → Nat → Option Op
  | [], _ => none
  | a :: _, 0 => some a
  | _ :: l, n + 1 => getOp l n
/-- what is known of a call without running it -/
noncomputable abbrev HR := RE
noncomputable def shareO (n : Nat) (o : Ob) (nx : Nat) (x : Option SO) : HR := bd x fun so => soItem so fun _ => some (.ref n, o, nx)
noncomputable def shownO' (n : Nat) (o : Ob) (nx : Nat) (x : Option SO) : HR := bd x fun so => soItem so fun i => some (.ref nx, (nx, .shown i) :: o, nx.succ)
noncomputable def grabO (c : Cfg) (n : Nat) (b : Int) (o : Ob) (nx : Nat) (x : Option SO) : HR := bd x fun so => soShelf so fun j => bd (getOp c.ops j) fun op => opGrab op fun b' g => gd (decide (b = b')) (some (.int g, stN n (.shelf j.succ) o, nx))
noncomputable def argO (c : Cfg) (n : Nat) (o : Ob) (nx : Nat) (x : Option SO) : HR := bd x fun so => soShelf so fun j => bd (getOp c.ops j) fun op => opArg op (some (.ref nx, (nx, .item j) :: stN n (.shelf j.succ) o, nx.succ))
noncomputable def hook1 (c : Cfg) (f n : Nat) (o : Ob) (nx : Nat) : HR := match Nat.beq f 359 with
  | true => shareO n o nx (lkN o n)
  | false => match Nat.beq f 477 with
    | true => shownO' n o nx (lkN o n)
    | false => gd (Nat.beq f 472) (argO c n o nx (lkN o n))
noncomputable def hook2 (c : Cfg) (f n : Nat) (b : Int) (o : Ob) (nx : Nat) : HR := gd (Nat.beq f 465) (grabO c n b o nx (lkN o n))
/-- the known ways in which arguments are matched: formals, tags, which argument each formal takes -/
structure TakeP where
  fs : List Str
  ts : List (Option Str)
  out : List (Option Nat)
noncomputable def sX : Str := Str.ofString "x"
noncomputable def sFun : Str := Str.ofString "fun"
noncomputable def sEnvir : Str := Str.ofString "envir"
noncomputable def sValue : Str := Str.ofString "value"
noncomputable def takeTab : List TakeP := [⟨[sX], [some sX], [some 0]⟩, ⟨[sX], [none], [some 0]⟩, ⟨[sX, sEnvir], [none], [some 0, none]⟩, ⟨[sFun], [none], [some 0]⟩, ⟨[sFun], [some sFun], [some 0]⟩,
  ⟨[sFun, sEnvir], [some sFun], [some 0, none]⟩, ⟨[sFun, sEnvir, sValue], [none, some sValue], [some 0, none, some 1]⟩]
noncomputable def rowO (x : Option SO) : Option (SV × Nat) := bd x fun so => soTup so fun l => bd2 (two l) fun a b => rf b fun v => some (a, v)
noncomputable def rowsO (o : Ob) : List SV → Option (List (SV × Nat))
  | [] => some []
  | a :: l => rf a (fun t => bd (rowO (lkN o t)) (fun p => bd (rowsO o l) (fun r => some (p :: r))))
noncomputable def eqFs : List Str → List SV → Bool
  | [], [] => true
  | x :: xs, a :: l => match a with
    | .str y => gdT (seq x y) (eqFs xs l)
    | _ => false
  | _, _ => false
noncomputable def eqTg : List (Option Str) → List (SV × Nat) → Bool
  | [], [] => true
  | x :: xs, p :: l => match x with
    | none => match p.1 with
      | .none => eqTg xs l
      | _ => false
    | some x => match p.1 with
      | .str y => gdT (seq x y) (eqTg xs l)
      | _ => false
  | _, _ => false
noncomputable def getR : List (SV × Nat) → Nat → SV
  | [], _ => .none
  | p :: _, 0 => .ref p.2
  | _ :: l, n + 1 => getR l n
noncomputable def pickT (rows : List (SV × Nat)) : List (Option Nat) → List SV
  | [] => []
  | none :: l => .none :: pickT rows l
  | some i :: l => getR rows i :: pickT rows l
noncomputable def takeF : List TakeP → List SV → List (SV × Nat) → Option TakeP
  | [], _, _ => none
  | p :: l, fs, rows => match eqFs p.fs fs with
    | true => match eqTg p.ts rows with
      | true => some p
      | false => takeF l fs rows
    | false => takeF l fs rows
noncomputable def takeH (o : Ob) (nx n m : Nat) : HR := bd (lkN o n) fun so => soList so fun args => bd (lkN o m) fun so' => soList so' fun fs => bd (rowsO o args) (fun rows => bd (takeF takeTab fs rows) (fun p => some (.ref nx, (nx, .list (pickT rows p.out)) :: o, nx.succ)))
noncomputable def hook3 (f n m : Nat) (o : Ob) (nx : Nat) : HR := gd (Nat.beq f 169) (takeH o nx n m)
noncomputable def hook (c : Cfg) (f : Nat) (svs : List SV) (o : Ob) (nx : Nat) : HR := gd (c.hk) (match svs with
    | [.ref n] => hook1 c f n o nx
    | [.ref n, .int b] => hook2 c f n b o nx
    | [.ref n, .ref m] => hook3 f n m o nx
    | _ => none)
noncomputable def callR (r : Rec) (c : Cfg) (f : Nat) (svs : List SV) (o : Ob) (nx : Nat) : RE := match hook c f svs o nx with
  | some x => some x
  | none => match lkN c.ini f with
    | some q => makeC r f q svs o nx
    | none => bd (lkN c.fns f) (fun q => callF r q svs o nx)
noncomputable def isiN (C : Nat) : List (Addr × Bool) → Option Bool
  | [] => none
  | (D, c) :: l => match Nat.beq C D with
    | true => some c
    | false => isiN C l
noncomputable def isiO (o : Ob) (x : Option SO) : Option Bool := bd x fun so => soInst so fun C dn => bd (dictO (lkN o dn)) (fun _ => isiN C isiTab)
noncomputable def callB0' (svs : List SV) (o : Ob) (nx : Nat) : RE := one svs fun a => rf a fun n => bd (listO (lkN o n)) (fun l => gd (ltS l 1000) (some (.int (Int.ofNat l.length), o, nx)))
noncomputable def callB1' (svs : List SV) (o : Ob) (nx : Nat) : RE := one svs fun a => ri a fun j => bd (natI j) (fun m => some (.ref nx, (nx, .rng m) :: o, nx.succ))
noncomputable def callB2' (svs : List SV) (o : Ob) (nx : Nat) : RE := one svs fun a => rf a fun n => bd (listO (lkN o n)) (fun l => gd (ltS l 1000) (some (.ref nx, (nx, .list l) :: o, nx.succ)))
noncomputable def callB3' (svs : List SV) (o : Ob) (nx : Nat) : RE := bd2 (two svs) fun a b => rf a fun n => rc b fun v => vRef v fun d => gd (Nat.beq d 236) (bd (isiO o (lkN o n)) (fun c => some (.bool c, o, nx)))
noncomputable def callB (b : Nat) (svs : List SV) (o : Ob) (nx : Nat) : RE := match b with
  | 0 => callB0' svs o nx
  | 1 => callB1' svs o nx
  | 2 => callB2' svs o nx
  | 3 => callB3' svs o nx
  | _ => none
noncomputable def keepN : List Nat := [28, 33, 40, 45, 169, 134, 163, 75, 186, 207, 236, 257, 279, 301, 312, 319, 326, 331, 338, 345, 352, 359, 366, 380, 387, 392, 397, 404, 411, 416, 423, 430, 437, 444, 451, 458, 465, 472, 477, 482, 489, 494]
/-- a call by name -/
noncomputable def callN (r : Rec) (c : Cfg) (cx : Cx) (o : Ob) (nx : Nat) (v : SV) (es : List Expr) : RE := oo (rc v fun w => vRef w fun f => gd (memN f keepN) (bd3 (evL (r.E cx) es o nx) (fun l o₁ n₁ => callR r c f l o₁ n₁))) (rbi v fun b => cons_ es (bd3 (evL (r.E cx) es o nx) (fun l o₁ n₁ => callB b l o₁ n₁)))
noncomputable def sAppend : Str := Str.ofString "append"
noncomputable def sGet : Str := Str.ofString "get"
noncomputable def methN (C : Nat) (x : Str) : List (Addr × Str × Addr) → Option Nat
  | [] => none
  | (D, y, g) :: l => match Nat.beq C D with
    | true => match seq x y with
      | true => some g
      | false => methN C x l
    | false => methN C x l
noncomputable def lst1 (x : Option SO) : Option (List SV) := bd x fun so => soList so some
theorem lst1_eq {x : Option SO} {l : List SV} (h : lst1 x = some l) : x = some (.list l) := by
  refine inv_o h ?_; clear h; intro so h e
  refine inv_sl h ?_; clear h; intro l' h e'; subst e'
  cases h; exact e
/-- a method of one argument -/
noncomputable def meth1 (r : Rec) (c : Cfg) (o : Ob) (nx : Nat) (n : Nat) (name : Str) (so : Option SO) (a : SV) (o₁ : Ob) (n₁ : Nat) : RE := bd so fun s => oo (soInst s fun C dn => gd (memN C clsTab) (bd (dictO (lkN o dn)) (fun es => nn (lkS es name) (bd (methN C name methTab) (fun g => callR r c g [.ref n, a] o₁ n₁)))))
  (oo (soList s fun _ => gd (seq name sAppend) (bd (lst1 (lkN o₁ n)) (fun l => gd (ltS l 1000) (some (.none, stN n (.list (l ++ [a])) o₁, n₁))))) (soTab s fun _ => gd (seq name sGet) (rstr a (fun x => bd (tabO (lkN o₁ n)) (fun es => some ((lkS es x).getD .none, o₁, n₁))))))
noncomputable def meth0 (r : Rec) (c : Cfg) (o : Ob) (nx : Nat) (n : Nat) (name : Str) (x : Option SO) : RE := bd x fun so => soInst so fun C dn => gd (memN C clsTab) (bd (dictO (lkN o dn)) (fun es => nn (lkS es name) (bd (methN C name methTab) (fun g => callR r c g [.ref n] o nx))))
noncomputable def callM (r : Rec) (c : Cfg) (cx : Cx) (o : Ob) (nx : Nat) (b : Expr) (name : Str) (apos pos : Pos) (es : List Expr) : RE := gd (attrBase b) (gd (Nat.beq apos.endLine pos.line) (bd3 (r.E cx o nx b) (fun a_ o₁ n₁ => rf a_ fun n => match es with
        | [] => meth0 r c o₁ n₁ n name (lkN o₁ n)
        | [e] => gd (noStar e) (bd3 (r.E cx o₁ n₁ e) (fun a o₂ n₂ => meth1 r c o₁ n₁ n name (lkN o₁ n) a o₂ n₂))
        | _ => none)))
noncomputable def eCall (r : Rec) (c : Cfg) (cx : Cx) (o : Ob) (nx : Nat) (f : Expr) (es : List Expr) (pos : Pos) : RE := oo (oName f fun x _ => bd (cx.nm x) (fun v => callN r c cx o nx v es)) (oAttr f fun b name apos => callM r c cx o nx b name apos pos es)
/-- comprehensions -/
noncomputable def frees (cells : List Str) : List (Str × NameKind) → Bool
  | [] => true
  | (x, .free) :: l => gdT (memS x cells) (frees cells l)
  | _ :: l => frees cells l
noncomputable def isLocK : Option NameKind → Bool
  | some .local => true
  | _ => false
noncomputable def isFreeK : Option NameKind → Bool
  | some .free => true
  | _ => false
noncomputable def scOk (scope : Scope) (cells : List Str) : Bool := match scope.kind with
  | .function => gdT ((scope.names.all fun p => p.2 != .cell)) (gdT ((scope.names.all fun p => p.2 != .local || isLocK (lkS scope.names p.1))) (gdT ((scope.names.all fun p => p.2 != .free || isFreeK (lkS scope.names p.1))) (frees cells scope.names)))
  | _ => false
noncomputable def locS (scope : Scope) (x : Str) : Bool := isLocK (lkS scope.names x)
noncomputable def turnsL (E : SV → Ob → Nat → RE) (n j : Nat) : List SV → Ob → Nat → RL
  | [], o, m => some ([], o, m)
  | a :: l, o, m => bd3 (E a o m) (fun r o₁ n₁ => gd (fixAt o₁ n j) (bd3 (turnsL E n j l o₁ n₁) (fun rs o₂ n₂ => some (r :: rs, o₂, n₂))))
noncomputable def pairO (x : Option SO) : Option (SV × SV) := bd x fun so => soTup so fun l => two l
noncomputable def pairE (E : SV → SV → Ob → Nat → RE) (a : SV) (o : Ob) (m : Nat) : RE := rf a (fun t => bd2 (pairO (lkN o t)) (fun u v => E u v o m))
noncomputable def turnsR (E : Nat → Ob → Nat → RE) : Nat → Nat → Ob → Nat → RL
  | 0, _, o, m => some ([], o, m)
  | k + 1, i, o, m => bd3 (E i o m) (fun r o₁ n₁ => bd3 (turnsR E k (i + 1) o₁ n₁) (fun rs o₂ n₂ => some (r :: rs, o₂, n₂)))
noncomputable def turnsN (T : Nat → Ob → Nat → RT) : Nat → Nat → Ob → Nat → Option (Ob × Nat)
  | 0, _, o, m => some (o, m)
  | k + 1, i, o, m => bd3 (T i o m) (fun b o₁ n₁ => ng b (turnsN T k (i + 1) o₁ n₁))
noncomputable def rngO (x : Option SO) : Option Nat := bd x fun so => soRng so fun m => gd (Nat.ble m 1000) (some m)
noncomputable def compF (S : SrcS) (r : RL) : RE := bd3 (r) (fun rs o n => bd (srcBack S o) (fun o' => some (.ref n, (n, .list rs) :: o', n.succ)))
noncomputable def compR (r : RL) : RE := bd3 (r) (fun rs o n => some (.ref n, (n, .list rs) :: o, n.succ))
/-- over what -/
noncomputable def compS (o : Ob) (n : Nat) : Option SrcS := bd (srcO o n) (fun S => gd (ltS S.l 1000) (some S))
noncomputable def comp1 (r : Rec) (cx : Cx) (elt : Expr) (x : Str) (scope : Scope) (o : Ob) (nx n : Nat) : RE := match rngO (lkN o n) with
  | some m => compR (turnsR (fun i o m => r.E ⟨bkE cx.nm scope [(x, .int (Int.ofNat i))], []⟩ o m elt) m 0 o nx)
  | none => bd (compS o n) (fun S => compF S (turnsL (fun a o m => r.E ⟨bkE cx.nm scope [(x, a)], []⟩ o m elt) n S.j S.l S.objs nx))
noncomputable def comp1T (r : Rec) (cx : Cx) (ct : Expr) (x : Str) (scope : Scope) (o : Ob) (nx n : Nat) : RE := bd (rngO (lkN o n)) (fun m => bd2 (turnsN (fun i o m => r.T ⟨bkE cx.nm scope [(x, .int (Int.ofNat i))], []⟩ o m ct) m 0 o nx) (fun o' n' => some (.ref n', (n', .list []) :: o', n'.succ)))
noncomputable def comp2 (r : Rec) (cx : Cx) (elt : Expr) (x y : Str) (scope : Scope) (o : Ob) (nx n : Nat) : RE := bd (compS o n) (fun S => compF S (turnsL (pairE fun a b o m => r.E ⟨bkE cx.nm scope [(x, a), (y, b)], []⟩ o m elt) n S.j S.l S.objs nx))
noncomputable def pr2 (es : List Expr) : Option (Str × Str) := bd2 (two es) fun a b => oName a fun x _ => oName b fun y _ => some (x, y)
theorem pr2_eq {es : List Expr} {x y : Str} (h : pr2 es = some (x, y)) : ∃ px py, es = [.Name x px, .Name y py] := by
  refine inv_o2 h ?_; clear h; intro a b h h1
  refine inv_name h ?_; clear h; intro x' px h e; subst e
  refine inv_name h ?_; clear h; intro y' py h e; subst e
  cases h; exact ⟨px, py, two_eq h1⟩
noncomputable def compN (r : Rec) (cx : Cx) (elt : Expr) (x : Str) (ifs : List Expr) (scope : Scope) (o : Ob) (nx n : Nat) : RE := match ifs with
  | [] => comp1 r cx elt x scope o nx n
  | [ct] => comp1T r cx ct x scope o nx n
  | _ => none
noncomputable def compT (r : Rec) (cx : Cx) (elt : Expr) (target : Expr) (ifs : List Expr) (scope : Scope) (o : Ob) (nx n : Nat) : RE := oo (oName target fun x _ => gd (locS scope x) (compN r cx elt x ifs scope o nx n)) (oTuple target fun es _ _ => nil_ ifs (bd2 (pr2 es) (fun x y => gd (locS scope x) (gd (locS scope y) (ng (seq x y) (comp2 r cx elt x y scope o nx n))))))
noncomputable def eComp (r : Rec) (cx : Cx) (elt : Expr) (g : Comprehension) (scope : Scope) (o : Ob) (nx : Nat) : RE := gd (scOk scope cx.cells) (gd (noSet g.iter) (gd (decide (g.is_async = 0)) (bd3 (r.E cx o nx g.iter) (fun a_ o₁ n₁ => rf a_ fun n => compT r cx elt g.target g.ifs scope o₁ n₁ n))))
/-- one expression -/
noncomputable def eSubP (r : Rec) (cx : Cx) (o : Ob) (nx : Nat) (a : SV) (e' : Expr) : RE := bd3 (r.E cx o nx e') (fun b o₁ n₁ => gd (smallI b) (bd (evItem o₁ a b) (fun v => some (v, o₁, n₁))))
noncomputable def eSubS (r : Rec) (cx : Cx) (o : Ob) (nx : Nat) (a : SV) (lo hi : Option Expr) : RE := bd3 (evPart (r.E cx) lo o nx) (fun vl o₁ n₁ => bd3 (evPart (r.E cx) hi o₁ n₁) (fun vu o₂ n₂ => sliceO o₂ n₂ a vl vu))
noncomputable def eSub (r : Rec) (cx : Cx) (o : Ob) (nx : Nat) (a : SV) (e' : Expr) : RE := dSlice e' (fun lo hi st _ => nn st (eSubS r cx o nx a lo hi)) (eSubP r cx o nx a e')
noncomputable def eConst : Const → Option SV
  | .none => some .none
  | .bool b => some (.bool b)
  | .int i => some (.int i)
  | .str x => some (.str x)
  | _ => none
noncomputable def eDict (r : Rec) (cx : Cx) (o : Ob) (nx : Nat) (ks : List (Option Expr)) (vs : List Expr) : RE := oo (nil_ ks (nil_ vs (some (.ref nx, (nx, .tab []) :: o, nx.succ)))) (one ks fun k => bd k fun e => oConst e fun c _ _ => oCStr c fun x => one vs fun e => bd3 (r.E cx o nx e) (fun a o₁ n₁ => some (.ref n₁, (n₁, .tab [(x, a)]) :: o₁, n₁.succ)))
noncomputable def eCompare (r : Rec) (cx : Cx) (o : Ob) (nx : Nat) (e : Expr) (ops : List CmpOp) (es : List Expr) : RT := one ops fun op => one es fun e' => gd (noSet e') (bd3 (r.E cx o nx e) (fun a o₁ n₁ => bd3 (r.E cx o₁ n₁ e') (fun b o₂ n₂ => bd (eCmp o₂ op a b) (fun c => some (c, o₂, n₂)))))
noncomputable def eUn (r : Rec) (cx : Cx) (o : Ob) (nx : Nat) (op : UnaryOp) (e : Expr) : RE := bd3 (r.E cx o nx e) (fun a o₁ n₁ => oo (rb a fun b => opNot op (some (.bool (!b), o₁, n₁))) (ri a fun i => opNeg op (some (.int (-i), o₁, n₁))))
noncomputable def andV (E : Ob → Nat → Expr → RE) : List Expr → Expr → Ob → Nat → RE
  | [], e, o, n => E o n e
  | e' :: es, e, o, n => bd3 (E o n e) (fun a o₁ n₁ => rb a fun b => bb b (andV E es e' o₁ n₁) (some (.bool false, o₁, n₁)))
noncomputable def orV (E : Ob → Nat → Expr → RE) : List Expr → Expr → Ob → Nat → RE
  | [], e, o, n => E o n e
  | e' :: es, e, o, n => bd3 (E o n e) (fun a o₁ n₁ => rb a fun b => bb b (some (.bool true, o₁, n₁)) (orV E es e' o₁ n₁))
noncomputable def eBool (r : Rec) (cx : Cx) (o : Ob) (nx : Nat) (op : BoolOp) (es : List Expr) : RE := match es with
  | [] => none
  | e :: es => match op with
    | .And => andV (r.E cx) es e o nx
    | .Or => orV (r.E cx) es e o nx
noncomputable def boolE (r : RT) : RE := bd3 (r) (fun b o n => some (.bool b, o, n))
noncomputable def attrB (e : Expr) : Option Unit := oo (oName e fun _ _ => some ()) (oo (oAttr e fun _ _ _ => some ()) (oo (oSubs e fun _ _ _ => some ()) (oCall e fun f es _ _ => oName f fun _ _ => cons_ es (some ()))))
noncomputable def attrBase2 (e : Expr) : Bool := bdT (attrB e) fun _ => true
/-- [None, 'a', 'b'][_law_grab(shelf, 3)]: nothing, or a text of one letter that is left open -/
noncomputable def three (l : List Expr) : Option (Expr × Expr × Expr) := match l with
  | [a, b, c] => some (a, b, c)
  | _ => none
theorem three_eq {l : List Expr} {a b c : Expr} (h : three l = some (a, b, c)) : l = [a, b, c] := match l, h with
  | [_, _, _], rfl => rfl
noncomputable def isTagL (es : List Expr) : Option Unit := bd3 (three es) fun u v w => oConst u fun k0 _ _ => oCNone k0 (oConst v fun k1 _ _ => oCStr k1 fun a => oConst w fun k2 _ _ => oCStr k2 fun b => gd (seq a (Str.ofString "a") && seq b (Str.ofString "b")) (some ()))
noncomputable def tagC (e : Expr) : Option (Str × Str) := oCall e fun f es kws _ => nil_ kws (oName f fun f _ => bd2 (two es) fun u v => oName u fun x _ => oConst v fun k _ _ => oCInt k fun i => gd (decide (i = 3)) (some (f, x)))
noncomputable def tagR (b : Bool) (o : Ob) (nx : Nat) : HR := match b with
  | false => some (.none, o, nx.succ)
  | true => some (.txt nx.succ, o, nx.succ.succ)
noncomputable def tagO (c : Cfg) (n : Nat) (o : Ob) (nx : Nat) (x : Option SO) : HR := bd x fun so => soShelf so fun j => bd (getOp c.ops j) fun op => opTag op fun b => ng (Nat.beq n nx) (tagR b (stN n (.shelf j.succ) o) nx)
noncomputable def refN (x : Option SV) : Option Nat := bd x fun v => rf v some
noncomputable def conN (x : Option SV) : Option Nat := bd x fun v => rc v fun w => vRef w some
noncomputable def tagP (c : Cfg) (cx : Cx) (o : Ob) (nx : Nat) (f x : Str) : HR := bd (conN (cx.nm f)) (fun g => gd (Nat.beq g 465) (bd (refN (cx.nm x)) (fun n => tagO c n o nx (lkN o n))))
noncomputable def eTag (c : Cfg) (cx : Cx) (o : Ob) (nx : Nat) (e e' : Expr) : HR := gd (c.hk) (oList e fun es _ => bd (isTagL es) fun _ => bd2 (tagC e') fun f x => tagP c cx o nx f x)
noncomputable def eName (cx : Cx) (o : Ob) (nx : Nat) (x : Str) : RE := bd (cx.nm x) (fun a => some (a, o, nx))
noncomputable def eConstR (o : Ob) (nx : Nat) (k : Const) : RE := bd (eConst k) (fun a => some (a, o, nx))
noncomputable def eAttrR (r : Rec) (cx : Cx) (o : Ob) (nx : Nat) (e : Expr) (x : Str) : RE := gd (attrBase2 e) (bd3 (r.E cx o nx e) (fun a o₁ n₁ => bd (eAttr o₁ a x) (fun v => some (v, o₁, n₁))))
noncomputable def eBinR (r : Rec) (cx : Cx) (o : Ob) (nx : Nat) (e : Expr) (op : Operator) (e' : Expr) : RE := bd3 (r.E cx o nx e) (fun a o₁ n₁ => bd3 (r.E cx o₁ n₁ e') (fun b o₂ n₂ => evBin o₂ n₂ op a b))
noncomputable def eSubR (c : Cfg) (r : Rec) (cx : Cx) (o : Ob) (nx : Nat) (e e' : Expr) : RE := match eTag c cx o nx e e' with
  | some x => some x
  | none => bd3 (r.E cx o nx e) (fun a o₁ n₁ => eSub r cx o₁ n₁ a e')
noncomputable def eIfR (r : Rec) (cx : Cx) (o : Ob) (nx : Nat) (t b e : Expr) : RE := bd3 (r.T cx o nx t) (fun c o₁ n₁ => bb c (r.E cx o₁ n₁ b) (r.E cx o₁ n₁ e))
noncomputable def eCompR (r : Rec) (cx : Cx) (o : Ob) (nx : Nat) (elt : Expr) (gs : List Comprehension) (scope : Scope) : RE := match gs with
  | [g] => eComp r cx elt g scope o nx
  | _ => none
noncomputable def eCallR (c : Cfg) (r : Rec) (cx : Cx) (o : Ob) (nx : Nat) (f : Expr) (es : List Expr) (kws : List Keyword) (pos : Pos) : RE := match kws with
  | [] => eCall r c cx o nx f es pos
  | _ :: _ => none
noncomputable def stepE (c : Cfg) (r : Rec) (cx : Cx) (o : Ob) (nx : Nat) : Expr → RE
  | .Name x _ => eName cx o nx x
  | .Constant k _ _ => eConstR o nx k
  | .List es _ => mkList (evL (r.E cx) es o nx)
  | .Tuple es _ _ => mkTup (evL (r.E cx) es o nx)
  | .Attribute e x _ => eAttrR r cx o nx e x
  | .BinOp e op e' _ => eBinR r cx o nx e op e'
  | .Compare e ops es _ => boolE (eCompare r cx o nx e ops es)
  | .UnaryOp op e _ => eUn r cx o nx op e
  | .BoolOp op es _ => eBool r cx o nx op es
  | .Subscript e e' _ => eSubR c r cx o nx e e'
  | .IfExp t b e _ => eIfR r cx o nx t b e
  | .Dict ks vs _ => eDict r cx o nx ks vs
  | .ListComp elt gs scope _ => eCompR r cx o nx elt gs scope
  | .Call f es kws pos => eCallR c r cx o nx f es kws pos
  | _ => none
/-- one test -/
noncomputable def andL (T : Ob → Nat → Expr → RT) : List Expr → Ob → Nat → RT
  | [], o, n => some (true, o, n)
  | e :: es, o, n => bd3 (T o n e) (fun b o₁ n₁ => bb b (andL T es o₁ n₁) (some (false, o₁, n₁)))
noncomputable def orL (T : Ob → Nat → Expr → RT) : List Expr → Ob → Nat → RT
  | [], o, n => some (false, o, n)
  | e :: es, o, n => bd3 (T o n e) (fun b o₁ n₁ => bb b (some (true, o₁, n₁)) (orL T es o₁ n₁))
noncomputable def asBool (r : RE) : RT := bd3 r (fun a o n => rb a fun b => some (b, o, n))
/-- x.kind == k -/
noncomputable def cmpX (e : Expr) : Option (Str × Str × Str) := oComp e fun l ops es _ => oAttr l fun b a _ => oName b fun x _ => one ops fun op => oEq op (one es fun c => oConst c fun kc _ _ => oCStr kc fun k => some (x, a, k))
theorem cmpX_eq {e : Expr} {x a k : Str} (h : cmpX e = some (x, a, k)) : ∃ px pa q p pc, e = .Compare (.Attribute (.Name x px) a pa) [.Eq] [.Constant (.str k) q p] pc := by
  refine inv_comp h ?_; clear h; intro l ops es pc h e0; subst e0
  refine inv_attr h ?_; clear h; intro b a' pa h e0; subst e0
  refine inv_name h ?_; clear h; intro x' px h e0; subst e0
  refine inv_one h ?_; clear h; intro op h e0; subst e0
  refine inv_eq h ?_; clear h; intro h e0; subst e0
  refine inv_one h ?_; clear h; intro c h e0; subst e0
  refine inv_const h ?_; clear h; intro kc q p h e0; subst e0
  refine inv_cstr h ?_; clear h; intro k' h e0; subst e0
  cases h
  exact ⟨px, pa, q, p, pc, rfl⟩
noncomputable def namelessX (e : Expr) : Option Str := oBoolOp e fun op es _ => oAnd op (bd2 (two es) fun e1 e2 => bd3 (cmpX e1) fun x a k => bd3 (cmpX e2) fun y b z => gd (seq x y && (seq a (Str.ofString "kind") && (seq k (Str.ofString "symbol") && (seq b (Str.ofString "name") && seq z (Str.ofString ""))))) (some x))
noncomputable def isNamelessO (cx : Cx) (o : Ob) (e : Expr) : Option Unit := bd (namelessX e) fun x => bd (cx.nm x) fun v => rf v fun n => bd (lkN o n) fun so => soItem so fun _ => some ()
noncomputable def isNameless (cx : Cx) (o : Ob) (e : Expr) : Bool := bdT (isNamelessO cx o e) (fun _ => true)
noncomputable def sT0 (r : Rec) (cx : Cx) (o : Ob) (nx : Nat) (op : BoolOp) (es : List Expr) (pos : Pos) : RT := match op with
  | .And => oo (gd (isNameless cx o (.BoolOp .And es pos)) (some (false, o, nx))) (andL (r.T cx) es o nx)
  | .Or => orL (r.T cx) es o nx
noncomputable def stepT (r : Rec) (cx : Cx) (o : Ob) (nx : Nat) (e : Expr) : RT := oo (gd (plainT e) (asBool (r.E cx o nx e))) (oo (oComp e fun e ops es _ => eCompare r cx o nx e ops es) (oo (oBoolOp e fun op es pos => sT0 r cx o nx op es pos) (oUn e fun op e _ => opNot op (bd3 (r.T cx o nx e) (fun b o₁ n₁ => some (!b, o₁, n₁))))))
/-- statements -/
noncomputable def fcx (q : FnS) (σ : List (Str × SV)) : Cx := ⟨nmE q σ, cellNames q⟩
noncomputable def stmts (S : St → Stmt → RS) : List Stmt → St → RS
  | [], st => some (.next, st)
  | t :: l, st => bd2 (S st t) (fun f st' => match f with
    | .next => stmts S l st'
    | .ret a => some (.ret a, st'))
noncomputable def plainLoc (q : FnS) (x : Str) : Bool := gdT (isLocK (lkS q.sc.names x)) (!(isCellE q x))
noncomputable def notLoc (y : Str) : List (Str × NameKind) → Bool
  | [] => true
  | p :: l => ngT (seq p.1 y) (notLoc y l)
noncomputable def compA (r : Rec) (cx : Cx) (elt : Expr) (target : Expr) (ifs : List Expr) (scope : Scope) (o : Ob) (nx n : Nat) : RE := oo (oName target fun x _ => gd (locS scope x) (nil_ ifs (bd (rngO (lkN o n)) (fun _ => comp1 r cx elt x scope o nx n)))) (oTuple target fun es _ _ => nil_ ifs (bd2 (pr2 es) (fun x y => gd (locS scope x) (gd (locS scope y) (ng (seq x y) (comp2 r cx elt x y scope o nx n))))))
noncomputable def eCompA (r : Rec) (cx : Cx) (elt : Expr) (g : Comprehension) (scope : Scope) (o : Ob) (nx : Nat) : RE := gd (scOk scope cx.cells) (gd (noSet g.iter) (gd (decide (g.is_async = 0)) (bd3 (r.E cx o nx g.iter) (fun a_ o₁ n₁ => rf a_ fun n => compA r cx elt g.target g.ifs scope o₁ n₁ n))))
noncomputable def stOf (st : St) (x : Str) (r : RE) : RS := bd3 (r) (fun a o n => some (.next, ⟨(x, a) :: st.σ, gcV a o st.nx, n⟩))
noncomputable def sComp (r : Rec) (q : FnS) (st : St) (x : Str) (p : Pos) (elt : Expr) (gs : List Comprehension) (scope : Scope) (pos : Pos) : RS := match gs with
  | [g] => gd (plainLoc q x) (gd (Nat.beq p.line pos.line) (gd (notLoc x scope.names) (stOf st x (eCompA r (fcx q st.σ) elt g scope st.objs st.nx))))
  | _ => none
noncomputable def sPlain (r : Rec) (q : FnS) (st : St) (x : Str) (e : Expr) : RS := gd (noSwap e) (gd (stE q x) (stOf st x (r.E (fcx q st.σ) st.objs st.nx e)))
noncomputable def sName (r : Rec) (q : FnS) (st : St) (x : Str) (p : Pos) (e : Expr) : RS := dLC e (fun elt gs scope pos => sComp r q st x p elt gs scope pos) (sPlain r q st x e)
noncomputable def sAttr (r : Rec) (q : FnS) (st : St) (b : Expr) (x : Str) (e : Expr) : RS := gd (noSwap e) (bd3 (r.E (fcx q st.σ) st.objs st.nx e) (fun a o n => bd3 (r.E (fcx q st.σ) o n b) (fun v o₁ n₁ => bd (eSetA o₁ v x a) (fun o₂ => some (.next, ⟨st.σ, o₂, n₁⟩)))))
noncomputable def sItm (r : Rec) (q : FnS) (st : St) (b i e : Expr) : RS := gd (noSwap e) (bd3 (r.E (fcx q st.σ) st.objs st.nx e) (fun a o n => bd3 (r.E (fcx q st.σ) o n b) (fun v o₁ n₁ => bd3 (r.E (fcx q st.σ) o₁ n₁ i) (fun j o₂ n₂ => bd (eSetI o₂ v j a) (fun o₃ => some (.next, ⟨st.σ, o₃, n₂⟩))))))
noncomputable def sTpl (r : Rec) (q : FnS) (st : St) (es : List Expr) (e : Expr) : RS := gd (isCallE e) (bd3 (r.E (fcx q st.σ) st.objs st.nx e) (fun a_ o m => rf a_ fun n => bd (seqO (lkN o n)) (fun l => bd (nmsE es) (fun xs => gd (Nat.beq xs.length l.length) (gd (xs.all (stE q)) (some (.next, ⟨bindN xs l st.σ, o, m⟩)))))))
noncomputable def sAssign (r : Rec) (q : FnS) (st : St) (target e : Expr) : RS := oo (oName target fun x p => sName r q st x p e) (oo (oAttr target fun b x _ => sAttr r q st b x e) (oo (oSubs target fun b i _ => sItm r q st b i e) (oTuple target fun es _ _ => sTpl r q st es e)))
noncomputable def sAug (r : Rec) (q : FnS) (st : St) (target : Expr) (op : Operator) (e : Expr) : RS := oName target fun x _ => opAdd op (gd (plainLoc q x) (bd (lkS st.σ x) (fun v => ri v fun i => bd3 (r.E (fcx q st.σ) st.objs st.nx e) (fun a o n => ri a fun j => some (.next, ⟨(x, .int (i + j)) :: st.σ, o, n⟩)))))
/-- one turn of a loop -/
noncomputable def turnB (r : Rec) (q : FnS) (body : List Stmt) (st : St) : Option St := bd2 (r.S q st body) (fun f_ st' => nxt f_ <| some st')
noncomputable def turnS (r : Rec) (q : FnS) (target : Expr) (body : List Stmt) (st : St) (a : SV) : Option St := oo (oName target fun x _ => gd (stE q x) (turnB r q body ⟨(x, a) :: st.σ, st.objs, st.nx⟩)) (oTuple target fun es _ _ => rf a (fun n => bd (seqO (lkN st.objs n)) (fun l => bd (nmsE es) (fun xs => gd (Nat.beq xs.length l.length) (gd (xs.all (stE q)) (turnB r q body ⟨bindN xs l st.σ, st.objs, st.nx⟩))))))
noncomputable def loopS (F : St → SV → Option St) (chk : Ob → Bool) : List SV → St → Option St
  | [], st => some st
  | a :: l, st => bd (F st a) (fun st' => gd (chk st'.objs) (loopS F chk l st'))
noncomputable def sFor (r : Rec) (q : FnS) (st : St) (target iter : Expr) (body : List Stmt) : RS := gd (noSet iter) (bd3 (r.E (fcx q st.σ) st.objs st.nx iter) (fun a_ o m => rf a_ fun n => oo (bd (rngO (lkN o n)) fun k => oName target fun _ _ => bd (loopS (turnS r q target body) (fun _ => true) (rangeS k 0) ⟨st.σ, o, m⟩) (fun st' => some (.next, st')))
  (bd (srcO o n) (fun S => bd (loopS (turnS r q target body) (fun o => fixAt o n S.j) S.l ⟨st.σ, S.objs, m⟩) (fun st' => bd (srcBack S st'.objs) (fun o' => some (.next, ⟨st'.σ, o', st'.nx⟩)))))))
noncomputable def sWhile (r : Rec) (q : FnS) (test : Expr) (body : List Stmt) : Nat → St → Option St
  | 0, _ => none
  | k + 1, st => bd3 (r.T (fcx q st.σ) st.objs st.nx test) (fun c o n => bb c (bd2 (r.S q ⟨st.σ, o, n⟩ body) (fun f_ st' => nxt f_ <| sWhile r q test body k st')) (some ⟨st.σ, o, n⟩))
noncomputable def sRet (r : Rec) (q : FnS) (st : St) (e : Option Expr) : RS := match e with
  | none => some (.ret .none, st)
  | some e => bd3 (r.E (fcx q st.σ) st.objs st.nx e) (fun a o n => some (.ret a, ⟨st.σ, o, n⟩))
noncomputable def sExpr (r : Rec) (q : FnS) (st : St) (e : Expr) : RS := gd (noSwap e) (bd3 (r.E (fcx q st.σ) st.objs st.nx e) (fun _ o n => some (.next, ⟨st.σ, o, n⟩)))
noncomputable def sIf (r : Rec) (q : FnS) (st : St) (e : Expr) (b b' : List Stmt) : RS := bd3 (r.T (fcx q st.σ) st.objs st.nx e) (fun c o n => bb c (r.S q ⟨st.σ, gcF [] st.nx o, n⟩ b) (r.S q ⟨st.σ, gcF [] st.nx o, n⟩ b'))
noncomputable def sOne (r : Rec) (q : FnS) (st : St) (ts : List Expr) (e : Expr) : RS := match ts with
  | [t] => sAssign r q st t e
  | _ => none
noncomputable def sForR (r : Rec) (q : FnS) (st : St) (t i : Expr) (b b' : List Stmt) : RS := match b' with
  | [] => sFor r q st t i b
  | _ :: _ => none
noncomputable def sWhileR (r : Rec) (q : FnS) (st : St) (t : Expr) (b b' : List Stmt) : RS := match b' with
  | [] => bd (sWhile r q t b 9 st) (fun st' => some (.next, st'))
  | _ :: _ => none
noncomputable def stepS (r : Rec) (q : FnS) (st : St) : Stmt → RS
  | .Assign ts e _ => sOne r q st ts e
  | .AugAssign t op e _ => sAug r q st t op e
  | .Return e _ => sRet r q st e
  | .Expr e _ => sExpr r q st e
  | .If e b b' _ => sIf r q st e b b'
  | .For t i b b' _ => sForR r q st t i b b'
  | .While t b b' _ => sWhileR r q st t b b'
  | _ => none
noncomputable def ev (c : Cfg) : Nat → Rec
  | 0 => ⟨fun _ _ _ _ => none, fun _ _ _ _ => none, fun _ _ _ => none⟩
  | n + 1 => ⟨stepE c (ev c n), stepT (ev c n), fun q st l => stmts (stepS (ev c n) q) l st⟩
end
end Mine
end
section
namespace Mine
noncomputable def F28 : FnS := ⟨28, Str.ofString "get_attr", [Str.ofString "v", Str.ofString "name"], [], BF2, CF2, .ref 27⟩
noncomputable def F33 : FnS := ⟨33, Str.ofString "names_of", [Str.ofString "v"], [], BF3, CF3, .ref 32⟩
noncomputable def F40 : FnS := ⟨40, Str.ofString "dim_of", [Str.ofString "v"], [], BF4, CF4, .ref 39⟩
noncomputable def F72 : FnS := ⟨72, Str.ofString "Refusal.__init__", [Str.ofString "self", Str.ofString "message"], [], BM8_0, CM8_0, .ref 71⟩
noncomputable def F91 : FnS := ⟨91, Str.ofString "Matching.__init__", [Str.ofString "self", Str.ofString "formals", Str.ofString "tags"], [], BM10_0, CM10_0, .ref 90⟩
noncomputable def F98 : FnS := ⟨98, Str.ofString "Matching.exact", [Str.ofString "self"], [], BM10_1, CM10_1, .ref 97⟩
noncomputable def F105 : FnS := ⟨105, Str.ofString "Matching.partial", [Str.ofString "self"], [], BM10_2, CM10_2, .ref 104⟩
noncomputable def F112 : FnS := ⟨112, Str.ofString "Matching.partial_of", [Str.ofString "self", Str.ofString "name"], [], BM10_3, CM10_3, .ref 111⟩
noncomputable def F119 : FnS := ⟨119, Str.ofString "Matching.positional", [Str.ofString "self"], [], BM10_4, CM10_4, .ref 118⟩
noncomputable def F126 : FnS := ⟨126, Str.ofString "Matching.is_free", [Str.ofString "self", Str.ofString "place"], [], BM10_5, CM10_5, .ref 125⟩
noncomputable def F131 : FnS := ⟨131, Str.ofString "Matching.rest", [Str.ofString "self"], [], BM10_6, CM10_6, .ref 130⟩
noncomputable def F163 : FnS := ⟨163, Str.ofString "match_names", [Str.ofString "formals", Str.ofString "args", Str.ofString "show"], [.none], BF14, CF14, .ref 162⟩
noncomputable def F169 : FnS := ⟨169, Str.ofString "take", [Str.ofString "args", Str.ofString "formals", Str.ofString "show"], [.none], BF15, CF15, .ref 168⟩
noncomputable def F183 : FnS := ⟨183, Str.ofString "Null.__init__", [Str.ofString "self"], [], BM17_0, CM17_0, .ref 182⟩
noncomputable def F204 : FnS := ⟨204, Str.ofString "Missing.__init__", [Str.ofString "self"], [], BM18_0, CM18_0, .ref 203⟩
noncomputable def F226 : FnS := ⟨226, Str.ofString "Vector.__init__", [Str.ofString "self", Str.ofString "kind", Str.ofString "items", Str.ofString "attrs"], [.none], BM19_0, CM19_0, .ref 225⟩
noncomputable def F254 : FnS := ⟨254, Str.ofString "Symbol.__init__", [Str.ofString "self", Str.ofString "name"], [], BM20_0, CM20_0, .ref 253⟩
noncomputable def F276 : FnS := ⟨276, Str.ofString "Call.__init__", [Str.ofString "self", Str.ofString "items", Str.ofString "tags", Str.ofString "attrs"], [.none], BM21_0, CM21_0, .ref 275⟩
noncomputable def F298 : FnS := ⟨298, Str.ofString "Closure.__init__", [Str.ofString "self", Str.ofString "formals", Str.ofString "body", Str.ofString "env", Str.ofString "attrs"], [.none], BM22_0, CM22_0, .ref 297⟩
noncomputable def F312 : FnS := ⟨312, Str.ofString "null", [], [], BF23, CF23, .ref 311⟩
noncomputable def F319 : FnS := ⟨319, Str.ofString "character", [Str.ofString "items"], [], BF24, CF24, .ref 318⟩
noncomputable def F326 : FnS := ⟨326, Str.ofString "named", [Str.ofString "v", Str.ofString "names"], [], BF25, CF25, .ref 325⟩
noncomputable def F331 : FnS := ⟨331, Str.ofString "pairlist_of", [Str.ofString "items", Str.ofString "names"], [], BF26, CF26, .ref 330⟩
noncomputable def F338 : FnS := ⟨338, Str.ofString "symbol", [Str.ofString "name"], [], BF27, CF27, .ref 337⟩
noncomputable def F345 : FnS := ⟨345, Str.ofString "is_vector", [Str.ofString "v"], [], BF28, CF28, .ref 344⟩
noncomputable def F352 : FnS := ⟨352, Str.ofString "is_function", [Str.ofString "v"], [], BF29, CF29, .ref 351⟩
noncomputable def F359 : FnS := ⟨359, Str.ofString "share", [Str.ofString "v"], [], BF30, CF30, .ref 358⟩
noncomputable def F366 : FnS := ⟨366, Str.ofString "needed", [Str.ofString "value", Str.ofString "name"], [], BF32, CF32, .ref 365⟩
noncomputable def F380 : FnS := ⟨380, Str.ofString "evaluation_env", [Str.ofString "interp", Str.ofString "value", Str.ofString "enclos", Str.ofString "env"], [], BF34, CF34, .ref 379⟩
noncomputable def F387 : FnS := ⟨387, Str.ofString "tagged_items", [Str.ofString "value"], [], BF36, CF36, .ref 386⟩
noncomputable def F392 : FnS := ⟨392, Str.ofString "call_with", [Str.ofString "head", Str.ofString "rows"], [], BF37, CF37, .ref 391⟩
noncomputable def F397 : FnS := ⟨397, Str.ofString "b_call", [Str.ofString "interp", Str.ofString "args", Str.ofString "env"], [], BF38, CF38, .ref 396⟩
noncomputable def F404 : FnS := ⟨404, Str.ofString "b_as_call", [Str.ofString "interp", Str.ofString "args", Str.ofString "env"], [], BF39, CF39, .ref 403⟩
noncomputable def F411 : FnS := ⟨411, Str.ofString "b_body", [Str.ofString "interp", Str.ofString "args", Str.ofString "env"], [], BF40, CF40, .ref 410⟩
noncomputable def F416 : FnS := ⟨416, Str.ofString "b_formals", [Str.ofString "interp", Str.ofString "args", Str.ofString "env"], [], BF41, CF41, .ref 415⟩
noncomputable def F423 : FnS := ⟨423, Str.ofString "needed_closure", [Str.ofString "args"], [], BF42, CF42, .ref 422⟩
noncomputable def F430 : FnS := ⟨430, Str.ofString "b_set_body", [Str.ofString "interp", Str.ofString "args", Str.ofString "env"], [], BF43, CF43, .ref 429⟩
noncomputable def F437 : FnS := ⟨437, Str.ofString "formal_rows", [Str.ofString "value"], [], BF44, CF44, .ref 436⟩
noncomputable def F444 : FnS := ⟨444, Str.ofString "b_set_formals", [Str.ofString "interp", Str.ofString "args", Str.ofString "env"], [], BF45, CF45, .ref 443⟩
noncomputable def F451 : FnS := ⟨451, Str.ofString "b_as_function", [Str.ofString "interp", Str.ofString "args", Str.ofString "env"], [], BF46, CF46, .ref 450⟩
noncomputable def F458 : FnS := ⟨458, Str.ofString "_law_shelf", [Str.ofString "script"], [], BF48, CF48, .ref 457⟩
noncomputable def F465 : FnS := ⟨465, Str.ofString "_law_grab", [Str.ofString "shelf", Str.ofString "bound"], [], BF49, CF49, .ref 464⟩
noncomputable def F472 : FnS := ⟨472, Str.ofString "_law_argument", [Str.ofString "shelf"], [], BF50, CF50, .ref 471⟩
noncomputable def F477 : FnS := ⟨477, Str.ofString "_law_shown", [Str.ofString "value"], [], BF51, CF51, .ref 476⟩
noncomputable def F482 : FnS := ⟨482, Str.ofString "_law_listed", [Str.ofString "items", Str.ofString "tags"], [], BF52, CF52, .ref 481⟩
noncomputable def F489 : FnS := ⟨489, Str.ofString "_law_refused", [Str.ofString "ask", Str.ofString "args"], [], BF53, CF53, .ref 488⟩
noncomputable def F494 : FnS := ⟨494, Str.ofString "_law_formals_told", [Str.ofString "f"], [], BF54, CF54, .ref 493⟩
noncomputable def fnTab : List (Nat × FnS) := [(28, F28), (33, F33), (40, F40), (98, F98), (105, F105), (112, F112), (119, F119), (126, F126), (131, F131), (163, F163), (169, F169), (312, F312), (319, F319), (326, F326), (331, F331), (338, F338), (345, F345), (352, F352), (359, F359), (366, F366), (380, F380), (387, F387), (392, F392), (397, F397), (404, F404), (411, F411), (416, F416), (423, F423), (430, F430), (437, F437), (444, F444), (451, F451), (458, F458), (465, F465), (472, F472), (477, F477), (482, F482), (489, F489), (494, F494)]
noncomputable def iniTab : List (Nat × FnS) := [(134, F91), (186, F183), (207, F204), (236, F226), (257, F254), (279, F276), (301, F298)]
end Mine
end
section
namespace Mine
/-! # The evaluator tells the truth -/
noncomputable def grabR : List Int → Int → Int × List Int
  | [], _ => (0, [])
  | x :: l, b => (x.fmod b, l)
noncomputable def argR (S : List Int) : ItemD × List Int :=
  if (grabR S 4).1 = 0 then (.int (grabR (grabR S 4).2 9).1, (grabR (grabR S 4).2 9).2)
  else if (grabR S 4).1 = 1 then (.chr (if (grabR (grabR S 4).2 3).1 = 0 then Str.ofString "a" else if (grabR (grabR S 4).2 3).1 = 1 then Str.ofString "b" else Str.ofString "c"), (grabR (grabR S 4).2 3).2)
  else if (grabR S 4).1 = 2 then (.sym (if (grabR (grabR S 4).2 3).1 = 0 then Str.ofString "x" else if (grabR (grabR S 4).2 3).1 = 1 then Str.ofString "y" else Str.ofString "z"), (grabR (grabR S 4).2 3).2)
  else (.call, (grabR S 4).2)
noncomputable def OrcOp (X : Xp) (j : Nat) : Op → Prop
  | .grab b g => 0 < b ∧ grabR (X.S j) b = (g, X.S (j + 1))
  | .tag b => ∃ g, grabR (X.S j) 3 = (g, X.S (j + 1)) ∧ (if b then g = 1 ∨ g = 2 else g = 0)
  | .arg => argR (X.S j) = (X.V j, X.S (j + 1))
structure Orc (c : Cfg) (X : Xp) : Prop where
  len : ∀ j, (X.S j).length ≤ 100
  op : ∀ j op, getOp c.ops j = some op → OrcOp X j op
theorem Orc.of {c : Cfg} {X X' : Xp} (h : Orc c X) (e1 : X'.V = X.V) (e2 : X'.S = X.S) : Orc c X' := ⟨fun j => by rw [e2]; exact h.len j, fun j op ho => by
  have := h.op j op ho
  cases op <;> (simp only [OrcOp, e1, e2] at this ⊢; exact this)⟩
structure TabS (w : World) (c : Cfg) : Prop where
  fn : ∀ f q, lkN c.fns f = some q → q.f = f ∧ FnOk w q ∧ cellsOk q = true
  ini : ∀ C q, lkN c.ini C = some q → memN C clsTab = true ∧ findIn (K w.params) (.ref C) "__init__" = some (some (.ref q.f)) ∧ isFn (K w.params) (.ref q.f) = true ∧ FnOk w q ∧ cellsOk q = true
  kp : ∀ f, memN f keepN = true → keepIn (K w.params) (.ref f) = true
structure HookS (w : World) (c : Cfg) : Prop where
  hook : ∀ f svs o nx r o' n', hook c f svs o nx = some (r, o', n') → ∀ (k : EC) nm, k.w = w → Orc c k.X → c.mg ≤ k.b → D k nm o nx svs (fun vs => call (.ref f) vs) Is r o' n'
  tag : ∀ cx o nx e e' r o' n', eTag c cx o nx e e' = some (r, o', n') → ∀ (k : EC) pos, k.w = w → Orc c k.X → c.mg ≤ k.b → DE k cx.nm o nx (.Subscript e e' pos) r o' n'
  kind : ∀ o n i, lkN o n = some (.item i) → ∀ (k : EC) nm nx, k.w = w → D k nm o nx [.ref n] (fun vs => getAttr (vs.headD .none) (Str.ofString "kind") true) Is .kind o nx
  nameless : ∀ cx o nx e, isNameless cx o e = true → ∀ (k : EC), k.w = w → DQ k cx.nm o nx e false o nx
structure Ctx (w : World) (c : Cfg) (n : Nat) (cells : List Str) (k : EC) : Prop where
  hw : k.w = w
  orc : Orc c k.X
  hb : n + c.mg ≤ k.b
  hg : k.env.globals = mainGlobals
  hbu : k.env.builtins = builtinsNs
  cl : ∀ x, memS x cells = true → ∃ a, k.env.cells.lookup x = some a
theorem Ctx.less {w : World} {c : Cfg} {n : Nat} {cells : List Str} {k : EC} (h : Ctx w c (n + 1) cells k) : Ctx w c n cells k := ⟨h.hw, h.orc, by have := h.hb; omega, h.hg, h.hbu, h.cl⟩
noncomputable def SndE (w : World) (c : Cfg) (r : Rec) (n : Nat) : Prop := ∀ cx o nx e a o' n', r.E cx o nx e = some (a, o', n') → ∀ k, Ctx w c n cx.cells k → DE k cx.nm o nx e a o' n'
noncomputable def SndT (w : World) (c : Cfg) (r : Rec) (n : Nat) : Prop := ∀ cx o nx e b o' n', r.T cx o nx e = some (b, o', n') → ∀ k, Ctx w c n cx.cells k → DQ k cx.nm o nx e b o' n'
noncomputable def SndS (w : World) (c : Cfg) (r : Rec) (n : Nat) : Prop := ∀ q st l f st', r.S q st l = some (f, st') → ∀ k : EC, k.w = w → Orc c k.X → n + c.mg ≤ k.b → DS q k st (execs l k.env) f st'
structure Snd (w : World) (c : Cfg) (r : Rec) (n : Nat) : Prop where
  E : SndE w c r n
  T : SndT w c r n
  S : SndS w c r n
/-- names -/
theorem globE_eq : globE = globS := by
  funext x
  unfold globE globS
  have h1 : ∀ l : List (Str × Value), lookT l x = (lkS l x).map SV.con := by
    intro l
    induction l with
    | nil => rfl
    | cons p l ih =>
      obtain ⟨y, v⟩ := p
      unfold lookT
      rw [lkS_cons, ih]
      by_cases e : x = y
      · rw [if_pos e, seq_iff.mpr e]; rfl
      · rw [if_neg e, show seq x y = false from Bool.eq_false_iff.mpr fun q => e (seq_iff.mp q)]
  have h2 : ∀ l : List (Str × Nat), lookB l x = (lkS l x).map SV.bi := by
    intro l
    induction l with
    | nil => rfl
    | cons p l ih =>
      obtain ⟨y, v⟩ := p
      unfold lookB
      rw [lkS_cons, ih]
      by_cases e : x = y
      · rw [if_pos e, seq_iff.mpr e]; rfl
      · rw [if_neg e, show seq x y = false from Bool.eq_false_iff.mpr fun q => e (seq_iff.mp q)]
  rw [h1, h2]
  cases lkS glTab x with
  | some v => rfl
  | none => cases lkS blTab x <;> rfl
theorem memS_isSome {α : Type} {x : Str} : ∀ {l : List (Str × α)}, memS x (l.map (·.1)) = (l.lookup x).isSome
  | [] => rfl
  | (y, a) :: l => by
    rw [List.map_cons, memS_cons, List.lookup_cons, seq_eq]
    cases h : (x == y) with
    | true => rfl
    | false => exact memS_isSome
theorem nmE_eq {q : FnS} {σ : List (Str × SV)} : nmE q σ = nmOf q σ := by
  funext x
  unfold nmE nmOf
  rw [seq_eq, lkS_eq]
  cases h : (x == dbg) with
  | true => rfl
  | false =>
    rw [if_neg (by decide)]
    refine (?_ : nmK q σ x _ = _)
    have hc : isCellE q x = ((cellsFrom 0 q.sc.names []).lookup x).isSome := memS_isSome
    cases hk : q.sc.names.lookup x with
    | none => rfl
    | some kd =>
      cases kd with
      | «local» => exact lkS_eq
      | cell =>
        simp only [nmK, hc, lkS_eq]
        cases ((cellsFrom 0 q.sc.names []).lookup x).isSome <;> rfl
      | globalImplicit => show globE x = _; rw [globE_eq]
      | _ => rfl
theorem bkE_eq {nm : Str → Option SV} {scope : Scope} {vars : List (Str × SV)} : bkE nm scope vars = blkNm nm scope vars := by
  funext x
  unfold bkE blkNm
  rw [seq_eq, seq_eq, lkS_eq]
  cases h : (x == dbg) with
  | true => rfl
  | false =>
    cases h2 : (x == cdict) with
    | true => rfl
    | false =>
      rw [if_neg (by decide)]
      refine (?_ : bkK nm vars x _ = _)
      cases hk : scope.names.lookup x with
      | none => rfl
      | some kd =>
        cases kd with
        | «local» => exact lkS_eq
        | globalImplicit => show globE x = _; rw [globE_eq]
        | _ => rfl
theorem stE_ok {q : FnS} {x : Str} (h : stE q x = true) : stOk q x = true := by
  unfold stE at h
  rw [lkS_eq] at h
  unfold stOk
  have hc : (cellNames q).contains x = isCellE q x := by
    unfold isCellE
    cases hh : memS x (cellNames q) with
    | true => simpa using memS_iff.mp hh
    | false => simpa using fun e => by rw [memS_iff.mpr e] at hh; cases hh
  refine inv_fT h rfl ?_
  clear h; intro kd h hk
  cases kd with
  | «local» => rw [hc, hk]; have h' : (!(isCellE q x)) = true := h; simp [h']
  | cell => rw [hc, hk]; have h' : (isCellE q x && decide (cellNames q).Nodup) = true := h; simp only [Bool.and_eq_true] at h'; simp [h'.1, h'.2]
  | _ => cases h
theorem memN_iff {C : Nat} : ∀ {l : List Nat}, memN C l = true ↔ C ∈ l
  | [] => by simp [memN]
  | D :: l => by
    refine (?_ : @Bool.rec (fun _ => Bool) (memN C l) true (Nat.beq C D) = true ↔ _)
    have := @memN_iff C l
    cases h : Nat.beq C D with
    | true => simp [Nat.eq_of_beq_eq_true h]
    | false => have e : C ≠ D := fun e => by rw [e, Nat.beq_refl] at h; cases h
               simp [e, this]
theorem clsTab_has {C : Nat} (h : memN C clsTab = true) : clsTab.contains C = true := by
  have := memN_iff.mp h
  simpa using this
theorem memAt_mem {C : Nat} {x : Str} : ∀ {l : List (Addr × Str)}, memAt C x l = true → (C, x) ∈ l
  | (D, y) :: l, h => by
    unfold memAt at h
    cases h1 : Nat.beq C D with
    | false => rw [h1] at h; exact .tail _ (memAt_mem h)
    | true =>
      rw [h1] at h
      cases h2 : seq x y with
      | false => rw [h2] at h; exact .tail _ (memAt_mem h)
      | true => rw [Nat.eq_of_beq_eq_true h1, seq_iff.mp h2]; exact .head _
  | [], h => nomatch h
theorem attrTab_has {C : Nat} {x : Str} (h : memAt C x attrTab = true) : attrTab.contains (C, x) = true := by
  have := memAt_mem h
  simpa using this
section
variable {w : World} {c : Cfg} {r : Rec} {n : Nat} {k : EC} {cx : Cx} {o o' o₁ o₂ : Ob} {nx n' n₁ n₂ : Nat} {a b : SV}
/-- arguments -/
theorem evL_ok (hr : SndE w c r n) (hk : Ctx w c n cx.cells k) {pos : Pos} : ∀ {es : List Expr} {o : Ob} {nx : Nat} {l : List SV} {o' : Ob} {n' : Nat}, evL (r.E cx) es o nx = some (l, o', n') → DA k cx.nm o nx pos es l o' n' ∧ es.all noStar = true
  | [], o, nx, l, o', n', h => by cases h; exact ⟨DA_nil, rfl⟩
  | e :: es, o, nx, l, o', n', h => by
    refine inv_b h ?_
    clear h; intro h hs
    refine inv_o3 h ?_
    clear h; intro a o₁ n₁ h hE
    refine inv_o3 h ?_
    clear h; intro l' o₂ n₂ h hL
    cases h
    have ih := evL_ok (pos := pos) hr hk hL
    exact ⟨DA_cons hs (hr _ _ _ _ _ _ _ hE k hk) ih.1, by rw [List.all_cons, hs, ih.2]; rfl⟩
theorem dictO_eq {es : List (Str × SV)} {m : Nat} (h : dictO (lkN o m) = some es) : o.lookup m = some (.dict es) := by
  rw [lkN_eq] at h
  refine inv_o h ?_; clear h; intro so h hh
  refine inv_sd h ?_; clear h; intro es' h e; subst e
  cases h; exact hh
theorem attrR_ok {r : SV} (h : attrR a = some r) : r = a ∧ handedS a = true := by
  refine inv_b h ?_
  clear h; intro h hh
  cases h
  exact ⟨rfl, hh⟩
theorem eAttr_ok {nm : Str → Option SV} {x : Str} {v : SV} (H : HookS w c) (hw : k.w = w) (h : eAttr o a x = some v) : D k nm o nx [a] (fun vs => getAttr (vs.headD .none) x true) Is v o nx := by
  refine inv_rf h ?_; clear h; intro m h e0; subst e0
  have h' : attrO o x (lkN o m) = some v := h
  refine inv_o h' ?_
  clear h'; intro so h' hm
  rcases oo_inv h' with g0 | g0 <;> clear h'
  · refine inv_si g0 ?_; clear g0; intro C dn h' e0; subst e0
    refine inv_b h' ?_
    clear h'; intro h' h1
    refine inv_b h' ?_
    clear h'; intro h' h2
    refine inv_o h' ?_
    clear h'; intro es h' h3
    refine inv_o h' ?_
    clear h'; intro v' h' h4
    obtain ⟨rfl, h5⟩ := attrR_ok h'
    exact D_attr (clsTab_has h1) (attrTab_has h2) (by rw [← lkN_eq]; exact hm) (dictO_eq h3) (by rw [← lkS_eq]; exact h4) h5
  · refine inv_item g0 ?_; clear g0; intro i h' e0; subst e0
    refine inv_b h' ?_
    clear h'; intro h' h1
    cases h'
    rw [seq_iff.mp h1]
    exact H.kind _ _ _ hm k nm nx hw
theorem eSetA_ok {nm : Str → Option SV} {x : Str} {v : SV} (h : eSetA o a x v = some o') : D k nm o nx [a, v] (fun vs => setAttr (vs.headD .none) x (vs.tail.headD .none)) (fun _ (_ : Unit) (_ : Unit) => True) () o' nx := by
  refine inv_rf h ?_; clear h; intro m h e0; subst e0
  have h' : setAO o x v (lkN o m) = some o' := h
  refine inv_o h' ?_
  clear h'; intro so h' hm
  refine inv_si h' ?_; clear h'; intro C dn h' e0; subst e0
  refine inv_b h' ?_
  clear h'; intro h' h1
  refine inv_b h' ?_
  clear h'; intro h' h2
  refine inv_o h' ?_
  clear h'; intro es h' h3
  refine inv_b h' ?_
  clear h'; intro h' h4
  cases h'
  rw [stN_eq, ptS_eq]
  exact D_setattr (clsTab_has h1) (attrTab_has h2) (by rw [← lkN_eq]; exact hm) (dictO_eq h3) (ltS_le h4)
theorem setL_eq : ∀ {l : List SV} {i : Nat} {a : SV}, setL l i a = l.set i a
  | [], _, _ => rfl
  | _ :: _, 0, _ => rfl
  | _ :: _, _ + 1, _ => by unfold setL; rw [setL_eq]; rfl
theorem eSetI_ok {nm : Str → Option SV} {i v : SV} (h : eSetI o a i v = some o') : D k nm o nx [a, i, v] (fun vs => setItem (vs.headD .none) (vs.tail.headD .none) (vs.tail.tail.headD .none)) (fun _ (_ : Unit) (_ : Unit) => True) () o' nx := by
  refine inv_rf h ?_; clear h; intro m h e0; subst e0
  have h' : setIO o m i v (lkN o m) = some o' := h
  refine inv_o h' ?_
  clear h'; intro so h' hm
  rcases oo_inv h' with g0 | g0 <;> clear h'
  · refine inv_sl g0 ?_; clear g0; intro l h' e0; subst e0
    refine inv_ri h' ?_; clear h'; intro j h' e0; subst e0
    refine inv_o h' ?_
    clear h'; intro p h' h1
    refine inv_b h' ?_
    clear h'; intro h' h2
    refine inv_b h' ?_
    clear h'; intro h' h3
    cases h'
    rw [stN_eq, setL_eq, natI_eq h1]
    exact ret_setL (by rw [← lkN_eq]; exact hm) (Nat.le_of_ble_eq_true h2) (ltS_le h3)
  · refine inv_stb g0 ?_; clear g0; intro es h' e0; subst e0
    refine inv_rs h' ?_; clear h'; intro x h' e0; subst e0
    refine inv_no h' ?_
    clear h'; intro h' h1
    refine inv_b h' ?_
    clear h'; intro h' h3
    cases h'
    rw [stN_eq]
    exact ret_setD (by rw [hm]; rfl) h1 (ltS_le h3)
theorem eCmp_ok {nm : Str → Option SV} {op : CmpOp} {t : Bool} (h : eCmp o op a b = some t) : DCmp k nm o nx op a b t := by
  unfold eCmp at h
  cases h1 : evCmp o op a b with
  | some c' => rw [h1] at h; cases h; exact ret_cmp h1
  | none =>
    rw [h1] at h
    refine inv_b h ?_
    clear h; intro h h2
    exact ret_cmpQ h2 h
theorem takeL_eq : ∀ {l : List SV} {i : Nat}, takeL l i = l.take i
  | [], i => by cases i <;> rfl
  | _ :: _, 0 => rfl
  | a :: l, i + 1 => by unfold takeL; rw [takeL_eq]; rfl
theorem dropL_eq : ∀ {l : List SV} {i : Nat}, dropL l i = l.drop i
  | [], i => by cases i <;> rfl
  | _ :: _, 0 => rfl
  | a :: l, i + 1 => by unfold dropL; rw [dropL_eq]; rfl
theorem partS_ok {v : SV} {x : Option Nat} (h : partS v = some x) : v = .none ∧ x = none ∨ ∃ i : Nat, v = .int (i : Int) ∧ x = some i := by
  cases v with
  | none => cases h; exact .inl ⟨rfl, rfl⟩
  | int i =>
    refine inv_o h ?_
    clear h; intro j h h1
    cases h
    exact .inr ⟨j, by rw [natI_eq h1], rfl⟩
  | _ => cases h
theorem evPart_ok (hr : SndE w c r n) (hk : Ctx w c n cx.cells k) {e : Option Expr} {v : SV} (h : evPart (r.E cx) e o nx = some (v, o', n')) : DP k cx.nm o nx e v o' n' := by
  cases e with
  | none => exact fin3 h (DP_none)
  | some e => exact DP_some (hr _ _ _ _ _ _ _ h k hk)
theorem cutL_ok {l l' : List SV} {x y : Option Nat} (h : cutL l x y = some l') : (x = none ∧ ∃ j, y = some j ∧ l' = l.take j) ∨ (y = none ∧ ∃ j, x = some j ∧ l' = l.drop j) := by
  cases x with
  | none => cases y with
    | none => cases h
    | some j => cases h; exact .inl ⟨rfl, j, rfl, takeL_eq⟩
  | some j => cases y with
    | none => cases h; exact .inr ⟨rfl, j, rfl, dropL_eq⟩
    | some _ => cases h
theorem slice_ok {e : Expr} {lo hi : Option Expr} {p pos : Pos} {vl vu v : SV} {o₃ : Ob} {n₃ : Nat} (h1 : DE k cx.nm o nx e a o₁ n₁) (h2 : DP k cx.nm o₁ n₁ lo vl o₂ n₂) (h3 : DP k cx.nm o₂ n₂ hi vu o₃ n₃) (h : sliceO o₃ n₃ a vl vu = some (v, o', n')) : DE k cx.nm o nx (.Subscript e (.Slice lo hi none p) pos) v o' n' := by
  refine inv_rf h ?_; clear h; intro m h e0; subst e0
  refine inv_o h ?_
  clear h; intro l h e1
  refine inv_b h ?_
  clear h; intro h e2
  refine inv_o h ?_
  clear h; intro x h e3
  refine inv_o h ?_
  clear h; intro y h e4
  refine inv_o h ?_
  clear h; intro l' h e5
  refine fin3 h ?_
  exact DE_slice h1 h2 h3 (ltS_le e2) e1 ⟨partS_ok e3, partS_ok e4⟩ (cutL_ok e5)
end
end Mine
end
section
namespace Mine
section
variable {w : World} {X : Xp} {ρ : List Addr}
/-- a part of the objects -/
inductive Part : List (Addr × Obj) → List (Addr × Obj) → Prop
  | nil : Part [] []
  | keep {p : Addr × Obj} {l l' : List (Addr × Obj)} : Part l l' → Part (p :: l) (p :: l')
  | drop {p : Addr × Obj} {l l' : List (Addr × Obj)} : Part l l' → Part l (p :: l')
theorem Part.refl : ∀ {l : List (Addr × Obj)}, Part l l
  | [] => .nil
  | _ :: _ => .keep Part.refl
theorem Part.mem {l l' : List (Addr × Obj)} (h : Part l l') : ∀ p ∈ l, p ∈ l' := by
  induction h with
  | nil => exact fun _ h => h
  | keep _ ih => intro p hp; rcases List.mem_cons.mp hp with rfl | hp; exact .head _; exact .tail _ (ih p hp)
  | drop _ ih => exact fun p hp => .tail _ (ih p hp)
theorem Part.dis {l l' : List (Addr × Obj)} (h : Part l l') : Dis l' → Dis l := by
  induction h with
  | nil => exact id
  | @keep p l l' q ih => exact fun d => ⟨d.1.sub q.mem, ih d.2⟩
  | drop _ ih => exact fun d => ih d.2
theorem Part.app (a : List (Addr × Obj)) {l l' : List (Addr × Obj)} (h : Part l l') : Part (a ++ l) (a ++ l') := by
  induction a with
  | nil => exact h
  | cons p a ih => exact .keep ih
theorem Part.drops (a : List (Addr × Obj)) {l l' : List (Addr × Obj)} (h : Part l l') : Part l (a ++ l') := by
  induction a with
  | nil => exact h
  | cons p a ih => exact .drop ih
theorem gcF_cons {seen : List Nat} {nx : Nat} {p : Nat × SO} {l : Ob} : gcF seen nx (p :: l) = @Bool.rec (fun _ => Ob) (@Bool.rec (fun _ => Ob) (gcF seen nx l) (p :: gcF seen nx l) (memN p.1 seen)) (p :: l) (Nat.blt p.1 nx) := rfl
theorem IsObjs.gc {seen : List Nat} {nx : Nat} {l : List (Nat × SO)} {l' : List (Addr × Obj)} (h : IsObjs w X ρ l l') : ∃ l'', IsObjs w X ρ (gcF seen nx l) l'' ∧ Part l'' l' := by
  induction h with
  | nil => exact ⟨[], .nil, .nil⟩
  | @cons n so a o l l' h1 h2 h3 ih =>
    obtain ⟨l2, i1, i2⟩ := ih
    rw [gcF_cons]
    cases Nat.blt n nx with
    | true => exact ⟨_, .cons h1 h2 h3, .refl⟩
    | false => cases memN n seen with
      | true => exact ⟨_, .cons h1 h2 i1, .keep i2⟩
      | false => exact ⟨l2, i1, .drop i2⟩
  | @item n i a c l' l h1 h2 h3 ih =>
    obtain ⟨l2, i1, i2⟩ := ih
    rw [gcF_cons]
    cases Nat.blt n nx with
    | true => exact ⟨_, .item h1 h2 h3, .refl⟩
    | false => cases memN n seen with
      | true => exact ⟨_, .item h1 h2 i1, i2.app c⟩
      | false => exact ⟨l2, i1, i2.drops c⟩
  | @shown n i a c l' l h1 h2 h3 ih =>
    obtain ⟨l2, i1, i2⟩ := ih
    rw [gcF_cons]
    cases Nat.blt n nx with
    | true => exact ⟨_, .shown h1 h2 h3, .refl⟩
    | false => cases memN n seen with
      | true => exact ⟨_, .shown h1 h2 i1, i2.app c⟩
      | false => exact ⟨l2, i1, i2.drops c⟩
end
section
variable {w : World} {c : Cfg} {r : Rec} {n : Nat} {k : EC} {nm : Str → Option SV} {cx : Cx} {o o' o₁ o₂ objs : Ob} {nx n' n₁ n₂ : Nat} {a b : SV} {svs : List SV} {ρ : List Addr} {s : Shared}
theorem HE.gc {seen : List Nat} (he : HE k ρ objs s) : HE k ρ (gcF seen nx objs) s := by
  obtain ⟨n', io, N, d⟩ := he.N
  obtain ⟨l, i1, i2⟩ := io.gc (seen := seen) (nx := nx)
  exact ⟨he.F, l, i1, fun p hp => N p ((i2.app k.ext).mem p hp), (i2.app k.ext).dis d⟩
theorem HE.gcV {a : SV} (he : HE k ρ objs s) : HE k ρ (gcV a objs nx) s := by
  cases a with
  | ref m => exact he.gc
  | _ => exact he.gc (seen := []) (nx := nx)
theorem HE.gcC {f : Nat} {a : SV} (he : HE k ρ objs s) : HE k ρ (gcC f a objs nx) s := by
  unfold Mine.gcC
  cases Nat.beq f 326 with
  | true => exact he
  | false => exact he.gcV
theorem D.weak {α β : Type} {t : List Value → Sem α} {R : List Addr → β → α → Prop} {r : β} (h : D k nm o nx svs t R r o' n') (hw : ∀ ρ s, HE k ρ o' s → HE k ρ o₁ s) : D k nm o nx svs t R r o₁ n' := fun ok ρ s E vs hl hn he hi =>
  wpAny_mono (h ok ρ s E vs hl hn he hi) (fun v s' ⟨ρ', p, l, i, he', S⟩ => ⟨ρ', p, l, i, hw _ _ he', S⟩) fun _ _ z => z
theorem DS.weak {q : FnS} {st st' : St} {t : Sem Flow} {f : SF} (h : DS q k st t f ⟨st'.σ, o, st'.nx⟩) (hw : ∀ (k : EC) ρ s, HE k ρ o s → HE k ρ st'.objs s) : DS q k st t f st' := fun ok fr ρ s E hl hs =>
  wpAny_mono (h ok fr ρ s E hl hs) (fun fl s' ⟨ρ', p, l, i, ⟨m, cs, g1, g2, g3⟩, S⟩ => ⟨ρ', p, l, i, ⟨m, cs, g1, g2, hw _ _ _ g3⟩, S⟩) fun _ _ z => z
theorem bindE_eq {q : FnS} {bs : List (Str × SV)} (h : bindE q svs = some bs) : bindS q svs = some bs := by
  unfold bindE at h
  unfold bindS
  refine inv_b h ?_
  clear h; intro h h1
  refine inv_b h ?_
  clear h; intro h h2
  rw [if_pos ⟨Nat.le_of_ble_eq_true h1, Nat.le_of_ble_eq_true h2⟩]
  exact h
noncomputable def DC (k : EC) (nm : Str → Option SV) (o : Ob) (nx f : Nat) (svs : List SV) (v : SV) (o' : Ob) (n' : Nat) : Prop := D k nm o nx svs (fun vs => call (.ref f) vs) Is v o' n'
theorem callF_ok {q : FnS} {v : SV} (hr : Snd w c r n) (hw : k.w = w) (ho : Orc c k.X) (hb : n + c.mg + 1 ≤ k.b) (hq : FnOk w q) (hc : cellsOk q = true) (h : callF r q svs o nx = some (v, o', n')) : DC k nm o nx q.f svs v o' n' := by
  refine inv_o h ?_
  clear h; intro bs h h1
  refine inv_o2 h ?_
  clear h; intro f st h h2
  refine fin3 h ?_
  subst hw
  exact D.weak (ret_fn hq hc (by omega) (bindE_eq h1) fun k' e1 e2 e3 _ => hr.S _ _ _ _ _ h2 k' e1 (by rw [e3]; exact ho) (by omega)) fun ρ s he => he.gcC
theorem makeC_ok {q : FnS} {C : Nat} {v : SV} (hr : Snd w c r n) (hw : k.w = w) (ho : Orc c k.X) (hb : n + c.mg + 1 ≤ k.b) (hC : memN C clsTab = true) (hi : findIn (K w.params) (.ref C) "__init__" = some (some (.ref q.f))) (hf : isFn (K w.params) (.ref q.f) = true) (hq : FnOk w q) (hc : cellsOk q = true)
    (h : makeC r C q svs o nx = some (v, o', n')) : DC k nm o nx C svs v o' n' := by
  refine inv_o h ?_
  clear h; intro bs h h1
  refine inv_o2 h ?_
  clear h; intro f st h h2
  cases f with
  | ret _ => cases h
  | next =>
    refine fin3 h ?_
    subst hw
    exact ret_make (clsTab_has hC) hi hf hq hc (by omega) (bindE_eq h1) fun k' e1 e2 e3 _ => hr.S _ _ _ _ _ h2 k' e1 (by rw [e3]; exact ho) (by omega)
theorem callR_ok {f : Nat} {v : SV} (ht : TabS w c) (H : HookS w c) (hr : Snd w c r n) (hw : k.w = w) (ho : Orc c k.X) (hb : n + c.mg + 1 ≤ k.b) (h : callR r c f svs o nx = some (v, o', n')) : DC k nm o nx f svs v o' n' := by
  unfold callR at h
  cases h1 : hook c f svs o nx with
  | some x =>
    rw [h1] at h
    refine fin3 h ?_
    exact H.hook _ _ _ _ _ _ _ h1 k nm hw ho (by omega)
  | none =>
    rw [h1] at h
    dsimp only at h
    cases h2 : lkN c.ini f with
    | some q =>
      rw [h2] at h
      obtain ⟨g1, g2, g3, g4, g5⟩ := ht.ini _ _ h2
      exact makeC_ok hr hw ho hb g1 g2 g3 g4 g5 h
    | none =>
      rw [h2] at h
      refine inv_o h ?_
      clear h; intro q h h3
      obtain ⟨g1, g2, g3⟩ := ht.fn _ _ h3
      rw [← g1]
      exact callF_ok hr hw ho hb g2 g3 h
theorem isiN_mem {C : Nat} {t : Bool} : ∀ {l : List (Addr × Bool)}, isiN C l = some t → (C, t) ∈ l
  | (D, d) :: l, h => by
    unfold isiN at h
    cases h1 : Nat.beq C D with
    | false => rw [h1] at h; exact .tail _ (isiN_mem h)
    | true => rw [h1] at h; cases h; rw [Nat.eq_of_beq_eq_true h1]; exact .head _
  | [], h => nomatch h
theorem callB0 {v : SV} (h : callB 0 svs o nx = some (v, o', n')) : D k nm o nx svs (fun vs => call (.builtin "len") vs) Is v o' n' := by
  refine inv_one (show one _ _ = _ from h) ?_; clear h; intro a h e0; subst e0
  refine inv_rf h ?_; clear h; intro m h e0; subst e0
  refine inv_o h ?_; clear h; intro l h h1
  refine inv_b h ?_; clear h; intro h h2
  exact fin3 h (ret_len h1 (ltS_le h2))
theorem callB1 {v : SV} (h : callB 1 svs o nx = some (v, o', n')) : D k nm o nx svs (fun vs => call (.type "range") vs) Is v o' n' := by
  refine inv_one (show one _ _ = _ from h) ?_; clear h; intro a h e0; subst e0
  refine inv_ri h ?_; clear h; intro j h e0; subst e0
  refine inv_o h ?_; clear h; intro m h h1
  cases h; rw [natI_eq h1]; exact ret_range
theorem callB2 {v : SV} (h : callB 2 svs o nx = some (v, o', n')) : D k nm o nx svs (fun vs => call (.type "list") vs) Is v o' n' := by
  refine inv_one (show one _ _ = _ from h) ?_; clear h; intro a h e0; subst e0
  refine inv_rf h ?_; clear h; intro m h e0; subst e0
  refine inv_o h ?_; clear h; intro l h h1
  refine inv_b h ?_; clear h; intro h h2
  exact fin3 h (ret_listcopy h1 (ltS_le h2))
theorem isiO_ok {m : Nat} {t : Bool} (h : isiO o (lkN o m) = some t) : ∃ C dn es, o.lookup m = some (.inst C dn) ∧ o.lookup dn = some (.dict es) ∧ (C, t) ∈ isiTab := by
  refine inv_o h ?_; clear h; intro so h hm
  refine inv_si h ?_; clear h; intro C dn h e0; subst e0
  refine inv_o h ?_; clear h; intro es h h1
  exact ⟨C, dn, es, by rw [← lkN_eq]; exact hm, dictO_eq h1, isiN_mem h⟩
theorem callB3 {v : SV} (h : callB 3 svs o nx = some (v, o', n')) : D k nm o nx svs (fun vs => call (.builtin "isinstance") vs) Is v o' n' := by
  have h : callB3' svs o nx = some (v, o', n') := h
  refine inv_o2 h ?_; clear h; intro a b h h0
  cases two_eq h0
  refine inv_rf h ?_; clear h; intro m h e0; subst e0
  refine inv_rc h ?_; clear h; intro v' h e0; subst e0
  refine inv_vref h ?_; clear h; intro d h e0; subst e0
  refine inv_b h ?_; clear h; intro h h1
  refine inv_o h ?_; clear h; intro t h h2
  refine fin3 h ?_
  refine fold_ fun P_ hP_ => ?_
  obtain ⟨C, dn, es, g1, g2, g3⟩ := isiO_ok h2
  refine hP_ ?_
  rw [Nat.eq_of_beq_eq_true h1]
  exact ret_isi g3 g1 g2
theorem callN_ok {x : Str} {px : Pos} {es : List Expr} {pos : Pos} {f v : SV} (ht : TabS w c) (H : HookS w c) (hr : Snd w c r n) (hk : Ctx w c (n + 1) cx.cells k) (hx : cx.nm x = some f) (h : callN r c cx o nx f es = some (v, o', n')) : DE k cx.nm o nx (.Call (.Name x px) es [] pos) v o' n' := by
  have hn : DE k cx.nm o nx (.Name x px) f o nx := DE_name hx
  rcases oo_inv h with g | g <;> clear h
  · refine inv_rc g ?_; clear g; intro d h e0; subst e0
    refine inv_vref h ?_; clear h; intro f h e0; subst e0
    refine inv_b h ?_; clear h; intro h h1
    refine inv_o3 h ?_; clear h; intro l o₁ n₁ h h2
    have hc : DC k cx.nm o₁ n₁ f l v o' n' := callR_ok ht H hr hk.hw hk.orc (by have := hk.hb; omega) h
    have hkp := ht.kp f h1
    rw [← hk.hw] at hkp
    cases es with
    | nil => cases h2; exact DE_callK0 hkp hn hc
    | cons e es =>
      have := evL_ok (pos := pos) hr.E hk.less h2
      exact DE_callK hkp this.2 hn this.1 hc
  · refine inv_rbi g ?_; clear g; intro bn h e0; subst e0
    refine inv_cons h ?_; clear h; intro e es h e0; subst e0
    refine inv_o3 h ?_; clear h; intro l o₁ n₁ h h2
    have ha := evL_ok (pos := pos) hr.E hk.less h2
    match bn, hn, h with
    | 0, hn, h => exact DE_callB (c := "len") ha.2 hn ha.1 (callB0 h)
    | 1, hn, h => exact DE_callT (c := "range") ha.2 hn ha.1 (callB1 h)
    | 2, hn, h => exact DE_callT (c := "list") ha.2 hn ha.1 (callB2 h)
    | 3, hn, h => exact DE_callB (c := "isinstance") ha.2 hn ha.1 (callB3 h)
    | _ + 4, hn, h => cases h
theorem methN_mem {C : Nat} {x : Str} {g : Nat} : ∀ {l : List (Addr × Str × Addr)}, methN C x l = some g → (C, x, g) ∈ l
  | (D, y, f) :: l, h => by
    unfold methN at h
    cases h1 : Nat.beq C D with
    | false => rw [h1] at h; exact .tail _ (methN_mem h)
    | true =>
      rw [h1] at h
      cases h2 : seq x y with
      | false => rw [h2] at h; exact .tail _ (methN_mem h)
      | true => rw [h2] at h; cases h; rw [Nat.eq_of_beq_eq_true h1, seq_iff.mp h2]; exact .head _
  | [], h => nomatch h
theorem meth_keep {C : Nat} {x : Str} {g : Nat} (h : (C, x, g) ∈ methTab) : keepIn (K k.w.params) (.ref g) = true := (methOk_all k.w _ h).kp
theorem meth0_ok {m : Nat} {name : Str} {apos pos : Pos} {be : Expr} {v : SV} (ht : TabS w c) (H : HookS w c) (hr : Snd w c r n) (hk : Ctx w c (n + 1) cx.cells k) (hb : attrBase be = true) (hp : (apos.endLine == pos.line) = true) (h0 : DE k cx.nm o nx be (.ref m) o₁ n₁) (h : meth0 r c o₁ n₁ m name (lkN o₁ m) = some (v, o', n')) :
    DE k cx.nm o nx (.Call (.Attribute be name apos) [] [] pos) v o' n' := by
  refine inv_o h ?_
  clear h; intro so h hm
  refine inv_si h ?_; clear h; intro C dn h e0; subst e0
  refine inv_b h ?_
  clear h; intro h h1
  refine inv_o h ?_
  clear h; intro es h h2
  refine inv_no h ?_
  clear h; intro h h3
  refine inv_o h ?_
  clear h; intro g h h4
  have hm4 := methN_mem h4
  exact DE_methC0 (meth_keep hm4) hb hp h0 (ret_methC (clsTab_has h1) hm4 (by rw [← lkN_eq]; exact hm) (dictO_eq h2) (by rw [← lkS_eq]; exact h3)) (callR_ok ht H hr hk.hw hk.orc (by have := hk.hb; omega) h)
theorem meth1_ok {m : Nat} {name : Str} {apos pos : Pos} {be e : Expr} {v : SV} (ht : TabS w c) (H : HookS w c) (hr : Snd w c r n) (hk : Ctx w c (n + 1) cx.cells k) (hb : attrBase be = true) (hs : noStar e = true) (hp : (apos.endLine == pos.line) = true) (h0 : DE k cx.nm o nx be (.ref m) o₁ n₁) (he : DE k cx.nm o₁ n₁ e a o₂ n₂) (h : meth1 r c o₁ n₁ m name (lkN o₁ m) a o₂ n₂ = some (v, o', n')) :
    DE k cx.nm o nx (.Call (.Attribute be name apos) [e] [] pos) v o' n' := by
  have hA : DA k cx.nm o₁ n₁ pos [e] [a] o₂ n₂ := DA_cons hs he DA_nil
  refine inv_o h ?_; clear h; intro so h hm
  rcases oo_inv h with g0 | g0 <;> clear h
  · refine inv_si g0 ?_; clear g0; intro C dn h e0; subst e0
    refine inv_b h ?_
    clear h; intro h h1
    refine inv_o h ?_
    clear h; intro es h h2
    refine inv_no h ?_
    clear h; intro h h3
    refine inv_o h ?_
    clear h; intro g h h4
    have hm4 := methN_mem h4
    exact DE_methC1 (meth_keep hm4) hb hs hp h0 (ret_methC (clsTab_has h1) hm4 (by rw [← lkN_eq]; exact hm) (dictO_eq h2) (by rw [← lkS_eq]; exact h3)) hA (callR_ok ht H hr hk.hw hk.orc (by have := hk.hb; omega) h)
  · have h := g0; clear g0
    rcases oo_inv h with g0 | g0 <;> clear h
    · refine inv_sl g0 ?_; clear g0; intro l0 h e0; subst e0
      refine inv_b h ?_
      clear h; intro h h1
      have e1 : name = Str.ofString "append" := seq_iff.mp h1
      subst e1
      refine inv_o h ?_
      clear h; intro l h h2
      refine inv_b h ?_
      clear h; intro h h3
      refine fin3 h ?_
      rw [stN_eq]
      exact DE_meth hb hs hp h0 (ret_methL PySem.F.slot_list_append PySem.F.type_list_append (by rw [← lkN_eq]; exact hm)) hA (ret_append (by rw [← lkN_eq]; exact lst1_eq h2) (ltS_le h3))
    · refine inv_stb g0 ?_; clear g0; intro es h e0; subst e0
      refine inv_b h ?_
      clear h; intro h h1
      have e1 : name = Str.ofString "get" := seq_iff.mp h1
      subst e1
      refine inv_rs h ?_; clear h; intro x h e0; subst e0
      refine inv_o h ?_
      clear h; intro es h h2
      refine fin3 h ?_
      exact DE_meth hb hs hp h0 (ret_methT (es := _) (by rw [hm]; rfl)) hA (ret_get h2)
theorem callM_ok {name : Str} {apos pos : Pos} {be : Expr} {es : List Expr} {v : SV} (ht : TabS w c) (H : HookS w c) (hr : Snd w c r n) (hk : Ctx w c (n + 1) cx.cells k) (h : callM r c cx o nx be name apos pos es = some (v, o', n')) :
    DE k cx.nm o nx (.Call (.Attribute be name apos) es [] pos) v o' n' := by
  refine inv_b h ?_
  clear h; intro h h1
  refine inv_b h ?_
  clear h; intro h h2
  have hp : (apos.endLine == pos.line) = true := by simpa using Nat.eq_of_beq_eq_true h2
  refine inv_o3 h ?_
  clear h; intro a o₁ n₁ h h3
  have h0 := hr.E _ _ _ _ _ _ _ h3 k hk.less
  refine inv_rf h ?_; clear h; intro m h e0; subst e0
  cases es with
  | nil => exact meth0_ok ht H hr hk h1 hp h0 h
  | cons e es => cases es with
    | cons _ _ => cases h
    | nil =>
      refine inv_b h ?_
      clear h; intro h h4
      refine inv_o3 h ?_
      clear h; intro b o₂ n₂ h h5
      exact meth1_ok ht H hr hk h1 h4 hp h0 (hr.E _ _ _ _ _ _ _ h5 k hk.less) h
theorem eCallR_ok {f : Expr} {es : List Expr} {kws : List Keyword} {pos : Pos} {v : SV} (ht : TabS w c) (H : HookS w c) (hr : Snd w c r n) (hk : Ctx w c (n + 1) cx.cells k) (h : eCallR c r cx o nx f es kws pos = some (v, o', n')) : DE k cx.nm o nx (.Call f es kws pos) v o' n' := by
  cases kws with
  | cons _ _ => cases h
  | nil =>
    rcases oo_inv (show oo _ _ = _ from h) with g | g <;> clear h
    · refine inv_name g ?_; clear g; intro x p h e0; subst e0
      refine inv_o h ?_; clear h; intro f h h1
      exact callN_ok ht H hr hk h1 h
    · refine inv_attr g ?_; clear g; intro be name apos h e0; subst e0
      exact callM_ok ht H hr hk h
end
end Mine
end
section
namespace Mine
theorem pairO_eq {x : Option SO} {u v : SV} (h : pairO x = some (u, v)) : x = some (.tup [u, v]) := by
  refine inv_o h ?_; clear h; intro so h e
  refine inv_st h ?_; clear h; intro l h e'; subst e'
  rw [e, two_eq h]
theorem isLocK_eq {x : Option NameKind} (h : isLocK x = true) : x = some .local := by
  refine inv_fT h rfl ?_; clear h; intro kd h e
  cases kd <;> first | exact e | cases h
theorem isFreeK_eq {x : Option NameKind} (h : isFreeK x = true) : x = some .free := by
  refine inv_fT h rfl ?_; clear h; intro kd h e
  cases kd <;> first | exact e | cases h
theorem frees_ok {cells : List Str} {ec : List (Str × Addr)} (hc : ∀ x, memS x cells = true → ∃ a, ec.lookup x = some a) : ∀ {names : List (Str × NameKind)} {acc : List (Str × Addr)}, frees cells names = true → ∃ cl, freeCl ec names acc = some cl
  | [], acc, _ => ⟨acc, rfl⟩
  | (x, kd) :: l, acc, h => by
    unfold freeCl freeStep
    by_cases e : kd = .free
    · subst e
      have h' : gdT (memS x cells) (frees cells l) = true := h
      refine inv_bT h' ?_
      clear h'; intro h' h1
      obtain ⟨a, ha⟩ := hc x h1
      dsimp only
      rw [if_pos (by decide), ha]
      exact frees_ok hc h'
    · have h' : frees cells l = true := by
        cases kd with
        | free => exact absurd rfl e
        | _ => exact h
      dsimp only
      rw [if_neg (by simpa using e)]
      exact frees_ok hc h'
structure ScOk (scope : Scope) (cells : List Str) : Prop where
  kd : scope.kind = .function
  a1 : (scope.names.all fun p => p.2 != .cell) = true
  a2 : (scope.names.all fun p => p.2 != .local || scope.names.lookup p.1 == some .local) = true
  a3 : freeOk scope = true
  fr : frees cells scope.names = true
theorem scOk_ok {scope : Scope} {cells : List Str} (h : scOk scope cells = true) : ScOk scope cells := by
  unfold scOk at h
  cases h0 : scope.kind with
  | function =>
    rw [h0] at h
    refine inv_bT h ?_
    clear h; intro h h1
    refine inv_bT h ?_
    clear h; intro h h2
    refine inv_bT h ?_
    clear h; intro h h3
    refine ⟨h0, h1, ?_, ?_, h⟩
    · rw [List.all_eq_true] at h2 ⊢
      intro p hp
      have := h2 p hp
      rw [lkS_eq] at this
      simp only [Bool.or_eq_true] at this ⊢
      rcases this with h | h
      · exact .inl h
      · right
        rw [isLocK_eq h]; rfl
    · unfold freeOk
      rw [List.all_eq_true] at h3 ⊢
      intro p hp
      have := h3 p hp
      rw [lkS_eq] at this
      simp only [Bool.or_eq_true] at this ⊢
      rcases this with h | h
      · exact .inl h
      · right
        rw [isFreeK_eq h]; rfl
  | _ => rw [h0] at h; cases h
theorem locS_eq {scope : Scope} {x : Str} (h : locS scope x = true) : scope.names.lookup x = some .local := by
  unfold locS at h
  rw [lkS_eq] at h
  exact isLocK_eq h
theorem ScOk.blk {scope : Scope} {cells : List Str} {x : Str} (h : ScOk scope cells) (hx : scope.names.lookup x = some .local) : blkOk scope x = true := by
  unfold blkOk
  rw [h.a1, h.a2, h.a3, hx]
  rfl
section
variable {w : World} {c : Cfg} {r : Rec} {n : Nat} {k : EC} {nm : Str → Option SV} {cx : Cx} {scope : Scope} {cl : List (Str × Addr)} {o o' o₁ o₂ objs : Ob} {nx n' n₁ n₂ : Nat} {elt ct : Expr} {x y : Str}
theorem ctx_blk (hk : Ctx w c n cx.cells k) : PBlk (Ctx w c n []) k scope cl := fun X' e1 e2 C ext => ⟨hk.hw, hk.orc.of e1 e2, hk.hb, hk.hg, hk.hbu, fun x h => nomatch h⟩
theorem turnsL_ok (hr : SndE w c r n) {p j : Nat} : ∀ {l : List SV} {o : Ob} {m : Nat} {rs : List SV} {o' : Ob} {n' : Nat}, turnsL (fun a o m => r.E ⟨bkE nm scope [(x, a)], []⟩ o m elt) p j l o m = some (rs, o', n') → CTF (Ctx w c n []) p j (fun a => blkNm nm scope [(x, a)]) elt l o m rs o' n'
  | [], o, m, rs, o', n', h => by exact fin3 h (⟨rfl, rfl, rfl⟩)
  | a :: l, o, m, rs, o', n', h => by
    refine inv_o3 h ?_
    clear h; intro b o₁ n₁ h h1
    refine inv_b h ?_
    clear h; intro h h2
    refine inv_o3 h ?_
    clear h; intro rs' o₂ n₂ h h3
    refine fin3 h ?_
    refine ⟨b, rs', o₁, n₁, rfl, fun kb hkb => ?_, h2, turnsL_ok hr h3⟩
    have := hr _ _ _ _ _ _ _ h1 kb hkb
    dsimp only at this
    rw [bkE_eq] at this
    exact this
theorem turnsP_ok (hr : SndE w c r n) {p j : Nat} : ∀ {l : List SV} {o : Ob} {m : Nat} {rs : List SV} {o' : Ob} {n' : Nat}, turnsL (pairE fun a b o m => r.E ⟨bkE nm scope [(x, a), (y, b)], []⟩ o m elt) p j l o m = some (rs, o', n') → CTP (Ctx w c n []) p j (fun a b => blkNm nm scope [(x, a), (y, b)]) elt l o m rs o' n'
  | [], o, m, rs, o', n', h => by exact fin3 h (⟨rfl, rfl, rfl⟩)
  | a :: l, o, m, rs, o', n', h => by
    refine inv_o3 h ?_
    clear h; intro b o₁ n₁ h h1
    refine inv_b h ?_
    clear h; intro h h2
    refine inv_o3 h ?_
    clear h; intro rs' o₂ n₂ h h3
    refine fin3 h ?_
    refine inv_rf h1 ?_; clear h1; intro t h1 e0; subst e0
    refine inv_o2 h1 ?_
    clear h1; intro u v h1 h4
    have e : o.lookup t = some (.tup [u, v]) := by
      rw [lkN_eq] at h4
      exact pairO_eq h4
    refine ⟨t, u, v, b, rs', o₁, n₁, rfl, e, rfl, fun kb hkb => ?_, h2, turnsP_ok hr h3⟩
    have := hr _ _ _ _ _ _ _ h1 kb hkb
    dsimp only at this
    rw [bkE_eq] at this
    exact this
theorem turnsR_ok (hr : SndE w c r n) : ∀ {q i : Nat} {o : Ob} {m : Nat} {rs : List SV} {o' : Ob} {n' : Nat}, turnsR (fun i o m => r.E ⟨bkE nm scope [(x, .int (Int.ofNat i))], []⟩ o m elt) q i o m = some (rs, o', n') → CTR (Ctx w c n []) (fun i => blkNm nm scope [(x, .int (i : Int))]) elt q i o m rs o' n'
  | 0, i, o, m, rs, o', n', h => by exact fin3 h (⟨rfl, rfl, rfl⟩)
  | q + 1, i, o, m, rs, o', n', h => by
    refine inv_o3 h ?_
    clear h; intro b o₁ n₁ h h1
    refine inv_o3 h ?_
    clear h; intro rs' o₂ n₂ h h3
    refine fin3 h ?_
    refine ⟨b, rs', o₁, n₁, rfl, fun kb hkb => ?_, turnsR_ok hr h3⟩
    have := hr _ _ _ _ _ _ _ h1 kb hkb
    dsimp only at this
    rw [bkE_eq] at this
    exact this
theorem turnsN_ok (hr : SndT w c r n) : ∀ {q i : Nat} {o : Ob} {m : Nat} {o' : Ob} {n' : Nat}, turnsN (fun i o m => r.T ⟨bkE nm scope [(x, .int (Int.ofNat i))], []⟩ o m ct) q i o m = some (o', n') → CTN (Ctx w c n []) (fun i => blkNm nm scope [(x, .int (i : Int))]) ct q i o m o' n'
  | 0, i, o, m, o', n', h => by cases h; exact ⟨rfl, rfl⟩
  | q + 1, i, o, m, o', n', h => by
    refine inv_o3 h ?_
    clear h; intro b o₁ n₁ h h1
    refine inv_nb h ?_; clear h; intro h e; subst e
    refine ⟨o₁, n₁, fun kb hkb => ?_, turnsN_ok hr h⟩
    have := hr _ _ _ _ _ _ _ h1 kb hkb
    dsimp only at this
    rw [bkE_eq] at this
    exact this
theorem rngO_ok {m q : Nat} (h : rngO (lkN o m) = some q) : o.lookup m = some (.rng q) ∧ q ≤ 1000 := by
  rw [lkN_eq] at h
  refine inv_o h ?_; clear h; intro so h hh
  refine inv_sr h ?_; clear h; intro q' h e; subst e
  refine inv_b h ?_; clear h; intro h h1
  cases h
  exact ⟨hh, Nat.le_of_ble_eq_true h1⟩
theorem compS_ok {m : Nat} {S : SrcS} (h : compS o m = some S) : srcO o m = some S ∧ S.l.length ≤ 1000 := by
  refine inv_o h ?_
  clear h; intro S' h h1
  refine inv_b h ?_
  clear h; intro h h2
  cases h
  exact ⟨h1, ltS_le h2⟩
theorem compF_ok {S : SrcS} {R : RL} {v : SV} (h : compF S R = some (v, o', n')) : ∃ rs oo m o'', R = some (rs, oo, m) ∧ srcBack S oo = some o'' ∧ v = .ref m ∧ o' = (m, .list rs) :: o'' ∧ n' = m + 1 := by
  refine inv_o3 h ?_
  clear h; intro rs oo m h h0
  refine inv_o h ?_
  clear h; intro o'' h h1
  cases h
  exact ⟨rs, oo, m, o'', h0, h1, rfl, rfl, rfl⟩
theorem compR_ok {R : RL} {v : SV} (h : compR R = some (v, o', n')) : ∃ rs oo m, R = some (rs, oo, m) ∧ v = .ref m ∧ o' = (m, .list rs) :: oo ∧ n' = m + 1 := by
  refine inv_o3 h ?_
  clear h; intro rs oo m h h0
  cases h
  exact ⟨rs, oo, m, h0, rfl, rfl, rfl⟩
structure CompH (w : World) (c : Cfg) (n : Nat) (k : EC) (cx : Cx) (scope : Scope) (cl : List (Str × Addr)) (iter : Expr) : Prop where
  hk : Ctx w c n cx.cells k
  sc : ScOk scope cx.cells
  hcl : freeCl k.env.cells scope.names [] = some cl
  ns : noSet iter = true
theorem comp1_ok {m : Nat} {iter : Expr} {px pos : Pos} {v : SV} (hr : SndE w c r n) (C : CompH w c n k cx scope cl iter) (hx : scope.names.lookup x = some .local) (h0 : DE k cx.nm objs nx iter (.ref m) o₁ n₁) (h : comp1 r cx elt x scope o₁ n₁ m = some (v, o', n')) :
    DE k cx.nm objs nx (.ListComp elt [⟨.Name x px, iter, [], 0⟩] scope pos) v o' n' := by
  unfold comp1 at h
  cases h1 : rngO (lkN o₁ m) with
  | some q =>
    rw [h1] at h
    obtain ⟨rs, oo, m', e1, rfl, rfl, rfl⟩ := compR_ok h
    obtain ⟨g1, g2⟩ := rngO_ok h1
    exact DE_compR C.hcl C.sc.kd (C.sc.blk hx) C.hk.hg C.hk.hbu C.ns (ctx_blk C.hk) h0 g1 g2 (turnsR_ok hr e1)
  | none =>
    rw [h1] at h
    refine inv_o h ?_
    clear h; intro S h h2
    obtain ⟨rs, oo, m', o'', e1, e2, rfl, rfl, rfl⟩ := compF_ok h
    obtain ⟨g1, g2⟩ := compS_ok h2
    exact DE_compL C.hcl C.sc.kd (C.sc.blk hx) C.hk.hg C.hk.hbu C.ns (ctx_blk C.hk) h0 g1 g2 (turnsL_ok hr e1) e2
theorem comp1T_ok {m : Nat} {iter : Expr} {px pos : Pos} {v : SV} (hr : SndT w c r n) (C : CompH w c n k cx scope cl iter) (hx : scope.names.lookup x = some .local) (h0 : DE k cx.nm objs nx iter (.ref m) o₁ n₁) (h : comp1T r cx ct x scope o₁ n₁ m = some (v, o', n')) :
    DE k cx.nm objs nx (.ListComp elt [⟨.Name x px, iter, [ct], 0⟩] scope pos) v o' n' := by
  refine inv_o h ?_
  clear h; intro q h h1
  refine inv_o2 h ?_
  clear h; intro oo m' h h2
  refine fin3 h ?_
  obtain ⟨g1, g2⟩ := rngO_ok h1
  exact DE_compN C.hcl C.sc.kd (C.sc.blk hx) C.hk.hg C.hk.hbu C.ns (ctx_blk C.hk) h0 g1 g2 (turnsN_ok hr h2)
theorem comp2_ok {m : Nat} {iter : Expr} {px py tp pos : Pos} {tk : Nat} {v : SV} (hr : SndE w c r n) (C : CompH w c n k cx scope cl iter) (hx : scope.names.lookup x = some .local) (hy : scope.names.lookup y = some .local) (hxy : x ≠ y) (h0 : DE k cx.nm objs nx iter (.ref m) o₁ n₁) (h : comp2 r cx elt x y scope o₁ n₁ m = some (v, o', n')) :
    DE k cx.nm objs nx (.ListComp elt [⟨.Tuple [.Name x px, .Name y py] tk tp, iter, [], 0⟩] scope pos) v o' n' := by
  refine inv_o h ?_
  clear h; intro S h h2
  obtain ⟨rs, oo, m', o'', e1, e2, rfl, rfl, rfl⟩ := compF_ok h
  obtain ⟨g1, g2⟩ := compS_ok h2
  exact DE_compP C.hcl C.sc.kd (C.sc.blk hx) hy hxy C.hk.hg C.hk.hbu C.ns (ctx_blk C.hk) h0 g1 g2 (turnsP_ok hr e1) e2
theorem compT_ok {m : Nat} {target iter : Expr} {ifs : List Expr} {pos : Pos} {v : SV} (hr : Snd w c r n) (C : CompH w c n k cx scope cl iter) (h0 : DE k cx.nm objs nx iter (.ref m) o₁ n₁) (h : compT r cx elt target ifs scope o₁ n₁ m = some (v, o', n')) :
    DE k cx.nm objs nx (.ListComp elt [⟨target, iter, ifs, 0⟩] scope pos) v o' n' := by
  rcases oo_inv h with g | g <;> clear h
  · refine inv_name g ?_; clear g; intro x p h e0; subst e0
    refine inv_b h ?_; clear h; intro h h1
    cases ifs with
    | nil => exact comp1_ok hr.E C (locS_eq h1) h0 h
    | cons ct l => cases l with
      | nil => exact comp1T_ok hr.T C (locS_eq h1) h0 h
      | cons _ _ => cases h
  · refine inv_tuple g ?_; clear g; intro es tk tp h e0; subst e0
    refine inv_nil h ?_; clear h; intro h e0; subst e0
    refine inv_o2 h ?_; clear h; intro x y h h3
    obtain ⟨px, py, rfl⟩ := pr2_eq h3
    refine inv_b h ?_; clear h; intro h h1
    refine inv_b h ?_; clear h; intro h h2
    refine inv_nb h ?_; clear h; intro h h3
    exact comp2_ok hr.E C (locS_eq h1) (locS_eq h2) (fun e => by rw [seq_iff.mpr e] at h3; cases h3) h0 h
theorem eComp_ok {g : Comprehension} {pos : Pos} {v : SV} (hr : Snd w c r n) (hk : Ctx w c n cx.cells k) (h : eComp r cx elt g scope o nx = some (v, o', n')) : DE k cx.nm o nx (.ListComp elt [g] scope pos) v o' n' := by
  obtain ⟨target, iter, ifs, asy⟩ := g
  refine inv_b h ?_
  clear h; intro h h1
  refine inv_b h ?_
  clear h; intro h h2
  refine inv_b h ?_
  clear h; intro h h3
  have e : asy = 0 := of_decide_eq_true h3
  subst e
  refine inv_o3 h ?_
  clear h; intro a o₁ n₁ h h4
  refine inv_rf h ?_; clear h; intro m h e0; subst e0
  have sc := scOk_ok h1
  obtain ⟨cl, hcl⟩ := frees_ok hk.cl (acc := []) sc.fr
  exact compT_ok hr ⟨hk, sc, hcl, h2⟩ (hr.E _ _ _ _ _ _ _ h4 k hk) h
end
end Mine
end
section
namespace Mine
section
variable {w : World} {c : Cfg} {r : Rec} {n : Nat} {k : EC} {nm : Str → Option SV} {cx : Cx} {o o' o₁ o₂ objs : Ob} {nx n' n₁ n₂ : Nat} {a b v : SV} {e e' : Expr} {pos : Pos}
noncomputable def AttrEq (e : Expr) : Prop := ∀ x pos (env : Env), eval (.Attribute e x pos) env = (do
    let o ← eval e env
    standAt pos.atName
    let r ← holding [o] (getAttr o x true)
    letTemporaryGo e o r
    pure r)
theorem attrEq (hb : attrBase2 e = true) : AttrEq e := by
  refine inv_oT hb ?_; clear hb; intro _ _ h
  rcases oo_inv h with g | h
  · refine inv_name g ?_; intro x p _ e0; subst e0; exact fun _ _ _ => rfl
  rcases oo_inv h with g | h
  · refine inv_attr g ?_; intro b x p _ e0; subst e0; exact fun _ _ _ => rfl
  rcases oo_inv h with g | g
  · refine inv_subs g ?_; intro b x p _ e0; subst e0; exact fun _ _ _ => rfl
  · refine inv_call g ?_; intro f es kws p h1 e0; subst e0
    refine inv_name h1 ?_; intro x q h2 e0; subst e0
    refine inv_cons h2 ?_; intro a m _ e0; subst e0
    exact fun _ _ _ => rfl
theorem DE_attr2 {x : Str} (hb : attrBase2 e = true) (h1 : DE k nm objs nx e a o₁ n₁) (h2 : D k nm o₁ n₁ [a] (fun vs => getAttr (vs.headD .none) x true) Is v o₂ n₂) : DE k nm objs nx (.Attribute e x pos) v o₂ n₂ := D.then1 (t := fun v => getAttr v x true) (fun h => Attribute_any_ h (attrEq hb _ _ _)) h1 h2
theorem eAttrR_ok {x : Str} (H : HookS w c) (hr : Snd w c r n) (hk : Ctx w c n cx.cells k) (h : eAttrR r cx o nx e x = some (v, o', n')) : DE k cx.nm o nx (.Attribute e x pos) v o' n' := by
  refine inv_b h ?_
  clear h; intro h h1
  refine inv_o3 h ?_
  clear h; intro a o₁ n₁ h h2
  refine inv_o h ?_
  clear h; intro v h h3
  refine fin3 h ?_
  exact DE_attr2 h1 (hr.E _ _ _ _ _ _ _ h2 k hk) (eAttr_ok H hk.hw h3)
theorem eBinR_ok {op : Operator} (hr : Snd w c r n) (hk : Ctx w c n cx.cells k) (h : eBinR r cx o nx e op e' = some (v, o', n')) : DE k cx.nm o nx (.BinOp e op e' pos) v o' n' := by
  refine inv_o3 h ?_
  clear h; intro a o₁ n₁ h h1
  refine inv_o3 h ?_
  clear h; intro b o₂ n₂ h h2
  exact DE_bin (hr.E _ _ _ _ _ _ _ h1 k hk) (hr.E _ _ _ _ _ _ _ h2 k hk) (ret_bin h)
theorem sub_plain (hr : Snd w c r n) (hk : Ctx w c n cx.cells k) (hs : noSlice e' = true) (h0 : DE k cx.nm objs nx e a o₁ n₁) (h : eSubP r cx o₁ n₁ a e' = some (v, o', n')) :
    DE k cx.nm objs nx (.Subscript e e' pos) v o' n' := by
  refine inv_o3 h ?_
  clear h; intro b o₂ n₂ h h1
  refine inv_b h ?_
  clear h; intro h h2
  refine inv_o h ?_
  clear h; intro v h h3
  refine fin3 h ?_
  exact DE_sub h0 (hr.E _ _ _ _ _ _ _ h1 k hk) (ret_item hs h3 h2)
theorem sub_slice {lo hi : Option Expr} {p : Pos} (hr : Snd w c r n) (hk : Ctx w c n cx.cells k) (h0 : DE k cx.nm objs nx e a o₁ n₁) (h : eSubS r cx o₁ n₁ a lo hi = some (v, o', n')) : DE k cx.nm objs nx (.Subscript e (.Slice lo hi none p) pos) v o' n' := by
  refine inv_o3 h ?_
  clear h; intro vl o₂ n₂ h h1
  refine inv_o3 h ?_
  clear h; intro vu o₃ n₃ h h2
  exact slice_ok h0 (evPart_ok hr.E hk h1) (evPart_ok hr.E hk h2) h
theorem noSlice_of (h : ¬ e.ctorIdx = 26) : noSlice e = true := by
  cases e <;> first | rfl | exact absurd rfl h
theorem eSub_ok (hr : Snd w c r n) (hk : Ctx w c n cx.cells k) (h0 : DE k cx.nm objs nx e a o₁ n₁) (h : eSub r cx o₁ n₁ a e' = some (v, o', n')) : DE k cx.nm objs nx (.Subscript e e' pos) v o' n' := by
  refine inv_dslice h ?_ ?_ <;> clear h
  · intro lo hi st p h e0; subst e0
    refine inv_no h ?_; clear h; intro h e0; subst e0
    exact sub_slice hr hk h0 h
  · exact fun h hs => sub_plain hr hk (noSlice_of hs) h0 h
theorem eSubR_ok (H : HookS w c) (hr : Snd w c r n) (hk : Ctx w c n cx.cells k) (h : eSubR c r cx o nx e e' = some (v, o', n')) : DE k cx.nm o nx (.Subscript e e' pos) v o' n' := by
  unfold eSubR at h
  cases h1 : eTag c cx o nx e e' with
  | some x =>
    rw [h1] at h
    refine fin3 h ?_
    exact H.tag _ _ _ _ _ _ _ _ h1 k pos hk.hw hk.orc (by have := hk.hb; omega)
  | none =>
    rw [h1] at h
    refine inv_o3 h ?_
    clear h; intro a o₁ n₁ h h2
    exact eSub_ok hr hk (hr.E _ _ _ _ _ _ _ h2 k hk) h
theorem eIfR_ok {t : Expr} (hr : Snd w c r n) (hk : Ctx w c n cx.cells k) (h : eIfR r cx o nx t e e' = some (v, o', n')) : DE k cx.nm o nx (.IfExp t e e' pos) v o' n' := by
  refine inv_o3 h ?_
  clear h; intro b o₁ n₁ h h1
  have ht := hr.T _ _ _ _ _ _ _ h1 k hk
  cases b with
  | true => exact DE_ifexp ht (by rw [if_pos rfl]; exact hr.E _ _ _ _ _ _ _ h k hk)
  | false => exact DE_ifexp ht (by rw [if_neg (by decide)]; exact hr.E _ _ _ _ _ _ _ h k hk)
theorem eConstR_ok {kc : Const} {q : Nat} (h : eConstR o nx kc = some (v, o', n')) : DE k nm o nx (.Constant kc q pos) v o' n' := by
  unfold eConstR at h
  cases kc with
  | none => exact fin3 h (DE_none)
  | bool b => exact fin3 h (DE_bool)
  | int i => exact fin3 h (DE_int)
  | str x => exact fin3 h (DE_str)
  | _ => cases h
theorem DE_dict0 : DE k nm objs nx (.Dict [] [] pos) (.ref nx) ((nx, .tab []) :: objs) (nx + 1) := fun ok ρ s E vs hl hn he hi =>
  wpAny_Dict_empty ⟨_, pre_snoc, by simp [hl], is_new hl, HE.snoc he hl ⟨[], ⟨_, _, ⟨rfl, rfl, rfl⟩, rfl, fun e he => absurd he (by simp), .nil, List.nodup_nil⟩, trivial⟩ (he.F.notModules (modules_low (Top.nolimit ok.T))), ⟨_, _, rfl⟩⟩
theorem Ctx.ext (hk : Ctx w c n cx.cells k) (ext' : List (Addr × Obj)) : Ctx w c n cx.cells (k.blk k.env ext') := ⟨hk.hw, hk.orc, hk.hb, hk.hg, hk.hbu, hk.cl⟩
theorem eDict_ok {ks : List (Option Expr)} {vs : List Expr} (hr : Snd w c r n) (hk : Ctx w c n cx.cells k) (h : eDict r cx o nx ks vs = some (v, o', n')) : DE k cx.nm o nx (.Dict ks vs pos) v o' n' := by
  rcases oo_inv h with g | g <;> clear h
  · refine inv_nil g ?_; clear g; intro h e0; subst e0
    refine inv_nil h ?_; clear h; intro h e0; subst e0
    exact fin3 h DE_dict0
  · refine inv_one g ?_; clear g; intro ke h e0; subst e0
    refine inv_o h ?_; clear h; intro e h e0; subst e0
    refine inv_const h ?_; clear h; intro kc q p h e0; subst e0
    refine inv_cstr h ?_; clear h; intro x h e0; subst e0
    refine inv_one h ?_; clear h; intro e h e0; subst e0
    refine inv_o3 h ?_; clear h; intro a o₁ n₁ h h1
    refine fin3 h ?_
    exact DE_dict1 fun ext' => hr.E _ _ _ _ _ _ _ h1 _ (hk.ext ext')
theorem eCompare_inv {ops : List CmpOp} {es : List Expr} {t : Bool} (h : eCompare r cx o nx e ops es = some (t, o', n')) : ∃ op e' a b o₁ n₁, ops = [op] ∧ es = [e'] ∧ noSet e' = true ∧ r.E cx o nx e = some (a, o₁, n₁) ∧ r.E cx o₁ n₁ e' = some (b, o', n') ∧ eCmp o' op a b = some t := by
  refine inv_one h ?_; clear h; intro op h e1
  refine inv_one h ?_; clear h; intro e' h e2
  refine inv_b h ?_; clear h; intro h h1
  refine inv_o3 h ?_; clear h; intro a o₁ n₁ h h2
  refine inv_o3 h ?_; clear h; intro b o₂ n₂ h h3
  refine inv_o h ?_; clear h; intro t h h4
  cases h
  exact ⟨op, e', a, b, o₁, n₁, e1, e2, h1, h2, h3, h4⟩
theorem compareE_ok {ops : List CmpOp} {es : List Expr} (hr : Snd w c r n) (hk : Ctx w c n cx.cells k) (h : boolE (eCompare r cx o nx e ops es) = some (v, o', n')) : DE k cx.nm o nx (.Compare e ops es pos) v o' n' := by
  refine inv_o3 h ?_
  clear h; intro t oo m h h0
  refine fin3 h ?_
  obtain ⟨op, e', a, b, o₁, n₁, rfl, rfl, h1, h2, h3, h4⟩ := eCompare_inv h0
  exact DE_cmp h1 (hr.E _ _ _ _ _ _ _ h2 k hk) (hr.E _ _ _ _ _ _ _ h3 k hk) (eCmp_ok h4)
theorem compareT_ok {ops : List CmpOp} {es : List Expr} {t : Bool} (hr : Snd w c r n) (hk : Ctx w c n cx.cells k) (h : eCompare r cx o nx e ops es = some (t, o', n')) : DQ k cx.nm o nx (.Compare e ops es pos) t o' n' := by
  obtain ⟨op, e', a, b, o₁, n₁, rfl, rfl, h1, h2, h3, h4⟩ := eCompare_inv h
  exact DT_cmp h1 (hr.E _ _ _ _ _ _ _ h2 k hk) (hr.E _ _ _ _ _ _ _ h3 k hk) (eCmp_ok h4)
theorem ret_not {t : Bool} : D k nm objs nx [.bool t] (fun vs => unaryOp .Not (vs.headD .none)) Is (.bool !t) objs nx := D.ret fun ok ρ s Q E vs hn he hi q => by
  obtain ⟨v, rfl, i⟩ := hi.inv1
  cases i
  exact not_of (wpAny_truthy_bool (q _ s.toks rfl))
theorem ret_neg {i : Int} : D k nm objs nx [.int i] (fun vs => unaryOp .USub (vs.headD .none)) Is (.int (-i)) objs nx := D.ret fun ok ρ s Q E vs hn he hi q => by
  obtain ⟨v, rfl, ⟨t, rfl⟩⟩ := hi.inv1
  exact neg_int (q _ _ ⟨_, rfl⟩)
theorem eUn_ok {op : UnaryOp} (hr : Snd w c r n) (hk : Ctx w c n cx.cells k) (h : eUn r cx o nx op e = some (v, o', n')) : DE k cx.nm o nx (.UnaryOp op e pos) v o' n' := by
  refine inv_o3 h ?_
  clear h; intro a o₁ n₁ h h1
  have h0 := hr.E _ _ _ _ _ _ _ h1 k hk
  rcases oo_inv h with g | g <;> clear h
  · refine inv_rb g ?_; clear g; intro t h e0; subst e0
    refine inv_not h ?_; clear h; intro h e0; subst e0
    exact fin3 h (DE_unary h0 ret_not)
  · refine inv_ri g ?_; clear g; intro t h e0; subst e0
    refine inv_neg h ?_; clear h; intro h e0; subst e0
    exact fin3 h (DE_unary h0 ret_neg)
theorem andV_ok (hr : Snd w c r n) (hk : Ctx w c n cx.cells k) : ∀ {es : List Expr} {e : Expr} {o : Ob} {nx : Nat}, andV (r.E cx) es e o nx = some (v, o', n') → DE k cx.nm o nx (.BoolOp .And (e :: es) pos) v o' n'
  | [], e, o, nx, h => fun ok ρ s E vs hl hn he hi => BoolOp_one (hr.E _ _ _ _ _ _ _ h k hk ok ρ s E vs hl hn he hi)
  | e' :: es, e, o, nx, h => by
    refine inv_o3 h ?_
    clear h; intro a o₁ n₁ h h1
    have h0 := hr.E _ _ _ _ _ _ _ h1 k hk
    refine inv_rb h ?_; clear h; intro t h e0; subst e0
    cases t with
    | true =>
      have ih := andV_ok hr hk (es := es) (e := e') h
      exact fun ok ρ s E vs hl hn he hi => BoolOp_and (wpAny_mono (h0 ok ρ s E vs hl hn he hi) (fun v s₁ ⟨ρ₁, p₁, l₁, i₁, e₁, S₁⟩ => by
        cases i₁
        refine wpAny_truthy_bool ?_
        rw [if_pos rfl]
        exact wpAny_mono (ih ok ρ₁ s₁ E [] l₁ (hn.mono p₁) e₁ trivial) (fun v s₂ ⟨ρ₂, p₂, l₂, i₂, e₂, S₂⟩ => ⟨ρ₂, p₁.trans p₂, l₂, i₂, e₂, S₁.trans S₂⟩) fun _ _ z => z) fun _ _ z => z)
    | false =>
      refine fin3 h ?_
      exact fun ok ρ s E vs hl hn he hi => BoolOp_and (wpAny_mono (h0 ok ρ s E vs hl hn he hi) (fun v s₁ ⟨ρ₁, p₁, l₁, i₁, e₁, S₁⟩ => by
        cases i₁
        refine wpAny_truthy_bool ?_
        rw [if_neg (by decide)]
        exact ⟨ρ₁, p₁, l₁, rfl, e₁, S₁⟩) fun _ _ z => z)
theorem orV_ok (hr : Snd w c r n) (hk : Ctx w c n cx.cells k) : ∀ {es : List Expr} {e : Expr} {o : Ob} {nx : Nat}, orV (r.E cx) es e o nx = some (v, o', n') → DE k cx.nm o nx (.BoolOp .Or (e :: es) pos) v o' n'
  | [], e, o, nx, h => fun ok ρ s E vs hl hn he hi => BoolOp_one (hr.E _ _ _ _ _ _ _ h k hk ok ρ s E vs hl hn he hi)
  | e' :: es, e, o, nx, h => by
    refine inv_o3 h ?_
    clear h; intro a o₁ n₁ h h1
    have h0 := hr.E _ _ _ _ _ _ _ h1 k hk
    refine inv_rb h ?_; clear h; intro t h e0; subst e0
    cases t with
    | false =>
      have ih := orV_ok hr hk (es := es) (e := e') h
      exact fun ok ρ s E vs hl hn he hi => BoolOp_or (wpAny_mono (h0 ok ρ s E vs hl hn he hi) (fun v s₁ ⟨ρ₁, p₁, l₁, i₁, e₁, S₁⟩ => by
        cases i₁
        refine wpAny_truthy_bool ?_
        rw [if_neg (by decide)]
        exact wpAny_mono (ih ok ρ₁ s₁ E [] l₁ (hn.mono p₁) e₁ trivial) (fun v s₂ ⟨ρ₂, p₂, l₂, i₂, e₂, S₂⟩ => ⟨ρ₂, p₁.trans p₂, l₂, i₂, e₂, S₁.trans S₂⟩) fun _ _ z => z) fun _ _ z => z)
    | true =>
      refine fin3 h ?_
      exact fun ok ρ s E vs hl hn he hi => BoolOp_or (wpAny_mono (h0 ok ρ s E vs hl hn he hi) (fun v s₁ ⟨ρ₁, p₁, l₁, i₁, e₁, S₁⟩ => by
        cases i₁
        refine wpAny_truthy_bool ?_
        rw [if_pos rfl]
        exact ⟨ρ₁, p₁, l₁, rfl, e₁, S₁⟩) fun _ _ z => z)
theorem mkList_ok {es : List Expr} (hr : Snd w c r n) (hk : Ctx w c n cx.cells k) (h : mkList (evL (r.E cx) es o nx) = some (v, o', n')) : DE k cx.nm o nx (.List es pos) v o' n' := by
  refine inv_o3 h ?_
  clear h; intro l o₁ n₁ h h1
  refine inv_b h ?_
  clear h; intro h h2
  refine fin3 h ?_
  exact DE_list (evL_ok hr.E hk h1).1 (ltS_le h2)
theorem mkTup_ok {es : List Expr} {q : Nat} (hr : Snd w c r n) (hk : Ctx w c n cx.cells k) (h : mkTup (evL (r.E cx) es o nx) = some (v, o', n')) : DE k cx.nm o nx (.Tuple es q pos) v o' n' := by
  refine inv_o3 h ?_
  clear h; intro l o₁ n₁ h h1
  refine inv_b h ?_
  clear h; intro h h2
  refine fin3 h ?_
  exact DE_tuple (evL_ok hr.E hk h1).1 (ltS_le h2)
theorem stepE_ok (ht : TabS w c) (H : HookS w c) (hr : Snd w c r n) : SndE w c ⟨stepE c r, r.T, r.S⟩ (n + 1) := by
  intro cx o nx e a o' n' h k hk
  have h : stepE c r cx o nx e = some (a, o', n') := h
  cases e with
  | Name x p =>
    have h' : eName cx o nx x = some (a, o', n') := h
    refine inv_o h' ?_
    clear h'; intro b h' h1
    refine fin3 h' ?_
    exact DE_name h1
  | Constant kc q p => exact eConstR_ok h
  | List es p => exact mkList_ok hr hk.less h
  | Tuple es q p => exact mkTup_ok hr hk.less h
  | Attribute e x p => exact eAttrR_ok H hr hk.less h
  | BinOp e op e' p => exact eBinR_ok hr hk.less h
  | Compare e ops es p => exact compareE_ok hr hk.less h
  | UnaryOp op e p => exact eUn_ok hr hk.less h
  | BoolOp op es p =>
    cases es with
    | nil => cases h
    | cons e es => cases op with
      | And => exact andV_ok hr hk.less h
      | Or => exact orV_ok hr hk.less h
  | Subscript e e' p => exact eSubR_ok H hr hk.less h
  | IfExp t e e' p => exact eIfR_ok hr hk.less h
  | Dict ks vs p => exact eDict_ok hr hk.less h
  | ListComp elt gs scope p =>
    cases gs with
    | nil => cases h
    | cons g gs => cases gs with
      | nil => exact eComp_ok hr hk.less h
      | cons _ _ => cases h
  | Call f es kws p => exact eCallR_ok ht H hr hk h
  | _ => cases h
/-- tests -/
theorem andL_ok (hr : Snd w c r n) (hk : Ctx w c n cx.cells k) : ∀ {es : List Expr} {o : Ob} {nx : Nat} {t : Bool}, andL (r.T cx) es o nx = some (t, o', n') → DT k cx.nm o nx (.BoolOp .And es pos) t o' n'
  | [], o, nx, t, h => by exact fin3 h (DT_andN)
  | e :: es, o, nx, t, h => by
    refine inv_o3 h ?_
    clear h; intro b o₁ n₁ h h1
    have h0 := hr.T _ _ _ _ _ _ _ h1 k hk
    cases b with
    | true => exact DT_andT h0 (andL_ok hr hk h)
    | false => exact fin3 h (DT_andF h0)
theorem orL_ok (hr : Snd w c r n) (hk : Ctx w c n cx.cells k) : ∀ {es : List Expr} {o : Ob} {nx : Nat} {t : Bool}, orL (r.T cx) es o nx = some (t, o', n') → DT k cx.nm o nx (.BoolOp .Or es pos) t o' n'
  | [], o, nx, t, h => by exact fin3 h (DT_orN)
  | e :: es, o, nx, t, h => by
    refine inv_o3 h ?_
    clear h; intro b o₁ n₁ h h1
    have h0 := hr.T _ _ _ _ _ _ _ h1 k hk
    cases b with
    | false => exact DT_orF h0 (orL_ok hr hk h)
    | true => exact fin3 h (DT_orT h0)
theorem asBool_ok (hr : Snd w c r n) (hk : Ctx w c n cx.cells k) {t : Bool} (hp : plainT e = true) (h : asBool (r.E cx o nx e) = some (t, o', n')) : DQ k cx.nm o nx e t o' n' := by
  refine inv_o3 h ?_
  clear h; intro a o₁ n₁ h h1
  refine inv_rb h ?_; clear h; intro b h e0; subst e0
  exact fin3 h (DT_plain hp (hr.E _ _ _ _ _ _ _ h1 k hk))
theorem stepT_ok (H : HookS w c) (hr : Snd w c r n) : SndT w c ⟨r.E, stepT r, r.S⟩ (n + 1) := by
  intro cx o nx e t o' n' h k hk
  replace h : stepT r cx o nx e = some (t, o', n') := h
  rcases oo_inv h with g | g0 <;> clear h
  · refine inv_b g ?_; clear g; intro h hp
    exact asBool_ok hr hk.less hp h
  rcases oo_inv g0 with g | g1 <;> clear g0
  · refine inv_comp g ?_; clear g; intro l ops es p h e0; subst e0
    exact compareT_ok hr hk.less h
  rcases oo_inv g1 with g | g <;> clear g1
  · refine inv_boolop g ?_; clear g; intro op es p h e0; subst e0
    cases op with
    | And =>
      rcases oo_inv (show oo _ _ = _ from h) with g | g <;> clear h
      · refine inv_b g ?_; clear g; intro h h1
        exact fin3 h (H.nameless _ _ _ _ h1 k hk.hw)
      · exact andL_ok hr hk.less g _
    | Or => exact orL_ok hr hk.less h _
  · refine inv_un g ?_; clear g; intro op e p h e0; subst e0
    refine inv_not h ?_; clear h; intro h e0; subst e0
    refine inv_o3 h ?_; clear h; intro b o₁ n₁ h h1
    refine fin3 h ?_
    exact DT_not (hr.T _ _ _ _ _ _ _ h1 k hk.less) _
end
end Mine
end
section
namespace Mine
section
variable {w : World} {c : Cfg} {r : Rec} {n : Nat} {k : EC} {q : FnS} {st st' : St} {f : SF} {a : SV} {o o' o₁ : Ob} {nx n' n₁ : Nat} {e : Expr} {x : Str} {pos p : Pos}
structure KS (w : World) (c : Cfg) (n : Nat) (k : EC) : Prop where
  hw : k.w = w
  orc : Orc c k.X
  hb : n + c.mg ≤ k.b
theorem KS.ctx (h : KS w c n k) (fr : Frm q k) {m : Str → Option Value} {ext : List (Addr × Obj)} : Ctx w c n (cellNames q) (k.at m ext) := ⟨h.hw, h.orc, h.hb, by show k.env.globals = _; rw [fr.env], by show k.env.builtins = _; rw [fr.env], fun x hx => by
  have hm := memS_iff.mp hx
  refine (?_ : ∃ a, k.env.cells.lookup x = some a)
  rw [fr.env]
  refine (?_ : ∃ a, (cellsOf q k.L).lookup x = some a)
  rw [← cellNames_eq q k.L] at hm
  obtain ⟨p, hp, rfl⟩ := List.mem_map.mp hm
  exact lookup_isSome hp⟩
theorem fE (hr : SndE w c r n) (hk : KS w c n k) (fr : Frm q k) (h : r.E (fcx q st.σ) o nx e = some (a, o', n')) : DX q k ⟨st.σ, o, nx⟩ e a o' n' := fun m ext => by
  have := hr _ _ _ _ _ _ _ h (k.at m ext) (hk.ctx fr)
  dsimp only [fcx] at this
  rw [nmE_eq] at this
  exact this
theorem fT {b : Bool} (hr : SndT w c r n) (hk : KS w c n k) (fr : Frm q k) (h : r.T (fcx q st.σ) o nx e = some (b, o', n')) : DTX q k ⟨st.σ, o, nx⟩ e b o' n' := fun m ext => by
  have := hr _ _ _ _ _ _ _ h (k.at m ext) (hk.ctx fr)
  dsimp only [fcx] at this
  rw [nmE_eq] at this
  exact this
/-- what a statement does, its frame given -/
noncomputable def DSF (q : FnS) (k : EC) (st : St) (t : Sem Flow) (f : SF) (st' : St) : Prop := Frm q k → DS q k st t f st'
theorem DSF.ds {t : Sem Flow} (h : DSF q k st t f st') : DS q k st t f st' := fun ok fr => h fr ok fr
theorem stOf_ok {R : RE} (h : stOf st x R = some (f, st')) : ∃ a o n, R = some (a, o, n) ∧ f = .next ∧ st' = ⟨(x, a) :: st.σ, gcV a o st.nx, n⟩ := by
  cases R with
  | none => cases h
  | some p => obtain ⟨a, o, n⟩ := p; cases h; exact ⟨a, o, n, rfl, rfl, rfl⟩
theorem sPlain_ok (hr : Snd w c r n) (hk : KS w c n k) (h : sPlain r q st x e = some (f, st')) : DS q k st (exec (.Assign [.Name x p] e pos) k.env) f st' := by
  refine inv_b h ?_
  clear h; intro h h1
  refine inv_g h rfl ?_
  clear h; intro h h2
  obtain ⟨a, o, m, e1, rfl, rfl⟩ := stOf_ok h
  exact DSF.ds fun fr => DS.weak (o := o) (DS_assign h1 (stE_ok h2) (fE hr.E hk fr e1)) fun k ρ s he => he.gcV
theorem plainLoc_ok (h : plainLoc q x = true) : stOk q x = true ∧ q.sc.names.lookup x = some .local := by
  refine inv_bT h ?_
  clear h; intro h h1
  have e := isLocK_eq h1
  refine ⟨stE_ok ?_, by rw [← lkS_eq]; exact e⟩
  unfold stE
  rw [e]
  exact h
theorem notLoc_ok {y : Str} : ∀ {names : List (Str × NameKind)}, notLoc y names = true → (names.any fun z => z.1 == y && (z.2 == .local || z.2 == .cell)) = false
  | [], _ => rfl
  | p :: l, h => by
    refine inv_nbT h ?_
    clear h; intro h h1
    rw [seq_eq] at h1
    rw [List.any_cons, h1, notLoc_ok h]
    rfl
theorem swaps_ok {elt : Expr} {gs : List Comprehension} {scope : Scope} {line : Nat} (fr : Frm q k) (h1 : q.sc.names.lookup x = some .local) (h2 : Nat.beq p.line pos.line = true) (h3 : notLoc x scope.names = true) : swapsWith (.ListComp elt gs scope pos) (some (.Name x p)) line k.env = pure true := by
  have hb : (k.env.blockKind == .function) = true := by
    rw [fr.env]
    refine (?_ : ((if q.sc.kind.isAnnotationScope then ScopeKind.function else q.sc.kind) == .function) = true)
    rw [fr.fk]; rfl
  have hk : (k.env.kindOf x == some .local) = true := by
    rw [fr.env]
    refine (?_ : (q.sc.names.lookup x == some .local) = true)
    rw [h1]; rfl
  have hp : (p.line == pos.line) = true := by simpa using Nat.eq_of_beq_eq_true h2
  have hn := notLoc_ok h3
  refine (?_ : (pure (k.env.blockKind == .function && k.env.kindOf x == some .local && p.line == pos.line && !(scope.names.any fun (z, kd) => z == x && (kd == .local || kd == .cell))) : Sem Bool) = pure true)
  rw [hb, hk, hp]
  have e : (scope.names.any fun (z, kd) => z == x && (kd == .local || kd == .cell)) = false := hn
  rw [e]
  rfl
theorem compA_ok {elt target iter : Expr} {ifs : List Expr} {scope : Scope} {cl : List (Str × Addr)} {m : Nat} {spos : Pos} (hr : Snd w c r n) (hk : KS w c n k) (fr : Frm q k) (hs : stOk q x = true) (hl : q.sc.names.lookup x = some .local) (hsw : ∀ gs, swapsWith (.ListComp elt gs scope pos) (some (.Name x p)) spos.line k.env = pure true)
    (sc : ScOk scope (cellNames q)) (hcl : freeCl k.env.cells scope.names [] = some cl) (hns : noSet iter = true) (h0 : DX q k st iter (.ref m) o₁ n₁) (h : compA r (fcx q st.σ) elt target ifs scope o₁ n₁ m = some (a, o', n')) :
    DS q k st (exec (.Assign [.Name x p] (.ListComp elt [⟨target, iter, ifs, 0⟩] scope pos) spos) k.env) .next ⟨(x, a) :: st.σ, o', n'⟩ := by
  have hP : PBlk (Ctx w c n []) k scope cl := fun X' e1 e2 C ext => ⟨hk.hw, hk.orc.of e1 e2, hk.hb, by show k.env.globals = _; rw [fr.env], by show k.env.builtins = _; rw [fr.env], fun x h => nomatch h⟩
  have hPk : ∀ {k' : EC} {m ext}, Ctx w c n [] k' → Ctx w c n [] (k'.at m ext) := fun {k' m ext} h => ⟨h.hw, h.orc, h.hb, h.hg, h.hbu, fun x h => nomatch h⟩
  rcases oo_inv h with g | g <;> clear h
  · refine inv_name g ?_; clear g; intro y py h e0; subst e0
    refine inv_b h ?_; clear h; intro h h1
    refine inv_nil h ?_; clear h; intro h e0; subst e0
    refine inv_o h ?_; clear h; intro t h h2
    unfold comp1 at h
    rw [h2] at h
    obtain ⟨rs, oo, m', e1, rfl, rfl, rfl⟩ := compR_ok h
    obtain ⟨g1, g2⟩ := rngO_ok h2
    have tt := turnsR_ok hr.E e1
    dsimp only [fcx] at tt
    rw [nmE_eq] at tt
    exact DS_compR hs hl (hsw _) hcl sc.kd (sc.blk (locS_eq h1)) hns hP hPk h0 g1 g2 tt
  · refine inv_tuple g ?_; clear g; intro es tk tp h e0; subst e0
    refine inv_nil h ?_; clear h; intro h e0; subst e0
    refine inv_o2 h ?_; clear h; intro y z h h3
    obtain ⟨py, pz, rfl⟩ := pr2_eq h3
    refine inv_b h ?_; clear h; intro h h1
    refine inv_b h ?_; clear h; intro h h2
    refine inv_nb h ?_; clear h; intro h h3
    refine inv_o h ?_; clear h; intro S h h4
    obtain ⟨rs, oo, m', o'', e1, e2, rfl, rfl, rfl⟩ := compF_ok h
    obtain ⟨g1, g2⟩ := compS_ok h4
    have tt := turnsP_ok hr.E e1
    dsimp only [fcx] at tt
    rw [nmE_eq] at tt
    exact DS_compP hs hl (hsw _) hcl sc.kd (sc.blk (locS_eq h1)) (locS_eq h2) (fun e => by rw [seq_iff.mpr e] at h3; cases h3) hns hP hPk h0 g1 g2 tt e2
theorem sComp_ok {elt : Expr} {gs : List Comprehension} {scope : Scope} {spos : Pos} (hr : Snd w c r n) (hk : KS w c n k) (h : sComp r q st x p elt gs scope pos = some (f, st')) : DS q k st (exec (.Assign [.Name x p] (.ListComp elt gs scope pos) spos) k.env) f st' := DSF.ds fun fr => by
  cases gs with
  | nil => cases h
  | cons g gs => cases gs with
    | cons _ _ => cases h
    | nil =>
      refine inv_b h ?_
      clear h; intro h h1
      refine inv_b h ?_
      clear h; intro h h2
      refine inv_b h ?_
      clear h; intro h h3
      obtain ⟨a, o, m, e1, rfl, rfl⟩ := stOf_ok h
      obtain ⟨g1, g2⟩ := plainLoc_ok h1
      obtain ⟨target, iter, ifs, asy⟩ := g
      refine inv_b e1 ?_
      clear e1; intro e1 h4
      refine inv_b e1 ?_
      clear e1; intro e1 h5
      refine inv_b e1 ?_
      clear e1; intro e1 h6
      have e0 : asy = 0 := of_decide_eq_true h6
      subst e0
      refine inv_o3 e1 ?_
      clear e1; intro b o₁ n₁ e1 h7
      refine inv_rf e1 ?_; clear e1; intro m' e1 e0; subst e0
      have sc := scOk_ok h4
      obtain ⟨cl, hcl⟩ := frees_ok (hk.ctx fr (m := k.m) (ext := k.ext)).cl (acc := []) sc.fr
      exact DS.weak (o := o) (compA_ok hr hk fr g1 g2 (fun gs => swaps_ok fr g2 h2 h3) sc hcl h5 (fE hr.E hk fr h7) e1) fun k ρ s he => he.gcV
theorem sAttr_ok {b : Expr} {pa : Pos} (hr : Snd w c r n) (hk : KS w c n k) (h : sAttr r q st b x e = some (f, st')) : DS q k st (exec (.Assign [.Attribute b x pa] e pos) k.env) f st' := DSF.ds fun fr => by
  refine inv_b h ?_
  clear h; intro h h1
  refine inv_o3 h ?_
  clear h; intro a o m h h2
  refine inv_o3 h ?_
  clear h; intro v o₁ n₁ h h3
  refine inv_o h ?_
  clear h; intro o₂ h h4
  refine fin2 h ?_
  exact DS_attr h1 (fE hr.E hk fr h2) (fE (st := st) hr.E hk fr h3) fun m ext nm => eSetA_ok h4
theorem sItem_ok {b i : Expr} {pa : Pos} (hr : Snd w c r n) (hk : KS w c n k) (h : sItm r q st b i e = some (f, st')) : DS q k st (exec (.Assign [.Subscript b i pa] e pos) k.env) f st' := DSF.ds fun fr => by
  refine inv_b h ?_
  clear h; intro h h1
  refine inv_o3 h ?_
  clear h; intro a o m h h2
  refine inv_o3 h ?_
  clear h; intro v o₁ n₁ h h3
  refine inv_o3 h ?_
  clear h; intro j o₂ n₂ h h4
  refine inv_o h ?_
  clear h; intro o₃ h h5
  refine fin2 h ?_
  exact DS_item h1 (fE hr.E hk fr h2) (fE (st := st) hr.E hk fr h3) (fE (st := st) hr.E hk fr h4) fun m ext nm => eSetI_ok h5
theorem all_ok {xs : List Str} (h : xs.all (stE q) = true) : xs.all (stOk q) = true := by
  rw [List.all_eq_true] at h ⊢
  exact fun x hx => stE_ok (h x hx)
theorem sTup_ok {es : List Expr} {kk : Nat} {pa : Pos} (hr : Snd w c r n) (hk : KS w c n k) (h : sTpl r q st es e = some (f, st')) : DS q k st (exec (.Assign [.Tuple es kk pa] e pos) k.env) f st' := DSF.ds fun fr => by
  refine inv_b h ?_
  clear h; intro h h1
  refine inv_o3 h ?_
  clear h; intro a o m h h2
  refine inv_rf h ?_
  clear h; intro t h e
  subst e
  refine inv_o h ?_
  clear h; intro l h h3
  refine inv_o h ?_
  clear h; intro xs h h4
  refine inv_b h ?_
  clear h; intro h h5
  refine inv_b h ?_
  clear h; intro h h6
  refine fin2 h ?_
  exact DS_unpack h1 (fE hr.E hk fr h2) h4 (all_ok h6) h3 (Nat.eq_of_beq_eq_true h5)
theorem sAssign_ok {t : Expr} (hr : Snd w c r n) (hk : KS w c n k) (h : sAssign r q st t e = some (f, st')) : DS q k st (exec (.Assign [t] e pos) k.env) f st' := by
  rcases oo_inv h with g | g0 <;> clear h
  · refine inv_name g ?_; clear g; intro x p h e0; subst e0
    refine inv_dlc h ?_ ?_ <;> clear h
    · intro elt gs scope p' h e0; subst e0; exact sComp_ok hr hk h
    · exact fun h _ => sPlain_ok hr hk h
  rcases oo_inv g0 with g | g1 <;> clear g0
  · refine inv_attr g ?_; clear g; intro b x pa h e0; subst e0; exact sAttr_ok hr hk h
  rcases oo_inv g1 with g | g <;> clear g1
  · refine inv_subs g ?_; clear g; intro b i pa h e0; subst e0; exact sItem_ok hr hk h
  · refine inv_tuple g ?_; clear g; intro es kk pa h e0; subst e0; exact sTup_ok hr hk h
theorem sAug_ok {t : Expr} {op : Operator} (hr : Snd w c r n) (hk : KS w c n k) (h : sAug r q st t op e = some (f, st')) : DS q k st (exec (.AugAssign t op e pos) k.env) f st' := DSF.ds fun fr => by
  refine inv_name h ?_; clear h; intro x p h e0; subst e0
  refine inv_add h ?_; clear h; intro h e0; subst e0
  refine inv_b h ?_; clear h; intro h h1
  refine inv_o h ?_; clear h; intro v h h2
  refine inv_ri h ?_; clear h; intro i h e; subst e
  refine inv_o3 h ?_; clear h; intro a o m h h3
  refine inv_ri h ?_; clear h; intro j h e; subst e
  cases h
  obtain ⟨g1, g2⟩ := plainLoc_ok h1
  rw [lkS_eq] at h2
  exact DS_aug g1 g2 h2 (fE hr.E hk fr h3)
theorem KS.more (hk : KS w c n k) {X' : Xp} {raw : List (Addr × Obj)} (e1 : X'.V = k.X.V) (e2 : X'.S = k.X.S) : KS w c n ((k.withX X').withR raw) := ⟨hk.hw, hk.orc.of e1 e2, hk.hb⟩
theorem turnS_ok {target : Expr} {body : List Stmt} (hr : SndS w c r n) (h : turnS r q target body st a = some st') : ∀ kb, KS w c n kb → DTurn q kb st a target body st' := fun kb hk => by
  have tb : ∀ {st₀ : St}, turnB r q body st₀ = some st' → r.S q st₀ body = some (.next, st') := fun {st₀} h => by
    refine inv_o2 h ?_; clear h; intro f st₁ h h2
    refine inv_nxt h ?_; clear h; intro h e0; subst e0
    cases h; exact h2
  rcases oo_inv h with g | g <;> clear h
  · refine inv_name g ?_; clear g; intro x p h e0; subst e0
    refine inv_b h ?_; clear h; intro h h1
    exact turn_name (stE_ok h1) (hr _ _ _ _ _ (tb h) kb hk.hw hk.orc hk.hb)
  · refine inv_tuple g ?_; clear g; intro es kk p h e0; subst e0
    refine inv_rf h ?_; clear h; intro m h e0; subst e0
    refine inv_o h ?_; clear h; intro l h h1
    refine inv_o h ?_; clear h; intro xs h h2
    refine inv_b h ?_; clear h; intro h h3
    refine inv_b h ?_; clear h; intro h h4
    exact turn_tup h2 (all_ok h4) h1 (Nat.eq_of_beq_eq_true h3) (hr _ _ _ _ _ (tb h) kb hk.hw hk.orc hk.hb)
theorem loopS_ok {target : Expr} {body : List Stmt} {chk : Ob → Bool} (hr : SndS w c r n) : ∀ {l : List SV} {st st' : St}, loopS (turnS r q target body) chk l st = some st' → TR (KS w c n) q target body chk l st st'
  | [], st, st', h => by cases h; rfl
  | a :: l, st, st', h => by
    refine inv_o h ?_
    clear h; intro st₁ h h1
    refine inv_b h ?_
    clear h; intro h h2
    exact ⟨st₁, turnS_ok hr h1, h2, loopS_ok hr h⟩
theorem sFor_ok {target iter : Expr} {body : List Stmt} (hr : Snd w c r n) (hk : KS w c n k) (h : sFor r q st target iter body = some (f, st')) : DS q k st (exec (.For target iter body [] pos) k.env) f st' := DSF.ds fun fr => by
  refine inv_b h ?_
  clear h; intro h h1
  refine inv_o3 h ?_
  clear h; intro a o m h h2
  refine inv_rf h ?_
  clear h; intro t h e
  subst e
  have h0 := fE hr.E hk fr h2
  rcases oo_inv h with g | g <;> clear h
  · refine inv_o g ?_; clear g; intro j h h3
    refine inv_name h ?_; clear h; intro x px h e0; subst e0
    refine inv_o h ?_; clear h; intro st₁ h h4
    refine fin2 h ?_
    obtain ⟨g1, g2⟩ := rngO_ok h3
    exact DS_forR h1 (fun raw => hk.more (X' := k.X) rfl rfl) h0 g1 g2 (loopS_ok hr.S h4)
  · refine inv_o g ?_; clear g; intro S h h4
    refine inv_o h ?_; clear h; intro st₁ h h5
    refine inv_o h ?_; clear h; intro o' h h6
    refine fin2 h ?_
    exact DS_forL h1 (fun X' raw e1 e2 => hk.more e1 e2) h0 h4 (loopS_ok hr.S h5) h6
theorem sWhile_ok {test : Expr} {body : List Stmt} (hr : Snd w c r n) (hk : KS w c n k) (fr : Frm q k) : ∀ {m : Nat} {st st' : St}, sWhile r q test body m st = some st' → TW (fun _ => True) q k test body st st'
  | 0, _, _, h => nomatch h
  | m + 1, st, st', h => by
    refine inv_o3 h ?_
    clear h; intro b o nn h h1
    cases b with
    | false => cases h; exact .stop (fT hr.T hk fr h1)
    | true =>
      refine inv_o2 (F := fun f_ st' => nxt f_ (sWhile r q test body m st')) h ?_
      clear h; intro f st₁ h h2
      cases f with
      | ret _ => cases h
      | next => exact .turn (fT hr.T hk fr h1) (hr.S _ _ _ _ _ h2 k hk.hw hk.orc hk.hb) (sWhile_ok hr hk fr h)
theorem DS_ifW {b b' : List Stmt} {t : Bool} {seen : List Nat} {m : Nat} (h1 : DTX q k st e t o₁ n₁) (h2 : DS q k ⟨st.σ, gcF seen m o₁, n₁⟩ (execs (if t then b else b') k.env) f st') : DS q k st (exec (.If e b b' pos) k.env) f st' := DS_if h1 fun ok fr ρ s E hl ⟨m', cs, g1, g2, g3⟩ => h2 ok fr ρ s E hl ⟨m', cs, g1, g2, g3.gc⟩
theorem stepS_ok {t : Stmt} (hr : Snd w c r n) (hk : KS w c n k) (h : stepS r q st t = some (f, st')) : DS q k st (exec t k.env) f st' := by
  cases t with
  | Assign ts e p =>
    cases ts with
    | nil => cases h
    | cons t ts => cases ts with
      | nil => exact sAssign_ok hr hk h
      | cons _ _ => cases h
  | AugAssign t op e p => exact sAug_ok hr hk h
  | Return e p =>
    cases e with
    | none => cases h; exact DS_returnN
    | some e =>
      have h' : bd3 (r.E (fcx q st.σ) st.objs st.nx e) (fun a o n => some (SF.ret a, (⟨st.σ, o, n⟩ : St))) = some (f, st') := h
      refine inv_o3 h' ?_
      clear h'; intro a o m h' h1
      refine fin2 h' ?_
      exact DSF.ds fun fr => DS_return (fE hr.E hk fr h1)
  | Expr e p =>
    have h' : sExpr r q st e = some (f, st') := h
    refine inv_b h' ?_
    clear h'; intro h' h0
    refine inv_o3 h' ?_
    clear h'; intro a o m h' h1
    refine fin2 h' ?_
    exact DSF.ds fun fr => DS_expr h0 (fE hr.E hk fr h1)
  | If e b b' p =>
    have h' : sIf r q st e b b' = some (f, st') := h
    refine inv_o3 h' ?_
    clear h'; intro t o m h' h1
    cases t with
    | true => exact DSF.ds fun fr => DS_ifW (fT hr.T hk fr h1) (by rw [if_pos rfl]; exact hr.S _ _ _ _ _ h' k hk.hw hk.orc hk.hb)
    | false => exact DSF.ds fun fr => DS_ifW (fT hr.T hk fr h1) (by rw [if_neg (by decide)]; exact hr.S _ _ _ _ _ h' k hk.hw hk.orc hk.hb)
  | For t i b b' p =>
    cases b' with
    | nil => exact sFor_ok hr hk h
    | cons _ _ => cases h
  | While t b b' p =>
    cases b' with
    | nil =>
      have h' : bd (sWhile r q t b 9 st) (fun st' => some (SF.next, st')) = some (f, st') := h
      refine inv_o h' ?_
      clear h'; intro st₁ h' h1
      refine fin2 h' ?_
      exact DSF.ds fun fr => DS_while (sWhile_ok hr hk fr h1)
    | cons _ _ => cases h
  | _ => cases h
theorem stmts_ok (hr : Snd w c r n) : ∀ {l : List Stmt} {st : St} {f : SF} {st' : St}, stmts (stepS r q) l st = some (f, st') → ∀ k : EC, KS w c n k → DS q k st (execs l k.env) f st'
  | [], st, f, st', h, k, hk => by cases h; exact DS_nil
  | t :: l, st, f, st', h, k, hk => by
    refine inv_o2 h ?_
    clear h; intro g st₁ h h1
    cases g with
    | next => exact DS_cons (stepS_ok hr hk h1) (stmts_ok hr h k hk)
    | ret a => cases h; exact DS_ret (stepS_ok hr hk h1)
theorem ev_ok (ht : TabS w c) (H : HookS w c) : ∀ n, Snd w c (ev c n) n
  | 0 => ⟨(fun cx o nx e a o' n' h => nomatch h), (fun cx o nx e a o' n' h => nomatch h), (fun q st l f st' h => nomatch h)⟩
  | n + 1 =>
    have ih := ev_ok ht H n
    ⟨fun cx o nx e a o' n' h => stepE_ok ht H ih cx o nx e a o' n' h, fun cx o nx e a o' n' h => stepT_ok H ih cx o nx e a o' n' h, fun q st l f st' h k hw ho hb => stmts_ok ih h k ⟨hw, ho, by omega⟩⟩
end
end Mine
end
section
namespace Mine
section
variable {ρ : List Addr} {q : FnS} {svs : List SV} {vs : List Value} {bs : List (Str × SV)} {p₁ p₂ p₃ p₄ p₅ : Str} {d : SV}
theorem bind_inv (h : bindS q svs = some bs) : svs.length ≤ q.ps.length ∧ q.ps.length - svs.length ≤ q.ds.length ∧ bs = q.ps.zip (svs ++ q.ds.drop (q.ds.length - (q.ps.length - svs.length))) := by
  unfold bindS at h
  by_cases hc : svs.length ≤ q.ps.length ∧ q.ps.length - svs.length ≤ q.ds.length
  · rw [if_pos hc] at h; cases h; exact ⟨hc.1, hc.2, rfl⟩
  · rw [if_neg hc] at h; cases h
/-- all parameters given -/
noncomputable def Full (ρ : List Addr) (ps : List Str) (bs : List (Str × SV)) (vs : List Value) : Prop := vs.length = ps.length ∧ IsB ρ bs (ps.zip vs)
theorem isB_zip : ∀ {ps : List Str} {svs : List SV} {vs : List Value}, svs.length = ps.length → IsL ρ svs vs → IsB ρ (ps.zip svs) (ps.zip vs)
  | [], [], [], _, _ => trivial
  | p :: ps, a :: svs, v :: vs, h, hi => ⟨rfl, hi.1, isB_zip (by simpa using h) hi.2⟩
  | [], _ :: _, _, h, _ => nomatch h
  | _ :: _, [], _, h, _ => nomatch h
  | _, [], _ :: _, _, hi => hi.elim
  | _, _ :: _, [], _, hi => hi.elim
theorem bind_full (hd : q.ds = []) (hb : bindS q svs = some bs) (hi : IsL ρ svs vs) : Full ρ q.ps bs vs := by
  obtain ⟨h1, h2, h3⟩ := bind_inv hb
  rw [hd] at h2 h3
  have hl : svs.length = q.ps.length := by have : q.ps.length - svs.length ≤ 0 := h2; omega
  refine ⟨by rw [hi.length, hl], ?_⟩
  rw [h3, List.drop_nil, List.append_nil]
  exact isB_zip hl hi
/-- all parameters, or all but the last, whose default is None -/
theorem bind_last (hd : q.ds = [.none]) (hb : bindS q svs = some bs) (hi : IsL ρ svs vs) : Full ρ q.ps bs vs ∨ Full ρ q.ps bs (vs ++ [.none]) ∧ vs.length + 1 = q.ps.length := by
  obtain ⟨h1, h2, h3⟩ := bind_inv hb
  rw [hd] at h2 h3
  have h2' : q.ps.length - svs.length ≤ 1 := h2
  by_cases hl : svs.length = q.ps.length
  · left
    refine ⟨by rw [hi.length, hl], ?_⟩
    rw [h3, hl, Nat.sub_self]
    rw [show [SV.none].drop ([SV.none].length - 0) = [] from rfl, List.append_nil]
    exact isB_zip hl hi
  · right
    have e : q.ps.length - svs.length = 1 := by omega
    have hl' := hi.length
    refine ⟨⟨by rw [List.length_append, hl']; show svs.length + 1 = _; omega, ?_⟩, by rw [hl']; omega⟩
    rw [h3, e]
    exact isB_zip (by rw [List.length_append]; show svs.length + 1 = _; omega) (hi.append ⟨rfl, trivial⟩)
theorem lenS {n : Nat} {vs : List Value} (h : vs.length = n + 1) : ∃ a l, vs = a :: l ∧ l.length = n := by
  cases vs with
  | nil => exact absurd h.symm (Nat.succ_ne_zero n)
  | cons a l => exact ⟨a, l, rfl, Nat.succ.inj h⟩
theorem len1 {vs : List Value} (h : vs.length = 1) : ∃ a, vs = [a] := by
  obtain ⟨a, l, rfl, g⟩ := lenS (n := 0) h
  exact ⟨a, by rw [List.eq_nil_of_length_eq_zero g]⟩
theorem len2 {vs : List Value} (h : vs.length = 2) : ∃ a b, vs = [a, b] := by
  obtain ⟨a, l, rfl, g⟩ := lenS (n := 1) h
  obtain ⟨b, rfl⟩ := len1 g
  exact ⟨a, b, rfl⟩
theorem len3 {vs : List Value} (h : vs.length = 3) : ∃ a b c, vs = [a, b, c] := by
  obtain ⟨a, l, rfl, g⟩ := lenS (n := 2) h
  obtain ⟨b, c, rfl⟩ := len2 g
  exact ⟨a, b, c, rfl⟩
theorem len4 {vs : List Value} (h : vs.length = 4) : ∃ a b c d, vs = [a, b, c, d] := by
  obtain ⟨a, l, rfl, g⟩ := lenS (n := 3) h
  obtain ⟨b, c, d, rfl⟩ := len3 g
  exact ⟨a, b, c, d, rfl⟩
theorem len5 {vs : List Value} (h : vs.length = 5) : ∃ a b c d e, vs = [a, b, c, d, e] := by
  obtain ⟨a, l, rfl, g⟩ := lenS (n := 4) h
  obtain ⟨b, c, d, e, rfl⟩ := len4 g
  exact ⟨a, b, c, d, e, rfl⟩
end
theorem fillT2 (w : World) (h : Heap) : (K w.params).In h → PySem.Challenge.rw_pq1324_01 = PySem.Challenge.rw_pq1324_01 → True := by
  k_fill
  intros; trivial
theorem ok28 (w : World) : FnOk w F28 ∧ cellsOk F28 = true := by
  k_fill
  refine ⟨FnOk.mk ⟨_, _, _, _, _, _, _, _, _, _, _, (by show (K w.params).lookup 28 = _; k_dflt k_is), fun s ρ svs vs bs X hi hb => ?_⟩ (by show codeIn (K w.params) (.ref 27) (Str.ofString "get_attr") = true; k_dflt k_is) (by decide) rfl rfl rfl (by decide), by decide⟩
  obtain ⟨e, hB⟩ := bind_full rfl hb hi
  obtain ⟨a, b, rfl⟩ := len2 e
  exact ⟨_, BindsTo.of_eq rfl, hB⟩
theorem ok33 (w : World) : FnOk w F33 ∧ cellsOk F33 = true := by
  k_fill
  refine ⟨FnOk.mk ⟨_, _, _, _, _, _, _, _, _, _, _, (by show (K w.params).lookup 33 = _; k_dflt k_is), fun s ρ svs vs bs X hi hb => ?_⟩ (by show codeIn (K w.params) (.ref 32) (Str.ofString "names_of") = true; k_dflt k_is) (by decide) rfl rfl rfl (by decide), by decide⟩
  obtain ⟨e, hB⟩ := bind_full rfl hb hi
  obtain ⟨a, rfl⟩ := len1 e
  exact ⟨_, BindsTo.of_eq rfl, hB⟩
theorem ok40 (w : World) : FnOk w F40 ∧ cellsOk F40 = true := by
  k_fill
  refine ⟨FnOk.mk ⟨_, _, _, _, _, _, _, _, _, _, _, (by show (K w.params).lookup 40 = _; k_dflt k_is), fun s ρ svs vs bs X hi hb => ?_⟩ (by show codeIn (K w.params) (.ref 39) (Str.ofString "dim_of") = true; k_dflt k_is) (by decide) rfl rfl rfl (by decide), by decide⟩
  obtain ⟨e, hB⟩ := bind_full rfl hb hi
  obtain ⟨a, rfl⟩ := len1 e
  exact ⟨_, BindsTo.of_eq rfl, hB⟩
theorem ok91 (w : World) : FnOk w F91 ∧ cellsOk F91 = true := by
  k_fill
  refine ⟨FnOk.mk ⟨_, _, _, _, _, _, _, _, _, _, _, (by show (K w.params).lookup 91 = _; k_dflt k_is), fun s ρ svs vs bs X hi hb => ?_⟩ (by show codeIn (K w.params) (.ref 90) (Str.ofString "Matching.__init__") = true; k_dflt k_is) (by decide) rfl rfl rfl (by decide), by decide⟩
  obtain ⟨e, hB⟩ := bind_full rfl hb hi
  obtain ⟨a, b, c, rfl⟩ := len3 e
  exact ⟨_, BindsTo.of_eq rfl, hB⟩
theorem ok98 (w : World) : FnOk w F98 ∧ cellsOk F98 = true := by
  k_fill
  refine ⟨FnOk.mk ⟨_, _, _, _, _, _, _, _, _, _, _, (by show (K w.params).lookup 98 = _; k_dflt k_is), fun s ρ svs vs bs X hi hb => ?_⟩ (by show codeIn (K w.params) (.ref 97) (Str.ofString "Matching.exact") = true; k_dflt k_is) (by decide) rfl rfl rfl (by decide), by decide⟩
  obtain ⟨e, hB⟩ := bind_full rfl hb hi
  obtain ⟨a, rfl⟩ := len1 e
  exact ⟨_, BindsTo.of_eq rfl, hB⟩
theorem ok105 (w : World) : FnOk w F105 ∧ cellsOk F105 = true := by
  k_fill
  refine ⟨FnOk.mk ⟨_, _, _, _, _, _, _, _, _, _, _, (by show (K w.params).lookup 105 = _; k_dflt k_is), fun s ρ svs vs bs X hi hb => ?_⟩ (by show codeIn (K w.params) (.ref 104) (Str.ofString "Matching.partial") = true; k_dflt k_is) (by decide) rfl rfl rfl (by decide), by decide⟩
  obtain ⟨e, hB⟩ := bind_full rfl hb hi
  obtain ⟨a, rfl⟩ := len1 e
  exact ⟨_, BindsTo.of_eq rfl, hB⟩
theorem ok112 (w : World) : FnOk w F112 ∧ cellsOk F112 = true := by
  k_fill
  refine ⟨FnOk.mk ⟨_, _, _, _, _, _, _, _, _, _, _, (by show (K w.params).lookup 112 = _; k_dflt k_is), fun s ρ svs vs bs X hi hb => ?_⟩ (by show codeIn (K w.params) (.ref 111) (Str.ofString "Matching.partial_of") = true; k_dflt k_is) (by decide) rfl rfl rfl (by decide), by decide⟩
  obtain ⟨e, hB⟩ := bind_full rfl hb hi
  obtain ⟨a, b, rfl⟩ := len2 e
  exact ⟨_, BindsTo.of_eq rfl, hB⟩
theorem ok119 (w : World) : FnOk w F119 ∧ cellsOk F119 = true := by
  k_fill
  refine ⟨FnOk.mk ⟨_, _, _, _, _, _, _, _, _, _, _, (by show (K w.params).lookup 119 = _; k_dflt k_is), fun s ρ svs vs bs X hi hb => ?_⟩ (by show codeIn (K w.params) (.ref 118) (Str.ofString "Matching.positional") = true; k_dflt k_is) (by decide) rfl rfl rfl (by decide), by decide⟩
  obtain ⟨e, hB⟩ := bind_full rfl hb hi
  obtain ⟨a, rfl⟩ := len1 e
  exact ⟨_, BindsTo.of_eq rfl, hB⟩
theorem ok126 (w : World) : FnOk w F126 ∧ cellsOk F126 = true := by
  k_fill
  refine ⟨FnOk.mk ⟨_, _, _, _, _, _, _, _, _, _, _, (by show (K w.params).lookup 126 = _; k_dflt k_is), fun s ρ svs vs bs X hi hb => ?_⟩ (by show codeIn (K w.params) (.ref 125) (Str.ofString "Matching.is_free") = true; k_dflt k_is) (by decide) rfl rfl rfl (by decide), by decide⟩
  obtain ⟨e, hB⟩ := bind_full rfl hb hi
  obtain ⟨a, b, rfl⟩ := len2 e
  exact ⟨_, BindsTo.of_eq rfl, hB⟩
theorem ok131 (w : World) : FnOk w F131 ∧ cellsOk F131 = true := by
  k_fill
  refine ⟨FnOk.mk ⟨_, _, _, _, _, _, _, _, _, _, _, (by show (K w.params).lookup 131 = _; k_dflt k_is), fun s ρ svs vs bs X hi hb => ?_⟩ (by show codeIn (K w.params) (.ref 130) (Str.ofString "Matching.rest") = true; k_dflt k_is) (by decide) rfl rfl rfl (by decide), by decide⟩
  obtain ⟨e, hB⟩ := bind_full rfl hb hi
  obtain ⟨a, rfl⟩ := len1 e
  exact ⟨_, BindsTo.of_eq rfl, hB⟩
theorem ok163 (w : World) : FnOk w F163 ∧ cellsOk F163 = true := by
  k_fill
  refine ⟨FnOk.mk ⟨_, _, _, _, _, _, _, _, _, _, _, (by show (K w.params).lookup 163 = _; k_dflt k_is), fun s ρ svs vs bs X hi hb => ?_⟩ (by show codeIn (K w.params) (.ref 162) (Str.ofString "match_names") = true; k_dflt k_is) (by decide) rfl rfl rfl (by decide), by decide⟩
  rcases bind_last rfl hb hi with ⟨e, hB⟩ | ⟨⟨e, hB⟩, e'⟩
  · obtain ⟨a, b, c, rfl⟩ := len3 e
    exact ⟨_, binds_K X rfl (by k_dflt k_is) rfl rfl rfl, hB⟩
  · obtain ⟨a, b, rfl⟩ := len2 (vs := vs) (by have : vs.length + 1 = 3 := e'; omega)
    exact ⟨_, binds_K X rfl (by k_dflt k_is) rfl rfl rfl, hB⟩
theorem ok169 (w : World) : FnOk w F169 ∧ cellsOk F169 = true := by
  k_fill
  refine ⟨FnOk.mk ⟨_, _, _, _, _, _, _, _, _, _, _, (by show (K w.params).lookup 169 = _; k_dflt k_is), fun s ρ svs vs bs X hi hb => ?_⟩ (by show codeIn (K w.params) (.ref 168) (Str.ofString "take") = true; k_dflt k_is) (by decide) rfl rfl rfl (by decide), by decide⟩
  rcases bind_last rfl hb hi with ⟨e, hB⟩ | ⟨⟨e, hB⟩, e'⟩
  · obtain ⟨a, b, c, rfl⟩ := len3 e
    exact ⟨_, binds_K X rfl (by k_dflt k_is) rfl rfl rfl, hB⟩
  · obtain ⟨a, b, rfl⟩ := len2 (vs := vs) (by have : vs.length + 1 = 3 := e'; omega)
    exact ⟨_, binds_K X rfl (by k_dflt k_is) rfl rfl rfl, hB⟩
theorem ok183 (w : World) : FnOk w F183 ∧ cellsOk F183 = true := by
  k_fill
  refine ⟨FnOk.mk ⟨_, _, _, _, _, _, _, _, _, _, _, (by show (K w.params).lookup 183 = _; k_dflt k_is), fun s ρ svs vs bs X hi hb => ?_⟩ (by show codeIn (K w.params) (.ref 182) (Str.ofString "Null.__init__") = true; k_dflt k_is) (by decide) rfl rfl rfl (by decide), by decide⟩
  obtain ⟨e, hB⟩ := bind_full rfl hb hi
  obtain ⟨a, rfl⟩ := len1 e
  exact ⟨_, BindsTo.of_eq rfl, hB⟩
theorem ok204 (w : World) : FnOk w F204 ∧ cellsOk F204 = true := by
  k_fill
  refine ⟨FnOk.mk ⟨_, _, _, _, _, _, _, _, _, _, _, (by show (K w.params).lookup 204 = _; k_dflt k_is), fun s ρ svs vs bs X hi hb => ?_⟩ (by show codeIn (K w.params) (.ref 203) (Str.ofString "Missing.__init__") = true; k_dflt k_is) (by decide) rfl rfl rfl (by decide), by decide⟩
  obtain ⟨e, hB⟩ := bind_full rfl hb hi
  obtain ⟨a, rfl⟩ := len1 e
  exact ⟨_, BindsTo.of_eq rfl, hB⟩
theorem ok226 (w : World) : FnOk w F226 ∧ cellsOk F226 = true := by
  k_fill
  refine ⟨FnOk.mk ⟨_, _, _, _, _, _, _, _, _, _, _, (by show (K w.params).lookup 226 = _; k_dflt k_is), fun s ρ svs vs bs X hi hb => ?_⟩ (by show codeIn (K w.params) (.ref 225) (Str.ofString "Vector.__init__") = true; k_dflt k_is) (by decide) rfl rfl rfl (by decide), by decide⟩
  rcases bind_last rfl hb hi with ⟨e, hB⟩ | ⟨⟨e, hB⟩, e'⟩
  · obtain ⟨a, b, c, d, rfl⟩ := len4 e
    exact ⟨_, binds_K X rfl (by k_dflt k_is) rfl rfl rfl, hB⟩
  · obtain ⟨a, b, c, rfl⟩ := len3 (vs := vs) (by have : vs.length + 1 = 4 := e'; omega)
    exact ⟨_, binds_K X rfl (by k_dflt k_is) rfl rfl rfl, hB⟩
theorem ok254 (w : World) : FnOk w F254 ∧ cellsOk F254 = true := by
  k_fill
  refine ⟨FnOk.mk ⟨_, _, _, _, _, _, _, _, _, _, _, (by show (K w.params).lookup 254 = _; k_dflt k_is), fun s ρ svs vs bs X hi hb => ?_⟩ (by show codeIn (K w.params) (.ref 253) (Str.ofString "Symbol.__init__") = true; k_dflt k_is) (by decide) rfl rfl rfl (by decide), by decide⟩
  obtain ⟨e, hB⟩ := bind_full rfl hb hi
  obtain ⟨a, b, rfl⟩ := len2 e
  exact ⟨_, BindsTo.of_eq rfl, hB⟩
theorem ok276 (w : World) : FnOk w F276 ∧ cellsOk F276 = true := by
  k_fill
  refine ⟨FnOk.mk ⟨_, _, _, _, _, _, _, _, _, _, _, (by show (K w.params).lookup 276 = _; k_dflt k_is), fun s ρ svs vs bs X hi hb => ?_⟩ (by show codeIn (K w.params) (.ref 275) (Str.ofString "Call.__init__") = true; k_dflt k_is) (by decide) rfl rfl rfl (by decide), by decide⟩
  rcases bind_last rfl hb hi with ⟨e, hB⟩ | ⟨⟨e, hB⟩, e'⟩
  · obtain ⟨a, b, c, d, rfl⟩ := len4 e
    exact ⟨_, binds_K X rfl (by k_dflt k_is) rfl rfl rfl, hB⟩
  · obtain ⟨a, b, c, rfl⟩ := len3 (vs := vs) (by have : vs.length + 1 = 4 := e'; omega)
    exact ⟨_, binds_K X rfl (by k_dflt k_is) rfl rfl rfl, hB⟩
theorem ok298 (w : World) : FnOk w F298 ∧ cellsOk F298 = true := by
  k_fill
  refine ⟨FnOk.mk ⟨_, _, _, _, _, _, _, _, _, _, _, (by show (K w.params).lookup 298 = _; k_dflt k_is), fun s ρ svs vs bs X hi hb => ?_⟩ (by show codeIn (K w.params) (.ref 297) (Str.ofString "Closure.__init__") = true; k_dflt k_is) (by decide) rfl rfl rfl (by decide), by decide⟩
  rcases bind_last rfl hb hi with ⟨e, hB⟩ | ⟨⟨e, hB⟩, e'⟩
  · obtain ⟨a, b, c, d, e, rfl⟩ := len5 e
    exact ⟨_, binds_K X rfl (by k_dflt k_is) rfl rfl rfl, hB⟩
  · obtain ⟨a, b, c, d, rfl⟩ := len4 (vs := vs) (by have : vs.length + 1 = 5 := e'; omega)
    exact ⟨_, binds_K X rfl (by k_dflt k_is) rfl rfl rfl, hB⟩
theorem ok312 (w : World) : FnOk w F312 ∧ cellsOk F312 = true := by
  k_fill
  refine ⟨FnOk.mk ⟨_, _, _, _, _, _, _, _, _, _, _, (by show (K w.params).lookup 312 = _; k_dflt k_is), fun s ρ svs vs bs X hi hb => ?_⟩ (by show codeIn (K w.params) (.ref 311) (Str.ofString "null") = true; k_dflt k_is) (by decide) rfl rfl rfl (by decide), by decide⟩
  obtain ⟨e, hB⟩ := bind_full rfl hb hi
  rw [List.length_eq_zero_iff.mp e] at hB ⊢
  exact ⟨_, BindsTo.of_eq rfl, hB⟩
theorem ok319 (w : World) : FnOk w F319 ∧ cellsOk F319 = true := by
  k_fill
  refine ⟨FnOk.mk ⟨_, _, _, _, _, _, _, _, _, _, _, (by show (K w.params).lookup 319 = _; k_dflt k_is), fun s ρ svs vs bs X hi hb => ?_⟩ (by show codeIn (K w.params) (.ref 318) (Str.ofString "character") = true; k_dflt k_is) (by decide) rfl rfl rfl (by decide), by decide⟩
  obtain ⟨e, hB⟩ := bind_full rfl hb hi
  obtain ⟨a, rfl⟩ := len1 e
  exact ⟨_, BindsTo.of_eq rfl, hB⟩
theorem ok326 (w : World) : FnOk w F326 ∧ cellsOk F326 = true := by
  k_fill
  refine ⟨FnOk.mk ⟨_, _, _, _, _, _, _, _, _, _, _, (by show (K w.params).lookup 326 = _; k_dflt k_is), fun s ρ svs vs bs X hi hb => ?_⟩ (by show codeIn (K w.params) (.ref 325) (Str.ofString "named") = true; k_dflt k_is) (by decide) rfl rfl rfl (by decide), by decide⟩
  obtain ⟨e, hB⟩ := bind_full rfl hb hi
  obtain ⟨a, b, rfl⟩ := len2 e
  exact ⟨_, BindsTo.of_eq rfl, hB⟩
theorem ok331 (w : World) : FnOk w F331 ∧ cellsOk F331 = true := by
  k_fill
  refine ⟨FnOk.mk ⟨_, _, _, _, _, _, _, _, _, _, _, (by show (K w.params).lookup 331 = _; k_dflt k_is), fun s ρ svs vs bs X hi hb => ?_⟩ (by show codeIn (K w.params) (.ref 330) (Str.ofString "pairlist_of") = true; k_dflt k_is) (by decide) rfl rfl rfl (by decide), by decide⟩
  obtain ⟨e, hB⟩ := bind_full rfl hb hi
  obtain ⟨a, b, rfl⟩ := len2 e
  exact ⟨_, BindsTo.of_eq rfl, hB⟩
theorem ok338 (w : World) : FnOk w F338 ∧ cellsOk F338 = true := by
  k_fill
  refine ⟨FnOk.mk ⟨_, _, _, _, _, _, _, _, _, _, _, (by show (K w.params).lookup 338 = _; k_dflt k_is), fun s ρ svs vs bs X hi hb => ?_⟩ (by show codeIn (K w.params) (.ref 337) (Str.ofString "symbol") = true; k_dflt k_is) (by decide) rfl rfl rfl (by decide), by decide⟩
  obtain ⟨e, hB⟩ := bind_full rfl hb hi
  obtain ⟨a, rfl⟩ := len1 e
  exact ⟨_, BindsTo.of_eq rfl, hB⟩
theorem ok345 (w : World) : FnOk w F345 ∧ cellsOk F345 = true := by
  k_fill
  refine ⟨FnOk.mk ⟨_, _, _, _, _, _, _, _, _, _, _, (by show (K w.params).lookup 345 = _; k_dflt k_is), fun s ρ svs vs bs X hi hb => ?_⟩ (by show codeIn (K w.params) (.ref 344) (Str.ofString "is_vector") = true; k_dflt k_is) (by decide) rfl rfl rfl (by decide), by decide⟩
  obtain ⟨e, hB⟩ := bind_full rfl hb hi
  obtain ⟨a, rfl⟩ := len1 e
  exact ⟨_, BindsTo.of_eq rfl, hB⟩
theorem ok352 (w : World) : FnOk w F352 ∧ cellsOk F352 = true := by
  k_fill
  refine ⟨FnOk.mk ⟨_, _, _, _, _, _, _, _, _, _, _, (by show (K w.params).lookup 352 = _; k_dflt k_is), fun s ρ svs vs bs X hi hb => ?_⟩ (by show codeIn (K w.params) (.ref 351) (Str.ofString "is_function") = true; k_dflt k_is) (by decide) rfl rfl rfl (by decide), by decide⟩
  obtain ⟨e, hB⟩ := bind_full rfl hb hi
  obtain ⟨a, rfl⟩ := len1 e
  exact ⟨_, BindsTo.of_eq rfl, hB⟩
theorem ok359 (w : World) : FnOk w F359 ∧ cellsOk F359 = true := by
  k_fill
  refine ⟨FnOk.mk ⟨_, _, _, _, _, _, _, _, _, _, _, (by show (K w.params).lookup 359 = _; k_dflt k_is), fun s ρ svs vs bs X hi hb => ?_⟩ (by show codeIn (K w.params) (.ref 358) (Str.ofString "share") = true; k_dflt k_is) (by decide) rfl rfl rfl (by decide), by decide⟩
  obtain ⟨e, hB⟩ := bind_full rfl hb hi
  obtain ⟨a, rfl⟩ := len1 e
  exact ⟨_, BindsTo.of_eq rfl, hB⟩
theorem ok366 (w : World) : FnOk w F366 ∧ cellsOk F366 = true := by
  k_fill
  refine ⟨FnOk.mk ⟨_, _, _, _, _, _, _, _, _, _, _, (by show (K w.params).lookup 366 = _; k_dflt k_is), fun s ρ svs vs bs X hi hb => ?_⟩ (by show codeIn (K w.params) (.ref 365) (Str.ofString "needed") = true; k_dflt k_is) (by decide) rfl rfl rfl (by decide), by decide⟩
  obtain ⟨e, hB⟩ := bind_full rfl hb hi
  obtain ⟨a, b, rfl⟩ := len2 e
  exact ⟨_, BindsTo.of_eq rfl, hB⟩
theorem ok380 (w : World) : FnOk w F380 ∧ cellsOk F380 = true := by
  k_fill
  refine ⟨FnOk.mk ⟨_, _, _, _, _, _, _, _, _, _, _, (by show (K w.params).lookup 380 = _; k_dflt k_is), fun s ρ svs vs bs X hi hb => ?_⟩ (by show codeIn (K w.params) (.ref 379) (Str.ofString "evaluation_env") = true; k_dflt k_is) (by decide) rfl rfl rfl (by decide), by decide⟩
  obtain ⟨e, hB⟩ := bind_full rfl hb hi
  obtain ⟨a, b, c, d, rfl⟩ := len4 e
  exact ⟨_, BindsTo.of_eq rfl, hB⟩
theorem ok387 (w : World) : FnOk w F387 ∧ cellsOk F387 = true := by
  k_fill
  refine ⟨FnOk.mk ⟨_, _, _, _, _, _, _, _, _, _, _, (by show (K w.params).lookup 387 = _; k_dflt k_is), fun s ρ svs vs bs X hi hb => ?_⟩ (by show codeIn (K w.params) (.ref 386) (Str.ofString "tagged_items") = true; k_dflt k_is) (by decide) rfl rfl rfl (by decide), by decide⟩
  obtain ⟨e, hB⟩ := bind_full rfl hb hi
  obtain ⟨a, rfl⟩ := len1 e
  exact ⟨_, BindsTo.of_eq rfl, hB⟩
theorem ok392 (w : World) : FnOk w F392 ∧ cellsOk F392 = true := by
  k_fill
  refine ⟨FnOk.mk ⟨_, _, _, _, _, _, _, _, _, _, _, (by show (K w.params).lookup 392 = _; k_dflt k_is), fun s ρ svs vs bs X hi hb => ?_⟩ (by show codeIn (K w.params) (.ref 391) (Str.ofString "call_with") = true; k_dflt k_is) (by decide) rfl rfl rfl (by decide), by decide⟩
  obtain ⟨e, hB⟩ := bind_full rfl hb hi
  obtain ⟨a, b, rfl⟩ := len2 e
  exact ⟨_, BindsTo.of_eq rfl, hB⟩
theorem ok397 (w : World) : FnOk w F397 ∧ cellsOk F397 = true := by
  k_fill
  refine ⟨FnOk.mk ⟨_, _, _, _, _, _, _, _, _, _, _, (by show (K w.params).lookup 397 = _; k_dflt k_is), fun s ρ svs vs bs X hi hb => ?_⟩ (by show codeIn (K w.params) (.ref 396) (Str.ofString "b_call") = true; k_dflt k_is) (by decide) rfl rfl rfl (by decide), by decide⟩
  obtain ⟨e, hB⟩ := bind_full rfl hb hi
  obtain ⟨a, b, c, rfl⟩ := len3 e
  exact ⟨_, BindsTo.of_eq rfl, hB⟩
theorem ok404 (w : World) : FnOk w F404 ∧ cellsOk F404 = true := by
  k_fill
  refine ⟨FnOk.mk ⟨_, _, _, _, _, _, _, _, _, _, _, (by show (K w.params).lookup 404 = _; k_dflt k_is), fun s ρ svs vs bs X hi hb => ?_⟩ (by show codeIn (K w.params) (.ref 403) (Str.ofString "b_as_call") = true; k_dflt k_is) (by decide) rfl rfl rfl (by decide), by decide⟩
  obtain ⟨e, hB⟩ := bind_full rfl hb hi
  obtain ⟨a, b, c, rfl⟩ := len3 e
  exact ⟨_, BindsTo.of_eq rfl, hB⟩
theorem ok411 (w : World) : FnOk w F411 ∧ cellsOk F411 = true := by
  k_fill
  refine ⟨FnOk.mk ⟨_, _, _, _, _, _, _, _, _, _, _, (by show (K w.params).lookup 411 = _; k_dflt k_is), fun s ρ svs vs bs X hi hb => ?_⟩ (by show codeIn (K w.params) (.ref 410) (Str.ofString "b_body") = true; k_dflt k_is) (by decide) rfl rfl rfl (by decide), by decide⟩
  obtain ⟨e, hB⟩ := bind_full rfl hb hi
  obtain ⟨a, b, c, rfl⟩ := len3 e
  exact ⟨_, BindsTo.of_eq rfl, hB⟩
theorem ok416 (w : World) : FnOk w F416 ∧ cellsOk F416 = true := by
  k_fill
  refine ⟨FnOk.mk ⟨_, _, _, _, _, _, _, _, _, _, _, (by show (K w.params).lookup 416 = _; k_dflt k_is), fun s ρ svs vs bs X hi hb => ?_⟩ (by show codeIn (K w.params) (.ref 415) (Str.ofString "b_formals") = true; k_dflt k_is) (by decide) rfl rfl rfl (by decide), by decide⟩
  obtain ⟨e, hB⟩ := bind_full rfl hb hi
  obtain ⟨a, b, c, rfl⟩ := len3 e
  exact ⟨_, BindsTo.of_eq rfl, hB⟩
theorem ok423 (w : World) : FnOk w F423 ∧ cellsOk F423 = true := by
  k_fill
  refine ⟨FnOk.mk ⟨_, _, _, _, _, _, _, _, _, _, _, (by show (K w.params).lookup 423 = _; k_dflt k_is), fun s ρ svs vs bs X hi hb => ?_⟩ (by show codeIn (K w.params) (.ref 422) (Str.ofString "needed_closure") = true; k_dflt k_is) (by decide) rfl rfl rfl (by decide), by decide⟩
  obtain ⟨e, hB⟩ := bind_full rfl hb hi
  obtain ⟨a, rfl⟩ := len1 e
  exact ⟨_, BindsTo.of_eq rfl, hB⟩
theorem ok430 (w : World) : FnOk w F430 ∧ cellsOk F430 = true := by
  k_fill
  refine ⟨FnOk.mk ⟨_, _, _, _, _, _, _, _, _, _, _, (by show (K w.params).lookup 430 = _; k_dflt k_is), fun s ρ svs vs bs X hi hb => ?_⟩ (by show codeIn (K w.params) (.ref 429) (Str.ofString "b_set_body") = true; k_dflt k_is) (by decide) rfl rfl rfl (by decide), by decide⟩
  obtain ⟨e, hB⟩ := bind_full rfl hb hi
  obtain ⟨a, b, c, rfl⟩ := len3 e
  exact ⟨_, BindsTo.of_eq rfl, hB⟩
theorem ok437 (w : World) : FnOk w F437 ∧ cellsOk F437 = true := by
  k_fill
  refine ⟨FnOk.mk ⟨_, _, _, _, _, _, _, _, _, _, _, (by show (K w.params).lookup 437 = _; k_dflt k_is), fun s ρ svs vs bs X hi hb => ?_⟩ (by show codeIn (K w.params) (.ref 436) (Str.ofString "formal_rows") = true; k_dflt k_is) (by decide) rfl rfl rfl (by decide), by decide⟩
  obtain ⟨e, hB⟩ := bind_full rfl hb hi
  obtain ⟨a, rfl⟩ := len1 e
  exact ⟨_, BindsTo.of_eq rfl, hB⟩
theorem ok444 (w : World) : FnOk w F444 ∧ cellsOk F444 = true := by
  k_fill
  refine ⟨FnOk.mk ⟨_, _, _, _, _, _, _, _, _, _, _, (by show (K w.params).lookup 444 = _; k_dflt k_is), fun s ρ svs vs bs X hi hb => ?_⟩ (by show codeIn (K w.params) (.ref 443) (Str.ofString "b_set_formals") = true; k_dflt k_is) (by decide) rfl rfl rfl (by decide), by decide⟩
  obtain ⟨e, hB⟩ := bind_full rfl hb hi
  obtain ⟨a, b, c, rfl⟩ := len3 e
  exact ⟨_, BindsTo.of_eq rfl, hB⟩
theorem ok451 (w : World) : FnOk w F451 ∧ cellsOk F451 = true := by
  k_fill
  refine ⟨FnOk.mk ⟨_, _, _, _, _, _, _, _, _, _, _, (by show (K w.params).lookup 451 = _; k_dflt k_is), fun s ρ svs vs bs X hi hb => ?_⟩ (by show codeIn (K w.params) (.ref 450) (Str.ofString "b_as_function") = true; k_dflt k_is) (by decide) rfl rfl rfl (by decide), by decide⟩
  obtain ⟨e, hB⟩ := bind_full rfl hb hi
  obtain ⟨a, b, c, rfl⟩ := len3 e
  exact ⟨_, BindsTo.of_eq rfl, hB⟩
theorem ok458 (w : World) : FnOk w F458 ∧ cellsOk F458 = true := by
  k_fill
  refine ⟨FnOk.mk ⟨_, _, _, _, _, _, _, _, _, _, _, (by show (K w.params).lookup 458 = _; k_dflt k_is), fun s ρ svs vs bs X hi hb => ?_⟩ (by show codeIn (K w.params) (.ref 457) (Str.ofString "_law_shelf") = true; k_dflt k_is) (by decide) rfl rfl rfl (by decide), by decide⟩
  obtain ⟨e, hB⟩ := bind_full rfl hb hi
  obtain ⟨a, rfl⟩ := len1 e
  exact ⟨_, BindsTo.of_eq rfl, hB⟩
theorem ok465 (w : World) : FnOk w F465 ∧ cellsOk F465 = true := by
  k_fill
  refine ⟨FnOk.mk ⟨_, _, _, _, _, _, _, _, _, _, _, (by show (K w.params).lookup 465 = _; k_dflt k_is), fun s ρ svs vs bs X hi hb => ?_⟩ (by show codeIn (K w.params) (.ref 464) (Str.ofString "_law_grab") = true; k_dflt k_is) (by decide) rfl rfl rfl (by decide), by decide⟩
  obtain ⟨e, hB⟩ := bind_full rfl hb hi
  obtain ⟨a, b, rfl⟩ := len2 e
  exact ⟨_, BindsTo.of_eq rfl, hB⟩
theorem ok472 (w : World) : FnOk w F472 ∧ cellsOk F472 = true := by
  k_fill
  refine ⟨FnOk.mk ⟨_, _, _, _, _, _, _, _, _, _, _, (by show (K w.params).lookup 472 = _; k_dflt k_is), fun s ρ svs vs bs X hi hb => ?_⟩ (by show codeIn (K w.params) (.ref 471) (Str.ofString "_law_argument") = true; k_dflt k_is) (by decide) rfl rfl rfl (by decide), by decide⟩
  obtain ⟨e, hB⟩ := bind_full rfl hb hi
  obtain ⟨a, rfl⟩ := len1 e
  exact ⟨_, BindsTo.of_eq rfl, hB⟩
theorem ok477 (w : World) : FnOk w F477 ∧ cellsOk F477 = true := by
  k_fill
  refine ⟨FnOk.mk ⟨_, _, _, _, _, _, _, _, _, _, _, (by show (K w.params).lookup 477 = _; k_dflt k_is), fun s ρ svs vs bs X hi hb => ?_⟩ (by show codeIn (K w.params) (.ref 476) (Str.ofString "_law_shown") = true; k_dflt k_is) (by decide) rfl rfl rfl (by decide), by decide⟩
  obtain ⟨e, hB⟩ := bind_full rfl hb hi
  obtain ⟨a, rfl⟩ := len1 e
  exact ⟨_, BindsTo.of_eq rfl, hB⟩
theorem ok482 (w : World) : FnOk w F482 ∧ cellsOk F482 = true := by
  k_fill
  refine ⟨FnOk.mk ⟨_, _, _, _, _, _, _, _, _, _, _, (by show (K w.params).lookup 482 = _; k_dflt k_is), fun s ρ svs vs bs X hi hb => ?_⟩ (by show codeIn (K w.params) (.ref 481) (Str.ofString "_law_listed") = true; k_dflt k_is) (by decide) rfl rfl rfl (by decide), by decide⟩
  obtain ⟨e, hB⟩ := bind_full rfl hb hi
  obtain ⟨a, b, rfl⟩ := len2 e
  exact ⟨_, BindsTo.of_eq rfl, hB⟩
theorem ok489 (w : World) : FnOk w F489 ∧ cellsOk F489 = true := by
  k_fill
  refine ⟨FnOk.mk ⟨_, _, _, _, _, _, _, _, _, _, _, (by show (K w.params).lookup 489 = _; k_dflt k_is), fun s ρ svs vs bs X hi hb => ?_⟩ (by show codeIn (K w.params) (.ref 488) (Str.ofString "_law_refused") = true; k_dflt k_is) (by decide) rfl rfl rfl (by decide), by decide⟩
  obtain ⟨e, hB⟩ := bind_full rfl hb hi
  obtain ⟨a, b, rfl⟩ := len2 e
  exact ⟨_, BindsTo.of_eq rfl, hB⟩
theorem ok494 (w : World) : FnOk w F494 ∧ cellsOk F494 = true := by
  k_fill
  refine ⟨FnOk.mk ⟨_, _, _, _, _, _, _, _, _, _, _, (by show (K w.params).lookup 494 = _; k_dflt k_is), fun s ρ svs vs bs X hi hb => ?_⟩ (by show codeIn (K w.params) (.ref 493) (Str.ofString "_law_formals_told") = true; k_dflt k_is) (by decide) rfl rfl rfl (by decide), by decide⟩
  obtain ⟨e, hB⟩ := bind_full rfl hb hi
  obtain ⟨a, rfl⟩ := len1 e
  exact ⟨_, BindsTo.of_eq rfl, hB⟩
theorem tab_inv {α : Type} {P : Nat → α → Prop} : ∀ {l : List (Nat × α)}, (∀ p ∈ l, P p.1 p.2) → ∀ f q, lkN l f = some q → P f q
  | [], _, f, q, h => nomatch h
  | p :: l, hp, f, q, h => by
    rw [lkN_cons] at h
    cases h1 : Nat.beq f p.1 with
    | true => rw [h1] at h; cases h; rw [Nat.eq_of_beq_eq_true h1]; exact hp _ (.head _)
    | false => rw [h1] at h; exact tab_inv (fun p hp' => hp p (.tail _ hp')) f q h
theorem fns_ok (w : World) : ∀ p ∈ fnTab, p.2.f = p.1 ∧ FnOk w p.2 ∧ cellsOk p.2 = true := by
  unfold fnTab
  refine List.forall_mem_cons.mpr ⟨⟨rfl, ok28 w⟩, (List.forall_mem_cons.mpr ⟨⟨rfl, ok33 w⟩, (List.forall_mem_cons.mpr ⟨⟨rfl, ok40 w⟩, (List.forall_mem_cons.mpr ⟨⟨rfl, ok98 w⟩, (List.forall_mem_cons.mpr ⟨⟨rfl, ok105 w⟩, (List.forall_mem_cons.mpr ⟨⟨rfl, ok112 w⟩, (List.forall_mem_cons.mpr ⟨⟨rfl, ok119 w⟩, (List.forall_mem_cons.mpr ⟨⟨rfl, ok126 w⟩, (List.forall_mem_cons.mpr ⟨⟨rfl, ok131 w⟩, (List.forall_mem_cons.mpr ⟨⟨rfl, ok163 w⟩, (List.forall_mem_cons.mpr ⟨⟨rfl, ok169 w⟩, (List.forall_mem_cons.mpr ⟨⟨rfl, ok312 w⟩, (List.forall_mem_cons.mpr ⟨⟨rfl, ok319 w⟩, (List.forall_mem_cons.mpr ⟨⟨rfl, ok326 w⟩, (List.forall_mem_cons.mpr ⟨⟨rfl, ok331 w⟩, (List.forall_mem_cons.mpr ⟨⟨rfl, ok338 w⟩, (List.forall_mem_cons.mpr ⟨⟨rfl, ok345 w⟩, (List.forall_mem_cons.mpr ⟨⟨rfl, ok352 w⟩, (List.forall_mem_cons.mpr ⟨⟨rfl, ok359 w⟩, (List.forall_mem_cons.mpr ⟨⟨rfl, ok366 w⟩, (List.forall_mem_cons.mpr ⟨⟨rfl, ok380 w⟩, (List.forall_mem_cons.mpr ⟨⟨rfl, ok387 w⟩, (List.forall_mem_cons.mpr ⟨⟨rfl, ok392 w⟩, (List.forall_mem_cons.mpr ⟨⟨rfl, ok397 w⟩, (List.forall_mem_cons.mpr ⟨⟨rfl, ok404 w⟩, (List.forall_mem_cons.mpr ⟨⟨rfl, ok411 w⟩, (List.forall_mem_cons.mpr ⟨⟨rfl, ok416 w⟩, (List.forall_mem_cons.mpr ⟨⟨rfl, ok423 w⟩, (List.forall_mem_cons.mpr ⟨⟨rfl, ok430 w⟩, (List.forall_mem_cons.mpr ⟨⟨rfl, ok437 w⟩, (List.forall_mem_cons.mpr ⟨⟨rfl, ok444 w⟩, (List.forall_mem_cons.mpr ⟨⟨rfl, ok451 w⟩, (List.forall_mem_cons.mpr ⟨⟨rfl, ok458 w⟩, (List.forall_mem_cons.mpr ⟨⟨rfl, ok465 w⟩, (List.forall_mem_cons.mpr ⟨⟨rfl, ok472 w⟩, (List.forall_mem_cons.mpr ⟨⟨rfl, ok477 w⟩, (List.forall_mem_cons.mpr ⟨⟨rfl, ok482 w⟩, (List.forall_mem_cons.mpr ⟨⟨rfl, ok489 w⟩, (List.forall_mem_cons.mpr ⟨⟨rfl, ok494 w⟩, List.forall_mem_nil _⟩)⟩)⟩)⟩)⟩)⟩)⟩)⟩)⟩)⟩)⟩)⟩)⟩)⟩)⟩)⟩)⟩)⟩)⟩)⟩)⟩)⟩)⟩)⟩)⟩)⟩)⟩)⟩)⟩)⟩)⟩)⟩)⟩)⟩)⟩)⟩)⟩)⟩)⟩
structure IniOk (w : World) (C : Nat) (q : FnS) : Prop where
  m : memN C clsTab = true
  i : findIn (K w.params) (.ref C) "__init__" = some (some (.ref q.f))
  f : isFn (K w.params) (.ref q.f) = true
  o : FnOk w q ∧ cellsOk q = true
theorem ini134 (w : World) : IniOk w 134 F91 := by
  k_fill
  exact ⟨rfl, (by show findIn (K w.params) (.ref 134) "__init__" = some (some (.ref 91)); k_dflt k_is), (by show isFn (K w.params) (.ref 91) = true; k_dflt k_is), ok91 w⟩
theorem ini186 (w : World) : IniOk w 186 F183 := by
  k_fill
  exact ⟨rfl, (by show findIn (K w.params) (.ref 186) "__init__" = some (some (.ref 183)); k_dflt k_is), (by show isFn (K w.params) (.ref 183) = true; k_dflt k_is), ok183 w⟩
theorem ini207 (w : World) : IniOk w 207 F204 := by
  k_fill
  exact ⟨rfl, (by show findIn (K w.params) (.ref 207) "__init__" = some (some (.ref 204)); k_dflt k_is), (by show isFn (K w.params) (.ref 204) = true; k_dflt k_is), ok204 w⟩
theorem ini236 (w : World) : IniOk w 236 F226 := by
  k_fill
  exact ⟨rfl, (by show findIn (K w.params) (.ref 236) "__init__" = some (some (.ref 226)); k_dflt k_is), (by show isFn (K w.params) (.ref 226) = true; k_dflt k_is), ok226 w⟩
theorem ini257 (w : World) : IniOk w 257 F254 := by
  k_fill
  exact ⟨rfl, (by show findIn (K w.params) (.ref 257) "__init__" = some (some (.ref 254)); k_dflt k_is), (by show isFn (K w.params) (.ref 254) = true; k_dflt k_is), ok254 w⟩
theorem ini279 (w : World) : IniOk w 279 F276 := by
  k_fill
  exact ⟨rfl, (by show findIn (K w.params) (.ref 279) "__init__" = some (some (.ref 276)); k_dflt k_is), (by show isFn (K w.params) (.ref 276) = true; k_dflt k_is), ok276 w⟩
theorem ini301 (w : World) : IniOk w 301 F298 := by
  k_fill
  exact ⟨rfl, (by show findIn (K w.params) (.ref 301) "__init__" = some (some (.ref 298)); k_dflt k_is), (by show isFn (K w.params) (.ref 298) = true; k_dflt k_is), ok298 w⟩
theorem inis_ok (w : World) : ∀ p ∈ iniTab, IniOk w p.1 p.2 := by
  unfold iniTab
  refine List.forall_mem_cons.mpr ⟨ini134 w, (List.forall_mem_cons.mpr ⟨ini186 w, (List.forall_mem_cons.mpr ⟨ini207 w, (List.forall_mem_cons.mpr ⟨ini236 w, (List.forall_mem_cons.mpr ⟨ini257 w, (List.forall_mem_cons.mpr ⟨ini279 w, (List.forall_mem_cons.mpr ⟨ini301 w, List.forall_mem_nil _⟩)⟩)⟩)⟩)⟩)⟩)⟩
theorem keeps_ok (w : World) : ∀ f ∈ keepN, keepIn (K w.params) (.ref f) = true := by
  k_fill
  unfold keepN
  repeat' (first | exact List.forall_mem_nil _ | refine List.forall_mem_cons.mpr ⟨?_, ?_⟩ | (k_dflt k_is))
theorem tabS (w : World) (ops : List Op) (hk : Bool) (mg : Nat) : TabS w ⟨fnTab, iniTab, ops, hk, mg⟩ := ⟨fun f q h => tab_inv (P := fun f q => q.f = f ∧ FnOk w q ∧ cellsOk q = true) (fns_ok w) f q h, fun C q h => by
  have := tab_inv (P := IniOk w) (inis_ok w) C q h
  exact ⟨this.m, this.i, this.f, this.o.1, this.o.2⟩, fun f h => keeps_ok w f (memN_iff.mp h)⟩
end Mine
end
section
namespace Mine
/-! # What is known of a call without running it: a part of the objects is run by itself -/
section
variable {w : World} {X : Xp} {ρ ρ' : List Addr}
inductive IsE (w : World) (X : Xp) (ρ : List Addr) : Nat × SO → List (Addr × Obj) → Prop
  | base {n : Nat} {so : SO} {a : Addr} {o : Obj} : ρ[n]? = some a → IsO w X ρ so o ∧ TabOk so a → IsE w X ρ (n, so) [(a, o)]
  | item {n i : Nat} {a : Addr} {c : List (Addr × Obj)} : ρ[n]? = some a → ItemC w (X.V i) a c → IsE w X ρ (n, .item i) c
  | shown {n i : Nat} {a : Addr} {c : List (Addr × Obj)} : ρ[n]? = some a → ShownC w (X.V i) a c → IsE w X ρ (n, .shown i) c
theorem IsObjs.consE {p : Nat × SO} {c l' : List (Addr × Obj)} {l : List (Nat × SO)} (h : IsE w X ρ p c) (h' : IsObjs w X ρ l l') : IsObjs w X ρ (p :: l) (c ++ l') := by
  cases h with
  | base h1 h2 => exact .cons h1 h2 h'
  | item h1 h2 => exact .item h1 h2 h'
  | shown h1 h2 => exact .shown h1 h2 h'
theorem IsObjs.invE {p : Nat × SO} {l' : List (Addr × Obj)} {l : List (Nat × SO)} (h : IsObjs w X ρ (p :: l) l') : ∃ c l'', l' = c ++ l'' ∧ IsE w X ρ p c ∧ IsObjs w X ρ l l'' := by
  cases h with
  | cons h1 h2 h3 => exact ⟨_, _, rfl, .base h1 h2, h3⟩
  | item h1 h2 h3 => exact ⟨_, _, rfl, .item h1 h2, h3⟩
  | shown h1 h2 h3 => exact ⟨_, _, rfl, .shown h1 h2, h3⟩
theorem IsObjs.inv0 {l' : List (Addr × Obj)} (h : IsObjs w X ρ [] l') : l' = [] := by cases h; rfl
theorem IsE.inv {n : Nat} {so : SO} {c : List (Addr × Obj)} (h : IsE w X ρ (n, so) c) (hb : so.base = true) : ∃ a o, c = [(a, o)] ∧ ρ[n]? = some a ∧ IsO w X ρ so o ∧ TabOk so a := by
  cases h with
  | base h1 h2 => exact ⟨_, _, rfl, h1, h2.1, h2.2⟩
  | item _ _ => cases hb
  | shown _ _ => cases hb
theorem IsObjs.perm {l m : List (Nat × SO)} (p : l.Perm m) : ∀ {l' : List (Addr × Obj)}, IsObjs w X ρ l l' → ∃ m', IsObjs w X ρ m m' ∧ l'.Perm m' := by
  induction p with
  | nil => exact fun h => ⟨_, h, .refl _⟩
  | cons x _ ih =>
    intro l' h
    obtain ⟨c, l'', rfl, h1, h2⟩ := h.invE
    obtain ⟨m', h3, h4⟩ := ih h2
    exact ⟨_, .consE h1 h3, h4.append_left c⟩
  | swap x y l =>
    intro l' h
    obtain ⟨c, l'', rfl, h1, h2⟩ := h.invE
    obtain ⟨d, l3, rfl, h3, h4⟩ := h2.invE
    refine ⟨_, .consE h3 (.consE h1 h4), ?_⟩
    rw [← List.append_assoc, ← List.append_assoc]
    exact List.perm_append_comm.append_right l3
  | trans _ _ ih1 ih2 =>
    intro l' h
    obtain ⟨m', h1, h2⟩ := ih1 h
    obtain ⟨m'', h3, h4⟩ := ih2 h1
    exact ⟨_, h3, h2.trans h4⟩
theorem dis_pair : ∀ {l : List (Addr × Obj)}, Dis l ↔ l.Pairwise fun p q => @Ne Nat p.1 q.1
  | [] => ⟨fun _ => .nil, fun _ => trivial⟩
  | p :: l => by
    rw [List.pairwise_cons, ← dis_pair]
    exact ⟨fun h => ⟨fun q hq => Ne.symm (h.1.ne q hq), h.2⟩, fun h => ⟨neAll_iff.mpr fun q hq => Ne.symm (h.1 q hq), h.2⟩⟩
theorem Dis.perm {l m : List (Addr × Obj)} (p : l.Perm m) (h : Dis l) : Dis m := dis_pair.mpr ((p.pairwise_iff fun h => Ne.symm h).mp (dis_pair.mp h))
theorem perm_look {n : Nat} {so : SO} : ∀ {l : List (Nat × SO)}, l.lookup n = some so → l.Perm ((n, so) :: eraseO n l)
  | [], h => nomatch h
  | (k, o) :: l, h => by
    rcases look_cons h with ⟨rfl, rfl⟩ | ⟨hn, e⟩
    · unfold eraseO; rw [if_pos rfl]
    · unfold eraseO
      rw [if_neg hn]
      exact ((perm_look e).cons (k, o)).trans (.swap ..)
theorem IsZ.objs {l : List (Nat × SO)} {l' : List (Addr × Obj)} (h : IsZ w X ρ l l') : IsObjs w X ρ l l' := by
  induction h with
  | nil => exact .nil
  | cons h1 h2 _ ih => exact .cons h1 h2 ih
end
section
variable {k : EC} {ρ ρ' : List Addr} {objs dom rest : List (Nat × SO)} {s : Shared}
theorem HE.perm (he : HE k ρ objs s) (p : objs.Perm dom) : HE k ρ dom s := by
  obtain ⟨n', io, N, d⟩ := he.N
  obtain ⟨m', i1, i2⟩ := io.perm p
  exact ⟨he.F, m', i1, fun q hq => N q ((i2.append_left k.ext).mem_iff.mpr hq), d.perm (i2.append_left k.ext)⟩
theorem IsObjs.app {w : World} {X : Xp} : ∀ {l m : List (Nat × SO)} {l' : List (Addr × Obj)}, IsObjs w X ρ (l ++ m) l' → ∃ a b, l' = a ++ b ∧ IsObjs w X ρ l a ∧ IsObjs w X ρ m b
  | [], m, l', h => ⟨[], l', rfl, .nil, h⟩
  | p :: l, m, l', h => by
    obtain ⟨c, l'', rfl, h1, h2⟩ := IsObjs.invE (l := l ++ m) h
    obtain ⟨a, b, rfl, h3, h4⟩ := IsObjs.app h2
    exact ⟨c ++ a, b, by rw [List.append_assoc], .consE h1 h3, h4⟩
theorem IsObjs.join {w : World} {X : Xp} : ∀ {l m : List (Nat × SO)} {a b : List (Addr × Obj)}, IsObjs w X ρ l a → IsObjs w X ρ m b → IsObjs w X ρ (l ++ m) (a ++ b)
  | [], m, a, b, h1, h2 => by rw [h1.inv0]; exact h2
  | p :: l, m, a, b, h1, h2 => by
    obtain ⟨c, a', rfl, h3, h4⟩ := h1.invE
    rw [List.append_assoc]
    exact .consE h3 (IsObjs.join h4 h2)
/-- a part of the objects, in any order -/
noncomputable def SubP (a b : List (Addr × Obj)) : Prop := ∃ r, b.Perm (a ++ r)
theorem SubP.refl {a : List (Addr × Obj)} : SubP a a := ⟨[], by rw [List.append_nil]⟩
theorem SubP.of {a b : List (Addr × Obj)} (h : b.Perm a) : SubP a b := ⟨[], by rw [List.append_nil]; exact h⟩
theorem SubP.nil {b : List (Addr × Obj)} : SubP [] b := ⟨b, .refl _⟩
theorem SubP.mem {a b : List (Addr × Obj)} (h : SubP a b) : ∀ p ∈ a, p ∈ b := fun p hp => by
  obtain ⟨r, q⟩ := h
  exact q.mem_iff.mpr (List.mem_append_left _ hp)
theorem SubP.dis {a b e : List (Addr × Obj)} (h : SubP a b) (d : Dis (e ++ b)) : Dis (e ++ a) := by
  obtain ⟨r, q⟩ := h
  have := d.perm (q.append_left e)
  rw [← List.append_assoc] at this
  exact (dis_app.mp this).1
theorem SubP.comb {a b a' b' : List (Addr × Obj)} (h : SubP a b) (h' : SubP a' b') : SubP (a ++ a') (b ++ b') := by
  obtain ⟨r, q⟩ := h
  obtain ⟨r', q'⟩ := h'
  refine ⟨r ++ r', (q.append q').trans ?_⟩
  rw [List.append_assoc, List.append_assoc]
  refine List.Perm.append_left a ?_
  rw [← List.append_assoc, ← List.append_assoc]
  exact List.perm_append_comm.append_right r'
/-- the rest is set aside -/
theorem HE.focus (he : HE k ρ (dom ++ rest) s) : ∃ nd nr, IsObjs k.w k.X ρ dom nd ∧ IsObjs k.w k.X ρ rest nr ∧ (∀ ρl objsl, IsObjs k.w k.X ρl objsl nd → HE (k.blk k.env (k.ext ++ nr)) ρl objsl s) ∧
    ∀ ρl' objsl' s', HE (k.blk k.env (k.ext ++ nr)) ρl' objsl' s' → ∃ nd', IsObjs k.w k.X ρl' objsl' nd' ∧ ∀ ρ' dom' nd'', ρ <+: ρ' → IsObjs k.w k.X ρ' dom' nd'' → SubP nd'' nd' → HE k ρ' (dom' ++ rest) s' := by
  refine fold_ fun P_ hP_ => ?_
  obtain ⟨n', io, N, d⟩ := he.N
  obtain ⟨nd, nr, rfl, i1, i2⟩ := io.app
  refine hP_ ?_
  have pq : (k.ext ++ (nd ++ nr)).Perm ((k.ext ++ nr) ++ nd) := by
    rw [List.append_assoc]
    exact List.perm_append_comm.append_left k.ext
  refine ⟨nd, nr, i1, i2, fun ρl objsl i => ⟨he.F, nd, i, fun q hq => N q (pq.mem_iff.mpr hq), d.perm pq⟩, fun ρl' objsl' s' he' => ?_⟩
  refine fold_ fun P_ hP_ => ?_
  obtain ⟨nd', i', N', d'⟩ := he'.N
  refine hP_ ?_
  refine ⟨nd', i', fun ρ' dom' nd'' p j q => ⟨he'.F, nd'' ++ nr, j.join (i2.mono p), ?_, ?_⟩⟩
  · intro z hz
    refine N' z ?_
    refine (?_ : z ∈ (k.ext ++ nr) ++ nd')
    rcases List.mem_append.mp hz with h | h
    · exact List.mem_append_left _ (List.mem_append_left _ h)
    · rcases List.mem_append.mp h with h | h
      · exact List.mem_append_right _ (q.mem _ h)
      · exact List.mem_append_left _ (List.mem_append_right _ h)
  · have d2 : Dis ((k.ext ++ nr) ++ nd'') := q.dis d'
    refine d2.perm ?_
    rw [List.append_assoc]
    exact List.perm_append_comm.append_left k.ext
theorem noNames (k : EC) (ρ : List Addr) : Names k ρ fun _ => none := ⟨fun x sv h => (nomatch h), fun x sv c h => (nomatch h)⟩
end
end Mine
end
section
namespace Mine
/-- objects that say nothing of what is left open -/
noncomputable def plainO : SO → Bool
  | .fix _ _ => false
  | .shelf _ => false
  | .item _ => false
  | .shown _ => false
  | _ => true
section
variable {w : World} {X X' : Xp} {ρ : List Addr}
theorem IsO.plain {so : SO} {o : Obj} (h : plainO so = true) (i : IsO w X ρ so o) : IsO w X' ρ so o := by
  cases so <;> first | exact i | cases h
theorem IsObjs.toZ : ∀ {l : List (Nat × SO)} {l' : List (Addr × Obj)}, (l.all fun p => plainO p.2) = true → IsObjs w X ρ l l' → IsZ w X' ρ l l'
  | [], _, _, h => by rw [h.inv0]; exact .nil
  | (n, so) :: l, _, hp, h => by
    rw [List.all_cons, Bool.and_eq_true] at hp
    obtain ⟨c, l'', rfl, h1, h2⟩ := h.invE
    obtain ⟨a, o, rfl, g1, g2, g3⟩ := h1.inv (by have := hp.1; cases so <;> first | rfl | cases this)
    exact .cons g1 ⟨IsO.plain hp.1 g2, g3⟩ (IsObjs.toZ hp.2 h2)
theorem itemO_plain (d : ItemD) (sh : Bool) : ((itemO d sh).all fun p => plainO p.2) = true := by cases d <;> rfl
theorem itemO_len (d : ItemD) (sh sh' : Bool) : (itemO d sh).length = (itemO d sh').length := by cases d <;> rfl
theorem IsZ.setX {l : List (Nat × SO)} {l' : List (Addr × Obj)} (hp : (l.all fun p => plainO p.2) = true) (h : IsZ w X ρ l l') : IsZ w X' ρ l l' := IsObjs.toZ hp h.objs
end
noncomputable def bnd (m : Nat) : SV → Bool
  | .ref n => decide (n < m)
  | .txt n => decide (n < m)
  | _ => true
noncomputable def bndO (m : Nat) : SO → Bool
  | .list l => l.all (bnd m)
  | .tup l => l.all (bnd m)
  | .inst _ n => decide (n < m)
  | .dict es => es.all fun p => bnd m p.2
  | .tab es => es.all fun p => bnd m p.2
  | _ => true
section
variable {w : World} {X : Xp} {ρ ρ' : List Addr}
theorem shr_get (p : ρ <+: ρ') {n : Nat} (h : n < ρ.length) : ρ'[n]? = ρ[n]? := by
  obtain ⟨t, rfl⟩ := p
  exact List.getElem?_append_left h
theorem Is.shrink (p : ρ <+: ρ') {a : SV} {v : Value} (hb : bnd ρ.length a = true) (h : Is ρ' a v) : Is ρ a v := by
  cases a with
  | ref n => obtain ⟨x, h1, h2⟩ := h; rw [shr_get p (of_decide_eq_true hb)] at h1; exact ⟨x, h1, h2⟩
  | txt n => obtain ⟨x, t, h1, h2⟩ := h; rw [shr_get p (of_decide_eq_true hb)] at h1; exact ⟨x, t, h1, h2⟩
  | _ => exact h
theorem IsL.shrink (p : ρ <+: ρ') : ∀ {l : List SV} {vs : List Value}, l.all (bnd ρ.length) = true → IsL ρ' l vs → IsL ρ l vs
  | [], [], _, _ => trivial
  | a :: l, v :: vs, hb, h => by
    rw [List.all_cons, Bool.and_eq_true] at hb
    exact ⟨h.1.shrink p hb.1, IsL.shrink p hb.2 h.2⟩
  | [], _ :: _, _, h => h.elim
  | _ :: _, [], _, h => h.elim
theorem IsD.shrink (p : ρ <+: ρ') : ∀ {l : List (Str × SV)} {vs : List DictEntry}, (l.all fun p => bnd ρ.length p.2) = true → IsD w ρ' l vs → IsD w ρ l vs
  | [], [], _, _ => trivial
  | (x, a) :: l, v :: vs, hb, h => by
    rw [List.all_cons, Bool.and_eq_true] at hb
    obtain ⟨⟨t, v, e, h1⟩, h2⟩ := h
    exact ⟨⟨t, v, e, h1.shrink p hb.1⟩, IsD.shrink p hb.2 h2⟩
  | [], _ :: _, _, h => h.elim
  | (_, _) :: _, [], _, h => h.elim
theorem IsKV.shrink (p : ρ <+: ρ') : ∀ {l : List (Str × SV)} {vs : List (Str × Value)}, (l.all fun p => bnd ρ.length p.2) = true → IsKV ρ' l vs → IsKV ρ l vs
  | [], [], _, _ => trivial
  | (x, a) :: l, (y, v) :: vs, hb, h => by
    rw [List.all_cons, Bool.and_eq_true] at hb
    exact ⟨h.1, h.2.1.shrink p hb.1, IsKV.shrink p hb.2 h.2.2⟩
  | [], _ :: _, _, h => h.elim
  | (_, _) :: _, [], _, h => h.elim
theorem IsO.shrink (p : ρ <+: ρ') {so : SO} {o : Obj} (hp : plainO so = true) (hb : bndO ρ.length so = true) (h : IsO w X ρ' so o) : IsO w X ρ so o := by
  cases so with
  | list l => obtain ⟨vs, n, e, h⟩ := h; exact ⟨vs, n, e, h.shrink p hb⟩
  | tup l => obtain ⟨vs, n, e, h⟩ := h; exact ⟨vs, n, e, h.shrink p hb⟩
  | inst C n => obtain ⟨d, h1, h2⟩ := h; rw [shr_get p (of_decide_eq_true hb)] at h1; exact ⟨d, h1, h2⟩
  | dict es => obtain ⟨ds, n, e, h⟩ := h; exact ⟨ds, n, e, h.shrink p hb⟩
  | tab es => obtain ⟨ds, e, h⟩ := h; exact ⟨ds, e, h.shrink p hb⟩
  | rng n => exact h
  | _ => cases hp
theorem IsObjs.shrink (p : ρ <+: ρ') : ∀ {l : List (Nat × SO)} {l' : List (Addr × Obj)}, (l.all fun q => plainO q.2 && (decide (q.1 < ρ.length) && bndO ρ.length q.2)) = true → IsObjs w X ρ' l l' → IsObjs w X ρ l l'
  | [], _, _, h => by rw [h.inv0]; exact .nil
  | (n, so) :: l, _, hp, h => by
    rw [List.all_cons, Bool.and_eq_true, Bool.and_eq_true, Bool.and_eq_true] at hp
    obtain ⟨c, l'', rfl, h1, h2⟩ := h.invE
    obtain ⟨a, o, rfl, g1, g2, g3⟩ := h1.inv (by have := hp.1.1; cases so <;> first | rfl | cases this)
    rw [shr_get p (of_decide_eq_true hp.1.2.1)] at g1
    exact .cons g1 ⟨IsO.shrink p hp.1.1 hp.1.2.2 g2, g3⟩ (IsObjs.shrink p hp.2 h2)
end
theorem itemO_bnd (d : ItemD) (sh : Bool) : ((itemO d sh).all fun q => plainO q.2 && (decide (q.1 < (itemO d sh).length) && bndO (itemO d sh).length q.2)) = true := by cases d <;> rfl
section
variable {k : EC} {nm : Str → Option SV} {ρ : List Addr} {objs : List (Nat × SO)} {s : Shared} {n i nx : Nat}
theorem HE.item (he : HE k ρ objs s) (hi : lkN objs n = some (.item i)) : ∃ ρl sh ext', okD (k.X.V i) ∧ ρl.length = (itemO (k.X.V i) sh).length ∧ (∃ a, ρ[n]? = some a ∧ ρl[0]? = some a) ∧ HE (k.blk k.env ext') ρl (itemO (k.X.V i) sh) s ∧
    ∀ ρl' new sh' s', ρl <+: ρl' → HE (k.blk k.env ext') ρl' (new ++ itemO (k.X.V i) sh') s' → ∃ ndn, IsObjs k.w k.X ρl' new ndn ∧ ∀ ρ' new' nd', ρ <+: ρ' → IsObjs k.w k.X ρ' new' nd' → SubP nd' ndn → HE k ρ' (new' ++ objs) s' := by
  rw [lkN_eq] at hi
  have pm := perm_look hi
  have he1 : HE k ρ ([(n, .item i)] ++ eraseO n objs) s := he.perm pm
  refine fold_ fun P_ hP_ => ?_
  obtain ⟨nd, nr, i1, i2, f1, f2⟩ := he1.focus
  obtain ⟨c, _, rfl, i3, i4⟩ := i1.invE
  have e0 := i4.inv0
  subst e0
  rw [List.append_nil] at i1 f1
  refine hP_ ?_
  cases i3 with
  | base h1 h2 => exact h2.1.elim
  | @item _ _ a c h1 h2 =>
    refine fold_ fun P_ hP_ => ?_
    obtain ⟨od, ρl, sh, hlen, h0, hz⟩ := h2
    refine hP_ ?_
    refine ⟨ρl, sh, k.ext ++ nr, od, hlen, ⟨a, h1, h0⟩, f1 ρl _ (hz.setX (itemO_plain _ _)).objs, fun ρl' new sh' s' p he' => ?_⟩
    refine fold_ fun P_ hP_ => ?_
    obtain ⟨nd', i5, f3⟩ := f2 ρl' _ s' he'
    obtain ⟨ndn, ndi, rfl, i6, i7⟩ := i5.app
    refine hP_ ?_
    refine ⟨ndn, i6, fun ρ' new' nd'' pp j q => ?_⟩
    have hz' : ItemC k.w (k.X.V i) a ndi := ⟨od, ρl, sh', by rw [hlen]; exact itemO_len _ _ _, h0, IsObjs.toZ (itemO_plain _ _) (IsObjs.shrink p (by rw [hlen, itemO_len _ sh sh']; exact itemO_bnd _ _) i7)⟩
    have ie : IsObjs k.w k.X ρ' [(n, .item i)] (ndi ++ []) := .consE (.item (pre_get pp h1) hz') .nil
    rw [List.append_nil] at ie
    have := f3 ρ' (new' ++ [(n, .item i)]) (nd'' ++ ndi) pp (j.join ie) (q.comb .refl)
    refine this.perm ?_
    rw [List.append_assoc]
    exact (List.Perm.refl new').append pm.symm
end
end Mine
end
section
namespace Mine
section
variable {w : World} {c : Cfg} {k : EC} {nm : Str → Option SV} {objs o : List (Nat × SO)} {nx n i : Nat}
/-- something is asked of an argument's objects alone -/
theorem item_D {α β : Type} {t : List Value → Sem α} {R : List Addr → β → α → Prop} {rl r : β} (hi : lkN objs n = some (.item i)) (hR : ∀ ρl ρ' v a, ρl[0]? = some a → ρ'[n]? = some a → R ρl rl v → R ρ' r v)
    (hloc : okD (k.X.V i) → ∀ sh (k' : EC), k'.w = k.w → k'.b = k.b → k'.X = k.X → ∃ sh', D k' (fun _ => none) (itemO (k.X.V i) sh) (itemO (k.X.V i) sh).length [.ref 0] t R rl (itemO (k.X.V i) sh') (itemO (k.X.V i) sh).length) :
    D k nm objs nx [.ref n] t R r objs nx := fun ok ρ s E vs hl hn he hv => by
  refine fold_ fun P_ hP_ => ?_
  obtain ⟨v, rfl, ⟨a, e0, rfl⟩⟩ := hv.inv1
  obtain ⟨ρl, sh, ext', od, hlen, ⟨a', g1, g2⟩, he', fin⟩ := he.item hi
  rw [e0] at g1; cases g1
  obtain ⟨sh', hd⟩ := hloc od sh (k.blk k.env ext') rfl rfl rfl
  refine hP_ ?_
  refine wpAny_mono (hd (ok.blk _ _) ρl s E [.ref a] hlen (noNames _ _) he' ⟨⟨a, g2, rfl⟩, trivial⟩) (fun v s' ⟨ρ', p, l, i', he'', S⟩ => ?_) fun _ _ z => z
  obtain ⟨ndn, j1, j2⟩ := fin ρ' [] sh' s' p he''
  exact ⟨ρ, pre_refl, hl, hR ρ' ρ v a (pre_get p g2) e0 i', j2 ρ [] [] pre_refl .nil .nil, S⟩
noncomputable def sKind : Str := Str.ofString "kind"
noncomputable def sName' : Str := Str.ofString "name"
noncomputable def kindV : ItemD → Str
  | .int _ => Str.ofString "integer"
  | .chr _ => Str.ofString "character"
  | .sym _ => Str.ofString "symbol"
  | .call => Str.ofString "language"
  | .miss => Str.ofString "missing"
theorem loc_kind {d : ItemD} {sh : Bool} : D k nm (itemO d sh) nx [.ref 0] (fun vs => getAttr (vs.headD .none) sKind true) Is (.str (kindV d)) (itemO d sh) nx := by
  cases d with
  | int z => exact D_attr (C := 236) (dn := 1) (clsTab_has (by kernel_rfl)) (attrTab_has (by kernel_rfl)) rfl rfl (by rw [← lkS_eq]; kernel_rfl) rfl
  | chr z => exact D_attr (C := 236) (dn := 1) (clsTab_has (by kernel_rfl)) (attrTab_has (by kernel_rfl)) rfl rfl (by rw [← lkS_eq]; kernel_rfl) rfl
  | sym z => exact D_attr (C := 257) (dn := 1) (clsTab_has (by kernel_rfl)) (attrTab_has (by kernel_rfl)) rfl rfl (by rw [← lkS_eq]; kernel_rfl) rfl
  | call => exact D_attr (C := 279) (dn := 1) (clsTab_has (by kernel_rfl)) (attrTab_has (by kernel_rfl)) rfl rfl (by rw [← lkS_eq]; kernel_rfl) rfl
  | miss => exact D_attr (C := 207) (dn := 1) (clsTab_has (by kernel_rfl)) (attrTab_has (by kernel_rfl)) rfl rfl (by rw [← lkS_eq]; kernel_rfl) rfl
theorem loc_name {z : Str} {sh : Bool} : D k nm (itemO (.sym z) sh) nx [.ref 0] (fun vs => getAttr (vs.headD .none) sName' true) Is (.str z) (itemO (.sym z) sh) nx :=
  D_attr (C := 257) (dn := 1) (clsTab_has (by kernel_rfl)) (attrTab_has (by kernel_rfl)) rfl rfl (by rw [← lkS_eq]; kernel_rfl) rfl
theorem item_kind (hi : lkN objs n = some (.item i)) : D k nm objs nx [.ref n] (fun vs => getAttr (vs.headD .none) sKind true) Is (.str (kindV (k.X.V i))) objs nx :=
  item_D (R := Is) (rl := .str (kindV (k.X.V i))) hi (fun _ _ _ _ _ _ h => h) fun _ sh k' _ _ _ => ⟨sh, loc_kind⟩
theorem item_name {z : Str} (hi : lkN objs n = some (.item i)) (hz : k.X.V i = .sym z) : D k nm objs nx [.ref n] (fun vs => getAttr (vs.headD .none) sName' true) Is (.str z) objs nx :=
  item_D (R := Is) (rl := .str z) hi (fun _ _ _ _ _ _ h => h) fun _ sh k' _ _ _ => ⟨sh, by rw [hz]; exact loc_name⟩
theorem kindV_in (d : ItemD) : kindV d ∈ kindL := by cases d <;> simp [kindV, kindL]
theorem kind_ok (hi : lkN objs n = some (.item i)) : D k nm objs nx [.ref n] (fun vs => getAttr (vs.headD .none) (Str.ofString "kind") true) Is .kind objs nx := fun ok ρ s E vs hl hn he hv =>
  wpAny_mono (item_kind hi ok ρ s E vs hl hn he hv) (fun v s' ⟨ρ', p, l, ⟨t, e⟩, he', S⟩ => ⟨ρ', p, l, ⟨_, t, kindV_in _, e⟩, he', S⟩) fun _ _ z => z
theorem okD_item {ρ : List Addr} {s : Shared} (he : HE k ρ objs s) (hi : lkN objs n = some (.item i)) : okD (k.X.V i) := by
  obtain ⟨_, _, _, od, _⟩ := he.item hi
  exact od
theorem nameless_inv {cx : Cx} {e : Expr} (h : isNameless cx o e = true) : ∃ x px pa k₁ q₁ p₁ py pb q₂ p₂ pc₁ pc₂ pp n i, e = .BoolOp .And [.Compare (.Attribute (.Name x px) sKind pa) [.Eq] [.Constant (.str k₁) q₁ p₁] pc₁, .Compare (.Attribute (.Name x py) sName' pb) [.Eq] [.Constant (.str (Str.ofString "")) q₂ p₂] pc₂] pp ∧ k₁ = Str.ofString "symbol" ∧ cx.nm x = some (.ref n) ∧ lkN o n = some (.item i) := by
  refine inv_oT h ?_; clear h; intro _ _ h
  refine inv_o h ?_; clear h; intro x h h1
  refine inv_o h ?_; clear h; intro v h hx
  refine inv_rf h ?_; clear h; intro n h e0; subst e0
  refine inv_o h ?_; clear h; intro so h hn
  refine inv_item h ?_; clear h; intro i h e0; subst e0
  refine inv_boolop h1 ?_; clear h1; intro op es pp h1 e0; subst e0
  refine inv_and h1 ?_; clear h1; intro h1 e0; subst e0
  refine inv_o2 h1 ?_; clear h1; intro e1 e2 h1 h2
  refine inv_o3 h1 ?_; clear h1; intro x' a k₁ h1 h3
  refine inv_o3 h1 ?_; clear h1; intro y b z h1 h4
  refine inv_b h1 ?_; clear h1; intro h1 h5
  cases h1
  simp only [Bool.and_eq_true, seq_iff] at h5
  obtain ⟨rfl, rfl, rfl, rfl, rfl⟩ := h5
  cases two_eq h2
  refine fold_ fun P_ hP_ => ?_
  obtain ⟨px, pa, q₁, p₁, pc₁, rfl⟩ := cmpX_eq h3
  obtain ⟨py, pb, q₂, p₂, pc₂, rfl⟩ := cmpX_eq h4
  refine hP_ ?_
  exact ⟨_, _, _, _, _, _, _, _, _, _, _, _, _, n, i, rfl, rfl, hx, hn⟩
theorem nameless_ok {cx : Cx} {e : Expr} (h : isNameless cx o e = true) : DQ k cx.nm o nx e false o nx := by
  refine fold_ fun P_ hP_ => ?_
  obtain ⟨x, px, pa, k₁, q₁, p₁, py, pb, q₂, p₂, pc₁, pc₂, pp, n, i, rfl, rfl, hx, hi⟩ := nameless_inv h
  refine hP_ ?_
  have a1 : ∀ {px pa}, DE k cx.nm o nx (.Attribute (.Name x px) sKind pa) (.str (kindV (k.X.V i))) o nx := fun {px pa} => DE_attr rfl (DE_name hx) (item_kind hi)
  have c1 : ∀ {t}, cmpSS .Eq (kindV (k.X.V i)) (Str.ofString "symbol") = some t → DQ k cx.nm o nx (.Compare (.Attribute (.Name x px) sKind pa) [.Eq] [.Constant (.str (Str.ofString "symbol")) q₁ p₁] pc₁) t o nx := fun {t} ht => DT_cmp rfl a1 DE_str (ret_cmpSS ht)
  cases hd : k.X.V i with
  | sym z =>
    rw [hd] at c1
    intro ok ρ s E vs hl hn he hv
    have od : okD (.sym z) := hd ▸ okD_item he hi
    have c2 : DQ k cx.nm o nx (.Compare (.Attribute (.Name x py) sName' pb) [.Eq] [.Constant (.str (Str.ofString "")) q₂ p₂] pc₂) false o nx := DT_cmp rfl (DE_attr rfl (DE_name hx) (item_name hi hd)) DE_str (ret_cmpSS (by
      refine (?_ : some (seq z (Str.ofString "")) = some false)
      rw [show seq z (Str.ofString "") = false from Bool.eq_false_iff.mpr fun e => od.2 (seq_iff.mp e)]))
    exact DT_andT (c1 (by kernel_rfl)) (DT_andF c2) _ ok ρ s E vs hl hn he hv
  | int z => rw [hd] at c1; exact DT_andF (c1 (by kernel_rfl)) _
  | chr z => rw [hd] at c1; exact DT_andF (c1 (by kernel_rfl)) _
  | call => rw [hd] at c1; exact DT_andF (c1 (by kernel_rfl)) _
  | miss => rw [hd] at c1; exact DT_andF (c1 (by kernel_rfl)) _
/-- without what is known beforehand -/
noncomputable def cfgN : Cfg := ⟨fnTab, iniTab, [], false, 0⟩
theorem hookN (w : World) : HookS w cfgN := ⟨fun f svs o nx r o' n' h => (nomatch h), fun cx o nx e e' r o' n' h => (nomatch h), fun o n i hi k nm nx hw => kind_ok hi, fun cx o nx e h k hw => nameless_ok h⟩
theorem orcN {X : Xp} (h : ∀ j, (X.S j).length ≤ 100) : Orc cfgN X := ⟨h, fun j op h => nomatch h⟩
theorem run_call {f : Nat} {svs : List SV} {v : SV} {o' : Ob} {n' : Nat} (h : callR (ev cfgN 60) cfgN f svs o nx = some (v, o', n')) (hl : ∀ j, (k.X.S j).length ≤ 100) (hb : 61 ≤ k.b) : DC k nm o nx f svs v o' n' :=
  callR_ok (tabS k.w [] false 0) (hookN k.w) (ev_ok (tabS k.w [] false 0) (hookN k.w) 60) rfl (orcN hl) (by omega) h
theorem share_loc {d : ItemD} {sh : Bool} : ∃ sh', callR (ev cfgN 60) cfgN 359 [.ref 0] (itemO d sh) (itemO d sh).length = some (.ref 0, itemO d sh', (itemO d sh).length) := by
  cases d with
  | int z => exact ⟨true, by kernel_rfl⟩
  | chr z => exact ⟨true, by kernel_rfl⟩
  | sym z => exact ⟨sh, by kernel_rfl⟩
  | call => exact ⟨sh, by kernel_rfl⟩
  | miss => exact ⟨sh, by kernel_rfl⟩
theorem share_ok (hi : lkN o n = some (.item i)) (hl : ∀ j, (k.X.S j).length ≤ 100) (hb : 61 ≤ k.b) : DC k nm o nx 359 [.ref n] (.ref n) o nx :=
  item_D (R := Is) (rl := .ref 0) hi (fun ρl ρ' v a h1 h2 ⟨b, h3, h4⟩ => ⟨a, h2, by rw [h1] at h3; cases h3; exact h4⟩) fun _ sh k' e1 e2 e3 => by
    obtain ⟨sh', h⟩ := share_loc (d := k.X.V i) (sh := sh)
    exact ⟨sh', run_call h (by rw [e3]; exact hl) (by omega)⟩
end
end Mine
end
section
namespace Mine
/-- what the law shows of an argument, as the run numbers it -/
noncomputable def shownR : ItemD → Nat × List (Nat × SO) × Nat
  | .int z => (6, [(6, .list [str! "integer", .int z])], 7)
  | .chr c => (6, [(6, .list [str! "character", .str c])], 7)
  | .sym c => (2, [(2, .list [str! "symbol", .str c])], 3)
  | .call => (14, [(14, .list [str! "call", .ref 9, .ref 10, .none, str! "k"]), (10, .list [str! "symbol", str! "x"]), (9, .list [str! "symbol", str! "f"])], 15)
  | .miss => (3, [(3, .list [str! "missing"])], 4)
theorem shown_loc {d : ItemD} {sh : Bool} : callR (ev cfgN 60) cfgN 477 [.ref 0] (itemO d sh) (itemO d sh).length = some (.ref (shownR d).1, (shownR d).2.1 ++ itemO d sh, (shownR d).2.2) := by
  cases d <;> kernel_rfl
section
variable {w : World} {X : Xp} {ρ : List Addr}
theorem IsZ.one {n : Nat} {so : SO} {a : Addr} {c : List (Addr × Obj)} (h : IsObjs w X ρ [(n, so)] c) (hp : plainO so = true) (hb : bndO 0 so = true) (h0 : ρ[n]? = some a) : IsZ w X0 [a] [(0, so)] c := by
  obtain ⟨c', l, rfl, h1, h2⟩ := h.invE
  rw [h2.inv0, List.append_nil]
  obtain ⟨b, o, rfl, g1, g2, g3⟩ := h1.inv (by cases so <;> first | rfl | cases hp)
  rw [h0] at g1; cases g1
  refine .cons rfl ⟨IsO.plain (X := X) hp ?_, g3⟩ .nil
  have := IsO.shrink (ρ := []) (ρ' := ρ) (List.nil_prefix) hp hb g2
  exact IsO.mono (List.nil_prefix) this
theorem shown_fold {d : ItemD} {a : Addr} {c : List (Addr × Obj)} (od : okD d) (h : IsObjs w X ρ (shownR d).2.1 c) (h0 : ρ[(shownR d).1]? = some a) : ∃ c', ShownC w d a c' ∧ c.Perm c' := by
  cases d with
  | int z => exact ⟨c, ⟨od, [a], rfl, rfl, IsZ.one h rfl rfl h0⟩, .refl _⟩
  | chr z => exact ⟨c, ⟨od, [a], rfl, rfl, IsZ.one h rfl rfl h0⟩, .refl _⟩
  | sym z => exact ⟨c, ⟨od, [a], rfl, rfl, IsZ.one h rfl rfl h0⟩, .refl _⟩
  | miss => exact ⟨c, ⟨od, [a], rfl, rfl, IsZ.one h rfl rfl h0⟩, .refl _⟩
  | call =>
    obtain ⟨c1, l1, rfl, h1, h2⟩ := IsObjs.invE h
    obtain ⟨c2, l2, rfl, h3, h4⟩ := h2.invE
    obtain ⟨c3, l3, rfl, h5, h6⟩ := h4.invE
    rw [h6.inv0, List.append_nil]
    obtain ⟨a1, o1, rfl, g1, ⟨vs, n, rfl, gl⟩, _⟩ := h1.inv rfl
    obtain ⟨a2, o2, rfl, g3, g4, _⟩ := h3.inv rfl
    obtain ⟨a3, o3, rfl, g5, g6, _⟩ := h5.inv rfl
    have h0' : ρ[14]? = some a := h0
    refine fold_ fun P_ hP_ => ?_
    rw [h0'] at g1; cases g1
    have nil4 := IsO.shrink (ρ := []) (ρ' := ρ) (List.nil_prefix) rfl rfl g4
    have nil6 := IsO.shrink (ρ := []) (ρ' := ρ) (List.nil_prefix) rfl rfl g6
    obtain ⟨v1, _, rfl, j1, gl1⟩ := gl.inv
    obtain ⟨v2, _, rfl, k2, gl2⟩ := gl1.inv
    obtain ⟨v3, _, rfl, k3, gl3⟩ := gl2.inv
    obtain ⟨b2, e2, rfl⟩ := k2
    obtain ⟨b3, e3, rfl⟩ := k3
    rw [g5] at e2; cases e2
    rw [g3] at e3; cases e3
    obtain ⟨v4, v5, rfl, j4, j5⟩ := gl3.inv2
    refine hP_ ?_
    refine ⟨[(a, lobj [v1, .ref a3, .ref a2, v4, v5] n), (a3, o3), (a2, o2)], ⟨od, [a, a3, a2], rfl, rfl, .cons rfl ⟨⟨_, n, rfl, j1, ⟨a3, rfl, rfl⟩, ⟨a2, rfl, rfl⟩, j4, j5, trivial⟩, trivial⟩ (.cons rfl ⟨IsO.mono (List.nil_prefix) (IsO.plain rfl nil6), trivial⟩ (.cons rfl ⟨IsO.mono (List.nil_prefix) (IsO.plain rfl nil4), trivial⟩ .nil))⟩, ?_⟩
    exact List.Perm.cons _ (List.Perm.swap _ _ _)
end
section
variable {k : EC} {nm : Str → Option SV} {objs o : List (Nat × SO)} {nx n i : Nat}
theorem shown_ok (hi : lkN o n = some (.item i)) (hl : ∀ j, (k.X.S j).length ≤ 100) (hb : 61 ≤ k.b) : DC k nm o nx 477 [.ref n] (.ref nx) ((nx, .shown i) :: o) (nx + 1) := fun ok ρ s E vs hlen hn he hv => by
  refine fold_ fun P_ hP_ => ?_
  obtain ⟨v, rfl, ⟨a, e0, rfl⟩⟩ := hv.inv1
  obtain ⟨ρl, sh, ext', od, hlenl, ⟨a', g1, g2⟩, he', fin⟩ := he.item hi
  rw [e0] at g1; cases g1
  refine hP_ ?_
  have hd : DC (k.blk k.env ext') (fun _ => none) _ _ 477 [.ref 0] _ _ _ := run_call (k := k.blk k.env ext') (nm := fun _ => none) (shown_loc (d := k.X.V i) (sh := sh)) hl hb
  refine wpAny_mono (hd (ok.blk _ _) ρl s E [.ref a] hlenl (noNames _ _) he' ⟨⟨a, g2, rfl⟩, trivial⟩) (fun v s' ⟨ρ', p, l, ⟨b, f1, f2⟩, he'', S⟩ => ?_) fun _ _ z => z
  subst f2
  obtain ⟨ndn, j1, j2⟩ := fin ρ' _ sh s' p he''
  obtain ⟨c', sc, pc⟩ := shown_fold od j1 f1
  have p2 : ρ <+: ρ ++ [b] := pre_snoc
  have ie : IsObjs k.w k.X (ρ ++ [b]) [(nx, .shown i)] (c' ++ []) := .consE (.shown (by rw [← hlen]; simp) sc) .nil
  rw [List.append_nil] at ie
  exact ⟨ρ ++ [b], p2, by simp [hlen], is_new hlen, j2 _ [(nx, .shown i)] c' p2 ie (.of pc), S⟩
end
end Mine
end
section
namespace Mine
section
variable {k : EC} {nm : Str → Option SV} {objs o : List (Nat × SO)} {nx n j : Nat} {ρ : List Addr} {s : Shared}
/-- an object is told in other words -/
theorem HE.retype {so so' : SO} (he : HE k ρ objs s) (h : objs.lookup n = some so) (hb : so.base = true) (hc : ∀ o x, IsO k.w k.X ρ so o → TabOk so x → IsO k.w k.X ρ so' o ∧ TabOk so' x) : HE k ρ (setO n so' objs) s := by
  refine fold_ fun P_ hP_ => ?_
  obtain ⟨n', io, N, d⟩ := he.N
  obtain ⟨a, o, pre, post, e1, rfl, ⟨e3, e4⟩, e5⟩ := io.split h hb
  have := hc o a e3 e4
  refine hP_ ?_
  exact ⟨he.F, _, e5 ρ so' o pre_refl this.1 this.2, N, d⟩
theorem setO_cons {so o : SO} {m : Nat} {l : List (Nat × SO)} : setO n so ((m, o) :: l) = if n = m then (m, so) :: l else (m, o) :: setO n so l := rfl
theorem setO_setO {a b : SO} : ∀ {l : List (Nat × SO)}, setO n a (setO n b l) = setO n a l
  | [] => rfl
  | (m, so) :: l => by
    rw [setO_cons, setO_cons]
    by_cases e : n = m
    · rw [if_pos e, if_pos e, setO_cons, if_pos e]
    · rw [if_neg e, if_neg e, setO_cons, if_neg e, setO_setO]
theorem ret_mod {x y : Int} (hy : y ≠ 0) : D k nm objs nx [.int x, .int y] (fun vs => binaryOp .Mod (vs.headD .none) (vs.tail.headD .none)) Is (.int (x.fmod y)) objs nx := D.ret fun ok ρ s Q E vs hn he hi q => by
  obtain ⟨v, v', rfl, ⟨t, rfl⟩, ⟨u, rfl⟩⟩ := hi.inv2
  exact mod_int hy (q _ _ ⟨_, rfl⟩)
noncomputable def sShelf : Str := Str.ofString "shelf"
noncomputable def sBound : Str := Str.ofString "bound"
theorem nm_of {q : FnS} {σ : List (Str × SV)} {x : Str} {a : SV} (h : nmE q σ x = some a) : nmOf q σ x = some a := by rw [← nmE_eq]; exact h
/-- one cell is taken from the shelf -/
theorem grab_body {k : EC} {zs : List SV} {b : Int} {o : List (Nat × SO)} (hb : 0 < b) (hi : o.lookup n = some (.list zs)) (hl : zs.length ≤ 100) {g : Int} {rest : List SV}
    (hg : (zs = [] ∧ g = 0 ∧ rest = []) ∨ ∃ x, zs = .int x :: rest ∧ g = x.fmod b) : DS F465 k ⟨[(sBound, .int b), (sShelf, .ref n)], o, nx⟩ (execs F465.body k.env) (.ret (.int g)) ⟨[(sBound, .int b), (sShelf, .ref n)], (if zs = [] then o else setO n (.list rest) o), nx⟩ := DSF.ds fun fr => by
  have hlen : listO (lkN o n) = some zs := by rw [lkN_eq, hi]; rfl
  have n1 : ∀ {m ext o px}, DE (k.at m ext) (nmOf F465 [(sBound, .int b), (sShelf, .ref n)]) o nx (.Name sShelf px) (.ref n) o nx := fun {m ext o px} => DE_name (nm_of (by kernel_rfl))
  have n2 : ∀ {m ext o px}, DE (k.at m ext) (nmOf F465 [(sBound, .int b), (sShelf, .ref n)]) o nx (.Name sBound px) (.int b) o nx := fun {m ext o px} => DE_name (nm_of (by kernel_rfl))
  have n3 : ∀ {m ext o px}, DE (k.at m ext) (nmOf F465 [(sBound, .int b), (sShelf, .ref n)]) o nx (.Name (Str.ofString "len") px) (.bi 0) o nx := fun {m ext o px} => DE_name (nm_of (by kernel_rfl))
  refine (?_ : DS F465 k _ (execs BF49 k.env) _ _)
  have tst : ∀ {t : Bool} {pc pl px p0 pos : Pos} {q0 : Nat}, decide ((zs.length : Int) = 0) = t → DTX F465 k ⟨[(sBound, .int b), (sShelf, .ref n)], o, nx⟩ (.Compare (.Call (.Name (Str.ofString "len") pl) [.Name sShelf px] [] pc) [.Eq] [.Constant (.int 0) q0 p0] pos) t o nx := fun {t pc pl px p0 pos q0} ht m ext =>
    DT_cmp rfl (DE_callB (c := "len") rfl n3 (DA_cons rfl n1 DA_nil) (ret_len hlen (by omega))) DE_int (ret_cmpII (op := .Eq) (x := (zs.length : Int)) (y := 0) (congrArg some ht))
  rcases hg with ⟨rfl, rfl, rfl⟩ | ⟨x, rfl, rfl⟩
  · rw [if_pos rfl]
    exact DS_ret (DS_if (c := true) (tst rfl) (by rw [if_pos rfl]; exact DS_ret (DS_return fun m ext => DE_int)))
  · rw [if_neg (List.cons_ne_nil _ _)]
    have hl' : rest.length ≤ 900 := by have : rest.length + 1 ≤ 100 := hl; omega
    have hne : b ≠ 0 := by omega
    refine DS_cons (DS_if (c := false) (st' := ⟨[(sBound, .int b), (sShelf, .ref n)], o, nx⟩) (tst (by simp; omega)) (by rw [if_neg (by decide)]; exact DS_nil)) (DS_ret (DS_return fun m ext => ?_))
    exact DE_bin (DE_meth rfl rfl rfl n1 (ret_methL PySem.F.slot_list_pop PySem.F.type_list_pop hi) (DA_cons rfl DE_int DA_nil) (ret_pop0 (so' := .list rest) hi rfl (fun ρ o ⟨vs, c, e, h⟩ => ⟨vs, c, e, h⟩) (fun ρ vs c x h => ⟨⟨vs, c, rfl, h⟩, trivial⟩) hl')) n2 (ret_mod hne)
theorem grab_ok {b g : Int} (hi : lkN o n = some (.shelf j)) (hX : ∀ j, (k.X.S j).length ≤ 100) (hb : 0 < b) (hg : grabR (k.X.S j) b = (g, k.X.S (j + 1))) (hk : 61 ≤ k.b) : DC k nm o nx 465 [.ref n, .int b] (.int g) (stN n (.shelf (j + 1)) o) nx := fun ok ρ s E vs hlen hn he hv => by
  rw [lkN_eq] at hi
  rw [stN_eq]
  have he1 : HE k ρ (setO n (.list ((k.X.S j).map .int)) o) s := he.retype hi rfl fun o x h _ => ⟨h, trivial⟩
  have hi1 : (setO n (.list ((k.X.S j).map .int)) o).lookup n = some (.list ((k.X.S j).map .int)) := lookup_setO hi
  have hcase : ((k.X.S j).map SV.int = [] ∧ g = 0 ∧ (k.X.S (j + 1)).map SV.int = []) ∨ ∃ x, (k.X.S j).map SV.int = .int x :: (k.X.S (j + 1)).map .int ∧ g = x.fmod b := by
    cases hS : k.X.S j with
    | nil =>
      rw [hS] at hg
      have e1 : g = 0 := congrArg Prod.fst hg.symm
      have e2 : k.X.S (j + 1) = [] := congrArg Prod.snd hg.symm
      exact .inl ⟨rfl, e1, by rw [e2]; rfl⟩
    | cons x l =>
      rw [hS] at hg
      have e1 : g = x.fmod b := congrArg Prod.fst hg.symm
      have e2 : k.X.S (j + 1) = l := congrArg Prod.snd hg.symm
      exact .inr ⟨x, by rw [e2]; rfl, e1⟩
  have hcall : DC k nm (setO n (.list ((k.X.S j).map .int)) o) nx 465 [.ref n, .int b] (.int g) _ nx :=
    ret_fn (q := F465) (bs := [(sShelf, .ref n), (sBound, .int b)]) (f := .ret (.int g)) (st' := ⟨[(sBound, .int b), (sShelf, .ref n)], (if (k.X.S j).map SV.int = [] then setO n (.list ((k.X.S j).map .int)) o else setO n (.list ((k.X.S (j + 1)).map .int)) (setO n (.list ((k.X.S j).map .int)) o)), nx⟩) (ok465 k.w).1 (ok465 k.w).2 (by omega) (bindE_eq (by kernel_rfl)) fun k' e1 e2 e3 _ => grab_body (nx := nx) hb hi1 (by rw [List.length_map]; exact hX j) hcase
  refine wpAny_mono (hcall ok ρ s E vs hlen hn he1 hv) (fun v s' ⟨ρ', p, l, i, he', S⟩ => ⟨ρ', p, l, i, ?_, S⟩) fun _ _ z => z
  have he2 : HE k ρ' (setO n (.list ((k.X.S (j + 1)).map .int)) o) s' := by
    by_cases e : (k.X.S j).map SV.int = []
    · rw [if_pos e] at he'
      rcases hcase with ⟨_, _, e3⟩ | ⟨x, e3, _⟩
      · rw [e3]; rw [e] at he'; exact he'
      · rw [e] at e3; cases e3
    · rw [if_neg e, setO_setO] at he'
      exact he'
  have := he2.retype (so' := .shelf (j + 1)) (lookup_setO hi) rfl fun o x h _ => ⟨h, trivial⟩
  rw [setO_setO] at this
  exact this
end
end Mine
end
section
namespace Mine
section
variable {c : Cfg} {k : EC} {nm : Str → Option SV} {cx : Cx} {objs o o' : List (Nat × SO)} {nx n' n j : Nat} {ρ : List Addr} {s : Shared} {e e' : Expr} {r : SV}
theorem HE.tail {p : Nat × SO} (he : HE k ρ (p :: o) s) : HE k ρ o s := by
  obtain ⟨n', io, N, d⟩ := he.N
  obtain ⟨cl, l, rfl, h1, h2⟩ := io.invE
  have pt : Part (k.ext ++ l) (k.ext ++ (cl ++ l)) := (Part.refl.drops cl).app k.ext
  exact ⟨he.F, l, h2, fun q hq => N q (pt.mem q hq), pt.dis d⟩
structure TagI (c : Cfg) (cx : Cx) (o : List (Nat × SO)) (nx : Nat) (e e' : Expr) (r : SV) (o' : List (Nat × SO)) (n' : Nat) : Prop where
  ex : ∃ p0 q0 p1 q1 p2 q2 p3 pf px q4 p4 pc f x n j b, e = .List [.Constant .none q0 p0, .Constant (.str (Str.ofString "a")) q1 p1, .Constant (.str (Str.ofString "b")) q2 p2] p3 ∧ e' = .Call (.Name f pf) [.Name x px, .Constant (.int 3) q4 p4] [] pc ∧
    cx.nm f = some (.con (.ref 465)) ∧ cx.nm x = some (.ref n) ∧ lkN o n = some (.shelf j) ∧ getOp c.ops j = some (.tag b) ∧ n ≠ nx ∧ o' = stN n (.shelf (j + 1)) o ∧ (b = false ∧ r = .none ∧ n' = nx + 1 ∨ b = true ∧ r = .txt (nx + 1) ∧ n' = nx + 2)
theorem tag_inv (h : eTag c cx o nx e e' = some (r, o', n')) : TagI c cx o nx e e' r o' n' := by
  refine inv_b h ?_; clear h; intro h h0
  refine inv_list h ?_; clear h; intro es p3 h e0; subst e0
  refine inv_o h ?_; clear h; intro _ h h1
  refine inv_o2 h ?_; clear h; intro f x h h2
  refine inv_o h ?_; clear h; intro g h h3
  refine inv_b h ?_; clear h; intro h h4
  have eg := Nat.eq_of_beq_eq_true h4
  subst eg
  refine inv_o h ?_; clear h; intro n h h5
  refine inv_o h ?_; clear h; intro so h h6
  refine inv_ss h ?_; clear h; intro j h e0; subst e0
  refine inv_o h ?_; clear h; intro op h h7
  refine inv_ot h ?_; clear h; intro b h e0; subst e0
  refine inv_nb h ?_; clear h; intro h h8
  have hn : n ≠ nx := fun e => by rw [e, Nat.beq_refl] at h8; cases h8
  refine inv_o h3 ?_; clear h3; intro v h3 hf
  refine inv_rc h3 ?_; clear h3; intro w h3 e0; subst e0
  refine inv_vref h3 ?_; clear h3; intro m h3 e0; subst e0
  cases h3
  refine inv_o h5 ?_; clear h5; intro v h5 hx
  refine inv_rf h5 ?_; clear h5; intro m h5 e0; subst e0
  cases h5
  refine inv_o3 h1 ?_; clear h1; intro u0 u1 u2 h1 h9
  refine inv_const h1 ?_; clear h1; intro k0 q0 p0 h1 e0; subst e0
  refine inv_cnone h1 ?_; clear h1; intro h1 e0; subst e0
  refine inv_const h1 ?_; clear h1; intro k1 q1 p1 h1 e0; subst e0
  refine inv_cstr h1 ?_; clear h1; intro a h1 e0; subst e0
  refine inv_const h1 ?_; clear h1; intro k2 q2 p2 h1 e0; subst e0
  refine inv_cstr h1 ?_; clear h1; intro b' h1 e0; subst e0
  refine inv_b h1 ?_; clear h1; intro h1 h10
  clear h1
  simp only [Bool.and_eq_true, seq_iff] at h10
  obtain ⟨rfl, rfl⟩ := h10
  refine inv_call h2 ?_; clear h2; intro f0 es0 kws0 pc h2 e0; subst e0
  refine inv_nil h2 ?_; clear h2; intro h2 e0; subst e0
  refine inv_name h2 ?_; clear h2; intro f' pf h2 e0; subst e0
  refine inv_o2 h2 ?_; clear h2; intro u3 u4 h2 h11
  refine inv_name h2 ?_; clear h2; intro x' px h2 e0; subst e0
  refine inv_const h2 ?_; clear h2; intro k4 q4 p4 h2 e0; subst e0
  refine inv_cint h2 ?_; clear h2; intro i h2 e0; subst e0
  refine inv_b h2 ?_; clear h2; intro h2 h12
  cases h2
  have ei : i = 3 := of_decide_eq_true h12
  subst ei
  cases three_eq h9
  cases two_eq h11
  refine ⟨_, _, _, _, _, _, _, _, _, _, _, _, _, _, n, j, b, rfl, rfl, hf, hx, h6, h7, hn, ?_⟩
  cases b with
  | false => cases h; exact ⟨rfl, .inl ⟨rfl, rfl, rfl⟩⟩
  | true => cases h; exact ⟨rfl, .inr ⟨rfl, rfl, rfl⟩⟩
theorem ofS_a : Str.ofString "a" = ⟨#[97]⟩ := by decide +kernel
theorem ofS_b : Str.ofString "b" = ⟨#[98]⟩ := by decide +kernel
theorem tag_ok {pos : Pos} (h : eTag c cx o nx e e' = some (r, o', n')) (ho : Orc c k.X) (hb : 61 ≤ k.b) : DE k cx.nm o nx (.Subscript e e' pos) r o' n' := by
  refine fold_ fun P_ hP_ => ?_
  obtain ⟨p0, q0, p1, q1, p2, q2, p3, pf, px, q4, p4, pc, f, x, n, j, b, rfl, rfl, hf, hx, hi, hop, hn, rfl, hr⟩ := (tag_inv h).ex
  obtain ⟨g, hg, hgb⟩ := ho.op j _ hop
  refine hP_ ?_
  have d1 : DE k cx.nm o nx (.List [.Constant .none q0 p0, .Constant (.str (Str.ofString "a")) q1 p1, .Constant (.str (Str.ofString "b")) q2 p2] p3) (.ref nx) ((nx, .list [.none, .str (Str.ofString "a"), .str (Str.ofString "b")]) :: o) (nx + 1) :=
    DE_list (DA_cons rfl DE_none (DA_cons rfl DE_str (DA_cons rfl DE_str DA_nil))) (by decide)
  have hi' : lkN ((nx, SO.list [.none, .str (Str.ofString "a"), .str (Str.ofString "b")]) :: o) n = some (.shelf j) := by
    rw [lkN_cons]
    have : Nat.beq n nx = false := Bool.eq_false_iff.mpr fun e => hn (Nat.eq_of_beq_eq_true e)
    rw [this]
    exact hi
  have hst : stN n (.shelf (j + 1)) ((nx, SO.list [.none, .str (Str.ofString "a"), .str (Str.ofString "b")]) :: o) = (nx, .list [.none, .str (Str.ofString "a"), .str (Str.ofString "b")]) :: stN n (.shelf (j + 1)) o := by
    rw [stN_cons]
    have : Nat.beq n nx = false := Bool.eq_false_iff.mpr fun e => hn (Nat.eq_of_beq_eq_true e)
    rw [this]
  have d2 : DE k cx.nm ((nx, .list [.none, .str (Str.ofString "a"), .str (Str.ofString "b")]) :: o) (nx + 1) (.Call (.Name f pf) [.Name x px, .Constant (.int 3) q4 p4] [] pc) (.int g) ((nx, .list [.none, .str (Str.ofString "a"), .str (Str.ofString "b")]) :: stN n (.shelf (j + 1)) o) (nx + 1) := by
    rw [← hst]
    exact DE_callK (keeps_ok k.w 465 (memN_iff.mp (by kernel_rfl))) rfl (DE_name hf) (DA_cons rfl (DE_name hx) (DA_cons rfl DE_int DA_nil)) (grab_ok hi' ho.len (by decide) hg hb)
  have item : ∀ {v : SV} {i : Nat}, g = (i : Int) → [SV.none, .str (Str.ofString "a"), .str (Str.ofString "b")][i]? = some v → i < 1000 → DE k cx.nm o nx (.Subscript (.List [.Constant .none q0 p0, .Constant (.str (Str.ofString "a")) q1 p1, .Constant (.str (Str.ofString "b")) q2 p2] p3) (.Call (.Name f pf) [.Name x px, .Constant (.int 3) q4 p4] [] pc) pos) v ((nx, .list [.none, .str (Str.ofString "a"), .str (Str.ofString "b")]) :: stN n (.shelf (j + 1)) o) (nx + 1) := fun {v i} eg hv hlt => by
    rw [eg] at d2
    refine DE_sub d1 d2 (ret_itemL rfl ?_ hv hlt)
    rw [lkN_cons, Nat.beq_refl]
    rfl
  have fin : ∀ {E0 : Expr} {a : Nat} {z : Str}, z = ⟨#[a]⟩ → a < 1114112 → DE k cx.nm o nx E0 (.str z) ((nx, .list [.none, .str (Str.ofString "a"), .str (Str.ofString "b")]) :: stN n (.shelf (j + 1)) o) (nx + 1) → DE k cx.nm o nx E0 (.txt (nx + 1)) (stN n (.shelf (j + 1)) o) (nx + 2) := fun {E0 a z} ez ha hd ok ρ s E vs hl hnm he hv =>
    wpAny_mono (hd ok ρ s E vs hl hnm he hv) (fun v s' ⟨ρ', p, l, ⟨t, ev⟩, he', S⟩ => ⟨ρ' ++ [a], p.trans pre_snoc, by simp [l], ⟨a, t, by rw [← l]; simp, ha, by rw [ev, ez]⟩, (he'.tail).toRho pre_snoc, S⟩) fun _ _ z => z
  rcases hr with ⟨rfl, rfl, rfl⟩ | ⟨rfl, rfl, rfl⟩
  · have eg : g = 0 := by simpa using hgb
    exact D.weak (item (i := 0) eg rfl (by decide)) fun ρ s he => he.tail
  · have eg : g = 1 ∨ g = 2 := by simpa using hgb
    rcases eg with eg | eg
    · exact fin ofS_a (by decide) (item (i := 1) eg rfl (by decide))
    · exact fin ofS_b (by decide) (item (i := 2) eg rfl (by decide))
end
end Mine
end
section
namespace Mine
/-! ## Other numbers -/
noncomputable def renV (is : List Nat) : SV → SV
  | .ref j => .ref (is.getD j 0)
  | a => a
noncomputable def renO (is : List Nat) : SO → SO
  | .list l => .list (l.map (renV is))
  | .tup l => .tup (l.map (renV is))
  | .inst C n => .inst C (is.getD n 0)
  | .dict es => .dict (es.map fun p => (p.1, renV is p.2))
  | so => so
noncomputable def renP (is : List Nat) (p : Nat × SO) : Nat × SO := (is.getD p.1 0, renO is p.2)
noncomputable def seqV (m : Nat) : SV → Bool
  | .ref n => Nat.blt n m
  | .none => true
  | .str _ => true
  | .int _ => true
  | .bool _ => true
  | _ => false
noncomputable def seqB (m : Nat) : SO → Bool
  | .list l => l.all (seqV m)
  | .tup l => l.all (seqV m)
  | .inst _ n => Nat.blt n m
  | .dict es => es.all fun p => seqV m p.2
  | _ => false
section
variable {w : World} {X : Xp} {ρ ρl : List Addr} {is : List Nat}
noncomputable def Ren (is : List Nat) (ρl ρ : List Addr) : Prop := ρl.length = is.length ∧ ∀ j, j < is.length → ∃ a, ρl[j]? = some a ∧ ρ[is.getD j 0]? = some a
theorem Ren.isV (h : Ren is ρl ρ) {a : SV} {v : Value} (hb : seqV is.length a = true) : Is ρl a v ↔ Is ρ (renV is a) v := by
  cases a with
  | ref j =>
    obtain ⟨x, h1, h2⟩ := h.2 j (Nat.le_of_ble_eq_true hb)
    constructor
    · rintro ⟨y, e1, e2⟩; rw [h1] at e1; cases e1; exact ⟨x, h2, e2⟩
    · rintro ⟨y, e1, e2⟩; rw [h2] at e1; cases e1; exact ⟨x, h1, e2⟩
  | none => exact Iff.rfl
  | str _ => exact Iff.rfl
  | int _ => exact Iff.rfl
  | bool _ => exact Iff.rfl
  | _ => cases hb
theorem Ren.isL (h : Ren is ρl ρ) : ∀ {l : List SV} {vs : List Value}, l.all (seqV is.length) = true → (IsL ρl l vs ↔ IsL ρ (l.map (renV is)) vs)
  | [], [], _ => Iff.rfl
  | [], _ :: _, _ => Iff.rfl
  | _ :: _, [], _ => Iff.rfl
  | a :: l, v :: vs, hb => by
    rw [List.all_cons, Bool.and_eq_true] at hb
    refine (?_ : Is ρl a v ∧ IsL ρl l vs ↔ Is ρ (renV is a) v ∧ IsL ρ (l.map (renV is)) vs)
    rw [h.isV hb.1, h.isL hb.2]
theorem Ren.isD (h : Ren is ρl ρ) : ∀ {l : List (Str × SV)} {ds : List DictEntry}, (l.all fun p => seqV is.length p.2) = true → (IsD w ρl l ds ↔ IsD w ρ (l.map fun p => (p.1, renV is p.2)) ds)
  | [], [], _ => Iff.rfl
  | [], _ :: _, _ => Iff.rfl
  | (_, _) :: _, [], _ => Iff.rfl
  | (x, a) :: l, d :: ds, hb => by
    rw [List.all_cons, Bool.and_eq_true] at hb
    refine (?_ : (∃ t v, d = ent w x t v ∧ Is ρl a v) ∧ IsD w ρl l ds ↔ (∃ t v, d = ent w x t v ∧ Is ρ (renV is a) v) ∧ IsD w ρ (l.map fun p => (p.1, renV is p.2)) ds)
    rw [h.isD hb.2]
    constructor
    · rintro ⟨⟨t, v, e, i⟩, r⟩; exact ⟨⟨t, v, e, (h.isV hb.1).mp i⟩, r⟩
    · rintro ⟨⟨t, v, e, i⟩, r⟩; exact ⟨⟨t, v, e, (h.isV hb.1).mpr i⟩, r⟩
theorem Ren.isO (h : Ren is ρl ρ) {so : SO} {o : Obj} (hb : seqB is.length so = true) : IsO w X ρl so o ↔ IsO w X ρ (renO is so) o := by
  cases so with
  | list l => constructor <;> (rintro ⟨vs, n, e, i⟩; first | exact ⟨vs, n, e, (h.isL hb).mp i⟩ | exact ⟨vs, n, e, (h.isL hb).mpr i⟩)
  | tup l => constructor <;> (rintro ⟨vs, n, e, i⟩; first | exact ⟨vs, n, e, (h.isL hb).mp i⟩ | exact ⟨vs, n, e, (h.isL hb).mpr i⟩)
  | dict es => constructor <;> (rintro ⟨ds, n, e, i⟩; first | exact ⟨ds, n, e, (h.isD hb).mp i⟩ | exact ⟨ds, n, e, (h.isD hb).mpr i⟩)
  | inst C n =>
    obtain ⟨x, h1, h2⟩ := h.2 n (Nat.le_of_ble_eq_true hb)
    constructor
    · rintro ⟨y, e1, e2⟩; rw [h1] at e1; cases e1; exact ⟨x, h2, e2⟩
    · rintro ⟨y, e1, e2⟩; rw [h2] at e1; cases e1; exact ⟨x, h1, e2⟩
  | _ => cases hb
theorem seqB_base {m : Nat} {so : SO} (h : seqB m so = true) : so.base = true ∧ (renO is so).base = true ∧ plainO so = true ∧ (∀ a, TabOk (renO is so) a) ∧ ∀ a, TabOk so a := by
  cases so <;> first | exact ⟨rfl, rfl, rfl, fun _ => trivial, fun _ => trivial⟩ | cases h
theorem Ren.into (h : Ren is ρl ρ) : ∀ {l : List (Nat × SO)} {nd : List (Addr × Obj)}, (l.all fun p => Nat.blt p.1 is.length && seqB is.length p.2) = true → IsObjs w X ρ (l.map (renP is)) nd → IsObjs w X ρl l nd
  | [], nd, _, i => by rw [IsObjs.inv0 i]; exact .nil
  | (j, so) :: l, nd, hb, i => by
    rw [List.all_cons, Bool.and_eq_true, Bool.and_eq_true] at hb
    obtain ⟨c, r, rfl, i1, i2⟩ := IsObjs.invE (p := renP is (j, so)) i
    have sb := seqB_base (is := is) hb.1.2
    obtain ⟨a, o, rfl, g1, g2, g3⟩ := IsE.inv (n := is.getD j 0) (so := renO is so) i1 sb.2.1
    obtain ⟨x, h1, h2⟩ := h.2 j (Nat.le_of_ble_eq_true hb.1.1)
    rw [h2] at g1; cases g1
    exact .cons h1 ⟨(h.isO hb.1.2).mpr g2, sb.2.2.2.2 _⟩ (Ren.into h hb.2 i2)
theorem Ren.from (h : Ren is ρl ρ) : ∀ {l : List (Nat × SO)} {nd : List (Addr × Obj)}, (l.all fun p => Nat.blt p.1 is.length && seqB is.length p.2) = true → IsObjs w X ρl l nd → IsObjs w X ρ (l.map (renP is)) nd
  | [], nd, _, i => by rw [IsObjs.inv0 i]; exact .nil
  | (j, so) :: l, nd, hb, i => by
    rw [List.all_cons, Bool.and_eq_true, Bool.and_eq_true] at hb
    obtain ⟨c, r, rfl, i1, i2⟩ := IsObjs.invE i
    have sb := seqB_base (is := is) hb.1.2
    obtain ⟨a, o, rfl, g1, g2, g3⟩ := i1.inv sb.1
    obtain ⟨x, h1, h2⟩ := h.2 j (Nat.le_of_ble_eq_true hb.1.1)
    rw [h1] at g1; cases g1
    exact .consE (p := renP is (j, so)) (.base h2 ⟨(h.isO hb.1.2).mp g2, sb.2.2.2.1 _⟩) (Ren.from h hb.2 i2)
theorem seq_bnd {l : List (Nat × SO)} (h : (l.all fun p => Nat.blt p.1 is.length && seqB is.length p.2) = true) (e : ρl.length = is.length) : (l.all fun q => plainO q.2 && (decide (q.1 < ρl.length) && bndO ρl.length q.2)) = true := by
  rw [List.all_eq_true] at h ⊢
  intro p hp
  have := h p hp
  rw [Bool.and_eq_true] at this
  rw [e]
  have hv1 : ∀ a : SV, seqV is.length a = true → bnd is.length a = true := fun a this => by
    cases a <;> first | rfl | (exact decide_eq_true (Nat.le_of_ble_eq_true this)) | cases this
  have hv : ∀ l : List SV, l.all (seqV is.length) = true → l.all (bnd is.length) = true := fun l hl => by
    rw [List.all_eq_true] at hl ⊢
    intro a ha
    have := hl a ha
    cases a <;> first | rfl | (exact decide_eq_true (Nat.le_of_ble_eq_true this)) | cases this
  have hb : bndO is.length p.2 = true := by
    have hs := this.2
    cases hso : p.2 with
    | list l => rw [hso] at hs; exact hv l hs
    | tup l => rw [hso] at hs; exact hv l hs
    | inst C n => rw [hso] at hs; exact decide_eq_true (Nat.le_of_ble_eq_true hs)
    | dict es =>
      rw [hso] at hs
      have hs' : (es.all fun p => seqV is.length p.2) = true := hs
      refine (?_ : (es.all fun p => bnd is.length p.2) = true)
      rw [List.all_eq_true] at hs' ⊢
      intro a ha
      exact hv1 a.2 (hs' a ha)
    | _ => rw [hso] at hs; cases hs
  rw [(seqB_base (is := is) this.2).2.2.1, hb, decide_eq_true (show p.1 < is.length from Nat.le_of_ble_eq_true this.1)]
  rfl
end
section
variable {k : EC} {nm : Str → Option SV} {o rest objsl : List (Nat × SO)} {nx : Nat} {is : List Nat} {svsl outl : List SV}
/-- a call that is run by itself, on a few objects -/
theorem loc_call {f J N' : Nat} (hloc : callR (ev cfgN 60) cfgN f svsl objsl is.length = some (.ref J, (J, .list outl) :: objsl, N')) (hb : (objsl.all fun p => Nat.blt p.1 is.length && seqB is.length p.2) = true) (ho : outl.all (seqV is.length) = true) (hs : svsl.all (seqV is.length) = true)
    (hp : o.Perm (objsl.map (renP is) ++ rest)) (hin : ∀ ρ s, HE k ρ o s → ∀ j, j < is.length → ∃ a, ρ[is.getD j 0]? = some a) (hl : ∀ j, (k.X.S j).length ≤ 100) (hk : 61 ≤ k.b) :
    DC k nm o nx f (svsl.map (renV is)) (.ref nx) ((nx, .list (outl.map (renV is))) :: o) (nx + 1) := fun ok ρ s E vs hlen hn he hv => by
  have hR : ∃ ρl, Ren is ρl ρ := by
    have := hin ρ s he
    clear hloc hb ho hs hp hin hv
    induction is with
    | nil => exact ⟨[], rfl, fun j h => nomatch h⟩
    | cons g is ih =>
      obtain ⟨ρl, h1, h2⟩ := ih fun j hj => by simpa using this (j + 1) (by simpa using hj)
      obtain ⟨a, ha⟩ := this 0 (by simp)
      refine ⟨a :: ρl, by simp [h1], fun j hj => ?_⟩
      cases j with
      | zero => exact ⟨a, rfl, ha⟩
      | succ j => obtain ⟨b, g1, g2⟩ := h2 j (by simpa using hj); exact ⟨b, by simpa using g1, by simpa using g2⟩
  refine fold_ fun P_ hP_ => ?_
  obtain ⟨ρl, hR⟩ := hR
  obtain ⟨nd, nr, i1, i2, f1, f2⟩ := (he.perm hp).focus
  refine hP_ ?_
  have hd : DC (k.blk k.env (k.ext ++ nr)) (fun _ => none) _ _ f svsl _ _ _ := run_call (k := k.blk k.env (k.ext ++ nr)) (nm := fun _ => none) hloc hl hk
  refine wpAny_mono (hd (ok.blk _ _) ρl s E vs hR.1 (noNames _ _) (f1 ρl objsl (hR.into hb i1)) ((hR.isL hs).mpr hv)) (fun v s' ⟨ρ', p, l, ⟨b, g1, g2⟩, he', S⟩ => ?_) fun _ _ z => z
  refine fold_ fun P_ hP_ => ?_
  subst g2
  obtain ⟨nd', j1, j2⟩ := f2 ρ' _ s' he'
  obtain ⟨c, nd'', rfl, j3, j4⟩ := j1.invE
  obtain ⟨b', ob, rfl, g3, g4, _⟩ := j3.inv rfl
  rw [g1] at g3; cases g3
  refine hP_ ?_
  have p2 : ρ <+: ρ ++ [b] := pre_snoc
  have hR2 : Ren is ρl (ρ ++ [b]) := ⟨hR.1, fun j hj => by obtain ⟨a, h1, h2⟩ := hR.2 j hj; exact ⟨a, h1, pre_get p2 h2⟩⟩
  have hsh : IsObjs k.w k.X ρl objsl nd'' := j4.shrink p (seq_bnd hb hR.1)
  have hout : IsO k.w k.X (ρ ++ [b]) (.list (outl.map (renV is))) ob := by
    obtain ⟨vs, n, e, i⟩ := g4
    refine ⟨vs, n, e, (hR2.isL ho).mp (i.shrink p ?_)⟩
    rw [List.all_eq_true] at ho ⊢
    intro a ha
    have := ho a ha
    cases a <;> first | rfl | (exact decide_eq_true (by rw [hR.1]; exact Nat.le_of_ble_eq_true this)) | cases this
  have hq : IsObjs k.w k.X (ρ ++ [b]) ((nx, .list (outl.map (renV is))) :: objsl.map (renP is)) ([(b, ob)] ++ nd'') := .consE (.base (by rw [← hlen]; simp) ⟨hout, trivial⟩) (hR2.from hb hsh)
  have := j2 (ρ ++ [b]) _ _ p2 hq .refl
  exact ⟨ρ ++ [b], p2, by simp [hlen], is_new hlen, this.perm (hp.symm.cons _), S⟩
end
end Mine
end
section
namespace Mine
/-! ## How arguments are matched -/
noncomputable def tagV : Option Str → SV
  | none => .none
  | some x => .str x
noncomputable def loc1 (fs : List Str) (t : Option Str) : Ob := [(0, .list [.ref 2]), (1, .list (fs.map .str)), (2, .tup [tagV t, .ref 3])]
noncomputable def loc2 (fs : List Str) (t u : Option Str) : Ob := [(0, .list [.ref 2, .ref 3]), (1, .list (fs.map .str)), (2, .tup [tagV t, .ref 4]), (3, .tup [tagV u, .ref 5])]
noncomputable def outL (b : Nat) : List (Option Nat) → List SV
  | [] => []
  | none :: l => .none :: outL b l
  | some i :: l => .ref (b + i) :: outL b l
noncomputable def jOf : RE → Nat
  | some (.ref j, _, _) => j
  | _ => 0
noncomputable def nOf : RE → Nat
  | some (_, _, n) => n
  | _ => 0
noncomputable abbrev run1 (fs : List Str) (t : Option Str) : RE := callR (ev cfgN 60) cfgN 169 [.ref 0, .ref 1] (loc1 fs t) 4
noncomputable abbrev run2 (fs : List Str) (t u : Option Str) : RE := callR (ev cfgN 60) cfgN 169 [.ref 0, .ref 1] (loc2 fs t u) 6
noncomputable def Run1 (fs : List Str) (t : Option Str) (out : List (Option Nat)) : Prop := run1 fs t = some (.ref (jOf (run1 fs t)), (jOf (run1 fs t), .list (outL 3 out)) :: loc1 fs t, nOf (run1 fs t))
noncomputable def Run2 (fs : List Str) (t u : Option Str) (out : List (Option Nat)) : Prop := run2 fs t u = some (.ref (jOf (run2 fs t u)), (jOf (run2 fs t u), .list (outL 4 out)) :: loc2 fs t u, nOf (run2 fs t u))
theorem r1 : Run1 [sX] (some sX) [some 0] := by unfold Run1; kernel_rfl
theorem r2 : Run1 [sX] none [some 0] := by unfold Run1; kernel_rfl
theorem r3 : Run1 [sX, sEnvir] none [some 0, none] := by unfold Run1; kernel_rfl
theorem r4 : Run1 [sFun] none [some 0] := by unfold Run1; kernel_rfl
theorem r5 : Run1 [sFun] (some sFun) [some 0] := by unfold Run1; kernel_rfl
theorem r6 : Run1 [sFun, sEnvir] (some sFun) [some 0, none] := by unfold Run1; kernel_rfl
theorem r7 : Run2 [sFun, sEnvir, sValue] none (some sValue) [some 0, none, some 1] := by unfold Run2; kernel_rfl
theorem look_erase {m n : Nat} (h : m ≠ n) : ∀ {l : List (Nat × SO)}, (eraseO n l).lookup m = l.lookup m
  | [] => rfl
  | (k, so) :: l => by
    unfold eraseO
    rw [List.lookup_cons]
    by_cases e : n = k
    · rw [if_pos e]
      have : (m == k) = false := by rw [beq_eq_false_iff_ne]; exact fun q => h (q.trans e.symm)
      rw [this]
    · rw [if_neg e, List.lookup_cons, look_erase h]
section
variable {k : EC} {nm : Str → Option SV} {o : List (Nat × SO)} {nx n m t u v v' : Nat} {fs : List Str} {τ τ' : Option Str} {out : List (Option Nat)}
theorem has_key {ρ : List Addr} {s : Shared} {so : SO} (he : HE k ρ o s) (h : o.lookup n = some so) (hb : so.base = true) : ∃ a, ρ[n]? = some a := by
  obtain ⟨n', io, _, _⟩ := he.N
  obtain ⟨a, _, g, _⟩ := io.find h hb
  exact ⟨a, g⟩
theorem has_val {ρ : List Addr} {s : Shared} {a : SV} (he : HE k ρ o s) (h : o.lookup t = some (.tup [a, .ref v])) : ∃ a, ρ[v]? = some a := by
  refine fold_ fun P_ hP_ => ?_
  obtain ⟨n', io, _, _⟩ := he.N
  obtain ⟨_, _, _, _, vs, c, _, hl⟩ := io.find h
  obtain ⟨x, y, rfl, _, ⟨b, hb, _⟩⟩ := hl.inv2
  refine hP_ ?_
  exact ⟨b, hb⟩
theorem renStr {is : List Nat} : ∀ {fs : List Str}, (fs.map SV.str).map (renV is) = fs.map .str
  | [] => rfl
  | x :: fs => by rw [List.map_cons, List.map_cons, renStr]; rfl
theorem strB {b : Nat} : ∀ {fs : List Str}, (fs.map SV.str).all (seqV b) = true
  | [] => rfl
  | x :: fs => by rw [List.map_cons, List.all_cons, strB]; rfl
theorem renTag {is : List Nat} {τ : Option Str} : renV is (tagV τ) = tagV τ := by cases τ <;> rfl
theorem tagB {b : Nat} {τ : Option Str} : seqV b (tagV τ) = true := by cases τ <;> rfl
theorem take1 (hr : Run1 fs τ out) (ho : (outL 3 out).all (seqV 4) = true) (hf : fs ≠ []) (h1 : o.lookup n = some (.list [.ref t])) (h2 : o.lookup m = some (.list (fs.map .str))) (h3 : o.lookup t = some (.tup [tagV τ, .ref v])) (hl : ∀ j, (k.X.S j).length ≤ 100) (hk : 61 ≤ k.b) :
    DC k nm o nx 169 [.ref n, .ref m] (.ref nx) ((nx, .list ((outL 3 out).map (renV [n, m, t, v]))) :: o) (nx + 1) := by
  have e1 : m ≠ n := fun e => by
    rw [e, h1] at h2
    cases fs with
    | nil => exact hf rfl
    | cons x fs => cases h2
  have e2 : t ≠ n := fun e => by rw [e, h1] at h3; cases h3
  have e3 : t ≠ m := fun e => by rw [e, h2] at h3; cases h3
  have p1 := perm_look h1
  have p2 := perm_look ((look_erase e1).trans h2)
  have p3 := perm_look (((look_erase e3).trans (look_erase e2)).trans h3)
  refine loc_call (rest := eraseO t (eraseO m (eraseO n o))) (is := [n, m, t, v]) (svsl := [.ref 0, .ref 1]) (objsl := loc1 fs τ) hr ?_ ho rfl ?_ ?_ hl hk
  · refine (?_ : ((Nat.blt 0 4 && true) && ((Nat.blt 1 4 && (fs.map SV.str).all (seqV 4)) && ((Nat.blt 2 4 && (seqV 4 (tagV τ) && true)) && true))) = true)
    rw [strB, tagB]; rfl
  · have : (loc1 fs τ).map (renP [n, m, t, v]) = [(n, .list [.ref t]), (m, .list (fs.map .str)), (t, .tup [tagV τ, .ref v])] := by
      refine (?_ : [(n, SO.list [.ref t]), (m, SO.list ((fs.map SV.str).map (renV [n, m, t, v]))), (t, SO.tup [renV [n, m, t, v] (tagV τ), .ref v])] = _)
      rw [renStr, renTag]
    rw [this]
    exact p1.trans ((p2.trans (p3.cons _)).cons _)
  · intro ρ s he j hj
    match j, hj with
    | 0, _ => exact has_key he h1 rfl
    | 1, _ => exact has_key he h2 rfl
    | 2, _ => exact has_key he h3 rfl
    | 3, _ => exact has_val he h3
    | j + 4, hj => exact absurd hj (by show ¬ j + 4 < 4; omega)
theorem take2 (hr : Run2 fs τ τ' out) (ho : (outL 4 out).all (seqV 6) = true) (hf : fs ≠ []) (h1 : o.lookup n = some (.list [.ref t, .ref u])) (h2 : o.lookup m = some (.list (fs.map .str))) (h3 : o.lookup t = some (.tup [tagV τ, .ref v])) (h4 : o.lookup u = some (.tup [tagV τ', .ref v'])) (ht : tagV τ ≠ tagV τ') (hl : ∀ j, (k.X.S j).length ≤ 100) (hk : 61 ≤ k.b) :
    DC k nm o nx 169 [.ref n, .ref m] (.ref nx) ((nx, .list ((outL 4 out).map (renV [n, m, t, u, v, v']))) :: o) (nx + 1) := by
  have e1 : m ≠ n := fun e => by
    rw [e, h1] at h2
    cases fs with
    | nil => exact hf rfl
    | cons x fs => cases h2
  have e2 : t ≠ n := fun e => by rw [e, h1] at h3; cases h3
  have e3 : t ≠ m := fun e => by rw [e, h2] at h3; cases h3
  have e4 : u ≠ n := fun e => by rw [e, h1] at h4; cases h4
  have e5 : u ≠ m := fun e => by rw [e, h2] at h4; cases h4
  have e6 : u ≠ t := fun e => by rw [e, h3] at h4; injection h4 with h4; injection h4 with h4; injection h4 with h4; exact ht h4
  have p1 := perm_look h1
  have p2 := perm_look ((look_erase e1).trans h2)
  have p3 := perm_look (((look_erase e3).trans (look_erase e2)).trans h3)
  have p4 := perm_look ((((look_erase e6).trans (look_erase e5)).trans (look_erase e4)).trans h4)
  refine loc_call (rest := eraseO u (eraseO t (eraseO m (eraseO n o)))) (is := [n, m, t, u, v, v']) (svsl := [.ref 0, .ref 1]) (objsl := loc2 fs τ τ') hr ?_ ho rfl ?_ ?_ hl hk
  · refine (?_ : ((Nat.blt 0 6 && true) && ((Nat.blt 1 6 && (fs.map SV.str).all (seqV 6)) && ((Nat.blt 2 6 && (seqV 6 (tagV τ) && true)) && ((Nat.blt 3 6 && (seqV 6 (tagV τ') && true)) && true)))) = true)
    rw [strB, tagB, tagB]; rfl
  · have : (loc2 fs τ τ').map (renP [n, m, t, u, v, v']) = [(n, .list [.ref t, .ref u]), (m, .list (fs.map .str)), (t, .tup [tagV τ, .ref v]), (u, .tup [tagV τ', .ref v'])] := by
      refine (?_ : [(n, SO.list [.ref t, .ref u]), (m, SO.list ((fs.map SV.str).map (renV [n, m, t, u, v, v']))), (t, SO.tup [renV [n, m, t, u, v, v'] (tagV τ), .ref v]), (u, SO.tup [renV [n, m, t, u, v, v'] (tagV τ'), .ref v'])] = _)
      rw [renStr, renTag, renTag]
    rw [this]
    exact p1.trans ((p2.trans ((p3.trans (p4.cons _)).cons _)).cons _)
  · intro ρ s he j hj
    match j, hj with
    | 0, _ => exact has_key he h1 rfl
    | 1, _ => exact has_key he h2 rfl
    | 2, _ => exact has_key he h3 rfl
    | 3, _ => exact has_key he h4 rfl
    | 4, _ => exact has_val he h3
    | 5, _ => exact has_val he h4
    | j + 6, hj => exact absurd hj (by show ¬ j + 6 < 6; omega)
end
section
variable {k : EC} {nm : Str → Option SV} {o o' : List (Nat × SO)} {nx n' n m : Nat} {r : SV}
theorem eqFs_ok : ∀ {xs : List Str} {l : List SV}, eqFs xs l = true → l = xs.map .str
  | [], [], _ => rfl
  | [], _ :: _, h => nomatch h
  | _ :: _, [], h => nomatch h
  | x :: xs, a :: l, h => by
    cases a with
    | str y =>
      simp only [eqFs] at h
      refine inv_bT h ?_
      clear h; intro h h1
      rw [List.map_cons, eqFs_ok h, seq_iff.mp h1]
    | _ => cases h
theorem eqTg_ok : ∀ {xs : List (Option Str)} {l : List (SV × Nat)}, eqTg xs l = true → l.map (·.1) = xs.map tagV
  | [], [], _ => rfl
  | [], _ :: _, h => nomatch h
  | _ :: _, [], h => by rename_i x xs; cases x <;> cases h
  | x :: xs, (a, v) :: l, h => by
    cases x with
    | none => cases a with
      | none => rw [List.map_cons, List.map_cons, eqTg_ok (xs := xs) (l := l) h]; rfl
      | _ => cases h
    | some x => cases a with
      | str y =>
        simp only [eqTg] at h
        refine inv_bT h ?_
        clear h; intro h h1
        rw [List.map_cons, List.map_cons, eqTg_ok h, seq_iff.mp h1]
        rfl
      | _ => cases h
theorem rowO_ok {t v : Nat} {a : SV} (h : rowO (lkN o t) = some (a, v)) : o.lookup t = some (.tup [a, .ref v]) := by
  rw [lkN_eq] at h
  refine inv_o h ?_; clear h; intro so h hh
  refine inv_st h ?_; clear h; intro l h e0; subst e0
  refine inv_o2 h ?_; clear h; intro a' b h h1
  refine inv_rf h ?_; clear h; intro v' h e0; subst e0
  cases h
  rw [hh, two_eq h1]
theorem rowsO_cons {l : List SV} {rows : List (SV × Nat)} (h : rowsO o l = some rows) : (l = [] ∧ rows = []) ∨ ∃ t l' a v rows', l = .ref t :: l' ∧ rows = (a, v) :: rows' ∧ o.lookup t = some (.tup [a, .ref v]) ∧ rowsO o l' = some rows' := by
  cases l with
  | nil => cases h; exact .inl ⟨rfl, rfl⟩
  | cons b l =>
    refine inv_rf h ?_; clear h; intro t h e0; subst e0
    refine inv_o h ?_; clear h; intro p h h1; obtain ⟨a, v⟩ := p
    refine inv_o h ?_
    clear h; intro r h h2
    cases h
    exact .inr ⟨t, l, a, v, r, rfl, rfl, rowO_ok h1, h2⟩
theorem takeF_ok {p : TakeP} {fs : List SV} {rows : List (SV × Nat)} : ∀ {tab : List TakeP}, takeF tab fs rows = some p → p ∈ tab ∧ fs = p.fs.map .str ∧ rows.map (·.1) = p.ts.map tagV
  | [], h => nomatch h
  | q :: tab, h => by
    unfold takeF at h
    cases h1 : eqFs q.fs fs with
    | false => rw [h1] at h; obtain ⟨a, b⟩ := takeF_ok h; exact ⟨.tail _ a, b⟩
    | true =>
      rw [h1] at h
      dsimp only at h
      cases h2 : eqTg q.ts rows with
      | false => rw [h2] at h; obtain ⟨a, b⟩ := takeF_ok h; exact ⟨.tail _ a, b⟩
      | true => rw [h2] at h; cases h; exact ⟨.head _, eqFs_ok h1, eqTg_ok h2⟩
theorem takeP1 {p : TakeP} {args : List SV} {rows : List (SV × Nat)} {τ : Option Str} (hp : p.ts = [τ]) (hr : Run1 p.fs τ p.out) (ho : (outL 3 p.out).all (seqV 4) = true) (hf : p.fs ≠ []) (hpick : ∀ n m t v a, (outL 3 p.out).map (renV [n, m, t, v]) = pickT [(a, v)] p.out)
    (h1 : o.lookup n = some (.list args)) (h2 : o.lookup m = some (.list (p.fs.map .str))) (h3 : rowsO o args = some rows) (h4 : rows.map (·.1) = p.ts.map tagV) (hl : ∀ j, (k.X.S j).length ≤ 100) (hk : 61 ≤ k.b) :
    DC k nm o nx 169 [.ref n, .ref m] (.ref nx) ((nx, .list (pickT rows p.out)) :: o) (nx + 1) := by
  rw [hp] at h4
  rcases rowsO_cons h3 with ⟨_, rfl⟩ | ⟨t, l', a, v, rows', rfl, rfl, g1, g2⟩
  · cases h4
  · rcases rowsO_cons g2 with ⟨rfl, rfl⟩ | ⟨_, _, _, _, _, rfl, rfl, _, _⟩
    · have ea : a = tagV τ := by injection h4
      subst ea
      have := take1 (k := k) (nm := nm) (nx := nx) hr ho hf h1 h2 g1 hl hk
      rw [hpick n m t v (tagV τ)] at this
      exact this
    · cases h4
theorem takeP2 {p : TakeP} {args : List SV} {rows : List (SV × Nat)} {τ τ' : Option Str} (hp : p.ts = [τ, τ']) (hr : Run2 p.fs τ τ' p.out) (ho : (outL 4 p.out).all (seqV 6) = true) (hf : p.fs ≠ []) (ht : tagV τ ≠ tagV τ') (hpick : ∀ n m t u v v' a b, (outL 4 p.out).map (renV [n, m, t, u, v, v']) = pickT [(a, v), (b, v')] p.out)
    (h1 : o.lookup n = some (.list args)) (h2 : o.lookup m = some (.list (p.fs.map .str))) (h3 : rowsO o args = some rows) (h4 : rows.map (·.1) = p.ts.map tagV) (hl : ∀ j, (k.X.S j).length ≤ 100) (hk : 61 ≤ k.b) :
    DC k nm o nx 169 [.ref n, .ref m] (.ref nx) ((nx, .list (pickT rows p.out)) :: o) (nx + 1) := by
  rw [hp] at h4
  rcases rowsO_cons h3 with ⟨_, rfl⟩ | ⟨t, l', a, v, rows', rfl, rfl, g1, g2⟩
  · cases h4
  · rcases rowsO_cons g2 with ⟨rfl, rfl⟩ | ⟨u, l'', b, v', rows'', rfl, rfl, g3, g4⟩
    · cases h4
    · rcases rowsO_cons g4 with ⟨rfl, rfl⟩ | ⟨_, _, _, _, _, rfl, rfl, _, _⟩
      · have ea : a = tagV τ := by injection h4
        have eb : b = tagV τ' := by injection h4 with _ h4; injection h4
        subst ea; subst eb
        have := take2 (k := k) (nm := nm) (nx := nx) hr ho hf h1 h2 g1 g3 ht hl hk
        rw [hpick n m t u v v' (tagV τ) (tagV τ')] at this
        exact this
      · cases h4
theorem take_ok (h : takeH o nx n m = some (r, o', n')) (hl : ∀ j, (k.X.S j).length ≤ 100) (hk : 61 ≤ k.b) : DC k nm o nx 169 [.ref n, .ref m] r o' n' := by
  refine inv_o h ?_; clear h; intro so h h1
  refine inv_sl h ?_; clear h; intro args h e0; subst e0
  refine inv_o h ?_; clear h; intro so' h h2
  refine inv_sl h ?_; clear h; intro fs h e0; subst e0
  refine inv_o h ?_; clear h; intro rows h h3
  refine inv_o h ?_; clear h; intro p h h4
  cases h
  obtain ⟨g1, rfl, g3⟩ := takeF_ok h4
  rw [lkN_eq] at h1 h2
  have key : ∀ p ∈ takeTab, o.lookup m = some (.list (p.fs.map .str)) → rows.map (·.1) = p.ts.map tagV → DC k nm o nx 169 [.ref n, .ref m] (.ref nx) ((nx, .list (pickT rows p.out)) :: o) (nx + 1) := by
    unfold takeTab
    refine List.forall_mem_cons.mpr ⟨fun a b => takeP1 rfl r1 rfl (by decide) (fun _ _ _ _ _ => rfl) h1 a h3 b hl hk, ?_⟩
    refine List.forall_mem_cons.mpr ⟨fun a b => takeP1 rfl r2 rfl (by decide) (fun _ _ _ _ _ => rfl) h1 a h3 b hl hk, ?_⟩
    refine List.forall_mem_cons.mpr ⟨fun a b => takeP1 rfl r3 rfl (by decide) (fun _ _ _ _ _ => rfl) h1 a h3 b hl hk, ?_⟩
    refine List.forall_mem_cons.mpr ⟨fun a b => takeP1 rfl r4 rfl (by decide) (fun _ _ _ _ _ => rfl) h1 a h3 b hl hk, ?_⟩
    refine List.forall_mem_cons.mpr ⟨fun a b => takeP1 rfl r5 rfl (by decide) (fun _ _ _ _ _ => rfl) h1 a h3 b hl hk, ?_⟩
    refine List.forall_mem_cons.mpr ⟨fun a b => takeP1 rfl r6 rfl (by decide) (fun _ _ _ _ _ => rfl) h1 a h3 b hl hk, ?_⟩
    refine List.forall_mem_cons.mpr ⟨fun a b => takeP2 rfl r7 rfl (by decide) (by simp [tagV]) (fun _ _ _ _ _ _ _ _ => rfl) h1 a h3 b hl hk, List.forall_mem_nil _⟩
  exact key p g1 h2 g3
end
end Mine
end
section
namespace Mine
noncomputable def ArgC (w : World) (c : Cfg) : Prop := ∀ o n j nx, lkN o n = some (.shelf j) → getOp c.ops j = some .arg → ∀ (k : EC) nm, k.w = w → Orc c k.X → c.mg ≤ k.b → DC k nm o nx 472 [.ref n] (.ref nx) ((nx, .item j) :: stN n (.shelf (j + 1)) o) (nx + 1)
theorem hook1_ok {w : World} {c : Cfg} {f n : Nat} {o o' : Ob} {nx n' : Nat} {r : SV} {k : EC} {nm : Str → Option SV} (ha : ArgC w c) (hw : k.w = w) (ho : Orc c k.X) (hm : 61 ≤ c.mg) (hb : c.mg ≤ k.b) (h : hook1 c f n o nx = some (r, o', n')) : DC k nm o nx f [.ref n] r o' n' := by
  unfold hook1 at h
  cases h1 : Nat.beq f 359 with
  | true =>
    rw [h1] at h
    rw [Nat.eq_of_beq_eq_true h1]
    refine inv_o h ?_; clear h; intro so h h2
    refine inv_item h ?_; clear h; intro i h e0; subst e0
    cases h; exact share_ok h2 ho.len (by omega)
  | false =>
    rw [h1] at h
    dsimp only at h
    cases h2 : Nat.beq f 477 with
    | true =>
      rw [h2] at h
      rw [Nat.eq_of_beq_eq_true h2]
      refine inv_o h ?_; clear h; intro so h h3
      refine inv_item h ?_; clear h; intro i h e0; subst e0
      cases h; exact shown_ok h3 ho.len (by omega)
    | false =>
      rw [h2] at h
      dsimp only at h
      refine inv_b h ?_
      clear h; intro h h3
      rw [Nat.eq_of_beq_eq_true h3]
      refine inv_o h ?_; clear h; intro so h h4
      refine inv_ss h ?_; clear h; intro j h e0; subst e0
      refine inv_o h ?_; clear h; intro op h h5
      refine inv_oa h ?_; clear h; intro h e0; subst e0
      cases h; exact ha o n j nx h4 h5 k nm hw ho hb
theorem hook2_ok {c : Cfg} {f n : Nat} {b : Int} {o o' : Ob} {nx n' : Nat} {r : SV} {k : EC} {nm : Str → Option SV} (ho : Orc c k.X) (hm : 61 ≤ c.mg) (hb : c.mg ≤ k.b) (h : hook2 c f n b o nx = some (r, o', n')) : DC k nm o nx f [.ref n, .int b] r o' n' := by
  unfold hook2 at h
  refine inv_b h ?_
  clear h; intro h h1
  rw [Nat.eq_of_beq_eq_true h1]
  refine inv_o h ?_; clear h; intro so h h2
  refine inv_ss h ?_; clear h; intro j h e0; subst e0
  refine inv_o h ?_; clear h; intro op h h3
  refine inv_og h ?_; clear h; intro b' g h e0; subst e0
  refine inv_b h ?_; clear h; intro h h4
  cases h
  have e : b = b' := of_decide_eq_true h4
  subst e
  have := ho.op j _ h3
  exact grab_ok h2 ho.len this.1 this.2 (by omega)
theorem hookS (w : World) (c : Cfg) (ha : ArgC w c) (hm : 61 ≤ c.mg) : HookS w c := by
  refine ⟨fun f svs o nx r o' n' h k nm hw ho hb => ?_, fun cx o nx e e' r o' n' h k pos hw ho hb => tag_ok h ho (by omega), fun o n i hi k nm nx hw => kind_ok hi, fun cx o nx e h k hw => nameless_ok h⟩
  unfold hook at h
  refine inv_b h ?_
  clear h; intro h h0
  cases svs with
  | nil => cases h
  | cons a l => cases a with
    | ref n => cases l with
      | nil => exact hook1_ok ha hw ho hm hb h
      | cons b l => cases b with
        | int b => cases l with
          | nil => exact hook2_ok ho hm hb h
          | cons _ _ => cases h
        | ref m => cases l with
          | nil =>
            have h' : hook3 f n m o nx = some (r, o', n') := h
            unfold hook3 at h'
            refine inv_b h' ?_
            clear h'; intro h' h1
            rw [Nat.eq_of_beq_eq_true h1]
            exact take_ok h' ho.len (by omega)
          | cons _ _ => cases h
        | _ => cases l <;> cases h
    | _ => cases h
/-! ## How an argument is drawn -/
noncomputable def cfgA (ops : List Op) : Cfg := ⟨fnTab, iniTab, ops, true, 61⟩
theorem argA (w : World) {ops : List Op} (h : ∀ j, getOp ops j ≠ some .arg) : ArgC w (cfgA ops) := fun o n j nx _ h2 => absurd h2 (h j)
theorem runA {k : EC} {nm : Str → Option SV} {ops : List Op} {f nx n' : Nat} {svs : List SV} {v : SV} {o o' : Ob} (hops : ∀ j, getOp ops j ≠ some .arg) (h : callR (ev (cfgA ops) 60) (cfgA ops) f svs o nx = some (v, o', n')) (ho : Orc (cfgA ops) k.X) (hb : 122 ≤ k.b) : DC k nm o nx f svs v o' n' :=
  callR_ok (tabS k.w ops true 61) (hookS k.w (cfgA ops) (argA k.w hops) (Nat.le_refl _)) (ev_ok (tabS k.w ops true 61) (hookS k.w (cfgA ops) (argA k.w hops) (Nat.le_refl _)) 60) rfl ho (by show 60 + 61 + 1 ≤ k.b; omega) h
/-- what is asked of the shelf for an argument -/
noncomputable def opsOf : ItemD → Int → List Op
  | .int _, g => [.grab 4 0, .grab 9 g]
  | .chr _, g => [.grab 4 1, .grab 3 g]
  | .sym _, g => [.grab 4 2, .grab 3 g]
  | _, _ => [.grab 4 3]
/-- its objects, as the run numbers them -/
noncomputable def isOf : ItemD → List Nat
  | .int _ => [3, 2, 1]
  | .chr _ => [3, 2, 1]
  | .sym _ => [2, 1]
  | .miss => [2, 1]
  | .call => [8, 7, 5, 6, 2, 1, 4, 3]
noncomputable abbrev runArg (d : ItemD) (g : Int) : RE := callR (ev (cfgA (opsOf d g)) 60) (cfgA (opsOf d g)) 472 [.ref 0] [(0, .shelf 0)] 1
end Mine
end
section
namespace Mine
noncomputable def argL (d : ItemD) : List (Nat × SO) := (itemO d false).map (renP (isOf d))
/-- in the run's order -/
noncomputable def runL : ItemD → List (Nat × SO)
  | .call => match argL .call with
    | [a, b, c, d, e, f, g, h] => [a, b, d, c, g, h, e, f]
    | l => l
  | d => argL d
noncomputable def shO : ItemD → Nat
  | .call => 1
  | _ => 2
noncomputable def jA : ItemD → Nat
  | .int _ => 3
  | .chr _ => 3
  | .sym _ => 2
  | .miss => 2
  | .call => 8
theorem runL_perm (d : ItemD) : (argL d).Perm (runL d) := by
  cases d with
  | call => exact List.Perm.cons _ (List.Perm.cons _ ((List.Perm.swap _ _ _).trans (List.Perm.cons _ (List.Perm.cons _ (List.perm_append_comm (l₁ := [_, _]) (l₂ := [_, _]))))))
  | _ => exact List.Perm.refl _
noncomputable def RunA (d : ItemD) (g : Int) : Prop := runArg d g = some (.ref (jA d), runL d ++ [(0, .shelf (shO d))], jA d + 1)
theorem ra_int (g : Int) : RunA (.int g) g := by unfold RunA; kernel_rfl
theorem ra_chr0 : RunA (.chr (Str.ofString "a")) 0 := by unfold RunA; kernel_rfl
theorem ra_chr1 : RunA (.chr (Str.ofString "b")) 1 := by unfold RunA; kernel_rfl
theorem ra_chr2 : RunA (.chr (Str.ofString "c")) 2 := by unfold RunA; kernel_rfl
theorem ra_sym0 : RunA (.sym (Str.ofString "x")) 0 := by unfold RunA; kernel_rfl
theorem ra_sym1 : RunA (.sym (Str.ofString "y")) 1 := by unfold RunA; kernel_rfl
theorem ra_sym2 : RunA (.sym (Str.ofString "z")) 2 := by unfold RunA; kernel_rfl
theorem ra_call : RunA .call 0 := by unfold RunA; kernel_rfl
theorem grab_range {S : List Int} {b : Int} (hb : 0 < b) : 0 ≤ (grabR S b).1 ∧ (grabR S b).1 < b := by
  cases S with
  | nil => exact ⟨Int.le_refl 0, hb⟩
  | cons x l => exact ⟨Int.fmod_nonneg_of_pos x hb, Int.fmod_lt_of_pos x hb⟩
theorem grab_len {S : List Int} {b : Int} : (grabR S b).2.length ≤ S.length := by
  cases S with
  | nil => exact Nat.le_refl _
  | cons x l => exact Nat.le_succ _
/-- the shelf while one argument is drawn -/
noncomputable def SH3 (S : List Int) : Nat → List Int
  | 0 => S
  | 1 => (grabR S 4).2
  | _ => (argR S).2
theorem arg_len {S : List Int} : (argR S).2.length ≤ S.length := by
  have h4 := @grab_len S 4
  unfold argR
  split
  · exact Nat.le_trans grab_len h4
  · split
    · exact Nat.le_trans grab_len h4
    · split
      · exact Nat.le_trans grab_len h4
      · exact h4
theorem SH3_len {S : List Int} (h : S.length ≤ 100) : ∀ i, (SH3 S i).length ≤ 100
  | 0 => h
  | 1 => Nat.le_trans grab_len h
  | _ + 2 => Nat.le_trans arg_len h
theorem str97 : PyData.strOk (Str.ofString "a") = true ∧ PyData.strOk (Str.ofString "b") = true ∧ PyData.strOk (Str.ofString "c") = true ∧ PyData.strOk (Str.ofString "x") = true ∧ PyData.strOk (Str.ofString "y") = true ∧ PyData.strOk (Str.ofString "z") = true := by decide +kernel
theorem strNe : Str.ofString "x" ≠ Str.ofString "" ∧ Str.ofString "y" ≠ Str.ofString "" ∧ Str.ofString "z" ≠ Str.ofString "" := by decide +kernel
/-- what is drawn, and how -/
theorem arg_cases (S : List Int) (V : Nat → ItemD) (O : Nat → Obj) (hS : S.length ≤ 100) : ∃ d g, (argR S).1 = d ∧ okD d ∧ RunA d g ∧ Orc (cfgA (opsOf d g)) ⟨V, O, SH3 S⟩ ∧ (∀ j, getOp (opsOf d g) j ≠ some .arg) ∧ SH3 S (shO d) = (argR S).2 := by
  have r4 := @grab_range S 4 (by decide)
  have orc2 : ∀ {b g g1 : Int}, 0 < b → (grabR S 4).1 = g1 → grabR (grabR S 4).2 b = (g, (argR S).2) → ∀ {ops : List Op}, ops = [.grab 4 g1, .grab b g] → Orc (cfgA ops) ⟨V, O, SH3 S⟩ ∧ ∀ j, getOp ops j ≠ some .arg := fun {b g g1} hb h1 h2 {ops} e => by
    subst e
    refine ⟨⟨SH3_len hS, fun j op h => ?_⟩, fun j h => ?_⟩
    · match j, h with
      | 0, h => cases h; exact ⟨by decide, Prod.ext h1 rfl⟩
      | 1, h => cases h; exact ⟨hb, h2⟩
      | _ + 2, h => cases h
    · match j, h with
      | 0, h => cases h
      | 1, h => cases h
      | _ + 2, h => cases h
  by_cases h0 : (grabR S 4).1 = 0
  · have e : argR S = (.int (grabR (grabR S 4).2 9).1, (grabR (grabR S 4).2 9).2) := by unfold argR; rw [if_pos h0]
    obtain ⟨a, b⟩ := orc2 (b := 9) (g := (grabR (grabR S 4).2 9).1) (by decide) h0 (by rw [e]) (ops := opsOf (.int (grabR (grabR S 4).2 9).1) (grabR (grabR S 4).2 9).1) rfl
    exact ⟨.int (grabR (grabR S 4).2 9).1, (grabR (grabR S 4).2 9).1, by rw [e], trivial, ra_int _, a, b, rfl⟩
  · have r3 := @grab_range (grabR S 4).2 3 (by decide)
    have c3 : (grabR (grabR S 4).2 3).1 = 0 ∨ (grabR (grabR S 4).2 3).1 = 1 ∨ (grabR (grabR S 4).2 3).1 = 2 := by omega
    by_cases h1 : (grabR S 4).1 = 1
    · have e2 : (argR S).2 = (grabR (grabR S 4).2 3).2 := by unfold argR; rw [if_neg h0, if_pos h1]
      have e1 : (argR S).1 = .chr (if (grabR (grabR S 4).2 3).1 = 0 then Str.ofString "a" else if (grabR (grabR S 4).2 3).1 = 1 then Str.ofString "b" else Str.ofString "c") := by unfold argR; rw [if_neg h0, if_pos h1]
      have go : ∀ {z : Str} {g : Int}, (grabR (grabR S 4).2 3).1 = g → (argR S).1 = .chr z → PyData.strOk z = true → RunA (.chr z) g → ∃ d g, (argR S).1 = d ∧ okD d ∧ RunA d g ∧ Orc (cfgA (opsOf d g)) ⟨V, O, SH3 S⟩ ∧ (∀ j, getOp (opsOf d g) j ≠ some .arg) ∧ SH3 S (shO d) = (argR S).2 := fun {z g} hg hz hk hr => by
        obtain ⟨a, b⟩ := orc2 (b := 3) (g := g) (by decide) h1 (by rw [e2, ← hg]) (ops := opsOf (.chr z) g) rfl
        exact ⟨_, g, hz, hk, hr, a, b, rfl⟩
      rcases c3 with c | c | c
      · exact go c (by rw [e1, if_pos c]) str97.1 ra_chr0
      · exact go c (by rw [e1, if_neg (by omega), if_pos c]) str97.2.1 ra_chr1
      · exact go c (by rw [e1, if_neg (by omega), if_neg (by omega)]) str97.2.2.1 ra_chr2
    · by_cases h2 : (grabR S 4).1 = 2
      · have e2 : (argR S).2 = (grabR (grabR S 4).2 3).2 := by unfold argR; rw [if_neg h0, if_neg h1, if_pos h2]
        have e1 : (argR S).1 = .sym (if (grabR (grabR S 4).2 3).1 = 0 then Str.ofString "x" else if (grabR (grabR S 4).2 3).1 = 1 then Str.ofString "y" else Str.ofString "z") := by unfold argR; rw [if_neg h0, if_neg h1, if_pos h2]
        have go : ∀ {z : Str} {g : Int}, (grabR (grabR S 4).2 3).1 = g → (argR S).1 = .sym z → PyData.strOk z = true → z ≠ Str.ofString "" → RunA (.sym z) g → ∃ d g, (argR S).1 = d ∧ okD d ∧ RunA d g ∧ Orc (cfgA (opsOf d g)) ⟨V, O, SH3 S⟩ ∧ (∀ j, getOp (opsOf d g) j ≠ some .arg) ∧ SH3 S (shO d) = (argR S).2 := fun {z g} hg hz hk hne hr => by
          obtain ⟨a, b⟩ := orc2 (b := 3) (g := g) (by decide) h2 (by rw [e2, ← hg]) (ops := opsOf (.sym z) g) rfl
          exact ⟨_, g, hz, ⟨hk, hne⟩, hr, a, b, rfl⟩
        rcases c3 with c | c | c
        · exact go c (by rw [e1, if_pos c]) str97.2.2.2.1 strNe.1 ra_sym0
        · exact go c (by rw [e1, if_neg (by omega), if_pos c]) str97.2.2.2.2.1 strNe.2.1 ra_sym1
        · exact go c (by rw [e1, if_neg (by omega), if_neg (by omega)]) str97.2.2.2.2.2 strNe.2.2 ra_sym2
      · have h3 : (grabR S 4).1 = 3 := by omega
        have e : argR S = (.call, (grabR S 4).2) := by unfold argR; rw [if_neg h0, if_neg h1, if_neg h2]
        refine ⟨.call, 0, by rw [e], trivial, ra_call, ⟨SH3_len hS, fun j op h => ?_⟩, fun j h => ?_, by rw [e]; rfl⟩
        · match j, h with
          | 0, h => cases h; exact ⟨by decide, Prod.ext h3 rfl⟩
          | _ + 1, h => cases h
        · match j, h with
          | 0, h => cases h
          | _ + 1, h => cases h
end Mine
end
section
namespace Mine
theorem HE.reX {k : EC} {ρ : List Addr} {objs objs' : List (Nat × SO)} {s : Shared} {X' : Xp} (he : HE k ρ objs s) (h : ∀ n', IsObjs k.w k.X ρ objs n' → IsObjs k.w X' ρ objs' n') : HE (k.withX X') ρ objs' s := by
  obtain ⟨n', io, N, d⟩ := he.N
  exact ⟨he.F, n', h n' io, N, d⟩
theorem perm_set {n : Nat} {so so' : SO} : ∀ {l : List (Nat × SO)}, l.lookup n = some so → (setO n so' l).Perm ((n, so') :: eraseO n l)
  | [], h => nomatch h
  | (m, o) :: l, h => by
    rw [setO_cons]
    unfold eraseO
    rcases look_cons h with ⟨rfl, rfl⟩ | ⟨hn, e⟩
    · rw [if_pos rfl, if_pos rfl]
    · rw [if_neg hn, if_neg hn]
      exact ((perm_set e).cons (m, o)).trans (.swap ..)
theorem mk_ren {ρ : List Addr} : ∀ {is : List Nat}, (∀ i ∈ is, i < ρ.length) → ∃ ρi, Ren is ρi ρ
  | [], _ => ⟨[], rfl, fun j h => nomatch h⟩
  | i :: is, h => by
    obtain ⟨ρi, h1, h2⟩ := mk_ren (ρ := ρ) (is := is) fun j hj => h j (.tail _ hj)
    have hi := h i (.head _)
    refine ⟨ρ[i] :: ρi, by simp [h1], fun j hj => ?_⟩
    cases j with
    | zero => exact ⟨ρ[i], rfl, List.getElem?_eq_getElem hi⟩
    | succ j => obtain ⟨b, g1, g2⟩ := h2 j (by simpa using hj); exact ⟨b, by simpa using g1, by simpa using g2⟩
theorem isOf_lt (d : ItemD) : ∀ i ∈ isOf d, i < jA d + 1 := by cases d <;> simp [isOf, jA]
theorem isOf_len (d : ItemD) : (isOf d).length = (itemO d false).length := by cases d <;> rfl
theorem isOf_0 (d : ItemD) : (isOf d).getD 0 0 = jA d ∧ 0 < (isOf d).length := by cases d <;> exact ⟨rfl, Nat.zero_lt_succ _⟩
theorem itemO_seq (d : ItemD) : ((itemO d false).all fun p => Nat.blt p.1 (isOf d).length && seqB (isOf d).length p.2) = true := by cases d <;> rfl
theorem arg_ok {w : World} {c : Cfg} (hm : 122 ≤ c.mg) : ArgC w c := by
  intro o n j nx hi hop k nm hw ho hb ok ρ s E vs hlen hn he hv
  have hA : argR (k.X.S j) = (k.X.V j, k.X.S (j + 1)) := ho.op j _ hop
  rw [lkN_eq] at hi
  rw [stN_eq]
  refine fold_ fun P_ hP_ => ?_
  obtain ⟨v, rfl, ⟨a0, e0, rfl⟩⟩ := hv.inv1
  obtain ⟨nd, nr, i1, i2, f1, f2⟩ := (he.perm (perm_look hi)).focus (dom := [(n, .shelf j)])
  obtain ⟨c0, r0, rfl, i3, i4⟩ := i1.invE
  have er := i4.inv0
  subst er
  obtain ⟨a, o0, rfl, g1, g2, _⟩ := i3.inv rfl
  rw [e0] at g1; cases g1
  obtain ⟨d, g, hd, od, hr, horc, harg, hsh⟩ := arg_cases (k.X.S j) k.X.V k.X.O (ho.len j)
  refine hP_ ?_
  have hVd : k.X.V j = d := by rw [← hd, hA]
  have hS1 : SH3 (k.X.S j) (shO d) = k.X.S (j + 1) := by rw [hsh, hA]
  -- the shelf alone
  have h1 : HE (k.blk k.env (k.ext ++ nr)) [a0] [(0, .list ((k.X.S j).map .int))] s := f1 _ _ (by
    have q : IsObjs k.w k.X [a0] [(0, .list ((k.X.S j).map .int))] ([(a0, o0)] ++ []) := by
      refine fold_ fun P_ hP_ => ?_
      obtain ⟨vs, m, e, l⟩ := g2
      refine hP_ ?_
      refine .consE (.base rfl ⟨⟨vs, m, e, ?_⟩, trivial⟩) .nil
      have : ∀ {zs : List Int} {vs : List Value} {ρ ρ' : List Addr}, IsL ρ (zs.map .int) vs → IsL ρ' (zs.map .int) vs := by
        intro zs
        induction zs with
        | nil => intro vs ρ ρ' h; cases vs with
          | nil => trivial
          | cons _ _ => exact h.elim
        | cons z zs ih => intro vs ρ ρ' h; cases vs with
          | nil => exact h.elim
          | cons v vs => exact ⟨h.1, ih h.2⟩
      exact this l
    exact q)
  have h2 : HE ((k.blk k.env (k.ext ++ nr)).withX ⟨k.X.V, k.X.O, SH3 (k.X.S j)⟩) [a0] [(0, .shelf 0)] s := h1.reX fun n' io => by
    obtain ⟨c1, r1, rfl, q1, q2⟩ := io.invE
    have er := q2.inv0
    subst er
    obtain ⟨a1, o1, rfl, q3, q4, _⟩ := q1.inv rfl
    exact .consE (.base q3 ⟨q4, trivial⟩) .nil
  have hrun : DC ((k.blk k.env (k.ext ++ nr)).withX ⟨k.X.V, k.X.O, SH3 (k.X.S j)⟩) (fun _ => none) [(0, .shelf 0)] 1 472 [.ref 0] (.ref (jA d)) (runL d ++ [(0, .shelf (shO d))]) (jA d + 1) := runA harg hr horc (by show 122 ≤ k.b; omega)
  refine wpAny_mono (hrun ((ok.blk _ _).withX _) [a0] s E [.ref a0] rfl (noNames _ _) h2 ⟨⟨a0, rfl, rfl⟩, trivial⟩) (fun v s' ⟨ρ', p, l, ⟨b, y1, y2⟩, he', S⟩ => ?_) fun _ _ z => z
  subst y2
  have h3 : HE (k.blk k.env (k.ext ++ nr)) ρ' (runL d ++ [(0, .list ((k.X.S (j + 1)).map .int))]) s' := he'.reX (X' := k.X) fun n' io => by
    obtain ⟨na, nb, rfl, q1, q2⟩ := io.app
    refine IsObjs.join ?_ ?_
    · have hp : ((runL d).all fun p => plainO p.2) = true := by cases d <;> rfl
      exact (IsObjs.toZ hp q1).objs
    · obtain ⟨c1, r1, rfl, q3, q4⟩ := q2.invE
      have er := q4.inv0
      subst er
      obtain ⟨a1, o1, rfl, q5, q6, _⟩ := q3.inv rfl
      refine .consE (.base q5 ⟨?_, trivial⟩) .nil
      have q7 : ∃ vs m, o1 = lobj vs m ∧ IsL ρ' ((SH3 (k.X.S j) (shO d)).map .int) vs := q6
      rw [hS1] at q7
      exact q7
  refine fold_ fun P_ hP_ => ?_
  obtain ⟨nd', j1, j2⟩ := f2 ρ' _ s' h3
  obtain ⟨na, nb, rfl, q1, q2⟩ := j1.app
  obtain ⟨na', q3, q4⟩ := q1.perm (runL_perm d).symm
  obtain ⟨c1, r1, rfl, q5, q6⟩ := q2.invE
  have er := q6.inv0
  subst er
  obtain ⟨a1, o1, rfl, q7, q8, _⟩ := q5.inv rfl
  refine hP_ ?_
  have ea : a1 = a0 := by
    obtain ⟨t, rfl⟩ := p
    cases q7; rfl
  subst ea
  obtain ⟨ρi, hRi⟩ := mk_ren (ρ := ρ') (is := isOf d) fun i hi => by rw [l]; exact isOf_lt d i hi
  have q9 := hRi.into (itemO_seq d) q3
  have hb0 : ρi[0]? = some b := by
    refine fold_ fun P_ hP_ => ?_
    obtain ⟨x, x1, x2⟩ := hRi.2 0 (isOf_0 d).2
    rw [(isOf_0 d).1, y1] at x2; cases x2
    refine hP_ ?_
    exact x1
  have p2 : ρ <+: ρ ++ [b] := pre_snoc
  have hItem : ItemC k.w (k.X.V j) b na' := by
    rw [hVd]
    exact ⟨od, ρi, false, by rw [hRi.1, isOf_len], hb0, IsObjs.toZ (itemO_plain _ _) q9⟩
  have hfin : IsObjs k.w k.X (ρ ++ [b]) [(nx, .item j), (n, .shelf (j + 1))] (na' ++ ([(a1, o1)] ++ [])) := by
    refine .consE (.item (by rw [← hlen]; simp) hItem) (.consE (.base (pre_get p2 e0) ⟨?_, trivial⟩) .nil)
    obtain ⟨vs, m, e, ll⟩ := q8
    refine ⟨vs, m, e, ?_⟩
    have : ∀ {zs : List Int} {vs : List Value} {ρ ρ' : List Addr}, IsL ρ (zs.map .int) vs → IsL ρ' (zs.map .int) vs := by
      intro zs
      induction zs with
      | nil => intro vs ρ ρ' h; cases vs with
        | nil => trivial
        | cons _ _ => exact h.elim
      | cons z zs ih => intro vs ρ ρ' h; cases vs with
        | nil => exact h.elim
        | cons v vs => exact ⟨h.1, ih h.2⟩
    exact this ll
  have := j2 (ρ ++ [b]) _ _ p2 hfin (.of (q4.append_right _))
  exact ⟨ρ ++ [b], p2, by simp [hlen], is_new hlen, this.perm ((perm_set hi).symm.cons _), S⟩
theorem hooks_ok (w : World) (c : Cfg) (hm : 122 ≤ c.mg) : HookS w c := hookS w c (arg_ok hm) (by omega)
end Mine
end
section
namespace Mine
/-! # An exception in flight that has a dict of its own -/
section
variable {M : Model} {A : Around} {E : Value → Shared → Prop} {s : Shared} {B : Heap} {l : List Env} {env : Env} {e D L : Addr} {cls : Value} {fl : Value}
/-- the trace that the exception holds: none yet, or one whose flight field is told -/
noncomputable def Trc (B : Heap) (e : Addr) (fl : Value) (h : Heap) (vs : Array Value) : Prop :=
  vs[1]? = some .none ∨ ∃ T oT ts, vs[1]? = some (.ref T) ∧ B.get? T = none ∧ T ≠ e ∧ h.get? T = some oT ∧ oT.data = .fields ts ∧ ts[3]? = some fl
structure Fly (B : Heap) (l : List Env) (e : Addr) (cls : Value) (D : Addr) (fl : Value) (h : Heap) : Prop where
  st : B.StaysIn h
  nw : B.get? e = none
  fr : h.FunFrames B l
  ob : ∃ oe vs, h.get? e = some oe ∧ oe.cls = cls ∧ oe.dict = some D ∧ oe.data = .fields vs ∧ 2 ≤ vs.size ∧ Trc B e fl h vs
theorem noRec {h : Heap} {a b : Addr} {oa o : Obj} {vs : Array Value} (ha : h.get? a = some oa) (hd : oa.data = .fields vs) (hb : h.get? b = some o) (hn : ∀ vs, o.data ≠ .fields vs) : b ≠ a := fun q => by
  subst q; rw [ha] at hb; cases hb; exact hn _ hd
theorem newEntry_fly {head : Value} {hadNext : Bool} {Q : Unit → Shared → Prop} (hf : env.frame = some L) (hA : A.frames = some (env :: l))
    (st : B.StaysIn s.heap) (nw : B.get? e = none) (fr : s.heap.FunFrames B (env :: l)) {oe : Obj} {vs : Array Value} (he : s.heap.get? e = some oe) (hc : oe.cls = cls) (hD : oe.dict = some D) (hd : oe.data = .fields vs) (hz : 2 ≤ vs.size)
    (h : ∀ h', Fly B (env :: l) e cls D (rawInt L) h' → s.heap.UpToSlots h' → Q () { s with heap := h' }) :
    wpAny M A (do let a ← frameOf env; let pl ← entryPlaceOf L hadNext; let b ← EntryCells.newEntry head a .none (rawInt L) .none pl; setField (.ref e) 1 b) Q E s := by
  have hne : e ∉ (env :: l).filterMap (·.frame) := fun hm => by
    obtain ⟨_, o, ho, hnf⟩ := fr.mem hm
    rw [he] at ho; cases ho; exact hnf vs hd
  refine wpAny_bind (wpAny_frameOf_fun hA fr hf fun h₁ S => ?_)
  refine wpAny_bind (wpAny_entryPlaceOf fun pl hpl => ?_)
  unfold EntryCells.newEntry newFields
  refine wpAny_bind (wpAny_newObj_type ?_ (hpl.sizeOk5 _ _ _ _ _))
  have he₁ : h₁.get? e = some oe := (S.2.1 e hne).trans he
  have kb₁ : B.StaysIn h₁ := fun b o hbo => (S.2.1 b fun hm => by rw [(fr.mem hm).1] at hbo; cases hbo).trans (st b o hbo)
  generalize hoT : ({ cls := .type "traceback", dict := none, data := .fields ([head, .ref L, .none, rawInt L, .none] ++ (if pl.isEmpty then List.replicate 6 Value.none else pl)).toArray } : Obj) = oT
  have he₂ := Heap.get?_push_of_some (h := h₁) oT he₁
  refine wpAny_setField he₂ hd (by omega) ?_
  have hTe : h₁.objs.size ≠ e := Nat.ne_of_gt (Heap.lt_size he₁)
  have hd₃ := Obj.data_mapFields hd (·.setIfInBounds 1 (Value.ref h₁.objs.size))
  have he₃ := Heap.get?_update_self (Obj.mapFields (·.setIfInBounds 1 (Value.ref h₁.objs.size))) he₂ (Obj.isFreed_of_fields hd₃)
  have hT₃ := (Heap.get?_update_other (h₁.push oT) (Obj.mapFields (·.setIfInBounds 1 (Value.ref h₁.objs.size))) (Ne.symm hTe)).trans (Heap.get?_push_size h₁ (by subst hoT; rfl))
  have kp : ∀ b o, b ≠ e → h₁.get? b = some o → ((h₁.push oT).update e (Obj.mapFields (·.setIfInBounds 1 (Value.ref h₁.objs.size)))).get? b = some o := fun b o hbe hb => by
    rw [Heap.get?_update_other _ _ (Ne.symm hbe)]
    exact Heap.get?_push_of_some _ hb
  refine h _ ⟨fun b o hbo => kp b o (fun q => by rw [q, nw] at hbo; cases hbo) (kb₁ b o hbo), nw, fr.of_keeps fun b o hb hnf => ?_, ?_⟩ fun b o hb hnf => ?_
  · obtain ⟨sl, hs⟩ := S.2.2 b o hb
    exact ⟨_, kp b _ (noRec he hd hb hnf) hs, rfl⟩
  · refine ⟨_, _, he₃, (Obj.cls_mapFields _ _).trans hc, ?_, hd₃, by simpa using hz, .inr ⟨h₁.objs.size, _, _, by simp [show 1 < vs.size by omega], kb₁.fresh, hTe, hT₃, by subst hoT; rfl, by first | (simp; done) | (rcases hpl with rfl | ⟨_, _, _, _, _, _, _, rfl⟩ <;> simp)⟩⟩
    obtain ⟨c, dd, da, sl⟩ := oe
    cases hd; exact hD
  · obtain ⟨sl, hs⟩ := S.2.2 b o hb
    exact ⟨sl, kp b _ (noRec he hd hb hnf) hs⟩
theorem note_fly {Q : Unit → Shared → Prop} (hf : env.frame = some L) (hA : A.frames = some (env :: l)) (F : Fly B (env :: l) e cls D .none s.heap)
    (h : ∀ h', Fly B (env :: l) e cls D (rawInt L) h' → s.heap.UpToSlots h' → Q () { s with heap := h' }) : wpAny M A (noteFrame (.ref e) env) Q E s := by
  obtain ⟨st, nw, fr, oe, vs, he, hc, hD, hd, hz, hT⟩ := F
  unfold noteFrame
  simp only [hf]
  rcases hT with h1 | ⟨T, oT, ts, h1, hnT, hTe, hT, hdT, h3⟩
  · refine wpAny_bind (wpAny_field he hd h1 ?_)
    rw [if_neg (by decide)]
    exact newEntry_fly hf hA st nw fr he hc hD hd hz h
  · refine wpAny_bind (wpAny_field he hd h1 ?_)
    rw [if_pos (show (Value.ref T != Value.none) = true from by simp)]
    refine wpAny_bind (wpAny_field hT hdT h3 ?_)
    rw [if_neg (show ¬ ((Value.none == rawInt L) = true) from by simp [rawInt])]
    refine wpAny_bind (wpAny_setField hT hdT (Array.getElem?_eq_some_iff.mp h3).1 ?_)
    have ot : ∀ b, b ≠ T → (s.heap.update T (Obj.mapFields (·.setIfInBounds 3 Value.none))).get? b = s.heap.get? b := fun b hb => Heap.get?_update_other _ _ (Ne.symm hb)
    exact newEntry_fly hf hA (fun b o hbo => (ot b fun q => by rw [q, hnT] at hbo; cases hbo).trans (st b o hbo)) nw (fr.of_keeps fun b o hb hnf => ⟨o, (ot b (noRec hT hdT hb hnf)).trans hb, rfl⟩) ((ot e (Ne.symm hTe)).trans he) hc hD hd hz
      fun h' x1 x2 => h h' x1 fun b o hb hnf => x2 b o ((ot b (noRec hT hdT hb hnf)).trans hb) hnf
theorem land_fly {Q : Unit → Shared → Prop} (F : Fly B l e cls D fl s.heap) (h : ∀ h', Fly B l e cls D .none h' → s.heap.UpToSlots h' → Q () { s with heap := h' }) : wpAny M A (setFlight (.ref e) none) Q E s := by
  refine fold_ fun P_ hP_ => ?_
  obtain ⟨st, nw, fr, oe, vs, he, hc, hD, hd, hz, hT⟩ := F
  refine hP_ ?_
  unfold setFlight
  rcases hT with h1 | ⟨T, oT, ts, h1, hnT, hTe, hT, hdT, h3⟩
  · refine wpAny_bind (wpAny_field he hd h1 ?_)
    rw [if_neg (by decide)]
    exact wpAny_pure (h s.heap ⟨st, nw, fr, oe, vs, he, hc, hD, hd, hz, .inl h1⟩ (Heap.UpToSlots.refl _))
  · have hsz3 : 3 < ts.size := (Array.getElem?_eq_some_iff.mp h3).1
    have ot : ∀ b, b ≠ T → (s.heap.update T (Obj.mapFields (·.setIfInBounds 3 ((none : Option Addr).elim Value.none fun f => rawInt f)))).get? b = s.heap.get? b := fun b hb => Heap.get?_update_other _ _ (Ne.symm hb)
    refine wpAny_bind (wpAny_field he hd h1 ?_)
    rw [if_pos (show (Value.ref T != Value.none) = true from by simp)]
    refine wpAny_setField hT hdT hsz3 (h _ ⟨fun b o hbo => (ot b fun q => by rw [q, hnT] at hbo; cases hbo).trans (st b o hbo), nw, fr.of_keeps fun b o hb hnf => ⟨o, (ot b (noRec hT hdT hb hnf)).trans hb, rfl⟩, oe, vs, (ot e (Ne.symm hTe)).trans he, hc, hD, hd, hz,
      .inr ⟨T, _, _, h1, hnT, hTe, Heap.get?_update_self _ hT (Obj.isFreed_of_fields (Obj.data_mapFields hdT _)), Obj.data_mapFields hdT _, by simp [hsz3]⟩⟩ fun b o hb hnf => ⟨o.slots, (ot b (noRec hT hdT hb hnf)).trans hb⟩)
theorem leave_fly {Q : Unit → Shared → Prop} (hf : env.frame = some L) (hA : A.frames = some (env :: l)) (F : Fly B (env :: l) e cls D .none s.heap)
    (h : ∀ h', Fly B l e cls D .none h' → s.heap.UpToSlots h' → Q () { s with heap := h' }) : wpAny M A (leaving env (.ref e)) Q E s := by
  unfold leaving
  refine wpAny_bind (note_fly hf hA F fun h₁ F₁ U₁ => land_fly F₁ fun h₂ F₂ U₂ => ?_)
  obtain ⟨a, b, ⟨_, _, c⟩, d⟩ := F₂
  exact h h₂ ⟨a, b, c, d⟩ (U₁.trans U₂)
end
end Mine
end
section
open PySem PySem.W PyProof.Rows PySem.Calls Builtin Builtin.ObjectAttr
namespace Mine
theorem fillR2 (w : World) (h : Heap) : (K w.params).In h → PySem.Challenge.rw_pq1324_01 = PySem.Challenge.rw_pq1324_01 → True := by
  k_fill
  intros; trivial
noncomputable abbrev sMsg : Str := Str.ofString "message"
structure RefFacts (w : World) : Prop where
  gg : findIn (K w.params) (.ref 75) "__getattribute__" = some (some (.builtin "BaseException.__getattribute__"))
  ga : findIn (K w.params) (.ref 75) "__getattr__" = some none
  sa : findIn (K w.params) (.ref 75) "__setattr__" = some (some (.builtin "object.__setattr__"))
  ii : findIn (K w.params) (.ref 75) "__init__" = some (some (.ref 72))
  fi : isFn (K w.params) (.ref 72) = true
  ms : findIn (K w.params) (.ref 75) sMsg = some none
  tk : takerIn (K w.params) 75 sMsg = some none
  hd : hasDictIn (K w.params) 75 = true
  mo : mroIn (K w.params) 75 (.type "object") = some true
  mb : mroIn (K w.params) 75 (.type "BaseException") = some true
  ob : ∃ nm q N bs sn sub ab col dd k0 k1 k2 k3 k5, (K w.params).lookup 75 = some (excClassObj nm q 75 N bs [.ref 55, .type "Exception", .type "BaseException", .type "object"] true sn sub ab col dd k0 k1 k2 k3 k5 "Exception.__new__")
theorem refFacts (w : World) : RefFacts w := by
  k_fill
  refine ⟨?_, ?_, ?_, ?_, ?_, ?_, ?_, ?_, ?_, ?_, ⟨_, _, _, _, _, _, _, _, _, _, _, _, _, _, (by show (K w.params).lookup 75 = _; k_dflt k_is)⟩⟩
  all_goals k_dflt k_is
theorem cls_mro {w : World} : ∃ cd, clsIn (K w.params) 75 = some cd ∧ cd.hasDict = true ∧ cd.mro = [.ref 75, .ref 55, .type "Exception", .type "BaseException", .type "object"] := by
  refine fold_ fun P_ hP_ => ?_
  obtain ⟨nm, q, N, bs, sn, sub, ab, col, dd, k0, k1, k2, k3, k5, ho⟩ := (refFacts w).ob
  refine hP_ ?_
  exact ⟨_, by unfold clsIn; rw [ho], rfl, rfl⟩
theorem refuse_exc (self : Value) : refuseLoop self "__setattr__" [.ref 75, .ref 55, .type "Exception", .type "BaseException", .type "object"] = pure () := by
  rw [refuseLoop_ref, refuseLoop_ref]
  kernel_rfl
section
variable {w : World} {A : Around} {E : Value → Shared → Prop} {s : Shared} {x t : Addr} {ox : Obj} {v : Value}
set_option maxHeartbeats 8000000 in
theorem set_exc {y : Str} {Q : Unit → Shared → Prop} (hms : findIn (K w.params) (.ref 75) y = some none) (X : (K w.params).In s.heap) (hx : s.heap.get? x = some ox) (hc : ox.cls = .ref 75) (hd : ox.dict = none) {vs : Array Value} (hf : ox.data = .fields vs)
    (h : ∀ h' tk tk', (∀ b o, b ≠ x → s.heap.get? b = some o → h'.get? b = some o) → s.heap.get? s.heap.objs.size = none → h'.get? x = some { ox with dict := some s.heap.objs.size } → h'.get? s.heap.objs.size = some (dictOf [ent w y tk v] 1) → Q () { s with heap := h', toks := tk' }) :
    wpAny (model prg w) A (setAttr (.ref x) y v) Q E s := by
  obtain ⟨cd, hcd, hdd, hmm⟩ := cls_mro (w := w)
  have RF := refFacts w
  have no : notCls ox = true := by obtain ⟨_, _, d, _⟩ := ox; cases hf; rfl
  have I : InstAt s.heap x ox 75 none := ⟨hx, hc, no, by rw [hd]; trivial⟩
  refine set_plain X I RF.sa ?_
  have SF := PySem.F.store_object
  have sub : Looks (model prg w) s.heap (isInstance (.ref x) (.type "object")) true := I.type.andThen (looks_mroIn X RF.mo)
  refine codeAny_call_builtin SF.slot.plain SF.entry (@check_slot (model prg w) _ _ { s with toks := s.toks + 1 } "object.__setattr__" "object" "__setattr__" (.ref x) [.str y s.toks, v] [] _ SF.kind SF.split sub (SF.args (.ref x) (.str y s.toks) v) ?_)
  rw [osa_eq, refuse_eq]
  have hm : Looks (model prg w) s.heap (mroOf (.ref 75)) cd.mro := (looks_clsIn X hcd).andThen .now
  refine wpAny_bind (wpAny_bind (I.type.here (s := { s with toks := s.toks + 1 }) (wpAny_bind (hm.here (s := { s with toks := s.toks + 1 }) ?_))))
  rw [hmm, refuse_exc]
  refine wpAny_pure (wpAny_bind (I.type.here (s := { s with toks := s.toks + 1 }) (wpAny_bind ((looks_findIn X hms).here (s := { s with toks := s.toks + 1 }) ?_))))
  refine wpAny_bind (wpAny_pure ?_)
  refine fold_ fun P_ hP_ => ?_
  obtain ⟨oc, odi, oda, osl⟩ := ox
  dsimp only at hc hd hf
  subst hc hd hf
  refine hP_ ?_
  refine wpAny_bind (wpAny_pure (wpAny_bind (wpAny_bind (wpAny_loadPart hx (wpAny_bind ((looks_clsIn X hcd).here (s := { s with toks := s.toks + 1 }) ?_))))))
  rw [hdd]
  obtain ⟨hh, g, d, tt, os⟩ := s
  have hx₁ : (hh.push { cls := .type "dict", data := .dict #[] }).get? x = some ⟨.ref 75, none, .fields vs, osl⟩ := Heap.get?_push_of_some _ hx
  have hxs : x ≠ hh.objs.size := Nat.ne_of_lt (Heap.lt_size hx)
  refine wpAny_bind (wpAny_alloc' ?_)
  refine wpAny_bind (wpAny_update' hx₁ ?_)
  refine wpAny_pure ?_
  have hgd : ((hh.push { cls := .type "dict", data := .dict #[] }).update x fun o => { o with dict := some hh.objs.size }).get? hh.objs.size = some { cls := .type "dict", data := .dict #[] } :=
    (Heap.get?_update_ne _ _ _ _ hxs.symm).trans (Heap.get?_push_at rfl rfl)
  refine (?_ : wpAny _ _ (storeInDict hh.objs.size _ _ _) _ _ _)
  unfold storeInDict newKeyGuard
  refine wpAny_bind (wpAny_pure (wpAny_bind ?_))
  unfold nsSet
  refine wpAny_bind (wpAny_bind (wpAny_askSetting (wpAny_pure (wpAny_bind (wpAny_mkText (wpAny_bind (wpAny_loadPart hgd ?_)))))))
  dsimp only
  have c : (!(#[] : Array DictEntry).any (·.key.isStr y) && (#[] : Array DictEntry).any (·.refKey)) = false := by simp
  rw [aRefKeyMayBeTheName_at, c]
  refine wpAny_updatePart hgd ?_
  have hD : ∀ tk, Obj.putName y (PyData.keyHash w.params y) (.str y tk) v { cls := .type "dict", data := .dict #[] } = dictOf [ent w y tk v] 1 := fun tk => putName_dict y (PyData.keyHash w.params y) (.str y tk) v [] 0
  have hgd' := fun tk => (Heap.get?_update_self (Obj.putName y (PyData.keyHash w.params y) (.str y tk) v) hgd (by rw [hD]; rfl)).trans (congrArg some (hD tk))
  have hp : (dictOf [ent w y (tt + 1) v] 1).data.pastItsLine = none := pastItsLine_dict (by rw [sizeLine_eq]; exact (show 1 ≤ 16777216 + 1 by decide))
  dsimp only
  change wpAny _ _ _ _ _ ⟨Heap.update _ hh.objs.size (Obj.putName y (PyData.keyHash w.params y) (.str y (tt + 1)) v), g, d, tt + 1 + 1, os⟩
  refine wpAny_bind (wpAny_lookBehind (hgd' (tt + 1)) hp ?_)
  refine wpAny_pure (h _ _ _ (fun b o hb hbo => ?_) (Heap.get?_none_of_le (Nat.le_refl _)) ?_ (hgd' (tt + 1)))
  · exact (Heap.get?_update_other _ _ (fun q : hh.objs.size = b => by rw [← q] at hbo; exact absurd (Heap.lt_size hbo) (Nat.lt_irrefl _))).trans ((Heap.get?_update_ne _ _ _ _ hb).trans (Heap.get?_push_of_some _ hbo))
  · exact (Heap.get?_update_other _ _ hxs.symm).trans (Heap.get?_update_self _ hx₁ rfl)
end
end Mine
end
section
open PySem PySem.W PyProof.Rows PySem.Calls Builtin Builtin.ObjectAttr
namespace Mine
section
variable {w : World} {A : Around} {E : Value → Shared → Prop} {h : Heap} {g : Array GenState} {d : Drawn} {t : Nat} {os : OsState} {x D : Addr} {ox od : Obj} {v : Value} {y : Str}
theorem tl75 {M : Model} {n : Str} {r : Option Value} {Q : Option Value → Shared → Prop} (X : (K w.params).In h) (e : findIn (K w.params) (.ref 75) n = some r) (hq : Q r ⟨h, g, d, t, os⟩) : wpAny M A (typeLookup (.ref 75) n) Q E ⟨h, g, d, t, os⟩ := (looks_findIn X e).at hq
theorem find_exc {M : Model} (X : (K w.params).In h) (I : InstAt h x ox 75 (some od)) (hl : lookIn y od = some (some v)) (hms : findIn (K w.params) (.ref 75) y = some none) : Looks M h (ObjectAttr.find (.ref x) (.ref 75) y) (.value v) :=
  looks_find X I (findObj_own (refFacts w).hd hms rfl hl)
theorem bexc_kind : builtinKind "BaseException.__getattribute__" = some .slot := by decide +kernel
theorem bexc_split : splitId "BaseException.__getattribute__" = some ("BaseException", "__getattribute__") := by decide +kernel
theorem get_by {tk : Tok} {fill expr : Bool} {Q : Value → Shared → Prop} (X : (K w.params).In h) (I : InstAt h x ox 75 (some od)) (hl : lookIn y od = some (some v)) (hms : findIn (K w.params) (.ref 75) y = some none) (hv : handedIn v = true) (hq : Q v ⟨h, g, d, t, os⟩) :
    wpAny (model prg w) A (getAttrBy (.ref x) (.str y tk) fill expr) Q E ⟨h, g, d, t, os⟩ := by
  have hx := I.at_
  have hc := I.cls
  have FB := PySem.F.attr_Exception
  have f3 := FB.ga.bind (.ref x)
  have hx0 : (expr && onTheHeap (Value.builtin "BaseException.__getattribute__")) = false := by cases expr <;> rfl
  have hx2 : (Value.builtin "BaseException.__getattribute__" == Value.builtin "object.__getattribute__") = false := by decide +kernel
  have hx1 : (onTheHeap (Value.ref 75) && Value.builtin "BaseException.__getattribute__" == Value.builtin "object.__getattribute__") = false := by rw [hx2]; rfl
  repeat (any_goals (first | assumption | (with_reducible refine wpAny_loadPart_at hx ?_; rw [hc]) | with_reducible refine tl75 X (refFacts w).gg ?_ | with_reducible refine tl75 X (refFacts w).ga ?_ | wp_step))
  have t2 : Looks (model prg w) h (isInstance (.ref x) (.type "BaseException")) true := I.type.andThen (looks_mroIn X (refFacts w).mb)
  refine codeAny_call_builtin FB.ga.plain F.entry_bexc_ga (@check_slot (model prg w) _ _ ⟨h, g, d, t, os⟩ "BaseException.__getattribute__" "BaseException" "__getattribute__" (.ref x) [.str y tk] [] _ bexc_kind bexc_split t2 (F.args_bexc_ga (.ref x) (.str y tk)) ?_)
  refine wpAny_bind (wpAny_pure (wpAny_bind (wpAny_pure (wpAny_bind (I.type.at (wpAny_bind ((find_exc X I hl hms).at ?_)))))))
  refine wpAny_pure ?_
  show wpAny _ _ (handedOut v) _ _ _
  rw [handedOut_of hv]
  exact wpAny_pure hq
theorem get_exc {expr : Bool} {s : Shared} {Q : Value → Shared → Prop} (X : (K w.params).In s.heap) (I : InstAt s.heap x ox 75 (some od)) (hl : lookIn y od = some (some v)) (hms : findIn (K w.params) (.ref 75) y = some none) (hv : handedIn v = true) (hq : Q v { s with toks := s.toks + 1 }) :
    wpAny (model prg w) A (getAttr (.ref x) y expr) Q E s := by
  unfold getAttr
  exact wpAny_bind (wpAny_mkText (get_by (t := s.toks + 1) X I hl hms hv hq))
end
end Mine
end
section
open PySem PySem.W PyProof.Rows PySem.Calls Builtin Builtin.ObjectAttr
namespace Mine
theorem fillR4 (w : World) (h : Heap) : (K w.params).In h → PySem.Challenge.rw_pq1324_01 = PySem.Challenge.rw_pq1324_01 → True := by
  k_fill
  intros; trivial
theorem ok72 (w : World) : FnOk w F72 ∧ cellsOk F72 = true := by
  k_fill
  refine ⟨FnOk.mk ⟨_, _, _, _, _, _, _, _, _, _, _, (by show (K w.params).lookup 72 = _; k_dflt k_is), fun s ρ svs vs bs X hi hb => ?_⟩ (by show codeIn (K w.params) (.ref 71) (Str.ofString "Refusal.__init__") = true; k_dflt k_is) (by decide) rfl rfl rfl (by decide), by decide⟩
  obtain ⟨e, hB⟩ := bind_full rfl hb hi
  obtain ⟨a, b, rfl⟩ := len2 e
  exact ⟨_, BindsTo.of_eq rfl, hB⟩
abbrev bmX : List Value := [.type "Exception", .type "BaseException", .type "object"]
theorem own55 (w : World) : nsIn (K w.params) mainGlobals (Str.ofString "CoveError") = some (some (.ref 55)) ∧ excIn (K w.params) 55 bmX "Exception.__new__" = true := by
  k_fill
  exact ⟨by k_dflt k_is, by k_exc⟩
theorem tail55 {k : EC} (ok : k.Ok) : OwnTail k.h₀ bmX (.ref 55 :: bmX) := by
  refine fold_ fun P_ hP_ => ?_
  obtain ⟨e, q⟩ := own55 k.w
  obtain ⟨bm, N, nm, qn, bs, hdct, sn, sub, ab, col, dd, k0, k1, k2, k3, k5, mN, hC, hN, hni, TL⟩ := (own_of_in ok.X (topRead_of ok.T) e q).obj
  refine hP_ ?_
  exact .own hC hN hni .base
/-- what a new exception's object is -/
noncomputable abbrev excO (t D : Addr) : Obj := { cls := .ref 75, dict := some D, data := .fields #[.ref t, .none, .none, .none, .bool false, .none] }
section
variable {k : EC} {A : Around} {E : Value → Shared → Prop} {s : Shared} {ρ : List Addr} {objs : List (Nat × SO)} {v : Value}
theorem init_call {Q : Value → Shared → Prop} {e t : Addr} (ok : k.Ok) (hb : 0 < k.b) (he : HE k ρ objs s) (hv : s.heap.get? e = some { cls := .ref 75, data := .fields #[.ref t, .none, .none, .none, .bool false, .none] })
    (a1 : A.handled = none) (a2 : A.frames = some (k.fenv :: k.outer)) (a3 : A.guards = some []) (a4 : A.depth ≤ k.A.depth + 1) (a5 : A.units ≤ k.A.units + 1)
    (h : ∀ h' D tk tk', (∀ b o, b ≠ e → s.heap.get? b = some o → h'.get? b = some o) → s.heap.get? D = none → h'.get? e = some (excO t D) → h'.get? D = some (dictOf [ent k.w sMsg tk v] 1) → Q .none { s with heap := h', toks := tk' }) :
    wpAny (model prg k.w) A (call (.ref 72) [.ref e, v]) Q E s := by
  refine wpAny_call (fn_enter (q := F72) (A' := A) (svs := [.con (.ref e), .con v]) a1 a2 a3 a4 a5 ok (ok72 k.w).1 hb rfl (ok72 k.w).2 rfl he ⟨rfl, rfl, trivial⟩ fun k' ew eb eX hk ok' fr' ef eo cl er eL s₁ hs kp S₁ => ?_)
  refine fold_ fun P_ hP_ => ?_
  obtain ⟨m, cs, g1, g2, g3⟩ := hs
  have NM := names_fn ok' fr' g1 g2
  obtain ⟨n', io, N, d⟩ := g3.N
  refine hP_ ?_
  have N' : News k'.h₀ k'.L s₁.heap (cs ++ k'.raw) := fun p hp => N p (List.mem_append_left _ hp)
  obtain ⟨h₁, tk₁, rfl⟩ := S₁
  have X₁ : (K k.w.params).In h₁ := by rw [← ew]; exact ok'.X.keeps g3.F.keep
  refine wpAny_execs_cons (plainObj_wpAny_Assign_Attribute ?_ rfl)
  refine NM.ev (Str.ofString "message") (.con v) (nm_of (by kernel_rfl)) _ _ _ _ g3.F N' fun v' hv' => ?_
  cases hv'
  refine NM.ev (Str.ofString "self") (.con (.ref e)) (nm_of (by kernel_rfl)) _ _ _ _ g3.F N' fun v' hv' => ?_
  cases hv'
  rw [ew]
  refine set_exc (s := { s with heap := h₁, toks := tk₁ }) (w := k.w) (y := sMsg) (refFacts k.w).ms X₁ (kp _ _ hv) rfl rfl rfl fun h' tk tk' z1 z2 z3 z4 => ?_
  refine wpAny_execs_nil (h h' _ tk tk' (fun b o hb' hbo => z1 b o hb' (kp b o hbo)) ?_ z3 z4)
  cases q : s.heap.get? h₁.objs.size with
  | none => rfl
  | some o => have := kp _ _ q; rw [z2] at this; cases this
end
end Mine
end
section
open PySem PySem.W PyProof.Rows PySem.Calls Builtin Builtin.ObjectAttr
namespace Mine
section
variable {k : EC} {A : Around} {E : Value → Shared → Prop} {ρ : List Addr} {objs : List (Nat × SO)} {v : Value} {h : Heap} {g : Array GenState} {d : Drawn} {t : Nat} {os : OsState}
theorem made_init {Q : Fin → Shared → Prop} (ok : k.Ok) (hb : 0 < k.b) (he : HE k ρ objs ⟨h, g, d, t, os⟩)
    (a1 : A.handled = none) (a2 : A.frames = some (k.fenv :: k.outer)) (a3 : A.guards = some []) (a4 : A.depth ≤ k.A.depth + 1) (a5 : A.units ≤ k.A.units + 1)
    (hq : ∀ h' e D t tk tk', (∀ b o, h.get? b = some o → h'.get? b = some o) → h.get? e = none → h.get? D = none → e ≠ D → h'.get? e = some (excO t D) → h'.get? D = some (dictOf [ent k.w sMsg tk v] 1) → Q (.done (.ret (.ref e))) ⟨h', g, d, tk', os⟩) :
    wpAny (model prg k.w) A (Builtin.«type.__call__» ⟨[.ref 75, v], []⟩) Q E ⟨h, g, d, t, os⟩ := by
  have X : (K k.w.params).In h := ok.X.keeps he.F.keep
  refine fold_ fun P_ hP_ => ?_
  have RF := refFacts k.w
  obtain ⟨nm, q, N, bs, sn, sub, ab, col, dd, k0, k1, k2, k3, k5, hC⟩ := RF.ob
  refine hP_ ?_
  replace hC := X _ _ hC
  have T : OwnTail h bmX (.ref 55 :: bmX) := (tail55 ok).keeps he.F.keep
  have F := PySem.F.excBase_Exception
  repeat (first | with_reducible refine wpAny_loadPart_at hC ?_ | with_reducible refine wpAny_madeBy_exc hC ?_ | wp_step)
  refine codeAny_call_builtin_code (Code.quiet_builtin _ F.quiet) (wpAny_check_new_subT F T hC ?_)
  refine codeAny_exc_new_subT F T hC ?_ (by size_fits)
  refine (?_ : wpAny _ _ _ _ _ _)
  generalize ho : ({ cls := .ref 75, data := .fields #[.ref h.objs.size, .none, .none, .none, .bool false, .none] } : Obj) = oe
  generalize hh : (h.push { cls := .type "tuple", data := .seq [v].toArray }).push oe = h₁
  have k₁ : ∀ b o, h.get? b = some o → h₁.get? b = some o := fun b o e => by subst hh; exact Heap.get?_push_of_some _ (Heap.get?_push_of_some _ e)
  have hC₁ := k₁ _ _ hC
  have X₁ := X.keeps k₁
  have hget : h₁.get? (h.objs.size + 1) = some oe := by subst hh ho; heap_get
  have hcC : (Value.ref 75 :: .ref 55 :: bmX).contains (.ref 75) = true := by simp
  unfold isInstance
  repeat (first | (with_reducible refine wpAny_loadPart_at hget ?_; rw [show oe.cls = .ref 75 by subst ho; rfl]) | (with_reducible refine wpAny_isSubtype_exc hC₁ ?_; rw [hcC]) | wp_step)
  refine (?_ : wpAny _ _ (typeLookup (.ref 75) _) _ _ _)
  refine tl75 X₁ RF.ii ?_
  refine wpAny_holding (wpAny_bind ?_)
  refine (bind_fn X₁ _ (beq_iff_eq.mp RF.fi)).at ?_
  refine wpAny_bind (wpAny_mono (init_call (ρ := ρ) (objs := objs) (v := v) (e := h.objs.size + 1) (t := h.objs.size) (s := ⟨h₁, g, d, t, os⟩) (Q := fun r s' => r = .none ∧ Q (.done (.ret (.ref (h.objs.size + 1)))) s') ok hb ⟨he.F.keeps k₁, ?_⟩ (by rw [← ho] at hget; exact hget) a1 a2 a3 a4 a5 fun h' D tk tk' z1 z2 z3 z4 => ⟨rfl, ?_⟩) (fun r s' hr => ?_) fun _ _ x => x)
  · obtain ⟨n', io, Nn, dn⟩ := he.N
    exact ⟨n', io, fun p hp => ⟨k₁ _ _ (Nn p hp).1, (Nn p hp).2⟩, dn⟩
  · refine hq h' _ D _ tk tk' (fun b o e => z1 b o (Nat.ne_of_lt (Nat.lt_succ_of_lt (Heap.lt_size e))) (k₁ b o e)) (Heap.get?_none_of_le (Nat.le_succ _)) ?_ ?_ z3 z4
    · cases q : h.get? D with
      | none => rfl
      | some o => have := k₁ _ _ q; rw [z2] at this; cases this
    · rintro rfl; rw [hget] at z2; cases z2
  · obtain ⟨rfl, hQ⟩ := hr
    wp_walk
    exact hQ
theorem make_ref {s : Shared} {Q : Value → Shared → Prop} (ok : k.Ok) (hb : 0 < k.b) (he : HE k ρ objs s)
    (hq : ∀ h' e D t tk tk', (∀ b o, s.heap.get? b = some o → h'.get? b = some o) → s.heap.get? e = none → s.heap.get? D = none → e ≠ D → h'.get? e = some (excO t D) → h'.get? D = some (dictOf [ent k.w sMsg tk v] 1) → Q (.ref e) { s with heap := h', toks := tk' }) :
    wpAny (model prg k.w) k.A (call (.ref 75) [v]) Q E s := by
  obtain ⟨h, g, d, t, os⟩ := s
  have X : (K k.w.params).In h := ok.X.keeps he.F.keep
  refine fold_ fun P_ hP_ => ?_
  obtain ⟨nm, q, N, bs, sn, sub, ab, col, dd, k0, k1, k2, k3, k5, hC⟩ := (refFacts k.w).ob
  refine hP_ ?_
  replace hC := X _ _ hC
  have f1 := tc_lookup
  have f2 := tc_bind (.ref 75)
  have hT : (⟨h, g, d, t, os⟩ : Shared).TypeIs (.ref 75) "type" := ⟨_, hC, rfl⟩
  refine wpAny_call (codeAny_of_tree ?_)
  refine (?_ : wpAny _ _ (callAny (.ref 75) _) _ _ _)
  repeat (any_goals (first | assumption | with_reducible refine wpAny_loadPart_at hC ?_ | wp_step))
  refine ⟨rfl, ?_⟩
  refine codeAny_call_builtin_at (Code.quiet_builtin _ (by decide +kernel)) entry_typeCall (wpAny_check_type_call_sub hC (made_init (v := v) ok hb he ?_ ?_ ?_ ?_ ?_ hq))
  · exact ok.hh
  · exact ok.fr
  · exact ok.gd
  · exact Nat.le_refl _
  · exact Nat.le_refl _
end
end Mine
end
section
open PySem PySem.W PyProof.Rows PySem.Calls Builtin Builtin.ObjectAttr
namespace Mine
/-- a refusal is in flight, and what was known of the objects when it was raised -/
noncomputable def Boom (h0 : Heap) (k : EC) (ρ : List Addr) (o : List (Nat × SO)) (m : Str) (e : Addr) (s' : Shared) : Prop :=
  ∃ n' hr B D tk tk', IsObjs k.w k.X ρ o n' ∧ News k.h₀ k.L hr (k.ext ++ n') ∧ Dis (k.ext ++ n') ∧ Fr k.h₀ k.L hr k.m ∧ (∀ p ∈ k.ext ++ n', B.get? p.1 = some p.2) ∧ (∀ b o, h0.get? b = some o → B.get? b = some o) ∧
    Fly B (k.fenv :: k.outer) e (.ref 75) D .none s'.heap ∧ hr.UpToSlots s'.heap ∧ B.get? D = some (dictOf [ent k.w sMsg tk (.str m tk')] 1)
structure Deep (h0 : Heap) (k : EC) : Prop where
  keep : ∀ b o, h0.get? b = some o → k.h₀.get? b = some o
  off : ∀ b o, h0.get? b = some o → b ∉ (k.fenv :: k.outer).filterMap (·.frame)
noncomputable def RSt (h0 : Heap) (q : FnS) (k : EC) (st : St) (t : Sem Flow) (m : Str) (o' : List (Nat × SO)) (n' : Nat) : Prop :=
  k.Ok → Frm q k → Deep h0 k → ∀ ρ s Q E, ρ.length = st.nx → HS q k ρ st.σ st.objs s → (∀ ρ' m' cs e s', ρ <+: ρ' → ρ'.length = n' → Boom h0 (k.at m' (cs ++ k.raw)) ρ' o' m e s' → Same s s' → E (.ref e) s') → wpAny (model prg k.w) k.A t Q E s
noncomputable def RCl (h0 : Heap) (k : EC) (o : List (Nat × SO)) (nx f : Nat) (svs : List SV) (m : Str) (o' : List (Nat × SO)) (n' : Nat) : Prop :=
  k.Ok → Deep h0 k → ∀ ρ s vs Q E, ρ.length = nx → HE k ρ o s → IsL ρ svs vs → (∀ ρ' e s', ρ <+: ρ' → ρ'.length = n' → Boom h0 k ρ' o' m e s' → Same s s' → E (.ref e) s') → wpAny (model prg k.w) k.A (call (.ref f) vs) Q E s
theorem frame_mem {env : Env} {outer : List Env} {b L : Addr} (hf : env.frame = some L) (h : b ∈ (env :: outer).filterMap (·.frame)) : b = L ∨ b ∈ outer.filterMap (·.frame) := by
  rw [List.filterMap_cons, hf] at h
  exact List.mem_cons.mp h
section
variable {h0 : Heap} {q : FnS} {k : EC} {st : St} {t : Sem Flow} {m : Str} {o o' : List (Nat × SO)} {nx n' f : Nat} {svs : List SV}
theorem Deep.enter {k' : EC} {s : Shared} {mm : Str → Option Value} (d : Deep h0 k) (F : Fr k.h₀ k.L s.heap mm) (hk : ∀ b o, k.h₀.get? b = some o → k'.h₀.get? b = some o) (ok' : k'.Ok) (eo : k'.outer = k.fenv :: k.outer) (eL : k'.L = s.heap.objs.size) : Deep h0 k' :=
  ⟨fun b o e => hk _ _ (d.keep _ _ e), fun b o e hm => by
    rcases frame_mem ok'.ff hm with h | h
    · have := Heap.lt_size (F.keep _ _ (d.keep _ _ e))
      rw [h, eL] at this
      exact Nat.lt_irrefl _ this
    · rw [eo] at h
      exact d.off _ _ e h⟩
theorem RCl_of {bs : List (Str × SV)} (fo : FnOk k.w q) (hlc : cellsOk q = true) (hb : 0 < k.b) (hbs : bindS q svs = some bs)
    (h : ∀ k' : EC, k'.w = k.w → k'.b = k.b - 1 → k'.X = k.X → RSt h0 q k' ⟨bs.reverse, o, nx⟩ (execs q.body k'.env) m o' n') : RCl h0 k o nx q.f svs m o' n' := fun ok dp ρ s vs Q E hl he hi hE =>
  wpAny_call (fn_enter ok.hh ok.fr ok.gd (Nat.le_succ _) (Nat.le_succ _) ok fo hb hbs hlc hl he hi fun k' ew eb eX hk ok' fr' ef eo cl er eL s₁ hs kp S₁ => by
    refine h k' ew eb eX ok' fr' (dp.enter he.F hk ok' eo eL) ρ s₁ _ _ hl hs fun ρ' m' cs e s' p l bm S => ?_
    refine fold_ fun P_ hP_ => ?_
    obtain ⟨n₂, hr, B, D, tk, tk', b1, b2, b3, b4, b5, b6, b7, b8, b9⟩ := bm
    refine hP_ ?_
    refine leave_fly (env := k'.env) (l := k'.outer) (ef ▸ ok'.ff) (ef ▸ ok'.fr) (by have := b7; rw [← ef]; exact this) fun h' F' U' => ?_
    obtain ⟨c1, c2, c3⟩ := cl hr m' cs n₂ b4 b2 b3
    refine hE ρ' e _ p l ⟨n₂, hr, B, D, tk, tk', ?_, c2, c3, c1, fun p hp => b5 p ?_, b6, by rw [← eo]; exact F', b8.trans U', ?_⟩ ?_
    · rw [← ew, ← eX]; exact b1
    · refine (?_ : p ∈ (cs ++ k'.raw) ++ n₂)
      rw [er, List.append_assoc]; exact List.mem_append_right _ hp
    · rw [← ew]; exact b9
    · obtain ⟨h2, t2, rfl⟩ := S₁.trans S
      exact ⟨h', t2, rfl⟩)
theorem RSt_head {x : Stmt} {rest : List Stmt} (h : RSt h0 q k st (exec x k.env) m o' n') : RSt h0 q k st (execs (x :: rest) k.env) m o' n' := fun ok fr dp ρ s Q E hl hs hE =>
  wpAny_execs_cons (h ok fr dp ρ s _ E hl hs hE)
theorem RSt_next {x : Stmt} {rest : List Stmt} {st' : St} (h1 : DS q k st (exec x k.env) .next st') (h : RSt h0 q k st' (execs rest k.env) m o' n') : RSt h0 q k st (execs (x :: rest) k.env) m o' n' := fun ok fr dp ρ s Q E hl hs hE =>
  wpAny_execs_cons (wpAny_mono (h1 ok fr ρ s E hl hs) (fun fl s' ⟨ρ', p, l, i, hs', S⟩ => by
    cases i
    exact h ok fr dp ρ' s' Q E l hs' fun ρ₂ m' cs e s₂ p₂ l₂ bm S₂ => hE ρ₂ m' cs e s₂ (p.trans p₂) l₂ bm (S.trans S₂)) fun _ _ z => z)
theorem RSt_if {e : Expr} {body orelse : List Stmt} {pos : Pos} {c : Bool} {o₁ : List (Nat × SO)} {n₁ : Nat} (h1 : DTX q k st e c o₁ n₁) (h2 : RSt h0 q k ⟨st.σ, o₁, n₁⟩ (execs (if c then body else orelse) k.env) m o' n') : RSt h0 q k st (exec (.If e body orelse pos) k.env) m o' n' := fun ok fr dp ρ s Q E hl hs hE =>
  wpAny_If (wpAny_mono (h1.run ok fr hl hs) (fun v s' ⟨ρ', p, l, i, hs', S⟩ => by
    subst i
    have h3 := h2 ok fr dp ρ' s' Q E l hs' fun ρ₂ m' cs e s₂ p₂ l₂ bm S₂ => hE ρ₂ m' cs e s₂ (p.trans p₂) l₂ bm (S.trans S₂)
    cases v with
    | true => exact h3
    | false => exact h3) fun _ _ z => z)
theorem raise_made {w : World} {A : Around} {E : Value → Shared → Prop} {env : Env} {x : Sem Value} {s : Shared} {Q : Flow → Shared → Prop} (hh : A.handled = none)
    (h : wpAny (model prg w) A x (fun v s₁ => ∃ e t D, v = .ref e ∧ (K w.params).In s₁.heap ∧ s₁.heap.get? e = some (excO t D) ∧ E (.ref e) s₁) E s) : wpAny (model prg w) A (raiseStmt env (some x) none) Q E s := by
  refine fold_ fun P_ hP_ => ?_
  obtain ⟨nm, q, N, bs, sn, sub, ab, col, dd, k0, k1, k2, k3, k5, hC⟩ := (refFacts w).ob
  refine hP_ ?_
  have hcB : (Value.ref 75 :: .ref 55 :: bmX).contains (.type "BaseException") = true := by decide
  unfold raiseStmt
  refine wpAny_bind (wpAny_mono h (fun v s₁ h₁ => ?_) fun _ _ x => x)
  refine fold_ fun P_ hP_ => ?_
  obtain ⟨e, t, D, rfl, X, he, hE⟩ := h₁
  refine hP_ ?_
  replace hC := X _ _ hC
  obtain ⟨hp, g, d, tk, os⟩ := s₁
  repeat (first | with_reducible refine wpAny_loadPart_at he ?_ | with_reducible refine wpAny_loadPart_at hC ?_ | (with_reducible refine wpAny_isSubtype_exc hC ?_; rw [hcB]) | wp_step)
  exact wpAny_raiseNew_none hh hE
end
end Mine
end
section
open PySem PySem.W PyProof.Rows PySem.Calls Builtin Builtin.ObjectAttr
namespace Mine
theorem fillR7 (w : World) (h : Heap) : (K w.params).In h → PySem.Challenge.rw_pq1324_01 = PySem.Challenge.rw_pq1324_01 → True := by
  k_fill
  intros; trivial
theorem keep75 (w : World) : keepIn (K w.params) (.ref 75) = true := by
  k_fill
  k_dflt k_is
noncomputable abbrev sRef : Str := Str.ofString "Refusal"
section
variable {h0 : Heap} {q : FnS} {k : EC} {st : St} {m : Str} {o o' o₁ : List (Nat × SO)} {nx n' n₁ f g : Nat} {svs : List SV}
theorem boom_of {ρ : List Addr} {s s' : Shared} {e D t : Addr} {tk : Tok} {tk' : Tok} (ok : k.Ok) (dp : Deep h0 k) (he : HE k ρ o s) (z1 : ∀ b o, s.heap.get? b = some o → s'.heap.get? b = some o) (z2 : s.heap.get? e = none) (z3 : s.heap.get? D = none) (z4 : e ≠ D)
    (z5 : s'.heap.get? e = some (excO t D)) (z6 : s'.heap.get? D = some (dictOf [ent k.w sMsg tk (.str m tk')] 1)) : Boom h0 k ρ o m e s' := by
  obtain ⟨n', io, N, d⟩ := he.N
  have fr := (pushX ok.B he.F ok.ff ok.fk).frames
  have inH : ∀ b ∈ (k.fenv :: k.outer).filterMap (·.frame), ∃ o, s.heap.get? b = some o := fun b hb => let ⟨_, o, ho, _⟩ := fr.mem hb; ⟨o, ho⟩
  have off : ∀ {b}, b ≠ e → b ∉ (k.fenv :: k.outer).filterMap (·.frame) → b ∉ e :: (k.fenv :: k.outer).filterMap (·.frame) := fun h1 h2 h => (List.mem_cons.mp h).elim h1 h2
  have ne : ∀ {b : Addr} {o : Obj}, s.heap.get? b = some o → b ≠ e := fun h q => by rw [q, z2] at h; cases h
  refine ⟨n', s'.heap, hideAll s'.heap (e :: (k.fenv :: k.outer).filterMap (·.frame)), D, tk, tk', io, fun p hp => ⟨z1 _ _ (N p hp).1, (N p hp).2⟩, d, he.F.keeps z1, fun p hp => hideAll_get _ (z1 _ _ (N p hp).1) (off (ne (N p hp).1) fun hm => ?_),
    fun b ob hb => hideAll_get _ (z1 _ _ (he.F.keep _ _ (dp.keep _ _ hb))) (off (ne (he.F.keep _ _ (dp.keep _ _ hb))) (dp.off _ _ hb)), ⟨fun b ob hb => of_hideAll _ hb, hideAll_none _ (.head _), ?_, ?_⟩, Heap.UpToSlots.refl _, hideAll_get _ z6 (off (Ne.symm z4) fun hm => ?_)⟩
  · rcases frame_mem ok.ff hm with h | h
    · exact (N p hp).2.1 h
    · obtain ⟨_, ob, ho, _⟩ := ok.B.frames.mem h
      have := (N p hp).2.2
      rw [ho] at this; cases this
  · exact funFrames_hide (fr.of_keeps fun b ob hb _ => ⟨ob, z1 _ _ hb, rfl⟩) fun env hm a ha => .tail _ (List.mem_filterMap.mpr ⟨env, hm, ha⟩)
  · exact ⟨_, _, z5, rfl, rfl, rfl, Nat.le_add_left 2 4, .inl rfl⟩
  · obtain ⟨ob, ho⟩ := inH _ hm
    rw [z3] at ho; cases ho
theorem RSt_raise {px cpos pos p' : Pos} {r : Nat} (hb : 0 < k.b) (hn : nmOf q st.σ sRef = some (.con (.ref 75))) :
    RSt h0 q k st (exec (.Raise (some (.Call (.Name sRef px) [.Constant (.str m) r p'] [] cpos)) none pos) k.env) m st.objs st.nx := fun ok fr dp ρ s Q E hl hs hE => by
  obtain ⟨mm, cs, g1, g2, g3⟩ := hs
  have ok₁ := ok.at mm (cs ++ k.raw)
  rw [arm_exec_Raise]
  simp only [evalOpt, Option.map]
  refine wpAny_bind (wpAny_standAt (raise_made (w := k.w) ok.hh (wpAny_bind (Call_ ?_))))
  refine wpAny_mono (DE_name hn ok₁ ρ s _ [] hl (names_fn ok fr g1 g2) g3 trivial) (fun v s₁ ⟨ρ₁, p₁, l₁, i₁, e₁, S₁⟩ => ?_) fun _ _ z => z
  cases i₁
  refine callWith_K ok.X (keep75 k.w) (wpAny_mono (DA_cons (nm := nmOf q st.σ) rfl DE_str DA_nil ok₁ ρ₁ s₁ _ [] l₁ ((names_fn ok fr g1 g2).mono p₁) e₁ trivial) (fun vs' s₂ ⟨ρ₂, p₂, l₂, i₂, e₂, S₂⟩ => ⟨ok.X.keeps e₂.F.keep, ?_⟩) fun _ _ z => z) rfl rfl
  obtain ⟨v, rfl, ⟨tk', rfl⟩⟩ := i₂.inv1
  refine make_ref (k := k.at mm (cs ++ k.raw)) ok₁ hb e₂ fun h' e D t tk tk₂ z1 z2 z3 z4 z5 z6 => ?_
  refine wpAny_bind (wpAny_standAt (wpAny_pure ⟨e, t, D, rfl, (ok.X.keeps e₂.F.keep).keeps z1, z5, hE ρ₂ mm cs e _ (p₁.trans p₂) l₂ (boom_of ok₁ ⟨dp.keep, dp.off⟩ e₂ z1 z2 z3 z4 z5 z6) ?_⟩))
  obtain ⟨h₂, t₂, rfl⟩ := S₁.trans S₂
  exact ⟨h', tk₂, rfl⟩
/-- a call that raises, as the whole of an assignment to a tuple -/
theorem callW {x : Str} {px pos : Pos} {e : Expr} {es : List Expr} {l : List SV} (hk : keepIn (K k.w.params) (.ref g) = true) (hs : (e :: es).all noStar = true) (h1 : nmOf q st.σ x = some (.con (.ref g)))
    (h2 : ∀ m ext, DA (k.at m ext) (nmOf q st.σ) st.objs st.nx pos (e :: es) l o₁ n₁) (h3 : ∀ m ext, RCl h0 (k.at m ext) o₁ n₁ g l m₀ o' n') (ok : k.Ok) (fr : Frm q k) (dp : Deep h0 k) {ρ : List Addr} {s : Shared} {Q : Value → Shared → Prop} {E : Value → Shared → Prop} (hl : ρ.length = st.nx) (hs' : HS q k ρ st.σ st.objs s)
    (hE : ∀ ρ' m' cs e s', ρ <+: ρ' → ρ'.length = n' → Boom h0 (k.at m' (cs ++ k.raw)) ρ' o' m₀ e s' → Same s s' → E (.ref e) s') : wpAny (model prg k.w) k.A (eval (.Call (.Name x px) (e :: es) [] pos) k.env) Q E s := by
  obtain ⟨mm, cs, g1, g2, g3⟩ := hs'
  have ok₁ := ok.at mm (cs ++ k.raw)
  simp only [List.all_cons, Bool.and_eq_true] at hs
  refine Call_ (wpAny_mono (DE_name h1 ok₁ ρ s _ [] hl (names_fn ok fr g1 g2) g3 trivial) (fun v s₁ ⟨ρ₁, p₁, l₁, i₁, e₁, S₁⟩ => ?_) fun _ _ z => z)
  cases i₁
  refine callWith_K ok.X hk (wpAny_mono (h2 mm (cs ++ k.raw) ok₁ ρ₁ s₁ _ [] l₁ ((names_fn ok fr g1 g2).mono p₁) e₁ trivial) (fun vs' s₂ ⟨ρ₂, p₂, l₂, i₂, e₂, S₂⟩ => ⟨ok.X.keeps e₂.F.keep, ?_⟩) fun _ _ z => z) (star_cons hs.1) (star_any hs.2)
  exact h3 mm (cs ++ k.raw) ok₁ ⟨dp.keep, dp.off⟩ ρ₂ s₂ vs' _ _ l₂ e₂ i₂ fun ρ₃ e s₃ p₃ l₃ bm S₃ => hE ρ₃ mm cs e s₃ (p₁.trans (p₂.trans p₃)) l₃ bm (S₁.trans (S₂.trans S₃))
theorem RSt_call {x : Str} {px cpos pos tp : Pos} {kk : Nat} {ts : List Expr} {e : Expr} {es : List Expr} {l : List SV} (hk : keepIn (K k.w.params) (.ref g) = true) (hs : (e :: es).all noStar = true) (h1 : nmOf q st.σ x = some (.con (.ref g)))
    (h2 : ∀ m ext, DA (k.at m ext) (nmOf q st.σ) st.objs st.nx cpos (e :: es) l o₁ n₁) (h3 : ∀ m ext, RCl h0 (k.at m ext) o₁ n₁ g l m₀ o' n') : RSt h0 q k st (exec (.Assign [.Tuple ts kk tp] (.Call (.Name x px) (e :: es) [] cpos) pos) k.env) m₀ o' n' := fun ok fr dp ρ s Q E hl hs' hE =>
  Assign_Tuple (callW hk hs h1 h2 h3 ok fr dp hl hs' hE) rfl rfl
end
end Mine
end
section
open PySem PySem.W PyProof.Rows PySem.Calls Builtin Builtin.ObjectAttr
namespace Mine
section
variable {k : EC} {nm : Str → Option SV} {o o' : Ob} {nx n' g : Nat} {a : SV} {m : Str}
/-- a call that is refused, by the law's own frame -/
theorem refused (hk : keepIn (K k.w.params) (.ref g) = true) (hb : 0 < k.b) (hout : k.outer = [])
    (h : ∀ k' : EC, k'.w = k.w → k'.b = k.b - 1 → k'.X = k.X → RCl k.h₀ k' o nx g [.none, a, .none] m o' n') : D k nm o nx [.con (.ref g), a] (fun vs => call (.ref 489) vs) Is (.str m) o' n' := fun ok ρ s E vs hl hn he hi => by
  refine wpAny_call (fn_enter (q := F489) ok.hh ok.fr ok.gd (Nat.le_succ _) (Nat.le_succ _) ok (ok489 k.w).1 hb rfl (ok489 k.w).2 hl he hi fun k' ew eb eX hk0 ok' fr' ef eo cl er eL s₁ hs kp S₁ => ?_)
  have lL : k.L < s.heap.objs.size := he.F.ns.lt
  have h0L : k.h₀.objs.size ≤ k'.L := by rw [eL]; exact Nat.le_of_lt (Nat.lt_of_le_of_lt he.F.above lL)
  have neL : k.L ≠ k'.L := by rw [eL]; exact Nat.ne_of_lt lL
  have dp : Deep k.h₀ k' := ⟨hk0, fun b ob e hm => by
    rcases frame_mem ok'.ff hm with h | h
    · have := Heap.lt_size e
      rw [h] at this
      exact Nat.lt_irrefl _ (Nat.lt_of_lt_of_le this h0L)
    · rw [eo, hout] at h
      rcases frame_mem ok.ff h with h | h
      · have := Heap.lt_size e
        rw [h] at this
        exact Nat.lt_irrefl _ (Nat.lt_of_lt_of_le this he.F.above)
      · cases h⟩
  have hnask : nmOf F489 [(Str.ofString "args", a), (Str.ofString "ask", .con (.ref g))] (Str.ofString "ask") = some (.con (.ref g)) := nm_of (by kernel_rfl)
  have hnargs : nmOf F489 [(Str.ofString "args", a), (Str.ofString "ask", .con (.ref g))] (Str.ofString "args") = some a := nm_of (by kernel_rfl)
  refine wpAny_execs_cons (wpAny_Try_except (wpAny_execs_cons (wpAny_Expr_any (callW (q := F489) (k := k') (st := ⟨[(Str.ofString "args", a), (Str.ofString "ask", .con (.ref g))], o, nx⟩) (l := [.none, a, .none]) (by rw [ew]; exact hk) rfl hnask
    (fun mm ext => DA_cons rfl DE_none (DA_cons rfl (DE_name hnargs) (DA_cons rfl DE_none DA_nil))) (fun mm ext => h (k'.at mm ext) ew eb eX) ok' fr' dp hl hs fun ρ' m' cs e s₂ p l bm S₂ => ?_) ?_ ?_)))
  · obtain ⟨n₂, hr, B, D, tk, tk', b1, b2, b3, b4, b5, b6, b7, b8, b9⟩ := bm
    have hB := b6
    have b7' : Fly B (k'.env :: k'.outer) e (.ref 75) D .none s₂.heap := ef ▸ b7
    obtain ⟨c1, c2, c3⟩ := cl hr m' cs n₂ b4 b2 b3
    refine note_fly (ef ▸ ok'.ff) (ef ▸ ok'.fr) b7' fun h₃ F₃ U₃ => land_fly (s := { s₂ with heap := h₃ }) F₃ fun h₄ F₄ U₄ => ?_
    have U₄' := b8.trans (U₃.trans U₄)
    have eBL : B.get? k'.L = none := (F₄.fr.mem (b := k'.L) (by rw [List.filterMap_cons, show k'.env.frame = some k'.L from ef ▸ ok'.ff]; exact .head _)).1
    have X : (K k.w.params).In k.h₀ := ok.X
    have Fr₄ : Fr k.h₀ k'.L h₄ m' := ⟨U₄'.ns b4.ns, fun b ob hb => F₄.st _ _ (hB _ _ hb), h0L⟩
    have hname : ∀ {A : Around} {px : Pos} {Q E : Value → Shared → Prop} {s : Shared} {mm : Str → Option Value}, Fr k.h₀ k'.L s.heap mm → Q (.ref 75) s → wpAny (model prg k'.w) A (eval (.Name sRef px) k'.env) Q E s := fun F hq => by
      rw [fr'.env]
      exact nameX_K F X (topRead_of ok.T) (glOk k.w (sRef, .ref 75) (by obtain ⟨v, e1, e2⟩ := lookT_mem (l := glTab) (y := sRef) (a := .con (.ref 75)) (by kernel_rfl); cases e1; exact e2)) hq fr'.fk (by kernel_rfl) (by decide)
    refine fold_ fun P_ hP_ => ?_
    obtain ⟨_, _, _, _, _, _, _, _, _, _, _, _, _, _, hC⟩ := (refFacts k.w).ob
    obtain ⟨oe, ws, he₄, hcl, hdi, hda, _, _⟩ := F₄.ob
    refine hP_ ?_
    refine wpAny_handleBy_cons (codeAny_handlers_test (hname (s := { s₂ with heap := h₄ }) Fr₄ ?_)) (by intro q; cases q)
    refine wpAny_excMatches_sub_self (Fr₄.keep _ _ (X _ _ hC)) he₄ hcl (by decide) (codeAny_handlers_suite_as ?_)
    refine land_fly (s := { s₂ with heap := h₄ }) F₄ fun h₅ F₅ U₅ => ?_
    have U₅' := U₄'.trans U₅
    have hst : ∀ {A : Around} {y : Str} {v : Value} {Q : Unit → Shared → Prop} {E : Value → Shared → Prop} {s : Shared} {mm : Str → Option Value}, s.heap.Ns k'.L mm → (F489.sc.names.lookup y = some .local) → (∀ h', h'.Ns k'.L (fun x => if x = y then some v else mm x) → Heap.SameBut k'.L s.heap h' → Q () { s with heap := h', toks := s.toks + 1 }) → wpAny (model prg k'.w) A (storeName k'.env y v) Q E s := fun hn hk hq => by
      rw [fr'.env]
      exact wpAny_storeName_local hk hn hq rfl
    refine hst (s := { s₂ with heap := h₅ }) (U₅'.ns b4.ns) (by kernel_rfl) fun h₆ hn₆ hs₆ => ?_
    have keepB : ∀ b ob, B.get? b = some ob → h₆.get? b = some ob := fun b ob hb => (hs₆.2 b fun q => by rw [q, eBL] at hb; cases hb).trans (F₅.st _ _ hb)
    have Fr₆ : Fr k.h₀ k'.L h₆ (fun x => if x = Str.ofString "refusal" then some (.ref e) else m' x) := ⟨hn₆, fun b ob hb => keepB _ _ (hB _ _ hb), h0L⟩
    obtain ⟨oe₅, ws₅, he₅, hcl₅, hdi₅, hda₅, _, _⟩ := F₅.ob
    have eL : e ≠ k'.L := fun q => by
      obtain ⟨_, ol, hol, hnf⟩ := F₅.fr.mem (b := k'.L) (by rw [List.filterMap_cons, show k'.env.frame = some k'.L from ef ▸ ok'.ff]; exact .head _)
      rw [← q, he₅] at hol; cases hol
      exact hnf _ hda₅
    have he₆ : h₆.get? e = some oe₅ := (hs₆.2 e eL).trans he₅
    have I₆ : InstAt h₆ e oe₅ 75 (some (dictOf [ent k'.w sMsg tk (.str m tk')] 1)) := ⟨he₆, hcl₅, by obtain ⟨_, _, d, _⟩ := oe₅; cases hda₅; rfl, by rw [hdi₅]; exact keepB _ _ b9⟩
    have hnl : ∀ {A : Around} {px : Pos} {v : Value} {Q E : Value → Shared → Prop} {s : Shared} {mm : Str → Option Value}, Fr k.h₀ k'.L s.heap mm → mm (Str.ofString "refusal") = some v → Q v s → wpAny (model prg k'.w) A (eval (.Name (Str.ofString "refusal") px) k'.env) Q E s := fun F hv hq => by
      rw [fr'.env]
      exact nameX_L F hv hq fr'.fk (by kernel_rfl) (by decide)
    have hgo : ∀ {A : Around} {y : Str} {pos : Pos} {Q : Unit → Shared → Prop} {E : Value → Shared → Prop} {s : Shared} {mm : Str → Option Value}, s.heap.Ns k'.L mm → (F489.sc.names.lookup y = some .local) → (∀ h' m', h'.Ns k'.L m' → Heap.SameBut k'.L s.heap h' → Q () { s with heap := h', toks := s.toks + 1 }) → wpAny (model prg k'.w) A (do bindName k'.env y .none; unbindBehindTheSuite k'.env y pos) Q E s := fun hn hk hq => by
      rw [fr'.env]
      exact wpAny_nameGoes hk hn rfl hq
    have X₆ : (K k'.w.params).In h₆ := by rw [ew]; exact X.keeps fun b ob hb => keepB _ _ (hB _ _ hb)
    refine wpAny_execs_cons (wpAny_Return_some (Attribute_any_ (hnl (s := { s₂ with heap := h₆, toks := s₂.toks + 1 }) Fr₆ (if_pos rfl) (get_exc (s := { s₂ with heap := h₆, toks := s₂.toks + 1 }) (v := .str m tk') (y := sMsg) X₆ I₆ ?_ (refFacts k'.w).ms rfl ?_)) rfl))
    · have : ([ent k'.w sMsg tk (Value.str m tk')] : List DictEntry).find? (fun x => x.key.isStr sMsg) = some (ent k'.w sMsg tk (Value.str m tk')) := List.find?_cons_of_pos (by rw [isStr_ent]; simp)
      unfold lookIn
      show (match ([ent k'.w sMsg tk (Value.str m tk')] : List DictEntry).find? (fun x => x.key.isStr sMsg) with
        | some e => some (some e.val)
        | none => if ([ent k'.w sMsg tk (Value.str m tk')] : List DictEntry).any (·.refKey) then none else some none) = _
      rw [this]
    · refine hgo (s := { s₂ with heap := h₆, toks := s₂.toks + 1 + 1 }) hn₆ (by kernel_rfl) fun h₇ m₇ hn₇ hs₇ => ?_
      have kp₇ : ∀ b ob, b ≠ k'.L → h₅.get? b = some ob → h₇.get? b = some ob := fun b ob hne hb => (hs₇.2 b hne).trans ((hs₆.2 b hne).trans hb)
      have keepB₇ : ∀ b ob, B.get? b = some ob → h₇.get? b = some ob := fun b ob hb => kp₇ b ob (fun q => by rw [q, eBL] at hb; cases hb) (F₅.st _ _ hb)
      refine ⟨ρ', p, l, ⟨tk', rfl⟩, ⟨⟨?_, fun b ob hb => keepB₇ _ _ (hB _ _ hb), he.F.above⟩, n₂, by rw [← ew, ← eX]; exact b1, fun q hq => ⟨keepB₇ _ _ (b5 q ?_), (c2 q hq).2⟩, c3⟩, ?_⟩
      · exact ((U₅'.ns c1.ns).sameBut hs₆ neL).sameBut hs₇ neL
      · refine (?_ : q ∈ (cs ++ k'.raw) ++ n₂)
        rw [er, List.append_assoc]; exact List.mem_append_right _ hq
      · obtain ⟨h2, t2, rfl⟩ := S₁.trans S₂
        exact ⟨h₇, _, rfl⟩
  · rw [fr'.env]; simp [interactive, fr'.fk]
  · rfl
end
end Mine
end
section
open PySem PySem.W PyProof.Rows PySem.Calls Builtin Builtin.ObjectAttr
namespace Mine
/-! # Runs that end in a refusal -/
noncomputable def bO {α β : Type} (x : Option α) (f : α → Option β) : Option β := @Option.rec α (fun _ => Option β) none f x
theorem bO_inv {α β : Type} {x : Option α} {f : α → Option β} {b : β} (h : bO x f = some b) : ∃ a, x = some a ∧ f a = some b := by
  cases x with
  | none => cases h
  | some a => exact ⟨a, rfl, h⟩
noncomputable def gB {β : Type} (b : Bool) (x : Option β) : Option β := @Bool.rec (fun _ => Option β) none x b
theorem gB_inv {β : Type} {b : Bool} {x : Option β} {y : β} (h : gB b x = some y) : b = true ∧ x = some y := by
  cases b with
  | false => cases h
  | true => exact ⟨rfl, h⟩
section
variable {G : Prop} {α : Type}
noncomputable def tIf (e : Stmt) (F : Expr → List Stmt → List Stmt → Pos → Option α) : Option α := if h : e.ctorIdx = 12 then @Stmt.If.elim (fun _ => Option α) e h F else none
theorem inv_if {e : Stmt} {F : Expr → List Stmt → List Stmt → Pos → Option α} {r : α} (h : tIf e F = some r) (k : ∀ t b b2 p, F t b b2 p = some r → e = .If t b b2 p → G) : G := by
  by_cases hi : e.ctorIdx = 12
  · exact @Stmt.If.elim (fun (e : Stmt) => tIf e F = some r → (∀ t b b2 p, F t b b2 p = some r → e = .If t b b2 p → G) → G) e hi (fun t b b2 p h k => k t b b2 p h rfl) h k
  · exact dead_o hi h
noncomputable def tAssign (e : Stmt) (F : List Expr → Expr → Pos → Option α) : Option α := if h : e.ctorIdx = 5 then @Stmt.Assign.elim (fun _ => Option α) e h F else none
theorem inv_assign {e : Stmt} {F : List Expr → Expr → Pos → Option α} {r : α} (h : tAssign e F = some r) (k : ∀ ts v p, F ts v p = some r → e = .Assign ts v p → G) : G := by
  by_cases hi : e.ctorIdx = 5
  · exact @Stmt.Assign.elim (fun (e : Stmt) => tAssign e F = some r → (∀ ts v p, F ts v p = some r → e = .Assign ts v p → G) → G) e hi (fun ts v p h k => k ts v p h rfl) h k
  · exact dead_o hi h
noncomputable def tRaise (e : Stmt) (F : Option Expr → Option Expr → Pos → Option α) : Option α := if h : e.ctorIdx = 16 then @Stmt.Raise.elim (fun _ => Option α) e h F else none
theorem inv_raise {e : Stmt} {F : Option Expr → Option Expr → Pos → Option α} {r : α} (h : tRaise e F = some r) (k : ∀ x c p, F x c p = some r → e = .Raise x c p → G) : G := by
  by_cases hi : e.ctorIdx = 16
  · exact @Stmt.Raise.elim (fun (e : Stmt) => tRaise e F = some r → (∀ x c p, F x c p = some r → e = .Raise x c p → G) → G) e hi (fun x c p h k => k x c p h rfl) h k
  · exact dead_o hi h
end
section
variable {G : Prop} {α : Type}
noncomputable def tRet (e : Stmt) (F : Option Expr → Pos → Option α) : Option α := if h : e.ctorIdx = 3 then @Stmt.Return.elim (fun _ => Option α) e h F else none
theorem inv_ret {e : Stmt} {F : Option Expr → Pos → Option α} {r : α} (h : tRet e F = some r) (k : ∀ x p, F x p = some r → e = .Return x p → G) : G := by
  by_cases hi : e.ctorIdx = 3
  · exact @Stmt.Return.elim (fun (e : Stmt) => tRet e F = some r → (∀ x p, F x p = some r → e = .Return x p → G) → G) e hi (fun x p h k => k x p h rfl) h k
  · exact dead_o hi h
end
noncomputable abbrev RR := Option (Str × Ob × Nat)
noncomputable section
noncomputable def raiseM (q : FnS) (σ : List (Str × SV)) (t : Stmt) : Option Str := tRaise t fun e c _ => nn c (bd e fun e => oCall e fun f es kws _ => nil_ kws (oName f fun x _ => one es fun a => oConst a fun k _ _ => oCStr k fun m => gB (seq x sRef) (bO (conN (nmE q σ x)) fun g => gB (Nat.beq g 75) (some m))))
noncomputable def rsB (q : FnS) (st : St) : List Stmt → RR
  | [] => none
  | t :: _ => bO (raiseM q st.σ t) fun m => some (m, st.objs, st.nx)
noncomputable def rsIf (r : Rec) (q : FnS) (st : St) (e : Expr) (b : List Stmt) : RR := bO (r.T (fcx q st.σ) st.objs st.nx e) fun p => gB p.1 (rsB q ⟨st.σ, p.2.1, p.2.2⟩ b)
noncomputable def rsF (c : Cfg) (R : FnS → St → RR) (g : Nat) (l : List SV) (o : Ob) (n : Nat) : RR := bO (lkN c.fns g) fun q => bO (bindE q l) fun bs => R q ⟨bs.reverse, o, n⟩
noncomputable def rsA (r : Rec) (c : Cfg) (R : FnS → St → RR) (q : FnS) (st : St) (g : Nat) : List Expr → RR
  | [] => none
  | e :: es => bO (evL (r.E (fcx q st.σ)) (e :: es) st.objs st.nx) fun p => rsF c R g p.1 p.2.1 p.2.2
noncomputable def rsC (r : Rec) (c : Cfg) (R : FnS → St → RR) (q : FnS) (st : St) (t : Stmt) : RR := tAssign t fun ts e _ => one ts fun a => oTuple a fun _ _ _ => oCall e fun f es kws _ => nil_ kws (oName f fun x _ => bO (conN (nmE q st.σ x)) fun g => gB (memN g keepN) (rsA r c R q st g es))
noncomputable def rs1 (r : Rec) (c : Cfg) (R : FnS → St → RR) (q : FnS) (st : St) (t : Stmt) : RR := oo (tIf t fun e b _ _ => rsIf r q st e b) (rsC r c R q st t)
noncomputable def rsL (r : Rec) (c : Cfg) (R : FnS → St → RR) (q : FnS) : List Stmt → St → RR
  | [], _ => none
  | t :: l, st => oo (rs1 r c R q st t) (bd2 (stepS r q st t) fun f st' => nxt f (rsL r c R q l st'))
noncomputable def rs (c : Cfg) (n : Nat) : Nat → FnS → St → RR
  | 0, _, _ => none
  | d + 1, q, st => rsL (ev c n) c (rs c n d) q q.body st
end
section
variable {w : World} {c : Cfg} {r : Rec} {n d : Nat} {q : FnS} {k : EC} {st : St} {t : Stmt} {h0 : Heap} {m : Str} {o o' : Ob} {nx n' : Nat}
theorem conN_ok {x : Option SV} {g : Nat} (h : conN x = some g) : x = some (.con (.ref g)) := by
  refine inv_o h ?_; clear h; intro v h e
  refine inv_rc h ?_; clear h; intro w h e0; subst e0
  refine inv_vref h ?_; clear h; intro m h e0; subst e0
  cases h
  exact e
theorem rsB_ok {b : List Stmt} (hb : 0 < k.b) (h : rsB q st b = some (m, o', n')) : RSt h0 q k st (execs b k.env) m o' n' := by
  cases b with
  | nil => cases h
  | cons t b =>
    obtain ⟨m₁, h1, h2⟩ := bO_inv h
    cases h2
    refine inv_raise h1 ?_; clear h1; intro e cs p h1 e0; subst e0
    refine inv_no h1 ?_; clear h1; intro h1 e0; subst e0
    refine inv_o h1 ?_; clear h1; intro e h1 e0; subst e0
    refine inv_call h1 ?_; clear h1; intro f es kws p h1 e0; subst e0
    refine inv_nil h1 ?_; clear h1; intro h1 e0; subst e0
    refine inv_name h1 ?_; clear h1; intro x px h1 e0; subst e0
    refine inv_one h1 ?_; clear h1; intro a h1 e0; subst e0
    refine inv_const h1 ?_; clear h1; intro k' q' p' h1 e0; subst e0
    refine inv_cstr h1 ?_; clear h1; intro m' h1 e0; subst e0
    refine fold_ fun P_ hP_ => ?_
    obtain ⟨e1, h1⟩ := gB_inv h1
    obtain ⟨g, e2, h1⟩ := bO_inv h1
    obtain ⟨e3, h1⟩ := gB_inv h1
    cases h1
    have e3 := Nat.eq_of_beq_eq_true e3
    subst e3
    have e1 := seq_iff.mp e1
    subst e1
    refine hP_ ?_
    exact RSt_head (RSt_raise hb (nm_of (conN_ok e2)))
theorem rsIf_ok {e : Expr} {b b' : List Stmt} {pos : Pos} (hr : Snd w c r n) (hk : KS w c n k) (hb : 0 < k.b) (h : rsIf r q st e b = some (m, o', n')) : RSt h0 q k st (exec (.If e b b' pos) k.env) m o' n' := fun ok fr => by
  refine fold_ fun P_ hP_ => ?_
  obtain ⟨⟨t, o₁, n₁⟩, h1, h2⟩ := bO_inv h
  obtain ⟨e1, h2⟩ := gB_inv h2
  dsimp only at e1
  subst e1
  refine hP_ ?_
  exact RSt_if (fT hr.T hk fr h1) (rsB_ok (b := b) hb h2) ok fr
theorem rsF_ok {R : FnS → St → RR} {g : Nat} {l : List SV} (ht : TabS w c) (hw : k.w = w) (hb : 0 < k.b) (hR : ∀ q st m o' n', R q st = some (m, o', n') → ∀ k' : EC, k'.w = k.w → k'.b = k.b - 1 → k'.X = k.X → RSt h0 q k' st (execs q.body k'.env) m o' n') (h : rsF c R g l o nx = some (m, o', n')) : RCl h0 k o nx g l m o' n' := by
  refine fold_ fun P_ hP_ => ?_
  obtain ⟨q, h1, h2⟩ := bO_inv h
  obtain ⟨bs, h2, h3⟩ := bO_inv h2
  obtain ⟨e1, e2, e3⟩ := ht.fn _ _ h1
  subst e1
  refine hP_ ?_
  exact RCl_of (by rw [hw]; exact e2) e3 hb (bindE_eq h2) fun k' ew eb eX => hR _ _ _ _ _ h3 k' ew eb eX
theorem rs1_ok {R : FnS → St → RR} (ht : TabS w c) (hr : Snd w c r n) (hk : KS w c n k) (hb : 0 < k.b) (hR : ∀ q st m o' n', R q st = some (m, o', n') → ∀ k' : EC, k'.w = k.w → k'.b = k.b - 1 → k'.X = k.X → RSt h0 q k' st (execs q.body k'.env) m o' n') (h : rs1 r c R q st t = some (m, o', n')) : RSt h0 q k st (exec t k.env) m o' n' := by
  rcases oo_inv h with h1 | h1 <;> clear h
  · refine inv_if h1 ?_; clear h1; intro e b b2 p h e0; subst e0
    exact rsIf_ok hr hk hb h
  · refine inv_assign h1 ?_; clear h1; intro ts e p h e0; subst e0
    refine inv_one h ?_; clear h; intro a h e0; subst e0
    refine inv_tuple h ?_; clear h; intro es0 q0 p0 h e0; subst e0
    refine inv_call h ?_; clear h; intro f es kws cpos h e0; subst e0
    refine inv_nil h ?_; clear h; intro h e0; subst e0
    refine inv_name h ?_; clear h; intro x px h e0; subst e0
    obtain ⟨g, h1, h⟩ := bO_inv h
    obtain ⟨h2, h⟩ := gB_inv h
    cases es with
    | nil => cases h
    | cons e es =>
      refine fold_ fun P_ hP_ => ?_
      obtain ⟨⟨l, o₁, n₁⟩, h3, h4⟩ := bO_inv h
      refine hP_ ?_
      refine fun ok fr => RSt_call (g := g) (l := l) (o₁ := o₁) (n₁ := n₁) (by rw [hk.hw]; exact ht.kp _ h2) (evL_ok (k := k.at (fun _ => none) []) (pos := cpos) hr.E (hk.ctx fr) h3).2 (nm_of (conN_ok h1)) (fun mm ext => ?_) (fun mm ext => rsF_ok (k := k.at mm ext) ht hk.hw hb hR h4) ok fr
      have := (evL_ok (pos := cpos) hr.E (hk.ctx fr (m := mm) (ext := ext)) h3).1
      dsimp only [fcx] at this
      rw [nmE_eq] at this
      exact this
theorem rsL_ok {R : FnS → St → RR} (ht : TabS w c) (hr : Snd w c r n) (hk : KS w c n k) (hb : 0 < k.b) (hR : ∀ q st m o' n', R q st = some (m, o', n') → ∀ k' : EC, k'.w = k.w → k'.b = k.b - 1 → k'.X = k.X → RSt h0 q k' st (execs q.body k'.env) m o' n') : ∀ {l : List Stmt} {st : St}, rsL r c R q l st = some (m, o', n') → RSt h0 q k st (execs l k.env) m o' n'
  | [], _, h => nomatch h
  | t :: l, st, h => by
    rcases oo_inv h with h1 | h1 <;> clear h
    · exact RSt_head (rs1_ok ht hr hk hb hR h1)
    · refine inv_o2 h1 ?_; clear h1; intro f st' h h1
      refine inv_nxt h ?_; clear h; intro h e0; subst e0
      exact RSt_next (stepS_ok hr hk h1) (rsL_ok ht hr hk hb hR h)
theorem rs_ok (ht : TabS w c) (H : HookS w c) : ∀ {d : Nat} {q : FnS} {st : St} {m : Str} {o' : Ob} {n' : Nat}, rs c n d q st = some (m, o', n') → ∀ k : EC, k.w = w → Orc c k.X → n + c.mg + d ≤ k.b → RSt h0 q k st (execs q.body k.env) m o' n'
  | 0, _, _, _, _, _, h, _, _, _, _ => nomatch h
  | d + 1, q, st, m, o', n', h, k, hw, ho, hb => rsL_ok ht (ev_ok ht H n) ⟨hw, ho, by omega⟩ (by omega) (fun q st m o' n' h k' ew eb eX => rs_ok ht H h k' (ew.trans hw) (eX ▸ ho) (by omega)) h
end
end Mine
end
section
open PySem PySem.W PyProof.Rows PySem.Calls Builtin Builtin.ObjectAttr
namespace Mine
/-! # What the law asks of the refusals -/
noncomputable section
noncomputable def askG (c : Cfg) (R : FnS → St → RR) (o : Ob) (n : Nat) (l : List SV) : RR := bd2 (two l) fun u a => rc u fun v => vRef v fun g => gB (memN g keepN) (rsF c R g [.none, a, .none] o n)
noncomputable def askE (r : Rec) (c : Cfg) (R : FnS → St → RR) (q : FnS) (st : St) (op : CmpOp) (m' : Str) : List Expr → RT
  | [] => none
  | e :: es => bO (evL (r.E (fcx q st.σ)) (e :: es) st.objs st.nx) fun p => bO (askG c R p.2.1 p.2.2 p.1) fun z => bO (eCmp z.2.1 op (.str z.1) (.str m')) fun t => some (t, z.2.1, z.2.2)
noncomputable def askR (r : Rec) (c : Cfg) (R : FnS → St → RR) (q : FnS) (st : St) (e : Expr) : RT := oComp e fun f ops es2 _ => one ops fun op => oCall f fun f es kws _ => nil_ kws (oName f fun x _ => one es2 fun a => oConst a fun k _ _ => oCStr k fun m' => bO (conN (nmE q st.σ x)) fun f => gB (Nat.beq f 489) (askE r c R q st op m' es))
noncomputable def isNil : List Stmt → Bool
  | [] => true
  | _ => false
noncomputable def lastR (r : Rec) (c : Cfg) (R : FnS → St → RR) (q : FnS) : List Stmt → St → Option Bool
  | [], _ => none
  | t :: l, st => oo (tIf t fun e _ b' _ => gB (isNil b') (bO (askR r c R q st e) fun p => gB (!p.1) (lastR r c R q l ⟨st.σ, p.2.1, p.2.2⟩))) (tRet t fun x _ => bd x fun e => bO (askR r c R q st e) fun p => some p.1)
end
section
variable {w : World} {c : Cfg} {r : Rec} {n d : Nat} {q : FnS} {k : EC} {st : St} {R : FnS → St → RR} {o' : Ob} {n' : Nat}
/-- what is asked of a refusing function's run -/
structure RunOk (w : World) (c : Cfg) (R : FnS → St → RR) (b : Nat) : Prop where
  ok : ∀ h0 q st m o' n', R q st = some (m, o', n') → ∀ k : EC, k.w = w → Orc c k.X → b ≤ k.b → RSt h0 q k st (execs q.body k.env) m o' n'
theorem askG_ok {b : Nat} {l : List SV} {o : Ob} {nx : Nat} {m : Str} {nm : Str → Option SV} (ht : TabS w c) (hR : RunOk w c R b) (hw : k.w = w) (ho : Orc c k.X) (hb : b + 2 ≤ k.b) (hout : k.outer = []) (h : askG c R o nx l = some (m, o', n')) : D k nm o nx l (fun vs => call (.ref 489) vs) Is (.str m) o' n' := by
  refine inv_o2 h ?_; clear h; intro u a h h0
  refine inv_rc h ?_; clear h; intro v h e0; subst e0
  refine inv_vref h ?_; clear h; intro g h e0; subst e0
  cases two_eq h0
  obtain ⟨h1, h2⟩ := gB_inv h
  exact refused (by rw [hw]; exact ht.kp _ h1) (by omega) hout fun k' ew eb eX => rsF_ok ht (ew.trans hw) (by omega) (fun q st m o' n' h k'' ew' eb' eX' => hR.ok _ _ _ _ _ _ h k'' (ew'.trans (ew.trans hw)) (by rw [eX', eX]; exact ho) (by omega)) h2
theorem askR_inv {e : Expr} {t : Bool} (h : askR r c R q st e = some (t, o', n')) : ∃ x px e₁ es cpos op m' i p₂ pos l o₁ n₁ m, e = .Compare (.Call (.Name x px) (e₁ :: es) [] cpos) [op] [.Constant (.str m') i p₂] pos ∧
    nmE q st.σ x = some (.con (.ref 489)) ∧ evL (r.E (fcx q st.σ)) (e₁ :: es) st.objs st.nx = some (l, o₁, n₁) ∧ askG c R o₁ n₁ l = some (m, o', n') ∧ eCmp o' op (.str m) (.str m') = some t := by
  refine inv_comp h ?_; clear h; intro f ops es2 pos h e0; subst e0
  refine inv_one h ?_; clear h; intro op h e0; subst e0
  refine inv_call h ?_; clear h; intro f es kws cpos h e0; subst e0
  refine inv_nil h ?_; clear h; intro h e0; subst e0
  refine inv_name h ?_; clear h; intro x px h e0; subst e0
  refine inv_one h ?_; clear h; intro a h e0; subst e0
  refine inv_const h ?_; clear h; intro k' i p₂ h e0; subst e0
  refine inv_cstr h ?_; clear h; intro m' h e0; subst e0
  obtain ⟨f, h1, h⟩ := bO_inv h
  obtain ⟨h2, h⟩ := gB_inv h
  have h2 := Nat.eq_of_beq_eq_true h2
  subst h2
  cases es with
  | nil => cases h
  | cons e₁ es =>
    refine fold_ fun P_ hP_ => ?_
    obtain ⟨⟨l, o₁, n₁⟩, h3, h⟩ := bO_inv h
    obtain ⟨⟨m, o₂, n₂⟩, h4, h⟩ := bO_inv h
    obtain ⟨t, h5, h⟩ := bO_inv h
    cases h
    refine hP_ ?_
    exact ⟨_, _, _, _, _, _, _, _, _, _, l, o₁, n₁, m, rfl, conN_ok h1, h3, h4, h5⟩
theorem ask_call {x : Str} {px cpos : Pos} {e₁ : Expr} {es : List Expr} {l : List SV} {o₁ : Ob} {n₁ b : Nat} {m : Str} (ht : TabS w c) (hr : Snd w c r n) (hk : KS w c n k) (fr : Frm q k) (hR : RunOk w c R b) (hb : b + 2 ≤ k.b) (hout : k.outer = []) (h1 : nmE q st.σ x = some (.con (.ref 489)))
    (h2 : evL (r.E (fcx q st.σ)) (e₁ :: es) st.objs st.nx = some (l, o₁, n₁)) (h3 : askG c R o₁ n₁ l = some (m, o', n')) (mm : Str → Option Value) (ext : List (Addr × Obj)) : DE (k.at mm ext) (nmOf q st.σ) st.objs st.nx (.Call (.Name x px) (e₁ :: es) [] cpos) (.str m) o' n' := by
  have h4 := evL_ok (pos := cpos) hr.E (hk.ctx fr (m := mm) (ext := ext)) h2
  dsimp only [fcx] at h4
  rw [nmE_eq] at h4
  exact DE_callK (by rw [show (k.at mm ext).w = w from hk.hw]; exact ht.kp 489 (by kernel_rfl)) h4.2 (DE_name (nm_of h1)) h4.1 (askG_ok (k := k.at mm ext) ht hR hk.hw hk.orc hb hout h3)
theorem lastR_ok {b : Nat} (ht : TabS w c) (hr : Snd w c r n) (hk : KS w c n k) (hR : RunOk w c R b) (hb : b + 2 ≤ k.b) (hout : k.outer = []) : ∀ {l : List Stmt} {st : St} {t : Bool}, lastR r c R q l st = some t → ∃ st', DS q k st (execs l k.env) (.ret (.bool t)) st'
  | [], _, _, h => nomatch h
  | s :: l, st, t, h => by
    rcases oo_inv h with h0 | h0 <;> clear h
    · refine inv_if h0 ?_; clear h0; intro e b₁ b' pos h e0; subst e0
      obtain ⟨h1, h⟩ := gB_inv h
      obtain ⟨⟨t₁, o₁, n₁⟩, h2, h⟩ := bO_inv h
      obtain ⟨h3, h⟩ := gB_inv h
      cases b' with
      | cons _ _ => cases h1
      | nil =>
        cases t₁ with
        | true => cases h3
        | false =>
          obtain ⟨st', h5⟩ := lastR_ok ht hr hk hR hb hout h
          refine ⟨st', DS_cons (DSF.ds fun fr => ?_) h5⟩
          refine fold_ fun P_ hP_ => ?_
          obtain ⟨x, px, e₁, es, cpos, op, m', i, p₂, pos, la, o₂, n₂, m, rfl, g1, g2, g3, g4⟩ := askR_inv h2
          refine hP_ ?_
          exact DS_if (c := false) (fun mm ext => DT_cmp rfl (ask_call ht hr hk fr hR hb hout g1 g2 g3 mm ext) DE_str (eCmp_ok g4)) DS_nil
    · refine inv_ret h0 ?_; clear h0; intro x pos h e0; subst e0
      refine inv_o h ?_; clear h; intro e h e0; subst e0
      refine fold_ fun P_ hP_ => ?_
      obtain ⟨⟨t₁, o₁, n₁⟩, h2, h⟩ := bO_inv h
      cases h
      obtain ⟨x, px, e₁, es, cpos, op, m', i, p₂, pos, la, o₂, n₂, m, rfl, g1, g2, g3, g4⟩ := askR_inv h2
      refine hP_ ?_
      exact ⟨_, DS_ret (DSF.ds fun fr => DS_return fun mm ext => DE_cmp rfl (ask_call ht hr hk fr hR hb hout g1 g2 g3 mm ext) DE_str (eCmp_ok g4))⟩
theorem runOk (ht : TabS w c) (H : HookS w c) : RunOk w c (rs c n d) (n + c.mg + d) := ⟨fun h0 q st m o' n' h k hw ho hb => rs_ok ht H h k hw ho hb⟩
end
end Mine
end
section
namespace Mine
/-! # The runs of the law -/
noncomputable def FL (fa : Addr) (cd : Value) : FnS := ⟨fa, Str.ofString "law", [Str.ofString "script"], [], BF55, CF55, cd⟩
noncomputable def cfgL (ops : List Op) : Cfg := ⟨fnTab, iniTab, ops, true, 130⟩
noncomputable def laps : List Bool → List Op
  | [] => []
  | t :: l => .tag t :: .arg :: laps l
noncomputable def ops1 (ts : List Bool) : List Op := .grab 5 (Int.ofNat ts.length) :: laps ts
noncomputable def dfls : List Bool → List Op
  | [] => [.arg]
  | false :: l => .grab 2 0 :: dfls l
  | true :: l => .grab 2 1 :: .arg :: dfls l
noncomputable def ops2 (ds : List Bool) : List Op := .grab 4 (Int.ofNat ds.length) :: dfls ds
noncomputable def sShelf0 : Str := Str.ofString "shelf"
noncomputable def body1 : List Stmt := (BF55.drop 1).take 10
noncomputable def body2 : List Stmt := (BF55.drop 11).take 16
noncomputable def body3 : List Stmt := BF55.drop 27
noncomputable def st1 (σr : List (Str × SV)) : St := ⟨(sShelf0, .ref 0) :: σr, [(0, .shelf 0)], 1⟩
noncomputable def chk1 (m : Nat) (r : RS) : Bool := bdT (bd2 r fun f st => nxt f (bd (lkS st.σ sShelf0) fun v => rf v fun n => gd (Nat.beq n 0) (bd (lkN st.objs 0) fun so => soShelf so fun j => gd (Nat.beq j (1 + (m + m))) (some st)))) fun _ => true
noncomputable def chk2 (fa : Addr) (cd : Value) (ops : List Op) (r : RS) : Bool := bdT (bd2 r fun f st => nxt f (bd (lastR (ev (cfgL ops) 59) (cfgL ops) (rs (cfgL ops) 59 3) (FL fa cd) body3 st) fun b => gd b (some st))) fun _ => true
noncomputable def allN : Nat → (List Bool → Bool) → Bool
  | 0, f => f []
  | n + 1, f => gdT (allN n (fun l => f (false :: l))) (allN n (fun l => f (true :: l)))
noncomputable def run1L (fa : Addr) (cd : Value) (σr : List (Str × SV)) (ts : List Bool) : RS := (ev (cfgL (ops1 ts)) 60).S (FL fa cd) (st1 σr) body1
noncomputable def run2L (fa : Addr) (cd : Value) (σr : List (Str × SV)) (ds : List Bool) : RS := (ev (cfgL (ops2 ds)) 60).S (FL fa cd) (st1 σr) body2
theorem allN_s {n : Nat} {f : List Bool → Bool} (h0 : allN n (fun l => f (false :: l)) = true) (h1 : allN n (fun l => f (true :: l)) = true) : allN (n + 1) f = true := by
  show gdT _ _ = true
  rw [h0, h1]; rfl
section
variable (fa : Addr) (cd : Value) (σr : List (Str × SV))
theorem first0 : allN 0 (fun ts => chk1 0 (run1L fa cd σr ts)) = true := by kernel_rfl
theorem first1 : allN 1 (fun ts => chk1 1 (run1L fa cd σr ts)) = true := by kernel_rfl
theorem first2 : allN 2 (fun ts => chk1 2 (run1L fa cd σr ts)) = true := by kernel_rfl
theorem first3 : allN 3 (fun ts => chk1 3 (run1L fa cd σr ts)) = true := by kernel_rfl
theorem first4a : allN 3 (fun ts => chk1 4 (run1L fa cd σr (false :: ts))) = true := by kernel_rfl
theorem first4b : allN 3 (fun ts => chk1 4 (run1L fa cd σr (true :: ts))) = true := by kernel_rfl
theorem first4 : allN 4 (fun ts => chk1 4 (run1L fa cd σr ts)) = true := allN_s (first4a fa cd σr) (first4b fa cd σr)
theorem second0 : allN 0 (fun ds => chk2 fa cd (ops2 ds) (run2L fa cd σr ds)) = true := by kernel_rfl
theorem second1 : allN 1 (fun ds => chk2 fa cd (ops2 ds) (run2L fa cd σr ds)) = true := by kernel_rfl
theorem second2 : allN 2 (fun ds => chk2 fa cd (ops2 ds) (run2L fa cd σr ds)) = true := by kernel_rfl
theorem second3ff : allN 1 (fun ds => chk2 fa cd (ops2 (false :: false :: ds)) (run2L fa cd σr (false :: false :: ds))) = true := by kernel_rfl
theorem second3ft : allN 1 (fun ds => chk2 fa cd (ops2 (false :: true :: ds)) (run2L fa cd σr (false :: true :: ds))) = true := by kernel_rfl
theorem second3tf : allN 1 (fun ds => chk2 fa cd (ops2 (true :: false :: ds)) (run2L fa cd σr (true :: false :: ds))) = true := by kernel_rfl
theorem second3tt : allN 1 (fun ds => chk2 fa cd (ops2 (true :: true :: ds)) (run2L fa cd σr (true :: true :: ds))) = true := by kernel_rfl
theorem second3 : allN 3 (fun ds => chk2 fa cd (ops2 ds) (run2L fa cd σr ds)) = true := allN_s (allN_s (second3ff fa cd σr) (second3ft fa cd σr)) (allN_s (second3tf fa cd σr) (second3tt fa cd σr))
end
end Mine
end
section
namespace Mine
/-! # The shelf -/
noncomputable def sScript : Str := Str.ofString "script"
noncomputable def sCell : Str := Str.ofString "cell"
noncomputable def cellZ (z : Int) : Int := if 0 ≤ z then z else -z - 1
section
variable {k : EC} {nm : Str → Option SV} {objs objs₁ : List (Nat × SO)} {nx : Nat} {la : Addr} {vs : List Value} {zs : List Int}
theorem isL_ints {ρ : List Addr} (h : IntsAre vs zs) : IsL ρ (zs.map .int) vs := by
  induction h with
  | nil => trivial
  | cons n t _ ih => exact ⟨⟨t, rfl⟩, ih⟩
theorem DE_slice0 {e : Expr} {p pos pc : Pos} {q : Nat} (h1 : DE k nm objs nx e (.con (.ref la)) objs nx) (hL : k.h₀.IsList la vs.toArray) (hi : IntsAre vs zs) (hz : zs.length ≤ 1000) :
    DE k nm objs nx (.Subscript e (.Slice none (some (.Constant (.int 30) q pc)) none p) pos) (.ref nx) ((nx, .list ((zs.take 30).map .int)) :: objs) (nx + 1) := fun ok ρ s E vs0 hl hn he hv =>
  Subscript_ (wpAny_mono (h1 ok ρ s E vs0 hl hn he hv) (fun v s₁ ⟨ρ₁, p₁, l₁, i₁, e₁, S₁⟩ => wpAny_Slice (wpAny_pure (wpAny_mono ((DE_int : DE k nm objs nx (.Constant (.int 30) q pc) (.int 30) objs nx) ok ρ₁ s₁ E [] l₁ (hn.mono p₁) e₁ trivial) (fun v₂ s₂ ⟨ρ₂, p₂, l₂, ⟨t, i₂⟩, e₂, S₂⟩ => by
    cases i₁
    subst i₂
    refine wpAny_pure ?_
    have he2 := e₂.push { cls := .type "slice", data := .fields #[.none, .int 30 t, .none] }
    have g2 := hL.at (h' := s₂.heap.push { cls := .type "slice", data := .fields #[.none, .int 30 t, .none] }) fun o e => he2.F.keep _ _ e
    have hlen : vs.length = zs.length := by have := (isL_ints (ρ := ρ₂) hi).length; simpa using this
    refine tail_any (ops := [.ref s₂.heap.objs.size, .ref la]) g2.typeIs slot_list_getitem.lookup (wpAny_getItem_list_slice g2 (Heap.IsSliceOf.new ..) .none (.int (30 : Int) t) .none (by simp) ?_ (szOK (by rw [List.size_toArray, hlen]; exact hz))) rfl
    rw [show slicePick vs.toArray none (some (30 : Int)) none = (vs.take 30).toArray from pick_upto vs 30]
    exact ⟨_, (p₁.trans p₂).trans pre_snoc, by simp [l₂], is_new l₂, HE.snoc he2 l₂ ⟨_, 0, rfl, by rw [List.map_take]; exact (isL_ints (ρ := ρ₂ ++ _) hi).take 30⟩ trivial, S₁.trans (S₂.trans ⟨_, _, rfl⟩)⟩) fun _ _ z => z))) fun _ _ z => z)
theorem nm_loc {q : FnS} {σ : List (Str × SV)} {x : Str} (h1 : seq x dbg = false) (h2 : lkS q.sc.names x = some .local) : nmE q σ x = lkS σ x := by
  unfold nmE
  rw [h1]
  show nmK q σ x (lkS q.sc.names x) = _
  rw [h2]
  rfl
end
end Mine
end
section
namespace Mine
section
variable {k : EC} {la : Addr} {vs : List Value} {zs : List Int}
/-- a statement list of one, and the loop's body -/
theorem shelf_turn {z : Int} {acc L : List SV} {σ : List (Str × SV)} (hs : lkS σ sShelf = some (.ref 0)) (hl : acc.length ≤ 900) {pe pc p1 p2 p3 p4 p5 p6 p7 p8 p9 pa pb : Pos} {q1 q2 : Nat} (hp : (pa.endLine == pc.line) = true) :
    DS F458 k ⟨(sCell, .int z) :: σ, [(1, .fix L 1), (0, .list acc)], 2⟩ (execs [.Expr (.Call (.Attribute (.Name sShelf p1) sAppend pa) [.IfExp (.Compare (.Name sCell p2) [.GtE] [.Constant (.int 0) q1 p3] p4) (.Name sCell p5) (.BinOp (.UnaryOp .USub (.Name sCell p6) p7) .Sub (.Constant (.int 1) q2 p8) p9) pb] [] pc) pe] k.env) .next
      ⟨(sCell, .int z) :: σ, [(1, .fix L 1), (0, .list (acc ++ [.int (cellZ z)]))], 2⟩ := by
  have n1 : nmOf F458 ((sCell, .int z) :: σ) sCell = some (.int z) := nm_of (by rw [nm_loc (by kernel_rfl) (by kernel_rfl), lkS_cons, seq_iff.mpr rfl])
  have n2 : nmOf F458 ((sCell, .int z) :: σ) sShelf = some (.ref 0) := nm_of (by
    rw [nm_loc (by kernel_rfl) (by kernel_rfl), lkS_cons]
    rw [show seq sShelf sCell = false by kernel_rfl]
    exact hs)
  have hif : ∀ m ext, DE (k.at m ext) (nmOf F458 ((sCell, .int z) :: σ)) [(1, .fix L 1), (0, .list acc)] 2 (.IfExp (.Compare (.Name sCell p2) [.GtE] [.Constant (.int 0) q1 p3] p4) (.Name sCell p5) (.BinOp (.UnaryOp .USub (.Name sCell p6) p7) .Sub (.Constant (.int 1) q2 p8) p9) pb) (.int (cellZ z)) [(1, .fix L 1), (0, .list acc)] 2 := fun m ext => by
    have ht : DQ (k.at m ext) (nmOf F458 ((sCell, .int z) :: σ)) [(1, .fix L 1), (0, .list acc)] 2 (.Compare (.Name sCell p2) [.GtE] [.Constant (.int 0) q1 p3] p4) (decide (0 ≤ z)) [(1, .fix L 1), (0, .list acc)] 2 :=
      DT_cmp rfl (DE_name n1) DE_int (ret_cmpII (op := .GtE) (x := z) (y := 0) rfl)
    refine DE_ifexp ht ?_
    unfold cellZ
    by_cases h : 0 ≤ z
    · rw [if_pos h, decide_eq_true h, if_pos rfl]
      exact DE_name n1
    · rw [if_neg h, decide_eq_false h, if_neg (by decide)]
      exact DE_bin (DE_unary (DE_name n1) ret_neg) DE_int (ret_bin rfl)
  refine DS_cons (st' := ⟨(sCell, .int z) :: σ, [(1, .fix L 1), (0, .list (acc ++ [.int (cellZ z)]))], 2⟩) (DS_expr (a := .none) rfl fun m ext => ?_) DS_nil
  exact DE_meth (objs₂ := [(1, .fix L 1), (0, .list acc)]) rfl rfl hp (DE_name n2) (ret_methL (l := acc) PySem.F.slot_list_append PySem.F.type_list_append rfl) (DA_cons rfl (hif m ext) DA_nil) (ret_append (objs := [(1, .fix L 1), (0, .list acc)]) (n := 0) (l := acc) rfl (by omega))
noncomputable def Pany : EC → Prop := fun _ => True
theorem shelf_turns {L : List SV} {body : List Stmt} {px : Pos} (hb : ∀ (k : EC) z acc σ, lkS σ sShelf = some (.ref 0) → acc.length ≤ 900 → DS F458 k ⟨(sCell, .int z) :: σ, [(1, .fix L 1), (0, .list acc)], 2⟩ (execs body k.env) .next ⟨(sCell, .int z) :: σ, [(1, .fix L 1), (0, .list (acc ++ [.int (cellZ z)]))], 2⟩) :
    ∀ (zs : List Int) (acc : List SV) (σ : List (Str × SV)), lkS σ sShelf = some (.ref 0) → acc.length + zs.length ≤ 900 → ∃ σ', lkS σ' sShelf = some (.ref 0) ∧
      TR Pany F458 (.Name sCell px) body (fun o => fixAt o 1 1) (zs.map .int) ⟨σ, [(1, .fix L 1), (0, .list acc)], 2⟩ ⟨σ', [(1, .fix L 1), (0, .list (acc ++ (zs.map cellZ).map .int))], 2⟩
  | [], acc, σ, hs, _ => ⟨σ, hs, by show (⟨_, _, _⟩ : St) = ⟨_, _, _⟩; simp⟩
  | z :: zs, acc, σ, hs, hl => by
    have hl' : acc.length + (zs.length + 1) ≤ 900 := hl
    have hs' : lkS ((sCell, SV.int z) :: σ) sShelf = some (.ref 0) := by
      rw [lkS_cons, show seq sShelf sCell = false by kernel_rfl]
      exact hs
    obtain ⟨σ', h1, h2⟩ := shelf_turns hb zs (acc ++ [.int (cellZ z)]) ((sCell, .int z) :: σ) hs' (by rw [List.length_append]; show acc.length + 1 + zs.length ≤ 900; omega)
    refine ⟨σ', h1, ⟨(sCell, .int z) :: σ, [(1, .fix L 1), (0, .list (acc ++ [.int (cellZ z)]))], 2⟩, fun kb _ => turn_name (stE_ok (by kernel_rfl)) (hb kb z acc σ hs (by omega)), by kernel_rfl, ?_⟩
    rw [List.map_cons, List.map_cons]
    rw [show acc ++ (SV.int (cellZ z) :: (zs.map cellZ).map SV.int) = acc ++ [.int (cellZ z)] ++ (zs.map cellZ).map .int by simp]
    exact h2
noncomputable def shBody : List Stmt := match BF48 with
  | [_, .For _ _ b _ _, _] => b
  | _ => []
noncomputable def shPx : Pos := match BF48 with
  | [_, .For (.Name _ p) _ _ _ _, _] => p
  | _ => ⟨0, 0, 0, 0⟩
theorem sh_body (k : EC) (L : List SV) (z : Int) (acc : List SV) (σ : List (Str × SV)) (hs : lkS σ sShelf = some (.ref 0)) (hl : acc.length ≤ 900) : DS F458 k ⟨(sCell, .int z) :: σ, [(1, .fix L 1), (0, .list acc)], 2⟩ (execs shBody k.env) .next ⟨(sCell, .int z) :: σ, [(1, .fix L 1), (0, .list (acc ++ [.int (cellZ z)]))], 2⟩ := shelf_turn hs hl rfl
/-- the shelf that the law lays out -/
theorem shelf_ok {nm : Str → Option SV} (hL : k.h₀.IsList la vs.toArray) (hi : IntsAre vs zs) (hz : zs.length ≤ 800) (hb : 0 < k.b) : DC k nm [] 0 458 [.con (.ref la)] (.ref 0) [(1, .list ((zs.take 30).map .int)), (0, .list (((zs.take 30).map cellZ).map .int))] 2 := by
  obtain ⟨σ', h1, h2⟩ := shelf_turns (L := (zs.take 30).map .int) (body := shBody) (px := shPx) (fun k z acc σ hs hl => sh_body k _ z acc σ hs hl) (zs.take 30) [] [(sShelf, .ref 0), (sScript, .con (.ref la))] (by kernel_rfl) (by simp; omega)
  refine ret_fn (q := F458) (bs := [(sScript, .con (.ref la))]) (f := .ret (.ref 0)) (st' := ⟨σ', [(1, .list ((zs.take 30).map .int)), (0, .list (((zs.take 30).map cellZ).map .int))], 2⟩) (ok458 k.w).1 (ok458 k.w).2 hb rfl fun k' e1 e2 e3 e4 => ?_
  refine (?_ : DS F458 k' ⟨[(sScript, .con (.ref la))], [], 0⟩ (execs BF48 k'.env) _ _)
  have hL' : k'.h₀.IsList la vs.toArray := hL.at fun o e => e4 _ _ e
  refine DS_cons (DS_assign (a := .ref 0) (objs' := [(0, .list [])]) (nx' := 1) rfl (stE_ok (by kernel_rfl)) fun m ext => DE_list DA_nil (Nat.zero_le _)) ?_
  have hn : nmOf F458 [(sShelf, .ref 0), (sScript, .con (.ref la))] sScript = some (.con (.ref la)) := nm_of (by kernel_rfl)
  refine DS_cons (DS_forL (P := Pany) (S := ⟨(zs.take 30).map .int, 1, true, [(1, .fix ((zs.take 30).map .int) 1), (0, .list [])]⟩) rfl (fun _ _ _ _ => trivial) (fun m ext => DE_slice0 (DE_name hn) hL' hi (by omega)) rfl h2 rfl) ?_
  have hn2 : nmOf F458 σ' sShelf = some (.ref 0) := nm_of (by rw [nm_loc (by kernel_rfl) (by kernel_rfl)]; exact h1)
  exact DS_ret (DS_return fun m ext => DE_name hn2)
end
end Mine
end
section
namespace Mine
/-! # The law -/
theorem stmts_then {w : World} {c : Cfg} {r : Rec} {n : Nat} {q : FnS} {Q : Flow → Shared → Prop} {E : Value → Shared → Prop} {l2 : List Stmt} (hr : Snd w c r n) : ∀ {l1 : List Stmt} {st st' : St}, stmts (stepS r q) l1 st = some (.next, st') → ∀ (k : EC), KS w c n k → k.Ok → Frm q k → ∀ ρ s, ρ.length = st.nx → HS q k ρ st.σ st.objs s →
    (∀ ρ' s', ρ <+: ρ' → ρ'.length = st'.nx → HS q k ρ' st'.σ st'.objs s' → Same s s' → wpAny (model prg k.w) k.A (execs l2 k.env) Q E s') → wpAny (model prg k.w) k.A (execs (l1 ++ l2) k.env) Q E s
  | [], st, st', h, k, hk, ok, fr, ρ, s, hl, hs, fin => by cases h; exact fin ρ s pre_refl hl hs Same.refl
  | t :: l1, st, st', h, k, hk, ok, fr, ρ, s, hl, hs, fin => by
    unfold stmts at h
    refine inv_o2 h ?_
    clear h; intro f st₁ h h1
    cases f with
    | ret a => cases h
    | next =>
      refine wpAny_execs_cons (wpAny_mono (stepS_ok hr hk h1 ok fr ρ s E hl hs) (fun fl s' ⟨ρ₁, p₁, l₁, i₁, hs₁, S₁⟩ => ?_) fun _ _ z => z)
      cases i₁
      exact stmts_then hr h k hk ok fr ρ₁ s' l₁ hs₁ fun ρ' s'' p l hs' S => fin ρ' s'' (p₁.trans p) l hs' (S₁.trans S)
noncomputable def anyS (σ : List (Str × SV)) : List (Str × SV) := σ.map fun p => (p.1, .any)
theorem any_loc {ρ ρ' : List Addr} {σ : List (Str × SV)} {y : Str} {v : Option Value} (h : LocV ρ (σ.lookup y) v) : LocV ρ' ((anyS σ).lookup y) v := by
  induction σ with
  | nil => exact h
  | cons p σ ih =>
    obtain ⟨x, a⟩ := p
    refine (?_ : LocV ρ' (((x, SV.any) :: anyS σ).lookup y) v)
    rw [List.lookup_cons] at h ⊢
    cases hh : (y == x) with
    | true =>
      rw [hh] at h
      obtain ⟨b, e, _⟩ := h
      exact ⟨b, e, trivial⟩
    | false =>
      rw [hh] at h
      exact ih h
theorem front_loc {ρ ρ' : List Addr} {σ : List (Str × SV)} {y : Str} {v : Option Value} {a : Addr} (hs : σ.lookup sShelf = some (.ref 0)) (h0 : ρ[0]? = some a) (h0' : ρ'[0]? = some a) (h : LocV ρ (σ.lookup y) v) : LocV ρ' (((sShelf, .ref 0) :: anyS σ).lookup y) v := by
  rw [List.lookup_cons]
  cases hh : (y == sShelf) with
  | true =>
    have e : y = sShelf := by simpa using hh
    refine fold_ fun P_ hP_ => ?_
    rw [e, hs] at h
    obtain ⟨b, e1, ⟨c, e2, e3⟩⟩ := h
    rw [h0] at e2; cases e2
    refine hP_ ?_
    exact ⟨b, e1, a, h0', e3⟩
  | false => exact any_loc h
theorem Cls.map {ρ ρ' : List Addr} {σ σ' : List (Str × SV)} (h : ∀ y v, LocV ρ (σ.lookup y) v → LocV ρ' (σ'.lookup y) v) : ∀ {cs : List (Str × Addr)} {l : List (Addr × Obj)}, Cls ρ σ cs l → Cls ρ' σ' cs l
  | [], [], _ => trivial
  | (y, c) :: cs, (a, o) :: l, ⟨h1, ⟨v, h2, h3⟩, h4⟩ => ⟨h1, ⟨v, h2, h _ _ h3⟩, Cls.map h h4⟩
  | [], _ :: _, h' => h'.elim
  | (_, _) :: _, [], h' => h'.elim
theorem isL_int2 {ρ ρ' : List Addr} : ∀ {zs : List Int} {vs : List Value}, IsL ρ (zs.map .int) vs → IsL ρ' (zs.map .int) vs
  | [], [], _ => trivial
  | [], _ :: _, h => h.elim
  | _ :: _, [], h => h.elim
  | _ :: zs, _ :: vs, h => ⟨h.1, isL_int2 h.2⟩
/-- what is past is forgotten, but for the shelf -/
theorem HS.forget {q : FnS} {k : EC} {ρ : List Addr} {σ : List (Str × SV)} {objs : List (Nat × SO)} {s : Shared} {so : SO} {zs : List Int} {X' : Xp} (hs : HS q k ρ σ objs s) (h1 : σ.lookup sShelf = some (.ref 0)) (h2 : objs.lookup 0 = some so) (hb : so.base = true) (hso : ∀ o, IsO k.w k.X ρ so o → ∃ vs n, o = lobj vs n ∧ IsL ρ (zs.map .int) vs) (hX : X'.S 0 = zs) :
    ∃ a, HS q (k.withX X') [a] ((sShelf, .ref 0) :: anyS σ) [(0, .shelf 0)] s := by
  refine fold_ fun P_ hP_ => ?_
  obtain ⟨m, cs, g1, g2, g3⟩ := hs
  have pm := perm_look h2
  obtain ⟨n', io, N, d⟩ := (g3.perm pm).N
  obtain ⟨c, r, rfl, i1, i2⟩ := io.invE
  obtain ⟨a, o, rfl, e1, e2, _⟩ := i1.inv hb
  obtain ⟨vs, n, e3, e4⟩ := hso o e2
  refine hP_ ?_
  refine ⟨a, m, cs, fun y hy => front_loc h1 e1 rfl (g1 y hy), g2.map fun y v h => front_loc h1 e1 rfl h, g3.F, [(a, o)] ++ [], .consE (.base rfl ⟨⟨vs, n, e3, by show IsL [a] ((X'.S 0).map .int) vs; rw [hX]; exact isL_int2 e4⟩, trivial⟩) .nil, fun p hp => N p ?_, ?_⟩
  · rw [List.append_nil] at hp
    rcases List.mem_append.mp hp with h | h
    · exact List.mem_append_left _ h
    · exact List.mem_append_right _ (List.mem_append_left _ h)
  · rw [List.append_nil]
    have d' : Dis ((cs ++ k.raw) ++ ([(a, o)] ++ r)) := d
    rw [← List.append_assoc] at d'
    exact (dis_app.mp d').1
/-- the oracle: what the law asks of its shelf, and what it gets -/
noncomputable def after : Op → List Int → List Int
  | .grab b _, S => (grabR S b).2
  | .tag _, S => (grabR S 3).2
  | .arg, S => (argR S).2
noncomputable def seqS : List Op → List Int → Nat → List Int
  | _, S, 0 => S
  | [], S, _ + 1 => S
  | op :: r, S, j + 1 => seqS r (after op S) j
noncomputable def opOk : Op → List Int → Prop
  | .grab b g, S => 0 < b ∧ (grabR S b).1 = g
  | .tag b, S => if b then (grabR S 3).1 = 1 ∨ (grabR S 3).1 = 2 else (grabR S 3).1 = 0
  | .arg, _ => True
noncomputable def good : List Op → List Int → Prop
  | [], _ => True
  | op :: r, S => opOk op S ∧ good r (after op S)
theorem seq_len : ∀ {ops : List Op} {S : List Int} {j : Nat}, (seqS ops S j).length ≤ S.length
  | ops, _, 0 => by cases ops <;> exact Nat.le_refl _
  | [], _, _ + 1 => Nat.le_refl _
  | op :: r, S, j + 1 => Nat.le_trans (seq_len (ops := r)) (by cases op <;> first | exact grab_len | exact arg_len)
theorem seq_op : ∀ {ops : List Op} {S : List Int} {j : Nat} {op : Op}, getOp ops j = some op → good ops S → seqS ops S (j + 1) = after op (seqS ops S j) ∧ opOk op (seqS ops S j)
  | [], _, _, _, h, _ => nomatch h
  | o :: r, S, 0, op, h, hg => by cases h; exact ⟨by cases r <;> rfl, hg.1⟩
  | o :: r, S, j + 1, op, h, hg => seq_op (ops := r) h hg.2
noncomputable def XL' (ops : List Op) (S : List Int) (O : Nat → Obj) : Xp := ⟨fun j => (argR (seqS ops S j)).1, O, seqS ops S⟩
theorem orc_of {c : Cfg} {S : List Int} {O : Nat → Obj} (h : good c.ops S) (hl : S.length ≤ 100) : Orc c (XL' c.ops S O) := ⟨fun j => Nat.le_trans seq_len hl, fun j op ho => by
  obtain ⟨e1, e2⟩ := seq_op ho h
  cases op with
  | grab b g => exact ⟨e2.1, by show grabR (seqS c.ops S j) b = (g, seqS c.ops S (j + 1)); rw [e1]; exact Prod.ext e2.2 rfl⟩
  | tag b => exact ⟨(grabR (seqS c.ops S j) 3).1, by show grabR (seqS c.ops S j) 3 = (_, seqS c.ops S (j + 1)); rw [e1]; rfl, by cases b <;> exact e2⟩
  | arg => show argR (seqS c.ops S j) = (_, seqS c.ops S (j + 1)); rw [e1]; rfl⟩
theorem good_laps : ∀ (m : Nat) (S : List Int), ∃ ts : List Bool, ts.length = m ∧ good (laps ts) S
  | 0, S => ⟨[], rfl, trivial⟩
  | m + 1, S => by
    obtain ⟨ts, h1, h2⟩ := good_laps m (argR (grabR S 3).2).2
    have r := @grab_range S 3 (by decide)
    by_cases h : (grabR S 3).1 = 0
    · exact ⟨false :: ts, by simp [h1], h, trivial, h2⟩
    · exact ⟨true :: ts, by simp [h1], (by show (grabR S 3).1 = 1 ∨ (grabR S 3).1 = 2; omega), trivial, h2⟩
theorem good1 (S : List Int) : ∃ ts : List Bool, ts.length ≤ 4 ∧ good (ops1 ts) S := by
  have r := @grab_range S 5 (by decide)
  obtain ⟨ts, h1, h2⟩ := good_laps (grabR S 5).1.toNat (grabR S 5).2
  exact ⟨ts, by omega, ⟨by decide, by rw [h1]; show (grabR S 5).1 = ((grabR S 5).1.toNat : Int); omega⟩, h2⟩
theorem good_dfls : ∀ (m : Nat) (S : List Int), ∃ ds : List Bool, ds.length = m ∧ good (dfls ds) S
  | 0, S => ⟨[], rfl, trivial, trivial⟩
  | m + 1, S => by
    have r := @grab_range S 2 (by decide)
    by_cases h : (grabR S 2).1 = 0
    · obtain ⟨ds, h1, h2⟩ := good_dfls m (grabR S 2).2
      exact ⟨false :: ds, by simp [h1], ⟨by decide, h⟩, h2⟩
    · obtain ⟨ds, h1, h2⟩ := good_dfls m (argR (grabR S 2).2).2
      exact ⟨true :: ds, by simp [h1], ⟨by decide, (by show (grabR S 2).1 = 1; omega)⟩, trivial, h2⟩
theorem good2 (S : List Int) : ∃ ds : List Bool, ds.length ≤ 3 ∧ good (ops2 ds) S := by
  have r := @grab_range S 4 (by decide)
  obtain ⟨ds, h1, h2⟩ := good_dfls (grabR S 4).1.toNat (grabR S 4).2
  exact ⟨ds, by omega, ⟨by decide, by rw [h1]; show (grabR S 4).1 = ((grabR S 4).1.toNat : Int); omega⟩, h2⟩
theorem allN_ok : ∀ {n : Nat} {f : List Bool → Bool}, allN n f = true → ∀ l : List Bool, l.length = n → f l = true
  | 0, f, h, [], _ => h
  | n + 1, f, h, b :: l, hl => by
    unfold allN at h
    refine inv_bT h ?_
    clear h; intro h h1
    cases b with
    | false => exact allN_ok h1 l (by simpa using hl)
    | true => exact allN_ok h l (by simpa using hl)
  | 0, _, _, _ :: _, hl => nomatch hl
  | _ + 1, _, _, [], hl => nomatch hl
theorem chk1_ok {m : Nat} {r : RS} (h : chk1 m r = true) : ∃ st, r = some (.next, st) ∧ st.σ.lookup sShelf = some (.ref 0) ∧ st.objs.lookup 0 = some (.shelf (1 + (m + m))) := by
  refine inv_oT h ?_; clear h; intro _ _ h
  refine inv_o2 h ?_; clear h; intro f st h h0
  refine inv_nxt h ?_; clear h; intro h e0; subst e0
  rw [lkS_eq, lkN_eq] at h
  refine inv_o h ?_; clear h; intro v h h1
  refine inv_rf h ?_; clear h; intro n h e0; subst e0
  refine inv_b h ?_; clear h; intro h h2
  refine inv_o h ?_; clear h; intro so h h3
  refine inv_ss h ?_; clear h; intro j h e0; subst e0
  refine inv_b h ?_; clear h; intro h h4
  rw [Nat.eq_of_beq_eq_true h4] at h3
  rw [Nat.eq_of_beq_eq_true h2] at h1
  exact ⟨st, h0, h1, h3⟩
theorem chk2_ok {fa : Addr} {cd : Value} {ops : List Op} {r : RS} (h : chk2 fa cd ops r = true) : ∃ st, r = some (.next, st) ∧ lastR (ev (cfgL ops) 59) (cfgL ops) (rs (cfgL ops) 59 3) (FL fa cd) body3 st = some true := by
  refine inv_oT h ?_; clear h; intro _ _ h
  refine inv_o2 h ?_; clear h; intro f st h h0
  refine inv_nxt h ?_; clear h; intro h e0; subst e0
  refine inv_o h ?_; clear h; intro b h h1
  refine inv_b h ?_; clear h; intro h e0; subst e0
  exact ⟨st, h0, h1⟩
theorem run1_ok (fa : Addr) (cd : Value) (σr : List (Str × SV)) (ts : List Bool) (h : ts.length ≤ 4) : chk1 ts.length (run1L fa cd σr ts) = true := by
  have : ts.length = 0 ∨ ts.length = 1 ∨ ts.length = 2 ∨ ts.length = 3 ∨ ts.length = 4 := by omega
  rcases this with e | e | e | e | e
  · rw [e]; exact allN_ok (f := fun ts => chk1 0 (run1L fa cd σr ts)) (first0 fa cd σr) ts e
  · rw [e]; exact allN_ok (f := fun ts => chk1 1 (run1L fa cd σr ts)) (first1 fa cd σr) ts e
  · rw [e]; exact allN_ok (f := fun ts => chk1 2 (run1L fa cd σr ts)) (first2 fa cd σr) ts e
  · rw [e]; exact allN_ok (f := fun ts => chk1 3 (run1L fa cd σr ts)) (first3 fa cd σr) ts e
  · rw [e]; exact allN_ok (f := fun ts => chk1 4 (run1L fa cd σr ts)) (first4 fa cd σr) ts e
theorem run2_ok (fa : Addr) (cd : Value) (σr : List (Str × SV)) (ds : List Bool) (h : ds.length ≤ 3) : chk2 fa cd (ops2 ds) (run2L fa cd σr ds) = true := by
  have : ds.length = 0 ∨ ds.length = 1 ∨ ds.length = 2 ∨ ds.length = 3 := by omega
  rcases this with e | e | e | e
  · exact allN_ok (f := fun ds => chk2 fa cd (ops2 ds) (run2L fa cd σr ds)) (second0 fa cd σr) ds e
  · exact allN_ok (f := fun ds => chk2 fa cd (ops2 ds) (run2L fa cd σr ds)) (second1 fa cd σr) ds e
  · exact allN_ok (f := fun ds => chk2 fa cd (ops2 ds) (run2L fa cd σr ds)) (second2 fa cd σr) ds e
  · exact allN_ok (f := fun ds => chk2 fa cd (ops2 ds) (run2L fa cd σr ds)) (second3 fa cd σr) ds e
end Mine
end
section
namespace Mine
noncomputable def sh0 : Stmt := match BF55 with
  | t :: _ => t
  | [] => .Pass ⟨0, 0, 0, 0⟩
theorem body_eq : BF55 = sh0 :: (body1 ++ (body2 ++ body3)) := by kernel_rfl
theorem snd_ok (w : World) (ops : List Op) (n : Nat) : Snd w (cfgL ops) (ev (cfgL ops) n) n := ev_ok (tabS w ops true 130) (hooks_ok w (cfgL ops) (by show 122 ≤ 130; decide)) n
section
variable {k : EC} {fa la : Addr} {cd : Value} {vs : List Value} {zs : List Int} {s : Shared} {E : Value → Shared → Prop}
theorem law_0 (hL : k.h₀.IsList la vs.toArray) (hi : IntsAre vs zs) (hz : zs.length ≤ 63) (hb : 0 < k.b) : DS (FL fa cd) k ⟨[(sScript, .con (.ref la))], [], 0⟩ (exec sh0 k.env) .next ⟨[(sShelf, .ref 0), (sScript, .con (.ref la))], [(1, .list ((zs.take 30).map .int)), (0, .list (((zs.take 30).map cellZ).map .int))], 2⟩ := by
  refine DS_assign rfl (stE_ok (by kernel_rfl)) fun m ext => ?_
  exact DE_callK (keeps_ok k.w 458 (memN_iff.mp (by kernel_rfl))) rfl (DE_name (nm_of (by kernel_rfl))) (DA_cons rfl (DE_name (nm_of (a := .con (.ref la)) (by kernel_rfl))) DA_nil) (shelf_ok (k := k.at m ext) hL hi (by omega) hb)
noncomputable def LawPost (k : EC) (s : Shared) (fl : Flow) (s' : Shared) : Prop := fl = .ret (.bool true) ∧ Same s s' ∧ ∀ b o, k.h₀.get? b = some o → s'.heap.get? b = some o
theorem law_2 (ok : k.Ok) (fr : Frm (FL fa cd) k) (hb : 200 ≤ k.b) (hout : k.outer = []) {σr : List (Str × SV)} {a : Addr} {ds : List Bool} (hds : ds.length ≤ 3) {S : List Int} {O : Nat → Obj} (hg : good (ops2 ds) S) (hS : S.length ≤ 100) (hX : k.X = XL' (ops2 ds) S O) (hs : HS (FL fa cd) k [a] ((sShelf, .ref 0) :: σr) [(0, .shelf 0)] s) :
    wpAny (model prg k.w) k.A (execs (body2 ++ body3) k.env) (LawPost k s) E s := by
  obtain ⟨st, e, e1⟩ := chk2_ok (run2_ok fa cd σr ds hds)
  have e' : stmts (stepS (ev (cfgL (ops2 ds)) 59) (FL fa cd)) body2 (st1 σr) = some (.next, st) := e
  have hk : KS k.w (cfgL (ops2 ds)) 59 k := ⟨rfl, by rw [hX]; exact orc_of (c := cfgL (ops2 ds)) hg hS, by show 59 + 130 ≤ k.b; omega⟩
  refine stmts_then (c := cfgL (ops2 ds)) (n := 59) (q := FL fa cd) (snd_ok k.w (ops2 ds) 59) (l1 := body2) e' k hk ok fr [a] s rfl hs fun ρ' s' p l hs' S' => ?_
  obtain ⟨st', hd⟩ := lastR_ok (tabS k.w (ops2 ds) true 130) (snd_ok k.w (ops2 ds) 59) hk (runOk (tabS k.w (ops2 ds) true 130) (hooks_ok k.w (cfgL (ops2 ds)) (by show 122 ≤ 130; decide))) (by show 59 + 130 + 3 + 2 ≤ k.b; omega) hout e1
  refine wpAny_mono (hd ok fr ρ' s' E l hs') (fun fl s'' ⟨ρ₂, p₂, l₂, ⟨v, e1, e2⟩, ⟨m, cs, _, _, g3⟩, S⟩ => ?_) fun _ _ z => z
  cases e2
  exact ⟨e1, S'.trans S, g3.F.keep⟩
theorem law_1 (ok : k.Ok) (fr : Frm (FL fa cd) k) (hb : 200 ≤ k.b) (hout : k.outer = []) {σr : List (Str × SV)} {a : Addr} {ts : List Bool} (hts : ts.length ≤ 4) {S : List Int} {O : Nat → Obj} (hg : good (ops1 ts) S) (hS : S.length ≤ 100) (hX : k.X = XL' (ops1 ts) S O) (hs : HS (FL fa cd) k [a] ((sShelf, .ref 0) :: σr) [(0, .shelf 0)] s) :
    wpAny (model prg k.w) k.A (execs (body1 ++ (body2 ++ body3)) k.env) (LawPost k s) E s := by
  obtain ⟨st, e, e1, e2⟩ := chk1_ok (run1_ok fa cd σr ts hts)
  have e' : stmts (stepS (ev (cfgL (ops1 ts)) 59) (FL fa cd)) body1 (st1 σr) = some (.next, st) := e
  refine stmts_then (c := cfgL (ops1 ts)) (n := 59) (q := FL fa cd) (snd_ok k.w (ops1 ts) 59) (l1 := body1) e' k ⟨rfl, by rw [hX]; exact orc_of (c := cfgL (ops1 ts)) hg hS, by show 59 + 130 ≤ k.b; omega⟩ ok fr [a] s rfl hs fun ρ' s' p l hs' S' => ?_
  have hSl : (seqS (ops1 ts) S (1 + (ts.length + ts.length))).length ≤ 100 := Nat.le_trans seq_len hS
  obtain ⟨ds, h1, h2⟩ := good2 (seqS (ops1 ts) S (1 + (ts.length + ts.length)))
  obtain ⟨b, hs2⟩ := hs'.forget (X' := XL' (ops2 ds) (seqS (ops1 ts) S (1 + (ts.length + ts.length))) O) e1 e2 rfl (fun o i => by
    have i' : ∃ vs n, o = lobj vs n ∧ IsL ρ' ((k.X.S (1 + (ts.length + ts.length))).map .int) vs := i
    rw [hX] at i'
    exact i') (by cases ds <;> rfl)
  refine wpAny_mono (law_2 (k := k.withX (XL' (ops2 ds) (seqS (ops1 ts) S (1 + (ts.length + ts.length))) O)) (ok.withX _) ⟨fr.env, fr.fk, fr.ck⟩ hb hout h1 h2 hSl rfl hs2) (fun fl s'' ⟨f1, f2, f3⟩ => ⟨f1, S'.trans f2, f3⟩) fun _ _ z => z
/-- the law ends, and returns True -/
theorem law_ok (ok : k.Ok) (fr : Frm (FL fa cd) k) (hb : 200 ≤ k.b) (hout : k.outer = []) (hL : k.h₀.IsList la vs.toArray) (hi : IntsAre vs zs) (hz : zs.length ≤ 63) (hs : HS (FL fa cd) k [] [(sScript, .con (.ref la))] [] s) :
    wpAny (model prg k.w) k.A (execs BF55 k.env) (LawPost k s) E s := by
  rw [body_eq]
  refine wpAny_execs_cons (wpAny_mono (law_0 (fa := fa) (cd := cd) hL hi hz (by omega) ok fr [] s E rfl hs) (fun fl s₁ ⟨ρ₁, p₁, l₁, i₁, hs₁, S₁⟩ => ?_) fun _ _ z => z)
  cases i₁
  have hZ : ((zs.take 30).map cellZ).length ≤ 100 := by simp; omega
  obtain ⟨ts, h1, h2⟩ := good1 ((zs.take 30).map cellZ)
  obtain ⟨b, hs2⟩ := hs₁.forget (X' := XL' (ops1 ts) ((zs.take 30).map cellZ) k.X.O) (zs := (zs.take 30).map cellZ) rfl rfl rfl (fun o i => i) (by cases ts <;> rfl)
  exact wpAny_mono (law_1 (k := k.withX (XL' (ops1 ts) ((zs.take 30).map cellZ) k.X.O)) (ok.withX _) ⟨fr.env, fr.fk, fr.ck⟩ hb hout h1 h2 hZ rfl hs2) (fun fl s'' ⟨f1, f2, f3⟩ => ⟨f1, S₁.trans f2, f3⟩) fun _ _ z => z
end
end Mine
end
section
namespace Mine
theorem law_entry {w : World} {s₀ s₁ : Shared} {mg mb : Str → Option Value} {fa la : Addr} {cda : Value} {h₁ base : Heap} {tk₁ : Nat} {vs : List Value} {zs : List Int} {cells : List (Addr × Obj)} {binds : List (Str × Value)} {Q : Flow → Shared → Prop} {E : Value → Shared → Prop}
    (KX : (K w.params).In s₁.heap) (T : Top qv (looseW qv looseL) (ExcName.means s₀.heap) mg mb s₁.heap) (B : Below callerA base [] s₁.heap) (hL : s₁.heap.IsList la vs.toArray) (hi : IntsAre vs zs) (hz : ¬ (63 : Int) < zs.length) (hbd : binds = [(sScript, .ref la)])
    (F : Fr s₁.heap s₁.heap.objs.size h₁ (bindL (envOfC lawD.name lawD.scope s₁.heap.objs.size fa cda).kindOf binds fun _ => none)) (N : News s₁.heap s₁.heap.objs.size h₁ cells)
    (Y : CellsAre (bindC (envOfC lawD.name lawD.scope s₁.heap.objs.size fa cda).kindOf binds fun _ => none) (cellsFrom (s₁.heap.objs.size + 1) lawD.scope.names []) cells) (hd : Dis cells)
    (hQ : ∀ s', Same { s₁ with heap := h₁, toks := tk₁ } s' → (∀ b o, s₁.heap.get? b = some o → s'.heap.get? b = some o) → Q (.ret (.bool true)) s') :
    wpAny (model prg w) (callerA.deeper (envOfC lawD.name lawD.scope s₁.heap.objs.size fa cda)) (execs lawD.body (envOfC lawD.name lawD.scope s₁.heap.objs.size fa cda)) Q E { s₁ with heap := h₁, toks := tk₁ } := by
  subst hbd
  let e' : Env := envOfC (Str.ofString "law") CF55 s₁.heap.objs.size fa cda
  let k : EC := { w := w, mean := ExcName.means s₀.heap, mg := mg, mb := mb, env := e', fenv := e', outer := [], A := callerA.deeper e', A₀ := callerA, base := base, h₀ := s₁.heap, L := s₁.heap.objs.size, m := fun _ => none, ext := [], raw := [], b := 200, X := X0 }
  have ok : k.Ok := ⟨rfl, rfl, rfl, rfl, rfl, B, KX, T, by show callerA.depth + 1 + 2 * 200 ≤ 900; decide, by show callerA.units + 3 + 8 * 200 ≤ 5000; decide⟩
  have fr : Frm (FL fa cda) k := ⟨rfl, rfl, by kernel_rfl⟩
  have hB : IsB [] [(sScript, .con (.ref la))] [(sScript, .ref la)] := ⟨rfl, rfl, trivial⟩
  have hs : HS (FL fa cda) k [] [(sScript, .con (.ref la))] [] { s₁ with heap := h₁, toks := tk₁ } := by
    refine ⟨_, cells, fun y hy => ?_, ?_, F, [], .nil, ?_, ?_⟩
    · have := bindL_loc (ρ := []) (kf := e'.kindOf) (y := y) (σ := []) (m := fun _ => none) hy hB rfl
      exact this
    · refine Cls.of (ρ := []) Y fun y hy => ?_
      have hy' : y ∈ cellNames (FL fa cda) := by rw [← cellNames_eq (FL fa cda) s₁.heap.objs.size]; exact hy
      have hk := cells_kind (FL fa cda).sc.names (FL fa cda).sc.names 0 [] y (fun _ h => h) (fun _ h => by simp at h) hy'
      have hk2 := List.all_eq_true.mp fr.ck _ hk
      have hk3 : (FL fa cda).sc.names.lookup y = some .cell := by simpa using hk2
      have := bindC_loc (ρ := []) (kf := e'.kindOf) (y := y) (σ := []) (m := fun _ => none) (by show (FL fa cda).sc.names.lookup y ≠ _; rw [hk3]; simp) hB rfl
      exact this
    · intro p hp
      have hp' : p ∈ (cells ++ []) ++ [] := hp
      exact N p (by simpa using hp')
    · show Dis ((cells ++ []) ++ [])
      rw [List.append_nil, List.append_nil]; exact hd
  refine wpAny_mono (law_ok (k := k) (fa := fa) (cd := cda) ok fr (Nat.le_refl _) rfl hL hi (by omega) hs) (fun fl s' ⟨e1, S, hk⟩ => ?_) fun _ _ z => z
  subst e1
  exact hQ s' S hk
theorem the_law : PySem.Challenge.rw_pq1324_01.Holds := hd (by
  w_strict (
    k_fill
    intro w s₀ s₁ mg mb G Y fa o pm cd doc dV kV ho hd hcd hD hmg hg args vals as hpre hlay hrd hwl hlo
    have KX : (K w.params).In s₁.heap := Y
    refine Ground.open G ?_
    intro T B D TE TW
    clear hmg
    wrow_args hpre hlay hrd hwl hlo
    all_goals (
      first | refine callC_kw (enter_call ?_) | refine enter_call ?_ | refine callC_kw (enter_callW ?_) | refine enter_callW ?_
      w_top on
      try refine codeAny_mono ?_ (fun _ _ g => GoodW.toG g)
      have K0 := below_caller (Top.heap T)
      w_call any ho hd hcd hD T F
      clear hd)
    refine law_entry KX (by assumption) (by assumption) (by assumption) (by assumption) (by assumption) ?_ (by assumption) (by assumption) (by assumption) ?_ ?_
    · rfl
    · simp only [Dis, NeAll, and_true, true_and]; refine ⟨⟨?_, ?_, ?_⟩, ⟨?_, ?_⟩, ?_⟩ <;> (show ¬ _ = _; omega)
    · rintro s' ⟨h', tk', rfl⟩ hk'
      refine ⟨.inl ⟨.bool true, ofPy (.bool true), [], rfl, fun cls => rfl, ?_, ?_, fun _ => ⟨List.nodup_nil, fun a ha => nomatch ha⟩⟩, hk', rfl, hg⟩
      · exact ReadsW.bool _
      · kernel_rfl))
end Mine
end
theorem PySem.Challenge.cw_pq1324_01_holds : PySem.Challenge.rw_pq1324_01.Holds :=
  Mine.the_law
