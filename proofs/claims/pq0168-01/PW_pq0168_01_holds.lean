import PyProof.Rows.All
import Wide.All
import OpenK.AllK
import Wide.FinOn
import PySem.Challenge.RW_pq0168_01
open PySem PySem.W PyProof.Rows PySem.Calls
set_option Elab.async false
set_option maxRecDepth 100000
set_option linter.unusedVariables false
namespace Mine
noncomputable section
set_option genSizeOf false
set_option genInjectivity false
set_option compiler.extract_closed false
set_option maxHeartbeats 80000000
/-! ## the head: the top is run once, whole -/
/-- the claim's text without its three name rows -/
noncomputable def VIEW : Program := { PySem.Challenge.pw_pq0168_01 with main := { PySem.Challenge.pw_pq0168_01.main with body := ((PySem.Challenge.pw_pq0168_01.main.body.eraseIdx 28).eraseIdx 2).eraseIdx 0 } }
/-- the def at a row of the text -/
noncomputable def fdS : Option Stmt → Arguments × List Stmt × Scope
  | some (.FunctionDef _ a b _ _ _ s _ _ _) => (a, b, s)
  | _ => ({ posonlyargs := [], args := [], vararg := none, kwonlyargs := [], kw_defaults := [], kwarg := none, defaults := [] }, [], { kind := .function, names := [], isGenerator := false, isCoroutine := false })
noncomputable def fdP (i : Nat) : Arguments × List Stmt × Scope := fdS PySem.Challenge.pw_pq0168_01.main.body[i]?
/-- the first def of the class at a row of the text -/
noncomputable def fdM (i : Nat) : Arguments × List Stmt × Scope := match PySem.Challenge.pw_pq0168_01.main.body[i]? with
  | some (.ClassDef _ _ _ b _ _ _ _ _ _ _) => fdS b[0]?
  | _ => fdS none
noncomputable def dE (P : Params) (s : PySem.Str) (i : Nat) (v : Value) : DictEntry := ⟨PyData.keyHash P s, .str s i, v⟩
/-- the objects that the walk reads -/
noncomputable def KP (P : Params) : Frag :=
  (nat_lit 2, { cls := .none, data := .dict #[dE P (.ofString "type.__subclasses__.Exception.0") 219 (.int 34 0), dE P (.ofString "type.__subclasses__.Exception.n") 220 (.int 1 0)] 2 }) ::
  (nat_lit 3, { cls := .type "dict", data := .dict #[dE P (.ofString "__name__") 165 (.str (.ofString "law_pq0168_01") 451), dE P (.ofString "__doc__") 166 (.none), dE P (.ofString "__package__") 167 (.none), dE P (.ofString "__loader__") 168 (.builtin "__main__.__loader__#opaque"), dE P (.ofString "__spec__") 169 (.none), dE P (.ofString "__annotations__") 170 (.ref 6), dE P (.ofString "__builtins__") 171 (.ref 4), dE P (.ofString "__file__") 173 (.str (.ofString "/claim/cut.py") 172), dE P (.ofString "__cached__") 174 (.none), dE P (.ofString "BasicError") 222 (.ref 34), dE P (.ofString "LONGEST") 226 (.int 255 225), dE P (.ofString "BLANK") 228 (.int 32 227), dE P (.ofString "Space") 265 (.ref 54), dE P (.ofString "octets_of") 271 (.ref 63), dE P (.ofString "text_at") 277 (.ref 68), dE P (.ofString "write_octets") 288 (.ref 75), dE P (.ofString "places_of") 294 (.ref 80), dE P (.ofString "free_room") 301 (.ref 87), dE P (.ofString "next_highest") 311 (.ref 94), dE P (.ofString "collect") 317 (.ref 99), dE P (.ofString "fre") 324 (.ref 106), dE P (.ofString "allocate") 332 (.ref 113), dE P (.ofString "placed") 341 (.ref 120), dE P (.ofString "assign_text") 350 (.ref 127), dE P (.ofString "text_of") 358 (.ref 134), dE P (.ofString "forget") 366 (.ref 141), dE P (.ofString "swap_texts") 377 (.ref 148), dE P (.ofString "push_waiting") 385 (.ref 155), dE P (.ofString "pop_waiting") 394 (.ref 162), dE P (.ofString "join_waiting") 404 (.ref 169), dE P (.ofString "keep_waiting") 412 (.ref 176), dE P (.ofString "write_within") 423 (.ref 183), dE P (.ofString "set_left") 433 (.ref 190), dE P (.ofString "set_right") 444 (.ref 197), dE P (.ofString "is_sound") 450 (.ref 202), dE P (.ofString "_law_box") 458 (.ref 207), dE P (.ofString "_law_take") 467 (.ref 214), dE P (.ofString "_law_text") 474 (.ref 221), dE P (.ofString "_law_code") 482 (.ref 228), dE P (.ofString "_law_held") 488 (.ref 233), dE P (.ofString "_law_given") 507 (.ref 240), dE P (.ofString "_law_pushed") 521 (.ref 247), dE P (.ofString "_law_joined") 534 (.ref 254), dE P (.ofString "_law_written") 553 (.ref 261), dE P (.ofString "_law_deed") 569 (.ref 268), dE P (.ofString "law") 575 (.ref 273)] 46 }) ::
  (nat_lit 18, { cls := .type "cell", data := .cell (some (.ref 34)) }) ::
  (nat_lit 23, { cls := .type "tuple", data := .seq #[.str (.ofString "") 201] }) ::
  (nat_lit 30, { cls := .type "code", data := .fields #[.str (.ofString "__init__") 202, .str (.ofString "BasicError.__init__") 203, .str (.ofString "/claim/cut.py") 204, .int 4 0, .int 3 0, .int 0 0, .int 0 0, .int 3 0, .ref 25, .bool true, .int 181 0, .ref 26, .none, .ref 27, .ref 28, .ref 29, .int 209 0, .int 4 0, .str (.ofString "/claim/cut.py") 210] }) ::
  (nat_lit 31, { cls := .type "function", dict := none, data := .func { name := .ofString "__init__", qualname := .ofString "BasicError.__init__", params := (fdM 1).1, body := .stmts (fdM 1).2.1, scope := (fdM 1).2.2, globals := 3, closure := [(.ofString "__class__", 18)], defaults := .ref 23, kwdefaults := .none, doc := .none, pyModule := .str (.ofString "basicplus.values") 187, annotations := none, code := .ref 30, closureTuple := .ref 24, builtins := 0 }, slots := #[] }) ::
  (nat_lit 33, { cls := .type "dict", data := .dict #[dE P (.ofString "__module__") 196 (.str (.ofString "basicplus.values") 187), dE P (.ofString "__firstlineno__") 200 (.int 2 199), dE P (.ofString "__init__") 211 (.ref 31), dE P (.ofString "__static_attributes__") 214 (.ref 32), dE P (.ofString "__weakref__") 217 (.ref 35), dE P (.ofString "__doc__") 218 (.none)] 4 }) ::
  (nat_lit 34, { cls := .type "type", data := .cls { name := .ofString "BasicError", bases := [.type "Exception"], mro := [.ref 34, .type "Exception", .type "BaseException", .type "object"], ns := 33, qualname := .ofString "BasicError" }, slots := #[some (.ref 15), none, some (.str (.ofString "BasicError") 189), some (.str (.ofString "BasicError") 197), some (.builtin "Exception.__new__"), some (.bool true)] }) ::
  (nat_lit 50, { cls := .type "code", data := .fields #[.str (.ofString "__init__") 241, .str (.ofString "Space.__init__") 242, .str (.ofString "/claim/cut.py") 243, .int 13 0, .int 3 0, .int 0 0, .int 0 0, .int 3 0, .ref 45, .bool true, .int 181 0, .ref 46, .none, .ref 47, .ref 48, .ref 49, .int 247 0, .int 13 0, .str (.ofString "/claim/cut.py") 248] }) ::
  (nat_lit 51, { cls := .type "function", dict := none, data := .func { name := .ofString "__init__", qualname := .ofString "Space.__init__", params := (fdM 5).1, body := .stmts (fdM 5).2.1, scope := (fdM 5).2.2, globals := 3, closure := [], defaults := .none, kwdefaults := .none, doc := .none, pyModule := .str (.ofString "basicplus.strspace") 223, annotations := none, code := .ref 50, closureTuple := .none, builtins := 0 }, slots := #[] }) ::
  (nat_lit 53, { cls := .type "dict", data := .dict #[dE P (.ofString "__module__") 236 (.str (.ofString "basicplus.strspace") 223), dE P (.ofString "__firstlineno__") 240 (.int 11 239), dE P (.ofString "__init__") 249 (.ref 51), dE P (.ofString "__static_attributes__") 258 (.ref 52), dE P (.ofString "__dict__") 260 (.ref 55), dE P (.ofString "__weakref__") 262 (.ref 56), dE P (.ofString "__doc__") 263 (.none)] 4 }) ::
  (nat_lit 54, { cls := .type "type", data := .cls { name := .ofString "Space", bases := [.type "object"], mro := [.ref 54, .type "object"], ns := 53, qualname := .ofString "Space" }, slots := #[none, none, some (.str (.ofString "Space") 229), some (.str (.ofString "Space") 237), some (.builtin "object.__new__"), some (.bool true)] }) ::
  (nat_lit 62, { cls := .type "code", data := .fields #[.str (.ofString "octets_of") 266, .str (.ofString "octets_of") 267, .str (.ofString "/claim/cut.py") 268, .int 22 0, .int 1 0, .int 0 0, .int 0 0, .int 3 0, .ref 59, .bool true, .int 181 0, .ref 60, .none, .none, .none, .ref 61, .int 269 0, .int 22 0, .str (.ofString "/claim/cut.py") 270] }) ::
  (nat_lit 63, { cls := .type "function", dict := none, data := .func { name := .ofString "octets_of", qualname := .ofString "octets_of", params := (fdP 6).1, body := .stmts (fdP 6).2.1, scope := (fdP 6).2.2, globals := 3, closure := [], defaults := .none, kwdefaults := .none, doc := .none, pyModule := .str (.ofString "basicplus.strspace") 223, annotations := none, code := .ref 62, closureTuple := .none, builtins := 0 }, slots := #[] }) ::
  (nat_lit 67, { cls := .type "code", data := .fields #[.str (.ofString "text_at") 272, .str (.ofString "text_at") 273, .str (.ofString "/claim/cut.py") 274, .int 24 0, .int 2 0, .int 0 0, .int 0 0, .int 3 0, .ref 64, .bool true, .int 181 0, .ref 65, .none, .none, .none, .ref 66, .int 275 0, .int 24 0, .str (.ofString "/claim/cut.py") 276] }) ::
  (nat_lit 68, { cls := .type "function", dict := none, data := .func { name := .ofString "text_at", qualname := .ofString "text_at", params := (fdP 7).1, body := .stmts (fdP 7).2.1, scope := (fdP 7).2.2, globals := 3, closure := [], defaults := .none, kwdefaults := .none, doc := .none, pyModule := .str (.ofString "basicplus.strspace") 223, annotations := none, code := .ref 67, closureTuple := .none, builtins := 0 }, slots := #[] }) ::
  (nat_lit 74, { cls := .type "code", data := .fields #[.str (.ofString "write_octets") 278, .str (.ofString "write_octets") 279, .str (.ofString "/claim/cut.py") 280, .int 26 0, .int 3 0, .int 0 0, .int 0 0, .int 3 0, .ref 69, .bool true, .int 181 0, .ref 70, .none, .ref 71, .ref 72, .ref 73, .int 286 0, .int 26 0, .str (.ofString "/claim/cut.py") 287] }) ::
  (nat_lit 75, { cls := .type "function", dict := none, data := .func { name := .ofString "write_octets", qualname := .ofString "write_octets", params := (fdP 8).1, body := .stmts (fdP 8).2.1, scope := (fdP 8).2.2, globals := 3, closure := [], defaults := .none, kwdefaults := .none, doc := .none, pyModule := .str (.ofString "basicplus.strspace") 223, annotations := none, code := .ref 74, closureTuple := .none, builtins := 0 }, slots := #[] }) ::
  (nat_lit 79, { cls := .type "code", data := .fields #[.str (.ofString "places_of") 289, .str (.ofString "places_of") 290, .str (.ofString "/claim/cut.py") 291, .int 29 0, .int 1 0, .int 0 0, .int 0 0, .int 3 0, .ref 76, .bool true, .int 181 0, .ref 77, .none, .none, .none, .ref 78, .int 292 0, .int 29 0, .str (.ofString "/claim/cut.py") 293] }) ::
  (nat_lit 80, { cls := .type "function", dict := none, data := .func { name := .ofString "places_of", qualname := .ofString "places_of", params := (fdP 9).1, body := .stmts (fdP 9).2.1, scope := (fdP 9).2.2, globals := 3, closure := [], defaults := .none, kwdefaults := .none, doc := .none, pyModule := .str (.ofString "basicplus.strspace") 223, annotations := none, code := .ref 79, closureTuple := .none, builtins := 0 }, slots := #[] }) ::
  (nat_lit 86, { cls := .type "code", data := .fields #[.str (.ofString "free_room") 295, .str (.ofString "free_room") 296, .str (.ofString "/claim/cut.py") 297, .int 32 0, .int 1 0, .int 0 0, .int 0 0, .int 3 0, .ref 81, .bool true, .int 181 0, .ref 82, .none, .ref 83, .ref 84, .ref 85, .int 299 0, .int 32 0, .str (.ofString "/claim/cut.py") 300] }) ::
  (nat_lit 87, { cls := .type "function", dict := none, data := .func { name := .ofString "free_room", qualname := .ofString "free_room", params := (fdP 10).1, body := .stmts (fdP 10).2.1, scope := (fdP 10).2.2, globals := 3, closure := [], defaults := .none, kwdefaults := .none, doc := .none, pyModule := .str (.ofString "basicplus.strspace") 223, annotations := none, code := .ref 86, closureTuple := .none, builtins := 0 }, slots := #[] }) ::
  (nat_lit 93, { cls := .type "code", data := .fields #[.str (.ofString "next_highest") 302, .str (.ofString "next_highest") 303, .str (.ofString "/claim/cut.py") 304, .int 34 0, .int 2 0, .int 0 0, .int 0 0, .int 3 0, .ref 88, .bool true, .int 181 0, .ref 89, .none, .ref 90, .ref 91, .ref 92, .int 309 0, .int 34 0, .str (.ofString "/claim/cut.py") 310] }) ::
  (nat_lit 94, { cls := .type "function", dict := none, data := .func { name := .ofString "next_highest", qualname := .ofString "next_highest", params := (fdP 11).1, body := .stmts (fdP 11).2.1, scope := (fdP 11).2.2, globals := 3, closure := [], defaults := .none, kwdefaults := .none, doc := .none, pyModule := .str (.ofString "basicplus.strspace") 223, annotations := none, code := .ref 93, closureTuple := .none, builtins := 0 }, slots := #[] }) ::
  (nat_lit 98, { cls := .type "code", data := .fields #[.str (.ofString "collect") 312, .str (.ofString "collect") 313, .str (.ofString "/claim/cut.py") 314, .int 40 0, .int 1 0, .int 0 0, .int 0 0, .int 3 0, .ref 95, .bool true, .int 181 0, .ref 96, .none, .none, .none, .ref 97, .int 315 0, .int 40 0, .str (.ofString "/claim/cut.py") 316] }) ::
  (nat_lit 99, { cls := .type "function", dict := none, data := .func { name := .ofString "collect", qualname := .ofString "collect", params := (fdP 12).1, body := .stmts (fdP 12).2.1, scope := (fdP 12).2.2, globals := 3, closure := [], defaults := .none, kwdefaults := .none, doc := .none, pyModule := .str (.ofString "basicplus.strspace") 223, annotations := none, code := .ref 98, closureTuple := .none, builtins := 0 }, slots := #[] }) ::
  (nat_lit 105, { cls := .type "code", data := .fields #[.str (.ofString "fre") 318, .str (.ofString "fre") 319, .str (.ofString "/claim/cut.py") 320, .int 54 0, .int 1 0, .int 0 0, .int 0 0, .int 3 0, .ref 100, .bool true, .int 181 0, .ref 101, .none, .ref 102, .ref 103, .ref 104, .int 322 0, .int 54 0, .str (.ofString "/claim/cut.py") 323] }) ::
  (nat_lit 106, { cls := .type "function", dict := none, data := .func { name := .ofString "fre", qualname := .ofString "fre", params := (fdP 13).1, body := .stmts (fdP 13).2.1, scope := (fdP 13).2.2, globals := 3, closure := [], defaults := .none, kwdefaults := .none, doc := .none, pyModule := .str (.ofString "basicplus.strspace") 223, annotations := none, code := .ref 105, closureTuple := .none, builtins := 0 }, slots := #[] }) ::
  (nat_lit 112, { cls := .type "code", data := .fields #[.str (.ofString "allocate") 325, .str (.ofString "allocate") 326, .str (.ofString "/claim/cut.py") 327, .int 57 0, .int 2 0, .int 0 0, .int 0 0, .int 3 0, .ref 107, .bool true, .int 181 0, .ref 108, .none, .ref 109, .ref 110, .ref 111, .int 330 0, .int 57 0, .str (.ofString "/claim/cut.py") 331] }) ::
  (nat_lit 113, { cls := .type "function", dict := none, data := .func { name := .ofString "allocate", qualname := .ofString "allocate", params := (fdP 14).1, body := .stmts (fdP 14).2.1, scope := (fdP 14).2.2, globals := 3, closure := [], defaults := .none, kwdefaults := .none, doc := .none, pyModule := .str (.ofString "basicplus.strspace") 223, annotations := none, code := .ref 112, closureTuple := .none, builtins := 0 }, slots := #[] }) ::
  (nat_lit 119, { cls := .type "code", data := .fields #[.str (.ofString "placed") 333, .str (.ofString "placed") 334, .str (.ofString "/claim/cut.py") 335, .int 66 0, .int 2 0, .int 0 0, .int 0 0, .int 3 0, .ref 114, .bool true, .int 181 0, .ref 115, .none, .ref 116, .ref 117, .ref 118, .int 339 0, .int 66 0, .str (.ofString "/claim/cut.py") 340] }) ::
  (nat_lit 120, { cls := .type "function", dict := none, data := .func { name := .ofString "placed", qualname := .ofString "placed", params := (fdP 15).1, body := .stmts (fdP 15).2.1, scope := (fdP 15).2.2, globals := 3, closure := [], defaults := .none, kwdefaults := .none, doc := .none, pyModule := .str (.ofString "basicplus.strspace") 223, annotations := none, code := .ref 119, closureTuple := .none, builtins := 0 }, slots := #[] }) ::
  (nat_lit 126, { cls := .type "code", data := .fields #[.str (.ofString "assign_text") 342, .str (.ofString "assign_text") 343, .str (.ofString "/claim/cut.py") 344, .int 70 0, .int 3 0, .int 0 0, .int 0 0, .int 3 0, .ref 121, .bool true, .int 181 0, .ref 122, .none, .ref 123, .ref 124, .ref 125, .int 348 0, .int 70 0, .str (.ofString "/claim/cut.py") 349] }) ::
  (nat_lit 127, { cls := .type "function", dict := none, data := .func { name := .ofString "assign_text", qualname := .ofString "assign_text", params := (fdP 16).1, body := .stmts (fdP 16).2.1, scope := (fdP 16).2.2, globals := 3, closure := [], defaults := .none, kwdefaults := .none, doc := .none, pyModule := .str (.ofString "basicplus.strspace") 223, annotations := none, code := .ref 126, closureTuple := .none, builtins := 0 }, slots := #[] }) ::
  (nat_lit 133, { cls := .type "code", data := .fields #[.str (.ofString "text_of") 351, .str (.ofString "text_of") 352, .str (.ofString "/claim/cut.py") 353, .int 72 0, .int 2 0, .int 0 0, .int 0 0, .int 3 0, .ref 128, .bool true, .int 181 0, .ref 129, .none, .ref 130, .ref 131, .ref 132, .int 356 0, .int 72 0, .str (.ofString "/claim/cut.py") 357] }) ::
  (nat_lit 134, { cls := .type "function", dict := none, data := .func { name := .ofString "text_of", qualname := .ofString "text_of", params := (fdP 17).1, body := .stmts (fdP 17).2.1, scope := (fdP 17).2.2, globals := 3, closure := [], defaults := .none, kwdefaults := .none, doc := .none, pyModule := .str (.ofString "basicplus.strspace") 223, annotations := none, code := .ref 133, closureTuple := .none, builtins := 0 }, slots := #[] }) ::
  (nat_lit 140, { cls := .type "code", data := .fields #[.str (.ofString "forget") 359, .str (.ofString "forget") 360, .str (.ofString "/claim/cut.py") 361, .int 74 0, .int 2 0, .int 0 0, .int 0 0, .int 3 0, .ref 135, .bool true, .int 181 0, .ref 136, .none, .ref 137, .ref 138, .ref 139, .int 364 0, .int 74 0, .str (.ofString "/claim/cut.py") 365] }) ::
  (nat_lit 141, { cls := .type "function", dict := none, data := .func { name := .ofString "forget", qualname := .ofString "forget", params := (fdP 18).1, body := .stmts (fdP 18).2.1, scope := (fdP 18).2.2, globals := 3, closure := [], defaults := .none, kwdefaults := .none, doc := .none, pyModule := .str (.ofString "basicplus.strspace") 223, annotations := none, code := .ref 140, closureTuple := .none, builtins := 0 }, slots := #[] }) ::
  (nat_lit 147, { cls := .type "code", data := .fields #[.str (.ofString "swap_texts") 367, .str (.ofString "swap_texts") 368, .str (.ofString "/claim/cut.py") 369, .int 76 0, .int 3 0, .int 0 0, .int 0 0, .int 3 0, .ref 142, .bool true, .int 181 0, .ref 143, .none, .ref 144, .ref 145, .ref 146, .int 375 0, .int 76 0, .str (.ofString "/claim/cut.py") 376] }) ::
  (nat_lit 148, { cls := .type "function", dict := none, data := .func { name := .ofString "swap_texts", qualname := .ofString "swap_texts", params := (fdP 19).1, body := .stmts (fdP 19).2.1, scope := (fdP 19).2.2, globals := 3, closure := [], defaults := .none, kwdefaults := .none, doc := .none, pyModule := .str (.ofString "basicplus.strspace") 223, annotations := none, code := .ref 147, closureTuple := .none, builtins := 0 }, slots := #[] }) ::
  (nat_lit 154, { cls := .type "code", data := .fields #[.str (.ofString "push_waiting") 378, .str (.ofString "push_waiting") 379, .str (.ofString "/claim/cut.py") 380, .int 79 0, .int 2 0, .int 0 0, .int 0 0, .int 3 0, .ref 149, .bool true, .int 181 0, .ref 150, .none, .ref 151, .ref 152, .ref 153, .int 383 0, .int 79 0, .str (.ofString "/claim/cut.py") 384] }) ::
  (nat_lit 155, { cls := .type "function", dict := none, data := .func { name := .ofString "push_waiting", qualname := .ofString "push_waiting", params := (fdP 20).1, body := .stmts (fdP 20).2.1, scope := (fdP 20).2.2, globals := 3, closure := [], defaults := .none, kwdefaults := .none, doc := .none, pyModule := .str (.ofString "basicplus.strspace") 223, annotations := none, code := .ref 154, closureTuple := .none, builtins := 0 }, slots := #[] }) ::
  (nat_lit 161, { cls := .type "code", data := .fields #[.str (.ofString "pop_waiting") 386, .str (.ofString "pop_waiting") 387, .str (.ofString "/claim/cut.py") 388, .int 83 0, .int 1 0, .int 0 0, .int 0 0, .int 3 0, .ref 156, .bool true, .int 181 0, .ref 157, .none, .ref 158, .ref 159, .ref 160, .int 392 0, .int 83 0, .str (.ofString "/claim/cut.py") 393] }) ::
  (nat_lit 162, { cls := .type "function", dict := none, data := .func { name := .ofString "pop_waiting", qualname := .ofString "pop_waiting", params := (fdP 21).1, body := .stmts (fdP 21).2.1, scope := (fdP 21).2.2, globals := 3, closure := [], defaults := .none, kwdefaults := .none, doc := .none, pyModule := .str (.ofString "basicplus.strspace") 223, annotations := none, code := .ref 161, closureTuple := .none, builtins := 0 }, slots := #[] }) ::
  (nat_lit 168, { cls := .type "code", data := .fields #[.str (.ofString "join_waiting") 395, .str (.ofString "join_waiting") 396, .str (.ofString "/claim/cut.py") 397, .int 89 0, .int 1 0, .int 0 0, .int 0 0, .int 3 0, .ref 163, .bool true, .int 181 0, .ref 164, .none, .ref 165, .ref 166, .ref 167, .int 402 0, .int 89 0, .str (.ofString "/claim/cut.py") 403] }) ::
  (nat_lit 169, { cls := .type "function", dict := none, data := .func { name := .ofString "join_waiting", qualname := .ofString "join_waiting", params := (fdP 22).1, body := .stmts (fdP 22).2.1, scope := (fdP 22).2.2, globals := 3, closure := [], defaults := .none, kwdefaults := .none, doc := .none, pyModule := .str (.ofString "basicplus.strspace") 223, annotations := none, code := .ref 168, closureTuple := .none, builtins := 0 }, slots := #[] }) ::
  (nat_lit 175, { cls := .type "code", data := .fields #[.str (.ofString "keep_waiting") 405, .str (.ofString "keep_waiting") 406, .str (.ofString "/claim/cut.py") 407, .int 96 0, .int 2 0, .int 0 0, .int 0 0, .int 3 0, .ref 170, .bool true, .int 181 0, .ref 171, .none, .ref 172, .ref 173, .ref 174, .int 410 0, .int 96 0, .str (.ofString "/claim/cut.py") 411] }) ::
  (nat_lit 176, { cls := .type "function", dict := none, data := .func { name := .ofString "keep_waiting", qualname := .ofString "keep_waiting", params := (fdP 23).1, body := .stmts (fdP 23).2.1, scope := (fdP 23).2.2, globals := 3, closure := [], defaults := .none, kwdefaults := .none, doc := .none, pyModule := .str (.ofString "basicplus.strspace") 223, annotations := none, code := .ref 175, closureTuple := .none, builtins := 0 }, slots := #[] }) ::
  (nat_lit 182, { cls := .type "code", data := .fields #[.str (.ofString "write_within") 413, .str (.ofString "write_within") 414, .str (.ofString "/claim/cut.py") 415, .int 98 0, .int 4 0, .int 0 0, .int 0 0, .int 3 0, .ref 177, .bool true, .int 181 0, .ref 178, .none, .ref 179, .ref 180, .ref 181, .int 421 0, .int 98 0, .str (.ofString "/claim/cut.py") 422] }) ::
  (nat_lit 183, { cls := .type "function", dict := none, data := .func { name := .ofString "write_within", qualname := .ofString "write_within", params := (fdP 24).1, body := .stmts (fdP 24).2.1, scope := (fdP 24).2.2, globals := 3, closure := [], defaults := .none, kwdefaults := .none, doc := .none, pyModule := .str (.ofString "basicplus.strspace") 223, annotations := none, code := .ref 182, closureTuple := .none, builtins := 0 }, slots := #[] }) ::
  (nat_lit 189, { cls := .type "code", data := .fields #[.str (.ofString "set_left") 424, .str (.ofString "set_left") 425, .str (.ofString "/claim/cut.py") 426, .int 103 0, .int 3 0, .int 0 0, .int 0 0, .int 3 0, .ref 184, .bool true, .int 181 0, .ref 185, .none, .ref 186, .ref 187, .ref 188, .int 431 0, .int 103 0, .str (.ofString "/claim/cut.py") 432] }) ::
  (nat_lit 190, { cls := .type "function", dict := none, data := .func { name := .ofString "set_left", qualname := .ofString "set_left", params := (fdP 25).1, body := .stmts (fdP 25).2.1, scope := (fdP 25).2.2, globals := 3, closure := [], defaults := .none, kwdefaults := .none, doc := .none, pyModule := .str (.ofString "basicplus.strspace") 223, annotations := none, code := .ref 189, closureTuple := .none, builtins := 0 }, slots := #[] }) ::
  (nat_lit 196, { cls := .type "code", data := .fields #[.str (.ofString "set_right") 434, .str (.ofString "set_right") 435, .str (.ofString "/claim/cut.py") 436, .int 106 0, .int 3 0, .int 0 0, .int 0 0, .int 3 0, .ref 191, .bool true, .int 181 0, .ref 192, .none, .ref 193, .ref 194, .ref 195, .int 442 0, .int 106 0, .str (.ofString "/claim/cut.py") 443] }) ::
  (nat_lit 197, { cls := .type "function", dict := none, data := .func { name := .ofString "set_right", qualname := .ofString "set_right", params := (fdP 26).1, body := .stmts (fdP 26).2.1, scope := (fdP 26).2.2, globals := 3, closure := [], defaults := .none, kwdefaults := .none, doc := .none, pyModule := .str (.ofString "basicplus.strspace") 223, annotations := none, code := .ref 196, closureTuple := .none, builtins := 0 }, slots := #[] }) ::
  (nat_lit 201, { cls := .type "code", data := .fields #[.str (.ofString "is_sound") 445, .str (.ofString "is_sound") 446, .str (.ofString "/claim/cut.py") 447, .int 110 0, .int 1 0, .int 0 0, .int 0 0, .int 3 0, .ref 198, .bool true, .int 181 0, .ref 199, .none, .none, .none, .ref 200, .int 448 0, .int 110 0, .str (.ofString "/claim/cut.py") 449] }) ::
  (nat_lit 202, { cls := .type "function", dict := none, data := .func { name := .ofString "is_sound", qualname := .ofString "is_sound", params := (fdP 27).1, body := .stmts (fdP 27).2.1, scope := (fdP 27).2.2, globals := 3, closure := [], defaults := .none, kwdefaults := .none, doc := .none, pyModule := .str (.ofString "basicplus.strspace") 223, annotations := none, code := .ref 201, closureTuple := .none, builtins := 0 }, slots := #[] }) ::
  (nat_lit 206, { cls := .type "code", data := .fields #[.str (.ofString "_law_box") 453, .str (.ofString "_law_box") 454, .str (.ofString "/claim/cut.py") 455, .int 117 0, .int 1 0, .int 0 0, .int 0 0, .int 3 0, .ref 203, .bool true, .int 181 0, .ref 204, .none, .none, .none, .ref 205, .int 456 0, .int 117 0, .str (.ofString "/claim/cut.py") 457] }) ::
  (nat_lit 207, { cls := .type "function", dict := none, data := .func { name := .ofString "_law_box", qualname := .ofString "_law_box", params := (fdP 29).1, body := .stmts (fdP 29).2.1, scope := (fdP 29).2.2, globals := 3, closure := [], defaults := .none, kwdefaults := .none, doc := .none, pyModule := .str (.ofString "law_pq0168_01") 451, annotations := none, code := .ref 206, closureTuple := .none, builtins := 0 }, slots := #[] }) ::
  (nat_lit 213, { cls := .type "code", data := .fields #[.str (.ofString "_law_take") 459, .str (.ofString "_law_take") 460, .str (.ofString "/claim/cut.py") 461, .int 120 0, .int 2 0, .int 0 0, .int 0 0, .int 3 0, .ref 208, .bool true, .int 181 0, .ref 209, .none, .ref 210, .ref 211, .ref 212, .int 465 0, .int 120 0, .str (.ofString "/claim/cut.py") 466] }) ::
  (nat_lit 214, { cls := .type "function", dict := none, data := .func { name := .ofString "_law_take", qualname := .ofString "_law_take", params := (fdP 30).1, body := .stmts (fdP 30).2.1, scope := (fdP 30).2.2, globals := 3, closure := [], defaults := .none, kwdefaults := .none, doc := .none, pyModule := .str (.ofString "law_pq0168_01") 451, annotations := none, code := .ref 213, closureTuple := .none, builtins := 0 }, slots := #[] }) ::
  (nat_lit 220, { cls := .type "code", data := .fields #[.str (.ofString "_law_text") 468, .str (.ofString "_law_text") 469, .str (.ofString "/claim/cut.py") 470, .int 126 0, .int 1 0, .int 0 0, .int 0 0, .int 3 0, .ref 215, .bool true, .int 181 0, .ref 216, .none, .ref 217, .ref 218, .ref 219, .int 472 0, .int 126 0, .str (.ofString "/claim/cut.py") 473] }) ::
  (nat_lit 221, { cls := .type "function", dict := none, data := .func { name := .ofString "_law_text", qualname := .ofString "_law_text", params := (fdP 31).1, body := .stmts (fdP 31).2.1, scope := (fdP 31).2.2, globals := 3, closure := [], defaults := .none, kwdefaults := .none, doc := .none, pyModule := .str (.ofString "law_pq0168_01") 451, annotations := none, code := .ref 220, closureTuple := .none, builtins := 0 }, slots := #[] }) ::
  (nat_lit 227, { cls := .type "code", data := .fields #[.str (.ofString "_law_code") 475, .str (.ofString "_law_code") 476, .str (.ofString "/claim/cut.py") 477, .int 128 0, .int 1 0, .int 0 0, .int 0 0, .int 3 0, .ref 222, .bool true, .int 181 0, .ref 223, .none, .ref 224, .ref 225, .ref 226, .int 480 0, .int 128 0, .str (.ofString "/claim/cut.py") 481] }) ::
  (nat_lit 228, { cls := .type "function", dict := none, data := .func { name := .ofString "_law_code", qualname := .ofString "_law_code", params := (fdP 32).1, body := .stmts (fdP 32).2.1, scope := (fdP 32).2.2, globals := 3, closure := [], defaults := .none, kwdefaults := .none, doc := .none, pyModule := .str (.ofString "law_pq0168_01") 451, annotations := none, code := .ref 227, closureTuple := .none, builtins := 0 }, slots := #[] }) ::
  (nat_lit 232, { cls := .type "code", data := .fields #[.str (.ofString "_law_held") 483, .str (.ofString "_law_held") 484, .str (.ofString "/claim/cut.py") 485, .int 134 0, .int 2 0, .int 0 0, .int 0 0, .int 3 0, .ref 229, .bool true, .int 181 0, .ref 230, .none, .none, .none, .ref 231, .int 486 0, .int 134 0, .str (.ofString "/claim/cut.py") 487] }) ::
  (nat_lit 233, { cls := .type "function", dict := none, data := .func { name := .ofString "_law_held", qualname := .ofString "_law_held", params := (fdP 33).1, body := .stmts (fdP 33).2.1, scope := (fdP 33).2.2, globals := 3, closure := [], defaults := .none, kwdefaults := .none, doc := .none, pyModule := .str (.ofString "law_pq0168_01") 451, annotations := none, code := .ref 232, closureTuple := .none, builtins := 0 }, slots := #[] }) ::
  (nat_lit 239, { cls := .type "code", data := .fields #[.str (.ofString "_law_given") 489, .str (.ofString "_law_given") 490, .str (.ofString "/claim/cut.py") 491, .int 136 0, .int 6 0, .int 0 0, .int 0 0, .int 3 0, .ref 234, .bool true, .int 181 0, .ref 235, .none, .ref 236, .ref 237, .ref 238, .int 505 0, .int 136 0, .str (.ofString "/claim/cut.py") 506] }) ::
  (nat_lit 240, { cls := .type "function", dict := none, data := .func { name := .ofString "_law_given", qualname := .ofString "_law_given", params := (fdP 34).1, body := .stmts (fdP 34).2.1, scope := (fdP 34).2.2, globals := 3, closure := [], defaults := .none, kwdefaults := .none, doc := .none, pyModule := .str (.ofString "law_pq0168_01") 451, annotations := none, code := .ref 239, closureTuple := .none, builtins := 0 }, slots := #[] }) ::
  (nat_lit 246, { cls := .type "code", data := .fields #[.str (.ofString "_law_pushed") 508, .str (.ofString "_law_pushed") 509, .str (.ofString "/claim/cut.py") 510, .int 145 0, .int 5 0, .int 0 0, .int 0 0, .int 3 0, .ref 241, .bool true, .int 181 0, .ref 242, .none, .ref 243, .ref 244, .ref 245, .int 519 0, .int 145 0, .str (.ofString "/claim/cut.py") 520] }) ::
  (nat_lit 247, { cls := .type "function", dict := none, data := .func { name := .ofString "_law_pushed", qualname := .ofString "_law_pushed", params := (fdP 35).1, body := .stmts (fdP 35).2.1, scope := (fdP 35).2.2, globals := 3, closure := [], defaults := .none, kwdefaults := .none, doc := .none, pyModule := .str (.ofString "law_pq0168_01") 451, annotations := none, code := .ref 246, closureTuple := .none, builtins := 0 }, slots := #[] }) ::
  (nat_lit 253, { cls := .type "code", data := .fields #[.str (.ofString "_law_joined") 522, .str (.ofString "_law_joined") 523, .str (.ofString "/claim/cut.py") 524, .int 152 0, .int 4 0, .int 0 0, .int 0 0, .int 3 0, .ref 248, .bool true, .int 181 0, .ref 249, .none, .ref 250, .ref 251, .ref 252, .int 532 0, .int 152 0, .str (.ofString "/claim/cut.py") 533] }) ::
  (nat_lit 254, { cls := .type "function", dict := none, data := .func { name := .ofString "_law_joined", qualname := .ofString "_law_joined", params := (fdP 36).1, body := .stmts (fdP 36).2.1, scope := (fdP 36).2.2, globals := 3, closure := [], defaults := .none, kwdefaults := .none, doc := .none, pyModule := .str (.ofString "law_pq0168_01") 451, annotations := none, code := .ref 253, closureTuple := .none, builtins := 0 }, slots := #[] }) ::
  (nat_lit 260, { cls := .type "code", data := .fields #[.str (.ofString "_law_written") 535, .str (.ofString "_law_written") 536, .str (.ofString "/claim/cut.py") 537, .int 162 0, .int 6 0, .int 0 0, .int 0 0, .int 3 0, .ref 255, .bool true, .int 181 0, .ref 256, .none, .ref 257, .ref 258, .ref 259, .int 551 0, .int 162 0, .str (.ofString "/claim/cut.py") 552] }) ::
  (nat_lit 261, { cls := .type "function", dict := none, data := .func { name := .ofString "_law_written", qualname := .ofString "_law_written", params := (fdP 37).1, body := .stmts (fdP 37).2.1, scope := (fdP 37).2.2, globals := 3, closure := [], defaults := .none, kwdefaults := .none, doc := .none, pyModule := .str (.ofString "law_pq0168_01") 451, annotations := none, code := .ref 260, closureTuple := .none, builtins := 0 }, slots := #[] }) ::
  (nat_lit 267, { cls := .type "code", data := .fields #[.str (.ofString "_law_deed") 554, .str (.ofString "_law_deed") 555, .str (.ofString "/claim/cut.py") 556, .int 179 0, .int 5 0, .int 0 0, .int 0 0, .int 3 0, .ref 262, .bool true, .int 181 0, .ref 263, .none, .ref 264, .ref 265, .ref 266, .int 567 0, .int 179 0, .str (.ofString "/claim/cut.py") 568] }) ::
  (nat_lit 268, { cls := .type "function", dict := none, data := .func { name := .ofString "_law_deed", qualname := .ofString "_law_deed", params := (fdP 38).1, body := .stmts (fdP 38).2.1, scope := (fdP 38).2.2, globals := 3, closure := [], defaults := .none, kwdefaults := .none, doc := .none, pyModule := .str (.ofString "law_pq0168_01") 451, annotations := none, code := .ref 267, closureTuple := .none, builtins := 0 }, slots := #[] }) ::
  (nat_lit 272, { cls := .type "code", data := .fields #[.str (.ofString "law") 570, .str (.ofString "law") 571, .str (.ofString "/claim/cut.py") 572, .int 206 0, .int 1 0, .int 0 0, .int 0 0, .int 3 0, .ref 269, .bool true, .int 181 0, .ref 270, .none, .none, .none, .ref 271, .int 573 0, .int 206 0, .str (.ofString "/claim/cut.py") 574] }) ::
  (nat_lit 273, { cls := .type "function", dict := none, data := .func { name := .ofString "law", qualname := .ofString "law", params := (fdP 39).1, body := .stmts (fdP 39).2.1, scope := (fdP 39).2.2, globals := 3, closure := [], defaults := .none, kwdefaults := .none, doc := .none, pyModule := .str (.ofString "law_pq0168_01") 451, annotations := none, code := .ref 272, closureTuple := .none, builtins := 0 }, slots := #[] }) :: []
noncomputable def asK : List Addr := [2, 3, 18, 23, 30, 31, 33, 34, 50, 51, 53, 54, 62, 63, 67, 68, 74, 75, 79, 80, 86, 87, 93, 94, 98, 99, 105, 106, 112, 113, 119, 120, 126, 127, 133, 134, 140, 141, 147, 148, 154, 155, 161, 162, 168, 169, 175, 176, 182, 183, 189, 190, 196, 197, 201, 202, 206, 207, 213, 214, 220, 221, 227, 228, 232, 233, 239, 240, 246, 247, 253, 254, 260, 261, 267, 268, 272, 273]
theorem hkE : ∀ P, asK = (KP P).map (·.1) := fun _ => by kernel_rfl
theorem tl : LeftO PySem.Challenge.rw_pq0168_01.row.prog VIEW [PySem.Str.ofString "BasicError"] (fun s => xlAt VIEW [] s && recOk (RowW.records PySem.Challenge.rw_pq0168_01.row.toRowW) s) (kmHook KP asK hkE [256, 249, 242, 235, 270]).obs (kmHook KP asK hkE [256, 249, 242, 235, 270]).val 3208 := by
  intro w
  kernel_rfl
set_option maxHeartbeats 200000
theorem inv_of (f : Nat → Shared → Prop) : ∃ I : Nat → Shared → Prop, (∀ n s, f n s → I n s) ∧ (∀ n s, I n s → f n s) := ⟨f, fun _ _ h => h, fun _ _ h => h⟩
theorem hide {G : Prop} (h : ∀ X : Prop, (G → X) → X) : G := h G id

/-! ## Abstract values, abstract heap -/
inductive V where
  | none
  | bool (b : Bool)
  | int (i : Int)
  | str (l : List Nat)
  | ref (n : Nat)
  | lst (l : List V)
  | tup (l : List V)

inductive AO where
  | list (l : List V)
  | dict (l : List (List Nat × V))
  | inst (l : List (String × V))
  | shadow

noncomputable abbrev AH := List AO
noncomputable abbrev Loc := List (String × V)

noncomputable def look {α : Type} (x : String) : List (String × α) → Option α
  | [] => none
  | (y, v) :: r => if y = x then some v else look x r
noncomputable def put {α : Type} (x : String) (v : α) : List (String × α) → List (String × α)
  | [] => [(x, v)]
  | (y, u) :: r => if y = x then (y, v) :: r else (y, u) :: put x v r
theorem look_put {α : Type} (x y : String) (v : α) : ∀ l : List (String × α), look y (put x v l) = if x = y then some v else look y l
  | [] => by simp [put, look]
  | (z, u) :: r => by
    unfold put
    by_cases h : z = x
    · subst h; by_cases h2 : z = y <;> simp [look, h2]
    · rw [if_neg h]
      unfold look
      rw [look_put x y v r]
      by_cases h2 : z = y
      · subst h2; simp [Ne.symm h]
      · simp [h2]

inductive Res (α : Type) where
  | ok (a : α) (σ : AH)
  | exc (c : V) (σ : AH)
  | fail
@[inline] noncomputable def Res.bind {α β : Type} : Res α → (α → AH → Res β) → Res β
  | .ok a σ, f => f a σ
  | .exc c σ, _ => .exc c σ
  | .fail, _ => .fail

noncomputable abbrev sname (x : String) : PySem.Str := PySem.Str.ofString x

theorem ofString_inj {a b : String} (h : PySem.Str.ofString a = PySem.Str.ofString b) : a = b := by
  have h2 := congrArg PySem.Str.cps h
  simp only [PySem.Str.ofString] at h2
  have h3 := congrArg Array.toList h2
  simp only [cpsOfBytes_string] at h3
  have inj : ∀ (l m : List Char), l.map Char.toNat = m.map Char.toNat → l = m := by
    intro l
    induction l with
    | nil => intro m e; cases m with | nil => rfl | cons _ _ => simp at e
    | cons c r ih =>
      intro m e
      cases m with
      | nil => simp at e
      | cons d t =>
        simp only [List.map_cons, List.cons.injEq] at e
        rw [ih t e.2, Char.toNat_inj.mp e.1]
  exact String.toList_inj.mp (inj _ _ h3)

/-! ## The static context, worlds -/
structure Tab where
  c : Addr
  P : Addr
  pos : Pos
  qual : PySem.Str
  sc : Scope

noncomputable def spaceFields : List String := ["size", "octets", "low", "free", "held", "waiting", "most_waiting", "collections"]

structure Cx where
  prog : Program
  w : World
  K : Frag
  h₀ : Heap
  p : Program
  loose : List PySem.Str
  mean : ExcName → Option Value
  mg : PySem.Str → Option Value
  mb : PySem.Str → Option Value
  X : K.In h₀
  T : Top p loose mean mg mb h₀
  tabs : List Tab
  tabNone : ∀ t ∈ tabs, h₀.get? t.P = none ∧ CodeHd h₀ t.c t.P
  tabNd : tabs.Pairwise fun a b => a.P ≠ b.P
  spaceC : Addr
  sysMod : ∃ a o, sysModules ≤ a ∧ h₀.get? a = some o
  spG : plainGet K spaceC "" = true
  spH : hasDictIn K spaceC = true
  spF : ∀ x ∈ spaceFields, findIn K (.ref spaceC) (PySem.Str.ofString x) = some none
  spSet : findIn K (.ref spaceC) "__setattr__" = some (some (.builtin "object.__setattr__"))
  spO : plainOver K spaceC = true
  hprog : prog.main.file = "/claim/cut.py"

structure Wd where
  ι : Nat → Addr
  σ : AH
  s : Shared

namespace Wd
@[reducible] noncomputable def nx (W : Wd) : Nat := W.σ.length
@[reducible] noncomputable def h (W : Wd) : Heap := W.s.heap
end Wd

mutual
inductive VR (ι : Nat → Addr) (nx : Nat) (h : Heap) : V → Value → Prop
  | none : VR ι nx h .none .none
  | bool (b : Bool) : VR ι nx h (.bool b) (.bool b)
  | int (i : Int) (t : Tok) : VR ι nx h (.int i) (.int i t)
  | str (l : List Nat) (t : Tok) : VR ι nx h (.str l) (.str ⟨l.toArray⟩ t)
  | ref (n : Nat) (hn : n < nx) : VR ι nx h (.ref n) (.ref (ι n))
  | lst (l : List V) (vs : List Value) (a : Addr) (ep : Nat) (o : Obj) (ho : h.get? a = some o) (hc : o.cls = .type "list") (hd : o.data = .seq vs.toArray ep) (ha : ∀ n, n < nx → ι n ≠ a) (hv : VsR ι nx h l vs) : VR ι nx h (.lst l) (.ref a)
  | tup (l : List V) (vs : List Value) (a : Addr) (ep : Nat) (ho : h.get? a = some { cls := .type "tuple", data := .seq vs.toArray ep }) (ha : ∀ n, n < nx → ι n ≠ a) (hv : VsR ι nx h l vs) : VR ι nx h (.tup l) (.ref a)
inductive VsR (ι : Nat → Addr) (nx : Nat) (h : Heap) : List V → List Value → Prop
  | nil : VsR ι nx h [] []
  | cons (v : V) (x : Value) (l : List V) (xs : List Value) (hv : VR ι nx h v x) (hs : VsR ι nx h l xs) : VsR ι nx h (v :: l) (x :: xs)
end

noncomputable abbrev Wd.VR (W : Wd) (v : V) (x : Value) : Prop := Mine.VR W.ι W.nx W.h v x
noncomputable abbrev Wd.VsR (W : Wd) (v : List V) (x : List Value) : Prop := Mine.VsR W.ι W.nx W.h v x

/-- kept, but for the slots of a frame's dict -/
noncomputable def KeptAs (o o' : Obj) : Prop := o' = o ∨ ((∃ es n, o.data = .dict es n) ∧ ∃ sl, o' = { o with slots := sl })
theorem KeptAs.refl (o : Obj) : KeptAs o o := .inl rfl
theorem KeptAs.trans {a b c : Obj} (x : KeptAs a b) (y : KeptAs b c) : KeptAs a c := by
  rcases x with rfl | ⟨⟨es, n, e⟩, sl, rfl⟩
  · exact y
  · rcases y with rfl | ⟨_, sl', rfl⟩
    · exact .inr ⟨⟨es, n, e⟩, sl, rfl⟩
    · exact .inr ⟨⟨es, n, e⟩, sl', rfl⟩
theorem KeptAs.data {a b : Obj} (x : KeptAs a b) : b.data = a.data := by
  rcases x with rfl | ⟨_, sl, rfl⟩ <;> rfl
theorem KeptAs.eq {a b : Obj} (x : KeptAs a b) (h : ∀ es n, a.data ≠ .dict es n) : b = a := by
  rcases x with rfl | ⟨⟨es, n, e⟩, _⟩
  · rfl
  · exact absurd e (h es n)

noncomputable def Cx.isTab (C : Cx) (b : Addr) : Prop := ∃ t ∈ C.tabs, t.P = b

structure Ext (C : Cx) (own : Addr → Prop) (W W' : Wd) : Prop where
  sh : ∃ h tk, W'.s = { W.s with heap := h, toks := tk }
  live : ∀ b o, W.h.get? b = some o → ∃ o', W'.h.get? b = some o'
  nx : W.nx ≤ W'.nx
  same : ∀ n, n < W.nx → W'.ι n = W.ι n
  fresh : ∀ n, W.nx ≤ n → n < W'.nx → W.h.get? (W'.ι n) = none
  keep : ∀ b o, W.h.get? b = some o → (∀ n, n < W.nx → W.ι n ≠ b) → ¬ C.isTab b → ¬ own b → ∃ o', W'.h.get? b = some o' ∧ KeptAs o o'
  dk : ∀ b o, W.h.get? b = some o → (∀ n, n < W.nx → W.ι n ≠ b) → ¬ C.isTab b → (∃ es n, o.data = .dict es n) → ∃ o', W'.h.get? b = some o' ∧ ∃ es n, o'.data = .dict es n

noncomputable abbrev noOwn : Addr → Prop := fun _ => False

theorem Ext.refl (C : Cx) (own) (W : Wd) : Ext C own W W :=
  ⟨⟨W.s.heap, W.s.toks, rfl⟩, fun _ o e => ⟨o, e⟩, Nat.le_refl _, fun _ _ => rfl, fun n h1 h2 => absurd h2 (Nat.not_lt.mpr h1), fun _ o e _ _ _ => ⟨o, e, .refl o⟩, fun _ o e _ _ h => ⟨o, e, h⟩⟩

theorem Ext.notι {C : Cx} {own : Addr → Prop} {W W' : Wd} (x : Ext C own W W') {b : Addr} {o : Obj} (hb : W.h.get? b = some o) (h : ∀ n, n < W.nx → W.ι n ≠ b) : ∀ n, n < W'.nx → W'.ι n ≠ b := fun n hn q => by
  by_cases hn' : n < W.nx
  · exact h n hn' ((x.same n hn').symm.trans q)
  · have := x.fresh n (Nat.not_lt.mp hn') hn
    rw [q, hb] at this; cases this
theorem Ext.unborn {C : Cx} {own : Addr → Prop} {W W' : Wd} (x : Ext C own W W') {b : Addr} (h : W'.h.get? b = none) : W.h.get? b = none := by
  cases q : W.h.get? b with
  | none => rfl
  | some o => obtain ⟨o', e⟩ := x.live b o q; rw [h] at e; cases e

theorem Ext.trans {C : Cx} {own : Addr → Prop} {W W₁ W₂ : Wd} (x : Ext C own W W₁) (y : Ext C own W₁ W₂) : Ext C own W W₂ := by
  refine ⟨?_, fun b o e => ?_, Nat.le_trans x.nx y.nx, fun n hn => (y.same n (Nat.lt_of_lt_of_le hn x.nx)).trans (x.same n hn), fun n h1 h2 => ?_, fun b o e h1 h2 h3 => ?_, fun b o e h1 h2 h3 => ?_⟩
  · obtain ⟨h, tk, e⟩ := x.sh
    obtain ⟨h', tk', e'⟩ := y.sh
    exact ⟨h', tk', by rw [e', e]⟩
  · obtain ⟨o₁, e₁⟩ := x.live b o e
    exact y.live b o₁ e₁
  · by_cases hn : n < W₁.nx
    · rw [y.same n hn]; exact x.fresh n h1 hn
    · exact x.unborn (y.fresh n (Nat.not_lt.mp hn) h2)
  · obtain ⟨o₁, e₁, k₁⟩ := x.keep b o e h1 h2 h3
    obtain ⟨o₂, e₂, k₂⟩ := y.keep b o₁ e₁ (x.notι e h1) h2 h3
    exact ⟨o₂, e₂, k₁.trans k₂⟩
  · obtain ⟨o₁, e₁, k₁⟩ := x.dk b o e h1 h2 h3
    exact y.dk b o₁ e₁ (x.notι e h1) h2 k₁

theorem Ext.mono {C : Cx} {own own' : Addr → Prop} {W W' : Wd} (x : Ext C own W W') (h : ∀ b o, W.h.get? b = some o → own b → own' b) : Ext C own' W W' :=
  ⟨x.sh, x.live, x.nx, x.same, x.fresh, fun b o e h1 h2 h3 => x.keep b o e h1 h2 fun q => h3 (h b o e q), x.dk⟩

mutual
theorem VR.ext {C : Cx} {own : Addr → Prop} {W W' : Wd} (x : Ext C own W W') (hs : ∀ b o, own b → W.h.get? b = some o → ∀ xs n, o.data ≠ .seq xs n) (ht : ∀ b o, C.isTab b → W.h.get? b = some o → ∀ xs n, o.data ≠ .seq xs n) :
    ∀ {v : V} {y : Value}, W.VR v y → W'.VR v y
  := fun {v y} h => by
  cases h with
  | none => exact .none
  | bool b => exact .bool b
  | int i t => exact .int i t
  | str l t => exact .str l t
  | ref n hn => rw [← x.same n hn]; exact .ref n (Nat.lt_of_lt_of_le hn x.nx)
  | lst l vs a ep o ho hc hd ha hv =>
    obtain ⟨o', e', k⟩ := x.keep a _ ho ha (fun q => ht a _ q ho _ _ hd) (fun q => hs a _ q ho _ _ hd)
    obtain rfl := k.eq (fun es n q => by rw [hd] at q; cases q)
    exact .lst l vs a ep _ e' hc hd (x.notι ho ha) (VsR.ext x hs ht hv)
  | tup l vs a ep ho ha hv =>
    obtain ⟨o', e', k⟩ := x.keep a _ ho ha (fun q => ht a _ q ho _ _ rfl) (fun q => hs a _ q ho _ _ rfl)
    obtain rfl := k.eq (fun es n => by simp)
    exact .tup l vs a ep e' (x.notι ho ha) (VsR.ext x hs ht hv)
theorem VsR.ext {C : Cx} {own : Addr → Prop} {W W' : Wd} (x : Ext C own W W') (hs : ∀ b o, own b → W.h.get? b = some o → ∀ xs n, o.data ≠ .seq xs n) (ht : ∀ b o, C.isTab b → W.h.get? b = some o → ∀ xs n, o.data ≠ .seq xs n) :
    ∀ {v : List V} {y : List Value}, W.VsR v y → W'.VsR v y
  := fun {v y} h => by
  cases h with
  | nil => exact .nil
  | cons v y l ys hv hs' => exact .cons v y l ys (VR.ext x hs ht hv) (VsR.ext x hs ht hs')
end
/-- a dict's entries by written names -/
inductive FsR (W : Wd) (P : Params) : List (String × V) → List DictEntry → Prop
  | nil : FsR W P [] []
  | cons (x : String) (v : V) (e : DictEntry) (t : Tok) (l es) (hk : e.key = .str (sname x) t) (hh : e.hash = PyData.keyHash P (sname x)) (hv : W.VR v e.val) (hr : FsR W P l es) : FsR W P ((x, v) :: l) (e :: es)
inductive DsR (W : Wd) : List (List Nat × V) → List (PySem.Str × Value) → Prop
  | nil : DsR W [] []
  | cons (x : List Nat) (v : V) (y : Value) (l es) (hv : W.VR v y) (hr : DsR W l es) : DsR W ((x, v) :: l) ((⟨x.toArray⟩, y) :: es)

noncomputable def OR (C : Cx) (W : Wd) (n : Nat) : AO → Prop
  | .list l => ∃ vs ep, W.h.get? (W.ι n) = some (listOf (List.toArray vs) ep) ∧ W.VsR l vs
  | .dict l => ∃ kvs, W.h.DictOf (strKind C.prog C.w) (W.ι n) kvs ∧ DsR W l kvs ∧ W.ι n ≠ sysModules
  | .inst fs => ∃ es ep, W.σ[n + 1]? = some .shadow ∧ W.h.get? (W.ι n) = some (instObj C.spaceC (W.ι (n + 1))) ∧ W.h.get? (W.ι (n + 1)) = some (dictOf es ep) ∧ FsR W C.w.params fs es
  | .shadow => True

/-- neither of the static part nor one of its tables -/
noncomputable def Cx.out (C : Cx) (b : Addr) : Prop := C.h₀.get? b = none ∧ ¬ C.isTab b

structure HR (C : Cx) (W : Wd) : Prop where
  keep : C.h₀.StaysIn W.h
  obj : ∀ n o, W.σ[n]? = some o → OR C W n o
  inj : ∀ n m, n < W.nx → m < W.nx → W.ι n = W.ι m → n = m
  above : ∀ n, n < W.nx → C.out (W.ι n)
  below : ∀ n, n < W.nx → ∃ o, W.h.get? (W.ι n) = some o
  tabs : ∀ t ∈ C.tabs, ∃ ps, W.h.get? t.P = some (tabObj ps) ∧ (ps = #[] ∨ ∃ c', ps = #[rawInt t.pos.line, rawInt t.pos.col, .ref c'] ∧ W.h.CodeRec (.ref c') t.qual)

structure Stk (C : Cx) (A : Around) (W : Wd) (outer : List Env) : Prop where
  eq : A.frames = some outer
  at_ : ∀ e ∈ outer, e.scope.kind ≠ .module ∧ ∃ L o, e.frame = some L ∧ C.out L ∧ (∀ n, n < W.nx → W.ι n ≠ L) ∧ W.h.get? L = some o ∧ ∃ es n, o.data = .dict es n

structure FR (C : Cx) (env : Env) (A : Around) (W : Wd) (ρ : Loc) : Prop where
  kind : env.scope.kind = .function
  glob : env.globals = mainGlobals
  blt : env.builtins = builtinsNs
  ns : ∃ m, W.h.Ns env.locals m ∧ ∀ x v, look x ρ = some v → env.kindOf (sname x) = some .local → ∃ y, m (sname x) = some y ∧ W.VR v y
  cel : ∀ x v, look x ρ = some v → env.kindOf (sname x) ≠ some .local → (env.kindOf (sname x) = some .cell ∨ env.kindOf (sname x) = some .free) ∧ ∃ c y, env.cells.lookup (sname x) = some c ∧ W.h.IsCell c (some y) ∧ W.VR v y
  locAp : C.out env.locals ∧ ∀ n, n < W.nx → W.ι n ≠ env.locals
  celAp : ∀ y c, env.cells.lookup y = some c → C.out c ∧ c ≠ env.locals ∧ (∀ n, n < W.nx → W.ι n ≠ c) ∧ ∃ v, W.h.IsCell c v
  celInj : ∀ y z c, env.cells.lookup y = some c → env.cells.lookup z = some c → y = z
  celHas : ∀ y, env.kindOf y = some .cell → (env.cells.lookup y).isSome = true
  stk : ∃ outer, Stk C A W outer

structure Room (A : Around) (k : Nat) : Prop where
  depth : A.depth + k < recursionLimit
  units : A.units + 5 * k + 100 < cLine
  hand : A.handled = none

/-- the code object of a def that makes a lambda -/
noncomputable def Cx.codeOk (C : Cx) (sc : Scope) (code : Value) (qual : PySem.Str) : Prop := sc.names.lookup (".0" : PySem.Str) = none → ∀ t ∈ C.tabs, t.sc = sc → code = .ref t.c ∧ qual ++ ("<lambda>" : PySem.Str) = t.qual

structure Here (C : Cx) (k : Nat) (sc : Scope) (env : Env) (A : Around) (W : Wd) (ρ : Loc) : Prop where
  sc : env.scope = sc ∧ C.codeOk sc env.code env.qual
  room : Room A k
  hr : HR C W
  fr : FR C env A W ρ

theorem HR.tabNot {C : Cx} {W : Wd} (H : HR C W) : ∀ b o, C.isTab b → W.h.get? b = some o → ∀ xs n, o.data ≠ .seq xs n := by
  rintro b o ⟨t, ht, rfl⟩ e xs n q
  obtain ⟨ps, hp, _⟩ := H.tabs t ht
  rw [e] at hp; cases hp; cases q
theorem HR.isTab_live {C : Cx} {W : Wd} (H : HR C W) {b : Addr} (h : C.isTab b) : ∃ o, W.h.get? b = some o := by
  refine hide fun X_ k_ => ?_
  obtain ⟨t, ht, rfl⟩ := h
  obtain ⟨ps, hp, _⟩ := H.tabs t ht
  refine k_ ?_
  clear k_ X_
  exact ⟨_, hp⟩
theorem HR.out {C : Cx} {W : Wd} (H : HR C W) {b : Addr} (h : W.h.get? b = none) : C.out b := by
  refine ⟨?_, fun q => ?_⟩
  · cases q : C.h₀.get? b with
    | none => rfl
    | some o => have := H.keep b o q; rw [h] at this; cases this
  · obtain ⟨o, e⟩ := H.isTab_live q
    rw [h] at e; cases e
theorem noOwn_seq {W : Wd} : ∀ b o, noOwn b → W.h.get? b = some o → ∀ xs n, o.data ≠ .seq xs n := fun _ _ h => h.elim

theorem VR.up {C : Cx} {W W' : Wd} (x : Ext C noOwn W W') (H : HR C W) {v : V} {y : Value} (h : W.VR v y) : W'.VR v y := VR.ext x noOwn_seq H.tabNot h
theorem VsR.up {C : Cx} {W W' : Wd} (x : Ext C noOwn W W') (H : HR C W) {v : List V} {y : List Value} (h : W.VsR v y) : W'.VsR v y := VsR.ext x noOwn_seq H.tabNot h

theorem Ns.kept {h h' : Heap} {a : Addr} {m : PySem.Str → Option Value} (hn : h.Ns a m) (k : ∀ o, h.get? a = some o → ∃ o', h'.get? a = some o' ∧ KeptAs o o') : h'.Ns a m := by
  refine hide fun X_ k_ => ?_
  obtain ⟨o, es, ep, e, hd, r⟩ := hn
  obtain ⟨o', e', k'⟩ := k o e
  refine k_ ?_
  clear k_ X_
  exact ⟨o', es, ep, e', k'.data.trans hd, r⟩
theorem IsCell.kept {h h' : Heap} {c : Addr} {v : Option Value} (x : h.IsCell c v) (k : ∀ o, h.get? c = some o → ∃ o', h'.get? c = some o' ∧ KeptAs o o') : h'.IsCell c v := by
  refine hide fun X_ k_ => ?_
  obtain ⟨o, e, hd⟩ := x
  obtain ⟨o', e', k'⟩ := k o e
  refine k_ ?_
  clear k_ X_
  exact ⟨o', e', k'.data.trans hd⟩

theorem Stk.ext {C : Cx} {A : Around} {W W' : Wd} {own : Addr → Prop} {outer : List Env} (S : Stk C A W outer) (x : Ext C own W W') : Stk C A W' outer := by
  refine ⟨S.eq, fun e he => ?_⟩
  refine hide fun X_ k_ => ?_
  obtain ⟨h1, L, o, h2, h3, h4, h5, h6⟩ := S.at_ e he
  obtain ⟨o', e', h7⟩ := x.dk L o h5 h4 h3.2 h6
  refine k_ ?_
  clear k_ X_
  exact ⟨h1, L, o', h2, h3, x.notι h5 h4, e', h7⟩

theorem FR.ext {C : Cx} {env : Env} {A : Around} {W W' : Wd} {ρ : Loc} (F : FR C env A W ρ) (H : HR C W) (x : Ext C noOwn W W') : FR C env A W' ρ := by
  obtain ⟨m, hm, hl⟩ := F.ns
  have kL : ∀ o, W.h.get? env.locals = some o → ∃ o', W'.h.get? env.locals = some o' ∧ KeptAs o o' := fun o e => x.keep _ o e F.locAp.2 F.locAp.1.2 id
  refine ⟨F.kind, F.glob, F.blt, ⟨m, Ns.kept hm kL, fun y v h1 h2 => ?_⟩, fun y v h1 h2 => ?_, ⟨F.locAp.1, let ⟨_, _, _, e, _⟩ := hm; x.notι e F.locAp.2⟩, fun y c hc => ?_, F.celInj, F.celHas, ?_⟩
  · obtain ⟨z, e, r⟩ := hl y v h1 h2
    exact ⟨z, e, VR.up x H r⟩
  · obtain ⟨h3, c, z, h4, h5, h6⟩ := F.cel y v h1 h2
    obtain ⟨a1, a2, a3, _⟩ := F.celAp _ c h4
    exact ⟨h3, c, z, h4, IsCell.kept h5 fun o e => x.keep _ o e a3 a1.2 id, VR.up x H h6⟩
  · obtain ⟨a1, a2, a3, v, h5⟩ := F.celAp _ c hc
    exact ⟨a1, a2, let ⟨_, e, _⟩ := h5; x.notι e a3, v, IsCell.kept h5 fun o e => x.keep _ o e a3 a1.2 id⟩
  · obtain ⟨outer, S⟩ := F.stk
    exact ⟨outer, S.ext x⟩

theorem Here.ext {C : Cx} {k : Nat} {sc : Scope} {env : Env} {A : Around} {W W' : Wd} {ρ : Loc} (h : Here C k sc env A W ρ) (x : Ext C noOwn W W') (H : HR C W') : Here C k sc env A W' ρ :=
  ⟨h.sc, h.room, H, h.fr.ext h.hr x⟩

theorem Ns1.kept {h h' : Heap} {a : Addr} {m : PySem.Str → Option Value} (hn : h.Ns1 a m) (k : ∀ o, h.get? a = some o → ∃ o', h'.get? a = some o' ∧ KeptAs o o') : h'.Ns1 a m := by
  refine hide fun X_ k_ => ?_
  obtain ⟨o, es, ep, e, hd, r⟩ := hn
  obtain ⟨o', e', k'⟩ := k o e
  refine k_ ?_
  clear k_ X_
  exact ⟨o', es, ep, e', k'.data.trans hd, r⟩
theorem Ns1.dict {h : Heap} {a : Addr} {m : PySem.Str → Option Value} (hn : h.Ns1 a m) : ∃ o es ep, h.get? a = some o ∧ o.data = .dict es ep := let ⟨o, es, ep, e, d, _⟩ := hn; ⟨o, es, ep, e, d⟩
/-- an exception of the program's own class under way; its code; made behind lo -/
structure Code (C : Cx) (W : Wd) (lo : Heap) (de : Addr) (c : V) : Prop where
  new : lo.get? de = none
  out : C.out de
  ap : ∀ n, n < W.nx → W.ι n ≠ de
  obj : ∃ m y, W.h.Ns1 de m ∧ m (sname "code") = some y ∧ W.VR c y
noncomputable def Trace (C : Cx) (W : Wd) (lo : Heap) (e : Addr) (vs : Array Value) : Prop :=
  vs[1]? = some .none ∨ ∃ T oT ts fr, vs[1]? = some (.ref T) ∧ lo.get? T = none ∧ C.out T ∧ (∀ n, n < W.nx → W.ι n ≠ T) ∧ T ≠ e ∧ W.h.get? T = some oT ∧ oT.data = .fields ts ∧ ts[3]? = some .none ∧ ts[1]? = some (.ref fr)
structure Fly (C : Cx) (W : Wd) (lo : Heap) (e : Addr) (c : V) : Prop where
  new : lo.get? e = none
  out : C.out e
  ap : ∀ n, n < W.nx → W.ι n ≠ e
  obj : ∃ oe vs de, W.h.get? e = some oe ∧ oe.cls = .ref 34 ∧ oe.dict = some de ∧ oe.data = .fields vs ∧ Code C W lo de c ∧ Trace C W lo e vs
theorem Fly.weak {C : Cx} {W : Wd} {lo lo' : Heap} {e : Addr} {c : V} (f : Fly C W lo e c) (h : ∀ b, lo.get? b = none → lo'.get? b = none) : Fly C W lo' e c := by
  refine hide fun X_ k_ => ?_
  obtain ⟨h1, h0, h2, oe, vs, de, a1, a2, a3, a4, ⟨a5, a6, a7, a8⟩, b⟩ := f
  refine k_ ?_
  clear k_ X_
  refine ⟨h _ h1, h0, h2, oe, vs, de, a1, a2, a3, a4, ⟨h _ a5, a6, a7, a8⟩, b.imp id ?_⟩
  rintro ⟨T, oT, ts, fr, b1, b2, r⟩
  exact ⟨T, oT, ts, fr, b1, h _ b2, r⟩

/-- the two continuations take the result r -/
noncomputable def K (C : Cx) (own : Addr → Prop) {α β : Type} (rel : Wd → β → α → Prop) (r : Res β) (W : Wd) (Q : α → Shared → Prop) (E : Value → Shared → Prop) : Prop := match r with
  | .ok b σ => ∀ a W', Ext C own W W' → HR C W' → W'.σ = σ → rel W' b a → Q a W'.s
  | .exc c σ => ∀ e W', Ext C own W W' → HR C W' → W'.σ = σ → Fly C W' W.h e c → E (.ref e) W'.s
  | .fail => False

theorem K.shift {C : Cx} {own : Addr → Prop} {α β : Type} {rel : Wd → β → α → Prop} {r : Res β} {W W' : Wd} {Q : α → Shared → Prop} {E : Value → Shared → Prop}
    (k : K C own rel r W Q E) (x : Ext C own W W') : K C own rel r W' Q E := by
  cases r with
  | ok b σ => exact fun a W'' y H e r => k a W'' (x.trans y) H e r
  | exc c σ => exact fun a W'' y H e r => k a W'' (x.trans y) H e (r.weak fun _ => x.unborn)
  | fail => exact k

theorem K.bind {C : Cx} {own own' : Addr → Prop} {α β γ δ : Type} {rel : Wd → β → α → Prop} {rel' : Wd → δ → γ → Prop} {r : Res β} {g : β → AH → Res δ} {W : Wd} {Q : γ → Shared → Prop} {E : Value → Shared → Prop} {P : α → Shared → Prop}
    (k : K C own rel' (r.bind g) W Q E) (hown : ∀ b, own' b → own b)
    (h : ∀ a b σ W', r = .ok b σ → Ext C own' W W' → HR C W' → W'.σ = σ → rel W' b a → K C own rel' (g b W'.σ) W' Q E → P a W'.s) : K C own' rel r W P E := by
  cases r with
  | ok b σ =>
    intro a W' x H e r
    have x' : Ext C own W W' := x.mono fun b _ _ => hown b
    refine h a b σ W' rfl x H e r ?_
    have k' : K C own rel' (g b σ) W Q E := k
    rw [e]; exact k'.shift x'
  | exc c σ => exact fun e W' x H q f => k e W' (x.mono fun b _ _ => hown b) H q f
  | fail => exact k

noncomputable def TJ (C : Cx) (own : Addr → Prop) {α β : Type} (rel : Wd → β → α → Prop) (A : Around) (t : Sem α) (r : Res β) (W : Wd) : Prop :=
  ∀ Q E, K C own rel r W Q E → wpAny (model C.prog C.w) A t Q E W.s

noncomputable abbrev vrel : Wd → V → Value → Prop := fun W v x => W.VR v x
noncomputable abbrev vsrel : Wd → List V → List Value → Prop := fun W v x => W.VsR v x
noncomputable abbrev brel : Wd → Bool → Bool → Prop := fun _ b a => a = b

noncomputable abbrev EA := Loc → AH → Res V
noncomputable abbrev BA := Loc → AH → Res Bool
noncomputable abbrev LA := Loc → AH → Res (List V)

inductive Fl where
  | next
  | ret (v : V)

noncomputable abbrev SA := Loc → AH → Res (Fl × Loc)

noncomputable def SE (C : Cx) (k : Nat) (sc : Scope) (e : Expr) (f : EA) : Prop :=
  ∀ env A W ρ, Here C k sc env A W ρ → TJ C noOwn vrel A (eval e env) (f ρ W.σ) W
noncomputable def ST (C : Cx) (k : Nat) (sc : Scope) (e : Expr) (f : BA) : Prop :=
  ∀ env A W ρ, Here C k sc env A W ρ → TJ C noOwn brel A (isTrue e env (eval e env)) (f ρ W.σ) W

noncomputable def Own (env : Env) : Addr → Prop := fun b => b = env.locals ∨ ∃ y, env.cells.lookup y = some b
noncomputable def srel (C : Cx) (env : Env) (A : Around) : Wd → Fl × Loc → Flow → Prop := fun W r fl =>
  FR C env A W r.2 ∧ match r.1 with
    | .next => fl = .next
    | .ret v => ∃ x, fl = .ret x ∧ W.VR v x

noncomputable def SS (C : Cx) (k : Nat) (sc : Scope) (st : Stmt) (g : SA) : Prop :=
  ∀ env A W ρ, Here C k sc env A W ρ → TJ C (Own env) (srel C env A) A (exec st env) (g ρ W.σ) W
noncomputable def SB (C : Cx) (k : Nat) (sc : Scope) (st : List Stmt) (g : SA) : Prop :=
  ∀ env A W ρ, Here C k sc env A W ρ → TJ C (Own env) (srel C env A) A (execs st env) (g ρ W.σ) W

/-- a def of the program, at its address -/
noncomputable def FJ (C : Cx) (k : Nat) (f : Addr) (F : List V → AH → Res V) : Prop :=
  ∀ A W vs xs, Room A k → HR C W → (∃ outer, Stk C A W outer) → W.VsR vs xs → ∀ Q E, K C noOwn vrel (F vs W.σ) W Q E →
    codeAny (model C.prog C.w) A (.call (.ref f) ⟨xs, []⟩) (fun r s' => match r with | .ok (.ret v) => Q v s' | .ok _ => False | .error e => E e s') W.s
/-! ## Moves of the world -/
@[reducible] noncomputable def Wd.withHeap (W : Wd) (h : Heap) (tk : Nat) : Wd := { W with s := { W.s with heap := h, toks := tk } }
@[reducible] noncomputable def Wd.new (W : Wd) (ao : AO) (h : Heap) (tk : Nat) (a : Addr) : Wd := ⟨fun n => if n = W.nx then a else W.ι n, W.σ ++ [ao], { W.s with heap := h, toks := tk }⟩
@[reducible] noncomputable def Wd.upd (W : Wd) (n : Nat) (ao : AO) (h : Heap) (tk : Nat) : Wd := ⟨W.ι, W.σ.set n ao, { W.s with heap := h, toks := tk }⟩

theorem nx_new (W : Wd) (ao : AO) (h : Heap) (tk : Nat) (a : Addr) : (W.new ao h tk a).nx = W.nx + 1 := by simp [Wd.nx]
theorem nx_upd (W : Wd) (n : Nat) (ao : AO) (h : Heap) (tk : Nat) : (W.upd n ao h tk).nx = W.nx := by simp [Wd.nx]

theorem Ext.grow {C : Cx} {own : Addr → Prop} {W : Wd} {h : Heap} (tk : Nat) (k : ∀ b o, W.h.get? b = some o → h.get? b = some o) : Ext C own W (W.withHeap h tk) :=
  ⟨⟨h, tk, rfl⟩, fun b o e => ⟨o, k b o e⟩, Nat.le_refl _, fun _ _ => rfl, fun n h1 h2 => absurd h2 (Nat.not_lt.mpr h1), fun b o e _ _ _ => ⟨o, k b o e, .refl o⟩, fun b o e _ _ h => ⟨o, k b o e, h⟩⟩

theorem VsR.mono {W W' : Wd} (u : ∀ v y, W.VR v y → W'.VR v y) : ∀ {l : List V} {xs : List Value}, W.VsR l xs → W'.VsR l xs := fun {l xs} h => by
  cases h with
  | nil => exact .nil
  | cons v y l ys hv hs => exact .cons v y l ys (u v y hv) (VsR.mono u hs)
theorem FsR.up {W W' : Wd} {P : Params} (u : ∀ v y, W.VR v y → W'.VR v y) {l : List (String × V)} {es : List DictEntry} (h : FsR W P l es) : FsR W' P l es := by
  induction h with
  | nil => exact .nil
  | cons x' v e t l es hk hh hv _ ih => exact .cons x' v e t l es hk hh (u _ _ hv) ih
theorem DsR.up {W W' : Wd} (u : ∀ v y, W.VR v y → W'.VR v y) {l : List (List Nat × V)} {es : List (PySem.Str × Value)} (h : DsR W l es) : DsR W' l es := by
  induction h with
  | nil => exact .nil
  | cons x' v y l es hv _ ih => exact .cons x' v y l es (u _ _ hv) ih

theorem OR.keep {C : Cx} {W W' : Wd} {n : Nat} {o : AO} (same : ∀ n, n < W.nx → W'.ι n = W.ι n) (u : ∀ v y, W.VR v y → W'.VR v y) (h : OR C W n o) (hn : n < W.nx)
    (k : ∀ b, (b = W.ι n ∨ (∃ fs, o = .inst fs) ∧ b = W.ι (n + 1)) → ∀ ob, W.h.get? b = some ob → W'.h.get? b = some ob)
    (sh : (∃ fs, o = .inst fs) → W'.σ[n + 1]? = some .shadow) : OR C W' n o := by
  have e := same n hn
  cases o with
  | list l =>
    obtain ⟨vs, ep, h1, h3⟩ := h
    exact ⟨vs, ep, by rw [e]; exact k _ (.inl rfl) _ h1, VsR.mono u h3⟩
  | dict l =>
    obtain ⟨kvs, ⟨ob, es, ep, h1, h2⟩, h3, h4⟩ := h
    exact ⟨kvs, ⟨ob, es, ep, by rw [e]; exact k _ (.inl rfl) _ h1, h2⟩, DsR.up u h3, by rw [e]; exact h4⟩
  | inst fs =>
    obtain ⟨es, ep, h0, h1, h2, h3⟩ := h
    have hn1 : n + 1 < W.nx := by
      rcases List.getElem?_eq_some_iff.mp h0 with ⟨a, _⟩; exact a
    have e1 := same (n + 1) hn1
    exact ⟨es, ep, sh ⟨fs, rfl⟩, by rw [e, e1]; exact k _ (.inl rfl) _ h1, by rw [e1]; exact k _ (.inr ⟨⟨fs, rfl⟩, rfl⟩) _ h2, FsR.up u h3⟩
  | shadow => trivial

theorem tabs_keep {C : Cx} {W W' : Wd} (H : HR C W) (k : ∀ b o, W.h.get? b = some o → (C.isTab b ∨ ∃ vs x q, o.data = .fields vs ∧ vs[1]? = some (.str x q)) → W'.h.get? b = some o) :
    ∀ t ∈ C.tabs, ∃ ps, W'.h.get? t.P = some (tabObj ps) ∧ (ps = #[] ∨ ∃ c', ps = #[rawInt t.pos.line, rawInt t.pos.col, .ref c'] ∧ W'.h.CodeRec (.ref c') t.qual) := by
  intro t ht
  obtain ⟨ps, hp, hc⟩ := H.tabs t ht
  refine ⟨ps, k _ _ hp (.inl ⟨t, ht, rfl⟩), hc.imp id ?_⟩
  rintro ⟨c', e, c, o, vs, q, e2, ho, hd, hv⟩
  exact ⟨c', e, c, o, vs, q, e2, k _ _ ho (.inr ⟨_, _, _, hd, hv⟩), hd, hv⟩

theorem HR.grow {C : Cx} {W : Wd} (H : HR C W) {h : Heap} (tk : Nat) (k : ∀ b o, W.h.get? b = some o → h.get? b = some o) : HR C (W.withHeap h tk) where
  keep := fun b o e => k b o (H.keep b o e)
  obj := fun n o e => OR.keep (W := W) (h := H.obj n o e) (fun _ _ => rfl) (fun _ _ => VR.up (Ext.grow tk k) H) (by rcases List.getElem?_eq_some_iff.mp e with ⟨a, _⟩; exact a) (fun b _ ob q => k b ob q) (by
    rintro ⟨fs, rfl⟩; obtain ⟨_, _, h0, _⟩ := H.obj n _ e; exact h0)
  inj := H.inj
  above := H.above
  below := fun n hn => let ⟨o, e⟩ := H.below n hn; ⟨o, k _ _ e⟩
  tabs := tabs_keep H fun b o e _ => k b o e

theorem Ext.new {C : Cx} {own : Addr → Prop} {W : Wd} {h : Heap} {a : Addr} (ao : AO) (tk : Nat) (ha : W.h.get? a = none) (k : ∀ b o, W.h.get? b = some o → h.get? b = some o) : Ext C own W (W.new ao h tk a) :=
  ⟨⟨h, tk, rfl⟩, fun b o e => ⟨o, k b o e⟩, by rw [nx_new]; lia, fun n hn => if_neg (Nat.ne_of_lt hn), fun n h1 h2 => by
    have : n = W.nx := by rw [nx_new] at h2; lia
    show W.h.get? (if n = W.nx then a else W.ι n) = none
    rw [if_pos this]; exact ha, fun b o e _ _ _ => ⟨o, k b o e, .refl o⟩, fun b o e _ _ h => ⟨o, k b o e, h⟩⟩

theorem HR.new {C : Cx} {W : Wd} (H : HR C W) {h : Heap} {a : Addr} (ao : AO) (tk : Nat) (ha : W.h.get? a = none) (ha2 : ∃ o, h.get? a = some o) (k : ∀ b o, W.h.get? b = some o → h.get? b = some o)
    (ho : OR C (W.new ao h tk a) W.nx ao) : HR C (W.new ao h tk a) := by
  have x : Ext C noOwn W (W.new ao h tk a) := Ext.new ao tk ha k
  have hlen : (W.new ao h tk a).nx = W.nx + 1 := nx_new ..
  refine ⟨fun b o e => k b o (H.keep b o e), fun n o e => ?_, fun n m hn hm e => ?_, fun n hn => ?_, fun n hn => ?_, tabs_keep H fun b o e _ => k b o e⟩
  · by_cases hn : n < W.nx
    · rw [show (W.new ao h tk a).σ = W.σ ++ [ao] from rfl, List.getElem?_append_left hn] at e
      refine OR.keep (W := W) (h := H.obj n o e) x.same (fun _ _ => VR.up x H) hn (fun b _ ob q => k b ob q) ?_
      rintro ⟨fs, rfl⟩
      obtain ⟨_, _, h0, _⟩ := H.obj n _ e
      rcases List.getElem?_eq_some_iff.mp h0 with ⟨a1, _⟩
      rw [show (W.new ao h tk a).σ = W.σ ++ [ao] from rfl, List.getElem?_append_left a1]; exact h0
    · have h1 : n < W.nx + 1 := by rcases List.getElem?_eq_some_iff.mp e with ⟨a1, _⟩; rw [← hlen]; exact a1
      obtain rfl : n = W.nx := by lia
      rw [show (W.new ao h tk a).σ = W.σ ++ [ao] from rfl, List.getElem?_append_right (Nat.le_refl _), Nat.sub_self] at e
      cases e
      exact ho
  · rw [hlen] at hn hm
    have e' : (if n = W.nx then a else W.ι n) = (if m = W.nx then a else W.ι m) := e
    by_cases h1 : n = W.nx <;> by_cases h2 : m = W.nx
    · rw [h1, h2]
    · rw [if_pos h1, if_neg h2] at e'
      obtain ⟨o, h3⟩ := H.below m (by lia)
      rw [← e', ha] at h3; cases h3
    · rw [if_neg h1, if_pos h2] at e'
      obtain ⟨o, h3⟩ := H.below n (by lia)
      rw [e', ha] at h3; cases h3
    · rw [if_neg h1, if_neg h2] at e'; exact H.inj n m (by lia) (by lia) e'
  · show C.out (if n = W.nx then a else W.ι n)
    split
    · exact H.out ha
    · exact H.above n (by rw [hlen] at hn; lia)
  · show ∃ o, h.get? (if n = W.nx then a else W.ι n) = some o
    split
    · exact ha2
    · obtain ⟨o, e⟩ := H.below n (by rw [hlen] at hn; lia)
      exact ⟨o, k _ _ e⟩

theorem Ext.upd {C : Cx} {own : Addr → Prop} {W : Wd} {n j : Nat} {ao : AO} {h : Heap} (tk : Nat) (hj : j < W.nx) (sb : Heap.SameBut (W.ι j) W.h h) (hl : ∃ o, h.get? (W.ι j) = some o) : Ext C own W (W.upd n ao h tk) :=
  ⟨⟨h, tk, rfl⟩, fun b o e => by
    by_cases q : b = W.ι j
    · subst q; exact hl
    · exact ⟨o, (sb.2 b q).trans e⟩, by rw [nx_upd]; lia, fun _ _ => rfl, fun m h1 h2 => by rw [nx_upd] at h2; lia, fun b o e hb _ _ => ⟨o, (sb.2 b (Ne.symm (hb j hj))).trans e, .refl o⟩, fun b o e hb _ h => ⟨o, (sb.2 b (Ne.symm (hb j hj))).trans e, h⟩⟩

/-- the list or dict at n is changed -/
theorem HR.upd {C : Cx} {W : Wd} (H : HR C W) {n : Nat} {o₀ ao : AO} {h : Heap} (tk : Nat) (hn : W.σ[n]? = some o₀) (hi : o₀ ≠ .shadow) (hi2 : ∀ fs, o₀ ≠ .inst fs) (sb : Heap.SameBut (W.ι n) W.h h) (hl : ∃ o, h.get? (W.ι n) = some o)
    (ho : OR C (W.upd n ao h tk) n ao) : HR C (W.upd n ao h tk) := by
  have hlt : n < W.nx := by rcases List.getElem?_eq_some_iff.mp hn with ⟨a1, _⟩; exact a1
  have x : Ext C noOwn W (W.upd n ao h tk) := Ext.upd tk hlt sb hl
  have hlen : (W.upd n ao h tk).nx = W.nx := nx_upd ..
  refine ⟨fun b o e => (sb.2 b (fun q => ?_)).trans (H.keep b o e), fun m o e => ?_, fun m m' h1 h2 e => H.inj m m' (hlen ▸ h1) (hlen ▸ h2) e, fun m hm => H.above m (hlen ▸ hm), fun m hm => let ⟨o, e⟩ := H.below m (hlen ▸ hm); x.live _ o e, tabs_keep H fun b o e hd => (sb.2 b (fun q => ?_)).trans e⟩
  · have := (H.above n hlt).1
    rw [← q, e] at this; cases this
  · by_cases hm : m = n
    · subst hm
      rw [show (W.upd m ao h tk).σ = W.σ.set m ao from rfl, List.getElem?_set_self hlt] at e
      cases e; exact ho
    · rw [show (W.upd n ao h tk).σ = W.σ.set n ao from rfl, List.getElem?_set_ne (Ne.symm hm)] at e
      have hmlt : m < W.nx := by rcases List.getElem?_eq_some_iff.mp e with ⟨a1, _⟩; exact a1
      refine OR.keep (W := W) (h := H.obj m o e) x.same (fun _ _ => VR.up x H) hmlt (fun b hb ob q => (sb.2 b ?_).trans q) ?_
      · rcases hb with rfl | ⟨⟨fs, rfl⟩, rfl⟩
        · exact fun q => hm (H.inj m n hmlt hlt q)
        · obtain ⟨_, _, h0, _⟩ := H.obj m _ e
          have h1 : m + 1 < W.nx := by rcases List.getElem?_eq_some_iff.mp h0 with ⟨a1, _⟩; exact a1
          intro q
          have := H.inj (m + 1) n h1 hlt q
          rw [this, hn] at h0
          exact hi (Option.some.inj h0)
      · rintro ⟨fs, rfl⟩
        obtain ⟨_, _, h0, _⟩ := H.obj m _ e
        have : n ≠ m + 1 := fun q => by rw [← q, hn] at h0; exact hi (Option.some.inj h0)
        rw [show (W.upd n ao h tk).σ = W.σ.set n ao from rfl, List.getElem?_set_ne this]; exact h0
  · -- the tables
    subst q
    rcases hd with hd | ⟨vs, xx, qq, hd, _⟩
    · exact (H.above n hlt).2 hd
    cases o₀ with
    | list l => obtain ⟨_, _, h1, _⟩ := H.obj n _ hn; rw [e] at h1; cases h1; cases hd
    | dict l => obtain ⟨_, ⟨_, _, _, h1, _, h2, _⟩, _⟩ := H.obj n _ hn; rw [e] at h1; cases h1; rw [hd] at h2; cases h2
    | inst fs => exact hi2 fs rfl
    | shadow => exact hi rfl

/-- a field of the instance at n is changed -/
theorem HR.updI {C : Cx} {W : Wd} (H : HR C W) {n : Nat} {fs fs' : List (String × V)} {h : Heap} (tk : Nat) (hn : W.σ[n]? = some (.inst fs)) (sb : Heap.SameBut (W.ι (n + 1)) W.h h) (hl : ∃ o, h.get? (W.ι (n + 1)) = some o)
    (ho : OR C (W.upd n (.inst fs') h tk) n (.inst fs')) : HR C (W.upd n (.inst fs') h tk) := by
  have hlt : n < W.nx := by rcases List.getElem?_eq_some_iff.mp hn with ⟨a1, _⟩; exact a1
  obtain ⟨es, ep, h0, _, hdd, _⟩ := H.obj n _ hn
  have hlt1 : n + 1 < W.nx := by rcases List.getElem?_eq_some_iff.mp h0 with ⟨a1, _⟩; exact a1
  have x : Ext C noOwn W (W.upd n (.inst fs') h tk) := Ext.upd tk hlt1 sb hl
  have hlen : (W.upd n (.inst fs') h tk).nx = W.nx := nx_upd ..
  refine ⟨fun b o e => (sb.2 b (fun q => ?_)).trans (H.keep b o e), fun m o e => ?_, fun m m' h1 h2 e => H.inj m m' (hlen ▸ h1) (hlen ▸ h2) e, fun m hm => H.above m (hlen ▸ hm), fun m hm => let ⟨o, e⟩ := H.below m (hlen ▸ hm); x.live _ o e, tabs_keep H fun b o e hd => (sb.2 b (fun q => ?_)).trans e⟩
  · have := (H.above (n + 1) hlt1).1
    rw [← q, e] at this; cases this
  · by_cases hm : m = n
    · subst hm
      rw [show (W.upd m (.inst fs') h tk).σ = W.σ.set m (.inst fs') from rfl, List.getElem?_set_self hlt] at e
      cases e; exact ho
    · rw [show (W.upd n (.inst fs') h tk).σ = W.σ.set n (.inst fs') from rfl, List.getElem?_set_ne (Ne.symm hm)] at e
      have hmlt : m < W.nx := by rcases List.getElem?_eq_some_iff.mp e with ⟨a1, _⟩; exact a1
      by_cases hm1 : m = n + 1
      · subst hm1
        rw [h0] at e; cases e; trivial
      · refine OR.keep (W := W) (h := H.obj m o e) x.same (fun _ _ => VR.up x H) hmlt (fun b hb ob q => (sb.2 b ?_).trans q) ?_
        · rcases hb with rfl | ⟨⟨fs2, rfl⟩, rfl⟩
          · exact fun q => hm1 (H.inj m (n + 1) hmlt hlt1 q)
          · obtain ⟨_, _, h0', _⟩ := H.obj m _ e
            have h1 : m + 1 < W.nx := by rcases List.getElem?_eq_some_iff.mp h0' with ⟨a1, _⟩; exact a1
            intro q
            have := H.inj (m + 1) (n + 1) h1 hlt1 q
            exact hm (by lia)
        · rintro ⟨fs2, rfl⟩
          obtain ⟨_, _, h0', _⟩ := H.obj m _ e
          have : n ≠ m + 1 := fun q => by rw [← q, hn] at h0'; cases h0'
          rw [show (W.upd n (.inst fs') h tk).σ = W.σ.set n (.inst fs') from rfl, List.getElem?_set_ne this]; exact h0'
  · subst q
    rcases hd with hd | ⟨vs, xx, qq, hd, _⟩
    · exact (H.above (n + 1) hlt1).2 hd
    rw [hdd] at e; cases e
    cases hd

/-! ## K, met by a pure move -/
theorem K.tok {C : Cx} {own : Addr → Prop} {α β : Type} {rel : Wd → β → α → Prop} {b : β} {W : Wd} {Q : α → Shared → Prop} {E : Value → Shared → Prop} (k : K C own rel (.ok b W.σ) W Q E) (H : HR C W) {a : α} (tk : Nat)
    (r : rel (W.withHeap W.h tk) b a) : Q a { W.s with toks := tk } :=
  k a (W.withHeap W.h tk) (Ext.grow tk fun _ _ e => e) (H.grow tk fun _ _ e => e) rfl r
theorem K.here {C : Cx} {own : Addr → Prop} {α β : Type} {rel : Wd → β → α → Prop} {b : β} {W : Wd} {Q : α → Shared → Prop} {E : Value → Shared → Prop} (k : K C own rel (.ok b W.σ) W Q E) (H : HR C W) {a : α}
    (r : rel W b a) : Q a W.s := k a W (.refl C own W) H rfl r

noncomputable def DictStays (a : Addr) (h h' : Heap) : Prop := ∀ o, h.get? a = some o → ∃ o', h'.get? a = some o' ∧ ((∃ es n, o.data = .dict es n) → ∃ es n, o'.data = .dict es n)
/-- an object outside the abstract heap (a frame's dict, a cell) is changed -/
theorem Ext.loc {C : Cx} {own : Addr → Prop} {W : Wd} {a : Addr} {h : Heap} (tk : Nat) (ho : own a) (sb : Heap.SameBut a W.h h) (hd : DictStays a W.h h) : Ext C own W (W.withHeap h tk) :=
  ⟨⟨h, tk, rfl⟩, fun b o e => by
    by_cases q : b = a
    · subst q; obtain ⟨o', e', _⟩ := hd o e; exact ⟨o', e'⟩
    · exact ⟨o, (sb.2 b q).trans e⟩, Nat.le_refl _, fun _ _ => rfl, fun m h1 h2 => absurd h2 (Nat.not_lt.mpr h1), fun b o e _ _ hb => ⟨o, (sb.2 b (fun q => hb (q ▸ ho))).trans e, .refl o⟩, fun b o e _ _ h => by
    by_cases q : b = a
    · subst q; obtain ⟨o', e', r⟩ := hd o e; exact ⟨o', e', r h⟩
    · exact ⟨o, (sb.2 b q).trans e, h⟩⟩
noncomputable def Plainish (o : Obj) : Prop := (∀ vs x q, o.data = .fields vs → vs[1]? ≠ some (.str x q)) ∧ ∀ xs n, o.data ≠ .seq xs n
theorem VR.loc {C : Cx} {W : Wd} (H : HR C W) {a : Addr} {h : Heap} {tk : Nat} (sb : Heap.SameBut a W.h h) (hd : DictStays a W.h h) (hp : ∀ o, W.h.get? a = some o → Plainish o) {v : V} {y : Value} (r : W.VR v y) : (W.withHeap h tk).VR v y :=
  VR.ext (own := fun b => b = a) (Ext.loc (C := C) tk rfl sb hd) (fun b o q e => by subst q; exact (hp o e).2) H.tabNot r
theorem HR.loc {C : Cx} {W : Wd} (H : HR C W) {a : Addr} {h : Heap} (tk : Nat) (ha : C.out a) (hn : ∀ n, n < W.nx → W.ι n ≠ a) (sb : Heap.SameBut a W.h h) (hd : DictStays a W.h h) (hp : ∀ o, W.h.get? a = some o → Plainish o) : HR C (W.withHeap h tk) where
  keep := fun b o e => (sb.2 b (fun q => by rw [q, ha.1] at e; cases e)).trans (H.keep b o e)
  obj := fun n o e => OR.keep (W := W) (h := H.obj n o e) (fun _ _ => rfl) (fun _ _ => VR.loc H sb hd hp) (by rcases List.getElem?_eq_some_iff.mp e with ⟨a, _⟩; exact a)
    (fun b hb ob q => (sb.2 b (by
      rcases hb with rfl | ⟨⟨fs, rfl⟩, rfl⟩
      · exact hn _ (by rcases List.getElem?_eq_some_iff.mp e with ⟨a, _⟩; exact a)
      · obtain ⟨_, _, h0, _⟩ := H.obj n _ e
        exact hn _ (by rcases List.getElem?_eq_some_iff.mp h0 with ⟨a1, _⟩; exact a1))).trans q) (by
    rintro ⟨fs, rfl⟩; obtain ⟨_, _, h0, _⟩ := H.obj n _ e; exact h0)
  inj := H.inj
  above := H.above
  below := fun n hn' => let ⟨o, e⟩ := H.below n hn'; ⟨o, (sb.2 _ (hn n hn')).trans e⟩
  tabs := tabs_keep H fun b o e hf => (sb.2 b (fun q => by
    subst q
    rcases hf with hf | ⟨vs, xx, qq, hf, hv⟩
    · exact ha.2 hf
    · exact (hp o e).1 vs _ _ hf hv)).trans e
/-! ## Expressions: constants, names, operators -/
noncomputable def codes (x : String) : List Nat := x.toList.map Char.toNat
theorem sname_codes (x : String) : sname x = ⟨(codes x).toArray⟩ := by unfold sname PySem.Str.ofString codes; rw [cpsOfBytes_string]

noncomputable def eInt (i : Int) : EA := fun _ σ => .ok (.int i) σ
noncomputable def eStr (x : String) : EA := fun _ σ => .ok (.str (codes x)) σ
noncomputable def eNone : EA := fun _ σ => .ok .none σ
noncomputable def eBool (b : Bool) : EA := fun _ σ => .ok (.bool b) σ
noncomputable def eName (x : String) : EA := fun ρ σ => match look x ρ with | some v => .ok v σ | none => .fail

section
variable {C : Cx} {k : Nat} {sc : Scope}

theorem SE_int {i : Int} {n p} : SE C k sc (.Constant (.int i) n p) (eInt i) := fun env A W ρ H Q E hk =>
  wpAny_Constant_int (hk.tok H.hr _ (.int i _))
theorem SE_str {x : String} {n p} : SE C k sc (.Constant (.str (PySem.Str.ofString x)) n p) (eStr x) := fun env A W ρ H Q E hk =>
  wpAny_Constant_str (hk.tok H.hr _ (by show W.VR _ (.str (sname x) _); rw [sname_codes]; exact .str _ _))
theorem SE_none {n p} : SE C k sc (.Constant .none n p) eNone := fun env A W ρ H Q E hk => wpAny_Constant_none (hk.here H.hr .none)
theorem SE_bool {b n p} : SE C k sc (.Constant (.bool b) n p) (eBool b) := fun env A W ρ H Q E hk => wpAny_Constant_bool (hk.here H.hr (.bool b))

theorem SE_name {x : String} {p} (hd : (sname x == ("__debug__" : PySem.Str)) = false) (hc : (sname x == ("__classdict__" : PySem.Str)) = false) : SE C k sc (.Name (PySem.Str.ofString x) p) (eName x) := by
  intro env A W ρ H Q E hk
  unfold eName at hk
  cases hl : look x ρ with
  | none => rw [hl] at hk; exact hk.elim
  | some v =>
    rw [hl] at hk
    refine wpAny_Name ?_ hd
    by_cases hloc : env.kindOf (sname x) = some .local
    · obtain ⟨m, hm, h2⟩ := H.fr.ns
      obtain ⟨y, e, r⟩ := h2 x v hl hloc
      exact wpAny_loadName_local H.fr.kind hloc hm e (hk.here H.hr r)
    · obtain ⟨h1, c, y, h2, h3, r⟩ := H.fr.cel x v hl hloc
      rcases h1 with h1 | h1
      · exact wpAny_loadName_cell H.fr.kind h1 h2 h3 (hk.here H.hr r)
      · exact wpAny_loadName_free H.fr.kind h1 h2 h3 (hk.here H.hr r) hc

noncomputable abbrev Op2 := V → V → AH → Res V
noncomputable def e2 (op : Op2) (f g : EA) : EA := fun ρ σ => (f ρ σ).bind fun a σ => (g ρ σ).bind fun b σ => op a b σ
noncomputable def BinR (C : Cx) (o : Operator) (op : Op2) : Prop := ∀ k A W a b x y, Room A k → HR C W → W.VR a x → W.VR b y → TJ C noOwn vrel A (binaryOp o x y) (op a b W.σ) W
noncomputable def CmpR (C : Cx) (o : CmpOp) (op : Op2) : Prop := ∀ k A W a b x y, Room A k → HR C W → W.VR a x → W.VR b y → TJ C noOwn vrel A (compareOp o x y) (op a b W.σ) W

theorem two {e1 e2' : Expr} {f g : EA} {op : Op2} {env A W ρ} {t : Value → Value → Sem Value} (H : Here C k sc env A W ρ) (hf : SE C k sc e1 f) (hg : SE C k sc e2' g)
    (ho : ∀ W a b x y, HR C W → W.VR a x → W.VR b y → TJ C noOwn vrel A (t x y) (op a b W.σ) W) {Q E} (hk : K C noOwn vrel (e2 op f g ρ W.σ) W Q E) :
    wpAny (model C.prog C.w) A (eval e1 env) (fun a s₁ => wpAny (model C.prog C.w) A (eval e2' env) (fun b s₂ => wpAny (model C.prog C.w) A (t a b) Q E s₂) E s₁) E W.s := by
  refine hf env A W ρ H _ _ (K.bind hk (fun _ => id) fun x a σ₁ W₁ _ x₁ H₁ _ r₁ hk₁ => ?_)
  refine hg env A W₁ ρ (H.ext x₁ H₁) _ _ (K.bind hk₁ (fun _ => id) fun y b σ₂ W₂ _ x₂ H₂ _ r₂ hk₂ => ?_)
  exact ho W₂ a b x y H₂ (VR.up x₂ H₁ r₁) r₂ _ _ hk₂

theorem SE_bin {l o r p f g} {op : Op2} (hf : SE C k sc l f) (hg : SE C k sc r g) (ho : BinR C o op) : SE C k sc (.BinOp l o r p) (e2 op f g) := fun env A W ρ H Q E hk =>
  wpAny_BinOp (two H hf hg (fun W a b x y H' => ho k A W a b x y H.room H') hk)
theorem SE_cmp {l o r p f g} {op : Op2} (hf : SE C k sc l f) (hg : SE C k sc r g) (ho : CmpR C o op) (hm : behindInMarks o r = false := by with_unfolding_all rfl) : SE C k sc (.Compare l [o] [r] p) (e2 op f g) := fun env A W ρ H Q E hk =>
  wpAny_Compare1 (two H hf hg (fun W a b x y H' => ho k A W a b x y H.room H') hk) hm

/-! ### tests -/
noncomputable def asB : V → AH → Res Bool
  | .bool b, σ => .ok b σ
  | _, _ => .fail
noncomputable def tV (f : EA) : BA := fun ρ σ => (f ρ σ).bind asB
theorem truthyK {A : Around} {W : Wd} {a : V} {x : Value} (H : HR C W) (r : W.VR a x) : TJ C noOwn brel A (truthy x) (asB a W.σ) W := by
  intro Q E hk
  cases r with
  | bool b => exact wpAny_truthy_bool (hk.here H rfl)
  | _ => exact hk.elim

theorem ST_cmp {l o r p f g} {op : Op2} (hf : SE C k sc l f) (hg : SE C k sc r g) (ho : CmpR C o op) (hm : behindInMarks o r = false := by with_unfolding_all rfl) : ST C k sc (.Compare l [o] [r] p) (tV (e2 op f g)) := fun env A W ρ H Q E hk => by
  refine wpAny_isTrue_Compare1 (hm := hm) ?_
  unfold tV e2 at hk
  refine hf env A W ρ H _ _ ?_
  have hk' : K C noOwn brel ((f ρ W.σ).bind fun a σ => ((g ρ σ).bind fun b σ => op a b σ).bind asB) W Q E := by
    cases hh : f ρ W.σ <;> rw [hh] at hk <;> exact hk
  refine K.bind hk' (fun _ => id) fun x a σ₁ W₁ _ x₁ H₁ _ r₁ hk₁ => ?_
  refine hg env A W₁ ρ (H.ext x₁ H₁) _ _ ?_
  have hk₁' : K C noOwn brel ((g ρ W₁.σ).bind fun b σ => (op a b σ).bind asB) W₁ Q E := by
    cases hh : g ρ W₁.σ <;> rw [hh] at hk₁ <;> exact hk₁
  refine K.bind hk₁' (fun _ => id) fun y b σ₂ W₂ _ x₂ H₂ _ r₂ hk₂ => ?_
  refine ho k A W₂ a b x y H.room H₂ (VR.up x₂ H₁ r₁) r₂ _ _ (K.bind hk₂ (fun _ => id) fun z c σ₃ W₃ _ x₃ H₃ _ r₃ hk₃ => ?_)
  exact truthyK H₃ r₃ _ _ hk₃

theorem ST_val {e f} (hf : SE C k sc e f) (he : ∀ env whole, isTrue e env whole = (do let v ← whole; standAt e.pos; holding [v] (truthy v)) := by intro _ _; rfl) : ST C k sc e (tV f) := fun env A W ρ H Q E hk => by
  refine wpAny_isTrue_value ?_ (he _ _)
  exact hf env A W ρ H _ _ (K.bind hk (fun _ => id) fun x a σ₁ W₁ _ x₁ H₁ _ r₁ hk₁ => truthyK H₁ r₁ _ _ hk₁)

noncomputable def tNot (f : BA) : BA := fun ρ σ => (f ρ σ).bind fun b σ => .ok (!b) σ
theorem ST_not {e p f} (hf : ST C k sc e f) : ST C k sc (.UnaryOp .Not e p) (tNot f) := fun env A W ρ H Q E hk =>
  PyProof.Rows.isTrue_not (hf env A W ρ H _ _ (K.bind hk (fun _ => id) fun x a σ₁ W₁ _ x₁ H₁ _ r₁ hk₁ => by subst r₁; exact hk₁.here H₁ rfl))

noncomputable def tAnd (f g : BA) : BA := fun ρ σ => (f ρ σ).bind fun b σ => if b then g ρ σ else .ok false σ
noncomputable def tOr (f g : BA) : BA := fun ρ σ => (f ρ σ).bind fun b σ => if b then .ok true σ else g ρ σ
noncomputable def SAll (C : Cx) (k : Nat) (sc : Scope) (op : BoolOp) (l : List Expr) (f : BA) : Prop :=
  ∀ env A W ρ, Here C k sc env A W ρ → TJ C noOwn brel A (allTrue op l env) (f ρ W.σ) W
theorem SAll_and0 : SAll C k sc .And [] (fun _ σ => .ok true σ) := fun env A W ρ H Q E hk => wpAny_allTrue_And_nil (hk.here H.hr rfl)
theorem SAll_or0 : SAll C k sc .Or [] (fun _ σ => .ok false σ) := fun env A W ρ H Q E hk => wpAny_allTrue_Or_nil (hk.here H.hr rfl)
theorem SAll_and {e r f g} (hf : ST C k sc e f) (hg : SAll C k sc .And r g) : SAll C k sc .And (e :: r) (tAnd f g) := fun env A W ρ H Q E hk =>
  wpAny_allTrue_And_cons (hf env A W ρ H _ _ (K.bind hk (fun _ => id) fun x a σ₁ W₁ _ x₁ H₁ _ r₁ hk₁ => by
    subst r₁
    cases x with
    | true => exact hg env A W₁ ρ (H.ext x₁ H₁) _ _ hk₁
    | false => exact hk₁.here H₁ rfl))
theorem SAll_or {e r f g} (hf : ST C k sc e f) (hg : SAll C k sc .Or r g) : SAll C k sc .Or (e :: r) (tOr f g) := fun env A W ρ H Q E hk =>
  wpAny_allTrue_Or_cons (hf env A W ρ H _ _ (K.bind hk (fun _ => id) fun x a σ₁ W₁ _ x₁ H₁ _ r₁ hk₁ => by
    subst r₁
    cases x with
    | true => exact hk₁.here H₁ rfl
    | false => exact hg env A W₁ ρ (H.ext x₁ H₁) _ _ hk₁))
theorem ST_bool {op l p f} (h : SAll C k sc op l f) : ST C k sc (.BoolOp op l p) f := fun env A W ρ H Q E hk => wpAny_isTrue_BoolOp (h env A W ρ H _ _ hk)

noncomputable def eIf (c : BA) (f g : EA) : EA := fun ρ σ => (c ρ σ).bind fun b σ => if b then f ρ σ else g ρ σ
theorem SE_if {t b o p c f g} (hc : ST C k sc t c) (hf : SE C k sc b f) (hg : SE C k sc o g) : SE C k sc (.IfExp t b o p) (eIf c f g) := fun env A W ρ H Q E hk =>
  wpAny_IfExp (hc env A W ρ H _ _ (K.bind hk (fun _ => id) fun x a σ₁ W₁ _ x₁ H₁ _ r₁ hk₁ => by
    subst r₁
    cases x with
    | true => exact hf env A W₁ ρ (H.ext x₁ H₁) _ _ hk₁
    | false => exact hg env A W₁ ρ (H.ext x₁ H₁) _ _ hk₁))
end
/-! ## Operators -/
theorem K.push {C : Cx} {own : Addr → Prop} {α β : Type} {rel : Wd → β → α → Prop} {b : β} {W : Wd} {Q : α → Shared → Prop} {E : Value → Shared → Prop} (k : K C own rel (.ok b W.σ) W Q E) (H : HR C W) {a : α} (o : Obj) (tk : Nat)
    (r : rel (W.withHeap (W.h.push o) tk) b a) : Q a { W.s with heap := W.s.heap.push o, toks := tk } :=
  k a (W.withHeap (W.h.push o) tk) (Ext.grow tk fun _ _ e => Heap.get?_push_of_some _ e) (H.grow tk fun _ _ e => Heap.get?_push_of_some _ e) rfl r

theorem VsR.length : ∀ {l : List V} {xs : List Value} {ι nx h}, VsR ι nx h l xs → l.length = xs.length := fun {l xs ι nx h0} h => by
  cases h with
  | nil => exact rfl
  | cons a0_ a1_ a2_ a3_ a4_ hs => simp [VsR.length hs]
theorem VsR.append : ∀ {l l' : List V} {xs xs' : List Value} {ι nx h}, VsR ι nx h l xs → VsR ι nx h l' xs' → VsR ι nx h (l ++ l') (xs ++ xs') := fun {l l' xs xs' ι nx h0} h h2 => by
  cases h with
  | nil => exact h2
  | cons a0_ a1_ a2_ a3_ hv hs => exact .cons _ _ _ _ hv (VsR.append hs h2)
theorem VsR.get : ∀ {l : List V} {xs : List Value} {ι nx h}, VsR ι nx h l xs → ∀ (i : Nat) (v : V), l[i]? = some v → ∃ x, xs[i]? = some x ∧ VR ι nx h v x := fun {l xs ι nx h0} h i v e => by
  cases h with
  | nil => simp at e
  | cons a0_ a1_ a2_ a3_ hv hs =>
    cases i with
    | zero => simp at e; subst e; exact ⟨_, rfl, hv⟩
    | succ i => simp at e; simpa using VsR.get hs i v e
theorem VsR.take : ∀ {l : List V} {xs : List Value} {ι nx h}, VsR ι nx h l xs → ∀ i, VsR ι nx h (l.take i) (xs.take i) := fun {l xs ι nx h0} h i => by
  cases i with
  | zero => rw [List.take_zero, List.take_zero]; exact .nil
  | succ i => cases h with
    | nil => exact .nil
    | cons v x l xs hv hs => exact .cons _ _ _ _ hv (VsR.take hs i)
theorem VsR.drop : ∀ {l : List V} {xs : List Value} {ι nx h}, VsR ι nx h l xs → ∀ i, VsR ι nx h (l.drop i) (xs.drop i) := fun {l xs ι nx h0} h i => by
  cases i with
  | zero => exact h
  | succ i => cases h with
    | nil => exact .nil
    | cons v x l xs hv hs => exact VsR.drop hs i
theorem VsR.set : ∀ {l : List V} {xs : List Value} {ι nx h}, VsR ι nx h l xs → ∀ i v x, VR ι nx h v x → VsR ι nx h (l.set i v) (xs.set i x) := fun {l xs ι nx h0} h i v x r => by
  cases h with
  | nil => exact .nil
  | cons v' x' l xs hv hs => cases i with
    | zero => exact .cons _ _ _ _ r hs
    | succ i => exact .cons _ _ _ _ hv (VsR.set hs i v x r)
theorem VsR.replicate {v : V} {x : Value} {ι nx h} (r : VR ι nx h v x) : ∀ n, VsR ι nx h (List.replicate n v) (List.replicate n x)
  | 0 => .nil
  | n + 1 => .cons _ _ _ _ r (VsR.replicate r n)

/-- the items of a list value, wherever it lies -/
noncomputable def listAt (σ : AH) : V → Option (List V)
  | .lst l => some l
  | .ref n => match σ[n]? with | some (.list l) => some l | _ => none
  | _ => none
theorem listAt_is {C : Cx} {W : Wd} {v : V} {x : Value} {l : List V} (H : HR C W) (r : W.VR v x) (e : listAt W.σ v = some l) : ∃ a vs, x = .ref a ∧ W.h.IsList a (List.toArray vs) ∧ W.VsR l vs := by
  cases r with
  | lst l' vs a ep o ho hc hd ha hv =>
    cases e
    exact ⟨a, vs, rfl, ⟨_, ho, hc, ep, hd⟩, hv⟩
  | ref n hn =>
    unfold listAt at e
    dsimp only at e
    split at e
    · rename_i l' q
      cases e
      obtain ⟨vs, ep, h1, h2⟩ := H.obj n _ q
      exact ⟨_, vs, rfl, ⟨_, h1, rfl, ep, rfl⟩, h2⟩
    · cases e
  | _ => cases e

noncomputable def sizeOk' (n : Nat) : Bool := decide (n ≤ 100000)

theorem add_listsP {prog : Program} {w : World} {A : Around} {E : Value → Shared → Prop} {s : Shared} {l b : Addr} {vs ws : List Value} {Q : Value → Shared → Prop} (hl : s.heap.IsList l vs.toArray) (hb : s.heap.IsList b ws.toArray)
    (h : Q (.ref s.heap.objs.size) { s with heap := s.heap.push (listOf (vs ++ ws).toArray 0) }) (hsz : vs.length + ws.length ≤ sizeLine) :
    wpAny (model prog w) A (binaryOp .Add (.ref l) (.ref b)) Q E s := by
  obtain ⟨⟨cls, dd, data, sl⟩, ho, hc, n, hd⟩ := id hl
  obtain ⟨⟨cls2, dd2, data2, sl2⟩, ho2, hc2, n2, hd2⟩ := id hb
  simp only at hc hd hc2 hd2
  subst hc hd hc2 hd2
  have e : vs.toArray ++ ws.toArray = (vs ++ ws).toArray := by simp
  refine concat_meets ⟨_, ho, rfl⟩ ⟨_, ho2, rfl⟩ noFill_list_add seq_list_add PySem.F.slot_list_add PySem.F.entry_list_add (PySem.F.args_list_add_2 _ _) (list_addW l b vs.toArray ws.toArray n n2 dd dd2 sl sl2 (by simpa using hsz)) ⟨ho, ho2, ?_⟩
  rw [e]
  exact h

theorem newAp {C : Cx} {W : Wd} (H : HR C W) : ∀ n, n < W.nx → W.ι n ≠ W.h.objs.size := fun n hn => let ⟨_, e⟩ := H.below n hn; Nat.ne_of_lt (Heap.lt_size e)

noncomputable def vAdd : Op2 := fun a b σ => match a, b with
  | .int a, .int b => .ok (.int (a + b)) σ
  | .str a, .str b => if sizeOk' (a.length + b.length) then .ok (.str (a ++ b)) σ else .fail
  | a, b => match listAt σ a, listAt σ b with
    | some l, some m => if sizeOk' (l.length + m.length) then .ok (.lst (l ++ m)) σ else .fail
    | _, _ => .fail
theorem sl100 {n : Nat} (h : sizeOk' n = true) : n ≤ sizeLine := by
  unfold sizeOk' at h; rw [sizeLine_eq]; have := of_decide_eq_true h; omega

theorem addR {C : Cx} : BinR C .Add vAdd := by
  intro k A W a b x y R H ra rb Q E hk
  have lists : ∀ {l m : List V}, listAt W.σ a = some l → listAt W.σ b = some m → K C noOwn vrel (if sizeOk' (l.length + m.length) then .ok (.lst (l ++ m)) W.σ else .fail) W Q E → wpAny (model C.prog C.w) A (binaryOp .Add x y) Q E W.s := by
    intro l m e1 e2 hk
    split at hk
    · rename_i hz
      obtain ⟨a1, vs, rfl, h1, h2⟩ := listAt_is H ra e1
      obtain ⟨a2, ws, rfl, h3, h4⟩ := listAt_is H rb e2
      refine add_listsP h1 h3 ?_ (by rw [← h2.length, ← h4.length]; exact sl100 hz)
      refine hk.push H (listOf (vs ++ ws).toArray 0) W.s.toks (.lst _ (vs ++ ws) _ 0 _ (Heap.get?_push_size _ rfl) rfl rfl (newAp H) ?_)
      have x : Ext C noOwn W (W.withHeap (W.h.push (listOf (vs ++ ws).toArray 0)) W.s.toks) := Ext.grow _ fun _ _ e => Heap.get?_push_of_some _ e
      exact VsR.up x H (h2.append h4)
    · exact hk.elim
  have gen : K C noOwn vrel (match listAt W.σ a, listAt W.σ b with
    | some l, some m => if sizeOk' (l.length + m.length) then .ok (.lst (l ++ m)) W.σ else .fail
    | _, _ => .fail) W Q E → wpAny (model C.prog C.w) A (binaryOp .Add x y) Q E W.s := by
    intro hk
    split at hk
    · rename_i e1 e2; exact lists e1 e2 hk
    · exact hk.elim
  unfold vAdd at hk
  split at hk
  · cases ra; cases rb
    exact add_int (hk.tok H _ (.int _ _))
  · cases ra; cases rb
    split at hk
    · rename_i hz
      refine PyProof.Rows.add_str (fun t' tk => ?_) (by simpa [PySem.Str.length] using sl100 hz)
      refine hk.tok H _ ?_
      have e : ∀ l m : List Nat, (⟨l.toArray⟩ : PySem.Str) ++ ⟨m.toArray⟩ = ⟨(l ++ m).toArray⟩ := fun l m => by
        show PySem.Str.mk _ = _
        congr 1
        simp
      rw [e]
      exact .str _ _
    · exact hk.elim
  · exact gen hk

noncomputable def vSub : Op2 := fun a b σ => match a, b with
  | .int a, .int b => .ok (.int (a - b)) σ
  | _, _ => .fail
theorem subR {C : Cx} : BinR C .Sub vSub := by
  intro k A W a b x y R H ra rb Q E hk
  unfold vSub at hk
  split at hk
  · cases ra; cases rb
    exact sub_int (hk.tok H _ (.int _ _))
  · exact hk.elim
noncomputable def vMod : Op2 := fun a b σ => match a, b with
  | .int a, .int b => if b = 0 then .fail else .ok (.int (a.fmod b)) σ
  | _, _ => .fail
theorem modR {C : Cx} : BinR C .Mod vMod := by
  intro k A W a b x y R H ra rb Q E hk
  unfold vMod at hk
  split at hk
  · split at hk
    · exact hk.elim
    · rename_i hb
      cases ra; cases rb
      exact PyProof.Rows.mod_int hb (hk.tok H _ (.int _ _))
  · exact hk.elim
noncomputable def vDiv : Op2 := fun a b σ => match a, b with
  | .int a, .int b => if b = 0 ∨ 1000000 < b.natAbs then .fail else .ok (.int (a.fdiv b)) σ
  | _, _ => .fail
theorem divR {C : Cx} : BinR C .FloorDiv vDiv := by
  intro k A W a b x y R H ra rb Q E hk
  unfold vDiv at hk
  split at hk
  · split at hk
    · exact hk.elim
    · rename_i hb
      cases ra; cases rb
      exact PyProof.Rows.floordiv_int (fun q => hb (.inl q)) (hk.tok H _ (.int _ _)) (.inl (PyProof.noPylong_small (by omega)))
  · exact hk.elim

theorem mul_ok {a b : Int} (h : a.natAbs ≤ 1000000) : IntMulOk a b := by
  have h2 : Builtin.Int.intBits a ≤ 64 := by
    unfold Builtin.Int.intBits
    split
    · exact Nat.zero_le _
    · rename_i q
      have h0 : a.natAbs ≠ 0 := fun e => q (by simp [Int.natAbs_eq_zero.mp e])
      have := (Nat.log2_lt h0).mpr (show a.natAbs < 2 ^ 20 by omega)
      omega
  unfold IntMulOk shortFactorBits
  intro q
  simp only [Bool.and_eq_true, decide_eq_true_eq] at q
  omega
theorem mul_listP {prog : Program} {w : World} {A : Around} {E : Value → Shared → Prop} {s : Shared} {l : Addr} {items : Array Value} {k : Nat} {x : Int} {u : Tok} {Q : Value → Shared → Prop}
    (hl : s.heap.get? l = some (listOf items k))
    (hlo : -(2 ^ 63 : Int) ≤ x) (hhi : x < 2 ^ 63) (hsz : items.size * x.toNat ≤ 2 ^ 24)
    (h : Q (.ref s.heap.objs.size) { s with heap := s.heap.push (listOf (List.foldl (fun x1 x2 => x1 ++ x2) #[] (List.replicate (if items.isEmpty = true then 0 else x.toNat) items)) 0) }) :
    wpAny (model prog w) A (binaryOp .Mult (.ref l) (.int x u)) Q E s :=
  wpAny_binaryOp_repeat_ref (T := "list") (U := "int") (by decide) ⟨_, hl, rfl⟩ (fun s' => typeIs_int s' x u) noFill_list_mul PySem.F.fills_int_mul PySem.F.slot_int_rmul repeat_list PySem.F.slot_int_index.lookup
    (call_meets PySem.F.slot_int_rmul (typeIs_int s x u) PySem.F.entry_int_rmul (PySem.F.args_int_rmul_2 _ _) (int___rmul___int_list x u l items k)
      ⟨hl, rfl, ⟨_, hl, rfl⟩, call_meets PySem.F.slot_list_mul ⟨_, hl, rfl⟩ PySem.F.entry_list_mul (PySem.F.args_list_mul_2 _ _)
        (AutoListH.list___mul___list_int_3 l items k x u (by simp [Builtin.List.listFitsIndex]; omega) (by omega) (by simp [Builtin.List.listTooLong, sizeLine]; omega))
        ⟨hl, h⟩⟩)
theorem fold_one (v : Value) : ∀ (n : Nat) (acc : Array Value), List.foldl (fun x1 x2 => x1 ++ x2) acc (List.replicate n #[v]) = acc ++ (List.replicate n v).toArray
  | 0, acc => by simp
  | n + 1, acc => by rw [List.replicate_succ, List.foldl_cons, fold_one v n]; apply Array.ext'; simp [List.replicate_succ]

/-- int * int, a text * int, a list of one * int (a value) -/
noncomputable def vMul : Op2 := fun a b σ => match a, b with
  | .int a, .int b => if a.natAbs ≤ 1000000 then .ok (.int (a * b)) σ else .fail
  | .str a, .int b => if a.length = 1 ∧ b.natAbs ≤ 100000 then .ok (.str (List.replicate b.toNat (a.headD 0))) σ else .fail
  | _, _ => .fail
theorem mulR {C : Cx} : BinR C .Mult vMul := by
  intro k A W a b x y R H ra rb Q E hk
  unfold vMul at hk
  split at hk
  · split at hk
    · rename_i hb
      cases ra; cases rb
      exact PyProof.Rows.mul_int (hk.tok H _ (.int _ _)) (mul_ok hb)
    · exact hk.elim
  · split at hk
    · rename_i a b hb
      cases ra; cases rb
      obtain ⟨c, rfl⟩ : ∃ c, a = [c] := by
        match a, hb.1 with
        | [c], _ => exact ⟨c, rfl⟩
      have hb2 := hb.2
      have fin : ∀ t' tk, Q (.str ⟨(List.replicate b.toNat c).toArray⟩ t') { W.s with toks := tk } := fun t' tk => hk.tok H _ (.str _ _)
      have hf : ∀ n, List.foldl (fun x1 x2 => x1 ++ x2) #[] (List.replicate n #[c]) = (List.replicate n c).toArray := by
        intro n
        have : ∀ (n : Nat) (acc : Array Nat), List.foldl (fun x1 x2 => x1 ++ x2) acc (List.replicate n #[c]) = acc ++ (List.replicate n c).toArray := by
          intro n
          induction n with
          | zero => intro acc; simp
          | succ n ih => intro acc; rw [List.replicate_succ, List.foldl_cons, ih]; apply Array.ext'; simp [List.replicate_succ]
        rw [this]; simp
      refine P.mul_str (by simp; omega) (fun h1 h2 => ?_) (fun h1 h2 => ?_) ?_
      · simp [PySem.Str.length]
        have : (1 : Int) ≤ 9223372036854775807 / b := (Int.le_ediv_iff_mul_le (by omega)).mpr (by omega)
        omega
      · refine decide_eq_false ?_
        simp [PySem.Str.length]; rw [sizeLine_eq]; omega
      · split
        · rename_i h1
          have e : b.toNat = 0 := by omega
          have := fin W.s.toks (W.s.toks + 1)
          rw [e] at this
          exact ⟨by decide, this⟩
        · rename_i h1
          split
          · rename_i h2
            have e : b = 1 := by simpa [PySem.Str.length] using h2
            subst e
            exact fin _ _
          · refine ⟨?_, ?_⟩
            · rw [hf]; simp [PySem.Str.length]; rw [sizeLine_eq]; omega
            · rw [hf]; exact fin _ _
    · exact hk.elim
  · exact hk.elim
/-! ## Comparisons -/
noncomputable def cInt (p : Int → Int → Bool) : Op2 := fun a b σ => match a, b with
  | .int a, .int b => .ok (.bool (p a b)) σ
  | _, _ => .fail
noncomputable def vLt : Op2 := cInt fun a b => decide (a < b)
noncomputable def vLe : Op2 := cInt fun a b => decide (a ≤ b)
noncomputable def vGt : Op2 := cInt fun a b => decide (b < a)
noncomputable def vGe : Op2 := cInt fun a b => decide (b ≤ a)
theorem cIntR {C : Cx} {o : CmpOp} {p : Int → Int → Bool} (h : ∀ {A : Around} {s : Shared} {E : Value → Shared → Prop} {a b : Int} {t u : Tok} {Q : Value → Shared → Prop}, Q (.bool (p a b)) s → wpAny (model C.prog C.w) A (compareOp o (.int a t) (.int b u)) Q E s) : CmpR C o (cInt p) := by
  intro k A W a b x y R H ra rb Q E hk
  unfold cInt at hk
  split at hk
  · cases ra; cases rb
    exact h (hk.here H (.bool _))
  · exact hk.elim
theorem ltR {C : Cx} : CmpR C .Lt vLt := cIntR fun h => PyProof.Rows.lt_int h
theorem leR {C : Cx} : CmpR C .LtE vLe := cIntR fun h => PyProof.Rows.le_int h
theorem gtR {C : Cx} : CmpR C .Gt vGt := cIntR fun h => PyProof.Rows.gt_int h
theorem geR {C : Cx} : CmpR C .GtE vGe := cIntR fun h => PyProof.Rows.ge_int h

noncomputable def strsOf : List V → Option (List (List Nat))
  | [] => some []
  | .str l :: r => if l.all (· < 128) then (strsOf r).map (l :: ·) else none
  | _ => none
theorem strsOf_is : ∀ {l : List V} {ss : List (List Nat)}, strsOf l = some ss → l = ss.map V.str ∧ ∀ x ∈ ss, x.all (· < 128) = true
  | [], ss, h => by cases h; exact ⟨rfl, fun _ hx => nomatch hx⟩
  | .str x :: r, ss, h => by
    unfold strsOf at h
    split at h
    · rename_i hx
      cases q : strsOf r with
      | none => rw [q] at h; cases h
      | some t =>
        rw [q] at h; cases h
        obtain ⟨h1, h2⟩ := strsOf_is q
        refine ⟨by rw [h1]; rfl, fun y hy => ?_⟩
        rcases List.mem_cons.mp hy with rfl | hy
        · exact hx
        · exact h2 y hy
    · cases h
  | .none :: _, _, h => by cases h
  | .bool _ :: _, _, h => by cases h
  | .int _ :: _, _, h => by cases h
  | .ref _ :: _, _, h => by cases h
  | .lst _ :: _, _, h => by cases h
  | .tup _ :: _, _, h => by cases h
theorem carried_strs {ι nx h} : ∀ {ss : List (List Nat)} {vs : List Value}, VsR ι nx h (ss.map V.str) vs → CarriedAll vs (ss.map fun x => PyData.str ⟨x.toArray⟩)
  | [], _, .nil => .nil
  | _ :: r, _, .cons _ _ _ _ hv hs => by
    cases hv
    exact .cons (.str _ _) (carried_strs hs)
theorem same_strs : ∀ l m : List (List Nat), PySem.Spec.sameAll (l.map fun x => PyData.str ⟨x.toArray⟩) (m.map fun x => PyData.str ⟨x.toArray⟩) = decide (l = m)
  | [], [] => by simp [PySem.Spec.sameAll]
  | [], _ :: _ => by simp [PySem.Spec.sameAll]
  | _ :: _, [] => by simp [PySem.Spec.sameAll]
  | a :: r, b :: t => by
    simp only [List.map_cons, PySem.Spec.sameAll, PySem.Spec.same, same_strs r t]
    by_cases h : a = b <;> by_cases h' : r = t <;> simp [h, h']
theorem canLay_strs : ∀ l : List (List Nat), (∀ x ∈ l, x.all (· < 128) = true) → PyData.canLayAll0 (l.map fun x => PyData.str ⟨x.toArray⟩) = true
  | [], _ => rfl
  | x :: r, h => by
    have h1 := List.all_eq_true.mp (h x (.head _))
    simp only [List.map_cons, PyData.canLayAll0, PyData.canLay0, canLay_strs r fun y hy => h y (.tail _ hy), Bool.and_true]
    unfold PyData.strOk
    rw [Array.all_eq_true']
    intro c hc
    have h2 : c ∈ x := by simpa using hc
    have h3 := of_decide_eq_true (h1 c h2)
    exact decide_eq_true (by omega)
theorem depth_strs : ∀ l : List (List Nat), PyData.depthAll (l.map fun x => PyData.str ⟨x.toArray⟩) = 0
  | [] => rfl
  | _ :: r => by simp [PyData.depthAll, PyData.depth, depth_strs r]
theorem shaped_strs (l : List (List Nat)) (h : ∀ x ∈ l, x.all (· < 128) = true) : SeqAt.shaped (.list (l.map fun x => PyData.str ⟨x.toArray⟩)) = true := by
  simp [SeqAt.shaped, PyData.canLay0, PyData.depth, canLay_strs l h, depth_strs]
theorem noMix_strs (l m : List (List Nat)) : SeqAt.noMix (.list (l.map fun x => PyData.str ⟨x.toArray⟩)) (.list (m.map fun x => PyData.str ⟨x.toArray⟩)) = true :=
  SeqAt.noMix_of_shape (.list .str) rfl _ _ (list_map_has fun _ => rfl) (list_map_has fun _ => rfl)

noncomputable def eqV (neg : Bool) : Op2 := fun a b σ => match a, b with
  | .int a, .int b => .ok (.bool (neg != decide (a = b))) σ
  | .str a, .str b => .ok (.bool (neg != decide (a = b))) σ
  | a, b => match (listAt σ a).bind strsOf, (listAt σ b).bind strsOf with
    | some l, some m => .ok (.bool (neg != decide (l = m))) σ
    | _, _ => .fail
noncomputable def vEq : Op2 := eqV false
noncomputable def vNe : Op2 := eqV true
theorem listR {C : Cx} {W : Wd} {k : Nat} {A : Around} {a b : V} {x y : Value} {neg : Bool} {Q : Value → Shared → Prop} {E : Value → Shared → Prop} {t : Sem Value} (R : Room A k) (H : HR C W) (ra : W.VR a x) (rb : W.VR b y)
    (hk : K C noOwn vrel (match (listAt W.σ a).bind strsOf, (listAt W.σ b).bind strsOf with
    | some l, some m => .ok (.bool (neg != decide (l = m))) W.σ
    | _, _ => .fail) W Q E)
    (h : ∀ {p q : Addr} {vs ws : List Value} {l m : List (List Nat)}, x = .ref p → y = .ref q → W.h.IsList p vs.toArray → W.h.IsList q ws.toArray → CarriedAll vs (l.map fun x => PyData.str ⟨x.toArray⟩) → CarriedAll ws (m.map fun x => PyData.str ⟨x.toArray⟩) → (∀ x ∈ l, x.all (· < 128) = true) → (∀ x ∈ m, x.all (· < 128) = true) →
      Q (.bool (neg != decide (l = m))) W.s → wpAny (model C.prog C.w) A t Q E W.s) : wpAny (model C.prog C.w) A t Q E W.s := by
  split at hk
  · rename_i l m e1 e2
    obtain ⟨l', q1, q2⟩ := Option.bind_eq_some_iff.mp e1
    obtain ⟨m', q3, q4⟩ := Option.bind_eq_some_iff.mp e2
    obtain ⟨p, vs, rfl, h1, h2⟩ := listAt_is H ra q1
    obtain ⟨q, ws, rfl, h3, h4⟩ := listAt_is H rb q3
    obtain ⟨f1, f2⟩ := strsOf_is q2
    obtain ⟨f3, f4⟩ := strsOf_is q4
    rw [f1] at h2
    rw [f3] at h4
    exact h rfl rfl h1 h3 (carried_strs h2) (carried_strs h4) f2 f4 (hk.here H (.bool _))
  · exact hk.elim
theorem decide_str (a b : List Nat) : ((⟨a.toArray⟩ : PySem.Str) == ⟨b.toArray⟩) = decide (a = b) := by
  by_cases h : a = b
  · subst h; simp
  · rw [decide_eq_false h]
    exact beq_eq_false_iff_ne.mpr fun q => h (by simpa using congrArg PySem.Str.cps q)
theorem eqR {C : Cx} : CmpR C .Eq vEq := by
  intro k A W a b x y R H ra rb Q E hk
  unfold vEq eqV at hk
  split at hk
  · cases ra; cases rb
    refine PyProof.Rows.eq_int (hk.here H ?_)
    rename_i a b _ _
    rw [show (false != decide (a = b)) = (a == b) by by_cases h : a = b <;> simp [h]]; exact .bool _
  · cases ra; cases rb
    refine PyProof.Rows.eq_str (hk.here H ?_)
    rename_i a b _ _
    rw [decide_str, Bool.false_bne]; exact .bool _
  · refine listR R H ra rb hk fun e1 e2 h1 h2 c1 c2 b1 b2 hq => ?_
    subst e1 e2
    exact eq_dataH_same (reads_newData h1 c1) (reads_newData h2 c2) (shaped_strs _ b1) (shaped_strs _ b2) (by have := R.units; omega) (noMix_strs _ _) (by simp only [PySem.Spec.same]; rw [same_strs]; rw [Bool.false_bne] at hq; exact hq)
theorem neR {C : Cx} : CmpR C .NotEq vNe := by
  intro k A W a b x y R H ra rb Q E hk
  unfold vNe eqV at hk
  split at hk
  · cases ra; cases rb
    refine PyProof.Rows.ne_int (hk.here H ?_)
    rename_i a b _ _
    rw [show (true != decide (a = b)) = (a != b) by by_cases h : a = b <;> simp [h]]; exact .bool _
  · cases ra; cases rb
    refine PyProof.Rows.ne_str (hk.here H ?_)
    rename_i a b _ _
    rw [show ((⟨a.toArray⟩ : PySem.Str) != ⟨b.toArray⟩) = (true != decide (a = b)) by rw [← decide_str]; simp [bne]]; exact .bool _
  · refine listR R H ra rb hk fun e1 e2 h1 h2 c1 c2 b1 b2 hq => ?_
    subst e1 e2
    exact ne_dataH_same (reads_newData h1 c1) (reads_newData h2 c2) (shaped_strs _ b1) (shaped_strs _ b2) (by have := R.units; omega) (noMix_strs _ _) (by simp only [PySem.Spec.same]; rw [same_strs]; rw [Bool.true_bne] at hq; exact hq)

noncomputable def isN : V → Bool
  | .none => true
  | _ => false
theorem isN_is {W : Wd} {a : V} {x : Value} (r : W.VR a x) : (x == .none) = isN a := by cases r <;> rfl
noncomputable def vIs (neg : Bool) : Op2 := fun a b σ => match b with
  | .none => .ok (.bool (neg != isN a)) σ
  | _ => .fail
theorem isR {C : Cx} : CmpR C .Is (vIs false) := by
  intro k A W a b x y R H ra rb Q E hk
  unfold vIs at hk
  split at hk
  · cases rb
    exact PySem.is_none (by rw [isN_is ra, ← Bool.false_bne (isN a)]; exact hk.here H (.bool _))
  · exact hk.elim
theorem isNotR {C : Cx} : CmpR C .IsNot (vIs true) := by
  intro k A W a b x y R H ra rb Q E hk
  unfold vIs at hk
  split at hk
  · cases rb
    exact PySem.isNot_none (by rw [isN_is ra, ← Bool.true_bne (isN a)]; exact hk.here H (.bool _))
  · exact hk.elim

noncomputable def dlook (k : List Nat) : List (List Nat × V) → Option V
  | [] => none
  | (y, v) :: r => if y = k then some v else dlook k r
theorem DsR.valueAt {W : Wd} {k : List Nat} : ∀ {l : List (List Nat × V)} {kvs}, DsR W l kvs →
    (dlook k l = none ∧ valueAt kvs ⟨k.toArray⟩ = none) ∨ ∃ v y, dlook k l = some v ∧ valueAt kvs ⟨k.toArray⟩ = some y ∧ W.VR v y := fun {l kvs} h => by
  cases h with
  | nil => exact .inl ⟨rfl, rfl⟩
  | cons x v y l es hv hr =>
    unfold dlook PySem.valueAt
    rw [List.find?_cons]
    by_cases h : x = k
    · subst h
      refine .inr ⟨v, y, by simp, by simp, hv⟩
    · have h2 : (⟨x.toArray⟩ : PySem.Str) ≠ ⟨k.toArray⟩ := fun q => h (by simpa using congrArg PySem.Str.cps q)
      rw [if_neg h]
      simp only [decide_eq_false h2]
      exact DsR.valueAt hr
noncomputable def dictAt (σ : AH) : V → Option (List (List Nat × V))
  | .ref n => match σ[n]? with | some (.dict l) => some l | _ => none
  | _ => none
theorem dictAt_is {C : Cx} {W : Wd} {v : V} {x : Value} {l : List (List Nat × V)} (H : HR C W) (r : W.VR v x) (e : dictAt W.σ v = some l) : ∃ n kvs, v = .ref n ∧ W.σ[n]? = some (.dict l) ∧ x = .ref (W.ι n) ∧ W.h.DictOf (strKind C.prog C.w) (W.ι n) kvs ∧ DsR W l kvs := by
  cases r with
  | ref n hn =>
    unfold dictAt at e
    dsimp only at e
    split at e
    · rename_i l' q
      cases e
      obtain ⟨kvs, h1, h2, _⟩ := H.obj n _ q
      exact ⟨n, kvs, rfl, q, rfl, h1, h2⟩
    · cases e
  | _ => cases e
noncomputable def vIn : Op2 := fun a b σ => match a, dictAt σ b with
  | .str k, some l => .ok (.bool (dlook k l).isSome) σ
  | _, _ => .fail
theorem not_sysMod {C : Cx} {W : Wd} (H : HR C W) {n : Nat} {l : List (List Nat × V)} (hn : W.σ[n]? = some (.dict l)) : (W.ι n == sysModules) = false :=
  beq_eq_false_iff_ne.mpr (let ⟨_, _, _, h⟩ := H.obj n _ hn; h)
theorem inR {C : Cx} : CmpR C .In vIn := by
  intro k A W a b x y R H ra rb Q E hk
  unfold vIn at hk
  split at hk
  · rename_i kk l e
    obtain ⟨n, kvs, rfl, hn, rfl, h1, h2⟩ := dictAt_is H rb e
    cases ra
    refine wpAny_in_of (strKind_is C.prog C.w _ _) (not_sysMod H hn) h1.mapOf ?_
    rcases h2.valueAt (k := kk) with ⟨e1, e2⟩ | ⟨v, y, e1, e2, _⟩
    · rw [e2]; rw [e1] at hk; exact hk.tok H _ (.bool _)
    · rw [e2]; rw [e1] at hk; exact hk.tok H _ (.bool _)
  · exact hk.elim
/-! ## Frames: stores -/
theorem ns_plainish {h : Heap} {a : Addr} {m : PySem.Str → Option Value} (hn : h.Ns a m) : ∀ o, h.get? a = some o → Plainish o := by
  intro o e
  obtain ⟨o', es, ep, e', hd, _⟩ := hn
  rw [e] at e'; cases e'
  exact ⟨fun vs _ _ q => (by rw [hd] at q; cases q), fun xs n q => (by rw [hd] at q; cases q)⟩
theorem cell_plainish {h : Heap} {a : Addr} {v : Option Value} (hn : h.IsCell a v) : ∀ o, h.get? a = some o → Plainish o := by
  intro o e
  obtain ⟨o', e', hd⟩ := hn
  rw [e] at e'; cases e'
  exact ⟨fun vs _ _ q => (by rw [hd] at q; cases q), fun xs n q => (by rw [hd] at q; cases q)⟩

theorem ns_stays {h h' : Heap} {a : Addr} {m : PySem.Str → Option Value} (hn : h'.Ns a m) : DictStays a h h' := fun o e => by
  obtain ⟨o', es, ep, e', hd, _⟩ := hn
  exact ⟨o', e', fun _ => ⟨es, ep, hd⟩⟩
theorem cell_stays {h h' : Heap} {a : Addr} {v v' : Option Value} (hn : h.IsCell a v) (hn' : h'.IsCell a v') : DictStays a h h' := fun o e => by
  obtain ⟨o₁, e₁, hd⟩ := hn
  obtain ⟨o', e', _⟩ := hn'
  rw [e] at e₁; cases e₁
  refine ⟨o', e', fun ⟨es, n, q⟩ => ?_⟩
  rw [hd] at q; cases q
theorem FR.stL {C : Cx} {env : Env} {A : Around} {W : Wd} {ρ : Loc} {x : String} {v : V} {y : Value} {h : Heap} (tk : Nat) (F : FR C env A W ρ) (H : HR C W) (hl : env.kindOf (sname x) = some .local) {m : PySem.Str → Option Value}
    (hm : W.h.Ns env.locals m) (hm2 : ∀ x v, look x ρ = some v → env.kindOf (sname x) = some .local → ∃ y, m (sname x) = some y ∧ W.VR v y) (hn : h.Ns env.locals (fun z => if z = sname x then some y else m z)) (sb : Heap.SameBut env.locals W.h h) (r : W.VR v y) :
    FR C env A (W.withHeap h tk) (put x v ρ) := by
  have hp := ns_plainish hm
  have hd := ns_stays (h := W.h) hn
  refine ⟨F.kind, F.glob, F.blt, ⟨_, hn, fun z u e hk => ?_⟩, fun z u e hk => ?_, F.locAp, fun z c hc => ?_, F.celInj, F.celHas, ?_⟩
  · rw [look_put] at e
    by_cases hz : x = z
    · subst hz
      rw [if_pos rfl] at e; cases e
      exact ⟨y, if_pos rfl, VR.loc H sb hd hp r⟩
    · rw [if_neg hz] at e
      obtain ⟨u', e', r'⟩ := hm2 z u e hk
      exact ⟨u', by rw [if_neg (fun q => hz (ofString_inj q).symm)]; exact e', VR.loc H sb hd hp r'⟩
  · rw [look_put] at e
    by_cases hz : x = z
    · subst hz; exact absurd hl hk
    · rw [if_neg hz] at e
      obtain ⟨h1, c, u', h2, h3, h4⟩ := F.cel z u e hk
      exact ⟨h1, c, u', h2, h3.sameBut sb (F.celAp _ c h2).2.1, VR.loc H sb hd hp h4⟩
  · obtain ⟨a1, a2, a3, w, a4⟩ := F.celAp z c hc
    exact ⟨a1, a2, a3, w, a4.sameBut sb a2⟩
  · obtain ⟨outer, S⟩ := F.stk
    exact ⟨outer, S.ext (Ext.loc (own := fun b => b = env.locals) tk rfl sb hd)⟩

theorem FR.stC {C : Cx} {env : Env} {A : Around} {W : Wd} {ρ : Loc} {x : String} {v : V} {y : Value} {h : Heap} {c : Addr} (tk : Nat) (F : FR C env A W ρ) (H : HR C W) (hl : env.kindOf (sname x) = some .cell) (hc : env.cells.lookup (sname x) = some c)
    (hn : h.IsCell c (some y)) (sb : Heap.SameBut c W.h h) (r : W.VR v y) : FR C env A (W.withHeap h tk) (put x v ρ) := by
  obtain ⟨b1, b2, b3, w0, b4⟩ := F.celAp _ c hc
  have hp := cell_plainish b4
  have hd := cell_stays b4 hn
  obtain ⟨m, hm, hm2⟩ := F.ns
  refine ⟨F.kind, F.glob, F.blt, ⟨m, hm.sameBut sb b2.symm, fun z u e hk => ?_⟩, fun z u e hk => ?_, F.locAp, fun z c' hc' => ?_, F.celInj, F.celHas, ?_⟩
  · rw [look_put] at e
    by_cases hz : x = z
    · subst hz; rw [hl] at hk; cases hk
    · rw [if_neg hz] at e
      obtain ⟨u', e', r'⟩ := hm2 z u e hk
      exact ⟨u', e', VR.loc H sb hd hp r'⟩
  · rw [look_put] at e
    by_cases hz : x = z
    · subst hz
      rw [if_pos rfl] at e; cases e
      exact ⟨.inl hl, c, y, hc, hn, VR.loc H sb hd hp r⟩
    · rw [if_neg hz] at e
      obtain ⟨h1, c', u', h2, h3, h4⟩ := F.cel z u e hk
      exact ⟨h1, c', u', h2, h3.sameBut sb (fun q => hz (ofString_inj (F.celInj _ _ c hc (q ▸ h2)))), VR.loc H sb hd hp h4⟩
  · obtain ⟨a1, a2, a3, w, a4⟩ := F.celAp z c' hc'
    refine ⟨a1, a2, a3, ?_⟩
    by_cases hq : c' = c
    · subst hq; exact ⟨_, hn⟩
    · exact ⟨w, a4.sameBut sb hq⟩
  · obtain ⟨outer, S⟩ := F.stk
    exact ⟨outer, S.ext (Ext.loc (own := fun b => b = c) tk rfl sb hd)⟩

/-! ## Assignment to a target -/
noncomputable abbrev GA := V → Loc → AH → Res Loc
noncomputable abbrev grel (C : Cx) (env : Env) (A : Around) : Wd → Loc → Unit → Prop := fun W ρ _ => FR C env A W ρ
noncomputable def SG (C : Cx) (k : Nat) (sc : Scope) (t : Expr) (g : GA) : Prop :=
  ∀ env A W ρ v x, Here C k sc env A W ρ → W.VR v x → TJ C (Own env) (grel C env A) A (assign t env x) (g v ρ W.σ) W

noncomputable def gName (x : String) : GA := fun v ρ σ => .ok (put x v ρ) σ
noncomputable def setable (sc : Scope) (x : String) : Bool := sc.names.lookup (sname x) == some .local || sc.names.lookup (sname x) == some .cell

section
variable {C : Cx} {k : Nat} {sc : Scope}
theorem storeK {env A W ρ} {x : String} {v : V} {y : Value} (H : Here C k sc env A W ρ) (hs : setable sc x = true) (r : W.VR v y) {Q : Unit → Shared → Prop} {E}
    (hk : K C (Own env) (grel C env A) (.ok (put x v ρ) W.σ) W Q E) : wpAny (model C.prog C.w) A (storeName env (sname x) y) Q E W.s := by
  have F := H.fr
  rcases Bool.or_eq_true_iff.mp hs with hl | hl
  · have hl : env.kindOf (sname x) = some .local := by show env.scope.names.lookup _ = _; rw [H.sc.1]; exact beq_iff_eq.mp hl
    obtain ⟨m, hm, hm2⟩ := F.ns
    refine wpAny_storeName_local hl hm (fun h' hn sb => ?_) (by rw [F.kind]; rfl)
    refine hk () (W.withHeap h' (W.s.toks + 1)) (Ext.loc _ (.inl rfl) sb (ns_stays hn)) (H.hr.loc _ F.locAp.1 F.locAp.2 sb (ns_stays hn) (ns_plainish hm)) rfl ?_
    exact F.stL _ H.hr hl hm hm2 hn sb r
  · have hl' : env.kindOf (sname x) = some .cell := by show env.scope.names.lookup _ = _; rw [H.sc.1]; exact beq_iff_eq.mp hl
    obtain ⟨c, hc⟩ := Option.isSome_iff_exists.mp (F.celHas _ hl')
    obtain ⟨b1, b2, b3, w0, b4⟩ := F.celAp _ c hc
    refine wpAny_storeName_cell F.kind hl' hc b4 (fun h' hn sb => ?_)
    refine hk () (W.withHeap h' W.s.toks) (Ext.loc _ (.inr ⟨_, hc⟩) sb (cell_stays b4 hn)) (H.hr.loc _ b1 b3 sb (cell_stays b4 hn) (cell_plainish b4)) rfl ?_
    exact F.stC _ H.hr hl' hc hn sb r

theorem SG_name {x : String} {p} (h : setable sc x = true) : SG C k sc (.Name (PySem.Str.ofString x) p) (gName x) := fun env A W ρ v y H r Q E hk =>
  PySem.wpAny_assign_Name (storeK H h r hk)

/-! ## Lists of expressions -/
noncomputable def SL (C : Cx) (k : Nat) (sc : Scope) (l : List Expr) (f : LA) : Prop :=
  ∀ env A W ρ pos, Here C k sc env A W ρ → TJ C noOwn vsrel A (spliced (backTo pos (starEach l env))) (f ρ W.σ) W
noncomputable def lNil : LA := fun _ σ => .ok [] σ
noncomputable def lCons (f : EA) (g : LA) : LA := fun ρ σ => (f ρ σ).bind fun v σ => (g ρ σ).bind fun l σ => .ok (v :: l) σ
theorem SL_nil : SL C k sc [] lNil := fun env A W ρ pos H Q E hk => spliced_nil (hk.here H.hr .nil)
theorem SL_cons {e r f g} (hf : SE C k sc e f) (hg : SL C k sc r g) (he : ∀ env, starEach (e :: r) env = (false, eval e env) :: starEach r env := by intro _; rfl) : SL C k sc (e :: r) (lCons f g) := fun env A W ρ pos H Q E hk => by
  rw [he]
  show wpAny _ A (spliced ((false, eval e env) :: backTo pos (starEach r env))) Q E W.s
  refine spliced_cons (hf env A W ρ H _ _ (K.bind hk (fun _ => id) fun x a σ₁ W₁ _ x₁ H₁ _ r₁ hk₁ => ?_))
  refine hg env A W₁ ρ pos (H.ext x₁ H₁) _ _ (K.bind hk₁ (fun _ => id) fun y b σ₂ W₂ _ x₂ H₂ _ r₂ hk₂ => ?_)
  exact hk₂.here H₂ (.cons _ _ _ _ (VR.up x₂ H₁ r₁) r₂)

/-- a tuple's display: a value -/
noncomputable def eTup (f : LA) : EA := fun ρ σ => (f ρ σ).bind fun l σ => if sizeOk' l.length then .ok (.tup l) σ else .fail
theorem SE_tup {l n p f} (hf : SL C k sc l f) : SE C k sc (.Tuple l n p) (eTup f) := fun env A W ρ H Q E hk => by
  refine PySem.wpAny_Tuple_spliced (hf env A W ρ p H _ _ (K.bind hk (fun _ => id) fun xs vs σ₁ W₁ _ x₁ H₁ _ r₁ hk₁ => ?_))
  have hlen := r₁.length
  split at hk₁
  · rename_i hz
    refine ⟨by rw [← hlen]; exact sl100 hz, ?_⟩
    refine hk₁.push H₁ { cls := .type "tuple", data := .seq xs.toArray } W₁.s.toks (.tup _ xs _ 0 (Heap.get?_push_size _ rfl) (newAp H₁) ?_)
    exact VsR.up (Ext.grow _ fun _ _ e => Heap.get?_push_of_some _ e) H₁ r₁
  · exact hk₁.elim
/-- a list's display: a value that nobody changes -/
noncomputable def eLstV (f : LA) : EA := fun ρ σ => (f ρ σ).bind fun l σ => if sizeOk' l.length then .ok (.lst l) σ else .fail
theorem SE_lstV {l p f} (hf : SL C k sc l f) : SE C k sc (.List l p) (eLstV f) := fun env A W ρ H Q E hk => by
  refine PySem.wpAny_List_spliced (hf env A W ρ p H _ _ (K.bind hk (fun _ => id) fun xs vs σ₁ W₁ _ x₁ H₁ _ r₁ hk₁ => ?_))
  have hlen := r₁.length
  split at hk₁
  · rename_i hz
    refine ⟨by rw [← hlen]; exact sl100 hz, ?_⟩
    refine hk₁.push H₁ (listOf xs.toArray 0) W₁.s.toks (.lst _ xs _ 0 _ (Heap.get?_push_size _ rfl) rfl rfl (newAp H₁) ?_)
    exact VsR.up (Ext.grow _ fun _ _ e => Heap.get?_push_of_some _ e) H₁ r₁
  · exact hk₁.elim
/-- a list's display: an object of the abstract heap -/
theorem K.newList {own : Addr → Prop} {W : Wd} {Q : Value → Shared → Prop} {E : Value → Shared → Prop} {l : List V} {xs : List Value} (hk : K C own vrel (.ok (.ref W.nx) (W.σ ++ [.list l])) W Q E) (H : HR C W) (r : W.VsR l xs) (tk : Nat) :
    Q (.ref W.s.heap.objs.size) { W.s with heap := W.s.heap.push (listOf xs.toArray 0), toks := tk } := by
  have kp : ∀ b o, W.h.get? b = some o → (W.h.push (listOf xs.toArray 0)).get? b = some o := fun _ _ e => Heap.get?_push_of_some _ e
  have x : Ext C own W (W.new (.list l) (W.h.push (listOf xs.toArray 0)) tk W.h.objs.size) := Ext.new _ _ (Heap.get?_none_of_le (Nat.le_refl _)) kp
  have x' : Ext C noOwn W (W.new (.list l) (W.h.push (listOf xs.toArray 0)) tk W.h.objs.size) := Ext.new _ _ (Heap.get?_none_of_le (Nat.le_refl _)) kp
  have hι : (W.new (.list l) (W.h.push (listOf xs.toArray 0)) tk W.h.objs.size).ι W.nx = W.h.objs.size := if_pos rfl
  refine hk _ (W.new (.list l) (W.h.push (listOf xs.toArray 0)) tk W.h.objs.size) x (H.new _ _ (Heap.get?_none_of_le (Nat.le_refl _)) ⟨_, Heap.get?_push_size _ rfl⟩ kp ?_) rfl ?_
  · exact ⟨xs, 0, by rw [hι]; exact Heap.get?_push_size _ rfl, VsR.up x' H r⟩
  · have := VR.ref (ι := (W.new (.list l) (W.h.push (listOf xs.toArray 0)) tk W.h.objs.size).ι) (h := (W.new (.list l) (W.h.push (listOf xs.toArray 0)) tk W.h.objs.size).h) (nx := (W.new (.list l) (W.h.push (listOf xs.toArray 0)) tk W.h.objs.size).nx) W.nx (by rw [nx_new]; lia)
    rw [hι] at this
    exact this
noncomputable def eLstH (f : LA) : EA := fun ρ σ => (f ρ σ).bind fun l σ => if sizeOk' l.length then .ok (.ref σ.length) (σ ++ [.list l]) else .fail
theorem SE_lstH {l p f} (hf : SL C k sc l f) : SE C k sc (.List l p) (eLstH f) := fun env A W ρ H Q E hk => by
  refine PySem.wpAny_List_spliced (hf env A W ρ p H _ _ (K.bind hk (fun _ => id) fun xs vs σ₁ W₁ _ x₁ H₁ _ r₁ hk₁ => ?_))
  have hlen := r₁.length
  split at hk₁
  · rename_i hz
    exact ⟨by rw [← hlen]; exact sl100 hz, hk₁.newList H₁ r₁ _⟩
  · exact hk₁.elim

/-! ## Statements -/
noncomputable def sSkip : SA := fun ρ σ => .ok (.next, ρ) σ
noncomputable def sSeq (f g : SA) : SA := fun ρ σ => (f ρ σ).bind fun r σ => match r.1 with
  | .next => g r.2 σ
  | .ret v => .ok (.ret v, r.2) σ
theorem SB_nil : SB C k sc [] sSkip := fun env A W ρ H Q E hk => PySem.wpAny_execs_nil (hk.here H.hr ⟨H.fr, rfl⟩)
theorem SB_cons {st r f g} (hf : SS C k sc st f) (hg : SB C k sc r g) : SB C k sc (st :: r) (sSeq f g) := fun env A W ρ H Q E hk => by
  refine PySem.wpAny_execs_cons (hf env A W ρ H _ _ (K.bind hk (fun _ => id) fun fl a σ₁ W₁ _ x₁ H₁ _ r₁ hk₁ => ?_))
  obtain ⟨a, ρ₁⟩ := a
  obtain ⟨F₁, r₁⟩ := r₁
  cases a with
  | next => cases r₁; exact hg env A W₁ ρ₁ ⟨H.sc, H.room, H₁, F₁⟩ _ _ hk₁
  | ret v =>
    obtain ⟨x, rfl, rv⟩ := r₁
    exact hk₁.here H₁ ⟨F₁, x, rfl, rv⟩
noncomputable def sRet (f : EA) : SA := fun ρ σ => (f ρ σ).bind fun v σ => .ok (.ret v, ρ) σ
theorem SS_ret {e p f} (hf : SE C k sc e f) : SS C k sc (.Return (some e) p) (sRet f) := fun env A W ρ H Q E hk =>
  PySem.wpAny_Return_some (hf env A W ρ H _ _ (K.bind hk (fun _ => False.elim) fun x a σ₁ W₁ _ x₁ H₁ _ r₁ hk₁ => hk₁.here H₁ ⟨H.fr.ext H.hr x₁, x, rfl, r₁⟩))
noncomputable def sIf (c : BA) (f g : SA) : SA := fun ρ σ => (c ρ σ).bind fun b σ => if b then f ρ σ else g ρ σ
theorem SS_if {t b o p c f g} (hc : ST C k sc t c) (hf : SB C k sc b f) (hg : SB C k sc o g) : SS C k sc (.If t b o p) (sIf c f g) := fun env A W ρ H Q E hk =>
  PySem.wpAny_If (hc env A W ρ H _ _ (K.bind hk (fun _ => False.elim) fun x a σ₁ W₁ _ x₁ H₁ _ r₁ hk₁ => by
    subst r₁
    cases x with
    | true => exact hf env A W₁ ρ (H.ext x₁ H₁) _ _ hk₁
    | false => exact hg env A W₁ ρ (H.ext x₁ H₁) _ _ hk₁))
noncomputable def sDo (f : EA) : SA := fun ρ σ => (f ρ σ).bind fun _ σ => .ok (.next, ρ) σ
theorem SS_do {e p f} (hf : SE C k sc e f) (hs : ∀ env, swapsWith e none p.line env = pure false := by intro _; rfl) : SS C k sc (.Expr e p) (sDo f) := fun env A W ρ H Q E hk =>
  PySem.wpAny_Expr_any (hf env A W ρ H _ _ (K.bind hk (fun _ => False.elim) fun x a σ₁ W₁ _ x₁ H₁ _ r₁ hk₁ => hk₁.here H₁ ⟨H.fr.ext H.hr x₁, rfl⟩))
    (by unfold interactive; rw [H.fr.kind]; rfl) (hs env)
noncomputable def sAsg (f : EA) (g : GA) : SA := fun ρ σ => (f ρ σ).bind fun v σ => (g v ρ σ).bind fun ρ σ => .ok (.next, ρ) σ
theorem SS_asg {t e p f g} (hf : SE C k sc e f) (hg : SG C k sc t g) (hs : ∀ env, env.scope = sc → swapsWithSole [t] e p.line env = pure false := by intro env h; rfl)
    (hw : ∀ env, env.scope = sc → swappedStores [t] e env = pure none := by intro env h; rfl) (ht : ∀ env, assignEach [t] env = [(false, assign t env)] := by intro _; rfl) : SS C k sc (.Assign [t] e p) (sAsg f g) := fun env A W ρ H Q E hk => by
  refine PySem.wpAny_Assign_stores (hf env A W ρ H _ _ (K.bind hk (fun _ => False.elim) fun x a σ₁ W₁ _ x₁ H₁ _ r₁ hk₁ => ?_)) (hs env H.sc.1) (hw env H.sc.1)
  rw [ht]
  exact hg env A W₁ ρ a x (H.ext x₁ H₁) r₁ _ _ (K.bind hk₁ (fun _ => id) fun y b σ₂ W₂ _ x₂ H₂ _ r₂ hk₂ => hk₂.here H₂ ⟨r₂, rfl⟩)
end
/-! ## An exception leaves a frame -/
section
variable {C : Cx} {A : Around} {W : Wd}

theorem Stk.mem {outer : List Env} (S : Stk C A W outer) {b : Addr} (hb : b ∈ outer.filterMap (·.frame)) : C.out b ∧ (∀ n, n < W.nx → W.ι n ≠ b) ∧ ∃ o, W.h.get? b = some o ∧ ∃ es n, o.data = .dict es n := by
  refine hide fun X_ k_ => ?_
  obtain ⟨e, he, hf⟩ := List.mem_filterMap.mp hb
  obtain ⟨_, L, o, h2, h3, h4, h5, h6⟩ := S.at_ e he
  refine k_ ?_
  clear k_ X_
  rw [hf] at h2; cases h2
  exact ⟨h3, h4, o, h5, h6⟩

theorem slotsStep {outer : List Env} (S : Stk C A W outer) (H : HR C W) {h : Heap} (tk : Nat) (so : Heap.SlotsOnly (outer.filterMap (·.frame)) W.h h) :
    Ext C noOwn W (W.withHeap h tk) ∧ HR C (W.withHeap h tk) := by
  have x : Ext C noOwn W (W.withHeap h tk) := by
    refine ⟨⟨h, tk, rfl⟩, fun b o e => let ⟨_, q⟩ := so.2.2 b o e; ⟨_, q⟩, Nat.le_refl _, fun _ _ => rfl, fun n h1 h2 => absurd h2 (Nat.not_lt.mpr h1), fun b o e _ _ _ => ?_, fun b o e _ _ hd => ?_⟩
    · by_cases hb : b ∈ outer.filterMap (·.frame)
      · obtain ⟨_, _, o', e', hd⟩ := S.mem hb
        rw [e] at e'; cases e'
        obtain ⟨sl, e2⟩ := so.2.2 b o e
        exact ⟨_, e2, .inr ⟨hd, sl, rfl⟩⟩
      · exact ⟨o, (so.2.1 b hb).trans e, .refl o⟩
    · obtain ⟨sl, e2⟩ := so.2.2 b o e
      exact ⟨_, e2, hd⟩
  refine ⟨x, ⟨fun b o e => (so.2.1 b fun hb => by rw [(S.mem hb).1.1] at e; cases e).trans (H.keep b o e), fun n o e => ?_, H.inj, H.above, fun n hn => let ⟨o, e⟩ := H.below n hn; x.live _ o e, tabs_keep H fun b o e hd => (so.2.1 b fun hb => ?_).trans e⟩⟩
  · have hlt : n < W.nx := by rcases List.getElem?_eq_some_iff.mp e with ⟨a, _⟩; exact a
    refine OR.keep (W := W) (h := H.obj n o e) (fun _ _ => rfl) (fun _ _ => VR.up x H) hlt (fun b hb ob q => (so.2.1 b fun hm => ?_).trans q) ?_
    · rcases hb with rfl | ⟨⟨fs, rfl⟩, rfl⟩
      · exact (S.mem hm).2.1 _ hlt rfl
      · obtain ⟨_, _, h0, _⟩ := H.obj n _ e
        exact (S.mem hm).2.1 _ (by rcases List.getElem?_eq_some_iff.mp h0 with ⟨a1, _⟩; exact a1) rfl
    · rintro ⟨fs, rfl⟩; obtain ⟨_, _, h0, _⟩ := H.obj n _ e; exact h0
  · obtain ⟨h1, _, o', e', es, n, hd'⟩ := S.mem hb
    rcases hd with hd | ⟨vs, xx, qq, hd, _⟩
    · exact h1.2 hd
    · rw [e] at e'; cases e'; rw [hd'] at hd; cases hd

theorem fieldStep (H : HR C W) {a : Addr} {o : Obj} {vs : Array Value} (ha : C.out a) (hn : ∀ n, n < W.nx → W.ι n ≠ a) (ho : W.h.get? a = some o) (hd : o.data = .fields vs) (hv : ∀ x q, vs[1]? ≠ some (.str x q)) (f : Obj → Obj) (hfr : (f o).isFreed = false) (tk : Nat) :
    Ext C (fun b => b = a) W (W.withHeap (W.h.update a f) tk) ∧ HR C (W.withHeap (W.h.update a f) tk) ∧ ∀ v y, W.VR v y → (W.withHeap (W.h.update a f) tk).VR v y := by
  have sb := Heap.SameBut.update W.h a f
  have hs : DictStays a W.h (W.h.update a f) := fun o' e => by
    rw [ho] at e; cases e
    exact ⟨_, Heap.get?_update_self f ho hfr, fun ⟨es, n, q⟩ => by rw [hd] at q; cases q⟩
  have hp : ∀ o, W.h.get? a = some o → Plainish o := fun o' e => by
    rw [ho] at e; cases e
    exact ⟨fun vs' x q e' => by rw [hd] at e'; cases e'; exact hv x q, fun xs n e' => by rw [hd] at e'; cases e'⟩
  exact ⟨Ext.loc tk rfl sb hs, H.loc tk ha hn sb hs hp, fun v y r => VR.loc H sb hs hp r⟩

theorem Code.step {W' : Wd} {own : Addr → Prop} {lo : Heap} {de : Addr} {c : V} (X : Code C W lo de c) (x : Ext C own W W') (hn : ¬ own de) (u : ∀ v y, W.VR v y → W'.VR v y) : Code C W' lo de c := by
  refine hide fun X_ k_ => ?_
  obtain ⟨h1, h0, h2, m, y, hm, hl, r⟩ := X
  obtain ⟨od, es, ep, e, hd⟩ := Ns1.dict hm
  refine k_ ?_
  clear k_ X_
  exact ⟨h1, h0, x.notι e h2, m, y, Ns1.kept hm fun o e => x.keep de o e h2 h0.2 hn, hl, u _ _ r⟩

set_option maxHeartbeats 2000000 in
theorem newEntryW {env : Env} {outer : List Env} {L e de : Addr} {oe : Obj} {vs : Array Value} {head : Value} {hadNext : Bool} {lo : Heap} {c : V} {Q : Unit → Shared → Prop} {E : Value → Shared → Prop}
    (hf : env.frame = some L) (S : Stk C A W (env :: outer)) (H : HR C W) (hlo : lo.get? e = none) (h0 : C.out e) (hap : ∀ n, n < W.nx → W.ι n ≠ e) (he : W.h.get? e = some oe) (hc : oe.cls = .ref 34) (hdi : oe.dict = some de) (hd : oe.data = .fields vs)
    (hsz : 1 < vs.size) (hvs : ∀ x q, vs[1]? ≠ some (.str x q)) (X : Code C W lo de c) (hlos : ∀ b, W.h.get? b = none → lo.get? b = none)
    (h : ∀ W', Ext C (fun b => b = e) W W' → HR C W' → W'.σ = W.σ → W'.ι = W.ι → (∀ v y, W.VR v y → W'.VR v y) → Fly C W' lo e c → Q () W'.s) :
    wpAny (model C.prog C.w) A (do let a ← frameOf env; let pl ← entryPlaceOf L hadNext; let b ← EntryCells.newEntry head a .none (rawInt L) .none pl; setField (.ref e) 1 b) (fun _ s' => wpAny (model C.prog C.w) A (setFlight (.ref e) none) Q E s') E W.s := by
  have hfun : W.h.FunFrames C.h₀ (env :: outer) := by
    have : ∀ l : List Env, (∀ x ∈ l, x ∈ env :: outer) → W.h.FunFrames C.h₀ l := by
      intro l
      induction l with
      | nil => intro _; trivial
      | cons x r ih =>
        intro hx
        refine hide fun X_ k_ => ?_
        obtain ⟨k1, L', o, k2, k3, k4, k5, es, n, k6⟩ := S.at_ x (hx x (.head _))
        refine k_ ?_
        clear k_ X_
        exact ⟨k1, ⟨L', o, k2, k3.1, k5, fun vs q => by rw [k6] at q; cases q⟩, ih fun y hy => hx y (.tail _ hy)⟩
    exact this _ fun _ h => h
  refine wpAny_bind (wpAny_frameOf_fun S.eq hfun hf fun h₁ hs₁ => ?_)
  refine wpAny_bind (wpAny_entryPlaceOf fun pl hpl => ?_)
  unfold EntryCells.newEntry newFields
  refine wpAny_bind (wpAny_newObj_type ?_ (hpl.sizeOk5 _ _ _ _ _))
  obtain ⟨x₁, H₁⟩ := slotsStep S H W.s.toks hs₁
  have hene : e ∉ (env :: outer).filterMap (·.frame) := fun hm => by
    refine hide fun X_ k_ => ?_
    obtain ⟨_, _, o, ho, es, n, q⟩ := S.mem hm
    refine k_ ?_
    clear k_ X_
    rw [he] at ho; cases ho; rw [hd] at q; cases q
  have he₁ : h₁.get? e = some oe := (hs₁.2.1 e hene).trans he
  -- the traceback
  let oT : Obj := { cls := .type "traceback", dict := none, data := .fields ([head, .ref L, .none, rawInt L, .none] ++ (if pl.isEmpty then List.replicate 6 Value.none else pl)).toArray }
  have hgr : ∀ b o, h₁.get? b = some o → (h₁.push oT).get? b = some o := fun _ _ e => Heap.get?_push_of_some _ e
  have x₂ : Ext C noOwn (W.withHeap h₁ W.s.toks) ((W.withHeap h₁ W.s.toks).withHeap (h₁.push oT) W.s.toks) := Ext.grow (W := W.withHeap h₁ W.s.toks) _ hgr
  have H₂ : HR C (W.withHeap (h₁.push oT) W.s.toks) := HR.grow (W := W.withHeap h₁ W.s.toks) H₁ _ hgr
  have he₂ : (h₁.push oT).get? e = some oe := hgr _ _ he₁
  refine wpAny_setField he₂ hd hsz ?_
  obtain ⟨x₃, H₃, u₃⟩ := fieldStep (W := W.withHeap (h₁.push oT) W.s.toks) H₂ h0 hap he₂ hd hvs (Obj.mapFields (·.setIfInBounds 1 (Value.ref h₁.objs.size))) (Obj.isFreed_of_fields (Obj.data_mapFields hd (·.setIfInBounds 1 (Value.ref h₁.objs.size)))) W.s.toks
  have hTe : h₁.objs.size ≠ e := Nat.ne_of_gt (Heap.lt_size he₁)
  have hd₃ := Obj.data_mapFields hd (·.setIfInBounds 1 (Value.ref h₁.objs.size))
  have he₃ := Heap.get?_update_self (Obj.mapFields (·.setIfInBounds 1 (Value.ref h₁.objs.size))) he₂ (Obj.isFreed_of_fields hd₃)
  have hT₃ : ((h₁.push oT).update e (Obj.mapFields (·.setIfInBounds 1 (Value.ref h₁.objs.size)))).get? h₁.objs.size = some oT := (Heap.get?_update_other _ _ (Ne.symm hTe)).trans (Heap.get?_push_size h₁ rfl)
  have apT : ∀ n, n < W.nx → W.ι n ≠ h₁.objs.size := fun n hn => let ⟨_, e⟩ := H.below n hn; Nat.ne_of_lt (by rw [hs₁.1]; exact Heap.lt_size e)
  have nT : W.h.get? h₁.objs.size = none := by rw [hs₁.1]; exact Heap.get?_none_of_le (Nat.le_refl _)
  have loT : lo.get? h₁.objs.size = none := hlos _ nT
  have outT : C.out h₁.objs.size := H.out nT
  unfold setFlight
  refine wpAny_bind (wpAny_field he₃ hd₃ (x := .ref h₁.objs.size) (by simp [hsz]) ?_)
  rw [if_pos (show (Value.ref h₁.objs.size != Value.none) = true from by simp)]
  obtain ⟨x₄, H₄, u₄⟩ := fieldStep (W := W.withHeap ((h₁.push oT).update e (Obj.mapFields (·.setIfInBounds 1 (Value.ref h₁.objs.size)))) W.s.toks) H₃ outT apT hT₃ rfl (by intro x q; simp) (Obj.mapFields (·.setIfInBounds 3 ((none : Option Addr).elim Value.none fun f => rawInt f))) (Obj.isFreed_of_fields (Obj.data_mapFields rfl _)) W.s.toks
  refine wpAny_setField hT₃ rfl (by simp only [List.size_toArray, List.length_append, List.length_cons, List.length_nil] <;> lia) ?_
  have X₁ := X.step x₁ id (fun v y r => VR.up x₁ H r)
  have X₂ := X₁.step x₂ id (fun v y r => VR.up x₂ H₁ r)
  have hde : de ≠ e := fun q => by
    refine hide fun X_ k_ => ?_
    obtain ⟨_, _, _, m, y, hm, _⟩ := X
    obtain ⟨od, es, ep, e', hd'⟩ := Ns1.dict hm
    refine k_ ?_
    clear k_ X_
    rw [q, he] at e'; cases e'; rw [hd] at hd'; cases hd'
  have hdT : de ≠ h₁.objs.size := fun q => by
    refine hide fun X_ k_ => ?_
    obtain ⟨_, _, _, m, y, hm, _⟩ := X₁
    obtain ⟨od, es, ep, e', hd'⟩ := Ns1.dict hm
    refine k_ ?_
    clear k_ X_
    exact absurd (Heap.lt_size e') (by rw [q]; exact Nat.lt_irrefl _)
  have X₃ := Code.step X₂ x₃ hde u₃
  have X₄ := Code.step X₃ x₄ hdT u₄
  have xA : Ext C (fun b => b = e ∨ b = h₁.objs.size) W (W.withHeap (((h₁.push oT).update e (Obj.mapFields (·.setIfInBounds 1 (Value.ref h₁.objs.size)))).update h₁.objs.size (Obj.mapFields (·.setIfInBounds 3 ((none : Option Addr).elim Value.none fun f => rawInt f)))) W.s.toks) :=
    (x₁.mono fun _ _ _ q => q.elim).trans ((x₂.mono fun _ _ _ q => q.elim).trans ((x₃.mono fun _ _ _ q => .inl q).trans (x₄.mono fun _ _ _ q => .inr q)))
  refine h (W.withHeap (((h₁.push oT).update e (Obj.mapFields (·.setIfInBounds 1 (Value.ref h₁.objs.size)))).update h₁.objs.size (Obj.mapFields (·.setIfInBounds 3 ((none : Option Addr).elim Value.none fun f => rawInt f)))) W.s.toks)
    (xA.mono fun b o hb q => q.elim id fun q => by rw [q, nT] at hb; cases hb) H₄ rfl rfl (fun v y r => u₄ _ _ (u₃ _ _ (VR.up x₂ H₁ (VR.up x₁ H r)))) ?_
  refine ⟨hlo, h0, hap, _, _, de, (Heap.get?_update_other _ _ hTe).trans he₃, (Obj.cls_mapFields _ _).trans hc, ?_, hd₃, X₄, .inr ⟨h₁.objs.size, _, _, L, by simp [hsz], loT, outT, apT, hTe, Heap.get?_update_self _ hT₃ (Obj.isFreed_of_fields (Obj.data_mapFields rfl _)), Obj.data_mapFields rfl _, ?_, ?_⟩⟩
  · obtain ⟨oc, od, odd, osl⟩ := oe
    cases hd
    exact hdi
  · first | (simp; done) | (rcases hpl with rfl | ⟨_, _, _, _, _, _, _, rfl⟩ <;> simp)
  · first | (simp; done) | (rcases hpl with rfl | ⟨_, _, _, _, _, _, _, rfl⟩ <;> simp)

theorem noteFly {env : Env} {outer : List Env} {L e : Addr} {lo : Heap} {c : V} {Q : Unit → Shared → Prop} {E : Value → Shared → Prop}
    (hf : env.frame = some L) (S : Stk C A W (env :: outer)) (H : HR C W) (Fy : Fly C W lo e c) (hlos : ∀ b, W.h.get? b = none → lo.get? b = none)
    (h : ∀ W', Ext C (fun b => lo.get? b = none) W W' → HR C W' → W'.σ = W.σ → W'.ι = W.ι → Fly C W' lo e c → Q () W'.s) :
    wpAny (model C.prog C.w) A (noteFrame (.ref e) env) (fun _ s' => wpAny (model C.prog C.w) A (setFlight (.ref e) none) Q E s') E W.s := by
  refine hide fun X_ k_ => ?_
  obtain ⟨h1, h0, h2, oe, vs, de, a1, a2, a3, a4, X, tr⟩ := Fy
  refine k_ ?_
  clear k_ X_
  unfold noteFrame
  simp only [hf]
  rcases tr with tr | ⟨T, oT, ts, fr, b1, b2, b0, b3, b4, b5, b6, b7, b8⟩
  · refine wpAny_bind (wpAny_field a1 a4 tr ?_)
    rw [if_neg (by decide)]
    refine newEntryW hf S H h1 h0 h2 a1 a2 a3 a4 (Array.getElem?_eq_some_iff.mp tr).1 (by intro x q; rw [tr]; intro z; cases z) X hlos fun W' x H' e1 e2 u fy => h W' (x.mono fun b _ _ q => by subst q; exact h1) H' e1 e2 fy
  · refine wpAny_bind (wpAny_field a1 a4 b1 ?_)
    rw [if_pos (show (Value.ref T != Value.none) = true from by simp)]
    refine wpAny_bind (wpAny_field b5 b6 b7 ?_)
    rw [if_neg (show ¬ ((Value.none == rawInt L) = true) from by simp [rawInt])]
    refine wpAny_bind (wpAny_setField b5 b6 (Array.getElem?_eq_some_iff.mp b7).1 ?_)
    obtain ⟨x₁, H₁, u₁⟩ := fieldStep H b0 b3 b5 b6 (by intro x q; rw [b8]; intro z; cases z) (Obj.mapFields (·.setIfInBounds 3 Value.none)) (Obj.isFreed_of_fields (Obj.data_mapFields b6 _)) W.s.toks
    have S₁ := S.ext x₁
    have hdT : de ≠ T := fun q => by
      refine hide fun X_ k_ => ?_
      obtain ⟨_, _, _, m, y, hm, _⟩ := X
      obtain ⟨od, es, ep, e', hd'⟩ := Ns1.dict hm
      refine k_ ?_
      clear k_ X_
      rw [q, b5] at e'; cases e'; rw [b6] at hd'; cases hd'
    refine newEntryW (W := W.withHeap (W.h.update T (Obj.mapFields (·.setIfInBounds 3 Value.none))) W.s.toks) hf S₁ H₁ h1 h0 h2 ((Heap.get?_update_other _ _ b4).trans a1) a2 a3 a4 (Array.getElem?_eq_some_iff.mp b1).1 (by intro x q; rw [b1]; intro z; cases z) (X.step x₁ hdT u₁) (fun b hb => hlos b (x₁.unborn hb)) fun W' x H' e1 e2 u fy => ?_
    exact h W' ((x₁.mono fun b _ _ q => by subst q; exact b2).trans (x.mono fun b _ _ q => by subst q; exact h1)) H' e1 e2 fy
theorem leaveFly {env : Env} {outer : List Env} {L e : Addr} {lo : Heap} {c : V} {Q : Unit → Shared → Prop} {E : Value → Shared → Prop}
    (hf : env.frame = some L) (S : Stk C A W (env :: outer)) (H : HR C W) (Fy : Fly C W lo e c) (hlos : ∀ b, W.h.get? b = none → lo.get? b = none)
    (h : ∀ W', Ext C (fun b => lo.get? b = none) W W' → HR C W' → W'.σ = W.σ → W'.ι = W.ι → Fly C W' lo e c → Q () W'.s) :
    wpAny (model C.prog C.w) A (leaving env (.ref e)) Q E W.s := by
  unfold leaving
  exact wpAny_bind (noteFly hf S H Fy hlos h)
end
/-! ## Calls of the program's defs -/
noncomputable def fnA (params : List String) (g : SA) : List V → AH → Res V := fun vs σ =>
  if vs.length = params.length then (g (params.zip vs) σ).bind fun r σ => .ok (match r.1 with | .next => .none | .ret v => v) σ else .fail

theorem look_zip_mem {x : String} : ∀ {ps : List String} {vs : List V} {v : V}, look x (ps.zip vs) = some v → x ∈ ps
  | [], _, _, h => by cases h
  | p :: ps, [], _, h => by cases h
  | p :: ps, w :: vs, v, h => by
    unfold look at h
    simp only [List.zip_cons_cons] at h
    split at h
    · rename_i q; rw [← q]; exact .head _
    · exact .tail _ (look_zip_mem h)

theorem bindL_other {kd : PySem.Str → Option NameKind} {x : String} : ∀ {ps : List String} {xs : List Value} {m : PySem.Str → Option Value}, x ∉ ps → bindL kd ((ps.map sname).zip xs) m (sname x) = m (sname x)
  | [], _, _, _ => rfl
  | p :: ps, [], _, _ => rfl
  | p :: ps, y :: xs, m, h => by
    show bindL kd ((ps.map sname).zip xs) _ (sname x) = _
    rw [bindL_other (fun q => h (.tail _ q))]
    have hne : sname x ≠ sname p := fun q => h (by rw [ofString_inj q]; exact .head _)
    split
    · exact if_neg hne
    · rfl
theorem bindC_other {kd : PySem.Str → Option NameKind} {x : String} : ∀ {ps : List String} {xs : List Value} {m : PySem.Str → Option Value}, x ∉ ps → bindC kd ((ps.map sname).zip xs) m (sname x) = m (sname x)
  | [], _, _, _ => rfl
  | p :: ps, [], _, _ => rfl
  | p :: ps, y :: xs, m, h => by
    show bindC kd ((ps.map sname).zip xs) _ (sname x) = _
    rw [bindC_other (fun q => h (.tail _ q))]
    have hne : sname x ≠ sname p := fun q => h (by rw [ofString_inj q]; exact .head _)
    split
    · rfl
    · exact if_neg hne
theorem bindL_at {ι nx h} {kd : PySem.Str → Option NameKind} {x : String} : ∀ {ps : List String} {vs : List V} {xs : List Value} {m : PySem.Str → Option Value} {v : V}, ps.Nodup → VsR ι nx h vs xs → look x (ps.zip vs) = some v → kd (sname x) = some .local →
    ∃ y, bindL kd ((ps.map sname).zip xs) m (sname x) = some y ∧ VR ι nx h v y
  | [], _, _, _, _, _, _, e, _ => by cases e
  | p :: ps, _, _, _, _, _, .nil, e, _ => by cases e
  | p :: ps, _, _, m, v, hn, .cons v0 y0 vs xs hv hs, e, hk => by
    unfold look at e
    simp only [List.zip_cons_cons] at e
    show ∃ y, bindL kd ((ps.map sname).zip xs) _ (sname x) = some y ∧ _
    obtain ⟨n1, n2⟩ := List.nodup_cons.mp hn
    split at e
    · rename_i q
      cases e; subst q
      rw [bindL_other n1, if_pos hk, if_pos rfl]
      exact ⟨_, rfl, hv⟩
    · exact bindL_at n2 hs e hk
theorem bindC_at {ι nx h} {kd : PySem.Str → Option NameKind} {x : String} : ∀ {ps : List String} {vs : List V} {xs : List Value} {m : PySem.Str → Option Value} {v : V}, ps.Nodup → VsR ι nx h vs xs → look x (ps.zip vs) = some v → kd (sname x) ≠ some .local →
    ∃ y, bindC kd ((ps.map sname).zip xs) m (sname x) = some y ∧ VR ι nx h v y
  | [], _, _, _, _, _, _, e, _ => by cases e
  | p :: ps, _, _, _, _, _, .nil, e, _ => by cases e
  | p :: ps, _, _, m, v, hn, .cons v0 y0 vs xs hv hs, e, hk => by
    unfold look at e
    simp only [List.zip_cons_cons] at e
    show ∃ y, bindC kd ((ps.map sname).zip xs) _ (sname x) = some y ∧ _
    obtain ⟨n1, n2⟩ := List.nodup_cons.mp hn
    split at e
    · rename_i q
      cases e; subst q
      rw [bindC_other n1, if_neg hk, if_pos rfl]
      exact ⟨_, rfl, hv⟩
    · exact bindC_at n2 hs e hk

theorem Room.deeper {A : Around} {k : Nat} (R : Room A (k + 1)) (env : Env) : Room (A.deeper env) k :=
  ⟨by have := R.depth; show A.depth + 1 + k < _; lia, by have := R.units; show A.units + 3 + 5 * k + 100 < _; lia, R.hand⟩
theorem Room.le {A : Around} {j k : Nat} (R : Room A k) (h : j ≤ k) : Room A j :=
  ⟨by have := R.depth; lia, by have := R.units; lia, R.hand⟩
theorem Stk.push {C : Cx} {A : Around} {W : Wd} {outer : List Env} (S : Stk C A W outer) {env : Env} {m : PySem.Str → Option Value} (hk : env.scope.kind = .function) (hf : env.frame = some env.locals) (h0 : C.out env.locals) (hap : ∀ n, n < W.nx → W.ι n ≠ env.locals) (hn : W.h.Ns env.locals m) :
    Stk C (A.deeper env) W (env :: outer) := by
  refine ⟨Around.frames_deeper S.eq, fun e he => ?_⟩
  rcases List.mem_cons.mp he with rfl | he
  · obtain ⟨o, es, ep, e1, e2, _⟩ := hn
    exact ⟨by rw [hk]; decide, _, o, hf, h0, hap, e1, es, ep, e2⟩
  · exact S.at_ e he
theorem HR.nolimit {C : Cx} {W : Wd} (H : HR C W) : W.h.NoLimit := C.T.nolimit.keeps H.keep

/-- what the frame of a call owns is new -/
theorem own_new {W : Wd} {fd : FuncData} {a : Addr} : ∀ b o, W.h.get? b = some o → Own (callEnvC fd W.h.objs.size a) b → False := by
  rintro b o hb (rfl | ⟨y, hy⟩)
  · exact Nat.lt_irrefl _ (Heap.lt_size hb)
  · have : ∀ (names : List (PySem.Str × NameKind)) (n : Nat) (acc : List (PySem.Str × Addr)), W.h.objs.size ≤ n → (∀ z ∈ acc, W.h.objs.size ≤ z.2) → ∀ z ∈ cellsFrom n names acc, W.h.objs.size ≤ z.2 := by
      intro names
      induction names with
      | nil => intro n acc _ h; exact h
      | cons q r ih =>
        intro n acc hn h
        unfold cellsFrom
        split
        · refine ih (n + 1) _ (Nat.le_succ_of_le hn) fun z hz => ?_
          rcases List.mem_cons.mp hz with rfl | hz
          · exact hn
          · exact h z hz
        · exact ih n acc hn h
    exact absurd (Heap.lt_size hb) (Nat.not_lt.mpr (this _ _ [] (Nat.le_succ _) (fun _ h => nomatch h) _ (mem_of_lookup hy)))

theorem enterFn {C : Cx} {k : Nat} {f : Addr} {fd : FuncData} {o : Obj} {params : List String} {body : List Stmt} {g : SA} {A : Around} {W : Wd} {vs : List V} {xs : List Value} {outer : List Env} {R : Result → Shared → Prop}
    (Rm : Room A (k + 1)) (H : HR C W) (S : Stk C A W outer) (rv : W.VsR vs xs)
    (ho : W.h.get? f = some o) (hd : o.data = .func fd) (hcd : W.h.CodeRec fd.code fd.qualname) (hbody : fd.body = .stmts body) (hglob : fd.globals = mainGlobals) (hblt : fd.builtins = builtinsNs)
    (hclo : fd.closure = [])
    (hbind : bindArgs fd ⟨xs, []⟩ = pure ((params.map sname).zip xs))
    (hkind : (params.all fun p => fd.scope.names.lookup (sname p) == some .local || fd.scope.names.lookup (sname p) == some .cell) = true)
    (hnd : params.Nodup) (hco : fd.scope.isCoroutine = false) (hgen : fd.scope.isGenerator = false) (hk : fd.scope.kind = .function) (hb : SB C k fd.scope body g) (hcodeOk : C.codeOk fd.scope fd.code (fd.qualname ++ ".<locals>."))
    (hK : K C noOwn vrel ((g (params.zip vs) W.σ).bind fun r σ => .ok (match r.1 with | .next => .none | .ret v => v) σ) W (fun v s' => R (.ok (.ret v)) s') (fun e s' => R (.error e) s')) :
    codeAny (model C.prog C.w) A (.call (.ref f) ⟨xs, []⟩) R W.s := by
  have hkd : ∀ p ∈ params, fd.scope.names.lookup (sname p) = some .local ∨ fd.scope.names.lookup (sname p) = some .cell := fun p hp =>
    (Bool.or_eq_true_iff.mp (List.all_eq_true.mp hkind p hp)).imp beq_iff_eq.mp beq_iff_eq.mp
  refine codeAny_call_cells (by have := Rm.depth; lia) ho hd H.nolimit hcd hbody hbind hclo ?_ ?_ hco hgen hk
  · intro x hx
    obtain ⟨p, hp, hpe⟩ : ∃ p ∈ params, sname p = x.1 := by
      have := (List.of_mem_zip hx).1
      obtain ⟨p, hp, e⟩ := List.mem_map.mp this
      exact ⟨p, hp, e⟩
    rw [← hpe]
    exact (hkd p hp).imp id fun q => ⟨q, cellsFrom_some _ _ _ (.inl q)⟩
  intro s₁ ic
  obtain ⟨h1, tk, rfl⟩ := ic.toInCall.same
  have x₁ : Ext C noOwn W (W.withHeap h1 tk) := Ext.grow tk ic.toInCall.keep
  have H₁ : HR C (W.withHeap h1 tk) := H.grow tk ic.toInCall.keep
  have rv₁ : (W.withHeap h1 tk).VsR vs xs := VsR.up x₁ H rv
  have apL : ∀ n, n < W.nx → W.ι n ≠ W.h.objs.size := newAp H
  have outL : C.out W.h.objs.size := H.out (Heap.get?_none_of_le (Nat.le_refl _))
  have S₁ := (S.ext x₁).push (env := callEnvC fd W.h.objs.size f) hk rfl outL apL ic.toInCall.ns
  have Rm' := Rm.deeper (callEnvC fd W.h.objs.size f)
  have F : FR C (callEnvC fd W.h.objs.size f) (A.deeper (callEnvC fd W.h.objs.size f)) (W.withHeap h1 tk) (params.zip vs) := by
    refine ⟨hk, hglob, hblt, ⟨_, ic.toInCall.ns, fun x v e hl => ?_⟩, fun x v e hl => ?_, ⟨outL, apL⟩, fun y c hc => ?_, fun y z c h1 h2 => name_of_addr ic.apart (mem_of_lookup h1) (mem_of_lookup h2), fun y hy => cellsFrom_some _ _ _ (.inl hy), ⟨_, S₁⟩⟩
    · exact bindL_at hnd rv₁ e hl
    · have hp := look_zip_mem e
      have hc : (callEnvC fd W.h.objs.size f).kindOf (sname x) = some .cell := (hkd x hp).resolve_left hl
      obtain ⟨y, h2, h3⟩ := bindC_at (m := fun _ => none) hnd rv₁ e hl
      obtain ⟨c, h4⟩ := Option.isSome_iff_exists.mp (cellsFrom_some (x := sname x) fd.scope.names (W.h.objs.size + 1) [] (.inl hc))
      exact ⟨.inl hc, c, y, h4, h2 ▸ ic.cell _ c h4, h3⟩
    · have hgt := ic.above y c (mem_of_lookup hc)
      refine ⟨H.out (Heap.get?_none_of_le (Nat.le_of_lt hgt)), Nat.ne_of_gt hgt, fun n hn => let ⟨_, e⟩ := H.below n hn; Nat.ne_of_lt (Nat.lt_trans (Heap.lt_size e) hgt), _, ic.cell y c hc⟩
  have own' := own_new (W := W) (fd := fd) (a := f)
  refine hb _ _ (W.withHeap h1 tk) _ ⟨⟨rfl, hcodeOk⟩, Rm', H₁, F⟩ _ _ ?_
  cases hg : g (params.zip vs) W.σ with
  | ok r σ' =>
    obtain ⟨fl, ρ'⟩ := r
    rw [hg] at hK
    intro a W' x' H' e' r'
    have xx : Ext C noOwn W W' := ((x₁.mono fun _ _ _ q => q.elim).trans x').mono own'
    obtain ⟨_, r'⟩ := r'
    cases fl with
    | next => cases r'; exact hK _ W' xx H' e' .none
    | ret v => obtain ⟨y, rfl, rv'⟩ := r'; exact hK _ W' xx H' e' rv'
  | exc c σ' =>
    rw [hg] at hK
    intro e W' x' H' e' fy
    have xx : Ext C noOwn W W' := ((x₁.mono fun _ _ _ q => q.elim).trans x').mono own'
    have S' := S₁.ext x'
    refine leaveFly (lo := (W.withHeap h1 tk).h) rfl S' H' fy (fun _ => x'.unborn) fun W'' x'' H'' e1 e2 fy' => ?_
    have y : Ext C (fun b => W.h.get? b = none) W W'' := (xx.mono fun _ _ _ q => q.elim).trans (x''.mono fun b _ hb q => x₁.unborn q)
    exact hK e W'' (y.mono fun b o hb q => by rw [hb] at q; cases q) H'' (e1.trans e') (fy'.weak fun _ => x₁.unborn)
  | fail => rw [hg] at hK; exact hK.elim

theorem FJ_def {C : Cx} {k : Nat} {fa : Addr} {params : List String} {g : SA} {name qual : PySem.Str} {prm : Arguments} {body : List Stmt} {scope : Scope} {dV kV doc pm cdv ct oc : Value} {an od : Option Addr} {osl : Array (Option Value)}
    (ho : C.K.lookup fa = some ⟨oc, od, .func (fnOf name qual prm body scope dV kV doc pm an cdv ct), osl⟩) (hcd : codeIn C.K cdv qual = true)
    (hbind : ∀ xs : List Value, xs.length = params.length → bindArgs (fnOf name qual prm body scope dV kV doc pm an cdv ct) ⟨xs, []⟩ = pure ((params.map sname).zip xs))
    (hkind : (params.all fun p => scope.names.lookup (sname p) == some .local || scope.names.lookup (sname p) == some .cell) = true)
    (hnd : params.Nodup) (hco : scope.isCoroutine = false) (hgen : scope.isGenerator = false) (hk : scope.kind = .function) (hb : SB C k scope body g) (hcodeOk : C.codeOk scope cdv (qual ++ ".<locals>.")) : FJ C (k + 1) fa (fnA params g) := by
  intro A W vs xs Rm H ⟨outer, S⟩ rv Q E hK
  unfold fnA at hK
  split at hK
  · rename_i hlen
    refine enterFn (fd := fnOf name qual prm body scope dV kV doc pm an cdv ct) Rm H S rv (H.keep _ _ (C.X _ _ ho)) rfl (codeRec_of (C.X.keeps H.keep) hcd) rfl rfl rfl rfl (hbind xs (by rw [← rv.length]; exact hlen)) hkind hnd hco hgen hk hb hcodeOk ?_
    exact hK
  · exact hK.elim

/-- a call of a def by its name -/
noncomputable def eFn (F : List V → AH → Res V) (l : LA) : EA := fun ρ σ => (l ρ σ).bind F
section
variable {C : Cx} {k : Nat} {sc : Scope}
theorem globalName {env A W ρ} {x : String} {p : Pos} {v : Value} (H : Here C k sc env A W ρ) (hg : sc.names.lookup (sname x) = some .globalImplicit) (hm : nsIn C.K mainGlobals (sname x) = some (some v))
    (hd : (sname x == ("__debug__" : PySem.Str)) = false) {Q : Value → Shared → Prop} {E} (h : Q v W.s) : wpAny (model C.prog C.w) A (eval (.Name (PySem.Str.ofString x) p) env) Q E W.s := by
  refine wpAny_Name (ks_loadName_global H.fr.kind (by show env.scope.names.lookup _ = _; rw [H.sc.1]; exact hg) ?_) hd
  unfold loadGlobal
  rw [H.fr.glob]
  refine wpAny_bind (wpAny_nsGet (C.T.g.keeps H.hr.keep) ?_)
  rw [mg_of C.X C.T.g hm]
  exact wpAny_pure h
theorem builtinName {env A W ρ} {x : String} {p : Pos} {v : Value} (H : Here C k sc env A W ρ) (hg : sc.names.lookup (sname x) = some .globalImplicit) (hm : nsIn C.K mainGlobals (sname x) = some none) (hv : bootBuiltins (sname x) = some v) (hn : (sname x) ≠ "__name__")
    (hd : (sname x == ("__debug__" : PySem.Str)) = false) {Q : Value → Shared → Prop} {E} (h : Q v W.s) : wpAny (model C.prog C.w) A (eval (.Name (PySem.Str.ofString x) p) env) Q E W.s := by
  refine wpAny_Name (ks_loadName_global H.fr.kind (by show env.scope.names.lookup _ = _; rw [H.sc.1]; exact hg) ?_) hd
  unfold loadGlobal
  rw [H.fr.glob, H.fr.blt]
  refine wpAny_bind (wpAny_nsGet (C.T.g.keeps H.hr.keep) ?_)
  rw [mg_none_of C.X C.T.g hm]
  refine wpAny_bind (wpAny_nsGet (C.T.b.keeps H.hr.keep) ?_)
  rw [C.T.builtins _ hn, hv]
  exact wpAny_pure h

theorem SE_call {j : Nat} {x : String} {fa : Addr} {F : List V → AH → Res V} {e : Expr} {r : List Expr} {l : LA} {p pn : Pos} (hF : FJ C j fa F) (hl : SL C k sc (e :: r) l) (hj : j ≤ k) (hg : sc.names.lookup (sname x) = some .globalImplicit)
    (hm : nsIn C.K mainGlobals (sname x) = some (some (.ref fa))) (hkeep : keepIn C.K (.ref fa) = true) (hd : (sname x == ("__debug__" : PySem.Str)) = false)
    (he : ∀ env, starEach (e :: r) env = (false, eval e env) :: starEach r env := by intro _; rfl) (hp : ∀ env, (backTo p (starEach r env)).any (·.1) = false := by intro _; rfl) :
    SE C k sc (.Call (.Name (PySem.Str.ofString x) pn) (e :: r) [] p) (eFn F l) := fun env A W ρ H Q E hk => by
  show wpAny _ A (do callWith p (← eval (.Name (PySem.Str.ofString x) pn) env) [] (backTo p (starEach (e :: r) env)) (backToKw p (keywordEach [] env))) Q E W.s
  refine wpAny_bind (globalName H hg hm hd ?_)
  show wpAny _ A (callWith p (.ref fa) [] (backTo p (starEach (e :: r) env)) []) Q E W.s
  refine callWith_K C.X hkeep (hl env A W ρ p H _ _ (K.bind hk (fun _ => id) fun xs vs σ₁ W₁ _ x₁ H₁ _ r₁ hk₁ => ⟨C.X.keeps H₁.keep, ?_⟩)) (he env) (hp env)
  obtain ⟨outer, S⟩ := H.fr.stk
  exact wpAny_call (hF A W₁ vs xs (H.room.le hj) H₁ ⟨outer, S.ext x₁⟩ r₁ _ _ hk₁)
end
/-! ## Attributes of the Space -/
theorem isStr_sname (x z : String) (t : Tok) : (Value.str (sname z) t).isStr (sname x) = decide (z = x) := by
  show (sname z == sname x) = _
  by_cases h : z = x
  · subst h; simp
  · rw [decide_eq_false h]; exact beq_eq_false_iff_ne.mpr fun q => h (ofString_inj q)

theorem FsR.get {W : Wd} {P : Params} {x : String} {v : V} : ∀ {fs : List (String × V)} {es : List DictEntry}, FsR W P fs es → look x fs = some v → ∃ y, getL (sname x) es = some (some y) ∧ W.VR v y := fun {fs es} h e => by
  cases h with
  | nil => cases e
  | cons z u en t l es hk hh hv hr =>
    unfold look at e
    unfold getL
    rw [List.find?_cons, hk, isStr_sname]
    by_cases h : z = x
    · rw [if_pos h] at e; cases e
      rw [decide_eq_true h]
      exact ⟨_, rfl, hv⟩
    · rw [if_neg h] at e
      obtain ⟨y, q, r⟩ := FsR.get hr e
      refine ⟨y, ?_, r⟩
      unfold getL at q
      rw [decide_eq_false h]
      dsimp only
      have e0 : (en :: es).any (fun e => e.refKey) = es.any (fun e => e.refKey) := by rw [List.any_cons]; simp [DictEntry.refKey, hk]
      rw [e0]; exact q
theorem FsR.noRef {W : Wd} {P : Params} : ∀ {fs : List (String × V)} {es : List DictEntry}, FsR W P fs es → es.any (·.refKey) = false := fun {fs es} h => by
  cases h with
  | nil => exact rfl
  | cons z u en t l es hk hh hv hr => rw [List.any_cons, hr.noRef]; simp [DictEntry.refKey, hk]
theorem FsR.length {W : Wd} {P : Params} : ∀ {fs : List (String × V)} {es : List DictEntry}, FsR W P fs es → es.length = fs.length := fun {fs es} h => by
  cases h with
  | nil => exact rfl
  | cons z u en t l es hk hh hv hr => simp [hr.length]
theorem FsR.put {W : Wd} {P : Params} {x : String} {v : V} {y : Value} {tk : Tok} (r : W.VR v y) : ∀ {fs : List (String × V)} {es : List DictEntry}, FsR W P fs es → FsR W P (put x v fs) (putL (sname x) (PyData.keyHash P (sname x)) (.str (sname x) tk) y es) := fun {fs es} hx => by
  cases hx with
  | nil => exact .cons x v _ tk [] [] rfl rfl r .nil
  | cons z u en t l es hk hh hv hr =>
    unfold Mine.put putL
    rw [hk, isStr_sname]
    by_cases h : z = x
    · subst h
      rw [if_pos rfl, decide_eq_true rfl]
      exact .cons z v _ t _ _ rfl hh r hr
    · rw [if_neg h, decide_eq_false h]
      exact .cons z u en t _ _ hk hh hv (FsR.put r hr)
theorem putL_length (n : PySem.Str) (h : Int) (k v : Value) : ∀ es : List DictEntry, (putL n h k v es).length ≤ es.length + 1
  | [] => by simp [putL]
  | e :: r => by unfold putL; split <;> simp <;> (try exact putL_length n h k v r)

theorem VR.handed {ι nx h} {v : V} {y : Value} (r : VR ι nx h v y) : handedIn y = true := by cases r <;> rfl

noncomputable def vAttr (x : String) (v : V) (σ : AH) : Res V := match v with
  | .ref n => match σ[n]? with
    | some (.inst fs) => match look x fs with
      | some v => .ok v σ
      | none => .fail
    | _ => .fail
  | _ => .fail
noncomputable def eAttr (x : String) (f : EA) : EA := fun ρ σ => (f ρ σ).bind (vAttr x)

section
variable {C : Cx} {k : Nat} {sc : Scope}
theorem instAt {W : Wd} {n : Nat} {fs : List (String × V)} (H : HR C W) (hn : W.σ[n]? = some (.inst fs)) : ∃ es ep, InstAt W.h (W.ι n) (instObj C.spaceC (W.ι (n + 1))) C.spaceC (some (dictOf es ep)) ∧ W.h.get? (W.ι (n + 1)) = some (dictOf es ep) ∧ FsR W C.w.params fs es := by
  refine hide fun X_ k_ => ?_
  obtain ⟨es, ep, _, h1, h2, h3⟩ := H.obj n _ hn
  refine k_ ?_
  clear k_ X_
  exact ⟨es, ep, ⟨h1, rfl, rfl, h2⟩, h2, h3⟩
theorem getAttrP {A : Around} {W : Wd} {x : String} {v : V} {y : Value} {b : Bool} (hx : x ∈ spaceFields) (H : HR C W) (r : W.VR v y) : TJ C noOwn vrel A (getAttr y (sname x) b) (vAttr x v W.σ) W := by
  intro Q E hk
  unfold vAttr at hk
  split at hk
  · split at hk
    · rename_i n fs hn
      cases r
      refine hide fun X_ k_ => ?_
      obtain ⟨es, ep, I, _, hf⟩ := instAt H hn
      refine k_ ?_
      clear k_ X_
      split at hk
      · rename_i u hu
        obtain ⟨z, q, r'⟩ := hf.get hu
        exact get_value (C.X.keeps H.keep) I (plainGet_of (show plainGet C.K C.spaceC (sname x) = true from C.spG)).1 (findObj_own C.spH (C.spF x hx) rfl (by rw [lookIn_dict]; exact q)) r'.handed (hk.tok H _ r')
      · exact hk.elim
    · exact hk.elim
  · exact hk.elim
theorem SE_attr {x : String} {e : Expr} {f : EA} {p : Pos} (hf : SE C k sc e f) (hx : x ∈ spaceFields) (he : ∀ env, eval (.Attribute e (PySem.Str.ofString x) p) env = (do
      let o ← eval e env
      standAt p.atName
      let r ← holding [o] (getAttr o (PySem.Str.ofString x) true)
      letTemporaryGo e o r
      pure r) := by intro _; with_unfolding_all rfl) : SE C k sc (.Attribute e (PySem.Str.ofString x) p) (eAttr x f) := fun env A W ρ H Q E hk =>
  Attribute_any_ (hf env A W ρ H _ _ (K.bind hk (fun _ => id) fun y v σ₁ W₁ _ x₁ H₁ _ r₁ hk₁ => getAttrP hx H₁ r₁ _ _ hk₁)) (he env)

noncomputable def vSetAttr (x : String) (o v : V) (σ : AH) : Res Unit := match o with
  | .ref n => match σ[n]? with
    | some (.inst fs) => if fs.length ≤ 50 then .ok () (σ.set n (.inst (put x v fs))) else .fail
    | _ => .fail
  | _ => .fail
noncomputable abbrev urel : Wd → Unit → Unit → Prop := fun _ _ _ => True

theorem setAttrP {A : Around} {W : Wd} {x : String} {o v : V} {yo y : Value} (hx : x ∈ spaceFields) (H : HR C W) (ro : W.VR o yo) (r : W.VR v y) : TJ C noOwn urel A (setAttr yo (sname x) y) (vSetAttr x o v W.σ) W := by
  intro Q E hk
  unfold vSetAttr at hk
  split at hk
  · split at hk
    · rename_i n _ fs hn
      split at hk
      · rename_i hlen
        cases ro
        refine hide fun X_ k_ => ?_
        obtain ⟨es, ep, I, hdx, hf⟩ := instAt H hn
        refine k_ ?_
        clear k_ X_
        have X := C.X.keeps H.keep
        refine set_plain X I C.spSet (osa_open (s := { W.s with toks := W.s.toks + 1 }) X I C.spO (r := none) (by unfold takerIn; rw [C.spF x hx]; rfl) fun b => ?_)
        obtain ⟨cd, hc, hd'⟩ := any_some C.spH
        have hx0 := I.at_
        refine wpAny_bind (wpAny_pure (wpAny_bind (wpAny_bind (wpAny_loadPart hx0 (wpAny_bind (Looks.here (s := { W.s with toks := W.s.toks + 1 }) (looks_clsIn X hc) ?_))))))
        rw [hd']
        refine wpAny_pure (a := some (W.ι (n + 1))) (wpAny_bind (wpAny_pure (wpAny_bind ?_)))
        unfold nsSet
        refine wpAny_bind (wpAny_bind (wpAny_askSetting (wpAny_pure (wpAny_bind (wpAny_mkText (wpAny_bind (wpAny_loadPart hdx ?_)))))))
        have c : (!(es.toArray).any (·.key.isStr (sname x)) && (es.toArray).any (·.refKey)) = false := by
          have e0 : (es.toArray).any (·.refKey) = false := by rw [← Array.any_toList]; exact hf.noRef
          rw [e0, Bool.and_false]
        dsimp only
        rw [aRefKeyMayBeTheName_at, c]
        refine wpAny_updatePart hdx ?_
        have e1 := putName_dict (sname x) (PyData.keyHash C.w.params (sname x)) (.str (sname x) (W.s.toks + 1)) y es ep
        have hget : (W.h.update (W.ι (n + 1)) (Obj.putName (sname x) (PyData.keyHash C.w.params (sname x)) (.str (sname x) (W.s.toks + 1)) y)).get? (W.ι (n + 1)) = some (dictOf (putL (sname x) (PyData.keyHash C.w.params (sname x)) (.str (sname x) (W.s.toks + 1)) y es) (putN (sname x) es ep)) := by
          rw [← e1]; exact Heap.get?_update_self _ hdx (by rw [e1]; rfl)
        refine wpAny_bind (wpAny_lookBehind hget (pastItsLine_dict ?_) ?_)
        · rw [List.size_toArray, sizeLine_eq]
          have := putL_length (sname x) (PyData.keyHash C.w.params (sname x)) (.str (sname x) (W.s.toks + 1)) y es
          have := hf.length
          lia
        have sb := Heap.SameBut.update W.h (W.ι (n + 1)) (Obj.putName (sname x) (PyData.keyHash C.w.params (sname x)) (.str (sname x) (W.s.toks + 1)) y)
        refine hide fun X_ k_ => ?_
        obtain ⟨_, _, h0, _, _, _⟩ := H.obj n _ hn
        refine k_ ?_
        clear k_ X_
        have hlt : n < W.nx := by rcases List.getElem?_eq_some_iff.mp hn with ⟨a1, _⟩; exact a1
        have hlt1 : n + 1 < W.nx := by rcases List.getElem?_eq_some_iff.mp h0 with ⟨a1, _⟩; exact a1
        have xx : Ext C noOwn W (W.upd n (.inst (put x v fs)) (W.h.update (W.ι (n + 1)) (Obj.putName (sname x) (PyData.keyHash C.w.params (sname x)) (.str (sname x) (W.s.toks + 1)) y)) (W.s.toks + 2)) := Ext.upd _ hlt1 sb ⟨_, hget⟩
        refine wpAny_pure (hk () (W.upd n (.inst (put x v fs)) (W.h.update (W.ι (n + 1)) (Obj.putName (sname x) (PyData.keyHash C.w.params (sname x)) (.str (sname x) (W.s.toks + 1)) y)) (W.s.toks + 2)) xx (H.updI _ hn sb ⟨_, hget⟩ ?_) rfl trivial)
        refine ⟨_, _, ?_, ?_, hget, FsR.up (fun _ _ => VR.up xx H) (hf.put r)⟩
        · rw [show (W.upd n (.inst (put x v fs)) (W.h.update (W.ι (n + 1)) (Obj.putName (sname x) (PyData.keyHash C.w.params (sname x)) (.str (sname x) (W.s.toks + 1)) y)) (W.s.toks + 2)).σ = W.σ.set n (.inst (put x v fs)) from rfl, List.getElem?_set_ne (by lia)]; exact h0
        · exact (sb.2 _ (fun q => by have := H.inj n (n + 1) hlt hlt1 q; lia)).trans hx0
      · exact hk.elim
    · exact hk.elim
  · exact hk.elim

noncomputable def gAttr (x : String) (f : EA) : GA := fun v ρ σ => (f ρ σ).bind fun o σ => (vSetAttr x o v σ).bind fun _ σ => .ok ρ σ
theorem SG_attr {x : String} {e : Expr} {f : EA} {p : Pos} (hf : SE C k sc e f) (hx : x ∈ spaceFields) : SG C k sc (.Attribute e (PySem.Str.ofString x) p) (gAttr x f) := fun env A W ρ v y H r Q E hk => by
  show wpAny _ A (do
    let ov ← holding [y] (eval e env)
    standAt p.atName
    holding [y, ov] (setAttr ov (PySem.Str.ofString x) y)
    release [y, ov] []) Q E W.s
  refine wpAny_bind (wpAny_holding (hf env A W ρ H _ _ (K.bind hk (fun _ => False.elim) fun yo o σ₁ W₁ _ x₁ H₁ _ r₁ hk₁ => ?_)))
  refine wpAny_bind (wpAny_standAt (wpAny_bind (wpAny_holding (setAttrP hx H₁ r₁ (VR.up x₁ H.hr r) _ _ (K.bind hk₁ (fun _ => False.elim) fun _ _ σ₂ W₂ _ x₂ H₂ _ r₂ hk₂ => wpAny_release ?_)))))
  exact hk₂.here H₂ ((H.fr.ext H.hr x₁).ext H₁ x₂)

/-- o.x op= f -/
noncomputable def sAug (x : String) (op : Op2) (o f : EA) : SA := fun ρ σ => (o ρ σ).bind fun o σ => (vAttr x o σ).bind fun old σ => (f ρ σ).bind fun v σ => (op old v σ).bind fun new σ => (vSetAttr x o new σ).bind fun _ σ => .ok (.next, ρ) σ
noncomputable def InpR (C : Cx) (o : Operator) (op : Op2) : Prop := ∀ k A W a b x y, Room A k → HR C W → W.VR a x → W.VR b y → TJ C noOwn vrel A (inplaceOp o x y) (op a b W.σ) W
noncomputable def vIAdd : Op2 := fun a b σ => match a, b with
  | .int a, .int b => .ok (.int (a + b)) σ
  | _, _ => .fail
theorem iaddR : InpR C .Add vIAdd := by
  intro k A W a b x y R H ra rb Q E hk
  unfold vIAdd at hk
  split at hk
  · cases ra; cases rb
    exact PyProof.Rows.iadd_int (hk.tok H _ (.int _ _))
  · exact hk.elim
theorem isubR : InpR C .Sub vSub := by
  intro k A W a b x y R H ra rb Q E hk
  unfold vSub at hk
  split at hk
  · cases ra; cases rb
    exact PyProof.Rows.isub_int (hk.tok H _ (.int _ _))
  · exact hk.elim
theorem SS_aug {x : String} {o e : Expr} {op : Operator} {p tp : Pos} {fo f : EA} {vop : Op2} (hx : x ∈ spaceFields) (ho : SE C k sc o fo) (hf : SE C k sc e f) (hop : InpR C op vop) :
    SS C k sc (.AugAssign (.Attribute o (PySem.Str.ofString x) tp) op e p) (sAug x vop fo f) := fun env A W ρ H Q E hk => by
  refine PySem.wpAny_AugAssign_AttributeAny (ho env A W ρ H _ _ (K.bind hk (fun _ => False.elim) fun yo vo σ₁ W₁ _ x₁ H₁ _ r₁ hk₁ => ?_))
  refine getAttrP hx H₁ r₁ _ _ (K.bind hk₁ (fun _ => False.elim) fun y v σ₂ W₂ _ x₂ H₂ _ r₂ hk₂ => ?_)
  have h2 := (H.ext x₁ H₁).ext x₂ H₂
  refine hf env A W₂ ρ h2 _ _ (K.bind hk₂ (fun _ => False.elim) fun z u σ₃ W₃ _ x₃ H₃ _ r₃ hk₃ => ?_)
  refine hop k A W₃ _ _ _ _ H.room H₃ (VR.up x₃ H₂ r₂) r₃ _ _ (K.bind hk₃ (fun _ => False.elim) fun z' u' σ₄ W₄ _ x₄ H₄ _ r₄ hk₄ => ?_)
  refine setAttrP hx H₄ (VR.up x₄ H₃ (VR.up x₃ H₂ (VR.up x₂ H₁ r₁))) r₄ _ _ (K.bind hk₄ (fun _ => False.elim) fun _ _ σ₅ W₅ _ x₅ H₅ _ r₅ hk₅ => ?_)
  exact hk₅.here H₅ ⟨(((h2.fr.ext H₂ x₃).ext H₃ x₄).ext H₄ x₅), rfl⟩
end
/-! ## Subscripts -/
noncomputable def lidx {α : Type} (l : List α) (i : Int) : Option α := if 0 ≤ i then l[i.toNat]? else if -(l.length : Int) ≤ i then l[(i + l.length).toNat]? else none
noncomputable def vGet (a b : V) (σ : AH) : Res V := match b with
  | .int i => if i.natAbs ≤ 1000000 then
      match a with
      | .tup l => if 0 ≤ i then (match l[i.toNat]? with | some v => .ok v σ | none => .fail) else .fail
      | .str l => if 0 ≤ i then (match l[i.toNat]? with | some c => .ok (.str [c]) σ | none => .fail) else .fail
      | a => match (listAt σ a).bind (lidx · i) with
        | some v => .ok v σ
        | none => .fail
    else .fail
  | .str k => match (dictAt σ a).bind (dlook k) with
    | some v => .ok v σ
    | none => .fail
  | _ => .fail
theorem tup_is {W : Wd} {l : List V} {x : Value} (r : W.VR (.tup l) x) : ∃ a vs, x = .ref a ∧ IsTup W.h a (List.toArray vs) ∧ W.VsR l vs := by
  cases r with
  | tup l vs a ep ho ha hv => exact ⟨a, vs, rfl, ⟨_, ho, rfl, ep, rfl⟩, hv⟩

theorem seqIndex_nat {i : Int} {n : Nat} (h : 0 ≤ i) (hlt : i.toNat < n) : seqIndex? i n = some i.toNat := by
  unfold seqIndex?
  have h1 : ¬ i < 0 := by lia
  have h2 : i < (n : Int) := by lia
  simp [h1, h, h2]

section
variable {C : Cx} {k : Nat} {sc : Scope}
theorem tailP {A : Around} {W : Wd} {value slice : Expr} {a b : V} {x y : Value} (R : Room A k) (H : HR C W) (ra : W.VR a x) (rb : W.VR b y) (hs : ∀ o i, subscripted slice false o i = operate [o, i] (getItem o i)) :
    TJ C noOwn vrel A (subscriptTail value slice x y) (vGet a b W.σ) W := by
  intro Q E hk
  unfold vGet at hk
  split at hk
  · rename_i i
    split at hk
    · rename_i hi
      cases rb
      split at hk
      · split at hk
        · rename_i l h0
          split at hk
          · rename_i v e
            obtain ⟨ad, vs, rfl, h1, h2⟩ := tup_is ra
            obtain ⟨z, e2, rz⟩ := h2.get _ _ e
            have hlt : i.toNat < vs.length := by rcases List.getElem?_eq_some_iff.mp e2 with ⟨a, _⟩; exact a
            exact item_tupleT h1 (by lia) (by lia) (seqIndex_nat h0 hlt) e2 (hk.here H rz) (hs _ _)
          · exact hk.elim
        · exact hk.elim
      · split at hk
        · rename_i l h0
          split at hk
          · rename_i c e
            cases ra
            have hlt : i.toNat < l.length := by rcases List.getElem?_eq_some_iff.mp e with ⟨a, _⟩; exact a
            refine tail_any (typeIs_str _ _ _) PySem.F.slot_str_getitem.lookup (PySem.P.getItem_str (c := c) (by simp; lia) ?_ ?_) (hs _ _)
            · rw [seqIndex_nat h0 (by simpa [PySem.Str.length] using hlt)]
              simpa using e
            · exact hk.tok H _ (.str _ _)
          · exact hk.elim
        · exact hk.elim
      · split at hk
        · rename_i v e
          obtain ⟨l, e1, e2⟩ := Option.bind_eq_some_iff.mp e
          obtain ⟨ad, vs, rfl, h1, h2⟩ := listAt_is H ra e1
          have hlen := h2.length
          unfold lidx at e2
          split at e2
          · obtain ⟨z, e3, rz⟩ := h2.get _ _ e2
            exact tail_any h1.typeIs slot_list_getitem.lookup (wpAny_getItem_list h1 (by assumption) (by lia) (by simpa using e3) (hk.here H rz)) (hs _ _)
          · split at e2
            · obtain ⟨z, e3, rz⟩ := h2.get _ _ e2
              refine tail_any h1.typeIs slot_list_getitem.lookup (wpAny_getItem_list_neg h1 (by lia) (by rw [List.size_toArray, ← hlen]; assumption) (by lia) ?_ (hk.here H rz)) (hs _ _)
              rw [List.size_toArray, ← hlen]; simpa using e3
            · cases e2
        · exact hk.elim
    · exact hk.elim
  · rename_i kk
    split at hk
    · rename_i v e
      obtain ⟨l, e1, e2⟩ := Option.bind_eq_some_iff.mp e
      obtain ⟨n, kvs, rfl, hn, rfl, h1, h2⟩ := dictAt_is H ra e1
      cases rb
      rcases h2.valueAt (k := kk) with ⟨q1, _⟩ | ⟨v', z, q1, q2, rz⟩
      · rw [e2] at q1; cases q1
      · rw [e2] at q1; cases q1
        exact tail_any h1.typeIs slot_dict_getitem.lookup (wpAny_getItem_of (strKind_is C.prog C.w _ _) h1.mapOf q2 (hk.tok H _ rz)) (hs _ _)
    · exact hk.elim
  · exact hk.elim

noncomputable def eSub (f g : EA) : EA := e2 vGet f g
theorem SE_sub {e i : Expr} {p f g} (hf : SE C k sc e f) (hg : SE C k sc i g) (hs : ∀ o j, subscripted i false o j = operate [o, j] (getItem o j) := by intro _ _; rfl) : SE C k sc (.Subscript e i p) (eSub f g) := fun env A W ρ H Q E hk =>
  PyProof.Rows.Subscript_ (two H hf hg (fun W a b x y H' ra rb => tailP H.room H' ra rb hs) hk)

/-! ### slices -/
noncomputable def slc {α : Type} (lo hi : Option Int) (l : List α) : List α := (l.drop (lo.elim 0 (clipAt l.length))).take (hi.elim l.length (clipAt l.length) - lo.elim 0 (clipAt l.length))
theorem slc_pick (lo hi : Option Int) (vs : List Value) : slicePick vs.toArray lo hi none = (slc lo hi vs).toArray := by
  rw [slicePick_plain]; simp [slc]
theorem slc_str (lo hi : Option Int) (l : List Nat) : (Builtin.Str.strSliceIndices lo hi 1 l.length).filterMap (l.toArray[·]?) = slc lo hi l := by
  have e : Builtin.Str.strSliceIndices lo hi 1 l.length = sliceRange (sliceBounds lo hi none l.length).1 (sliceBounds lo hi none l.length).2.1 1 := by
    cases lo <;> cases hi <;> rfl
  rw [e, sliceBounds_plain]
  simp only [sliceRange_one, pick_run]
  simp [slc]
theorem whole_of_len {α : Type} {lo hi : Option Int} {l : List α} (h : (slc lo hi l).length = l.length) : slc lo hi l = l := by
  unfold slc at h ⊢
  exact ((List.take_sublist _ _).trans (List.drop_sublist _ _)).eq_of_length h
theorem slc_le {α : Type} (lo hi : Option Int) (l : List α) : (slc lo hi l).length ≤ l.length := by
  unfold slc; exact ((List.take_sublist _ _).trans (List.drop_sublist _ _)).length_le
theorem VsR.slc {W : Wd} {l : List V} {xs : List Value} (h : W.VsR l xs) (lo hi : Option Int) : W.VsR (slc lo hi l) (slc lo hi xs) := by
  unfold Mine.slc
  rw [h.length]
  exact VsR.take (VsR.drop h _) _

theorem filterMap_len {l : List Nat} : ∀ L : List Nat, (∀ i ∈ L, (l.toArray[i]?).isSome = true) → (L.filterMap (l.toArray[·]?)).length = L.length
  | [], _ => rfl
  | i :: r, h => by
    obtain ⟨c, hc⟩ := Option.isSome_iff_exists.mp (h i (.head _))
    rw [List.filterMap_cons_some hc, List.length_cons, List.length_cons, filterMap_len r fun j hj => h j (.tail _ hj)]
/-- a slice's part -/
noncomputable def PartIs : V → Option Int → Prop
  | .none, o => o = none
  | .int i, o => o = some i
  | _, _ => False
noncomputable def partOf : V → Option (Option Int)
  | .none => some none
  | .int i => some (some i)
  | _ => none
noncomputable def SP (C : Cx) (k : Nat) (sc : Scope) (e : Option Expr) (f : EA) : Prop :=
  ∀ env A W ρ, Here C k sc env A W ρ → TJ C noOwn vrel A (evalPart e env) (f ρ W.σ) W
theorem SP_none : SP C k sc none eNone := fun env A W ρ H Q E hk => wpAny_evalPart_none (hk.here H.hr .none)
theorem SP_some {e f} (hf : SE C k sc e f) : SP C k sc (some e) f := fun env A W ρ H Q E hk => wpAny_evalPart_some (hf env A W ρ H Q E hk)

noncomputable def vSlc (a lo hi : V) (σ : AH) : Res V := match partOf lo, partOf hi with
  | some lo, some hi => match a with
    | .str l => if sizeOk' l.length then .ok (.str (slc lo hi l)) σ else .fail
    | a => match listAt σ a with
      | some l => if sizeOk' l.length then .ok (.lst (slc lo hi l)) σ else .fail
      | none => .fail
  | _, _ => .fail
noncomputable def eSlc (f lo hi : EA) : EA := fun ρ σ => (f ρ σ).bind fun a σ => (lo ρ σ).bind fun lo σ => (hi ρ σ).bind fun hi σ => vSlc a lo hi σ
theorem part_is {W : Wd} {v : V} {x : Value} {o : Option Int} (r : W.VR v x) (e : partOf v = some o) : IsPart x o ∧ ∃ q : Option (Int × Tok), x = partValue q ∧ q.map (·.1) = o := by
  cases r with
  | none => cases e; exact ⟨.none, none, rfl, rfl⟩
  | int i t => cases e; exact ⟨.int i t, some (i, t), rfl, rfl⟩
  | _ => cases e
theorem SE_slc {e : Expr} {lo hi : Option Expr} {p pp f flo fhi} (hf : SE C k sc e f) (hlo : SP C k sc lo flo) (hhi : SP C k sc hi fhi) : SE C k sc (.Subscript e (.Slice lo hi none pp) p) (eSlc f flo fhi) := fun env A W ρ H Q E hk => by
  refine PyProof.Rows.Subscript_ (hf env A W ρ H _ _ (K.bind hk (fun _ => id) fun x a σ₁ W₁ _ x₁ H₁ _ r₁ hk₁ => ?_))
  have h1 := H.ext x₁ H₁
  refine wpAny_Slice (hlo env A W₁ ρ h1 _ _ (K.bind hk₁ (fun _ => id) fun y lo' σ₂ W₂ _ x₂ H₂ _ r₂ hk₂ => ?_))
  have h2 := h1.ext x₂ H₂
  refine hhi env A W₂ ρ h2 _ _ (K.bind hk₂ (fun _ => id) fun z hi' σ₃ W₃ _ x₃ H₃ _ r₃ hk₃ => ?_)
  refine wpAny_evalPart_none ?_
  have ra := VR.up x₃ H₂ (VR.up x₂ H₁ r₁)
  have rlo := VR.up x₃ H₂ r₂
  unfold vSlc at hk₃
  have gr : ∀ b o, W₃.h.get? b = some o → (W₃.h.push { cls := .type "slice", data := .fields #[y, z, .none] }).get? b = some o := fun _ _ e => Heap.get?_push_of_some _ e
  have x₄ : Ext C noOwn W₃ (W₃.withHeap (W₃.h.push { cls := .type "slice", data := .fields #[y, z, .none] }) W₃.s.toks) := Ext.grow _ gr
  have H₄ : HR C (W₃.withHeap (W₃.h.push { cls := .type "slice", data := .fields #[y, z, .none] }) W₃.s.toks) := H₃.grow _ gr
  split at hk₃
  · rename_i olo ohi e1 e2
    obtain ⟨p1, q1, e3, e4⟩ := part_is rlo e1
    obtain ⟨p2, q2, e5, e6⟩ := part_is r₃ e2
    split at hk₃
    · rename_i l _
      split at hk₃
      · rename_i hz
        cases ra
        subst e3 e5
        refine tail_any (typeIs_str _ _ _) PySem.F.slot_str_getitem.lookup (wpAny_getItem_str_slice (l := q1) (u := q2) (st := none) ⟨_, Heap.get?_push_size _ rfl, rfl, rfl⟩ rfl ?_) (show subscripted _ false _ _ = operate [_, _] _ from rfl)
        have hk₄ := hk₃.shift x₄
        have fin : ∀ (u : List Nat) (t' : Tok) (tk : Nat), u = slc olo ohi l → Q (.str ⟨u.toArray⟩ t') { W₃.s with heap := W₃.h.push { cls := .type "slice", data := .fields #[partValue q1, partValue q2, .none] }, toks := tk } := fun u t' tk q => by
          subst q
          exact K.tok (W := W₃.withHeap (W₃.h.push { cls := .type "slice", data := .fields #[partValue q1, partValue q2, .none] }) W₃.s.toks) hk₄ H₄ tk (.str _ _)
        have ep : (slicePicked ⟨l.toArray⟩ q1 q2 none).filterMap (l.toArray[·]?) = slc olo ohi l := by
          unfold slicePicked
          rw [e4, e6]
          exact slc_str olo ohi l
        unfold sliceMade
        split
        · rename_i hc
          refine fin l _ _ ?_
          have hlen : (slicePicked ⟨l.toArray⟩ q1 q2 none).length = l.length := by simpa [PySem.Str.length] using hc
          have hlen2 : (slc olo ohi l).length = l.length := by
            rw [← ep]
            have hall : ∀ i ∈ slicePicked ⟨l.toArray⟩ q1 q2 none, (l.toArray[i]?).isSome = true := by
              intro i hi
              unfold slicePicked at hi
              rw [e4, e6] at hi
              have e : Builtin.Str.strSliceIndices olo ohi 1 l.length = sliceRange (sliceBounds olo ohi none l.length).1 (sliceBounds olo ohi none l.length).2.1 1 := by
                cases olo <;> cases ohi <;> rfl
              have hi' : i ∈ Builtin.Str.strSliceIndices olo ohi 1 l.length := by simpa [PySem.Str.length] using hi
              rw [e, sliceBounds_plain] at hi'
              simp only [sliceRange_one, List.mem_map, List.mem_range] at hi'
              obtain ⟨j, hj, rfl⟩ := hi'
              have hb : ohi.elim l.length (clipAt l.length) ≤ l.length := by
                cases ohi with
                | none => exact Nat.le_refl _
                | some v => have := clipAt_cast l.length v; simp only [Option.elim]; lia
              rw [Array.getElem?_eq_some_iff.mpr ⟨by simp; lia, rfl⟩]; rfl
            rw [filterMap_len _ hall, hlen]
          exact (whole_of_len hlen2).symm
        · refine ⟨?_, fin _ _ _ ep⟩
          rw [show PySem.Str.length ⟨(List.filterMap (fun x => l.toArray[x]?) (slicePicked ⟨l.toArray⟩ q1 q2 none)).toArray⟩ = (slc olo ohi l).length by simp only [PySem.Str.length, List.size_toArray]; rw [ep]]
          exact Nat.le_trans (slc_le _ _ _) (sl100 hz)
      · exact hk₃.elim
    · split at hk₃
      · rename_i l e7
        split at hk₃
        · rename_i hz
          obtain ⟨ad, vs, rfl, h3, h4⟩ := listAt_is H₃ ra e7
          have h3' : (W₃.h.push { cls := .type "slice", data := .fields #[y, z, .none] }).IsList ad vs.toArray := let ⟨o, a1, a2⟩ := h3; ⟨o, gr _ _ a1, a2⟩
          refine tail_any h3'.typeIs slot_list_getitem.lookup (wpAny_getItem_list_slice h3' (Heap.IsSliceOf.new ..) p1 p2 .none (by simp) ?_ (by rw [List.size_toArray, ← h4.length]; exact sl100 hz)) (show subscripted _ false _ _ = operate [_, _] _ from rfl)
          have hk₄ := hk₃.shift x₄
          rw [slc_pick]
          refine K.push (W := W₃.withHeap (W₃.h.push { cls := .type "slice", data := .fields #[y, z, .none] }) W₃.s.toks) hk₄ H₄ (listOf (slc olo ohi vs).toArray 0) W₃.s.toks (.lst _ (slc olo ohi vs) _ 0 _ (Heap.get?_push_size _ rfl) rfl rfl (newAp H₄) ?_)
          exact VsR.up (Ext.grow (W := W₃.withHeap (W₃.h.push { cls := .type "slice", data := .fields #[y, z, .none] }) W₃.s.toks) _ fun _ _ e => Heap.get?_push_of_some _ e) H₄ (VsR.slc (VsR.up x₄ H₃ h4) olo ohi)
        · exact hk₃.elim
      · exact hk₃.elim
  · exact hk₃.elim
end
/-! ## Builtins -/
noncomputable def BJ (C : Cx) (x : String) (F : List V → AH → Res V) : Prop :=
  ∀ k A W vs xs, Room A k → HR C W → W.VsR vs xs → TJ C noOwn vrel A (call (.builtin x) xs []) (F vs W.σ) W

section
variable {C : Cx} {k : Nat} {sc : Scope}
theorem SE_built {x : String} {b : String} {F : List V → AH → Res V} {e : Expr} {r : List Expr} {l : LA} {p pn : Pos} (hF : BJ C b F) (hl : SL C k sc (e :: r) l) (hg : sc.names.lookup (sname x) = some .globalImplicit)
    (hm : nsIn C.K mainGlobals (sname x) = some none) (hv : bootBuiltins (sname x) = some (.builtin b)) (hn : sname x ≠ "__name__") (hd : (sname x == ("__debug__" : PySem.Str)) = false)
    (he : ∀ env, starEach (e :: r) env = (false, eval e env) :: starEach r env := by intro _; rfl) (hp : ∀ env, (backTo p (starEach r env)).any (·.1) = false := by intro _; rfl) :
    SE C k sc (.Call (.Name (PySem.Str.ofString x) pn) (e :: r) [] p) (eFn F l) := fun env A W ρ H Q E hk => by
  show wpAny _ A (do callWith p (← eval (.Name (PySem.Str.ofString x) pn) env) [] (backTo p (starEach (e :: r) env)) (backToKw p (keywordEach [] env))) Q E W.s
  refine wpAny_bind (builtinName H hg hm hv hn hd ?_)
  show wpAny _ A (callWith p (.builtin b) [] (backTo p (starEach (e :: r) env)) []) Q E W.s
  have hs := hl env A W ρ p H (fun vs s₁ => True ∧ wpAny (model C.prog C.w) A (call (.builtin b) ([] ++ vs)) Q E s₁) E (K.bind hk (fun _ => id) fun xs vs σ₁ W₁ _ x₁ H₁ _ r₁ hk₁ => ⟨trivial, hF k A W₁ vs xs H.room H₁ r₁ _ _ hk₁⟩)
  rw [he] at hs ⊢
  refine callWith_of (P := fun _ => True) (by show ((false || (backTo p (starEach r env)).any (·.1)) || false) = false; rw [hp]; rfl) (fun h _ => ⟨.machine, .inr (.inl rfl), .now⟩) (evalArgs_plain hs)
end

noncomputable def bLen : List V → AH → Res V := fun vs σ => match vs with
  | [.str l] => if sizeOk' l.length then .ok (.int l.length) σ else .fail
  | [v] => match listAt σ v with
    | some l => if sizeOk' l.length then .ok (.int l.length) σ else .fail
    | none => .fail
  | _ => .fail
theorem lenB {C : Cx} : BJ C "len" bLen := by
  intro k A W vs xs R H r Q E hk
  unfold bLen at hk
  split at hk
  · rename_i l
    cases r with
    | cons _ _ _ _ hv hs =>
      cases hs; cases hv
      split at hk
      · rename_i hz
        have := sl100 hz
        rw [sizeLine_eq] at this
        refine PyProof.Rows.len_str (by simp [PySem.Str.length]; lia) (hk.tok H _ ?_)
        simp only [PySem.Str.length, List.size_toArray]
        exact .int _ _
      · exact hk.elim
  · rename_i v _
    split at hk
    · rename_i l e
      split at hk
      · rename_i hz
        cases r with
        | cons _ _ _ _ hv hs =>
          cases hs
          obtain ⟨a, ws, rfl, h1, h2⟩ := listAt_is H hv e
          have := sl100 hz
          rw [sizeLine_eq, h2.length] at this
          refine PyProof.Rows.len_list h1 (by simp; lia) (hk.tok H _ ?_)
          rw [List.size_toArray, ← h2.length]
          exact .int _ _
      · exact hk.elim
    · exact hk.elim
  · exact hk.elim

noncomputable def bOrd : List V → AH → Res V := fun vs σ => match vs with
  | [.str [c]] => .ok (.int c) σ
  | _ => .fail
theorem ordB {C : Cx} : BJ C "ord" bOrd := by
  intro k A W vs xs R H r Q E hk
  unfold bOrd at hk
  split at hk
  · cases r with
    | cons _ _ _ _ hv hs =>
      cases hs; cases hv
      exact PySem.P.ord_of_char (hk.tok H _ (.int _ _))
  · exact hk.elim
noncomputable def bChr : List V → AH → Res V := fun vs σ => match vs with
  | [.int i] => if 0 ≤ i ∧ i ≤ 1000 then .ok (.str [i.toNat]) σ else .fail
  | _ => .fail
theorem chrB {C : Cx} : BJ C "chr" bChr := by
  intro k A W vs xs R H r Q E hk
  unfold bChr at hk
  split at hk
  · cases r with
    | cons _ _ _ _ hv hs =>
      cases hs; cases hv
      split at hk
      · rename_i hi
        exact PyProof.Rows.chr_of_range (by lia) (by lia) (hk.tok H _ (.str _ _))
      · exact hk.elim
  · exact hk.elim
noncomputable def bAbs : List V → AH → Res V := fun vs σ => match vs with
  | [.int i] => .ok (.int (if i < 0 then -i else i)) σ
  | _ => .fail
theorem absB {C : Cx} : BJ C "abs" bAbs := by
  intro k A W vs xs R H r Q E hk
  unfold bAbs at hk
  split at hk
  · cases r with
    | cons _ _ _ _ hv hs =>
      cases hs; cases hv
      exact PyProof.Rows.call_abs_int fun u tk => hk.tok H _ (.int _ _)
  · exact hk.elim

noncomputable def intsOf : List V → Option (List Int)
  | [] => some []
  | .int i :: r => (intsOf r).map (i :: ·)
  | _ => none
theorem intsOf_is {ι nx h} : ∀ {l : List V} {ns : List Int} {vs : List Value}, intsOf l = some ns → VsR ι nx h l vs → IntsAre vs ns := fun {l ns vs} h r => by
  cases r with
  | nil => cases h; exact .nil
  | cons v y l ys hv hs => cases v with
    | int i =>
      unfold intsOf at h
      cases q : intsOf l with
      | none => rw [q] at h; cases h
      | some t =>
        rw [q] at h; cases h
        cases hv
        exact .cons _ _ (intsOf_is q hs)
    | none => cases h
    | bool _ => cases h
    | str _ => cases h
    | ref _ => cases h
    | lst _ => cases h
    | tup _ => cases h
noncomputable def bSum : List V → AH → Res V := fun vs σ => match vs with
  | [v] => match (listAt σ v).bind intsOf with
    | some l => .ok (.int l.sum) σ
    | none => .fail
  | _ => .fail
theorem sumB {C : Cx} : BJ C "sum" bSum := by
  intro k A W vs xs R H r Q E hk
  unfold bSum at hk
  split at hk
  · split at hk
    · rename_i v _ ns e
      obtain ⟨l, e1, e2⟩ := Option.bind_eq_some_iff.mp e
      cases r with
      | cons _ _ _ _ hv hs =>
        cases hs
        obtain ⟨a, ws, rfl, h1, h2⟩ := listAt_is H hv e1
        have hi := intsOf_is e2 h2
        obtain ⟨zs, hx⟩ := hi.allInts.items
        have hl' : W.h.IsList a (intItems zs) := hx ▸ h1
        refine sum_intListG R.hand hl' fun h' tk t' hg => ?_
        have e3 : ns = zs.toList.map (·.1) := by
          rw [← nums_intItems, ← hx]
          exact (show numsOf ws.toArray.toList = ns from hi.numsOf).symm
        have e4 : preSum (numAt zs) zs.size = ns.sum := by
          rw [preSum_eq, List.take_of_length_le (by simp), e3]
        rw [e4]
        exact hk _ (W.withHeap h' tk) (Ext.grow tk hg) (H.grow tk hg) rfl (.int _ _)
    · exact hk.elim
  · exact hk.elim
/-! ## Lists and dicts change -/
theorem lt_of_get {σ : AH} {n : Nat} {o : AO} (h : σ[n]? = some o) : n < σ.length := by rcases List.getElem?_eq_some_iff.mp h with ⟨a, _⟩; exact a
theorem K.updList {C : Cx} {own : Addr → Prop} {α β : Type} {rel : Wd → β → α → Prop} {b : β} {W : Wd} {Q : α → Shared → Prop} {E : Value → Shared → Prop} {n : Nat} {l l' : List V} {xs : List Value} {ep : Nat} {h : Heap}
    (k : K C own rel (.ok b (W.σ.set n (.list l'))) W Q E) (H : HR C W) (hn : W.σ[n]? = some (.list l)) (hg : h.get? (W.ι n) = some (listOf xs.toArray ep)) (sb : Heap.SameBut (W.ι n) W.h h) (hl : W.VsR l' xs) {a : α} (tk : Nat)
    (r : rel (W.upd n (.list l') h tk) b a) : Q a { W.s with heap := h, toks := tk } := by
  have hlt := lt_of_get hn
  have x : Ext C own W (W.upd n (.list l') h tk) := Ext.upd tk hlt sb ⟨_, hg⟩
  have x' : Ext C noOwn W (W.upd n (.list l') h tk) := Ext.upd tk hlt sb ⟨_, hg⟩
  exact k a (W.upd n (.list l') h tk) x (H.upd tk hn (by simp) (by simp) sb ⟨_, hg⟩ ⟨xs, ep, hg, VsR.up x' H hl⟩) rfl r
theorem K.updDict {C : Cx} {own : Addr → Prop} {α β : Type} {rel : Wd → β → α → Prop} {b : β} {W : Wd} {Q : α → Shared → Prop} {E : Value → Shared → Prop} {n : Nat} {l l' : List (List Nat × V)} {kvs : List (PySem.Str × Value)} {h : Heap}
    (k : K C own rel (.ok b (W.σ.set n (.dict l'))) W Q E) (H : HR C W) (hn : W.σ[n]? = some (.dict l)) (hg : h.DictOf (strKind C.prog C.w) (W.ι n) kvs) (sb : Heap.SameBut (W.ι n) W.h h) (hl : DsR W l' kvs) {a : α} (tk : Nat)
    (r : rel (W.upd n (.dict l') h tk) b a) : Q a { W.s with heap := h, toks := tk } := by
  have hlt := lt_of_get hn
  have hv : ∃ o, h.get? (W.ι n) = some o := let ⟨o, _, _, e, _⟩ := hg; ⟨o, e⟩
  have x : Ext C own W (W.upd n (.dict l') h tk) := Ext.upd tk hlt sb hv
  have x' : Ext C noOwn W (W.upd n (.dict l') h tk) := Ext.upd tk hlt sb hv
  exact k a (W.upd n (.dict l') h tk) x (H.upd tk hn (by simp) (by simp) sb hv ⟨kvs, hg, DsR.up (fun _ _ => VR.up x' H) hl, let ⟨_, _, _, h4⟩ := H.obj n _ hn; h4⟩) rfl r

noncomputable def dput (k : List Nat) (v : V) (l : List (List Nat × V)) : List (List Nat × V) :=
  if l.any (fun e => e.1 = k) then l.map (fun e => if e.1 = k then (e.1, v) else e) else l ++ [(k, v)]
noncomputable def dout (k : List Nat) (l : List (List Nat × V)) : List (List Nat × V) := l.filter fun e => e.1 ≠ k
theorem str_inj (a b : List Nat) : ((⟨a.toArray⟩ : PySem.Str) = ⟨b.toArray⟩) ↔ a = b := ⟨fun q => by simpa using congrArg PySem.Str.cps q, fun q => by rw [q]⟩
theorem DsR.any {W : Wd} {k : List Nat} : ∀ {l : List (List Nat × V)} {kvs}, DsR W l kvs → kvs.any (fun kv => kv.1 = ⟨k.toArray⟩) = l.any (fun e => e.1 = k) := fun {l kvs} h => by
  cases h with
  | nil => exact rfl
  | cons x v y l es hv hr => rw [List.any_cons, List.any_cons, hr.any]; simp only [str_inj]
theorem DsR.map {W : Wd} {k : List Nat} {u : V} {z : Value} (r : W.VR u z) : ∀ {l : List (List Nat × V)} {kvs}, DsR W l kvs → DsR W (l.map (fun e => if e.1 = k then (e.1, u) else e)) (kvs.map fun kv => if kv.1 = ⟨k.toArray⟩ then (kv.1, z) else kv) := fun {l kvs} hx => by
  cases hx with
  | nil => exact .nil
  | cons x v y l es hv hr =>
    rw [List.map_cons, List.map_cons]
    simp only [str_inj]
    by_cases h : x = k
    · simp only [h, if_true]; exact .cons _ _ _ _ _ r (DsR.map r hr)
    · simp only [h, if_false]; exact .cons _ _ _ _ _ hv (DsR.map r hr)
theorem DsR.append {W : Wd} {k : List Nat} {u : V} {z : Value} (r : W.VR u z) : ∀ {l : List (List Nat × V)} {kvs}, DsR W l kvs → DsR W (l ++ [(k, u)]) (kvs ++ [(⟨k.toArray⟩, z)]) := fun {l kvs} h => by
  cases h with
  | nil => exact .cons _ _ _ _ _ r .nil
  | cons x v y l es hv hr => exact .cons _ _ _ _ _ hv (DsR.append r hr)
theorem DsR.put {W : Wd} {k : List Nat} {u : V} {z : Value} (r : W.VR u z) {l : List (List Nat × V)} {kvs} (h : DsR W l kvs) : DsR W (dput k u l) (stored kvs ⟨k.toArray⟩ z) := by
  unfold dput stored
  rw [h.any]
  split
  · exact DsR.map r h
  · exact DsR.append r h
theorem DsR.out {W : Wd} {k : List Nat} : ∀ {l : List (List Nat × V)} {kvs}, DsR W l kvs → DsR W (dout k l) (without kvs ⟨k.toArray⟩) := fun {l kvs} hx => by
  cases hx with
  | nil => exact .nil
  | cons x v y l es hv hr =>
    unfold dout without
    rw [List.filter_cons, List.filter_cons]
    simp only [ne_eq, str_inj]
    by_cases h : x = k
    · simp only [h, not_true_eq_false, decide_false, Bool.false_eq_true, if_false]; exact DsR.out hr
    · simp only [h, not_false_eq_true, decide_true, if_true]; exact .cons _ _ _ _ _ hv (DsR.out hr)
theorem DsR.length {W : Wd} : ∀ {l : List (List Nat × V)} {kvs}, DsR W l kvs → kvs.length = l.length := fun {l kvs} h => by
  cases h with
  | nil => exact rfl
  | cons x v y l es hv hr => simp [hr.length]
theorem dlook_none_out {k : List Nat} : ∀ {l : List (List Nat × V)}, dlook k l = none → dout k l = l
  | [], _ => rfl
  | (x, v) :: r, h => by
    unfold dlook at h
    split at h
    · cases h
    · rename_i hx
      unfold dout
      rw [List.filter_cons]
      have := dlook_none_out h
      unfold dout at this
      rw [if_pos (by simpa using hx), this]

/-! ## Methods -/
noncomputable def MJ (C : Cx) (id : String) (F : List V → AH → Res V) : Prop :=
  ∀ k A W vs xs, Room A k → HR C W → W.VsR vs xs → TJ C noOwn vrel A (call (.builtin id) xs []) (F vs W.σ) W
noncomputable def eMeth (chk : AH → V → Bool) (f : EA) (l : LA) (F : List V → AH → Res V) : EA := fun ρ σ => (f ρ σ).bind fun v σ => if chk σ v then (l ρ σ).bind fun vs σ => F (v :: vs) σ else .fail
structure ChkOk (C : Cx) (T : String) (chk : AH → V → Bool) : Prop where
  ok : ∀ W v x, HR C W → W.VR v x → chk W.σ v = true → W.s.TypeIs x T ∧ ∀ a, x = .ref a → ∃ ob, W.h.get? a = some ob ∧ ob.dict = none
noncomputable def isL (σ : AH) : V → Bool
  | .ref n => (listAt σ (.ref n)).isSome
  | _ => false
noncomputable def isD (σ : AH) (v : V) : Bool := (dictAt σ v).isSome
noncomputable def isS (_ : AH) : V → Bool
  | .str _ => true
  | _ => false
theorem chkL {C : Cx} : ChkOk C "list" isL := ⟨fun W v x H r h => by
  unfold isL at h
  cases r with
  | ref n hn =>
    unfold listAt at h
    dsimp only at h
    split at h
    · rename_i l' q
      obtain ⟨vs, ep, h1, h2⟩ := H.obj n _ q
      exact ⟨⟨_, h1, rfl⟩, fun b e => by cases e; exact ⟨_, h1, rfl⟩⟩
    · cases h
  | _ => cases h⟩
theorem chkD {C : Cx} : ChkOk C "dict" isD := ⟨fun W v x H r h => by
  unfold isD at h
  obtain ⟨l, e⟩ := Option.isSome_iff_exists.mp h
  obtain ⟨n, kvs, rfl, hn, rfl, h1, h2⟩ := dictAt_is H r e
  refine ⟨h1.typeIs, fun a q => ?_⟩
  cases q
  obtain ⟨o, _, _, e, hc, _⟩ := h1
  exact ⟨o, e, hc.2.1⟩⟩
theorem chkS {C : Cx} : ChkOk C "str" isS := ⟨fun W v x H r h => by
  cases r with
  | str l t => exact ⟨typeIs_str _ _ _, fun a q => by cases q⟩
  | _ => cases h⟩

section
variable {C : Cx} {k : Nat} {sc : Scope}
theorem SE_meth {o : Expr} {x : String} {T bid : String} {chk : AH → V → Bool} {F : List V → AH → Res V} {e : Expr} {r : List Expr} {f : EA} {l : LA} {p pn : Pos} (hf : SE C k sc o f) (hl : SL C k sc (e :: r) l) (hF : MJ C bid F) (hc : ChkOk C T chk)
    (pa : PlainAttrs T) (slot : Slot T (PySem.Str.ofString x) bid) (hty : typeOf (.builtin bid) = pure (.type "method_descriptor"))
    (hbase : ∀ env, attributeBase o (PySem.Str.ofString x) env (eval o env) = eval o env := by intro _; rfl)
    (hfew : ∀ env, ((backTo p (starEach (e :: r) env)).all (fun x => !x.1) && (backToKw p (keywordEach [] env)).all (fun x => x.1.isSome)
      && decide ((e :: r).length + ([] : List Keyword).length + (if ([] : List Keyword).isEmpty then 0 else 1) < 30)) = true := by intro _; rfl)
    (hline : (pn.endLine == p.line) = true)
    (he : ∀ env, starEach (e :: r) env = (false, eval e env) :: starEach r env := by intro _; rfl) (hp : ∀ env, (backTo p (starEach (e :: r) env)).any (·.1) = false := by intro _; rfl) :
    SE C k sc (.Call (.Attribute o (PySem.Str.ofString x) pn) (e :: r) [] p) (eMeth chk f l F) := fun env A W ρ H Q E hk => by
  refine wpAny_Call_method (hbase env) (hfew env) hline pa slot hty (hf env A W ρ H _ _ (K.bind hk (fun _ => id) fun y v σ₁ W₁ _ x₁ H₁ _ r₁ hk₁ => ?_))
  split at hk₁
  · rename_i hch
    obtain ⟨h1, h2⟩ := hc.ok W₁ v y H₁ r₁ hch
    refine ⟨h1, h2, callWith_builtin (hp env) ?_⟩
    have hs := hl env A W₁ ρ p (H.ext x₁ H₁) (fun vs s₁ => wpAny (model C.prog C.w) A (call (.builtin bid) ([y] ++ vs)) Q E s₁) E (K.bind hk₁ (fun _ => id) fun xs vs σ₂ W₂ _ x₂ H₂ _ r₂ hk₂ =>
      hF k A W₂ (v :: vs) (y :: xs) H.room H₂ (.cons _ _ _ _ (VR.up x₂ H₁ r₁) r₂) _ _ hk₂)
    rw [he] at hs ⊢
    exact evalArgs_plain hs
  · exact hk₁.elim
theorem SE_meth0 {o : Expr} {x : String} {T bid : String} {chk : AH → V → Bool} {F : List V → AH → Res V} {f : EA} {p pn : Pos} (hf : SE C k sc o f) (hF : MJ C bid F) (hc : ChkOk C T chk)
    (pa : PlainAttrs T) (slot : Slot T (PySem.Str.ofString x) bid) (hty : typeOf (.builtin bid) = pure (.type "method_descriptor"))
    (hbase : ∀ env, attributeBase o (PySem.Str.ofString x) env (eval o env) = eval o env := by intro _; rfl)
    (hline : (pn.endLine == p.line) = true) :
    SE C k sc (.Call (.Attribute o (PySem.Str.ofString x) pn) [] [] p) (eMeth chk f lNil F) := fun env A W ρ H Q E hk => by
  refine wpAny_Call_method (hbase env) (by rfl) hline pa slot hty (hf env A W ρ H _ _ (K.bind hk (fun _ => id) fun y v σ₁ W₁ _ x₁ H₁ _ r₁ hk₁ => ?_))
  split at hk₁
  · rename_i hch
    obtain ⟨h1, h2⟩ := hc.ok W₁ v y H₁ r₁ hch
    refine ⟨h1, h2, callWith_builtin rfl ?_⟩
    refine evalArgs_nil3 ?_
    exact hF k A W₁ [v] [y] H.room H₁ (.cons _ _ _ _ r₁ .nil) _ _ hk₁
  · exact hk₁.elim
end

/-- list.append -/
noncomputable def mAppend : List V → AH → Res V := fun vs σ => match vs with
  | [.ref n, v] => match σ[n]? with
    | some (.list l) => if sizeOk' l.length then .ok .none (σ.set n (.list (l ++ [v]))) else .fail
    | _ => .fail
  | _ => .fail
theorem set_push (its : Array Value) (n : Nat) (f : Array Value → Array Value) : ∃ n', Obj.mapSeq f (listOf its n) = listOf (f its) n' := ⟨_, rfl⟩
theorem appendM {C : Cx} : MJ C "list.append" mAppend := by
  intro k A W vs xs R H r Q E hk
  unfold mAppend at hk
  split at hk
  · rename_i n v
    split at hk
    · rename_i l q
      split at hk
      · rename_i hz
        cases r with
        | cons _ _ _ _ hv hs =>
        cases hs with
        | cons _ _ _ _ hv2 hs =>
        cases hs; cases hv
        obtain ⟨ws, ep, h1, h2⟩ := H.obj n _ q
        have hz' : (ws.toArray).size ≤ sizeLine := by rw [List.size_toArray, ← h2.length]; exact sl100 hz
        refine call_meets PySem.F.slot_list_append ⟨_, h1, rfl⟩ PySem.F.entry_list_append (PySem.F.args_list_append_2 _ _) (PySem.list_append _ ws.toArray ep _ hz') ⟨h1, ?_⟩
        obtain ⟨n', e'⟩ := set_push ws.toArray ep (fun x => x.push _)
        refine hk.updList (xs := ws ++ [_]) (ep := n') H q ((Heap.get?_update_self _ h1 (by rw [e']; rfl)).trans (by rw [e']; simp)) (Heap.SameBut.update ..) (h2.append (.cons _ _ _ _ hv2 .nil)) W.s.toks .none
      · exact hk.elim
    · exact hk.elim
  · exact hk.elim

/-- list.pop() -/
noncomputable def mPop : List V → AH → Res V := fun vs σ => match vs with
  | [.ref n] => match σ[n]? with
    | some (.list l) => match l.getLast? with
      | some v => if sizeOk' l.length then .ok v (σ.set n (.list l.dropLast)) else .fail
      | none => .fail
    | _ => .fail
  | _ => .fail
theorem popM {C : Cx} : MJ C "list.pop" mPop := by
  intro k A W vs xs R H r Q E hk
  unfold mPop at hk
  split at hk
  · rename_i n
    split at hk
    · rename_i l q
      split at hk
      · rename_i v e
        split at hk
        · rename_i hz
          cases r with
          | cons _ _ _ _ hv hs =>
          cases hs; cases hv
          obtain ⟨ws, ep, h1, h2⟩ := H.obj n _ q
          have hlen := h2.length
          have hz' : (ws.toArray).size ≤ sizeLine := by rw [List.size_toArray, ← hlen]; exact sl100 hz
          rw [List.getLast?_eq_getElem?] at e
          obtain ⟨y, e2, ry⟩ := h2.get _ _ e
          have hpos : 0 < ws.length := by rcases List.getElem?_eq_some_iff.mp e2 with ⟨a, _⟩; lia
          have hy : ws.toArray[ws.toArray.size - 1]? = some y := by rw [List.size_toArray, ← hlen]; simpa using e2
          refine call_meets PySem.F.slot_list_pop ⟨_, h1, rfl⟩ PySem.F.entry_list_pop (PySem.F.args_list_pop_1 _) (PySem.MeetsSeq.list_pop_last _ ws.toArray ep y hy hz') ⟨h1, ?_⟩
          obtain ⟨n', e'⟩ := set_push ws.toArray ep (fun xs => xs.eraseIdxIfInBounds (ws.toArray.size - 1))
          have e3 : (ws.toArray.eraseIdxIfInBounds (ws.toArray.size - 1)) = ws.dropLast.toArray := by
            rw [List.eraseIdxIfInBounds_toArray, List.size_toArray, List.eraseIdx_length_sub_one]
          have e4 : l.dropLast = l.take (l.length - 1) := List.dropLast_eq_take
          refine hk.updList (xs := ws.dropLast) (ep := n') H q ((Heap.get?_update_self _ h1 (by rw [e']; rfl)).trans (by rw [e', e3])) (Heap.SameBut.update ..) ?_ W.s.toks ?_
          · rw [e4, List.dropLast_eq_take, ← hlen]; exact h2.take _
          · have hlt := lt_of_get q
            obtain ⟨n2, e5⟩ := set_push ws.toArray ep (fun xs => xs.eraseIdxIfInBounds (ws.toArray.size - 1))
            exact VR.up (Ext.upd (C := C) _ hlt (Heap.SameBut.update ..) ⟨_, Heap.get?_update_self _ h1 (by rw [e5]; rfl)⟩) H ry
        · exact hk.elim
      · exact hk.elim
    · exact hk.elim
  · exact hk.elim

/-- dict.get(k, d) -/
noncomputable def mGet : List V → AH → Res V := fun vs σ => match vs with
  | [d, .str k, v] => match dictAt σ d with
    | some l => .ok ((dlook k l).getD v) σ
    | none => .fail
  | _ => .fail
theorem getM {C : Cx} : MJ C "dict.get" mGet := by
  intro k A W vs xs R H r Q E hk
  unfold mGet at hk
  split at hk
  · rename_i d kk v
    split at hk
    · rename_i l q
      cases r with
      | cons _ _ _ _ hv hs =>
      cases hs with
      | cons _ _ _ _ hv2 hs =>
      cases hs with
      | cons _ _ _ _ hv3 hs =>
      cases hs; cases hv2
      obtain ⟨n, kvs, rfl, hn, rfl, h1, h2⟩ := dictAt_is H hv q
      refine call_meetsIn PySem.F.slot_dict_get h1.typeIs PySem.F.entry_dict_get (PySem.F.args_dict_get_3 _ _ _) (PySem.meets_dict_get_default (strKind C.prog C.w) _ (strKind_is C.prog C.w _ _) (not_sysMod H hn) _) ⟨_, h1.mapOf, ?_⟩
      refine hk.tok H _ ?_
      rcases h2.valueAt (k := kk) with ⟨e1, e2⟩ | ⟨v, y, e1, e2, rv⟩
      · rw [e1, e2]; exact hv3
      · rw [e1, e2]; exact rv
    · exact hk.elim
  · exact hk.elim

/-- dict.pop(k, d) -/
noncomputable def mPopD : List V → AH → Res V := fun vs σ => match vs with
  | [.ref n, .str k, v] => match σ[n]? with
    | some (.dict l) => if sizeOk' l.length then .ok ((dlook k l).getD v) (σ.set n (.dict (dout k l))) else .fail
    | _ => .fail
  | _ => .fail
theorem meets_dict_pop2 {prog : Program} {w : World} {K : Type} [DecidableEq K] {knd : PySem.KeyKind prog w K} {d : Addr} {k : K} {key : Value} (hkey : knd.is k key = true) (dflt : Value) (hd : (d == sysModules) = false) (hpart : (keyPart key).isSome = true) :
    MeetsIn prog w (Builtin.«dict.pop» ⟨[.ref d, key, dflt], []⟩) (fun _ R s => ∃ kvs, s.heap.DictOf knd d kvs ∧ kvs.length ≤ sizeLine ∧
      (valueAt kvs k = none → R (.ok (.ret dflt)) { s with toks := s.toks + 1 }) ∧ ∀ v, valueAt kvs k = some v →
      ∀ h', h'.DictOf knd d (without kvs k) → Heap.SameBut d s.heap h' → R (.ok (.ret v)) { s with heap := h', toks := s.toks + 1 }) := by
  rintro A R s ⟨kvs, hm, hsz, hno, h⟩
  refine (MeetsIn.of_wp (S := fun _ R' s' => R' = R ∧ s' = s) fun A R' s' q => ?_) A R s ⟨rfl, rfl⟩
  obtain ⟨rfl, rfl⟩ := q
  unfold Builtin.«dict.pop»
  refine wpAny_bind ?_
  unfold Builtin.Dict.keyAndDefault
  refine wpAny_bind (wpAny_notOrdered_dict hm.typeIs ?_)
  show wpAny _ _ (pure (d, key, some dflt)) _ _ s'
  refine wpAny_pure ?_
  simp only [hpart, if_true]
  refine wpAny_bind (wpAny_pure ?_)
  simp only [Bool.false_eq_true, if_false]
  refine wpAny_bind (wpAny_takeOut_pairs (hsz := hsz) hkey hm (fun hn => ?_) fun e _ he h' hm' hs' => ?_)
  · simp only [Option.isNone_none, if_true]
    refine wpAny_bind (wpAny_missedRemoval_other hd ?_)
    exact wpAny_bind (wpAny_rule (wpAny_pure ⟨dflt, rfl, hno hn⟩))
  · simp only [Option.isNone_some, Bool.false_eq_true, if_false]
    exact wpAny_bind (wpAny_letGo (wpAny_pure ⟨e.val, rfl, h _ he h' hm' hs'⟩))
theorem popDM {C : Cx} : MJ C "dict.pop" mPopD := by
  intro k A W vs xs R H r Q E hk
  unfold mPopD at hk
  split at hk
  · rename_i n kk v
    split at hk
    · rename_i l q
      split at hk
      · rename_i hz
        cases r with
        | cons _ _ _ _ hv hs =>
        cases hs with
        | cons _ _ _ _ hv2 hs =>
        cases hs with
        | cons _ _ _ _ hv3 hs =>
        cases hs; cases hv2; cases hv
        obtain ⟨kvs, h1, h2, _⟩ := H.obj n _ q
        refine call_meetsIn PySem.F.slot_dict_pop h1.typeIs PySem.F.entry_dict_pop (PySem.F.args_dict_pop_3 _ _ _) (meets_dict_pop2 (strKind_is C.prog C.w _ _) _ (not_sysMod H q) rfl) ⟨kvs, h1, by rw [h2.length]; exact sl100 hz, fun hn => ?_, fun y hy h' hm' hs' => ?_⟩
        · rcases h2.valueAt (k := kk) with ⟨e1, e2⟩ | ⟨v, y, e1, e2, rv⟩
          · rw [e1, dlook_none_out e1] at hk
            have e5 : W.σ.set n (.dict l) = W.σ := List.ext_getElem? fun i => by
              by_cases hi : n = i
              · subst hi; rw [List.getElem?_set_self (lt_of_get q), q]
              · rw [List.getElem?_set_ne hi]
            rw [e5] at hk
            exact hk.tok H _ hv3
          · rw [hn] at e2; cases e2
        · rcases h2.valueAt (k := kk) with ⟨e1, e2⟩ | ⟨v, z, e1, e2, rv⟩
          · rw [hy] at e2; cases e2
          · rw [hy] at e2; cases e2
            rw [e1] at hk
            refine hk.updDict H q hm' hs' h2.out _ ?_
            exact VR.up (Ext.upd (C := C) _ (lt_of_get q) hs' (let ⟨o, _, _, e, _⟩ := hm'; ⟨o, e⟩)) H rv
      · exact hk.elim
    · exact hk.elim
  · exact hk.elim

/-- ''.join -/
noncomputable def strsOf' : List V → Option (List (List Nat))
  | [] => some []
  | .str l :: r => (strsOf' r).map (l :: ·)
  | _ => none
theorem strsOf'_is : ∀ {l : List V} {ss : List (List Nat)}, strsOf' l = some ss → l = ss.map V.str
  | [], ss, h => by cases h; rfl
  | .str x :: r, ss, h => by
    unfold strsOf' at h
    cases q : strsOf' r with
    | none => rw [q] at h; cases h
    | some t => rw [q] at h; cases h; rw [strsOf'_is q]; rfl
  | .none :: _, _, h => by cases h
  | .bool _ :: _, _, h => by cases h
  | .int _ :: _, _, h => by cases h
  | .ref _ :: _, _, h => by cases h
  | .lst _ :: _, _, h => by cases h
  | .tup _ :: _, _, h => by cases h
noncomputable def mJoin : List V → AH → Res V := fun vs σ => match vs with
  | [.str [], v] => match (listAt σ v).bind strsOf' with
    | some ss => if sizeOk' ss.flatten.length then .ok (.str ss.flatten) σ else .fail
    | none => .fail
  | _ => .fail
theorem strs_values {ι nx h} : ∀ {ss : List (List Nat)} {vs : List Value}, VsR ι nx h (ss.map V.str) vs → ∃ l : List (PySem.Str × Tok), vs = strValues l ∧ l.map (·.1) = ss.map fun x => ⟨x.toArray⟩
  | [], _, .nil => ⟨[], rfl, rfl⟩
  | x :: r, _, .cons _ _ _ _ hv hs => by
    cases hv with
    | str _ t =>
      obtain ⟨l, rfl, e⟩ := strs_values hs
      exact ⟨(⟨x.toArray⟩, t) :: l, rfl, by simp [e]⟩
theorem join_flat : ∀ ss : List (List Nat), (PySem.Str.join ⟨#[]⟩ (ss.map fun x => (⟨x.toArray⟩ : PySem.Str))) = ⟨ss.flatten.toArray⟩ := by
  intro ss
  have hg : ∀ (r : List (List Nat)) (acc : Array Nat), (r.map fun x => (⟨x.toArray⟩ : PySem.Str)).foldl (fun acc p => acc ++ (⟨#[]⟩ : PySem.Str).cps ++ p.cps) acc = acc ++ r.flatten.toArray := by
    intro r
    induction r with
    | nil => intro acc; simp
    | cons x r ih => intro acc; rw [List.map_cons, List.foldl_cons, ih]; apply Array.ext'; simp
  cases ss with
  | nil => rfl
  | cons x r =>
    rw [List.map_cons, ← StrLaws.glued_cons, hg]
    congr 1
    apply Array.ext'; simp
theorem total_flat : ∀ ss : List (List Nat), ((ss.map fun x => (⟨x.toArray⟩ : PySem.Str)).map (·.length)).sum = ss.flatten.length
  | [] => rfl
  | x :: r => by simp [PySem.Str.length]; have := total_flat r; simp [PySem.Str.length] at this; exact this
theorem joinM {C : Cx} : MJ C "str.join" mJoin := by
  intro k A W vs xs R H r Q E hk
  unfold mJoin at hk
  split at hk
  · split at hk
    · rename_i v _ ss e
      split at hk
      · rename_i hz
        cases r with
        | cons _ _ _ _ hv hs =>
        cases hs with
        | cons _ _ _ _ hv2 hs =>
        cases hs; cases hv
        obtain ⟨l, e1, e2⟩ := Option.bind_eq_some_iff.mp e
        obtain ⟨a, ws, rfl, h1, h2⟩ := listAt_is H hv2 e1
        have e3 := strsOf'_is e2
        subst e3
        obtain ⟨zs, rfl, e4⟩ := strs_values h2
        refine PySem.SC.join h1 e4 ?_ fun t' tk => hk.tok H tk ?_
        · unfold JoinOk
          rw [StrLaws.joinTotal]
          have := sl100 hz
          rw [sizeLine_eq] at this
          simp only [Bool.not_eq_true']
          have e5 := total_flat ss
          have e6 : (List.map (fun x => x.length) (List.map (fun x => (⟨x.toArray⟩ : PySem.Str)) ss)).sum + (List.map (fun x => (⟨x.toArray⟩ : PySem.Str)) ss).length * (⟨List.toArray []⟩ : PySem.Str).length = ss.flatten.length := by
            rw [show (⟨List.toArray []⟩ : PySem.Str).length = 0 from rfl, Nat.mul_zero, Nat.add_zero]; exact e5
          rw [e6]
          refine decide_eq_false ?_
          rw [sizeLine_eq]; lia
        · rw [show Txt.join _ _ = PySem.Str.join _ _ from StrLaws.glued_eq_join _ _]
          show W.VR _ (.str (PySem.Str.join ⟨List.toArray []⟩ _) _)
          rw [show (⟨List.toArray []⟩ : PySem.Str) = ⟨#[]⟩ from rfl, join_flat]
          exact .str _ _
      · exact hk.elim
    · exact hk.elim
  · exact hk.elim
/-! ## a display, repeated -/
noncomputable def repB (g : V → Nat → AH → Res V) (f h : EA) : EA := fun ρ σ => (f ρ σ).bind fun a σ => (h ρ σ).bind fun b σ => match b with
  | .int b => if b.natAbs ≤ 100000 then g a b.toNat σ else .fail
  | _ => .fail
noncomputable def eRepV : EA → EA → EA := repB fun a n σ => .ok (.lst (List.replicate n a)) σ
noncomputable def eRepH : EA → EA → EA := repB fun a n σ => .ok (.ref σ.length) (σ ++ [.list (List.replicate n a)])
section
variable {C : Cx} {k : Nat} {sc : Scope}
theorem SE_rep {e r : Expr} {p p' : Pos} {f h : EA} {g : V → Nat → AH → Res V} (hf : SE C k sc e f) (hh : SE C k sc r h)
    (hg : ∀ {W : Wd} {a : V} {y : Value} {n : Nat} {Q : Value → Shared → Prop} {E : Value → Shared → Prop}, HR C W → W.VR a y → K C noOwn vrel (g a n W.σ) W Q E → Q (.ref W.s.heap.objs.size) { W.s with heap := W.s.heap.push (listOf (List.replicate n y).toArray 0), toks := W.s.toks })
    (he : ∀ env, starEach [e] env = (false, eval e env) :: starEach [] env := by intro _; rfl) :
    SE C k sc (.BinOp (.List [e] p') .Mult r p) (repB g f h) := fun env A W ρ H Q E hk => by
  have hl : SL C k sc [e] (lCons f lNil) := SL_cons hf SL_nil he
  have hk' : K C noOwn vrel ((lCons f lNil ρ W.σ).bind fun l σ => match l with
    | [a] => (h ρ σ).bind fun b σ => match b with
      | .int b => if b.natAbs ≤ 100000 then g a b.toNat σ else .fail
      | _ => .fail
    | _ => .fail) W Q E := by
    unfold repB at hk
    unfold lCons lNil
    cases hq : f ρ W.σ <;> rw [hq] at hk <;> exact hk
  refine wpAny_BinOp (PySem.wpAny_List_spliced (hl env A W ρ p' H _ _ (K.bind hk' (fun _ => id) fun xs vs σ₁ W₁ _ x₁ H₁ _ r₁ hk₁ => ?_)))
  split at hk₁
  · rename_i a _
    cases r₁ with
    | cons _ y _ _ hv hs =>
    cases hs
    refine ⟨by rw [sizeLine_eq]; simp, ?_⟩
    have gr : ∀ b o, W₁.h.get? b = some o → (W₁.h.push (listOf [y].toArray 0)).get? b = some o := fun _ _ e => Heap.get?_push_of_some _ e
    have x₂ : Ext C noOwn W₁ (W₁.withHeap (W₁.h.push (listOf [y].toArray 0)) W₁.s.toks) := Ext.grow _ gr
    have H₂ : HR C (W₁.withHeap (W₁.h.push (listOf [y].toArray 0)) W₁.s.toks) := H₁.grow _ gr
    have hnew : (W₁.h.push (listOf [y].toArray 0)).get? W₁.h.objs.size = some (listOf [y].toArray 0) := Heap.get?_push_size _ rfl
    have ra : (W₁.withHeap (W₁.h.push (listOf [y].toArray 0)) W₁.s.toks).VR a y := VR.up x₂ H₁ hv
    refine hh env A (W₁.withHeap (W₁.h.push (listOf [y].toArray 0)) W₁.s.toks) ρ ((H.ext x₁ H₁).ext x₂ H₂) _ _ (K.bind (hk₁.shift x₂) (fun _ => id) fun b vb σ₃ W₃ _ x₃ H₃ _ r₃ hk₃ => ?_)
    split at hk₃
    · rename_i b' _
      split at hk₃
      · rename_i hb
        cases r₃
        obtain ⟨o', e3, k3⟩ := x₃.keep W₁.h.objs.size _ hnew (newAp H₁) (H₁.out (Heap.get?_none_of_le (Nat.le_refl _))).2 id
        obtain rfl := k3.eq (fun es n => by simp)
        refine mul_listP e3 (by omega) (by omega) (by simp; omega) ?_
        have e : List.foldl (fun x1 x2 => x1 ++ x2) #[] (List.replicate (if (List.toArray [y]).isEmpty = true then 0 else b'.toNat) (List.toArray [y])) = (List.replicate b'.toNat y).toArray := by
          rw [if_neg (by simp)]; rw [show List.toArray [y] = #[y] from rfl, fold_one]; simp
        rw [e]
        exact hg H₃ (VR.up x₃ H₂ ra) hk₃
      · exact hk₃.elim
    · exact hk₃.elim
  · exact hk₁.elim
theorem SE_repV {e r : Expr} {p p' : Pos} {f h : EA} (hf : SE C k sc e f) (hh : SE C k sc r h) (he : ∀ env, starEach [e] env = (false, eval e env) :: starEach [] env := by intro _; rfl) :
    SE C k sc (.BinOp (.List [e] p') .Mult r p) (eRepV f h) := SE_rep hf hh (fun {W a y n Q E} H ra hk =>
  hk.push H (listOf (List.replicate n y).toArray 0) W.s.toks (.lst _ (List.replicate n y) _ 0 _ (Heap.get?_push_size _ rfl) rfl rfl (newAp H) (VsR.replicate (VR.up (Ext.grow _ fun _ _ e => Heap.get?_push_of_some _ e) H ra) _))) he
theorem SE_repH {e r : Expr} {p p' : Pos} {f h : EA} (hf : SE C k sc e f) (hh : SE C k sc r h) (he : ∀ env, starEach [e] env = (false, eval e env) :: starEach [] env := by intro _; rfl) :
    SE C k sc (.BinOp (.List [e] p') .Mult r p) (eRepH f h) := SE_rep hf hh (fun {W a y n Q E} H ra hk => hk.newList H (VsR.replicate ra n) W.s.toks) he
end

/-! ## stores by subscript -/
noncomputable def lset {α : Type} (l : List α) (i : Int) (v : α) : Option (List α) := if 0 ≤ i ∧ i < l.length then some (l.set i.toNat v) else none
noncomputable def vSetItem (a b v : V) (σ : AH) : Res Unit := match a, b with
  | .ref n, .int i => match σ[n]? with
    | some (.list l) => match lset l i v with
      | some l' => if sizeOk' l.length then .ok () (σ.set n (.list l')) else .fail
      | none => .fail
    | _ => .fail
  | .ref n, .str k => match σ[n]? with
    | some (.dict l) => if sizeOk' l.length then .ok () (σ.set n (.dict (dput k v l))) else .fail
    | _ => .fail
  | _, _ => .fail

theorem setItem_listP {prog : Program} {w : World} {A : Around} {E : Value → Shared → Prop} {s : Shared} {l : Addr} {items : Array Value} {n : Nat} {k : Int} {t : Tok} {v : Value} {Q : Unit → Shared → Prop} (ho : s.heap.get? l = some (listOf items n))
    (h0 : 0 ≤ k) (hfit : k < 2 ^ 63) (hn : k < items.size)
    (hQ : Q () { s with heap := s.heap.update l (Obj.mapSeq (·.setIfInBounds k.toNat v)) }) : wpAny (model prog w) A (setItem (.ref l) (.int k t) v) Q E s := by
  have hl : s.heap.IsList l items := ⟨_, ho, rfl, n, rfl⟩
  unfold setItem
  try with_reducible refine wpAny_holding ?_
  first | refine wpAny_bind (wpAny_pure ?_) | skip
  refine wpAny_bind (wpAny_sequenceKey hl.typeIs (by decide) ?_)
  refine wpAny_bind (wpAny_callSpecial?_slot (name := PySem.Str.ofString "__setitem__") hl.typeIs slot_list_setitem
    (wpAny_call_entry slot_list_setitem hl.typeIs entry_list_setitem ?_ (args_list_setitem _ _ _)))
  show wpAny _ _ (Builtin.List.listSubscript? (.int k t) >>= _) _ _ s
  refine wpAny_bind (wpAny_listSubscript_int (fitsIndex_of h0 hfit) ?_)
  clear hfit
  obtain ⟨j, rfl⟩ := Int.eq_ofNat_of_zero_le h0
  have hj : j < items.size := by omega
  have hx' : items[j]? = some items[j] := Array.getElem?_eq_getElem hj
  show wpAny _ _ ((seqItemAt l j >>= fun r => pure (r.map (j, ·))) >>= _) _ _ s
  refine wpAny_bind (wpAny_bind (wpAny_seqItemAt ho rfl (wpAny_pure ?_)))
  rw [hx']
  show wpAny _ _ (setSeqItemAt l j v >>= _) _ _ s
  refine wpAny_bind (wpAny_setSeqItemAt ho rfl ?_)
  first
    | exact wpAny_bind (wpAny_pure (wpAny_pure ⟨.none, rfl, wpAny_pure hQ⟩))
    | exact wpAny_pure ⟨.none, rfl, wpAny_pure hQ⟩

section
variable {C : Cx} {k : Nat} {sc : Scope}
theorem setItemP {A : Around} {W : Wd} {a b v : V} {x y z : Value} (H : HR C W) (ra : W.VR a x) (rb : W.VR b y) (rv : W.VR v z) : TJ C noOwn urel A (setItem x y z) (vSetItem a b v W.σ) W := by
  intro Q E hk
  unfold vSetItem at hk
  split at hk
  · rename_i n i
    split at hk
    · rename_i l q
      split at hk
      · rename_i l' e
        split at hk
        · rename_i hz
          cases ra; cases rb
          obtain ⟨ws, ep, h1, h2⟩ := H.obj n _ q
          have hlen := h2.length
          unfold lset at e
          split at e
          · rename_i hi
            cases e
            have hz' := sl100 hz
            rw [sizeLine_eq] at hz'
            refine setItem_listP h1 hi.1 (by omega) (by rw [List.size_toArray, ← hlen]; exact hi.2) ?_
            obtain ⟨n', e'⟩ := set_push ws.toArray ep (fun x => x.setIfInBounds i.toNat z)
            exact hk.updList (xs := ws.set i.toNat z) (ep := n') H q ((Heap.get?_update_self _ h1 (by rw [e']; rfl)).trans (by rw [e']; simp)) (Heap.SameBut.update ..) (h2.set _ _ _ rv) W.s.toks trivial
          · cases e
        · exact hk.elim
      · exact hk.elim
    · exact hk.elim
  · rename_i n kk
    split at hk
    · rename_i l q
      split at hk
      · rename_i hz
        cases ra; cases rb
        obtain ⟨kvs, h1, h2, _⟩ := H.obj n _ q
        exact wpAny_setItem_pairs (strKind_is C.prog C.w _ _) h1 (fun h' hm' hs' => hk.updDict H q hm' hs' (h2.put rv) _ trivial) (by rw [h2.length]; exact sl100 hz)
      · exact hk.elim
    · exact hk.elim
  · exact hk.elim

noncomputable def gSub (f g : EA) : GA := fun v ρ σ => (f ρ σ).bind fun a σ => (g ρ σ).bind fun b σ => (vSetItem a b v σ).bind fun _ σ => .ok ρ σ
theorem SG_sub {o i : Expr} {p f g} (hf : SE C k sc o f) (hg : SE C k sc i g) : SG C k sc (.Subscript o i p) (gSub f g) := fun env A W ρ v y H r Q E hk => by
  refine kas_sub (hf env A W ρ H _ _ (K.bind hk (fun _ => False.elim) fun x a σ₁ W₁ _ x₁ H₁ _ r₁ hk₁ => ?_))
  have h1 := H.ext x₁ H₁
  refine hg env A W₁ ρ h1 _ _ (K.bind hk₁ (fun _ => False.elim) fun z b σ₂ W₂ _ x₂ H₂ _ r₂ hk₂ => ?_)
  have h2 := h1.ext x₂ H₂
  refine setItemP H₂ (VR.up x₂ H₁ r₁) r₂ (VR.up x₂ H₁ (VR.up x₁ H.hr r)) _ _ (K.bind hk₂ (fun _ => False.elim) fun z b σ₃ W₃ _ x₃ H₃ _ r₃ hk₃ => ?_)
  exact hk₃.here H₃ (h2.fr.ext H₂ x₃)
end
/-! ## small expressions -/
section
variable {C : Cx} {k : Nat} {sc : Scope}
noncomputable def eNeg (f : EA) : EA := fun ρ σ => (f ρ σ).bind fun v σ => match v with
  | .int i => .ok (.int (-i)) σ
  | _ => .fail
theorem SE_neg {e p f} (hf : SE C k sc e f) : SE C k sc (.UnaryOp .USub e p) (eNeg f) := fun env A W ρ H Q E hk =>
  wpAny_UnaryOp (hf env A W ρ H _ _ (K.bind hk (fun _ => id) fun x a σ₁ W₁ _ x₁ H₁ _ r₁ hk₁ => by
    split at hk₁
    · cases r₁; exact PyProof.Rows.neg_int (hk₁.tok H₁ _ (.int _ _))
    · exact hk₁.elim))
noncomputable def eGlob (i : Int) : EA := fun _ σ => .ok (.int i) σ
theorem SE_glob {x : String} {i : Int} {t : Tok} {p : Pos} (hg : sc.names.lookup (sname x) = some .globalImplicit) (hm : nsIn C.K mainGlobals (sname x) = some (some (.int i t))) (hd : (sname x == ("__debug__" : PySem.Str)) = false) :
    SE C k sc (.Name (PySem.Str.ofString x) p) (eGlob i) := fun env A W ρ H Q E hk => globalName H hg hm hd (hk.here H.hr (.int _ _))
/-- {} -/
noncomputable def eDict0 : EA := fun _ σ => .ok (.ref σ.length) (σ ++ [.dict []])
theorem SE_dict0 {p} : SE C k sc (.Dict [] [] p) eDict0 := fun env A W ρ H Q E hk => by
  refine wpAny_Dict_empty ?_
  have kp : ∀ b o, W.h.get? b = some o → (W.h.push { cls := .type "dict", data := .dict #[] }).get? b = some o := fun _ _ e => Heap.get?_push_of_some _ e
  have hn : W.h.get? W.h.objs.size = none := Heap.get?_none_of_le (Nat.le_refl _)
  have x : Ext C noOwn W (W.new (.dict []) (W.h.push { cls := .type "dict", data := .dict #[] }) W.s.toks W.h.objs.size) := Ext.new _ _ hn kp
  have hι : (W.new (.dict []) (W.h.push { cls := .type "dict", data := .dict #[] }) W.s.toks W.h.objs.size).ι W.nx = W.h.objs.size := if_pos rfl
  refine hk _ (W.new (.dict []) (W.h.push { cls := .type "dict", data := .dict #[] }) W.s.toks W.h.objs.size) x (H.hr.new _ _ hn ⟨_, Heap.get?_push_size _ rfl⟩ kp ?_) rfl ?_
  · obtain ⟨a, o, ha, ho⟩ := C.sysMod
    exact ⟨[], by rw [hι]; exact Heap.DictOf.new _, .nil, by rw [hι]; exact Nat.ne_of_gt (Nat.lt_of_le_of_lt ha (Heap.lt_size (H.hr.keep _ _ ho)))⟩
  · have := VR.ref (ι := (W.new (.dict []) (W.h.push { cls := .type "dict", data := .dict #[] }) W.s.toks W.h.objs.size).ι) (h := (W.new (.dict []) (W.h.push { cls := .type "dict", data := .dict #[] }) W.s.toks W.h.objs.size).h) (nx := (W.new (.dict []) (W.h.push { cls := .type "dict", data := .dict #[] }) W.s.toks W.h.objs.size).nx) W.nx (by rw [nx_new]; omega)
    rw [hι] at this
    exact this

theorem toNat_max2 (a b : Nat) : (max (a : Int) (b : Int)).toNat = max a b := by
  rcases Nat.le_total a b with h | h
  · rw [Int.max_eq_right (Int.ofNat_le.mpr h), Nat.max_eq_right h, Int.toNat_natCast]
  · rw [Int.max_eq_left (Int.ofNat_le.mpr h), Nat.max_eq_left h, Int.toNat_natCast]
/-- a < b < c -/
noncomputable def tChain (o₁ o₂ : Op2) (f g h : EA) : BA := fun ρ σ => (f ρ σ).bind fun a σ => (g ρ σ).bind fun b σ => ((o₁ a b σ).bind asB).bind fun c σ => if c then (h ρ σ).bind fun d σ => (o₂ b d σ).bind asB else .ok false σ
theorem ST_chain {l r₁ r₂ : Expr} {op₁ op₂ : CmpOp} {p f g h} {o₁ o₂ : Op2} (hf : SE C k sc l f) (hg : SE C k sc r₁ g) (hh : SE C k sc r₂ h) (h₁ : CmpR C op₁ o₁) (h₂ : CmpR C op₂ o₂)
    (hm : lastMarks [op₁, op₂] [r₁, r₂] = false := by with_unfolding_all rfl) : ST C k sc (.Compare l [op₁, op₂] [r₁, r₂] p) (tChain o₁ o₂ f g h) := fun env A W ρ H Q E hk => by
  refine isTrue_chain (hm := hm) (hf env A W ρ H _ _ (K.bind hk (fun _ => id) fun x a σ₁ W₁ _ x₁ H₁ _ r₁ hk₁ => ?_))
  have i1 := H.ext x₁ H₁
  show wpAny _ A (do
    let rv ← holding [x] (eval _ env)
    standAt p
    let c ← holding [x, rv] (compareOp op₁ x rv)
    release [x, rv] [c]
    if ← holding [c, rv] (truthy c) then testChain p rv [op₂] [eval _ env] else pure false) Q E W₁.s
  refine wpAny_bind (wpAny_holding (hg env A W₁ ρ i1 _ _ (K.bind hk₁ (fun _ => id) fun y b σ₂ W₂ _ x₂ H₂ _ r₂ hk₂ => ?_)))
  have i2 := i1.ext x₂ H₂
  refine wpAny_bind (wpAny_standAt (wpAny_bind (wpAny_holding ?_)))
  have hk₂' : K C noOwn brel ((o₁ a b W₂.σ).bind fun v σ => (asB v σ).bind fun c σ => if c then (h ρ σ).bind fun d σ => (o₂ b d σ).bind asB else .ok false σ) W₂ Q E := by
    cases hq : o₁ a b W₂.σ <;> rw [hq] at hk₂ <;> exact hk₂
  refine h₁ k A W₂ a b x y H.room H₂ (VR.up x₂ H₁ r₁) r₂ _ _ (K.bind hk₂' (fun _ => id) fun z c σ₃ W₃ _ x₃ H₃ _ r₃ hk₃ => ?_)
  have i3 := i2.ext x₃ H₃
  refine wpAny_bind (PySem.wpAny_release (wpAny_bind (wpAny_holding ?_)))
  refine truthyK H₃ r₃ _ _ (K.bind hk₃ (fun _ => id) fun t c' σ₄ W₄ _ x₄ H₄ _ r₄ hk₄ => ?_)
  subst r₄
  have i4 := i3.ext x₄ H₄
  cases t with
  | false => exact wpAny_pure (hk₄.here H₄ rfl)
  | true =>
    show wpAny _ A (do
      let rv ← holding [y] (eval _ env)
      standAt p
      let c ← operate [y, rv] (compareOp op₂ y rv)
      holding [c] (truthy c)) Q E W₄.s
    refine wpAny_bind (wpAny_holding (hh env A W₄ ρ i4 _ _ (K.bind hk₄ (fun _ => id) fun z' d σ₅ W₅ _ x₅ H₅ _ r₅ hk₅ => ?_)))
    refine wpAny_bind (wpAny_standAt (wpAny_bind ?_))
    unfold operate
    refine wpAny_bind (wpAny_holding ?_)
    refine h₂ k A W₅ b d y z' H.room H₅ (VR.up x₅ H₄ (VR.up x₄ H₃ (VR.up x₃ H₂ r₂))) r₅ _ _ (K.bind hk₅ (fun _ => id) fun w e σ₆ W₆ _ x₆ H₆ _ r₆ hk₆ => ?_)
    exact wpAny_bind (PySem.wpAny_release (wpAny_pure (wpAny_holding (truthyK H₆ r₆ _ _ hk₆))))
end

/-! ## a slice is stored -/
theorem setItem_sliceP {prog : Program} {w : World} {A : Around} {E : Value → Shared → Prop} {s : Shared} {l b sl : Addr} {items new : Array Value} {n : Nat} {vl vu : Value} {lo hi : Option Int} {Q : Unit → Shared → Prop} (ho : s.heap.get? l = some (listOf items n))
    (hs : s.heap.IsSliceOf sl vl vu .none) (pl : IsPart vl lo) (pu : IsPart vu hi) (hb : s.heap.IsList b new) (hsz : items.size + new.size ≤ sizeLine) (hne : Builtin.List.listSameRef (.ref l) (.ref b) = false)
    (h : Q () { s with heap := s.heap.update l (Obj.mapSeq fun xs => xs.extract 0 (lo.elim 0 (clipAt items.size)) ++ new ++ xs.extract (max (lo.elim 0 (clipAt items.size)) (hi.elim items.size (clipAt items.size))) xs.size) }) :
    wpAny (model prog w) A (setItem (.ref l) (.ref sl) (.ref b)) Q E s := by
  have hl : s.heap.IsList l items := ⟨_, ho, rfl, n, rfl⟩
  obtain ⟨os, hos, hcs, hds⟩ := id hs
  obtain ⟨ob, hob, hcb, nb, hdb⟩ := id hb
  have hTs : s.TypeIs (.ref sl) "slice" := ⟨os, hos, hcs⟩
  unfold setItem
  try with_reducible refine wpAny_holding ?_
  first | refine wpAny_bind (wpAny_pure ?_) | skip
  refine wpAny_bind (wpAny_sequenceKey hl.typeIs (by decide) ?_)
  refine wpAny_bind (wpAny_callSpecial?_slot (name := PySem.Str.ofString "__setitem__") hl.typeIs slot_list_setitem
    (wpAny_call_entry slot_list_setitem hl.typeIs entry_list_setitem ?_ (args_list_setitem _ _ _)))
  show wpAny _ _ (Builtin.List.listSubscript? (.ref sl) >>= _) _ _ s
  refine wpAny_bind ?_
  unfold Builtin.List.listSubscript?
  refine wpAny_bind (wpAny_specialOf hTs slice_no_index ?_)
  simp only [Option.isNone_none, if_true]
  refine wpAny_pure ?_
  show wpAny _ _ (typeOf (.ref sl) >>= _) _ _ s
  refine wpAny_bind (wpAny_typeOf hTs ?_)
  rw [if_neg (by decide)]
  rw [listSliceParts_eq]
  refine wpAny_bind (wpAny_bind (wpAny_field hos hds (x := .none) rfl (wpAny_bind (wpAny_listPart .none ?_))))
  rw [if_neg (show ¬ ((rawPart none == rawInt 0) = true) from Bool.false_ne_true)]
  refine wpAny_bind (wpAny_field hos hds (x := vl) rfl (wpAny_bind (wpAny_listPart pl ?_)))
  refine wpAny_bind (wpAny_field hos hds (x := vu) rfl (wpAny_bind (wpAny_listPart pu (wpAny_pure ?_))))
  rw [if_neg (by rw [hne]; decide)]
  refine wpAny_bind (m := Builtin.List.listAllItems (.ref b) "must assign iterable to extended slice") ?_
  unfold Builtin.List.listAllItems
  refine wpAny_bind (wpAny_typeOf hb.typeIs ?_)
  rw [if_pos (by decide)]
  refine listItems_at hob hdb ?_
  refine wpAny_bind (listItems_at ho rfl ?_)
  refine wpAny_bind (wpAny_of_eq (sliceIndices_raw lo hi none items.size (by simp)) ?_)
  rw [sliceBounds_plain]
  simp only
  rw [if_pos (by decide)]
  refine wpAny_bind (wpAny_rule ?_)
  rw [if_neg (by unfold Builtin.List.listTooLong; simp; omega)]
  refine wpAny_bind (listUpdate_at ho rfl ?_ (Nat.le_trans (Nat.le_add_right _ _) (by assumption)) ?_)
  · refine wpAny_bind (wpAny_letGo (wpAny_pure ⟨.none, rfl, wpAny_pure ?_⟩))
    have e : (max ((lo.elim 0 (clipAt items.size) : Nat) : Int) ((hi.elim items.size (clipAt items.size) : Nat) : Int)).toNat = max (lo.elim 0 (clipAt items.size)) (hi.elim items.size (clipAt items.size)) := toNat_max2 _ _
    simp only [Int.toNat_natCast, e]
    exact h
  · simp; omega
theorem splice_arr (ws us : List Value) (a b : Nat) : ws.toArray.extract 0 a ++ us.toArray ++ ws.toArray.extract b ws.toArray.size = (ws.take a ++ us ++ ws.drop b).toArray := by
  apply Array.ext'
  simp only [Array.toList_append, Array.toList_extract, List.extract_eq_take_drop, List.size_toArray]
  simp
  exact List.take_of_length_le (by simp)

section
variable {C : Cx} {k : Nat} {sc : Scope}
/-- xs[lo:hi] = a new list -/
noncomputable def vSetSlc (a lo hi v : V) (σ : AH) : Res Unit := match a, partOf lo, partOf hi, v with
  | .ref n, some lo, some hi, .lst m => match σ[n]? with
    | some (.list l) => if sizeOk' (l.length + m.length) then .ok () (σ.set n (.list (l.take (lo.elim 0 (clipAt l.length)) ++ m ++ l.drop (max (lo.elim 0 (clipAt l.length)) (hi.elim l.length (clipAt l.length)))))) else .fail
    | _ => .fail
  | _, _, _, _ => .fail
noncomputable def gSlc (f lo hi : EA) : GA := fun v ρ σ => (f ρ σ).bind fun a σ => (lo ρ σ).bind fun lo σ => (hi ρ σ).bind fun hi σ => (vSetSlc a lo hi v σ).bind fun _ σ => .ok ρ σ
theorem SG_slc {e : Expr} {lo hi : Option Expr} {p pp f flo fhi} (hf : SE C k sc e f) (hlo : SP C k sc lo flo) (hhi : SP C k sc hi fhi) : SG C k sc (.Subscript e (.Slice lo hi none pp) p) (gSlc f flo fhi) := fun env A W ρ v yv H r Q E hk => by
  refine kas_sub (hf env A W ρ H _ _ (K.bind hk (fun _ => False.elim) fun x a σ₁ W₁ _ x₁ H₁ _ r₁ hk₁ => ?_))
  have h1 := H.ext x₁ H₁
  refine wpAny_Slice (hlo env A W₁ ρ h1 _ _ (K.bind hk₁ (fun _ => False.elim) fun y lo' σ₂ W₂ _ x₂ H₂ _ r₂ hk₂ => ?_))
  have h2 := h1.ext x₂ H₂
  refine hhi env A W₂ ρ h2 _ _ (K.bind hk₂ (fun _ => False.elim) fun z hi' σ₃ W₃ _ x₃ H₃ _ r₃ hk₃ => ?_)
  have h3 := h2.ext x₃ H₃
  refine wpAny_evalPart_none ?_
  have ra := VR.up x₃ H₂ (VR.up x₂ H₁ r₁)
  have rlo := VR.up x₃ H₂ r₂
  have rv := VR.up x₃ H₂ (VR.up x₂ H₁ (VR.up x₁ H.hr r))
  have gr : ∀ b o, W₃.h.get? b = some o → (W₃.h.push { cls := .type "slice", data := .fields #[y, z, .none] }).get? b = some o := fun _ _ e => Heap.get?_push_of_some _ e
  have x₄ : Ext C noOwn W₃ (W₃.withHeap (W₃.h.push { cls := .type "slice", data := .fields #[y, z, .none] }) W₃.s.toks) := Ext.grow _ gr
  have H₄ : HR C (W₃.withHeap (W₃.h.push { cls := .type "slice", data := .fields #[y, z, .none] }) W₃.s.toks) := H₃.grow _ gr
  unfold vSetSlc at hk₃
  split at hk₃
  · rename_i n olo ohi m e1 e2 _
    refine hide fun X_ k_ => ?_
    obtain ⟨p1, q1, e3, e4⟩ := part_is rlo e1
    obtain ⟨p2, q2, e5, e6⟩ := part_is r₃ e2
    refine k_ ?_
    clear k_ X_
    split at hk₃
    · rename_i l q
      split at hk₃
      · rename_i hz
        cases ra with
        | ref _ hn =>
        cases rv with
        | lst _ us a ep o ho hc hd ha hu =>
        obtain ⟨ws, epl, g1, g2⟩ := H₃.obj n _ q
        have hlen := g2.length
        have hlen2 := hu.length
        have hne : Builtin.List.listSameRef (.ref (W₃.ι n)) (.ref a) = false := beq_eq_false_iff_ne.mpr (ha n hn)
        refine setItem_sliceP (items := ws.toArray) (new := us.toArray) (gr _ _ g1) (Heap.IsSliceOf.new ..) p1 p2 ⟨o, gr _ _ ho, hc, ep, hd⟩ (by rw [List.size_toArray, List.size_toArray, ← hlen, ← hlen2]; exact sl100 hz) hne ?_
        have hk₄ := hk₃.shift (W' := W₃.withHeap (W₃.h.push { cls := .type "slice", data := .fields #[y, z, .none] }) W₃.s.toks) (Ext.grow _ gr)
        obtain ⟨n', e'⟩ := set_push ws.toArray epl fun xs => xs.extract 0 (olo.elim 0 (clipAt ws.toArray.size)) ++ us.toArray ++ xs.extract (max (olo.elim 0 (clipAt ws.toArray.size)) (ohi.elim ws.toArray.size (clipAt ws.toArray.size))) xs.size
        refine K.updList (W := W₃.withHeap (W₃.h.push { cls := .type "slice", data := .fields #[y, z, .none] }) W₃.s.toks) (xs := ws.take (olo.elim 0 (clipAt ws.length)) ++ us ++ ws.drop (max (olo.elim 0 (clipAt ws.length)) (ohi.elim ws.length (clipAt ws.length)))) (ep := n') hk₄ H₄ q
          ((Heap.get?_update_self _ (gr _ _ g1) (by rw [e']; rfl)).trans ?_) (Heap.SameBut.update ..) ?_ W₃.s.toks ?_
        · rw [e', splice_arr]; rfl
        · rw [hlen]
          exact (((VsR.up x₄ H₃ g2).take _).append (VsR.up x₄ H₃ hu)).append ((VsR.up x₄ H₃ g2).drop _)
        · have x₅ : Ext C noOwn (W₃.withHeap (W₃.h.push { cls := .type "slice", data := .fields #[y, z, .none] }) W₃.s.toks) ((W₃.withHeap (W₃.h.push { cls := .type "slice", data := .fields #[y, z, .none] }) W₃.s.toks).upd n (.list (l.take (olo.elim 0 (clipAt l.length)) ++ m ++ l.drop (max (olo.elim 0 (clipAt l.length)) (ohi.elim l.length (clipAt l.length)))))
              ((W₃.h.push { cls := .type "slice", data := .fields #[y, z, .none] }).update (W₃.ι n) (Obj.mapSeq fun xs => xs.extract 0 (olo.elim 0 (clipAt ws.toArray.size)) ++ us.toArray ++ xs.extract (max (olo.elim 0 (clipAt ws.toArray.size)) (ohi.elim ws.toArray.size (clipAt ws.toArray.size))) xs.size)) W₃.s.toks) :=
            Ext.upd _ hn (Heap.SameBut.update ..) ⟨_, Heap.get?_update_self _ (gr _ _ g1) (by rw [e']; rfl)⟩
          exact (h3.fr.ext H₃ x₄).ext H₄ x₅
      · exact hk₃.elim
    · exact hk₃.elim
  · exact hk₃.elim
end

/-! ## unpacking -/
noncomputable def seqAt (σ : AH) : V → Option (List V)
  | .tup l => some l
  | v => listAt σ v
theorem draw_listP {prog : Program} {w : World} {A : Around} {E : Value → Shared → Prop} {it l : Addr} {items : Array Value} (hne : l ≠ it) : ∀ (n i : Nat) (s : Shared) (Q : List Value → Shared → Prop), s.heap.IsListIter it l i → s.heap.IsList l items → i + n ≤ items.size →
    (∀ h', h'.IsListIter it l (i + n) → Heap.SameBut it s.heap h' → Q ((items.toList.drop i).take n) { s with heap := h' }) → wpAny (model prog w) A (draw (.ref it) n) Q E s
  | 0, i, s, Q, hit, _, _, hQ => by
    show wpAny _ _ (pure []) Q E s
    exact wpAny_pure (by simpa using hQ s.heap hit (Heap.SameBut.refl ..))
  | n + 1, i, s, Q, hit, ht, hle, hQ => by
    have hlt : i < items.size := by lia
    show wpAny _ _ (pyNext (.ref it) >>= _) Q E s
    refine wpAny_bind (wpAny_pyNext_list_item hit ht (x := items[i]) (by simp [hlt]) fun h₁ hit₁ hs₁ => ?_)
    refine wpAny_bind (wpAny_holding (draw_listP hne n (i + 1) _ _ hit₁ (ht.extBut hs₁.extBut hne) (by lia) fun h₂ hit₂ hs₂ => wpAny_pure ?_))
    have hd : items.toList.drop i = items[i] :: items.toList.drop (i + 1) := by simp [List.drop_eq_getElem_cons, hlt]
    have := hQ h₂ (by rw [show i + (n + 1) = i + 1 + n by lia]; exact hit₂) (hs₁.trans hs₂)
    rw [hd, List.take_succ_cons] at this
    exact this
theorem unpackItems_listP {prog : Program} {w : World} {A : Around} {E : Value → Shared → Prop} {s : Shared} {l : Addr} {items : Array Value} {Q : List Value → Shared → Prop} (hh : A.handled = none) (hl : s.heap.IsList l items)
    (hQ : ∀ h', Heap.ExtBut s.heap.objs.size s.heap h' → Q items.toList { s with heap := h' }) : wpAny (model prog w) A (unpackItems (.ref l) items.size none) Q E s := by
  have hlt : l ≠ s.heap.objs.size := by obtain ⟨o, ho, _⟩ := hl; exact Nat.ne_of_lt (Heap.lt_size ho)
  unfold unpackItems
  refine wpAny_bind ?_
  unfold notIterableAtAll
  refine wpAny_bind (wpAny_specialOf hl.typeIs PySem.F.slot_list_iter.lookup ?_)
  refine wpAny_pure ?_
  simp only [Bool.false_eq_true, if_false]
  refine wpAny_bind (wpAny_holding (wpAny_pyIter_list hl ?_))
  refine wpAny_bind (wpAny_holding (draw_listP hlt items.size 0 _ _ ⟨_, Heap.get?_push_size _ rfl, rfl, rfl⟩ (hl.push _) (by lia) fun h₁ hit₁ hs₁ => ?_))
  have hall : List.take items.size (List.drop 0 items.toList) = items.toList := by
    rw [List.drop_zero]; exact List.take_of_length_le (by simp)
  rw [hall]
  rw [if_neg (by simp)]
  have ht₁ : h₁.IsList l items := (hl.push _).extBut hs₁.extBut hlt
  refine wpAny_bind (wpAny_holding (wpAny_pyNext_list_end hh hit₁ ht₁ (by simp) fun h₂ he₂ => ?_))
  simp only [Option.isSome_none, Bool.false_eq_true, if_false]
  refine wpAny_pure (hQ h₂ fun b o hb e => he₂ b o hb (hs₁.extBut b o hb (Heap.get?_push_of_some _ e)))

noncomputable def unpackR (n : Nat) (v : V) (σ : AH) : Res (List V) := match seqAt σ v with
  | some l => if l.length = n then .ok l σ else .fail
  | none => .fail
section
variable {C : Cx} {k : Nat} {sc : Scope}
theorem unpackP {A : Around} {W : Wd} {v : V} {x : Value} {n : Nat} (R : Room A k) (H : HR C W) (r : W.VR v x) : TJ C noOwn vsrel A (unpackItems x n none) (unpackR n v W.σ) W := by
  intro Q E hk
  unfold unpackR at hk
  split at hk
  · rename_i l e
    split at hk
    · rename_i hn
      have fin : ∀ {vs : List Value} h', W.VsR l vs → Heap.ExtBut W.h.objs.size W.h h' → Q vs { W.s with heap := h' } := fun h' hv he => by
        have gr : ∀ b o, W.h.get? b = some o → h'.get? b = some o := fun b o q => he b o (Nat.ne_of_lt (Heap.lt_size q)) q
        exact hk _ (W.withHeap h' W.s.toks) (Ext.grow _ gr) (H.grow _ gr) rfl (VsR.up (Ext.grow _ gr) H hv)
      have lists : listAt W.σ v = some l → wpAny (model C.prog C.w) A (unpackItems x n none) Q E W.s := fun e => by
        refine hide fun X_ k_ => ?_
        obtain ⟨a, vs, rfl, h1, h2⟩ := listAt_is H r e
        refine k_ ?_
        clear k_ X_
        have hsz : n = vs.toArray.size := by rw [List.size_toArray, ← h2.length]; exact hn.symm
        rw [hsz]
        exact unpackItems_listP R.hand h1 fun h' he => fin h' h2 he
      unfold seqAt at e
      split at e
      · cases e
        refine hide fun X_ k_ => ?_
        obtain ⟨a, vs, rfl, h1, h2⟩ := tup_is r
        refine k_ ?_
        clear k_ X_
        have hsz : n = vs.toArray.size := by rw [List.size_toArray, ← h2.length]; exact hn.symm
        rw [hsz]
        exact unpackItems_tuple R.hand h1 fun h' he => fin h' h2 he
      · exact lists e
    · exact hk.elim
  · exact hk.elim

theorem VR.ownUp {env : Env} {A : Around} {W W' : Wd} {ρ : Loc} (F : FR C env A W ρ) (H : HR C W) (x : Ext C (Own env) W W') {v : V} {y : Value} (r : W.VR v y) : W'.VR v y := by
  refine VR.ext x (fun b o hb e => ?_) H.tabNot r
  rcases hb with rfl | ⟨z, hz⟩
  · obtain ⟨m, hm, _⟩ := F.ns
    exact (ns_plainish hm o e).2
  · obtain ⟨_, _, _, v, hc⟩ := F.celAp z b hz
    exact (cell_plainish hc o e).2
theorem VsR.ownUp {env : Env} {A : Around} {W W' : Wd} {ρ : Loc} (F : FR C env A W ρ) (H : HR C W) (x : Ext C (Own env) W W') {v : List V} {y : List Value} (r : W.VsR v y) : W'.VsR v y := VsR.mono (fun _ _ => VR.ownUp F H x) r

/-- targets, in order -/
noncomputable abbrev GsA := List V → Loc → AH → Res Loc
noncomputable def SGs (C : Cx) (k : Nat) (sc : Scope) (ts : List Expr) (g : GsA) : Prop :=
  ∀ env A W ρ vs xs, Here C k sc env A W ρ → W.VsR vs xs → TJ C (Own env) (grel C env A) A (assignInOrder ((assignEach ts env).map (·.2)) xs) (g vs ρ W.σ) W
noncomputable def gsNil : GsA := fun _ ρ σ => .ok ρ σ
noncomputable def gsCons (g : GA) (gs : GsA) : GsA := fun vs ρ σ => match vs with
  | v :: r => (g v ρ σ).bind fun ρ σ => gs r ρ σ
  | [] => .fail
theorem SGs_nil : SGs C k sc [] gsNil := fun env A W ρ vs xs H r Q E hk => by
  show wpAny _ A (assignInOrder [] xs) Q E W.s
  have e : assignInOrder [] xs = pure () := by cases xs <;> rfl
  rw [e]
  exact wpAny_pure (hk.here H.hr H.fr)
theorem SGs_cons {t ts g gs} (hg : SG C k sc t g) (hs : SGs C k sc ts gs) (ht : ∀ env, assignEach (t :: ts) env = (false, assign t env) :: assignEach ts env := by intro _; rfl) : SGs C k sc (t :: ts) (gsCons g gs) := fun env A W ρ vs xs H r Q E hk => by
  rw [ht]
  unfold gsCons at hk
  split at hk
  · rename_i v l
    cases r with
    | cons _ y _ ys hv hr =>
    show wpAny _ A (do holding ys (assign t env y); assignInOrder ((assignEach ts env).map (·.2)) ys) Q E W.s
    refine wpAny_bind (wpAny_holding (hg env A W ρ v y H hv _ _ (K.bind hk (fun _ => id) fun _ ρ₁ σ₁ W₁ _ x₁ H₁ _ F₁ hk₁ => ?_)))
    exact hs env A W₁ ρ₁ l ys ⟨H.sc, H.room, H₁, F₁⟩ (VsR.ownUp H.fr H.hr x₁ hr) _ _ hk₁
  · exact hk.elim
noncomputable def gTup (n : Nat) (gs : GsA) : GA := fun v ρ σ => (unpackR n v σ).bind fun l σ => gs l ρ σ
theorem SG_tup {ts : List Expr} {kx p} {gs : GsA} (hs : SGs C k sc ts gs) (hn : ∀ env, (assignEach ts env).length = ts.length := by intro _; rfl) (hf : ∀ env, (assignEach ts env).findIdx? (·.1) = none := by intro _; rfl) : SG C k sc (.Tuple ts kx p) (gTup ts.length gs) := fun env A W ρ v y H r Q E hk => by
  show wpAny _ A (do standAt p; unpack y (assignEach ts env)) Q E W.s
  refine wpAny_bind (wpAny_standAt ?_)
  unfold unpack
  rw [hn, hf]
  refine wpAny_bind (wpAny_holding (unpackP H.room H.hr r _ _ (K.bind hk (fun _ => False.elim) fun xs l σ₁ W₁ _ x₁ H₁ _ r₁ hk₁ => ?_)))
  exact hs env A W₁ ρ l xs (H.ext x₁ H₁) r₁ _ _ hk₁

/-- names, stored from the last -/
noncomputable def putAll : List String → List V → Loc → Loc
  | x :: xs, v :: vs, ρ => putAll xs vs (put x v ρ)
  | _, _, ρ => ρ
noncomputable def gSwap (names : List String) : GA := fun v ρ σ => (unpackR names.length v σ).bind fun l σ => .ok (putAll names.reverse l.reverse ρ) σ
theorem VsR.rev {ι nx h} : ∀ {l : List V} {xs : List Value}, VsR ι nx h l xs → VsR ι nx h l.reverse xs.reverse := fun {l xs} h => by
  cases h with
  | nil => exact .nil
  | cons a0_ a1_ a2_ a3_ hv hs => rw [List.reverse_cons, List.reverse_cons]; exact (VsR.rev hs).append (.cons _ _ _ _ hv .nil)
theorem putAllP {env : Env} {A : Around} (names : List String) : ∀ {W : Wd} {ρ : Loc} {vs : List V} {xs : List Value}, Here C k sc env A W ρ → W.VsR vs xs → (names.all fun x => setable sc x) = true →
    TJ C (Own env) (grel C env A) A (assignInOrder ((names.map sname).map fun n => bindName env n) xs) (.ok (putAll names vs ρ) W.σ) W := by
  induction names with
  | nil =>
    intro W ρ vs xs H r _ Q E hk
    have e : assignInOrder [] xs = pure () := by cases xs <;> rfl
    show wpAny _ A (assignInOrder [] xs) Q E W.s
    rw [e]
    exact wpAny_pure (hk.here H.hr H.fr)
  | cons x names ih =>
    intro W ρ vs xs H r ha Q E hk
    cases r with
    | nil => exact wpAny_pure (hk.here H.hr H.fr)
    | cons v y l ys hv hs =>
      rw [List.all_cons, Bool.and_eq_true] at ha
      show wpAny _ A (do holding ys (bindName env (sname x) y); assignInOrder ((names.map sname).map fun n => bindName env n) ys) Q E W.s
      have hk' : K C (Own env) (grel C env A) ((Res.ok (put x v ρ) W.σ).bind fun ρ σ => .ok (putAll names l ρ) σ) W Q E := hk
      refine wpAny_bind (wpAny_holding (wpAny_bindName (storeK H ha.1 hv (K.bind hk' (fun _ => id) fun _ ρ₁ σ₁ W₁ e₁ x₁ H₁ e₂ F₁ hk₁ => ?_))))
      cases e₁
      exact ih ⟨H.sc, H.room, H₁, F₁⟩ (VsR.ownUp H.fr H.hr x₁ hs) ha.2 Q E hk₁
theorem SS_swap {ts : List Expr} {kx tp} {e : Expr} {p f} {names : List String} (hf : SE C k sc e f) (hs : ∀ env, env.scope = sc → swapsWithSole [.Tuple ts kx tp] e p.line env = pure false := by intro env h; rfl)
    (hw : ∀ env, env.scope = sc → swappedStores [.Tuple ts kx tp] e env = pure (some (names.map sname))) (ha : (names.reverse.all fun x => setable sc x) = true) : SS C k sc (.Assign [.Tuple ts kx tp] e p) (sAsg f (gSwap names)) := fun env A W ρ H Q E hk => by
  refine Assign_Tuple_swapped (hf env A W ρ H _ _ (K.bind hk (fun _ => False.elim) fun x a σ₁ W₁ _ x₁ H₁ _ r₁ hk₁ => ?_)) (hs env H.sc.1) (hw env H.sc.1)
  have hk₁' : K C (Own env) (srel C env A) ((unpackR names.length a W₁.σ).bind fun l σ => (Res.ok (putAll names.reverse l.reverse ρ) σ).bind fun ρ σ => .ok (.next, ρ) σ) W₁ Q E := by
    unfold gSwap at hk₁
    cases hq : unpackR names.length a W₁.σ <;> rw [hq] at hk₁ <;> exact hk₁
  have h1 := H.ext x₁ H₁
  rw [List.length_map]
  refine unpackP H.room H₁ r₁ _ _ (K.bind hk₁' (fun _ => False.elim) fun xs l σ₂ W₂ _ x₂ H₂ _ r₂ hk₂ => ?_)
  rw [← List.map_reverse]
  refine putAllP names.reverse (h1.ext x₂ H₂) (VsR.rev r₂) ha _ _ (K.bind hk₂ (fun _ => id) fun _ ρ₃ σ₃ W₃ _ x₃ H₃ _ F₃ hk₃ => ?_)
  exact hk₃.here H₃ ⟨F₃, rfl⟩
end
/-! ## Iterators -/
inductive Src where
  | list (v : V)
  | str (l : List Nat)
  | range (n : Nat)
  | enum (v : V)
noncomputable def Src.items (σ : AH) : Src → Option (List V)
  | .list v => listAt σ v
  | .str l => some (l.map fun c => .str [c])
  | .range n => some ((List.range n).map fun (i : Nat) => V.int (i : Int))
  | .enum v => (listAt σ v).map fun l => l.zipIdx.map fun (p : V × Nat) => V.tup [.int (p.2 : Int), p.1]
noncomputable def Src.isEnum : Src → Bool
  | .enum _ => true
  | _ => false

noncomputable def Fre (C : Cx) (lo : Heap) (W : Wd) (I : Addr) : Prop := lo.get? I = none ∧ C.out I ∧ ∀ n, n < W.nx → W.ι n ≠ I
noncomputable def ItAt (C : Cx) (lo : Heap) (W : Wd) (i : Nat) (it : Value) : Src → Prop
  | .list v => ∃ I a, it = .ref I ∧ W.h.IsListIter I a i ∧ W.VR v (.ref a) ∧ Fre C lo W I
  | .str l => ∃ I t, it = .ref I ∧ W.h.IsStrIter I "str_ascii_iterator" ⟨l.toArray⟩ t i ∧ Fre C lo W I
  | .range n => ∃ I, it = .ref I ∧ IsRangeIter W.h I i (n - i) 1 ∧ Fre C lo W I
  | .enum v => ∃ e I a old, it = .ref e ∧ IsEnum W.h e I i old ∧ W.h.IsListIter I a i ∧ W.VR v (.ref a) ∧ Fre C lo W I ∧ Fre C lo W e ∧ e ≠ I

section
variable {C : Cx} {k : Nat} {sc : Scope}
theorem Fre.ext {lo : Heap} {W W' : Wd} {own : Addr → Prop} {I : Addr} {o : Obj} (f : Fre C lo W I) (x : Ext C own W W') (ho : W.h.get? I = some o) : Fre C lo W' I := ⟨f.1, f.2.1, x.notι ho f.2.2⟩
theorem Fre.keep {lo : Heap} {W W' : Wd} {own : Addr → Prop} {I : Addr} {o : Obj} {vs : Array Value} (f : Fre C lo W I) (x : Ext C own W W') (ho : W.h.get? I = some o) (hd : o.data = .fields vs) (hno : ∀ b o vs, own b → W.h.get? b = some o → o.data ≠ .fields vs) : W'.h.get? I = some o := by
  obtain ⟨o', e, k⟩ := x.keep I o ho f.2.2 f.2.1.2 (fun q => hno I o vs q ho hd)
  obtain rfl := k.eq (fun es n q => by rw [hd] at q; cases q)
  exact e
theorem ItAt.ext {lo : Heap} {W W' : Wd} {own : Addr → Prop} {i : Nat} {it : Value} {src : Src} (h : ItAt C lo W i it src) (x : Ext C own W W') (hno : ∀ b o vs, own b → W.h.get? b = some o → o.data ≠ .fields vs) (up : ∀ v y, W.VR v y → W'.VR v y) : ItAt C lo W' i it src := by
  cases src with
  | list v =>
    obtain ⟨I, a, rfl, ⟨o, ho, hc, hd⟩, hv, f⟩ := h
    exact ⟨I, a, rfl, ⟨o, f.keep x ho hd hno, hc, hd⟩, up _ _ hv, f.ext x ho⟩
  | str l =>
    obtain ⟨I, t, rfl, ⟨o, ho, hc, hd⟩, f⟩ := h
    exact ⟨I, t, rfl, ⟨o, f.keep x ho hd hno, hc, hd⟩, f.ext x ho⟩
  | range n =>
    obtain ⟨I, rfl, ho, f⟩ := h
    exact ⟨I, rfl, f.keep x ho rfl hno, f.ext x ho⟩
  | enum v =>
    obtain ⟨e, I, a, old, rfl, he, ⟨o, ho, hc, hd⟩, hv, f, g, ne⟩ := h
    exact ⟨e, I, a, old, rfl, g.keep x he rfl hno, ⟨o, f.keep x ho hd hno, hc, hd⟩, up _ _ hv, f.ext x ho, g.ext x he, ne⟩

/-- a move that keeps all but iterators (objects of fields), and makes new ones -/
structure Moved (C : Cx) (fp : List Addr) (W : Wd) (h : Heap) : Prop where
  ob : ∀ b ∈ fp, C.out b ∧ (∀ n, n < W.nx → W.ι n ≠ b) ∧ ∃ o, W.h.get? b = some o ∧ Plainish o
  kp : ∀ b o, b ∉ fp → W.h.get? b = some o → h.get? b = some o
theorem Moved.grow {W : Wd} {h : Heap} (k : ∀ b o, W.h.get? b = some o → h.get? b = some o) : Moved C [] W h := ⟨fun b hb => (nomatch hb), fun b o _ e => k b o e⟩
theorem Moved.notF {fp : List Addr} {W : Wd} {h : Heap} (m : Moved C fp W h) {b : Addr} {o : Obj} (e : W.h.get? b = some o) (hd : ∃ vs n, o.data = .seq vs n) : b ∉ fp := fun hb => by
  obtain ⟨_, _, o', e', hd'⟩ := m.ob b hb
  obtain ⟨vs, n, q⟩ := hd
  rw [e] at e'; cases e'; exact hd'.2 _ _ q
mutual
theorem VR.moved {fp : List Addr} {W : Wd} {h : Heap} {tk : Nat} (m : Moved C fp W h) : ∀ {v : V} {y : Value}, W.VR v y → (W.withHeap h tk).VR v y := fun {v y} h => by
  cases h with
  | none => exact .none
  | bool b => exact .bool b
  | int i t => exact .int i t
  | str l t => exact .str l t
  | ref n hn => exact .ref n hn
  | lst l vs a ep o ho hc hd ha hv => exact .lst l vs a ep o (m.kp _ _ (m.notF ho ⟨_, _, hd⟩) ho) hc hd ha (VsR.moved m hv)
  | tup l vs a ep ho ha hv => exact .tup l vs a ep (m.kp _ _ (m.notF ho ⟨_, _, rfl⟩) ho) ha (VsR.moved m hv)
theorem VsR.moved {fp : List Addr} {W : Wd} {h : Heap} {tk : Nat} (m : Moved C fp W h) : ∀ {v : List V} {y : List Value}, W.VsR v y → (W.withHeap h tk).VsR v y := fun {v y} h => by
  cases h with
  | nil => exact .nil
  | cons v y l ys hv hs => exact .cons v y l ys (VR.moved m hv) (VsR.moved m hs)
end
theorem Moved.hr {fp : List Addr} {W : Wd} {h : Heap} (tk : Nat) (m : Moved C fp W h) (H : HR C W) : HR C (W.withHeap h tk) := by
  have nι : ∀ n, n < W.nx → W.ι n ∉ fp := fun n hn hb => (m.ob _ hb).2.1 n hn rfl
  refine ⟨fun b o e => m.kp b o (fun q => ?_) (H.keep b o e), fun n o e => ?_, H.inj, H.above, fun n hn => let ⟨o, e⟩ := H.below n hn; ⟨o, m.kp _ _ (nι n hn) e⟩, tabs_keep H fun b o e hd => m.kp b o (fun q => ?_) e⟩
  · have := (m.ob b q).1.1; rw [e] at this; cases this
  · have hlt := lt_of_get e
    refine OR.keep (W := W) (h := H.obj n o e) (fun _ _ => rfl) (fun _ _ => VR.moved m) hlt (fun b hb ob q => m.kp b ob ?_ q) ?_
    · rcases hb with rfl | ⟨⟨fs, rfl⟩, rfl⟩
      · exact nι _ hlt
      · obtain ⟨_, _, h0, _⟩ := H.obj n _ e
        exact nι _ (lt_of_get h0)
    · rintro ⟨fs, rfl⟩; obtain ⟨_, _, h0, _⟩ := H.obj n _ e; exact h0
  · obtain ⟨h1, h2, o', e', h3⟩ := m.ob b q
    rcases hd with hd | ⟨vs', xx, qq, hd, hv⟩
    · exact h1.2 hd
    · rw [e] at e'; cases e'; exact h3.1 _ _ _ hd hv
theorem Moved.ext {fp : List Addr} {W₀ W : Wd} {h : Heap} {own : Addr → Prop} (tk : Nat) (m : Moved C fp W h) (x : Ext C own W₀ W) (hf : ∀ b ∈ fp, W₀.h.get? b = none) : Ext C own W₀ (W.withHeap h tk) := by
  have nf : ∀ b o, W₀.h.get? b = some o → b ∉ fp := fun b o e hb => by rw [hf b hb] at e; cases e
  refine ⟨let ⟨h', tk', e⟩ := x.sh; ⟨h, tk, by show { W.s with heap := h, toks := tk } = _; rw [e]⟩, fun b o e => let ⟨o', e'⟩ := x.live b o e; ⟨o', m.kp _ _ (nf b o e) e'⟩, x.nx, x.same, x.fresh, fun b o e h1 h2 h3 => ?_, fun b o e h1 h2 h3 => ?_⟩
  · obtain ⟨o', e', k⟩ := x.keep b o e h1 h2 h3
    exact ⟨o', m.kp _ _ (nf b o e) e', k⟩
  · obtain ⟨o', e', k⟩ := x.dk b o e h1 h2 h3
    exact ⟨o', m.kp _ _ (nf b o e) e', k⟩
theorem Moved.frG {fp : List Addr} {W : Wd} {h : Heap} {env : Env} {A : Around} {ρ : Loc} (tk : Nat) (m : Moved C fp W h) (F : FR C env A W ρ) (hf : ∀ b o, b ∈ fp → W.h.get? b = some o → b ≠ env.locals ∧ (∀ y, env.cells.lookup y ≠ some b) ∧ ∀ outer, Stk C A W outer → ∀ e ∈ outer, e.frame ≠ some b) : FR C env A (W.withHeap h tk) ρ := by
  obtain ⟨mm, hm, hl⟩ := F.ns
  have kL : ∀ o, W.h.get? env.locals = some o → h.get? env.locals = some o := fun o e => m.kp _ _ (fun hb => (hf _ o hb e).1 rfl) e
  have kC : ∀ y c v, env.cells.lookup y = some c → W.h.IsCell c v → h.IsCell c v := fun y c v hc ⟨o, e, hd⟩ => ⟨o, m.kp _ _ (fun hb => (hf _ o hb e).2.1 y hc) e, hd⟩
  refine ⟨F.kind, F.glob, F.blt, ⟨mm, hm.at' kL, fun y v h1 h2 => ?_⟩, fun y v h1 h2 => ?_, F.locAp, fun y c hc => ?_, F.celInj, F.celHas, ?_⟩
  · obtain ⟨z, e, r⟩ := hl y v h1 h2
    exact ⟨z, e, VR.moved m r⟩
  · obtain ⟨h3, c, z, h4, h5, h6⟩ := F.cel y v h1 h2
    exact ⟨h3, c, z, h4, kC _ _ _ h4 h5, VR.moved m h6⟩
  · obtain ⟨a1, a2, a3, v, h5⟩ := F.celAp _ c hc
    exact ⟨a1, a2, a3, v, kC _ _ _ hc h5⟩
  · obtain ⟨outer, S⟩ := F.stk
    refine ⟨outer, S.eq, fun e he => ?_⟩
    obtain ⟨h1, L, o, h2, h3, h4, h5, es, n, h6⟩ := S.at_ e he
    exact ⟨h1, L, o, h2, h3, h4, m.kp _ _ (fun hb => (hf _ o hb h5).2.2 outer S e he h2) h5, es, n, h6⟩
theorem Moved.fr {fp : List Addr} {W : Wd} {h : Heap} {env : Env} {A : Around} {ρ : Loc} (tk : Nat) (m : Moved C fp W h) (hfl : ∀ b ∈ fp, ∃ o vs, W.h.get? b = some o ∧ o.data = .fields vs) (F : FR C env A W ρ) : FR C env A (W.withHeap h tk) ρ := by
  refine m.frG tk F fun b o hb e => ?_
  obtain ⟨o', vs, e', hd⟩ := hfl b hb
  rw [e] at e'; cases e'
  refine ⟨fun q => ?_, fun y hc => ?_, fun outer S en he hfr => ?_⟩
  · subst q
    obtain ⟨mm, ⟨o', es, ep, e', hd', _⟩, _⟩ := F.ns
    rw [e] at e'; cases e'; rw [hd'] at hd; cases hd
  · obtain ⟨_, _, _, v, o', e', hd'⟩ := F.celAp _ b hc
    rw [e] at e'; cases e'; rw [hd'] at hd; cases hd
  · obtain ⟨_, L, o', h2, _, _, h5, es, n, h6⟩ := S.at_ en he
    rw [hfr] at h2; cases h2
    rw [e] at h5; cases h5; rw [h6] at hd; cases hd
theorem Moved.fr' {fp : List Addr} {W₀ W : Wd} {h : Heap} {env : Env} {A : Around} {ρ₀ ρ : Loc} (tk : Nat) (m : Moved C fp W h) (hf : ∀ b ∈ fp, W₀.h.get? b = none) (F₀ : FR C env A W₀ ρ₀) (F : FR C env A W ρ) : FR C env A (W.withHeap h tk) ρ := by
  refine m.frG tk F fun b o hb e => ?_
  have hn := hf b hb
  refine ⟨fun q => ?_, fun y hc => ?_, fun outer S en he hfr => ?_⟩
  · subst q
    obtain ⟨mm, ⟨o', es, ep, e', hd', _⟩, _⟩ := F₀.ns
    rw [hn] at e'; cases e'
  · obtain ⟨_, _, _, v, o', e', hd'⟩ := F₀.celAp _ b hc
    rw [hn] at e'; cases e'
  · obtain ⟨outer₀, S₀⟩ := F₀.stk
    have := S₀.eq.symm.trans S.eq
    cases this
    obtain ⟨_, L, o', h2, _, _, h5, _⟩ := S₀.at_ en he
    rw [hfr] at h2; cases h2
    rw [hn] at h5; cases h5

theorem listIter_get {h : Heap} {I a : Addr} {i : Nat} (x : h.IsListIter I a i) : ∃ o, h.get? I = some o ∧ o.data = .fields #[.ref a, .int i 0] := let ⟨o, e, _, d⟩ := x; ⟨o, e, d⟩
theorem strIter_get {h : Heap} {I : Addr} {ty : String} {x : PySem.Str} {t : Tok} {i : Nat} (q : h.IsStrIter I ty x t i) : ∃ o, h.get? I = some o ∧ o.data = .fields #[.str x t, .int i 0] := let ⟨o, e, _, d⟩ := q; ⟨o, e, d⟩
theorem Moved.one {lo : Heap} {W : Wd} {h : Heap} {I : Addr} {o : Obj} {vs : Array Value} (f : Fre C lo W I) (ho : W.h.get? I = some o) (hd : o.data = .fields vs) (hv : ∀ x q, vs[1]? ≠ some (.str x q)) (kp : ∀ b o, b ≠ I → W.h.get? b = some o → h.get? b = some o) : Moved C [I] W h :=
  ⟨fun b hb => by cases List.mem_singleton.mp hb; exact ⟨f.2.1, f.2.2, o, ho, ⟨fun vs' x q e => by rw [hd] at e; cases e; exact hv x q, fun xs n e => by rw [hd] at e; cases e⟩⟩, fun b o hb e => kp b o (fun q => hb (List.mem_singleton.mpr q)) e⟩

/-- the next of an iterator that is no enumerate -/
theorem nextP {A : Around} {lo : Heap} {W : Wd} {it : Value} {i : Nat} {src : Src} {l : List V} {Q : Option Value → Shared → Prop} {E : Value → Shared → Prop} (R : Room A k) (H : HR C W) (hi : ItAt C lo W i it src) (hs : src.isEnum = false) (hl : src.items W.σ = some l)
    (h1 : ∀ v, l[i]? = some v → ∀ x fp h tk, Moved C fp W h → (∀ b ∈ fp, lo.get? b = none ∧ ∃ o vs, W.h.get? b = some o ∧ o.data = .fields vs) → (W.withHeap h tk).VR v x → ItAt C lo (W.withHeap h tk) (i + 1) it src → Q (some x) (W.withHeap h tk).s)
    (h0 : l[i]? = none → ∀ fp h tk, Moved C fp W h → (∀ b ∈ fp, lo.get? b = none ∧ ∃ o vs, W.h.get? b = some o ∧ o.data = .fields vs) → Q none (W.withHeap h tk).s) : wpAny (model C.prog C.w) A (pyNext it) Q E W.s := by
  have sing : ∀ {I : Addr} {o : Obj} {vs : Array Value}, lo.get? I = none → W.h.get? I = some o → o.data = .fields vs → ∀ b ∈ [I], lo.get? b = none ∧ ∃ o vs, W.h.get? b = some o ∧ o.data = .fields vs := fun h e d b hb => by cases List.mem_singleton.mp hb; exact ⟨h, _, _, e, d⟩
  cases src with
  | enum v => cases hs
  | list v =>
    obtain ⟨I, a, rfl, hit, hv, f⟩ := hi
    obtain ⟨o, ho, hd⟩ := listIter_get hit
    obtain ⟨a', vs, ea, g1, g2⟩ := listAt_is H hv hl
    cases ea
    have hns : ∀ x q, (#[Value.ref a, .int i 0] : Array Value)[1]? ≠ some (.str x q) := fun x q z => by cases z
    cases hx : l[i]? with
    | some v =>
      obtain ⟨y, e2, ry⟩ := g2.get _ _ hx
      refine wpAny_pyNext_list_item hit g1 (x := y) (by simpa using e2) fun h' hit' sb => ?_
      have m : Moved C [I] W h' := .one f ho hd hns fun b o hb e => (sb.2 b hb).trans e
      exact h1 v hx y [I] h' W.s.toks m (sing f.1 ho hd) (VR.moved m ry) ⟨I, a, rfl, hit', VR.moved m hv, f⟩
    | none =>
      refine wpAny_pyNext_list_end R.hand hit g1 (by rw [List.getElem?_eq_none_iff] at hx; simp; rw [← g2.length]; exact hx) fun h' he => ?_
      exact h0 hx [I] h' W.s.toks (.one f ho hd hns fun b o hb e => he b o hb e) (sing f.1 ho hd)
  | str l' =>
    obtain ⟨I, t, rfl, hit, f⟩ := hi
    obtain ⟨o, ho, hd⟩ := strIter_get hit
    cases hl
    have hns : ∀ x q, (#[Value.str ⟨l'.toArray⟩ t, .int i 0] : Array Value)[1]? ≠ some (.str x q) := fun x q z => by cases z
    cases hx : (l'.map fun c => V.str [c])[i]? with
    | some v =>
      obtain ⟨c, hc, rfl⟩ : ∃ c, l'[i]? = some c ∧ v = V.str [c] := by
        rw [List.getElem?_map] at hx
        obtain ⟨c, h1, h2⟩ := Option.map_eq_some_iff.mp hx
        exact ⟨c, h1, h2.symm⟩
      refine wpAny_pyNext_ascii_item hit (c := c) (by simpa using hc) fun h' hit' sb => ?_
      have m : Moved C [I] W h' := .one f ho hd hns fun b o hb e => (sb.2 b hb).trans e
      exact h1 _ hx _ [I] h' (W.s.toks + 1) m (sing f.1 ho hd) (.str [c] _) ⟨I, t, rfl, hit', f⟩
    | none =>
      refine wpAny_pyNext_ascii_end R.hand hit (by rw [List.getElem?_eq_none_iff] at hx; simpa using hx) fun h' he => ?_
      exact h0 hx [I] h' W.s.toks (.one f ho hd hns fun b o hb e => he b o hb e) (sing f.1 ho hd)
  | range n =>
    obtain ⟨I, rfl, ho, f⟩ := hi
    cases hl
    have hns : ∀ x q, (#[rawInt i, rawInt (n - i), rawInt 1] : Array Value)[1]? ≠ some (.str x q) := fun x q z => by cases z
    by_cases hlt : i < n
    · have hx : ((List.range n).map fun (i : Nat) => V.int (i : Int))[i]? = some (.int i) := by simp [hlt]
      refine wpAny_pyNext_range_item ho (by lia) fun h' hit' sb => ?_
      have m : Moved C [I] W h' := .one f ho rfl hns fun b o hb e => (sb.2 b hb).trans e
      exact h1 _ hx _ [I] h' (W.s.toks + 1) m (sing f.1 ho rfl) (.int _ _) ⟨I, rfl, by rw [show ((n : Int) - ((i + 1 : Nat) : Int)) = n - i - 1 by lia, show (((i + 1 : Nat) : Int)) = (i : Int) + 1 by lia]; exact hit', f⟩
    · have hx : ((List.range n).map fun (i : Nat) => V.int (i : Int))[i]? = none := by simp; lia
      refine wpAny_pyNext_range_end R.hand ho (by lia) fun h' he => ?_
      exact h0 hx [I] h' W.s.toks (.one f ho rfl hns fun b o hb e => he b o hb e) (sing f.1 ho rfl)

/-- the next of an enumerate, its tuple let go -/
theorem nextEnum {A : Around} {lo : Heap} {W : Wd} {it : Value} {i : Nat} {src : Src} {l : List V} {ts : List Expr} {kx : Nat} {p : Pos} {Q : Option Value → Shared → Prop} {Q' : Value → Shared → Prop} {E E' : Value → Shared → Prop} (R : Room A k) (H : HR C W) (hi : ItAt C lo W i it src) (hs : src.isEnum = true) (hl : src.items W.σ = some l) (hlo : ∀ b, W.h.get? b = none → lo.get? b = none)
    (h1 : ∀ v, l[i]? = some v → ∀ x fp h tk, Moved C fp W h → (∀ b ∈ fp, lo.get? b = none ∧ ∃ o vs, W.h.get? b = some o ∧ o.data = .fields vs) → (W.withHeap h tk).VR v x → ItAt C lo (W.withHeap h tk) (i + 1) it src → Q' x (W.withHeap h tk).s)
    (h0 : l[i]? = none → ∀ fp h tk, Moved C fp W h → (∀ b ∈ fp, lo.get? b = none ∧ ∃ o vs, W.h.get? b = some o ∧ o.data = .fields vs) → Q none (W.withHeap h tk).s)
    (hQ : ∀ x s, wpAny (model C.prog C.w) A (letOwnedTupleGo (.Tuple ts kx p) it x) (fun _ s' => Q' x s') E' s → Q (some x) s) : wpAny (model C.prog C.w) A (pyNext it) Q E W.s := by
  cases src with
  | list v => cases hs
  | str v => cases hs
  | range v => cases hs
  | enum v =>
    obtain ⟨e, I, a, old, rfl, he, hit, hv, f, g, ne⟩ := hi
    obtain ⟨o, ho, hd⟩ := listIter_get hit
    change (listAt W.σ v).map (fun l => l.zipIdx.map fun (p : V × Nat) => V.tup [.int (p.2 : Int), p.1]) = some l at hl
    cases hq : listAt W.σ v with
    | none => rw [hq] at hl; cases hl
    | some l₀ =>
    rw [hq] at hl; cases hl
    obtain ⟨a', vs, ea, g1, g2⟩ := listAt_is H hv hq
    cases ea
    have hns : ∀ x q, (#[Value.ref a, .int i 0] : Array Value)[1]? ≠ some (.str x q) := fun x q z => by cases z
    have fpl : ∀ b ∈ [e, I], lo.get? b = none ∧ ∃ o vs, W.h.get? b = some o ∧ o.data = .fields vs := fun b hb => by
      rcases List.mem_cons.mp hb with rfl | hb
      · exact ⟨g.1, _, _, he, rfl⟩
      · cases List.mem_singleton.mp hb; exact ⟨f.1, _, _, ho, hd⟩
    cases hx : l₀[i]? with
    | some u =>
      obtain ⟨y, e2, ry⟩ := g2.get _ _ hx
      have hx' : (l₀.zipIdx.map fun (p : V × Nat) => V.tup [.int (p.2 : Int), p.1])[i]? = some (.tup [.int i, u]) := by simp [hx]
      refine wpAny_pyNext_enum_item he hit g1 (x := y) (by simpa using e2) ne fun h' eo hit' ht hsz kp => hQ _ _ ?_
      refine wpAny_letOwnedTupleGo_enum eo fun h'' he'' sb => ?_
      have hT : W.h.get? W.h.objs.size = none := Heap.get?_none_of_le (Nat.le_refl _)
      have m : Moved C [e, I] W h'' := ⟨fun b hb => by
        rcases List.mem_cons.mp hb with rfl | hb
        · exact ⟨g.2.1, g.2.2, _, he, ⟨fun vs' x q e => (by cases e; intro z; cases z), fun xs n e => (by cases e)⟩⟩
        · cases List.mem_singleton.mp hb; exact ⟨f.2.1, f.2.2, _, ho, ⟨fun vs' x q e => (by rw [hd] at e; cases e; exact hns x q), fun xs n e => (by rw [hd] at e; cases e)⟩⟩, fun b o hb e1 => by
        have n1 : b ≠ e := fun q => hb (q ▸ .head _)
        have n2 : b ≠ I := fun q => hb (q ▸ .tail _ (.head _))
        exact (sb.2 b n1).trans (kp b o n1 n2 e1)⟩
      have nTe : W.h.objs.size ≠ e := fun q => by rw [q, he] at hT; cases hT
      refine h1 _ hx' (.ref W.h.objs.size) [e, I] h'' (W.s.toks + 1) m fpl (.tup _ [.int i W.s.toks, y] _ 0 ((sb.2 _ nTe).trans ht) (newAp H) (.cons _ _ _ _ (.int _ _) (.cons _ _ _ _ (VR.moved m ry) .nil))) ?_
      exact ⟨e, I, a, y, rfl, he'', hit'.extBut sb.extBut (Ne.symm ne), VR.moved m hv, f, g, ne⟩
    | none =>
      have hx' : (l₀.zipIdx.map fun (p : V × Nat) => V.tup [.int (p.2 : Int), p.1])[i]? = none := by simpa using hx
      refine wpAny_pyNext_enum_end R.hand he hit g1 (by rw [List.getElem?_eq_none_iff] at hx; simp; rw [← g2.length]; exact hx) fun h' hb => ?_
      exact h0 hx' [I] h' W.s.toks (.one f ho hd hns fun b o hne e => hb b o hne e) (fun b hb => by cases List.mem_singleton.mp hb; exact ⟨f.1, _, _, ho, hd⟩)
end
open Classical in
/-- one may run no exception -/
noncomputable def Res.safe {α : Type} : Res α → Res α
  | .ok a σ => .ok a σ
  | _ => .fail
theorem K.safe {C : Cx} {own : Addr → Prop} {α β : Type} {rel : Wd → β → α → Prop} {r : Res β} {W : Wd} {Q : α → Shared → Prop} {E E' : Value → Shared → Prop} (k : K C own rel r.safe W Q E) : K C own rel r W Q E' := by
  cases r with
  | ok b σ => exact k
  | exc c σ => exact k.elim
  | fail => exact k.elim
theorem K.widen {C : Cx} {own own' : Addr → Prop} {α β : Type} {rel : Wd → β → α → Prop} {r : Res β} {W : Wd} {Q : α → Shared → Prop} {E : Value → Shared → Prop} (k : K C own rel r W Q E) (h : ∀ b o, W.h.get? b = some o → own' b → own b) : K C own' rel r W Q E := by
  cases r with
  | ok b σ => exact fun a W' x H e r => k a W' (x.mono h) H e r
  | exc c σ => exact fun e W' x H q f => k e W' (x.mono h) H q f
  | fail => exact k

section
variable {C : Cx} {k : Nat} {sc : Scope}
/-- what is walked by a for -/
noncomputable def SI (C : Cx) (k : Nat) (sc : Scope) (iter : Expr) (fs : Loc → AH → Res Src) : Prop :=
  ∀ env A W ρ, Here C k sc env A W ρ → ∀ Q E, K C noOwn (fun W' src it => ItAt C W.h W' 0 it src) (fs ρ W.σ) W Q E →
    wpAny (model C.prog C.w) A (eval iter env) (fun x s₁ => wpAny (model C.prog C.w) A (pyIter x) Q E s₁) E W.s
noncomputable def srcOf (v : V) (σ : AH) : Res Src := match v with
  | .str l => if l.all (· < 128) then .ok (.str l) σ else .fail
  | v => if (listAt σ v).isSome then .ok (.list v) σ else .fail
noncomputable def iSrc (f : EA) : Loc → AH → Res Src := fun ρ σ => (f ρ σ).bind srcOf
theorem newFre {W₀ W : Wd} {own : Addr → Prop} (x : Ext C own W₀ W) (H : HR C W) : Fre C W₀.h W W.h.objs.size :=
  ⟨x.unborn (Heap.get?_none_of_le (Nat.le_refl _)), H.out (Heap.get?_none_of_le (Nat.le_refl _)), newAp H⟩
theorem SI_src {e : Expr} {f : EA} (hf : SE C k sc e f) : SI C k sc e (iSrc f) := fun env A W ρ H Q E hk => by
  refine hf env A W ρ H _ _ ?_
  refine K.bind hk (fun _ => id) fun x a σ₁ W₁ _ x₁ H₁ _ r₁ hk₁ => ?_
  have grow : ∀ o : Obj, (∀ b ob, W₁.h.get? b = some ob → (W₁.h.push o).get? b = some ob) := fun o _ _ e => Heap.get?_push_of_some _ e
  unfold srcOf at hk₁
  split at hk₁
  · rename_i l _
    split at hk₁
    · rename_i ha
      cases r₁ with
      | str _ t =>
      refine wpAny_pyIter_ascii (by simpa using ha) ?_
      refine hk₁ (.ref W₁.h.objs.size) (W₁.withHeap (W₁.h.push { cls := .type "str_ascii_iterator", data := .fields #[.str ⟨l.toArray⟩ t, .int 0 0] }) W₁.s.toks) (Ext.grow _ (grow _)) (H₁.grow _ (grow _)) rfl ?_
      exact ⟨_, t, rfl, ⟨_, Heap.get?_push_size _ rfl, rfl, rfl⟩, newFre x₁ H₁⟩
    · exact hk₁.elim
  · split at hk₁
    · rename_i hl
      obtain ⟨l, hl⟩ := Option.isSome_iff_exists.mp hl
      obtain ⟨ad, vs, rfl, g1, g2⟩ := listAt_is H₁ r₁ hl
      refine wpAny_pyIter_list g1 ?_
      refine hk₁ (.ref W₁.h.objs.size) (W₁.withHeap (W₁.h.push { cls := .type "list_iterator", data := .fields #[.ref ad, .int 0 0] }) W₁.s.toks) (Ext.grow _ (grow _)) (H₁.grow _ (grow _)) rfl ?_
      exact ⟨_, ad, rfl, ⟨_, Heap.get?_push_size _ rfl, rfl, rfl⟩, VR.up (Ext.grow _ (grow _)) H₁ r₁, newFre x₁ H₁⟩
    · exact hk₁.elim

/-- a call of a type or a builtin by name, from its arguments -/
theorem callBI {env : Env} {A : Around} {W : Wd} {ρ : Loc} {x : String} {bv : Value} {e : Expr} {r : List Expr} {p pn : Pos} {Q : Value → Shared → Prop} {E : Value → Shared → Prop} (H : Here C k sc env A W ρ) (hg : sc.names.lookup (sname x) = some .globalImplicit)
    (hm : nsIn C.K mainGlobals (sname x) = some none) (hv : bootBuiltins (sname x) = some bv) (hn : sname x ≠ "__name__") (hd : (sname x == ("__debug__" : PySem.Str)) = false) (hkp : keeperOf bv = pure .machine)
    (he : ∀ env, starEach (e :: r) env = (false, eval e env) :: starEach r env) (hp : ∀ env, (backTo p (starEach r env)).any (·.1) = false)
    (hs : wpAny (model C.prog C.w) A (spliced (backTo p (starEach (e :: r) env))) (fun vs s₁ => wpAny (model C.prog C.w) A (call bv vs) Q E s₁) E W.s) :
    wpAny (model C.prog C.w) A (eval (.Call (.Name (PySem.Str.ofString x) pn) (e :: r) [] p) env) Q E W.s := by
  show wpAny _ A (do callWith p (← eval (.Name (PySem.Str.ofString x) pn) env) [] (backTo p (starEach (e :: r) env)) (backToKw p (keywordEach [] env))) Q E W.s
  refine wpAny_bind (builtinName H hg hm hv hn hd ?_)
  show wpAny _ A (callWith p bv [] (backTo p (starEach (e :: r) env)) []) Q E W.s
  have hs' := wpAny_mono (Q' := fun vs s₁ => True ∧ wpAny (model C.prog C.w) A (call bv ([] ++ vs)) Q E s₁) hs (fun vs s₁ h => ⟨trivial, h⟩) (fun _ _ h => h)
  rw [he] at hs' ⊢
  exact callWith_of (P := fun _ => True) (by show ((false || (backTo p (starEach r env)).any (·.1)) || false) = false; rw [hp]; rfl) (fun h _ => ⟨.machine, .inr (.inl rfl), by rw [hkp]; exact .now⟩) (evalArgs_plain hs')

noncomputable def iEnum (f : EA) : Loc → AH → Res Src := fun ρ σ => (f ρ σ).bind fun v σ => if (listAt σ v).isSome then .ok (.enum v) σ else .fail
theorem SI_enum {e : Expr} {f : EA} {p pn : Pos} (hf : SE C k sc e f) (hg : sc.names.lookup (sname "enumerate") = some .globalImplicit) (hm : nsIn C.K mainGlobals (sname "enumerate") = some none)
    (he : ∀ env, starEach [e] env = (false, eval e env) :: starEach [] env := by intro _; rfl) : SI C k sc (.Call (.Name (PySem.Str.ofString "enumerate") pn) [e] [] p) (iEnum f) := fun env A W ρ H Q E hk => by
  have hl : SL C k sc [e] (lCons f lNil) := SL_cons hf SL_nil he
  refine callBI H hg hm (bv := .type "enumerate") (by decide +kernel) (by decide +kernel) (by decide +kernel) rfl he (fun _ => rfl) ?_
  have hk' : K C noOwn (fun W' src it => ItAt C W.h W' 0 it src) ((lCons f lNil ρ W.σ).bind fun l σ => match l with
    | [v] => if (listAt σ v).isSome then .ok (.enum v) σ else .fail
    | _ => .fail) W Q E := by
    unfold iEnum at hk
    unfold lCons lNil
    cases hq : f ρ W.σ <;> rw [hq] at hk <;> exact hk
  refine hl env A W ρ p H _ _ (K.bind hk' (fun _ => id) fun xs vs σ₁ W₁ _ x₁ H₁ _ r₁ hk₁ => ?_)
  split at hk₁
  · rename_i v _
    split at hk₁
    · rename_i hl
      obtain ⟨l, hl⟩ := Option.isSome_iff_exists.mp hl
      cases r₁ with
      | cons _ _ _ _ hv hs =>
      cases hs
      obtain ⟨ad, vs, rfl, g1, g2⟩ := listAt_is H₁ hv hl
      refine call_enumerate_list g1 fun h' he' hit hsz kp => ?_
      refine wpAny_pyIter_enum he' ?_
      have x₂ : Ext C noOwn W₁ (W₁.withHeap h' W₁.s.toks) := Ext.grow _ kp
      refine hk₁ (.ref (W₁.h.objs.size + 1)) (W₁.withHeap h' W₁.s.toks) x₂ (H₁.grow _ kp) rfl ?_
      have hn1 : W₁.h.get? (W₁.h.objs.size + 1) = none := Heap.get?_none_of_le (Nat.le_succ _)
      exact ⟨W₁.h.objs.size + 1, W₁.h.objs.size, ad, .none, rfl, he', hit, VR.up x₂ H₁ hv, newFre x₁ H₁, ⟨x₁.unborn hn1, H₁.out hn1, fun n hn => let ⟨_, e⟩ := H₁.below n hn; Nat.ne_of_lt (Nat.lt_succ_of_lt (Heap.lt_size e))⟩, Nat.succ_ne_self _⟩
    · exact hk₁.elim
  · exact hk₁.elim

noncomputable def iRange (f : EA) : Loc → AH → Res Src := fun ρ σ => (f ρ σ).bind fun v σ => match v with
  | .int i => if 0 ≤ i ∧ i ≤ 1000 then .ok (.range i.toNat) σ else .fail
  | _ => .fail
theorem SI_range {e : Expr} {f : EA} {p pn : Pos} (hf : SE C k sc e f) (hg : sc.names.lookup (sname "range") = some .globalImplicit) (hm : nsIn C.K mainGlobals (sname "range") = some none)
    (he : ∀ env, starEach [e] env = (false, eval e env) :: starEach [] env := by intro _; rfl) : SI C k sc (.Call (.Name (PySem.Str.ofString "range") pn) [e] [] p) (iRange f) := fun env A W ρ H Q E hk => by
  have hl : SL C k sc [e] (lCons f lNil) := SL_cons hf SL_nil he
  refine callBI H hg hm (bv := .type "range") (by decide +kernel) (by decide +kernel) (by decide +kernel) rfl he (fun _ => rfl) ?_
  have hk' : K C noOwn (fun W' src it => ItAt C W.h W' 0 it src) ((lCons f lNil ρ W.σ).bind fun l σ => match l with
    | [.int i] => if 0 ≤ i ∧ i ≤ 1000 then .ok (.range i.toNat) σ else .fail
    | _ => .fail) W Q E := by
    unfold iRange at hk
    unfold lCons lNil
    cases hq : f ρ W.σ with
    | ok v σ => rw [hq] at hk; cases v <;> exact hk
    | exc c σ => rw [hq] at hk; exact hk
    | fail => rw [hq] at hk; exact hk
  refine hl env A W ρ p H _ _ (K.bind hk' (fun _ => id) fun xs vs σ₁ W₁ _ x₁ H₁ _ r₁ hk₁ => ?_)
  split at hk₁
  · rename_i i _
    split at hk₁
    · rename_i hi
      cases r₁ with
      | cons _ _ _ _ hv hs =>
      cases hs; cases hv with
      | int _ t =>
      refine call_range_1 ?_
      have kp : ∀ b ob, W₁.h.get? b = some ob → (W₁.h.push { cls := .type "range", data := .fields #[.int 0 W₁.s.toks, .int i t, .int 1 (W₁.s.toks + 1)] }).get? b = some ob := fun _ _ e => Heap.get?_push_of_some _ e
      have x₂ : Ext C noOwn W₁ (W₁.withHeap (W₁.h.push { cls := .type "range", data := .fields #[.int 0 W₁.s.toks, .int i t, .int 1 (W₁.s.toks + 1)] }) (W₁.s.toks + 1 + 1)) := Ext.grow _ kp
      have H₂ : HR C (W₁.withHeap (W₁.h.push { cls := .type "range", data := .fields #[.int 0 W₁.s.toks, .int i t, .int 1 (W₁.s.toks + 1)] }) (W₁.s.toks + 1 + 1)) := H₁.grow _ kp
      refine wpAny_pyIter_range (IsRange.new ..) (small_one (by decide) (by decide) (by lia) (by lia)) ?_
      have hk₂ := hk₁.shift x₂
      have kp' : ∀ b ob, (W₁.h.push { cls := .type "range", data := .fields #[.int 0 W₁.s.toks, .int i t, .int 1 (W₁.s.toks + 1)] }).get? b = some ob → ((W₁.h.push { cls := .type "range", data := .fields #[.int 0 W₁.s.toks, .int i t, .int 1 (W₁.s.toks + 1)] }).push { cls := .type "range_iterator", data := .fields #[rawInt 0, rawInt (Builtin.Range.rangeSize 0 i 1), rawInt 1] }).get? b = some ob := fun _ _ e => Heap.get?_push_of_some _ e
      refine hk₂ (.ref (W₁.h.push { cls := .type "range", data := .fields #[.int 0 W₁.s.toks, .int i t, .int 1 (W₁.s.toks + 1)] }).objs.size) (Wd.withHeap (W₁.withHeap (W₁.h.push { cls := .type "range", data := .fields #[.int 0 W₁.s.toks, .int i t, .int 1 (W₁.s.toks + 1)] }) (W₁.s.toks + 1 + 1)) ((W₁.h.push { cls := .type "range", data := .fields #[.int 0 W₁.s.toks, .int i t, .int 1 (W₁.s.toks + 1)] }).push { cls := .type "range_iterator", data := .fields #[rawInt 0, rawInt (Builtin.Range.rangeSize 0 i 1), rawInt 1] }) (W₁.s.toks + 1 + 1)) (Ext.grow _ kp') (H₂.grow _ kp') rfl ?_
      refine ⟨_, rfl, ?_, newFre (x₁.trans x₂) H₂⟩
      have e : Builtin.Range.rangeSize 0 i 1 = (i.toNat : Int) - ((0 : Nat) : Int) := by rw [rangeSize_one]; split <;> lia
      have e0 := Heap.get?_push_size (W₁.h.push { cls := .type "range", data := .fields #[.int 0 W₁.s.toks, .int i t, .int 1 (W₁.s.toks + 1)] }) (o := { cls := .type "range_iterator", data := .fields #[rawInt 0, rawInt (Builtin.Range.rangeSize 0 i 1), rawInt 1] }) rfl
      show Heap.get? _ _ = _
      rw [← e]
      exact e0
    · exact hk₁.elim
  · exact hk₁.elim
end
open Classical in
noncomputable def forGo (src : Src) (l₀ : List V) (g : GA) (body : SA) : List V → SA
  | [], ρ, σ => if src.items σ = some l₀ then .ok (.next, ρ) σ else .fail
  | v :: r, ρ, σ => if src.items σ = some l₀ then (g v ρ σ).bind fun ρ σ => (body ρ σ).bind fun fl σ => match fl.1 with
      | .next => forGo src l₀ g body r fl.2 σ
      | .ret v => .ok (.ret v, fl.2) σ else .fail
noncomputable def sFor (fs : Loc → AH → Res Src) (g : GA) (body : SA) : SA := fun ρ σ => (fs ρ σ).bind fun src σ => match src.items σ with
  | some l => (forGo src l g body l ρ σ).safe
  | none => .fail

theorem K.bindB {C : Cx} {own own' : Addr → Prop} {α β γ δ : Type} {rel : Wd → β → α → Prop} {rel' : Wd → δ → γ → Prop} {r : Res β} {g : β → AH → Res δ} {B W : Wd} {Q : γ → Shared → Prop} {E : Value → Shared → Prop} {P : α → Shared → Prop}
    (k : K C own rel' (r.bind g) B Q E) (x₀ : Ext C own B W) (hown : ∀ b, own' b → own b)
    (h : ∀ a b σ W', r = .ok b σ → Ext C own' W W' → HR C W' → W'.σ = σ → rel W' b a → Ext C own B W' → K C own rel' (g b W'.σ) B Q E → P a W'.s) : K C own' rel r W P E := by
  cases r with
  | ok b σ =>
    intro a W' x H e r
    have x' : Ext C own B W' := x₀.trans (x.mono fun b _ _ => hown b)
    refine h a b σ W' rfl x H e r x' ?_
    have k' : K C own rel' (g b σ) B Q E := k
    rw [e]; exact k'
  | exc c σ => exact fun e W' x H q f => k e W' (x₀.trans (x.mono fun b _ _ => hown b)) H q (f.weak fun _ => x₀.unborn)
  | fail => exact k

section
variable {C : Cx} {k : Nat} {sc : Scope}
theorem FR.notFields {env : Env} {A : Around} {W : Wd} {ρ : Loc} (F : FR C env A W ρ) : ∀ b o vs, Own env b → W.h.get? b = some o → o.data ≠ .fields vs := by
  rintro b o vs (rfl | ⟨y, hy⟩) e hd
  · obtain ⟨mm, ⟨o', es, ep, e', hd', _⟩, _⟩ := F.ns
    rw [e] at e'; cases e'; rw [hd'] at hd; cases hd
  · obtain ⟨_, _, _, v, o', e', hd'⟩ := F.celAp y b hy
    rw [e] at e'; cases e'; rw [hd'] at hd; cases hd

/-- the target takes an item, the tuple of an enumerate let go -/
structure TgtOk (target : Expr) (en : Bool) : Prop where
  plain : en = false → ∀ it x, letOwnedTupleGo target it x = pure ()
  tup : en = true → ∃ ts kx p, target = .Tuple ts kx p
theorem TgtOk.name {x p} : TgtOk (.Name x p) false := ⟨fun _ _ _ => rfl, (fun h => by cases h)⟩
theorem TgtOk.tuple {ts kx p} : TgtOk (.Tuple ts kx p) true := ⟨(fun h => by cases h), fun _ => ⟨ts, kx, p, rfl⟩⟩

theorem SS_for {iter target : Expr} {body : List Stmt} {p : Pos} {fs : Loc → AH → Res Src} {g : GA} {b : SA} {en : Bool} (hi : SI C k sc iter fs) (hg : SG C k sc target g) (hb : SB C k sc body b) (ht : TgtOk target en)
    (hen : ∀ ρ σ src σ', fs ρ σ = .ok src σ' → src.isEnum = en) (hs : ∀ env x, foldedSetIterable iter env x = pure x := by intro _ _; rfl) : SS C k sc (.For target iter body [] p) (sFor fs g b) := fun env A W ρ H Q E hk => by
  -- all that is born behind W may be changed
  let own : Addr → Prop := fun b => Own env b ∨ W.h.get? b = none
  have hk : K C own (srel C env A) (sFor fs g b ρ W.σ) W Q E := hk.widen fun b o e h => h.resolve_right fun q => by rw [q] at e; cases e
  refine PySem.wpAny_For (hs := hs env) (hi env A W ρ H _ _ (K.bind hk (fun _ => False.elim) fun it src σ₁ W₁ hfs x₁ H₁ e₁ i₁ hk₁ => ?_))
  have hen' := hen _ _ _ _ hfs
  split at hk₁
  · rename_i l hl
    have hk₀ : K C own (srel C env A) (forGo src l g b l ρ W₁.σ) W Q (notedBy (model C.prog C.w) A env fun e s' => cameBackBy (model C.prog C.w) A env E e s') := by
      have hq : sFor fs g b ρ W.σ = (forGo src l g b l ρ W₁.σ).safe := by
        unfold sFor; rw [hfs]; show (match src.items σ₁ with | some l => _ | none => _) = _
        rw [← e₁, hl]
      rw [hq] at hk
      exact K.safe hk
    obtain ⟨I, mkI, unI⟩ := inv_of (fun n s => ∃ W₂ ρ₂ rem i, s = W₂.s ∧ n = rem.length + 1 ∧ rem = l.drop i ∧ Ext C own W W₂ ∧ HR C W₂ ∧ FR C env A W₂ ρ₂ ∧ ItAt C W.h W₂ i it src ∧ K C own (srel C env A) (forGo src l g b rem ρ₂ W₂.σ) W Q (notedBy (model C.prog C.w) A env fun e s' => cameBackBy (model C.prog C.w) A env E e s'))
    refine codeAny_forLoop_any I ?_ (l.length + 1)
      (mkI _ _ ⟨W₁, ρ, l, 0, rfl, rfl, rfl, x₁.mono fun _ _ _ h => h.elim, H₁, H.fr.ext H.hr x₁, i₁, hk₀⟩)
    rintro n s hI
    replace hI := unI _ _ hI
    refine hide fun X_ k_ => ?_
    obtain ⟨W₂, ρ₂, rem, i, rfl, rfl, hrem, x₂, H₂, F₂, i₂, hk₂⟩ := hI
    refine k_ ?_
    clear k_ X_
    have hit : src.items W₂.σ = some l := by
      cases rem with
      | nil => unfold forGo at hk₂; split at hk₂; assumption; exact hk₂.elim
      | cons v r => unfold forGo at hk₂; split at hk₂; assumption; exact hk₂.elim
    have hlo : ∀ b, W₂.h.get? b = none → W.h.get? b = none := fun b q => x₂.unborn q
    have mv : ∀ {fp : List Addr} {h : Heap} {tk : Nat}, Moved C fp W₂ h → (∀ b ∈ fp, W.h.get? b = none ∧ ∃ o vs, W₂.h.get? b = some o ∧ o.data = .fields vs) → Ext C own W (W₂.withHeap h tk) ∧ HR C (W₂.withHeap h tk) ∧ FR C env A (W₂.withHeap h tk) ρ₂ := fun {fp h tk} m hf =>
      ⟨m.ext tk x₂ fun b hb => (hf b hb).1, m.hr tk H₂, m.fr tk (fun b hb => (hf b hb).2) F₂⟩
    have done : l[i]? = none → ∀ fp h tk, Moved C fp W₂ h → (∀ b ∈ fp, W.h.get? b = none ∧ ∃ o vs, W₂.h.get? b = some o ∧ o.data = .fields vs) → Q .next (W₂.withHeap h tk).s := fun hx fp h tk m hf => by
      have hr : rem = [] := by rw [hrem, List.drop_eq_nil_iff]; exact List.getElem?_eq_none_iff.mp hx
      subst hr
      unfold forGo at hk₂
      rw [if_pos hit] at hk₂
      obtain ⟨y₁, y₂, y₃⟩ := mv (tk := tk) m hf
      exact hk₂ .next (W₂.withHeap h tk) y₁ y₂ rfl ⟨y₃, rfl⟩
    have step : ∀ v, l[i]? = some v → ∀ x fp h tk, Moved C fp W₂ h → (∀ b ∈ fp, W.h.get? b = none ∧ ∃ o vs, W₂.h.get? b = some o ∧ o.data = .fields vs) → (W₂.withHeap h tk).VR v x → ItAt C W.h (W₂.withHeap h tk) (i + 1) it src →
        wpAny (model C.prog C.w) A (assign target env x) (fun _ s₂ => wpAny (model C.prog C.w) A (execs body env) (fun f s₃ => match f with
          | .next | .cont => ∃ m, m < rem.length + 1 ∧ I m s₃
          | .brk => Q .next s₃
          | .ret v => Q (.ret v) s₃) (notedBy (model C.prog C.w) A env fun e s' => cameBackBy (model C.prog C.w) A env E e s') s₂) (notedBy (model C.prog C.w) A env fun e s' => cameBackBy (model C.prog C.w) A env E e s') (W₂.withHeap h tk).s := fun v hx x fp h tk m hf hv hi' => by
      obtain ⟨y₁, y₂, y₃⟩ := mv (tk := tk) m hf
      have hr : rem = v :: l.drop (i + 1) := by
        rw [hrem]
        obtain ⟨hlt, e⟩ := List.getElem?_eq_some_iff.mp hx
        rw [List.drop_eq_getElem_cons hlt, e]
      subst hr
      unfold forGo at hk₂
      rw [if_pos hit] at hk₂
      have h3 : Here C k sc env A (W₂.withHeap h tk) ρ₂ := ⟨H.sc, H.room, y₂, y₃⟩
      refine hg env A (W₂.withHeap h tk) ρ₂ v x h3 hv _ _ (K.bindB hk₂ y₁ (fun _ h => .inl h) fun _ ρ₃ σ₃ W₃ _ x₃ H₃ _ F₃ z₃ hk₃ => ?_)
      have i₃ := hi'.ext x₃ y₃.notFields fun v y r => VR.ownUp y₃ y₂ x₃ r
      refine hb env A W₃ ρ₃ ⟨H.sc, H.room, H₃, F₃⟩ _ _ (K.bindB hk₃ z₃ (fun _ h => .inl h) fun fl r₄ σ₄ W₄ _ x₄ H₄ _ s₄ z₄ hk₄ => ?_)
      have i₄ := i₃.ext x₄ F₃.notFields fun v y r => VR.ownUp F₃ H₃ x₄ r
      obtain ⟨fl', ρ₄⟩ := r₄
      obtain ⟨F₄, s₄⟩ := s₄
      cases fl' with
      | next =>
        cases s₄
        exact ⟨(l.drop (i + 1)).length + 1, by simp, mkI _ _ ⟨W₄, ρ₄, l.drop (i + 1), i + 1, rfl, rfl, rfl, z₄, H₄, F₄, i₄, hk₄⟩⟩
      | ret u =>
        obtain ⟨y, rfl, ru⟩ := s₄
        exact hk₄ (.ret y) W₄ z₄ H₄ rfl ⟨F₄, y, rfl, ru⟩
    cases hen'' : src.isEnum with
    | false =>
      refine nextP H.room H₂ i₂ hen'' hit (fun v hx x fp h tk m hf hv hi' => ?_) (fun hx fp h tk m hf => ?_)
      · exact wpAny_of_eq (ht.plain (hen'.symm.trans hen'') it x) (step v hx x fp h tk m hf hv hi')
      · exact PySem.wpAny_execs_nil (done hx fp h tk m hf)
    | true =>
      obtain ⟨ts, kx, pp, rfl⟩ := ht.tup (hen'.symm.trans hen'')
      refine nextEnum (ts := ts) (kx := kx) (p := pp) H.room H₂ i₂ hen'' hit hlo (fun v hx x fp h tk m hf hv hi' => ?_) (fun hx fp h tk m hf => ?_) (fun x s h => h)
      · exact step v hx x fp h tk m hf hv hi'
      · exact PySem.wpAny_execs_nil (done hx fp h tk m hf)
  · exact hk₁.elim
end
/-! ## Comprehensions -/
noncomputable def relabelS (scope sc : Scope) : Scope :=
  { scope with names := scope.names.map fun (n, k) => if (k == .free && sc.kind == .function && sc.names.lookup n == some .cell) then (n, .cell) else (n, k) }

theorem closure_is {env : Env} : ∀ (names : List (PySem.Str × NameKind)) (acc : List (PySem.Str × Addr)), (∀ x ∈ names, x.2 = .free → (env.cells.lookup x.1).isSome = true) →
    ∃ cl, (forIn names acc fun x cs => (if (x.2 == .free) = true then do let a ← cellOf env x.1; pure (ForInStep.yield ((x.1, a) :: cs)) else pure (ForInStep.yield cs) : Sem _)) = pure cl ∧
      (∀ y c, cl.lookup y = some c → acc.lookup y = some c ∨ env.cells.lookup y = some c) ∧ (∀ y, (acc.lookup y).isSome = true → (cl.lookup y).isSome = true) ∧ ∀ x ∈ names, x.2 = .free → (cl.lookup x.1).isSome = true := by
  intro names
  induction names with
  | nil => intro acc _; exact ⟨acc, rfl, fun _ _ h => .inl h, fun _ h => h, fun _ h => nomatch h⟩
  | cons x r ih =>
    intro acc h
    obtain ⟨n, kd⟩ := x
    by_cases hk : kd = .free
    · subst hk
      obtain ⟨a, ha⟩ := Option.isSome_iff_exists.mp (h _ (.head _) rfl)
      obtain ⟨cl, e, h1, h2, h3⟩ := ih ((n, a) :: acc) (fun x hx => h x (.tail _ hx))
      refine ⟨cl, ?_, fun y c hc => ?_, fun y hy => h2 y ?_, fun x hx hf => ?_⟩
      · rw [List.forIn_cons]
        have hc : cellOf env n = pure a := by unfold cellOf; rw [ha]
        simp only [beq_self_eq_true, if_true, hc]
        exact e
      · rcases h1 y c hc with q | q
        · rw [List.lookup_cons] at q
          split at q
          · rename_i hq; cases q; rw [beq_iff_eq.mp hq]; exact .inr ha
          · exact .inl q
        · exact .inr q
      · rw [List.lookup_cons]; split
        · rfl
        · exact hy
      · rcases List.mem_cons.mp hx with rfl | hx
        · exact h2 _ (by rw [List.lookup_cons]; simp)
        · exact h3 x hx hf
    · obtain ⟨cl, e, h1, h2, h3⟩ := ih acc (fun x hx => h x (.tail _ hx))
      refine ⟨cl, ?_, h1, h2, fun x hx hf => ?_⟩
      · rw [List.forIn_cons]
        have : ((kd == .free) = true) = False := by simp [hk]
        simp only [this, if_false]
        exact e
      · rcases List.mem_cons.mp hx with rfl | hx
        · exact absurd hf hk
        · exact h3 x hx hf
theorem closureFor_is {env : Env} {scope : Scope} (h : ∀ x ∈ scope.names, x.2 = .free → (env.cells.lookup x.1).isSome = true) :
    ∃ cl, closureFor scope env = pure cl ∧ (∀ y c, cl.lookup y = some c → env.cells.lookup y = some c) ∧ ∀ x ∈ scope.names, x.2 = .free → (cl.lookup x.1).isSome = true := by
  obtain ⟨cl, e, h1, _, h3⟩ := closure_is scope.names [] h
  refine ⟨cl, ?_, fun y c hc => (h1 y c hc).resolve_left (by simp), h3⟩
  have e2 : closureFor scope env = ((forIn scope.names [] fun x cs => (if (x.2 == .free) = true then do let a ← cellOf env x.1; pure (ForInStep.yield ((x.1, a) :: cs)) else pure (ForInStep.yield cs) : Sem _)) >>= fun cs => pure cs) := by
    unfold closureFor
    rfl
  rw [e2, e]
  rfl

noncomputable def cap (fv : List String) (ρ : Loc) : Loc := fv.filterMap fun n => (look n ρ).map fun v => (n, v)
theorem look_cap {x : String} {v : V} {ρ : Loc} : ∀ {fv : List String}, look x (cap fv ρ) = some v → x ∈ fv ∧ look x ρ = some v
  | [], h => by cases h
  | n :: r, h => by
    unfold cap at h
    rw [List.filterMap_cons] at h
    cases hq : look n ρ with
    | none =>
      rw [hq] at h
      obtain ⟨h1, h2⟩ := look_cap (fv := r) h
      exact ⟨.tail _ h1, h2⟩
    | some u =>
      rw [hq] at h
      simp only [Option.map_some] at h
      unfold look at h
      split at h
      · rename_i e; cases h; subst e; exact ⟨.head _, hq⟩
      · obtain ⟨h1, h2⟩ := look_cap (fv := r) h
        exact ⟨.tail _ h1, h2⟩

theorem relabel_lk {sc : Scope} {y : PySem.Str} : ∀ {names : List (PySem.Str × NameKind)}, (names.map fun (n, k) => if (k == .free && sc.kind == .function && sc.names.lookup n == some .cell) then (n, NameKind.cell) else (n, k)).lookup y =
    (names.lookup y).map fun k => if (k == .free && sc.kind == .function && sc.names.lookup y == some .cell) = true then .cell else k
  | [] => rfl
  | (n, k) :: r => by
    rw [List.map_cons]
    have e : (match (n, k) with | (n, k) => if (k == NameKind.free && sc.kind == .function && sc.names.lookup n == some .cell) = true then (n, NameKind.cell) else (n, k)) =
        (n, if (k == .free && sc.kind == .function && sc.names.lookup n == some .cell) = true then NameKind.cell else k) := by
      by_cases hc : (k == .free && sc.kind == .function && sc.names.lookup n == some .cell) = true <;> simp [hc]
    rw [e, List.lookup_cons, List.lookup_cons]
    split
    · rename_i hq
      rw [beq_iff_eq.mp hq]; rfl
    · exact relabel_lk
theorem relabel_lookup {sc : Scope} {y : PySem.Str} {kd : NameKind} {names : List (PySem.Str × NameKind)} (h : (names.map fun (n, k) => if (k == .free && sc.kind == .function && sc.names.lookup n == some .cell) then (n, NameKind.cell) else (n, k)).lookup y = some kd) :
    ∃ kd', names.lookup y = some kd' ∧ (y, kd') ∈ names ∧ kd = if (kd' == .free && sc.kind == .function && sc.names.lookup y == some .cell) then .cell else kd' := by
  rw [relabel_lk] at h
  obtain ⟨kd', h1, h2⟩ := Option.map_eq_some_iff.mp h
  exact ⟨kd', h1, mem_of_lookup h1, h2.symm⟩

/-- what is to be looked at in the scopes -/
structure CompOk (scope sc : Scope) (x : String) (fv : List String) : Prop where
  kind : scope.kind = .function
  skind : sc.kind = .function
  cell : ∀ y ∈ scope.names, y.2 ≠ .cell
  names : ∀ y ∈ scope.names, y.2 = .local → scope.names.lookup y.1 = some .local
  free : ∀ y ∈ scope.names, y.2 = .free → sc.names.lookup y.1 = some .cell
  fv : ∀ n ∈ fv, scope.names.lookup (sname n) = some .free
  x : scope.names.lookup (sname x) = some .local
  dot : (scope.names.lookup (".0" : PySem.Str)).isSome = true

section
variable {C : Cx} {k : Nat} {sc : Scope}
theorem CompOk.noCode {scope : Scope} {x : String} {fv : List String} (h : CompOk scope sc x fv) (code : Value) (qual : PySem.Str) : C.codeOk (relabelS scope sc) code qual := fun q => by
  unfold relabelS at q
  rw [relabel_lk] at q
  have := h.dot
  cases z : scope.names.lookup (".0" : PySem.Str) with
  | none => rw [z] at this; cases this
  | some v => rw [z] at q; cases q
theorem CompOk.mem {scope : Scope} {x : String} {fv : List String} (h : CompOk scope sc x fv) {n : String} (hn : n ∈ fv) : (sname n, NameKind.free) ∈ scope.names := mem_of_lookup (h.fv n hn)
theorem CompOk.clos {scope : Scope} {x : String} {fv : List String} (h : CompOk scope sc x fv) {env : Env} {A : Around} {W : Wd} {ρ : Loc} (F : FR C env A W ρ) (hsc : env.scope = sc) : ∃ cl, closureFor scope env = pure cl ∧ (∀ y c, cl.lookup y = some c → env.cells.lookup y = some c) ∧ ∀ x ∈ scope.names, x.2 = .free → (cl.lookup x.1).isSome = true :=
  closureFor_is fun y hy hf => F.celHas _ (by show env.scope.names.lookup _ = _; rw [hsc]; exact h.free y hy hf)

theorem compFR {scope : Scope} {x : String} {fv : List String} (h : CompOk scope sc x fv) {env : Env} {A : Around} {W : Wd} {ρ : Loc} {Ca : Addr} {cl : List (PySem.Str × Addr)} {m : PySem.Str → Option Value} (F : FR C env A W ρ) (hsc : env.scope = sc)
    (hcl : ∀ y c, cl.lookup y = some c → env.cells.lookup y = some c) (hfc : ∀ x ∈ scope.names, x.2 = .free → (cl.lookup x.1).isSome = true) (hns : W.h.Ns Ca m) (hout : C.out Ca) (hap : ∀ n, n < W.nx → W.ι n ≠ Ca) (hne : ∀ y c, env.cells.lookup y = some c → c ≠ Ca) :
    FR C (compEnvC scope cl Ca env) A W (cap fv ρ) := by
  have hk : ∀ y kd, (compEnvC scope cl Ca env).kindOf y = some kd → ∃ kd', scope.names.lookup y = some kd' ∧ (y, kd') ∈ scope.names ∧ kd = if (kd' == .free && env.scope.kind == .function && env.scope.names.lookup y == some .cell) then .cell else kd' := fun y kd e => relabel_lookup e
  refine ⟨h.kind, F.glob, F.blt, ⟨m, hns, fun z v e hl => ?_⟩, fun z v e hl => ?_, ⟨hout, hap⟩, fun y c hc => ?_, fun y z c h1 h2 => F.celInj y z c (hcl _ _ h1) (hcl _ _ h2), fun y hy => ?_, F.stk⟩
  · obtain ⟨hz, _⟩ := look_cap e
    obtain ⟨kd', h1, _, h3⟩ := hk _ _ hl
    rw [h.fv z hz] at h1; cases h1
    rw [hsc, h.skind, h.free _ (h.mem hz) rfl] at h3
    cases h3
  · obtain ⟨hz, e'⟩ := look_cap e
    have hcell : env.kindOf (sname z) = some .cell := by show env.scope.names.lookup _ = _; rw [hsc]; exact h.free _ (h.mem hz) rfl
    obtain ⟨h3, c, y, h4, h5, h6⟩ := F.cel z v e' (by rw [hcell]; simp)
    obtain ⟨c', hc'⟩ := Option.isSome_iff_exists.mp (hfc _ (h.mem hz) rfl)
    have := hcl _ _ hc'
    rw [h4] at this; cases this
    refine ⟨.inl ?_, c, y, hc', h5, h6⟩
    show ((relabelS scope env.scope).names.lookup (sname z)) = some .cell
    unfold relabelS
    rw [relabel_lk, h.fv z hz, hsc, h.skind, h.free _ (h.mem hz) rfl]; rfl
  · obtain ⟨a1, a2, a3, v, a4⟩ := F.celAp y c (hcl _ _ hc)
    exact ⟨a1, hne _ _ (hcl _ _ hc), a3, v, a4⟩
  · obtain ⟨kd', h1, h2, h3⟩ := hk _ _ hy
    by_cases hf : kd' = .free
    · subst hf; exact hfc _ h2 rfl
    · have : (kd' == NameKind.free) = false := by simp [hf]
      rw [this] at h3
      exact absurd h3.symm (h.cell _ h2)
end
open Classical in
noncomputable def compGo (src : Src) (l₀ : List V) (x : String) (ft : BA) (fe : EA) (n : Nat) : List V → Loc → AH → Res Unit
  | [], ρ, σ => if src.items σ = some l₀ then .ok () σ else .fail
  | v :: r, ρ, σ => if src.items σ = some l₀ then (ft (put x v ρ) σ).bind fun b σ => if b then (fe (put x v ρ) σ).bind fun y σ => (mAppend [.ref n, y] σ).bind fun _ σ => compGo src l₀ x ft fe n r (put x v ρ) σ
      else compGo src l₀ x ft fe n r (put x v ρ) σ else .fail
noncomputable def eComp (fv : List String) (x : String) (fs : Loc → AH → Res Src) (ft : BA) (fe : EA) : EA := fun ρ σ => (fs ρ σ).bind fun src σ => match src.items σ with
  | some l => ((compGo src l x ft fe σ.length l (cap fv ρ) (σ ++ [.list []])).bind fun _ σ' => .ok (.ref σ.length) σ').safe
  | none => .fail

section
variable {C : Cx} {k : Nat} {sc : Scope}
/-- the tests of a comprehension -/
noncomputable def STs (C : Cx) (k : Nat) (sc : Scope) (ifs : List Expr) (f : BA) : Prop :=
  ∀ env A W ρ, Here C k sc env A W ρ → TJ C noOwn brel A (forIn ifs true fun c r => if r = true then do let ok ← isTrue c env (eval c env); pure (ForInStep.yield ok) else pure (ForInStep.yield r)) (f ρ W.σ) W
noncomputable def tTrue : BA := fun _ σ => .ok true σ
theorem STs_nil : STs C k sc [] tTrue := fun env A W ρ H Q E hk => wpAny_tests_nil (hk.here H.hr rfl)
theorem STs_one {c : Expr} {f : BA} (h : ST C k sc c f) : STs C k sc [c] f := fun env A W ρ H Q E hk => wpAny_tests_one (h env A W ρ H Q E hk)

theorem Ext.ιkeep {own : Addr → Prop} {W W' : Wd} (x : Ext C own W W') {n : Nat} {D : Addr} (h : W.ι n = D ∧ n < W.nx) : W'.ι n = D ∧ n < W'.nx := ⟨(x.same n h.2).trans h.1, Nat.lt_of_lt_of_le h.2 x.nx⟩

structure CompEnd (C : Cx) (W W' : Wd) (n : Nat) (q : Value × Addr) : Prop where
  ref : q.1 = .ref (W'.ι n)
  lt : n < W'.nx
  newC : W.h.get? q.2 = none
  out : C.out q.2
  ap : ∀ k, k < W'.nx → W'.ι k ≠ q.2
  ns : ∃ m, W'.h.Ns q.2 m

theorem compBlock {elt iter : Expr} {ifs : List Expr} {x : String} {px : Pos} {scope : Scope} {pos : Pos} {fv : List String} {cl : List (PySem.Str × Addr)} {src : Src} {l : List V} {it : Value} {env : Env} {A : Around} {W W₁ : Wd} {ρ : Loc} {own : Addr → Prop} {ft : BA} {fe : EA} {RR : Value → Addr → Result → Shared → Prop} {E E' : Value → Shared → Prop}
    (hok : CompOk scope sc x fv) (H : Here C k sc env A W₁ ρ) (x₁ : Ext C own W W₁) (hown : ∀ b, W.h.get? b = none → own b) (i₁ : ItAt C W.h W₁ 0 it src) (hen : src.isEnum = false) (hsq : ∀ n, src ≠ .range n) (hl : src.items W₁.σ = some l)
    (hcl : ∀ y c, cl.lookup y = some c → env.cells.lookup y = some c) (hfc : ∀ x ∈ scope.names, x.2 = .free → (cl.lookup x.1).isSome = true)
    (ht : STs C k (relabelS scope sc) ifs ft) (he : SE C k (relabelS scope sc) elt fe)
    (hk : K C own (fun W' (_ : Unit) q => CompEnd C W W' W₁.nx q) (compGo src l x ft fe W₁.nx l (cap fv ρ) (W₁.σ ++ [.list []])).safe W (fun q s' => RR q.1 q.2 (.ok .next) s') E') :
    wpAny (model C.prog C.w) A (newList []) (fun acc s₃ => wpAny (model C.prog C.w) A (newFunctionEnv scope env.globals cl [] env.qual none .none (some env)) (fun cenv s₄ =>
      codeAny (model C.prog C.w) A (.compStart (.ListComp elt [⟨.Name (PySem.Str.ofString x) px, iter, ifs, 0⟩] scope pos) 0 it acc { cenv with scope := relabel scope env }) (RR acc cenv.locals) s₄) E s₃) E W₁.s := by
  have H₁ := H.hr
  have F₁ := H.fr
  refine wpAny_newObj_type (wpAny_newFunctionEnv hok.cell (by intro y hy; simp at hy) (fun h₁ hns₁ hsb₁ => ?_) hok.kind)
  dsimp only at hns₁ hsb₁ ⊢
  -- the list
  have kpD : ∀ b o, W₁.h.get? b = some o → (W₁.h.push (listOf [].toArray 0)).get? b = some o := fun _ _ e => Heap.get?_push_of_some _ e
  have nD : W₁.h.get? W₁.h.objs.size = none := Heap.get?_none_of_le (Nat.le_refl _)
  have hD : (W₁.h.push (listOf [].toArray 0)).get? W₁.h.objs.size = some (listOf [].toArray 0) := Heap.get?_push_size _ rfl
  have x₂ : Ext C noOwn W₁ (W₁.new (.list []) (W₁.h.push (listOf [].toArray 0)) W₁.s.toks W₁.h.objs.size) := Ext.new _ _ nD kpD
  have ι₂ : (W₁.new (.list []) (W₁.h.push (listOf [].toArray 0)) W₁.s.toks W₁.h.objs.size).ι W₁.nx = W₁.h.objs.size := if_pos rfl
  have H₂ : HR C (W₁.new (.list []) (W₁.h.push (listOf [].toArray 0)) W₁.s.toks W₁.h.objs.size) := H₁.new _ _ nD ⟨_, hD⟩ kpD ⟨[], 0, by rw [ι₂]; exact hD, .nil⟩
  -- the names' dict
  have nC : (W₁.h.push (listOf [].toArray 0)).get? (W₁.h.push (listOf [].toArray 0)).objs.size = none := Heap.get?_none_of_le (Nat.le_refl _)
  have kpC : ∀ b o, (W₁.h.push (listOf [].toArray 0)).get? b = some o → h₁.get? b = some o := fun b o e => by
    have hne : b ≠ (W₁.h.push (listOf [].toArray 0)).objs.size := Nat.ne_of_lt (Heap.lt_size e)
    exact hsb₁.extBut b o hne (Heap.get?_push_of_some _ e)
  have x₃ : Ext C noOwn (W₁.new (.list []) (W₁.h.push (listOf [].toArray 0)) W₁.s.toks W₁.h.objs.size) ((W₁.new (.list []) (W₁.h.push (listOf [].toArray 0)) W₁.s.toks W₁.h.objs.size).withHeap h₁ W₁.s.toks) := Ext.grow _ kpC
  have H₃ : HR C ((W₁.new (.list []) (W₁.h.push (listOf [].toArray 0)) W₁.s.toks W₁.h.objs.size).withHeap h₁ W₁.s.toks) := H₂.grow _ kpC
  generalize hW₃ : (W₁.new (.list []) (W₁.h.push (listOf [].toArray 0)) W₁.s.toks W₁.h.objs.size).withHeap h₁ W₁.s.toks = W₃ at x₃ H₃
  have x₁₃ : Ext C noOwn W₁ W₃ := x₂.trans x₃
  have σ₃ : W₃.σ = W₁.σ ++ [.list []] := by rw [← hW₃]
  have s₃ : W₃.s = { W₁.s with heap := h₁, toks := W₁.s.toks } := by rw [← hW₃]
  have hns₃ : W₃.h.Ns (W₁.h.push (listOf [].toArray 0)).objs.size (fun x => ([] : List (PySem.Str × Value)).reverse.lookup x) := by show W₃.s.heap.Ns _ _; rw [s₃]; exact hns₁
  have ι₃ : W₃.ι W₁.nx = W₁.h.objs.size ∧ W₁.nx < W₃.nx := x₃.ιkeep ⟨ι₂, by rw [nx_new]; exact Nat.lt_succ_self _⟩
  have nC₁ : W₁.h.get? (W₁.h.push (listOf [].toArray 0)).objs.size = none := x₂.unborn nC
  have nC₀ : W.h.get? (W₁.h.push (listOf [].toArray 0)).objs.size = none := x₁.unborn nC₁
  have outC := H₁.out nC₁
  have apC : ∀ n, n < W₃.nx → W₃.ι n ≠ (W₁.h.push (listOf [].toArray 0)).objs.size := fun n hn q => by
    obtain ⟨o, e⟩ := H₂.below n (by rw [← hW₃] at hn; exact hn)
    have : W₃.ι n = (W₁.new (.list []) (W₁.h.push (listOf [].toArray 0)) W₁.s.toks W₁.h.objs.size).ι n := by rw [← hW₃]
    rw [← this, q] at e
    have e' : (W₁.h.push (listOf [].toArray 0)).get? (W₁.h.push (listOf [].toArray 0)).objs.size = some o := e
    rw [nC] at e'; cases e'
  have F₃ : FR C (compEnvC scope cl (W₁.h.push (listOf [].toArray 0)).objs.size env) A W₃ (cap fv ρ) := compFR hok (F₁.ext H₁ x₁₃) H.sc.1 hcl hfc hns₃ outC apC fun y c hc q => by
    refine hide fun X_ k_ => ?_
    obtain ⟨_, _, _, v, o, e, _⟩ := F₁.celAp y c hc
    refine k_ ?_
    clear k_ X_
    rw [q, nC₁] at e; cases e
  have i₃ : ItAt C W.h W₃ 0 it src := i₁.ext x₁₃ (fun _ _ _ h => h.elim) fun v y r => VR.up x₁₃ H₁ r
  generalize hCa : (W₁.h.push (listOf [].toArray 0)).objs.size = Ca at *
  have hk' : K C own (fun W' (_ : Unit) q => CompEnd C W W' W₁.nx q) (compGo src l x ft fe W₁.nx l (cap fv ρ) W₃.σ) W (fun q s' => RR q.1 q.2 (.ok .next) s') (notedBy (model C.prog C.w) A (compEnvC scope cl Ca env) fun e s' => RR (.ref W₁.h.objs.size) Ca (.error e) s') := by
    rw [σ₃]; exact hk.safe
  have hx : setable (relabelS scope sc) x = true := by
    have : (relabelS scope sc).names.lookup (sname x) = some .local := by
      unfold relabelS
      rw [relabel_lk, hok.x]; rfl
    unfold setable
    rw [this]; rfl
  have hcok : C.codeOk (relabelS scope sc) (compEnvC scope cl Ca env).code (compEnvC scope cl Ca env).qual := hok.noCode _ _
  have hsc' : (compEnvC scope cl Ca env).scope = relabelS scope sc := by rw [← H.sc.1]; rfl
  have loop : codeAny (model C.prog C.w) A (.compLoop (.ListComp elt [⟨.Name (PySem.Str.ofString x) px, iter, ifs, 0⟩] scope pos) 0 it (.ref W₁.h.objs.size) (compEnvC scope cl Ca env)) (RR (.ref W₁.h.objs.size) Ca) W₃.s := by
    obtain ⟨I, mkI, unI⟩ := inv_of (fun n s => ∃ W₂ ρ₂ rem i, s = W₂.s ∧ n = rem.length + 1 ∧ rem = l.drop i ∧ Ext C own W W₂ ∧ HR C W₂ ∧ FR C (compEnvC scope cl Ca env) A W₂ ρ₂ ∧ ItAt C W.h W₂ i it src ∧ (W₂.ι W₁.nx = W₁.h.objs.size ∧ W₁.nx < W₂.nx) ∧
        K C own (fun W' (_ : Unit) q => CompEnd C W W' W₁.nx q) (compGo src l x ft fe W₁.nx rem ρ₂ W₂.σ) W (fun q s' => RR q.1 q.2 (.ok .next) s') (notedBy (model C.prog C.w) A (compEnvC scope cl Ca env) fun e s' => RR (.ref W₁.h.objs.size) Ca (.error e) s'))
    refine codeAny_compLoop_tests I ?_ (l.length + 1)
      (mkI _ _ ⟨W₃, cap fv ρ, l, 0, rfl, rfl, rfl, x₁.trans (x₁₃.mono fun _ _ _ h => h.elim), H₃, F₃, i₃, ι₃, hk'⟩)
    rintro n s hI
    replace hI := unI _ _ hI
    refine hide fun X_ k_ => ?_
    obtain ⟨W₂, ρ₂, rem, i, rfl, rfl, hrem, y₂, H₂, F₂, i₂, ι₂, hk₂⟩ := hI
    refine k_ ?_
    clear k_ X_
    have hit : src.items W₂.σ = some l := by
      cases rem with
      | nil => unfold compGo at hk₂; split at hk₂; assumption; exact hk₂.elim
      | cons v r => unfold compGo at hk₂; split at hk₂; assumption; exact hk₂.elim
    have mv : ∀ {fp : List Addr} {h : Heap} {tk : Nat}, Moved C fp W₂ h → (∀ b ∈ fp, W.h.get? b = none ∧ ∃ o vs, W₂.h.get? b = some o ∧ o.data = .fields vs) → Ext C own W (W₂.withHeap h tk) ∧ HR C (W₂.withHeap h tk) ∧ FR C (compEnvC scope cl Ca env) A (W₂.withHeap h tk) ρ₂ := fun {fp h tk} m hf =>
      ⟨m.ext tk y₂ fun b hb => (hf b hb).1, m.hr tk H₂, m.fr tk (fun b hb => (hf b hb).2) F₂⟩
    refine nextP H.room H₂ i₂ hen hit (fun v hx' y fp h tk m hf hv hi' => ?_) (fun hx' fp h tk m hf => ?_)
    · obtain ⟨z₁, z₂, z₃⟩ := mv (tk := tk) m hf
      have hr : rem = v :: l.drop (i + 1) := by
        rw [hrem]
        obtain ⟨hlt, e⟩ := List.getElem?_eq_some_iff.mp hx'
        rw [List.drop_eq_getElem_cons hlt, e]
      subst hr
      unfold compGo at hk₂
      rw [if_pos hit] at hk₂
      have h3 : Here C k (relabelS scope sc) (compEnvC scope cl Ca env) A (W₂.withHeap h tk) ρ₂ := ⟨⟨hsc', hcok⟩, H.room, z₂, z₃⟩
      have hk₂' : K C own (fun W' (_ : Unit) q => CompEnd C W W' W₁.nx q) ((Res.ok (put x v ρ₂) (W₂.withHeap h tk).σ).bind fun ρ σ => (ft ρ σ).bind fun b σ => if b then (fe ρ σ).bind fun y σ => (mAppend [.ref W₁.nx, y] σ).bind fun _ σ => compGo src l x ft fe W₁.nx (l.drop (i + 1)) ρ σ
          else compGo src l x ft fe W₁.nx (l.drop (i + 1)) ρ σ) W (fun q s' => RR q.1 q.2 (.ok .next) s') (notedBy (model C.prog C.w) A (compEnvC scope cl Ca env) fun e s' => RR (.ref W₁.h.objs.size) Ca (.error e) s') := hk₂
      have hOw : ∀ b, Own (compEnvC scope cl Ca env) b → b = Ca ∨ ∃ y, env.cells.lookup y = some b := fun b hb => hb.imp id fun ⟨y, hy⟩ => ⟨y, hcl _ _ hy⟩
      refine PySem.wpAny_assign_Name ?_
      -- the item's name: a plain local
      have F₃' := z₃
      have hloc : (compEnvC scope cl Ca env).kindOf (sname x) = some .local := by
        show (relabelS scope env.scope).names.lookup _ = _
        unfold relabelS
        rw [relabel_lk, hok.x]; rfl
      obtain ⟨mm, hm, hm2⟩ := F₃'.ns
      refine wpAny_storeName_local hloc hm (fun h' hn sb => ?_) (by rw [F₃'.kind]; rfl)
      have x₄ : Ext C (fun b => b = Ca) (W₂.withHeap h tk) ((W₂.withHeap h tk).withHeap h' (tk + 1)) := Ext.loc (W := W₂.withHeap h tk) _ rfl sb (ns_stays hn)
      have H₄ : HR C ((W₂.withHeap h tk).withHeap h' (tk + 1)) := HR.loc (W := W₂.withHeap h tk) z₂ _ z₃.locAp.1 z₃.locAp.2 sb (ns_stays hn) (ns_plainish hm)
      have F₄ : FR C (compEnvC scope cl Ca env) A ((W₂.withHeap h tk).withHeap h' (tk + 1)) (put x v ρ₂) := z₃.stL _ z₂ hloc hm hm2 hn sb hv
      have z₄ : Ext C own W ((W₂.withHeap h tk).withHeap h' (tk + 1)) := z₁.trans (x₄.mono fun b _ _ q => by subst q; exact hown _ nC₀)
      have i₄ : ItAt C W.h ((W₂.withHeap h tk).withHeap h' (tk + 1)) (i + 1) it src := hi'.ext x₄ (fun b o vs hb e => by
        subst hb
        refine hide fun X_ k_ => ?_
        obtain ⟨o', es, ep, (e' : (W₂.withHeap h tk).h.get? b = some o'), hd', _⟩ := hm
        refine k_ ?_
        clear k_ X_
        rw [e] at e'; cases e'; rw [hd']; simp) fun v y r => VR.loc z₂ sb (ns_stays hn) (ns_plainish hm) r
      generalize hW₄ : (W₂.withHeap h tk).withHeap h' (tk + 1) = W₄ at x₄ H₄ F₄ z₄ i₄
      have e₄ : W₄.σ = W₂.σ := by rw [← hW₄]
      have ι₄ : W₄.ι W₁.nx = W₁.h.objs.size ∧ W₁.nx < W₄.nx := by rw [← hW₄]; exact ι₂
      have s₄ : W₄.s = { (W₂.withHeap h tk).s with heap := h', toks := tk + 1 } := by rw [← hW₄]
      have hk₄ : K C own (fun W' (_ : Unit) q => CompEnd C W W' W₁.nx q) ((ft (put x v ρ₂) W₄.σ).bind fun b σ => if b then (fe (put x v ρ₂) σ).bind fun y σ => (mAppend [.ref W₁.nx, y] σ).bind fun _ σ => compGo src l x ft fe W₁.nx (l.drop (i + 1)) (put x v ρ₂) σ
          else compGo src l x ft fe W₁.nx (l.drop (i + 1)) (put x v ρ₂) σ) W (fun q s' => RR q.1 q.2 (.ok .next) s') (notedBy (model C.prog C.w) A (compEnvC scope cl Ca env) fun e s' => RR (.ref W₁.h.objs.size) Ca (.error e) s') := by rw [e₄]; exact hk₂
      have h4 : Here C k (relabelS scope sc) (compEnvC scope cl Ca env) A W₄ (put x v ρ₂) := ⟨⟨hsc', hcok⟩, H.room, H₄, F₄⟩
      show wpAny _ _ _ _ _ { (W₂.withHeap h tk).s with heap := h', toks := tk + 1 }
      rw [← s₄]
      have done : ∀ {W₅ : Wd}, Ext C own W W₅ → HR C W₅ → FR C (compEnvC scope cl Ca env) A W₅ (put x v ρ₂) → ItAt C W.h W₅ (i + 1) it src → (W₅.ι W₁.nx = W₁.h.objs.size ∧ W₁.nx < W₅.nx) →
          K C own (fun W' (_ : Unit) q => CompEnd C W W' W₁.nx q) (compGo src l x ft fe W₁.nx (l.drop (i + 1)) (put x v ρ₂) W₅.σ) W (fun q s' => RR q.1 q.2 (.ok .next) s') (notedBy (model C.prog C.w) A (compEnvC scope cl Ca env) fun e s' => RR (.ref W₁.h.objs.size) Ca (.error e) s') →
          ∃ m, m < (v :: l.drop (i + 1)).length + 1 ∧ I m W₅.s := fun {W₅} a1 a2 a3 a4 a5 a6 =>
        ⟨(l.drop (i + 1)).length + 1, by simp, mkI _ _ ⟨W₅, put x v ρ₂, l.drop (i + 1), i + 1, rfl, rfl, rfl, a1, a2, a3, a4, a5, a6⟩⟩
      refine ht _ A W₄ _ h4 _ _ (K.bindB hk₄ z₄ (fun _ h => h.elim) fun ok b σ₅ W₅ _ x₅ H₅ _ r₅ z₅ hk₅ => ?_)
      subst r₅
      have F₅ := F₄.ext H₄ x₅
      have i₅ := i₄.ext x₅ (fun _ _ _ h => h.elim) fun v y r => VR.up x₅ H₄ r
      have ι₅ := x₅.ιkeep ι₄
      cases ok with
      | false => exact done z₅ H₅ F₅ i₅ ι₅ hk₅
      | true =>
        refine he _ A W₅ _ ⟨⟨hsc', hcok⟩, H.room, H₅, F₅⟩ _ _ (K.bindB hk₅ z₅ (fun _ h => h.elim) fun yv y σ₆ W₆ _ x₆ H₆ _ r₆ z₆ hk₆ => ?_)
        have F₆ := F₅.ext H₅ x₆
        have i₆ := i₅.ext x₆ (fun _ _ _ h => h.elim) fun v y r => VR.up x₆ H₅ r
        have ι₆ := x₆.ιkeep ι₅
        have rD : W₆.VR (.ref W₁.nx) (.ref W₁.h.objs.size) := by rw [← ι₆.1]; exact .ref _ ι₆.2
        refine appendM k A W₆ [.ref W₁.nx, y] [.ref W₁.h.objs.size, yv] H.room H₆ (.cons _ _ _ _ rD (.cons _ _ _ _ r₆ .nil)) _ _ (K.bindB hk₆ z₆ (fun _ h => h.elim) fun _ _ σ₇ W₇ _ x₇ H₇ _ r₇ z₇ hk₇ => ?_)
        exact done z₇ H₇ (F₆.ext H₆ x₇) (i₆.ext x₇ (fun _ _ _ h => h.elim) fun v y r => VR.up x₇ H₆ r) (x₇.ιkeep ι₆) hk₇
    · have hr : rem = [] := by rw [hrem, List.drop_eq_nil_iff]; exact List.getElem?_eq_none_iff.mp hx'
      subst hr
      unfold compGo at hk₂
      rw [if_pos hit] at hk₂
      refine hide fun X_ k_ => ?_
      obtain ⟨z₁, z₂, z₃⟩ := mv (tk := tk) m hf
      obtain ⟨mm, hm, _⟩ := z₃.ns
      refine k_ ?_
      clear k_ X_
      exact hk₂ (.ref W₁.h.objs.size, Ca) (W₂.withHeap h tk) z₁ z₂ rfl ⟨by show _ = Value.ref (W₂.ι W₁.nx); rw [ι₂.1], ι₂.2, nC₀, outC, z₃.locAp.2, mm, hm⟩
  have e0 : ({ W₁.s with heap := h₁, toks := W₁.s.toks + ([] : List (PySem.Str × Value)).length } : Shared) = W₃.s := by rw [s₃]; rfl
  show codeAny _ _ _ _ { W₁.s with heap := h₁, toks := W₁.s.toks + ([] : List (PySem.Str × Value)).length }
  rw [e0]
  refine codeAny_compStart_list loop ?_
  cases src with
  | list v => obtain ⟨I, a, rfl, hit, _⟩ := i₃; exact wpAny_pyIter_listiter hit loop
  | str l => obtain ⟨I, t, rfl, hit, _⟩ := i₃; exact wpAny_pyIter_striter_ascii hit loop
  | range n => exact absurd rfl (hsq n)
  | enum v => cases hen
end
section
variable {C : Cx} {k : Nat} {sc : Scope}
theorem CompEnd.moved {W W' : Wd} {n : Nat} {q : Value × Addr} (e : CompEnd C W W' n q) {h' : Heap} (sb : Heap.SameBut q.2 W'.h h') : Moved C [q.2] W' h' :=
  ⟨fun b hb => by
    cases List.mem_singleton.mp hb
    refine hide fun X_ k_ => ?_
    obtain ⟨m, hm⟩ := e.ns
    obtain ⟨o, es, ep, ho, r⟩ := id hm
    refine k_ ?_
    clear k_ X_
    exact ⟨e.out, e.ap, o, ho, ns_plainish hm o ho⟩, fun b o hb ho => (sb.2 b (fun q => hb (List.mem_singleton.mpr q))).trans ho⟩
noncomputable def plainSrc (fs : Loc → AH → Res Src) : Prop := ∀ ρ σ src σ', fs ρ σ = .ok src σ' → src.isEnum = false ∧ ∀ n, src ≠ .range n
theorem plain_iSrc {f : EA} : plainSrc (iSrc f) := fun ρ σ src σ' h => by
  unfold iSrc at h
  cases hq : f ρ σ with
  | ok v σ₁ =>
    rw [hq] at h
    change srcOf v σ₁ = _ at h
    unfold srcOf at h
    split at h
    · split at h
      · cases h; exact ⟨rfl, fun n q => by cases q⟩
      · cases h
    · split at h
      · cases h; exact ⟨rfl, fun n q => by cases q⟩
      · cases h
  | exc c σ₁ => rw [hq] at h; cases h
  | fail => rw [hq] at h; cases h

theorem SE_comp {elt iter : Expr} {ifs : List Expr} {x : String} {px : Pos} {scope : Scope} {pos : Pos} {fv : List String} {fs : Loc → AH → Res Src} {ft : BA} {fe : EA} (hok : CompOk scope sc x fv) (hi : SI C k sc iter fs) (hp : plainSrc fs)
    (ht : STs C k (relabelS scope sc) ifs ft) (he : SE C k (relabelS scope sc) elt fe) (hs : ∀ env x, foldedSetIterable iter env x = pure x := by intro _ _; rfl) :
    SE C k sc (.ListComp elt [⟨.Name (PySem.Str.ofString x) px, iter, ifs, 0⟩] scope pos) (eComp fv x fs ft fe) := fun env A W ρ H Q E hk => by
  have hk₀ : K C (fun b => W.h.get? b = none) vrel (eComp fv x fs ft fe ρ W.σ) W Q E := hk.widen fun b o e h => by rw [h] at e; cases e
  obtain ⟨cl, hclos, hcl, hfc⟩ := hok.clos H.fr H.sc.1
  rw [eval_ListComp]
  refine wpAny_comprehension_free (use := none) rfl (hs env) hclos hok.kind hok.names (hi env A W ρ H _ _ (K.bind hk₀ (fun _ => False.elim) fun it src σ₁ W₁ hfs x₁ H₁ e₁ i₁ hk₁ => ?_))
  obtain ⟨hen, hsq⟩ := hp _ _ _ _ hfs
  split at hk₁
  · rename_i l hl
    refine compBlock (RR := fun acc Ca => compPost (model C.prog C.w) A E none Q acc Ca) (E' := E) hok (H.ext x₁ H₁) (x₁.mono fun _ _ _ h => h.elim) (fun _ h => h) i₁ hen hsq hl hcl hfc ht he ?_
    have hq : eComp fv x fs ft fe ρ W.σ = ((compGo src l x ft fe W₁.nx l (cap fv ρ) (W₁.σ ++ [.list []])).bind fun _ σ' => .ok (.ref W₁.nx) σ').safe := by
      unfold eComp; rw [hfs]; show (match src.items σ₁ with | some l => _ | none => _) = _
      rw [← e₁, hl]
    rw [hq] at hk₀
    cases hg : compGo src l x ft fe W₁.nx l (cap fv ρ) (W₁.σ ++ [.list []]) with
    | ok u σ' =>
      rw [hg] at hk₀
      intro q W' x' H' e' ce
      refine ⟨ce.ns.choose, ce.ns.choose_spec, fun h' sb => ?_⟩
      have m := ce.moved sb
      refine hk₀ q.1 (W'.withHeap h' W'.s.toks) (m.ext _ x' fun b hb => by cases List.mem_singleton.mp hb; exact ce.newC) (m.hr _ H') e' ?_
      rw [ce.ref]
      exact VR.moved m (.ref _ ce.lt)
    | exc c σ' => rw [hg] at hk₀; exact hk₀.elim
    | fail => rw [hg] at hk₀; exact hk₀.elim
  · exact hk₁.elim

theorem SS_compUse {elt iter : Expr} {ifs : List Expr} {x y : String} {px py : Pos} {scope : Scope} {pos spos : Pos} {fv : List String} {fs : Loc → AH → Res Src} {ft : BA} {fe : EA} (hok : CompOk scope sc x fv) (hi : SI C k sc iter fs) (hp : plainSrc fs)
    (ht : STs C k (relabelS scope sc) ifs ft) (he : SE C k (relabelS scope sc) elt fe) (hy : setable sc y = true)
    (hsw : ∀ env, env.scope = sc → swapsWith (.ListComp elt [⟨.Name (PySem.Str.ofString x) px, iter, ifs, 0⟩] scope pos) (some (.Name (PySem.Str.ofString y) py)) spos.line env = pure true) (hs : ∀ env x, foldedSetIterable iter env x = pure x := by intro _ _; rfl) :
    SS C k sc (.Assign [.Name (PySem.Str.ofString y) py] (.ListComp elt [⟨.Name (PySem.Str.ofString x) px, iter, ifs, 0⟩] scope pos) spos) (sAsg (eComp fv x fs ft fe) (gName y)) := fun env A W ρ H Q E hk => by
  have hkW : K C (fun b => Own env b ∨ W.h.get? b = none) (srel C env A) (sAsg (eComp fv x fs ft fe) (gName y) ρ W.σ) W Q E := hk.widen fun b o e h => h.resolve_right fun q => by rw [q] at e; cases e
  obtain ⟨cl, hclos, hcl, hfc⟩ := hok.clos H.fr H.sc.1
  rw [exec_Assign_Name_used _ _ _ _ (hsw env H.sc.1)]
  refine wpAny_bind (wpAny_standAt (wpAny_bind ?_))
  show wpAny _ A (do let _ ← comprehension (.ListComp elt [⟨.Name (PySem.Str.ofString x) px, iter, ifs, 0⟩] scope pos) scope env _ (newList []) false (eval iter env) (some (assign (.Name (PySem.Str.ofString y) py) env))) _ _ W.s
  have hk' : K C (fun b => Own env b ∨ W.h.get? b = none) (srel C env A) ((fs ρ W.σ).bind fun src σ => (match src.items σ with
      | some l => ((compGo src l x ft fe σ.length l (cap fv ρ) (σ ++ [AO.list []])).bind fun _ σ' => Res.ok (V.ref σ.length) σ').safe
      | none => Res.fail : Res V).bind fun v σ => (gName y v ρ σ).bind fun ρ σ => .ok (.next, ρ) σ) W Q E := by
    unfold sAsg eComp at hkW
    cases hq : fs ρ W.σ <;> rw [hq] at hkW <;> exact hkW
  refine wpAny_bind (wpAny_mono (wpAny_comprehension_free (use := some (assign (.Name (PySem.Str.ofString y) py) env)) (Q := fun _ s' => Q .next s') rfl (hs env) hclos hok.kind hok.names
    (hi env A W ρ H _ _ (K.bind hk' (fun _ => False.elim) fun it src σ₁ W₁ hfs x₁ H₁ e₁ i₁ hk₁ => ?_))) (fun _ s' hq => wpAny_pure (wpAny_pure hq)) fun _ _ e => e)
  obtain ⟨hen, hsq⟩ := hp _ _ _ _ hfs
  split at hk₁
  · rename_i l hl
    refine compBlock (own := fun b => W.h.get? b = none) (RR := fun acc Ca => compPost (model C.prog C.w) A E (some (assign (.Name (PySem.Str.ofString y) py) env)) (fun _ s' => Q .next s') acc Ca) (E' := E) hok (H.ext x₁ H₁) (x₁.mono fun _ _ _ h => h.elim) (fun _ h => h) i₁ hen hsq hl hcl hfc ht he ?_
    have hq : sAsg (eComp fv x fs ft fe) (gName y) ρ W.σ = ((compGo src l x ft fe W₁.nx l (cap fv ρ) (W₁.σ ++ [.list []])).bind fun _ σ' => .ok (.ref W₁.nx) σ').safe.bind fun v σ => .ok (.next, put y v ρ) σ := by
      unfold sAsg eComp; rw [hfs]; show (match src.items σ₁ with | some l => _ | none => _ : Res V).bind _ = _
      rw [← e₁, hl]; rfl
    rw [hq] at hkW
    cases hg : compGo src l x ft fe W₁.nx l (cap fv ρ) (W₁.σ ++ [.list []]) with
    | ok u σ' =>
      rw [hg] at hkW
      intro q W' x' H' e' ce
      have xn : Ext C noOwn W W' := x'.mono fun b o e h => by rw [h] at e; cases e
      have h1 : Here C k sc env A W' ρ := H.ext xn H'
      show wpAny _ A (assign (.Name (PySem.Str.ofString y) py) env q.1) _ _ _
      refine PySem.wpAny_assign_Name (storeK (v := .ref W₁.nx) h1 hy (by rw [ce.ref]; exact .ref _ ce.lt) ?_)
      intro _ W'' x'' H'' e'' F''
      have hneL : q.2 ≠ env.locals := fun q' => by
        refine hide fun X_ k_ => ?_
        obtain ⟨mm, ⟨o', es, ep, eo, _⟩, _⟩ := H.fr.ns
        refine k_ ?_
        clear k_ X_
        rw [← q', ce.newC] at eo; cases eo
      have hneC : ∀ z, env.cells.lookup z ≠ some q.2 := fun z hz => by
        refine hide fun X_ k_ => ?_
        obtain ⟨_, _, _, v, o, eo, _⟩ := H.fr.celAp z _ hz
        refine k_ ?_
        clear k_ X_
        rw [ce.newC] at eo; cases eo
      -- the names' dict is still one
      refine hide fun X_ k_ => ?_
      obtain ⟨m, hm⟩ := ce.ns
      obtain ⟨o, es, ep, ho, hd, hr⟩ := id hm
      obtain ⟨o', ho', ko⟩ := x''.keep q.2 o ho ce.ap ce.out.2 (fun h => h.elim (fun q' => hneL q') (fun ⟨z, hz⟩ => hneC z hz))
      refine k_ ?_
      clear k_ X_
      have hm'' : W''.h.Ns q.2 m := Ns.kept hm fun o₁ e₁ => by rw [ho] at e₁; cases e₁; exact ⟨o', ho', ko⟩
      refine ⟨m, hm'', fun h' sb => ?_⟩
      have mvd : Moved C [q.2] W'' h' := ⟨fun b hb => by
        cases List.mem_singleton.mp hb
        exact ⟨ce.out, x''.notι ho ce.ap, o', ho', ns_plainish hm'' o' ho'⟩, fun b o hb ho => (sb.2 b (fun q => hb (List.mem_singleton.mpr q))).trans ho⟩
      have xx : Ext C (fun b => Own env b ∨ W.h.get? b = none) W W'' := (xn.mono fun _ _ _ h => h.elim).trans (x''.mono fun _ _ _ h => .inl h)
      refine hkW .next (W''.withHeap h' W''.s.toks) (mvd.ext _ xx fun b hb => by cases List.mem_singleton.mp hb; exact ce.newC) (mvd.hr _ H'') (e''.trans e') ⟨?_, rfl⟩
      exact mvd.fr' _ (fun b hb => by cases List.mem_singleton.mp hb; exact ce.newC) H.fr F''
    | exc c σ' => rw [hg] at hkW; exact hkW.elim
    | fail => rw [hg] at hkW; exact hkW.elim
  · exact hk₁.elim
end
/-! ## Expressions that change nothing -/
noncomputable def SQ (C : Cx) (k : Nat) (sc : Scope) (e : Expr) (f : EA) : Prop :=
  ∀ env A W ρ, Here C k sc env A W ρ → ∀ Q E v, f ρ W.σ = .ok v W.σ → (∀ x tk, W.VR v x → Q x { W.s with toks := tk }) → wpAny (model C.prog C.w) A (eval e env) Q E W.s
section
variable {C : Cx} {k : Nat} {sc : Scope}
theorem SQ_name {x : String} {p} (hd : (sname x == ("__debug__" : PySem.Str)) = false) (hc : (sname x == ("__classdict__" : PySem.Str)) = false) : SQ C k sc (.Name (PySem.Str.ofString x) p) (eName x) := by
  intro env A W ρ H Q E v hv hk
  unfold eName at hv
  cases hl : look x ρ with
  | none => rw [hl] at hv; cases hv
  | some u =>
    rw [hl] at hv; cases hv
    refine wpAny_Name ?_ hd
    by_cases hloc : env.kindOf (sname x) = some .local
    · obtain ⟨m, hm, h2⟩ := H.fr.ns
      obtain ⟨y, e, r⟩ := h2 x v hl hloc
      exact wpAny_loadName_local H.fr.kind hloc hm e (hk _ W.s.toks r)
    · obtain ⟨h1, c, y, h2, h3, r⟩ := H.fr.cel x v hl hloc
      rcases h1 with h1 | h1
      · exact wpAny_loadName_cell H.fr.kind h1 h2 h3 (hk _ W.s.toks r)
      · exact wpAny_loadName_free H.fr.kind h1 h2 h3 (hk _ W.s.toks r) hc
theorem bind_ok {α β : Type} {r : Res α} {f : α → AH → Res β} {b : β} {σ : AH} (h : r.bind f = .ok b σ) : ∃ a σ', r = .ok a σ' ∧ f a σ' = .ok b σ := by
  cases r with
  | ok a σ' => exact ⟨a, σ', rfl, h⟩
  | exc c σ' => cases h
  | fail => cases h
theorem Here.tok {env A W ρ} (H : Here C k sc env A W ρ) (tk : Nat) : Here C k sc env A (W.withHeap W.h tk) ρ := H.ext (Ext.grow tk fun _ _ e => e) (H.hr.grow tk fun _ _ e => e)
/-- the state is as it was in all its parts -/
noncomputable def Still (f : EA) : Prop := ∀ ρ σ v σ', f ρ σ = .ok v σ' → σ' = σ
theorem still_name {x : String} : Still (eName x) := fun ρ σ v σ' h => by
  unfold eName at h
  split at h
  · cases h; rfl
  · cases h
theorem still_attr {x : String} {f : EA} (hf : Still f) : Still (eAttr x f) := fun ρ σ v σ' h => by
  obtain ⟨a, σ₁, h1, h2⟩ := bind_ok h
  have := hf _ _ _ _ h1
  subst this
  unfold vAttr at h2
  split at h2
  · split at h2
    · split at h2
      · cases h2; rfl
      · cases h2
    · cases h2
  · cases h2
noncomputable def vGetD (a b : V) (σ : AH) : Res V := match b with
  | .str k => match (dictAt σ a).bind (dlook k) with
    | some v => .ok v σ
    | none => .fail
  | _ => .fail
noncomputable def eSubD (f g : EA) : EA := e2 vGetD f g
theorem still_subD {f g : EA} (hf : Still f) (hg : Still g) : Still (eSubD f g) := fun ρ σ v σ' h => by
  obtain ⟨a, σ₁, h1, h2⟩ := bind_ok h
  obtain ⟨b, σ₂, h3, h4⟩ := bind_ok h2
  have e1 := hf _ _ _ _ h1
  have e2 := hg _ _ _ _ h3
  subst e1
  subst e2
  unfold vGetD at h4
  split at h4
  · split at h4
    · cases h4; rfl
    · cases h4
  · cases h4
theorem SQ_attr {x : String} {e : Expr} {f : EA} {p : Pos} (hf : SQ C k sc e f) (hst : Still f) (hx : x ∈ spaceFields) (he : ∀ env, eval (.Attribute e (PySem.Str.ofString x) p) env = (do
      let o ← eval e env
      standAt p.atName
      let r ← holding [o] (getAttr o (PySem.Str.ofString x) true)
      letTemporaryGo e o r
      pure r) := by intro _; with_unfolding_all rfl) : SQ C k sc (.Attribute e (PySem.Str.ofString x) p) (eAttr x f) := fun env A W ρ H Q E v hv hk => by
  obtain ⟨a, σ₁, h1, h2⟩ := bind_ok hv
  have e1 := hst _ _ _ _ h1
  subst e1
  refine Attribute_any_ (hf env A W ρ H _ _ a h1 fun y tk r => ?_) (he env)
  unfold vAttr at h2
  split at h2
  · split at h2
    · rename_i n fs hn
      cases r
      obtain ⟨es, ep, I, _, hfs⟩ := instAt H.hr hn
      split at h2
      · rename_i u hu
        cases h2
        obtain ⟨z, q, r'⟩ := hfs.get hu
        exact get_value (s := { W.s with toks := tk }) (C.X.keeps H.hr.keep) I (plainGet_of (show plainGet C.K C.spaceC (sname x) = true from C.spG)).1 (findObj_own C.spH (C.spF x hx) rfl (by rw [lookIn_dict]; exact q)) r'.handed (hk _ _ r')
      · cases h2
    · cases h2
  · cases h2
/-- a dict's value at a text -/
theorem SQ_subD {e i : Expr} {p f g} (hf : SQ C k sc e f) (hg : SQ C k sc i g) (sf : Still f) (sg : Still g) (hs : ∀ o j, subscripted i false o j = operate [o, j] (getItem o j) := by intro _ _; rfl) :
    SQ C k sc (.Subscript e i p) (eSubD f g) := fun env A W ρ H Q E v hv hk => by
  obtain ⟨a, σ₁, h1, h2⟩ := bind_ok hv
  obtain ⟨b, σ₂, h3, h4⟩ := bind_ok h2
  have e1 := sf _ _ _ _ h1
  subst e1
  have e2 := sg _ _ _ _ h3
  subst e2
  refine PyProof.Rows.Subscript_ (hf env A W ρ H _ _ a h1 fun x tk ra => ?_)
  refine hg env A (W.withHeap W.h tk) ρ (H.tok tk) _ _ b h3 fun y tk' rb => ?_
  cases b with
  | str l =>
    cases hq : (dictAt W.σ a).bind (dlook l) with
    | some u =>
      have e : Res.ok u W.σ = Res.ok v W.σ := by unfold vGetD at h4; simp only [hq] at h4; exact h4
      cases e
      obtain ⟨dl, e1, e2⟩ := Option.bind_eq_some_iff.mp hq
      obtain ⟨n, kvs, rfl, hn, rfl, g1, g2⟩ := dictAt_is H.hr ra e1
      cases rb
      rcases g2.valueAt (k := l) with ⟨q1, _⟩ | ⟨v', z, q1, q2, rz⟩
      · rw [e2] at q1; cases q1
      · rw [e2] at q1; cases q1
        exact tail_any (s := { W.s with toks := tk' }) g1.typeIs slot_dict_getitem.lookup (wpAny_getItem_of (strKind_is C.prog C.w _ _) g1.mapOf q2 (hk _ _ rz)) (hs _ _)
    | none => unfold vGetD at h4; simp only [hq] at h4; cases h4
  | _ => cases h4
theorem SQ_len {e : Expr} {f : EA} {p pn : Pos} (hf : SQ C k sc e f) (sf : Still f) (hg : sc.names.lookup (sname "len") = some .globalImplicit) (hm : nsIn C.K mainGlobals (sname "len") = some none)
    (he : ∀ env, starEach [e] env = (false, eval e env) :: starEach [] env := by intro _; rfl) : SQ C k sc (.Call (.Name (PySem.Str.ofString "len") pn) [e] [] p) (eFn bLen (lCons f lNil)) := fun env A W ρ H Q E v hv hk => by
  obtain ⟨vs, σ₁, h1, h2⟩ := bind_ok hv
  obtain ⟨a, σ₂, h3, h4⟩ := bind_ok h1
  have e1 := sf _ _ _ _ h3
  subst e1
  cases h4
  refine callBI H hg hm (bv := .builtin "len") (by decide +kernel) (by decide +kernel) (by decide +kernel) rfl he (fun _ => rfl) ?_
  rw [he]
  show wpAny _ A (spliced ((false, eval e env) :: [])) _ E W.s
  refine spliced_cons (hf env A W ρ H _ _ a h3 fun x tk r => spliced_nil ?_)
  have gen : ∀ l, listAt W.σ a = some l → sizeOk' l.length = true → v = .int l.length → wpAny (model C.prog C.w) A (call (.builtin "len") [x]) Q E { W.s with toks := tk } := fun l e hz hv => by
    subst hv
    obtain ⟨ad, ws, rfl, g1, g2⟩ := listAt_is H.hr r e
    have := sl100 hz
    rw [sizeLine_eq, g2.length] at this
    refine PyProof.Rows.len_list (s := { W.s with toks := tk }) g1 (by simp; omega) (hk _ _ ?_)
    rw [List.size_toArray, ← g2.length]
    exact .int _ _
  have gen2 : ∀ o : Option (List V), o = listAt W.σ a → (match o with | some l => if sizeOk' l.length then Res.ok (V.int l.length) W.σ else .fail | none => .fail) = .ok v W.σ → wpAny (model C.prog C.w) A (call (.builtin "len") [x]) Q E { W.s with toks := tk } := fun o ho h => by
    cases o with
    | none => cases h
    | some l =>
      dsimp only at h
      split at h
      · rename_i hz
        cases h
        exact gen l ho.symm hz rfl
      · cases h
  cases a with
  | str l =>
    cases r with
    | str _ t =>
    change (if sizeOk' l.length then Res.ok (V.int l.length) W.σ else .fail) = _ at h2
    split at h2
    · rename_i hz
      cases h2
      have := sl100 hz
      rw [sizeLine_eq] at this
      refine PyProof.Rows.len_str (s := { W.s with toks := tk }) (by simp [PySem.Str.length]; omega) (hk _ _ ?_)
      simp only [PySem.Str.length, List.size_toArray]
      exact .int _ _
    · cases h2
  | ref n => exact gen2 _ rfl h2
  | lst l => exact gen2 _ rfl h2
  | _ => cases h2
end
/-- the elements over a dict's keys; the state is σ and the list so far -/
noncomputable def compDGo (x : String) (fe : EA) (σ : AH) : List (List Nat × V) → Loc → List V → Res (List V)
  | [], ρ, acc => .ok acc σ
  | (k, _) :: r, ρ, acc => match fe (put x (.str k) ρ) (σ ++ [.list acc]) with
    | .ok v _ => if sizeOk' acc.length then compDGo x fe σ r (put x (.str k) ρ) (acc ++ [v]) else .fail
    | _ => .fail
noncomputable def eCompD (fv : List String) (x : String) (fd : EA) (fe : EA) : EA := fun ρ σ => (fd ρ σ).bind fun d σ => match dictAt σ d with
  | some l => (compDGo x fe σ l (cap fv ρ) []).bind fun acc σ => .ok (.ref σ.length) (σ ++ [.list acc])
  | none => .fail

section
variable {C : Cx} {k : Nat} {sc : Scope}
theorem DsR.at {W : Wd} : ∀ {l : List (List Nat × V)} {kvs}, DsR W l kvs → ∀ (i : Nat) k v, l[i]? = some (k, v) → ∃ y, kvs[i]? = some (⟨k.toArray⟩, y) := fun {l kvs} h i k v e => by
  cases h with
  | nil => simp at e
  | cons x u y l es hv hr =>
    cases i with
    | zero => simp at e; obtain ⟨rfl, rfl⟩ := e; exact ⟨y, rfl⟩
    | succ i => simp at e; simpa using DsR.at hr i k v e

theorem SE_compD {elt iter : Expr} {x : String} {px : Pos} {scope : Scope} {pos : Pos} {fv : List String} {fd fe : EA} (hok : CompOk scope sc x fv) (hd : SE C k sc iter fd) (he : SQ C k (relabelS scope sc) elt fe) (hst : Still fe) (hs : ∀ env x, foldedSetIterable iter env x = pure x := by intro _ _; rfl) :
    SE C k sc (.ListComp elt [⟨.Name (PySem.Str.ofString x) px, iter, [], 0⟩] scope pos) (eCompD fv x fd fe) := fun env A W ρ H Q E hk => by
  have hk₀ : K C (fun b => W.h.get? b = none) vrel (eCompD fv x fd fe ρ W.σ) W Q E := hk.widen fun b o e h => by rw [h] at e; cases e
  obtain ⟨cl, hclos, hcl, hfc⟩ := hok.clos H.fr H.sc.1
  rw [eval_ListComp]
  refine wpAny_comprehension_free (use := none) rfl (hs env) hclos hok.kind hok.names (hd env A W ρ H _ _ (K.bindB hk₀ (.refl _ _ _) (fun _ => False.elim) fun dv d σ₁ W₁ hfd x₁ H₁ e₁ r₁ x₀ hk₁ => ?_))
  cases hl : dictAt W₁.σ d with
  | none => rw [hl] at hk₁; exact hk₁.elim
  | some l =>
  rw [hl] at hk₁
  refine hide fun X_ k_ => ?_
  obtain ⟨dn, kvs, rfl, hdn, rfl, g1, g2⟩ := dictAt_is H₁ r₁ hl
  refine k_ ?_
  clear k_ X_
  have F₁ := H.fr.ext H.hr x₁
  have hdlt := lt_of_get hdn
  obtain ⟨ep, gA⟩ := g1.dictAt
  have hkl : kvs.length = l.length := g2.length
  refine wpAny_pyIter_dict (not_sysMod H₁ hdn) gA ?_
  -- the iterator
  let oI : Obj := { cls := .type "dict_keyiterator", data := .fields #[.ref (W₁.ι dn), .int 0 0, .int kvs.length 0, .int ep 0] }
  have kpI : ∀ b o, W₁.h.get? b = some o → (W₁.h.push oI).get? b = some o := fun _ _ e => Heap.get?_push_of_some _ e
  have nI : W₁.h.get? W₁.h.objs.size = none := Heap.get?_none_of_le (Nat.le_refl _)
  have xI : Ext C noOwn W₁ (W₁.withHeap (W₁.h.push oI) W₁.s.toks) := Ext.grow _ kpI
  have HI : HR C (W₁.withHeap (W₁.h.push oI) W₁.s.toks) := H₁.grow _ kpI
  have hitI : (W₁.h.push oI).IsKeyIter W₁.h.objs.size (W₁.ι dn) 0 kvs.length ep := ⟨oI, Heap.get?_push_size _ rfl, rfl, rfl⟩
  have fI : Fre C W.h (W₁.withHeap (W₁.h.push oI) W₁.s.toks) W₁.h.objs.size := (newFre x₁ H₁).ext xI (o := oI) |> fun _ => ⟨(newFre x₁ H₁).1, (newFre x₁ H₁).2.1, (newFre x₁ H₁).2.2⟩
  have FI := F₁.ext H₁ xI
  show wpAny _ _ _ _ _ (W₁.withHeap (W₁.h.push oI) W₁.s.toks).s
  generalize hWI : W₁.withHeap (W₁.h.push oI) W₁.s.toks = W₂ at xI HI fI FI
  have σI : W₂.σ = W₁.σ := by rw [← hWI]
  have ιI : W₂.ι = W₁.ι := by rw [← hWI]
  have nxI : W₂.nx = W₁.nx := by rw [← hWI]
  have hhI : W₂.h = W₁.h.push oI := by rw [← hWI]
  have gI : W₂.h.DictAt (strKind C.prog C.w) (W₂.ι dn) kvs ep := by rw [hhI, ιI]; exact gA.push _
  obtain ⟨od, es, hod, gR⟩ := id gI
  have hitI' : W₂.h.IsKeyIter W₁.h.objs.size (W₂.ι dn) 0 kvs.length ep := by rw [hhI, ιI]; exact hitI
  have hdlt₂ : dn < W₂.nx := by rw [nxI]; exact hdlt
  have xW₂ : Ext C (fun b => W.h.get? b = none) W W₂ := (x₁.mono fun _ _ _ h => h.elim).trans (xI.mono fun _ _ _ h => h.elim)
  generalize hIa : W₁.h.objs.size = Ia at fI hitI'
  -- list and names' dict
  refine wpAny_newObj_type (wpAny_newFunctionEnv hok.cell (by intro y hy; simp at hy) (fun h₁ hns₁ hsb₁ => ?_) hok.kind)
  dsimp only at hns₁ hsb₁ ⊢
  have kpD : ∀ b o, W₂.h.get? b = some o → (W₂.h.push (listOf [].toArray 0)).get? b = some o := fun _ _ e => Heap.get?_push_of_some _ e
  have nD : W₂.h.get? W₂.h.objs.size = none := Heap.get?_none_of_le (Nat.le_refl _)
  have hD : (W₂.h.push (listOf [].toArray 0)).get? W₂.h.objs.size = some (listOf [].toArray 0) := Heap.get?_push_size _ rfl
  have x₂ : Ext C noOwn W₂ (W₂.new (.list []) (W₂.h.push (listOf [].toArray 0)) W₂.s.toks W₂.h.objs.size) := Ext.new _ _ nD kpD
  have ι₂ : (W₂.new (.list []) (W₂.h.push (listOf [].toArray 0)) W₂.s.toks W₂.h.objs.size).ι W₂.nx = W₂.h.objs.size := if_pos rfl
  have H₂ : HR C (W₂.new (.list []) (W₂.h.push (listOf [].toArray 0)) W₂.s.toks W₂.h.objs.size) := HI.new _ _ nD ⟨_, hD⟩ kpD ⟨[], 0, by rw [ι₂]; exact hD, .nil⟩
  have nC : (W₂.h.push (listOf [].toArray 0)).get? (W₂.h.push (listOf [].toArray 0)).objs.size = none := Heap.get?_none_of_le (Nat.le_refl _)
  have kpC : ∀ b o, (W₂.h.push (listOf [].toArray 0)).get? b = some o → h₁.get? b = some o := fun b o e => by
    have hne : b ≠ (W₂.h.push (listOf [].toArray 0)).objs.size := Nat.ne_of_lt (Heap.lt_size e)
    exact hsb₁.extBut b o hne (Heap.get?_push_of_some _ e)
  have x₃ : Ext C noOwn (W₂.new (.list []) (W₂.h.push (listOf [].toArray 0)) W₂.s.toks W₂.h.objs.size) ((W₂.new (.list []) (W₂.h.push (listOf [].toArray 0)) W₂.s.toks W₂.h.objs.size).withHeap h₁ W₂.s.toks) := Ext.grow _ kpC
  have H₃ : HR C ((W₂.new (.list []) (W₂.h.push (listOf [].toArray 0)) W₂.s.toks W₂.h.objs.size).withHeap h₁ W₂.s.toks) := H₂.grow _ kpC
  generalize hW₃ : (W₂.new (.list []) (W₂.h.push (listOf [].toArray 0)) W₂.s.toks W₂.h.objs.size).withHeap h₁ W₂.s.toks = W₃ at x₃ H₃
  have x₂₃ : Ext C noOwn W₂ W₃ := x₂.trans x₃
  have σ₃ : W₃.σ = W₁.σ ++ [.list []] := by rw [← hW₃, ← σI]
  have s₃ : W₃.s = { W₂.s with heap := h₁, toks := W₂.s.toks } := by rw [← hW₃]
  have hns₃ : W₃.h.Ns (W₂.h.push (listOf [].toArray 0)).objs.size (fun x => ([] : List (PySem.Str × Value)).reverse.lookup x) := by show W₃.s.heap.Ns _ _; rw [s₃]; exact hns₁
  have ι₃ : W₃.ι W₂.nx = W₂.h.objs.size ∧ W₂.nx < W₃.nx := x₃.ιkeep ⟨ι₂, by rw [nx_new]; exact Nat.lt_succ_self _⟩
  have ιd₃ : W₃.ι dn = W₂.ι dn ∧ dn < W₃.nx := x₂₃.ιkeep ⟨rfl, hdlt₂⟩
  have nC₁ : W₂.h.get? (W₂.h.push (listOf [].toArray 0)).objs.size = none := x₂.unborn nC
  have nC₀ : W.h.get? (W₂.h.push (listOf [].toArray 0)).objs.size = none := xW₂.unborn nC₁
  have outC := HI.out nC₁
  have kp₃ : ∀ b o, W₂.h.get? b = some o → W₃.h.get? b = some o := fun b o e => by show W₃.s.heap.get? b = _; rw [s₃]; exact kpC b o (kpD b o e)
  have apC : ∀ n, n < W₃.nx → W₃.ι n ≠ (W₂.h.push (listOf [].toArray 0)).objs.size := fun n hn q => by
    obtain ⟨o, e⟩ := H₂.below n (by rw [← hW₃] at hn; exact hn)
    have : W₃.ι n = (W₂.new (.list []) (W₂.h.push (listOf [].toArray 0)) W₂.s.toks W₂.h.objs.size).ι n := by rw [← hW₃]
    rw [← this, q] at e
    have e' : (W₂.h.push (listOf [].toArray 0)).get? (W₂.h.push (listOf [].toArray 0)).objs.size = some o := e
    rw [nC] at e'; cases e'
  have F₃ : FR C (compEnvC scope cl (W₂.h.push (listOf [].toArray 0)).objs.size env) A W₃ (cap fv ρ) := compFR hok (FI.ext HI x₂₃) H.sc.1 hcl hfc hns₃ outC apC fun y c hc q => by
    refine hide fun X_ k_ => ?_
    obtain ⟨_, _, _, v, o, e, _⟩ := FI.celAp y c hc
    refine k_ ?_
    clear k_ X_
    rw [q, nC₁] at e; cases e
  have i₃ : W₃.h.IsKeyIter Ia (W₂.ι dn) 0 kvs.length ep := let ⟨o, e, r⟩ := hitI'; ⟨o, kp₃ _ _ e, r⟩
  have f₃ : Fre C W.h W₃ Ia := let ⟨_, e, _⟩ := hitI'; fI.ext x₂₃ e
  have hod₃ : W₃.h.get? (W₂.ι dn) = some od := kp₃ _ _ hod
  have neDd : W₂.h.objs.size ≠ W₂.ι dn := fun q => by rw [← q, nD] at hod; cases hod
  generalize hCa : (W₂.h.push (listOf [].toArray 0)).objs.size = Ca at *
  generalize hDa : W₂.h.objs.size = Da at *
  have hx : (relabelS scope sc).names.lookup (sname x) = some .local := by
    unfold relabelS
    rw [relabel_lk, hok.x]; rfl
  have hcok : C.codeOk (relabelS scope sc) (compEnvC scope cl Ca env).code (compEnvC scope cl Ca env).qual := hok.noCode _ _
  have hsc' : (compEnvC scope cl Ca env).scope = relabelS scope sc := by rw [← H.sc.1]; rfl
  have hloc : (compEnvC scope cl Ca env).kindOf (sname x) = some .local := by show (compEnvC scope cl Ca env).scope.names.lookup _ = _; rw [hsc']; exact hx
  have loop : codeAny (model C.prog C.w) A (.compLoop (.ListComp elt [⟨.Name (PySem.Str.ofString x) px, iter, [], 0⟩] scope pos) 0 (.ref Ia) (.ref Da) (compEnvC scope cl Ca env)) (compPost (model C.prog C.w) A E none Q (.ref Da) Ca) W₃.s := by
    obtain ⟨I, mkI, unI⟩ := inv_of (fun n s => ∃ W₄ ρ₄ i acc, s = W₄.s ∧ n = (l.length - i) + 1 ∧ i ≤ l.length ∧ Ext C (fun b => W.h.get? b = none) W W₄ ∧ HR C W₄ ∧ FR C (compEnvC scope cl Ca env) A W₄ ρ₄ ∧ W₄.h.IsKeyIter Ia (W₂.ι dn) i kvs.length ep ∧ Fre C W.h W₄ Ia ∧ W₄.h.get? (W₂.ι dn) = some od ∧
        (W₄.ι W₂.nx = Da ∧ W₂.nx < W₄.nx) ∧ (W₄.ι dn = W₂.ι dn ∧ dn < W₄.nx) ∧ W₄.σ = W₁.σ ++ [.list acc] ∧ W₄.σ[dn]? = some (.dict l) ∧ (∃ kv', DsR W₄ l kv' ∧ kv' = kvs) ∧
        K C (fun b => W.h.get? b = none) vrel ((compDGo x fe W₁.σ (l.drop i) ρ₄ acc).bind fun acc σ => Res.ok (V.ref σ.length) (σ ++ [AO.list acc])) W Q E)
    refine codeAny_compLoop_tests I ?_ (l.length + 1)
      (mkI _ _ ⟨W₃, cap fv ρ, 0, [], rfl, rfl, Nat.zero_le _, xW₂.trans (x₂₃.mono fun _ _ _ h => h.elim), H₃, F₃, i₃, f₃, hod₃, ι₃, ιd₃, σ₃, by rw [σ₃, List.getElem?_append_left hdlt]; exact hdn, ⟨kvs, DsR.up (fun v y r => VR.up x₂₃ HI (VR.up xI H₁ r)) g2, rfl⟩, hk₁⟩)
    rintro n s hI
    replace hI := unI _ _ hI
    refine hide fun X_ k_ => ?_
    obtain ⟨W₄, ρ₄, i, acc, rfl, rfl, hi, x₄, H₄, F₄, i₄, f₄, hod₄, ι₄, ιd₄, σ₄, hd₄, ⟨kw, ds₄, ekw⟩, hk₄⟩ := hI
    refine k_ ?_
    clear k_ X_
    rw [← ekw] at i₄ gR
    have gA₄ : W₄.h.DictAt (strKind C.prog C.w) (W₂.ι dn) kw ep := ⟨od, es, hod₄, gR⟩
    obtain ⟨oi, hoi, hci, hdi⟩ := id i₄
    have hns : ∀ x q, (#[Value.ref (W₂.ι dn), .int (i : Int) 0, .int (kw.length : Int) 0, .int ep 0] : Array Value)[1]? ≠ some (.str x q) := fun x q z => by cases z
    cases hx' : l[i]? with
    | none =>
      have hil : i = l.length := Nat.le_antisymm hi (List.getElem?_eq_none_iff.mp hx')
      refine wpAny_pyNext_dict_end H.room.hand i₄ gA₄ (by rw [List.getElem?_eq_none_iff, ekw]; lia) fun h' hb => ?_
      have m₅ : Moved C [Ia] W₄ h' := .one f₄ hoi hdi hns fun b o hne e => hb b o hne e
      have H₅ := m₅.hr W₄.s.toks H₄
      have x₅ := m₅.ext W₄.s.toks x₄ fun b hb => by cases List.mem_singleton.mp hb; exact f₄.1
      have F₅ := m₅.fr W₄.s.toks (fun b hb => by cases List.mem_singleton.mp hb; exact ⟨oi, _, hoi, hdi⟩) F₄
      obtain ⟨mm, hm, _⟩ := F₅.ns
      refine ⟨mm, hm, fun h'' sb => ?_⟩
      have m₆ : Moved C [Ca] (W₄.withHeap h' W₄.s.toks) h'' := ⟨fun b hb => by
        cases List.mem_singleton.mp hb
        refine hide fun X_ k_ => ?_
        obtain ⟨o, _, _, ho, _⟩ := id hm
        refine k_ ?_
        clear k_ X_
        exact ⟨F₅.locAp.1, F₅.locAp.2, o, ho, ns_plainish hm o ho⟩, fun b o hb ho => (sb.2 b (fun q => hb (List.mem_singleton.mpr q))).trans ho⟩
      rw [hil, List.drop_length] at hk₄
      refine hk₄ (.ref Da) ((W₄.withHeap h' W₄.s.toks).withHeap h'' W₄.s.toks) (m₆.ext W₄.s.toks x₅ fun b hb => by cases List.mem_singleton.mp hb; exact nC₀) (m₆.hr _ H₅) σ₄ ?_
      have hlen : W₁.σ.length = W₂.nx := nxI.symm
      show Wd.VR _ (.ref W₁.σ.length) _
      rw [hlen, ← ι₄.1]
      exact .ref _ ι₄.2
    | some kv =>
      obtain ⟨kk, vv⟩ := kv
      obtain ⟨yy, hy⟩ := ds₄.at i kk vv hx'
      have hlt : i < l.length := (List.getElem?_eq_some_iff.mp hx').1
      have hdrop : l.drop i = (kk, vv) :: l.drop (i + 1) := by
        obtain ⟨h1, e⟩ := List.getElem?_eq_some_iff.mp hx'
        rw [List.drop_eq_getElem_cons h1, e]
      rw [hdrop] at hk₄
      unfold compDGo at hk₄
      cases hfe : fe (put x (.str kk) ρ₄) (W₁.σ ++ [AO.list acc]) with
      | exc c σ' => rw [hfe] at hk₄; exact hk₄.elim
      | fail => rw [hfe] at hk₄; exact hk₄.elim
      | ok v' σ' =>
      rw [hfe] at hk₄
      have := hst _ _ _ _ hfe
      subst this
      dsimp only at hk₄
      by_cases hz : sizeOk' acc.length = true
      rotate_left
      · rw [if_neg hz] at hk₄; exact hk₄.elim
      rw [if_pos hz] at hk₄
      refine wpAny_pyNext_dict_item i₄ gA₄ hy fun key h' hkey hit' sb => ?_
      obtain ⟨t, rfl⟩ := Value.isStrOf_shape hkey
      have m₅ : Moved C [Ia] W₄ h' := .one f₄ hoi hdi hns fun b o hne e => (sb.2 b hne).trans e
      have H₅ := m₅.hr W₄.s.toks H₄
      have x₅ := m₅.ext W₄.s.toks x₄ fun b hb => by cases List.mem_singleton.mp hb; exact f₄.1
      have F₅ := m₅.fr W₄.s.toks (fun b hb => by cases List.mem_singleton.mp hb; exact ⟨oi, _, hoi, hdi⟩) F₄
      have neId : Ia ≠ W₂.ι dn := fun q => f₄.2.2 dn ιd₄.2 (ιd₄.1.trans q.symm)
      have hod₅ : h'.get? (W₂.ι dn) = some od := (sb.2 _ (Ne.symm neId)).trans hod₄
      refine PySem.wpAny_assign_Name ?_
      obtain ⟨mm, hm, hm2⟩ := F₅.ns
      refine wpAny_storeName_local (s := (W₄.withHeap h' W₄.s.toks).s) hloc hm (fun h'' hn sb₂ => ?_) (by rw [F₅.kind]; rfl)
      have neCd : Ca ≠ W₂.ι dn := fun q => F₅.locAp.2 dn ιd₄.2 (ιd₄.1.trans q.symm)
      have neCI : Ca ≠ Ia := fun q => by
        refine hide fun X_ k_ => ?_
        obtain ⟨o', e1, c1, d1⟩ := hit'
        obtain ⟨o'', es', ep', (e2 : h'.get? Ca = some o''), d2, _⟩ := hm
        refine k_ ?_
        clear k_ X_
        rw [q, e1] at e2; cases e2; rw [d1] at d2; cases d2
      have x₆ : Ext C (fun b => b = Ca) (W₄.withHeap h' W₄.s.toks) ((W₄.withHeap h' W₄.s.toks).withHeap h'' (W₄.s.toks + 1)) := Ext.loc (W := W₄.withHeap h' W₄.s.toks) _ rfl sb₂ (ns_stays hn)
      have H₆ : HR C ((W₄.withHeap h' W₄.s.toks).withHeap h'' (W₄.s.toks + 1)) := HR.loc (W := W₄.withHeap h' W₄.s.toks) H₅ _ F₅.locAp.1 F₅.locAp.2 sb₂ (ns_stays hn) (ns_plainish hm)
      have F₆ : FR C (compEnvC scope cl Ca env) A ((W₄.withHeap h' W₄.s.toks).withHeap h'' (W₄.s.toks + 1)) (put x (.str kk) ρ₄) := F₅.stL _ H₅ hloc hm hm2 hn sb₂ (.str _ _)
      have z₆ : Ext C (fun b => W.h.get? b = none) W ((W₄.withHeap h' W₄.s.toks).withHeap h'' (W₄.s.toks + 1)) := x₅.trans (x₆.mono fun b _ _ q => by subst q; exact nC₀)
      have i₆ : h''.IsKeyIter Ia (W₂.ι dn) (i + 1) kw.length ep := hit'.extBut sb₂.extBut (Ne.symm neCI)
      have hod₆ : h''.get? (W₂.ι dn) = some od := (sb₂.2 _ (Ne.symm neCd)).trans hod₅
      have ds₆ : DsR ((W₄.withHeap h' W₄.s.toks).withHeap h'' (W₄.s.toks + 1)) l kw := DsR.up (fun v y r => VR.loc (W := W₄.withHeap h' W₄.s.toks) H₅ sb₂ (ns_stays hn) (ns_plainish hm) (VR.moved m₅ r)) ds₄
      refine wpAny_tests_nil ?_
      rw [if_pos rfl]
      show wpAny _ _ _ _ _ ((W₄.withHeap h' W₄.s.toks).withHeap h'' (W₄.s.toks + 1)).s
      have hfe' : fe (put x (.str kk) ρ₄) ((W₄.withHeap h' W₄.s.toks).withHeap h'' (W₄.s.toks + 1)).σ = .ok v' ((W₄.withHeap h' W₄.s.toks).withHeap h'' (W₄.s.toks + 1)).σ := by
        show fe _ W₄.σ = .ok v' W₄.σ
        rw [σ₄]; exact hfe
      refine he _ A _ _ ⟨⟨hsc', hcok⟩, H.room, H₆, F₆⟩ _ _ v' hfe' fun yv tk rv => ?_
      have hn₄ : W₄.σ[W₂.nx]? = some (.list acc) := by rw [σ₄, nxI]; simp [Wd.nx]
      refine hide fun X_ k_ => ?_
      obtain ⟨ws, ew, (q1 : h''.get? (W₄.ι W₂.nx) = _), q2⟩ := H₆.obj W₂.nx _ hn₄
      refine k_ ?_
      clear k_ X_
      rw [ι₄.1] at q1
      have hzz : (ws.toArray).size ≤ sizeLine := by rw [List.size_toArray, ← q2.length]; exact sl100 hz
      refine call_meets PySem.F.slot_list_append ⟨_, q1, rfl⟩ PySem.F.entry_list_append (PySem.F.args_list_append_2 _ _) (PySem.list_append _ ws.toArray ew _ hzz) ⟨q1, ?_⟩
      obtain ⟨n', en⟩ := set_push ws.toArray ew (fun x => x.push yv)
      have q3 : (h''.update Da (Obj.mapSeq fun x => x.push yv)).get? Da = some (listOf (ws ++ [yv]).toArray n') := (Heap.get?_update_self _ q1 (by rw [en]; rfl)).trans (by rw [en]; simp)
      have sb₃ : Heap.SameBut Da h'' (h''.update Da (Obj.mapSeq fun x => x.push yv)) := Heap.SameBut.update ..
      have x₇ : Ext C noOwn ((W₄.withHeap h' W₄.s.toks).withHeap h'' (W₄.s.toks + 1)) (((W₄.withHeap h' W₄.s.toks).withHeap h'' (W₄.s.toks + 1)).upd W₂.nx (.list (acc ++ [v'])) (h''.update Da (Obj.mapSeq fun x => x.push yv)) tk) :=
        Ext.upd tk ι₄.2 (by show Heap.SameBut (W₄.ι W₂.nx) _ _; rw [ι₄.1]; exact sb₃) ⟨_, by show (h''.update Da _).get? (W₄.ι W₂.nx) = _; rw [ι₄.1]; exact q3⟩
      have u₇ := fun v y (r : ((W₄.withHeap h' W₄.s.toks).withHeap h'' (W₄.s.toks + 1)).VR v y) => VR.up x₇ H₆ r
      have H₇ : HR C (((W₄.withHeap h' W₄.s.toks).withHeap h'' (W₄.s.toks + 1)).upd W₂.nx (.list (acc ++ [v'])) (h''.update Da (Obj.mapSeq fun x => x.push yv)) tk) :=
        HR.upd H₆ tk hn₄ (by simp) (by simp) (by show Heap.SameBut (W₄.ι W₂.nx) _ _; rw [ι₄.1]; exact sb₃) ⟨_, by show (h''.update Da _).get? (W₄.ι W₂.nx) = _; rw [ι₄.1]; exact q3⟩
          ⟨ws ++ [yv], n', by show (h''.update Da _).get? (W₄.ι W₂.nx) = _; rw [ι₄.1]; exact q3, VsR.mono u₇ (q2.append (.cons _ _ _ _ rv .nil))⟩
      have neDI : Da ≠ Ia := fun q => f₄.2.2 W₂.nx ι₄.2 (ι₄.1.trans q)
      have neDd' : Da ≠ W₂.ι dn := neDd
      have hne : W₂.nx ≠ dn := fun q => neDd' (by rw [← ι₄.1, q, ιd₄.1])
      refine ⟨(l.length - (i + 1)) + 1, by lia, mkI _ _ ⟨(((W₄.withHeap h' W₄.s.toks).withHeap h'' (W₄.s.toks + 1)).upd W₂.nx (.list (acc ++ [v'])) (h''.update Da (Obj.mapSeq fun x => x.push yv)) tk), put x (.str kk) ρ₄, i + 1, acc ++ [v'], rfl, rfl, hlt, z₆.trans (x₇.mono fun _ _ _ h => h.elim), H₇, F₆.ext H₆ x₇, by rw [← ekw]; exact i₆.extBut sb₃.extBut (Ne.symm neDI), ?_, (sb₃.2 _ (Ne.symm neDd')).trans hod₆, ⟨ι₄.1, by rw [nx_upd]; exact ι₄.2⟩, ⟨ιd₄.1, by rw [nx_upd]; exact ιd₄.2⟩, ?_, ?_, ⟨kw, DsR.up u₇ ds₆, ekw⟩, hk₄⟩⟩
      · exact ⟨f₄.1, f₄.2.1, fun n hn => f₄.2.2 n (by rw [nx_upd] at hn; exact hn)⟩
      · show W₄.σ.set W₂.nx _ = _
        rw [σ₄, nxI]
        show List.set _ W₁.σ.length _ = _
        rw [List.set_append_right _ _ (Nat.le_refl _)]; simp
      · show (W₄.σ.set W₂.nx _)[dn]? = _
        rw [List.getElem?_set_ne hne]; exact hd₄
  have e0 : ({ W₂.s with heap := h₁, toks := W₂.s.toks + ([] : List (PySem.Str × Value)).length } : Shared) = W₃.s := by rw [s₃]; rfl
  show codeAny _ _ _ _ { W₂.s with heap := h₁, toks := W₂.s.toks + ([] : List (PySem.Str × Value)).length }
  rw [e0]
  exact codeAny_compStart_list loop (wpAny_pyIter_keyiter i₃ loop)
end
/-! ## while -/
noncomputable def whGo (c : BA) (b : SA) : Nat → SA
  | 0, _, _ => .fail
  | n + 1, ρ, σ => (c ρ σ).bind fun t σ => if t then (b ρ σ).bind fun fl σ => match fl.1 with
      | .next => whGo c b n fl.2 σ
      | .ret v => .ok (.ret v, fl.2) σ
    else .ok (.next, ρ) σ
noncomputable def sWhile (N : Nat) (c : BA) (b : SA) : SA := fun ρ σ => (whGo c b N ρ σ).safe
section
variable {C : Cx} {k : Nat} {sc : Scope}
theorem SS_while {test : Expr} {body : List Stmt} {p : Pos} {c : BA} {b : SA} (N : Nat) (hc : ST C k sc test c) (hb : SB C k sc body b) : SS C k sc (.While test body [] p) (sWhile N c b) := fun env A W ρ H Q E hk => by
  refine PySem.wpAny_While ?_
  obtain ⟨I, mkI, unI⟩ := inv_of (fun n s => ∃ W₂ ρ₂, s = W₂.s ∧ Ext C (Own env) W W₂ ∧ HR C W₂ ∧ FR C env A W₂ ρ₂ ∧ K C (Own env) (srel C env A) (whGo c b n ρ₂ W₂.σ) W Q (notedBy (model C.prog C.w) A env fun e s' => cameBackBy (model C.prog C.w) A env E e s'))
  refine codeAny_whileLoop I ?_ N
    (mkI _ _ ⟨W, ρ, rfl, .refl _ _ _, H.hr, H.fr, hk.safe⟩)
  rintro n s hI
  replace hI := unI _ _ hI
  obtain ⟨W₂, ρ₂, rfl, x₂, H₂, F₂, hk₂⟩ := hI
  cases n with
  | zero => exact hk₂.elim
  | succ n =>
    unfold whGo at hk₂
    refine hc env A W₂ ρ₂ ⟨H.sc, H.room, H₂, F₂⟩ _ _ (K.bindB hk₂ x₂ (fun _ => False.elim) fun ok t σ₃ W₃ _ x₃ H₃ _ r₃ z₃ hk₃ => ?_)
    subst r₃
    have F₃ := F₂.ext H₂ x₃
    cases ok with
    | false => exact PySem.wpAny_execs_nil (hk₃ .next W₃ z₃ H₃ rfl ⟨F₃, rfl⟩)
    | true =>
      refine hb env A W₃ ρ₂ ⟨H.sc, H.room, H₃, F₃⟩ _ _ (K.bindB hk₃ z₃ (fun _ h => h) fun fl r₄ σ₄ W₄ _ x₄ H₄ _ s₄ z₄ hk₄ => ?_)
      obtain ⟨fl', ρ₄⟩ := r₄
      obtain ⟨F₄, s₄⟩ := s₄
      cases fl' with
      | next =>
        cases s₄
        exact ⟨n, Nat.lt_succ_self n, mkI _ _ ⟨W₄, ρ₄, rfl, z₄, H₄, F₄, hk₄⟩⟩
      | ret u =>
        obtain ⟨y, rfl, ru⟩ := s₄
        exact hk₄ (.ret y) W₄ z₄ H₄ rfl ⟨F₄, y, rfl, ru⟩
end
noncomputable abbrev bmE : List Value := [.type "Exception", .type "BaseException", .type "object"]
theorem type_exc_init : typeOf (.builtin "Exception.__init__") = pure (.type "wrapper_descriptor") := by show builtinType _ = _; rw [builtinType_eq_fast]; kernel_rfl
theorem slot_wd_get : Slot "wrapper_descriptor" "__get__" "wrapper_descriptor.__get__" := .of (owner := "wrapper_descriptor") (n := "__get__") (by rw [typeLookup_type, builtinLookup_eq_fast]; kernel_rfl) (by decide +kernel) (by decide +kernel) (by decide +kernel)
  (by first | exact .inl (by decide +kernel) | exact .inr (by decide +kernel)) (by rw [isSubtype_type]; kernel_rfl)
theorem entry_wd_get : entryFor table "wrapper_descriptor.__get__" = some Builtin.«wrapper_descriptor.__get__» := entryFor_of_tree (by kernel_rfl)
theorem args_wd_get (a b c : Value) : argsOk "wrapper_descriptor.__get__" ⟨[a, b, c], []⟩ := by unfold argsOk; kernel_rfl
theorem exc_owner : ".".intercalate ("Exception.__init__".cutAt '.').dropLast = "Exception" := by decide +kernel

noncomputable abbrev mwObj (x : Addr) : Obj := { cls := .type "method-wrapper", data := .fields #[.builtin "Exception.__init__", .ref x] }
section
variable {prog : Program} {w : World} {M : Model} {A : Around} {E : Value → Shared → Prop} {h : Heap} {g : Array GenState} {d : Drawn} {t : Nat} {os : OsState}
theorem wd_get {x C : Addr} {ox : Obj} {Q : PySem.Fin → Shared → Prop} (hx : h.get? x = some ox) (hc : ox.cls = .ref C) (hsub : Looks M h (isSubtype (.ref C) (.type "Exception")) true)
    (hq : Q (.done (.ret (.ref h.objs.size))) ⟨h.push (mwObj x), g, d, t, os⟩) :
    wpAny M A (Builtin.«wrapper_descriptor.__get__» ⟨[.builtin "Exception.__init__", .ref x, .ref C], []⟩) Q E ⟨h, g, d, t, os⟩ := by
  unfold Builtin.«wrapper_descriptor.__get__»
  repeat (first | wp_step | dsimp only)
  rw [exc_owner, hc]
  refine hsub.here ?_
  rw [if_neg (by decide)]
  refine wpAny_pure ?_
  unfold newFields
  exact wpAny_bind (wpAny_newObj_type (wpAny_pure hq))

theorem super_ga_b {so D x C : Addr} {ox : Obj} {l₀ l : List Value} {K : Frag} {name : PySem.Str} {tk : Tok} {Q : PySem.Fin → Shared → Prop}
    (hso : h.get? so = some { cls := .type "super", dict := none, data := .fields #[.ref D, .ref x, .ref C], slots := #[] }) (hno : Looks (model prog w) h (opaqueClassAbove (.ref C)) none)
    (hC : Looks (model prog w) h (mroOf (.ref C)) l₀) (hl : (l₀.dropWhile (· != .ref D)).drop 1 = l) (X : K.In h)
    (hf : alongIn K name l = some (some (.builtin "Exception.__init__"))) (hx : h.get? x = some ox) (hc : ox.cls = .ref C) (hsub : Looks (model prog w) h (isSubtype (.ref C) (.type "Exception")) true) (hxC : x ≠ C) (hn : (name == ("__class__" : PySem.Str)) = false)
    (hq : Q (.done (.ret (.ref h.objs.size))) ⟨h.push (mwObj x), g, d, t, os⟩) :
    wpAny (model prog w) A (Builtin.«super.__getattribute__» ⟨[.ref so, .str name tk], []⟩) Q E ⟨h, g, d, t, os⟩ := by
  have hlk := slot_wd_get.lookup
  have hne : (Value.ref x == Value.ref C) = false := by simp [hxC]
  have hdt : ({ cls := .type "super", dict := none, data := .fields #[.ref D, .ref x, .ref C], slots := #[] } : Obj).data = .fields #[.ref D, .ref x, .ref C] := rfl
  have f0 : (#[.ref D, .ref x, .ref C] : Array Value)[0]? = some (.ref D) := rfl
  have f1 : (#[.ref D, .ref x, .ref C] : Array Value)[1]? = some (.ref x) := rfl
  have f2 : (#[.ref D, .ref x, .ref C] : Array Value)[2]? = some (.ref C) := rfl
  have hT : (⟨h, g, d, t, os⟩ : Shared).TypeIs (.builtin "Exception.__init__") "wrapper_descriptor" := type_exc_init
  unfold Builtin.«super.__getattribute__»
  repeat (first
    | (with_reducible refine wpAny_field hso hdt f0 ?_) | (with_reducible refine wpAny_field hso hdt f1 ?_) | (with_reducible refine wpAny_field hso hdt f2 ?_)
    | (with_reducible refine PySem.ks_wpAny_notOpaque hno ?_)
    | (with_reducible refine Looks.at hC ?_; rw [hl])
    | (refine PySem.ks_forIn_along X (fun _ _ => rfl) rfl ?_ hf)
    | (with_reducible refine wpAny_typeOf hT ?_)
    | (with_reducible refine wpAny_call_entry slot_wd_get hT entry_wd_get ?_ (args_wd_get _ _ _))
    | (with_reducible refine wd_get hx hc hsub ?_)
    | (with_reducible refine ⟨_, rfl, ?_⟩)
    | (simp only [hn, hne, Bool.or_false, Bool.false_eq_true, if_false])
    | wp_step
    | dsimp only)
  all_goals exact hq
end
/-! ## BasicError is made -/
theorem mw_args {M : Model} {A : Around} {E : Value → Shared → Prop} {h : Heap} {g : Array GenState} {d : Drawn} {t : Nat} {os : OsState} {nm q : PySem.Str} {C N : Addr} {bs : List Value} {hdct : Bool} {sn : List PySem.Str} {sub : List Value} {ab : Bool} {col : Option Bool} {dd : Option Addr} {k0 k1 k2 k3 k5 : Option Value} {newId : String} {e : Addr} {oe : Obj} {code : Value} {Q : Unit → Shared → Prop}
    (hC : h.get? C = some (excClassObj nm q C N bs bmE hdct sn sub ab col dd k0 k1 k2 k3 k5 newId)) (he : h.get? e = some oe) (hcls : oe.cls = .ref C) (hq : Q () ⟨h, g, d, t, os⟩) : wpAny M A (checkBoundCall "Exception.__init__" ⟨[.ref e, code], []⟩) Q E ⟨h, g, d, t, os⟩ := by
  have F := PySem.F.excCall_Exception
  have hshort := F.noStar
  simp only [checkBoundCall, F.initKind, F.initRow]
  rw [if_pos (by decide)]
  unfold Bind.checkArgs Bind.printed
  repeat (first | (with_reducible refine wpAny_loadPart_at he ?_; rw [hcls]) | wp_step | dsimp only)
  exact hq
section
variable {prog : Program} {w : World} {A : Around} {E : Value → Shared → Prop} {s : Shared}
theorem getMethod_mw {h : Heap} {g : Array GenState} {d : Drawn} {t : Nat} {os : OsState} {so D x C : Addr} {ox : Obj} {l₀ l : List Value} {K : Frag} {name : PySem.Str} {pl : Sem Bool} {Q : Value × List Value → Shared → Prop}
    (hso : h.get? so = some { cls := .type "super", dict := none, data := .fields #[.ref D, .ref x, .ref C], slots := #[] }) (hno : Looks (model prog w) h (opaqueClassAbove (.ref C)) none)
    (hC : Looks (model prog w) h (mroOf (.ref C)) l₀) (hl : (l₀.dropWhile (· != .ref D)).drop 1 = l) (X : K.In h)
    (hf : alongIn K name l = some (some (.builtin "Exception.__init__"))) (hx : h.get? x = some ox) (hc : ox.cls = .ref C) (hsub : Looks (model prog w) h (isSubtype (.ref C) (.type "Exception")) true) (hxC : x ≠ C) (hn : (name == ("__class__" : PySem.Str)) = false)
    (hq : Q (.ref h.objs.size, []) ⟨h.push (mwObj x), g, d, t + 1, os⟩) :
    wpAny (model prog w) A (getMethod (.ref so) name pl) Q E ⟨h, g, d, t, os⟩ := by
  have hlk := PySem.F.ks_slot_super_ga.lookup
  have hcan := PySem.F.ks_canon_super_ga
  have hT : ∀ t', (⟨h, g, d, t', os⟩ : Shared).TypeIs (.ref so) "super" := fun _ => ⟨_, hso, rfl⟩
  unfold getMethod
  refine wpAny_bind (wpAny_specialOf (hT _) hlk ?_)
  show wpAny _ _ (if (Manifest.canonical "super.__getattribute__" != "object.__getattribute__") = true then _ else _) _ _ _
  rw [if_pos hcan]
  unfold getAttr getAttrBy
  refine wpAny_bind (wpAny_bind (wpAny_mkText (wpAny_holding (wpAny_bind (wpAny_typeOf (hT _) (wpAny_bind (wpAny_of_eq hlk ?_)))))))
  show wpAny _ _ (getAttrByItsOwn (.ref so) (.str name t) (.type "super") (.builtin "super.__getattribute__") true false) _ _ _
  unfold getAttrByItsOwn hookBefore callGetattribute boundAndCalled
  refine wpAny_bind (wpAny_of_eq (show (if onTheHeap (.type "super") then typeLookup (.type "super") "__getattr__" else pure none) = pure none from rfl) ?_)
  refine wpAny_bind (wpAny_attempt (wpAny_holding ?_))
  show wpAny _ _ (bindSpecial (.builtin "super.__getattribute__") (.ref so) >>= _) _ _ _
  refine wpAny_bind (wpAny_of_eq (PySem.F.ks_slot_super_ga.bind _) ?_)
  refine wpAny_mono (Q := fun v s' => v = .ref h.objs.size ∧ s' = ⟨h.push (mwObj x), g, d, t + 1, os⟩) (E := fun _ _ => False)
    (wpAny_call_entry PySem.F.ks_slot_super_ga (hT _) PySem.F.ks_entry_super_ga (super_ga_b hso hno hC hl X hf hx hc hsub hxC hn ⟨_, rfl, rfl, rfl⟩) (PySem.F.ks_gaArgs_super _ _)) (fun v s' hv => ?_) fun _ _ z => z.elim
  obtain ⟨rfl, rfl⟩ := hv
  exact wpAny_pure (wpAny_pure hq)

theorem call_mw {nm q : PySem.Str} {C N : Addr} {bs : List Value} {hdct : Bool} {sn : List PySem.Str} {sub : List Value} {ab : Bool} {col : Option Bool} {dd : Option Addr} {k0 k1 k2 k3 k5 : Option Value} {newId : String} {b e t0 : Addr} {oe : Obj} {vs : Array Value} {code : Value} {Q : Value → Shared → Prop}
    (hC : s.heap.get? C = some (excClassObj nm q C N bs bmE hdct sn sub ab col dd k0 k1 k2 k3 k5 newId)) (hcls : oe.cls = .ref C) (hb : s.heap.get? b = some (mwObj e)) (he : s.heap.get? e = some oe) (hd : oe.data = .fields vs) (h0 : vs[0]? = some (.ref t0))
    (h : Q .none { s with heap := (s.heap.push { cls := .type "tuple", data := .seq [code].toArray }).update e (Obj.mapFields (·.setIfInBounds 0 (.ref s.heap.objs.size))) }) :
    wpAny (model prog w) A (call (.ref b) [code]) Q E s := by
  refine wpAny_call (codeAny_of_tree ?_)
  show wpAny _ _ (callAny (.ref b) ⟨[code], []⟩) _ _ s
  unfold callAny
  refine wpAny_bind (wpAny_load hb ?_)
  show wpAny _ _ (do checkBoundCall "Exception.__init__" ⟨[.ref e, code], []⟩; again (.builtin "Exception.__init__" ⟨[.ref e, code], []⟩)) _ _ s
  refine wpAny_bind (mw_args hC he hcls ?_)
  refine wpAny_pure ⟨Code.quiet_builtin _ (by decide +kernel), codeAny_builtin PySem.F.excCall_Exception.initEntry ?_⟩
  unfold Builtin.«BaseException.__init__»
  dsimp only
  rw [if_neg (by simp)]
  unfold newTuple Builtin.BaseException.bexcPut
  have hsz : 0 < vs.size := (Array.getElem?_eq_some_iff.mp h0).1
  have he₁ := Heap.get?_push_of_some (h := s.heap) { cls := .type "tuple", data := .seq [code].toArray } he
  refine wpAny_bind (wpAny_newObj_type (wpAny_bind (wpAny_bind (wpAny_field he₁ hd h0 (wpAny_bind (wpAny_setField he₁ hd hsz ?_))))) (by show 1 ≤ sizeLine; decide))
  exact wpAny_letGo (wpAny_pure h)
end

theorem eval_meth1 {o e : Expr} {name : PySem.Str} {apos pos : Pos} {env : Env} (he : starEach [e] env = [(false, eval e env)]) (hline : (apos.endLine == pos.line) = true) :
    eval (.Call (.Attribute o name apos) [e] [] pos) env = (do
      let ov ← attributeBase o name env (eval o env)
      standAt apos.atName
      let (f, first) ← holding [ov] (getMethod ov name (do return (← importBound o env).getD true))
      callWith pos f first (backTo pos (starEach [e] env)) []) := by
  rw [arm_eval_Call, he]
  unfold methodCall calleeOf methodCallPos
  have hf : methodCallForm ([e].length + ([] : List Keyword).length) (backTo pos [(false, eval e env)]) (backToKw pos (keywordEach [] env)) = true := rfl
  rw [hf]
  simp only [if_true, Bool.not_true, Bool.false_or, hline, pure_bind]
  rfl
/-- what is to be known of the exception's class -/
inductive ExcCls (C : Cx) : Prop
  | mk : ∀ nm q bs sn sub ab col dd k0 k1 k2 k3 k5, C.h₀.get? 34 = some (excClassObj nm q 34 33 bs bmE true sn sub ab col dd k0 k1 k2 k3 k5 "Exception.__new__") → ExcCls C
inductive ExcFn (C : Cx) : Prop
  | mk : ∀ od osl fd p1 p2 p3 p4 p5 p6 q1 q2 q3 q4 r1 r2 r3 r4 vs file t occ, C.h₀.get? 31 = some ⟨.type "function", od, .func fd, osl⟩ →
      (p3.endLine == p5.line) = true →
      fd.body = .stmts [.Expr (.Call (.Attribute (.Call (.Name (PySem.Str.ofString "super") p1) [] [] p2) (PySem.Str.ofString "__init__") p3) [.Name (PySem.Str.ofString "code") p4] [] p5) p6, .Assign [.Attribute (.Name (PySem.Str.ofString "self") q1) (PySem.Str.ofString "code") q2] (.Name (PySem.Str.ofString "code") q3) q4, .Assign [.Attribute (.Name (PySem.Str.ofString "self") r1) (PySem.Str.ofString "told") r2] (.Name (PySem.Str.ofString "told") r3) r4] →
      fd.scope = { kind := .function, names := [(PySem.Str.ofString "self", .local), (PySem.Str.ofString "code", .local), (PySem.Str.ofString "told", .local), (PySem.Str.ofString "__class__", .free), (PySem.Str.ofString "super", .globalImplicit)], isGenerator := false, isCoroutine := false } →
      fd.globals = mainGlobals →
      fd.builtins = builtinsNs →
      fd.closure = [(PySem.Str.ofString "__class__", 18)] →
      fd.code = .ref 30 →
      (fd.params.posonlyargs ++ fd.params.args).head?.map (·.arg) = some (PySem.Str.ofString "self") →
      (∀ s : Shared, (∀ b o, C.h₀.get? b = some o → s.heap.get? b = some o) → ∀ a b c : Value, BindsTo s fd ⟨[a, b, c], []⟩ [(PySem.Str.ofString "self", a), (PySem.Str.ofString "code", b), (PySem.Str.ofString "told", c)]) →
      C.h₀.CodeRec (.ref 30) fd.qualname →
      C.h₀.get? 30 = some occ →
      occ.data = .fields vs →
      vs[2]? = some (.str file t) →
      ((C.prog.main.file : PySem.Str) == file) = true → ExcFn C
structure ExcFacts (C : Cx) : Prop where
  cls : ExcCls C
  ns : ∃ mN, C.h₀.Ns 33 mN ∧ mN "__init__" = some (.ref 31) ∧ mN "__setattr__" = none ∧ mN (sname "code") = none ∧ mN (sname "told") = none ∧ mN "__getattribute__" = none ∧ mN "__getattr__" = none
  fn : ExcFn C
  cell : C.h₀.IsCell 18 (some (.ref 34))
  sup : nsIn C.K mainGlobals (sname "super") = some none
  opq : nsIn C.K cStatics "thirdparty.any" = some none
  clsK : ∃ cd, clsIn C.K 34 = some cd ∧ cd.mro = .ref 34 :: bmE
  along : alongIn C.K (sname "__init__") bmE = some (some (.builtin "Exception.__init__"))
  top : (C.prog.main.scope.names.lookup ("super" : PySem.Str)).isSome = false

open Builtin Builtin.ObjectAttr in
/-- the first attribute of an instance without a dict -/
theorem store_new {prog : Program} {w : World} {A : Around} {E : Value → Shared → Prop} {h : Heap} {g : Array GenState} {d : Drawn} {t : Nat} {os : OsState}
    {nm q : PySem.Str} {C N x : Addr} {bs bm : List Value} {sn : List PySem.Str} {sub : List Value} {ab : Bool} {col : Option Bool} {dd : Option Addr} {k0 k1 k2 k3 k5 : Option Value} {B newId sa owner : String}
    {mN : PySem.Str → Option Value} {name : PySem.Str} {v : Value} {o : Obj} {Q : Unit → Shared → Prop} (SF : StoreFacts B bm sa owner)
    (hC : h.get? C = some (excClassObj nm q C N bs bm true sn sub ab col dd k0 k1 k2 k3 k5 newId)) (hn : h.Ns N mN) (hns : mN "__setattr__" = none) (hna : mN name = none)
    (hB : typeLookup (.type B) name = pure none) (hx : h.get? x = some o) (hc : o.cls = .ref C) (hnc : ∀ c, o.data ≠ .cls c) (hdn : o.dict = none)
    (hq : ∀ h' tk', h'.get? x = some { cls := o.cls, dict := some h.objs.size, data := o.data, slots := o.slots } → h'.Ns1 h.objs.size (fun y => if y = name then some v else none) → (∀ b ob, b ≠ x → h.get? b = some ob → h'.get? b = some ob) → Q () ⟨h', g, d, tk', os⟩) :
    wpAny (model prog w) A (setAttr (.ref x) name v) Q E ⟨h, g, d, t, os⟩ := by
  have f3 := SF.slot.bind (.ref x)
  have entry : ∀ {A : Around} {tk : Tok} {t : Nat} {Q' : PySem.Fin → Shared → Prop} {E' : Value → Shared → Prop}, (∀ h' tk', h'.get? x = some { cls := o.cls, dict := some h.objs.size, data := o.data, slots := o.slots } → h'.Ns1 h.objs.size (fun y => if y = name then some v else none) → (∀ b ob, b ≠ x → h.get? b = some ob → h'.get? b = some ob) → Q' (.done (.ret .none)) ⟨h', g, d, tk', os⟩) →
      wpAny (model prog w) A (Builtin.«object.__setattr__» ⟨[.ref x, .str name tk, v], []⟩) Q' E' ⟨h, g, d, t, os⟩ := by
    intro A tk t Q' E' hq
    have hpass := SF.passes (.ref x)
    unfold Builtin.«object.__setattr__»
    repeat (first | rw [refuse_eq] | (rw [refuseLoop_ref, hpass]) | (with_reducible refine wpAny_loadPart_at hx ?_; rw [hc]) | with_reducible refine wpAny_mroOf_exc hC ?_ | (with_reducible refine wpAny_typeLookup_exc hC hn SF.mro hB ?_; rw [hna]) | wp_step)
    rw [hdn, if_neg (by simp [typeHasDict])]
    split
    · rename_i hcd
      cases hcd
    split
    · rename_i c hcd
      exact absurd hcd (hnc c)
    · have hx₁ : (h.push { cls := .type "dict", data := .dict #[] }).get? x = some o := Heap.get?_push_of_some _ hx
      have hxs : x ≠ h.objs.size := Nat.ne_of_lt (Heap.lt_size hx)
      refine wpAny_bind (wpAny_alloc' ?_)
      refine wpAny_bind (wpAny_update' hx₁ ?_)
      refine wpAny_pure ?_
      have hgd : ((h.push { cls := .type "dict", data := .dict #[] }).update x fun o => { cls := o.cls, dict := some h.objs.size, data := o.data, slots := o.slots }).get? h.objs.size
          = some { cls := .type "dict", data := .dict #[] } :=
        (Heap.get?_update_ne _ _ _ _ hxs.symm).trans (Heap.get?_push_at rfl rfl)
      have hnd : ((h.push { cls := .type "dict", data := .dict #[] }).update x fun o => { cls := o.cls, dict := some h.objs.size, data := o.data, slots := o.slots }).Ns h.objs.size (fun _ => none) :=
        ⟨_, #[], _, hgd, rfl, fun e he => absurd he (by simp), fun _ => rfl⟩
      show wpAny _ _ (storeInDict h.objs.size (.str name tk) name v) _ _ _
      unfold storeInDict newKeyGuard
      refine wpAny_bind (wpAny_pure (wpAny_bind (wpAny_nsSet1 (Heap.Ns1.of_empty hnd) fun h' hn' hs => ?_)))
      obtain ⟨oD, esD, epD, hoD, hdD, hcD⟩ := hn'.count (Within.cons name v Within.nil)
      refine wpAny_bind (wpAny_lookBehind hoD (by rw [hdD]; exact pastItsLine_dict (Nat.le_trans hcD (by rw [List.length_cons, List.length_nil, sizeLine_eq]; lia))) ?_)
      wp_walk
      have hx' : h'.get? x = some { cls := o.cls, dict := some h.objs.size, data := o.data, slots := o.slots } := ?_
      refine hq h' _ hx' hn' (fun b ob hbx hb => ?_)
      · exact (hs.2 b (Nat.ne_of_lt (Heap.lt_size hb))).trans ((Heap.get?_update_ne _ _ _ _ hbx).trans (Heap.get?_push_of_some _ hb))
      · refine (hs.2 x hxs).trans (Heap.get?_update_self _ hx₁ ?_)
        have hfr := (Heap.get?_some_iff.mp hx).2
        obtain ⟨oc, od, odt, osl⟩ := o
        cases odt <;> first | rfl | exact hfr
  unfold setAttr callSpecial? specialOf
  repeat (any_goals (first | assumption | (with_reducible refine wpAny_loadPart_at hx ?_; rw [hc]) | (with_reducible refine wpAny_typeLookup_exc hC hn SF.mro SF.slot.lookup ?_; rw [hns]) | wp_step))
  refine codeAny_call_builtin SF.slot.plain SF.entry (wpAny_check_sa SF hC hx hc (entry fun h' tk' a1 a2 a3 => ?_))
  repeat (any_goals (first | assumption | wp_step))
  exact hq h' tk' a1 a2 a3

section
variable {C : Cx} {A : Around} {E : Value → Shared → Prop} {s : Shared}
/-- an exception made, its fields set -/
structure ExcMade (h h' : Heap) (e : Addr) (code : Value) : Prop where
  keeps : ∀ b o, h.get? b = some o → h'.get? b = some o
  new : h.get? e = none
  there : ∃ o t de m, h'.get? e = some o ∧ o.cls = .ref 34 ∧ o.dict = some de ∧ o.data = .fields #[.ref t, .none, .none, .none, .bool false, .none] ∧ h.get? de = none ∧ de ≠ e ∧ h'.Ns1 de m ∧ m (sname "code") = some code

theorem excInit {e t0 : Addr} {code told : Value} {R : Result → Shared → Prop} (X : ExcFacts C) (hs : C.h₀.StaysIn s.heap) (hroom : A.depth < recursionLimit)
    (he : s.heap.get? e = some { cls := .ref 34, data := .fields #[.ref t0, .none, .none, .none, .bool false, .none] }) (hne : e ≠ 34) (hn0 : C.h₀.get? e = none)
    (h : ∀ h' tk, (∀ b o, b ≠ e → s.heap.get? b = some o → h'.get? b = some o) →
      (∃ o t de m, h'.get? e = some o ∧ o.cls = .ref 34 ∧ o.dict = some de ∧ o.data = .fields #[.ref t, .none, .none, .none, .bool false, .none] ∧ s.heap.get? de = none ∧ de ≠ e ∧ h'.Ns1 de m ∧ m (sname "code") = some code) → R (.ok (.ret .none)) { s with heap := h', toks := tk }) :
    codeAny (model C.prog C.w) A (.call (.ref 31) ⟨[.ref e, code, told], []⟩) R s := by
  obtain ⟨nm, q, bs, sn, sub, ab, col, dd, k0, k1, k2, k3, k5, hC₀⟩ := X.cls
  obtain ⟨mN, hN₀, n1, n2, n3, n4, n5, n6⟩ := X.ns
  obtain ⟨od, osl, fd, p1, p2, p3, p4, p5, p6, q1, q2, q3, q4, r1, r2, r3, r4, vs, file, tf, occ, hf₀, hline, hbody, hscope, hglob, hblt, hclo, hcode, hpar, hbind, hrec, hcc₀, hoc, hvs, hfile⟩ := X.fn
  obtain ⟨cd, hcl, hmro⟩ := X.clsK
  obtain ⟨ar, har, harg⟩ := Option.map_eq_some_iff.mp hpar
  have hsc : ∀ x, fd.scope.names.lookup x = [(PySem.Str.ofString "self", NameKind.local), (PySem.Str.ofString "code", .local), (PySem.Str.ofString "told", .local), (PySem.Str.ofString "__class__", .free), (PySem.Str.ofString "super", .globalImplicit)].lookup x := fun x => by rw [hscope]
  have hkindF : fd.scope.kind = .function := by rw [hscope]
  refine PySem.ks_codeAny_call_defAt (fd := fd) (body := _) (binds := [(PySem.Str.ofString "self", .ref e), (PySem.Str.ofString "code", code), (PySem.Str.ofString "told", told)]) hroom (hs _ _ hf₀) rfl (C.T.nolimit.keeps hs) (by rw [hcode]; exact hrec.keeps hs) hbody (hbind _ hs _ _ _) ?_ ?_ (fun h₁ hns hk₁ => ?_) (by rw [hscope]) (by rw [hscope]) hkindF
  · rw [hscope]; decide
  · intro x hx
    rw [hsc]
    rcases List.mem_cons.mp hx with rfl | hx
    · dsimp only; decide +kernel
    rcases List.mem_cons.mp hx with rfl | hx
    · dsimp only; decide +kernel
    · cases List.mem_singleton.mp hx; dsimp only; decide +kernel
  obtain ⟨hh, g, d, t, os⟩ := s
  dsimp only at hs he h hns hk₁
  have hs₁ : C.h₀.StaysIn h₁ := fun b o q => hk₁ b o (hs b o q)
  have he₁ := hk₁ _ _ he
  have hkc : (callEnv fd hh.objs.size 31).kindOf "__class__" = some .free := (hsc _).trans (by decide +kernel)
  have hks : (callEnv fd hh.objs.size 31).kindOf "super" = some .globalImplicit := (hsc _).trans (by decide +kernel)
  have hkself : (callEnv fd hh.objs.size 31).kindOf (PySem.Str.ofString "self") = some .local := (hsc _).trans (by decide +kernel)
  have hkcode : (callEnv fd hh.objs.size 31).kindOf (PySem.Str.ofString "code") = some .local := (hsc _).trans (by decide +kernel)
  have hktold : (callEnv fd hh.objs.size 31).kindOf (PySem.Str.ofString "told") = some .local := (hsc _).trans (by decide +kernel)
  have hkE : (callEnv fd hh.objs.size 31).scope.kind = .function := hkindF
  have hintr : interactive (callEnv fd hh.objs.size 31) = false := by unfold interactive; rw [hkE]; rfl
  have hX : C.K.In h₁ := C.X.keeps hs₁
  have hC₁ := hs₁ _ _ hC₀
  have hsubE : mroIn C.K 34 (.type "Exception") = some true := by unfold mroIn; rw [hcl, Option.bind_some, hmro]; decide
  have hsubS : mroIn C.K 34 (.ref 34) = some true := by unfold mroIn; rw [hcl, Option.bind_some, hmro]; decide
  have hLm : ∀ {hp : Heap}, C.K.In hp → Looks (model C.prog C.w) hp (mroOf (.ref 34)) (.ref 34 :: bmE) := fun hX => by
    have := (looks_clsIn (M := model C.prog C.w) hX hcl).andThen (f := fun cd => pure cd.mro) .now
    rw [hmro] at this
    exact this
  let env := callEnv fd hh.objs.size 31
  refine PySem.ks_wpAt_execs_cons (PySem.ks_wpAt_Expr_any (PySem.ks_wpAt_MethodCall (pl := _) ?_ (eval_meth1 rfl hline)) hintr (by rfl))
  refine PySem.ks_wpAt_super_base (cc := 30) hks hkc (by decide +kernel) rfl (hs₁ _ _ hf₀) rfl har hcode (hs₁ _ _ hcc₀) hoc hvs hfile X.top ?_
  refine ks_loadName_global hkE hks (loadGlobal_builtin (by show Heap.Ns _ fd.globals _; rw [hglob]; exact C.T.g.keeps hs₁) (mg_none_of C.X C.T.g X.sup) (by show Heap.Ns _ fd.builtins _; rw [hblt]; exact C.T.b.keeps hs₁) ((C.T.builtins _ (by decide +kernel)).trans (by decide +kernel : bootBuiltins (PySem.Str.ofString "super") = some (.type "super"))) ⟨rfl, ?_⟩)
  obtain ⟨oc18, hc18, hd18⟩ := X.cell
  refine wpAny_loadName_free hkE hkc (by show fd.closure.lookup _ = some 18; rw [hclo]; decide +kernel) ⟨_, hs₁ _ _ hc18, hd18⟩ ?_
  have hself : ([(PySem.Str.ofString "self", Value.ref e), (PySem.Str.ofString "code", code), (PySem.Str.ofString "told", told)] : List (PySem.Str × Value)).reverse.lookup (PySem.Str.ofString "self") = some (.ref e) := by
    have e1 : (PySem.Str.ofString "self" == PySem.Str.ofString "told") = false := by decide +kernel
    have e2 : (PySem.Str.ofString "self" == PySem.Str.ofString "code") = false := by decide +kernel
    simp [List.lookup_cons, e1, e2]
  have hcodeL : ([(PySem.Str.ofString "self", Value.ref e), (PySem.Str.ofString "code", code), (PySem.Str.ofString "told", told)] : List (PySem.Str × Value)).reverse.lookup (PySem.Str.ofString "code") = some code := by
    have e1 : (PySem.Str.ofString "code" == PySem.Str.ofString "told") = false := by decide +kernel
    simp [List.lookup_cons, e1]
  have htoldL : ([(PySem.Str.ofString "self", Value.ref e), (PySem.Str.ofString "code", code), (PySem.Str.ofString "told", told)] : List (PySem.Str × Value)).reverse.lookup (PySem.Str.ofString "told") = some told := by
    simp [List.lookup_cons]
  refine wpAny_loadName_local hkE (by rw [harg]; exact hkself) hns (by rw [harg]; exact hself) ?_
  obtain ⟨oD, hD, hDd⟩ : ∃ oD, h₁.get? 34 = some oD ∧ oD.data = .cls cd := by
    unfold clsIn at hcl
    split at hcl
    · rename_i c d cd' sl ho
      cases hcl
      exact ⟨_, hX _ _ ho, rfl⟩
    · cases hcl
  refine PySem.ks_wpAny_isType_cls hD hDd ⟨rfl, ?_⟩
  refine PySem.ks_wpAny_call_super hD hDd he₁ rfl (fun c q => by cases q) (looks_mroIn hX hsubS) (fun h₂ hso hk₂ => ?_)
  have hs₂ : C.h₀.StaysIn h₂ := fun b o q => hk₂ b o (hs₁ b o q)
  have hX₂ := C.X.keeps hs₂
  have he₂ := hk₂ _ _ he₁
  refine getMethod_mw hso (looks_opaque hX₂ X.opq) (hLm hX₂) (by decide) hX₂ X.along he₂ rfl (looks_mroIn hX₂ hsubE) hne (by decide +kernel) ?_
  have hmw : (h₂.push (mwObj e)).get? h₂.objs.size = some (mwObj e) := Heap.get?_push_size _ rfl
  have kp₃ : ∀ b o, h₂.get? b = some o → (h₂.push (mwObj e)).get? b = some o := fun _ _ q => Heap.get?_push_of_some _ q
  have hs₃ : C.h₀.StaysIn (h₂.push (mwObj e)) := fun b o q => kp₃ b o (hs₂ b o q)
  have hns₃ : (h₂.push (mwObj e)).Ns hh.objs.size _ := (hns.keeps hk₂).keeps kp₃
  have he₃ := kp₃ _ _ he₂
  have hmem : backTo p5 (starEach [Expr.Name (PySem.Str.ofString "code") p4] (callEnv fd hh.objs.size 31)) = [(false, eval (.Name (PySem.Str.ofString "code") p4) (callEnv fd hh.objs.size 31))] := rfl
  show wpAny _ _ (callWith p5 (.ref h₂.objs.size) [] (backTo p5 (starEach [Expr.Name (PySem.Str.ofString "code") p4] (callEnv fd hh.objs.size 31))) []) _ _ _
  rw [hmem]
  refine callWith_of (P := fun hp => hp.get? h₂.objs.size = some (mwObj e)) rfl (fun hp hP => ⟨.machine, .inr (.inl rfl), (Looks.ld (part := none) hP).andThen .now⟩) (evalArgs_plain (spliced_cons ?_))
  refine wpAny_Name (wpAny_loadName_local hkE hkcode hns₃ hcodeL (spliced_nil ⟨hmw, ?_⟩)) (by decide +kernel)
  refine call_mw (hs₃ _ _ hC₀) rfl hmw he₃ rfl rfl ?_
  -- the exception with its arguments
  have hc₃ : ((h₂.push (mwObj e)).push { cls := .type "tuple", data := .seq [code].toArray }).get? e = some { cls := .ref 34, data := .fields #[.ref t0, .none, .none, .none, .bool false, .none] } := Heap.get?_push_of_some _ he₃
  have he₄ : (((h₂.push (mwObj e)).push { cls := .type "tuple", data := .seq [code].toArray }).update e (Obj.mapFields (·.setIfInBounds 0 (.ref (h₂.push (mwObj e)).objs.size)))).get? e = some { cls := .ref 34, data := .fields #[.ref (h₂.push (mwObj e)).objs.size, .none, .none, .none, .bool false, .none] } :=
    Heap.get?_update_self _ hc₃ rfl
  have kp₄ : ∀ b o, b ≠ e → h₁.get? b = some o → (((h₂.push (mwObj e)).push { cls := .type "tuple", data := .seq [code].toArray }).update e (Obj.mapFields (·.setIfInBounds 0 (.ref (h₂.push (mwObj e)).objs.size)))).get? b = some o := fun b o hb q =>
    (Heap.get?_update_ne _ _ _ _ hb).trans (Heap.get?_push_of_some _ (kp₃ _ _ (hk₂ _ _ q)))
  show _root_.PySem.wpAt _ _ _ _ _ _ ⟨((h₂.push (mwObj e)).push { cls := .type "tuple", data := .seq [code].toArray }).update e (Obj.mapFields (·.setIfInBounds 0 (.ref (h₂.push (mwObj e)).objs.size))), g, d, _, os⟩
  generalize ((h₂.push (mwObj e)).push { cls := .type "tuple", data := .seq [code].toArray }).update e (Obj.mapFields (·.setIfInBounds 0 (.ref (h₂.push (mwObj e)).objs.size))) = h₄ at he₄ kp₄
  generalize (h₂.push (mwObj e)).objs.size = t4 at he₄
  refine wpAt_of_wpAny ?_
  have neL : hh.objs.size ≠ e := Nat.ne_of_gt (Heap.lt_size he)
  have hns₄ : h₄.Ns hh.objs.size _ := hns.at' fun o q => kp₄ _ o neL q
  have hs₄ : C.h₀.StaysIn h₄ := fun b o q => kp₄ b o (fun z => by rw [z, hn0] at q; cases q) (hs₁ b o q)
  -- self.code = code
  refine PySem.wpAny_execs_cons (PySem.wpAny_Assign_stores ?_ rfl rfl)
  refine wpAny_Name (wpAny_loadName_local hkE hkcode hns₄ hcodeL ?_) (by decide +kernel)
  show wpAny _ _ (assign (.Attribute (.Name (PySem.Str.ofString "self") q1) (PySem.Str.ofString "code") q2) _ code) _ _ _
  refine kas_attr (wpAny_Name (wpAny_loadName_local hkE hkself hns₄ hself ?_) (by decide +kernel))
  refine store_new PySem.F.store_Exception (hs₄ _ _ hC₀) (hN₀.keeps hs₄) n2 n3 (by rw [typeLookup_type, builtinLookup_eq_fast]; kernel_rfl) he₄ rfl (fun c q => by cases q) rfl (fun h₅ tk₅ he₅ hd₅ kp₅ => ?_)
  have ns5 : hh.objs.size ≠ h₄.objs.size := Nat.ne_of_lt (hns₄.lt)
  have hns₅ : h₅.Ns hh.objs.size _ := hns₄.at' fun o q => kp₅ _ o neL q
  have hs₅ : C.h₀.StaysIn h₅ := fun b o q => kp₅ b o (fun z => by rw [z, hn0] at q; cases q) (hs₄ b o q)
  have I₅ : h₅.Inst e 34 (fun y => if y = PySem.Str.ofString "code" then some code else none) := ⟨_, he₅, rfl, fun c q => (by cases q), .inr ⟨h₄.objs.size, rfl, Nat.ne_of_gt (Heap.lt_size he₄), hd₅⟩⟩
  -- self.told = told
  refine PySem.wpAny_execs_cons (PySem.wpAny_Assign_stores ?_ rfl rfl)
  refine wpAny_Name (wpAny_loadName_local hkE hktold hns₅ htoldL ?_) (by decide +kernel)
  show wpAny _ _ (assign (.Attribute (.Name (PySem.Str.ofString "self") r1) (PySem.Str.ofString "told") r2) _ told) _ _ _
  refine kas_attr (wpAny_Name (wpAny_loadName_local hkE hkself hns₅ hself ?_) (by decide +kernel))
  refine store_attr (ns := [PySem.Str.ofString "code"]) PySem.F.store_Exception (hs₅ _ _ hC₀) (hN₀.keeps hs₅) n2 n4 (by rw [typeLookup_type, builtinLookup_eq_fast]; kernel_rfl) hne I₅ (fun h₆ tk₆ I₆ kp₆ same₆ => ?_) (fun y hy => by

    split at hy
    · rename_i q; rw [q]; exact .head _
    · exact absurd rfl hy) (by rw [sizeLine_eq]; decide)
  refine PySem.wpAny_execs_nil ?_
  obtain ⟨o₆, e₆, c₆, d₆, sl₆, dd₆⟩ := same₆ _ he₅
  obtain ⟨o₆', e₆', c₆', nc₆, dd₆'⟩ := I₆
  rw [e₆] at e₆'; cases e₆'
  have hdict := dd₆ _ rfl
  rcases dd₆' with ⟨q, _⟩ | ⟨dx, hdx, hne', hNs⟩
  · rw [hdict] at q; cases q
  rw [hdict] at hdx; cases hdx
  have nd : hh.get? h₄.objs.size = none := by
    cases z : hh.get? h₄.objs.size with
    | none => rfl
    | some o =>
      have hlt := Heap.lt_size (kp₄ _ o (fun q => by rw [← q] at he₄; exact absurd (Heap.lt_size he₄) (Nat.lt_irrefl _)) (hk₁ _ _ z))
      exact absurd hlt (Nat.lt_irrefl _)
  refine h h₆ _ (fun b o hb q => kp₆ b o hb (fun o₀ dx q1 q2 q3 => ?_) (kp₅ b o hb (kp₄ b o hb (hk₁ b o q)))) ⟨o₆, t4, h₄.objs.size, _, e₆, c₆, hdict, d₆, nd, hne', hNs, ?_⟩
  · rw [he₅] at q1; cases q1; cases q2
    rw [q3, nd] at q; cases q
  · have e1 : (sname "code" = PySem.Str.ofString "told") = False := by simp only [eq_iff_iff, iff_false]; decide +kernel
    show (if sname "code" = PySem.Str.ofString "told" then some told else if sname "code" = PySem.Str.ofString "code" then some code else none) = some code
    rw [if_neg (by rw [e1]; exact id), if_pos rfl]
end
section
variable {M : Model} {A : Around} {E : Value → Shared → Prop} {env : Env}
theorem raiseStmt_inst {nm q : PySem.Str} {C N : Addr} {bs bm : List Value} {hdct : Bool} {sn : List PySem.Str} {sub : List Value} {ab : Bool} {col : Option Bool} {dd : Option Addr} {k0 k1 k2 k3 k5 : Option Value} {newId : String} {s : Shared} {x : Sem Value} {Q : Flow → Shared → Prop} (hbase : bm.contains (.type "BaseException") = true) (hh : A.handled = none)
    (h : wpAny M A x (fun v s₁ => ∃ e t dct sl, v = .ref e ∧ s₁.heap.get? C = some (excClassObj nm q C N bs bm hdct sn sub ab col dd k0 k1 k2 k3 k5 newId) ∧
      s₁.heap.get? e = some { cls := .ref C, dict := dct, data := .fields #[.ref t, .none, .none, .none, .bool false, .none], slots := sl } ∧ E (.ref e) s₁) E s) :
    wpAny M A (raiseStmt env (some x) none) Q E s := by
  have hcB : (Value.ref C :: bm).contains (.type "BaseException") = true := by rw [List.contains_cons, hbase, Bool.or_true]
  unfold raiseStmt
  refine wpAny_bind (wpAny_mono h (fun v s₁ h₁ => ?_) fun _ _ x => x)
  refine hide fun X_ k_ => ?_
  obtain ⟨e, t, dct, sl, rfl, hC, he, hE⟩ := h₁
  obtain ⟨hp, g, d, tk, os⟩ := s₁
  refine k_ ?_
  clear k_ X_
  repeat (first | with_reducible refine wpAny_loadPart_at he ?_ | with_reducible refine wpAny_loadPart_at hC ?_ | (with_reducible refine wpAny_isSubtype_exc hC ?_; rw [hcB]) | wp_step)
  exact wpAny_raiseNew_none hh hE
end

noncomputable def sRaise (l : LA) : SA := fun ρ σ => (l ρ σ).bind fun vs σ => match vs with
  | [c, _] => .exc c σ
  | _ => .fail
section
variable {C : Cx} {k : Nat} {sc : Scope}
theorem SS_raise {e : Expr} {r : List Expr} {l : LA} {p pn pc : Pos} (X : ExcFacts C) (hkeep : keepIn C.K (.ref 34) = true) (hl : SL C k sc (e :: r) l) (hk2 : 2 ≤ k) (hg : sc.names.lookup (sname "BasicError") = some .globalImplicit)
    (hm : nsIn C.K mainGlobals (sname "BasicError") = some (some (.ref 34)))
    (he : ∀ env, starEach (e :: r) env = (false, eval e env) :: starEach r env := by intro _; rfl) (hp : ∀ env, (backTo pc (starEach r env)).any (·.1) = false := by intro _; rfl) :
    SS C k sc (.Raise (some (.Call (.Name (PySem.Str.ofString "BasicError") pn) (e :: r) [] pc)) none p) (sRaise l) := fun env A W ρ H Q E hk => by
  refine hide fun X_ k_ => ?_
  obtain ⟨nm, q, bs, sn, sub, ab, col, dd, k0, k1, k2, k3, k5, hC₀⟩ := X.cls
  obtain ⟨mN, hN₀, n1, _⟩ := X.ns
  obtain ⟨od, osl, fd, p1, p2, p3, p4, p5, p6, q1, q2, q3, q4, r1, r2, r3, r4, vs', file, tf, occ, hf₀, _⟩ := X.fn
  refine k_ ?_
  clear k_ X_
  rw [arm_exec_Raise]
  simp only [evalOpt, Option.map]
  refine wpAny_bind (wpAny_standAt (raiseStmt_inst (C := 34) (nm := nm) (q := q) (N := 33) (bs := bs) (bm := bmE) (hdct := true) (sn := sn) (sub := sub) (ab := ab) (col := col) (dd := dd) (k0 := k0) (k1 := k1) (k2 := k2) (k3 := k3) (k5 := k5) (newId := "Exception.__new__") PySem.F.excBase_Exception.hasBase H.room.hand ?_))
  refine wpAny_bind ?_
  show wpAny _ A (do callWith pc (← eval (.Name (PySem.Str.ofString "BasicError") pn) env) [] (backTo pc (starEach (e :: r) env)) (backToKw pc (keywordEach [] env))) _ _ W.s
  refine wpAny_bind (globalName H hg hm (by decide +kernel) ?_)
  show wpAny _ A (callWith pc (.ref 34) [] (backTo pc (starEach (e :: r) env)) []) _ _ W.s
  refine callWith_K C.X hkeep (hl env A W ρ pc H _ _ (K.bind hk (fun _ => False.elim) fun xs vs σ₁ W₁ hql x₁ H₁ e₁ r₁ hk₁ => ⟨C.X.keeps H₁.keep, ?_⟩)) (he env) (hp env)
  split at hk₁
  · rename_i c u
    cases r₁ with
    | cons _ y _ _ hv hs =>
    cases hs with
    | cons _ z _ _ hv2 hs =>
    cases hs
    have sE : W₁.s = ⟨W₁.s.heap, W₁.s.gens, W₁.s.drawn, W₁.s.toks, W₁.s.os⟩ := rfl
    have hC₁ := H₁.keep _ _ hC₀
    show wpAny _ A (call (.ref 34) [y, z]) _ _ ⟨W₁.s.heap, W₁.s.gens, W₁.s.drawn, W₁.s.toks, W₁.s.os⟩
    refine wpAny_call_exc_init PySem.F.excBase_Exception hC₁ (hN₀.keeps H₁.keep) n1 (H₁.keep _ _ hf₀) rfl (fun h' ex hmade => ?_) (by rw [sizeLine_eq]; show 2 ≤ _; decide)
    obtain ⟨t0, hex, _, _⟩ := hmade.there
    have hn34 : ex ≠ 34 := fun q => by rw [q] at hmade; have := hmade.new; rw [hC₁] at this; cases this
    have hn0 : C.h₀.get? ex = none := (H₁.out hmade.new).1
    refine wpAny_call (excInit (A := A.under (.builtin "type.__call__" ⟨.ref 34 :: [y, z], []⟩)) (R := _) X (fun b o q => hmade.keeps _ _ (H₁.keep b o q)) ?_ hex hn34 hn0 fun h'' tk'' kp hx_ => ?_)
    · show A.depth + (Code.builtin "type.__call__" ⟨.ref 34 :: [y, z], []⟩).weight < recursionLimit
      have : (Code.builtin "type.__call__" ⟨.ref 34 :: [y, z], []⟩).weight = 1 := by kernel_rfl
      have := H.room.depth
      lia
    · refine hide fun X_ k_ => ?_
      obtain ⟨o, t, de, m, e2, c2, d2, f2, nd, ne, hm2, hc2⟩ := hx_
      refine k_ ?_
      clear k_ X_
      refine ⟨rfl, wpAny_bind (wpAny_standAt (wpAny_pure ?_))⟩
      have kp₂ : ∀ b o, W₁.h.get? b = some o → h''.get? b = some o := fun b o q => kp b o (fun z => by rw [z, hmade.new] at q; cases q) (hmade.keeps _ _ q)
      have x₂ : Ext C (Own env) W₁ (W₁.withHeap h'' tk'') := Ext.grow _ kp₂
      have H₂ : HR C (W₁.withHeap h'' tk'') := H₁.grow _ kp₂
      have hde : W₁.h.get? de = none := by
        cases z : W₁.h.get? de with
        | none => rfl
        | some o' => have := hmade.keeps _ _ z; rw [nd] at this; cases this
      obtain ⟨oc, od', odt, osl'⟩ := o
      dsimp only at c2 d2 f2
      subst c2 d2 f2
      have apx : ∀ {b : Addr}, W₁.h.get? b = none → ∀ n, n < W₁.nx → W₁.ι n ≠ b := fun hb n hn q => by
        obtain ⟨o, e⟩ := H₁.below n hn
        rw [q, hb] at e; cases e
      refine ⟨ex, t, some de, osl', rfl, kp₂ _ _ hC₁, e2, ?_⟩
      have hk₂ : K C (Own env) (srel C env A) (.exc c W₁.σ) W Q E := by
        unfold sRaise at hk
        rw [hql] at hk
        rw [e₁]
        exact hk
      refine hk₂ ex (W₁.withHeap h'' tk'') ((x₁.mono fun _ _ _ h => h.elim).trans x₂) H₂ rfl ?_
      exact ⟨x₁.unborn hmade.new, H₁.out hmade.new, apx hmade.new, _, _, de, e2, rfl, rfl, rfl, ⟨x₁.unborn hde, H₁.out hde, apx hde, m, y, hm2, hc2, VR.moved (Moved.grow (C := C) kp₂) hv⟩, .inl rfl⟩
  · exact hk₁.elim
end
/-! ## lambdas -/
section
variable {C : Cx} {k : Nat} {sc : Scope}
theorem tab_uniq {t t' : Tab} (h : t ∈ C.tabs) (h' : t' ∈ C.tabs) (e : t'.P = t.P) : t' = t := by
  have := C.tabNd
  generalize C.tabs = l at h h' this
  induction l with
  | nil => cases h
  | cons a r ih =>
    obtain ⟨h1, h2⟩ := List.pairwise_cons.mp this
    rcases List.mem_cons.mp h with rfl | g
    · rcases List.mem_cons.mp h' with rfl | g'
      · rfl
      · exact absurd e.symm (h1 _ g')
    · rcases List.mem_cons.mp h' with rfl | g'
      · exact absurd e (h1 _ g)
      · exact ih g g' h2

theorem tabMove {W : Wd} {t : Tab} {h : Heap} (tk : Nat) (H : HR C W) (ht : t ∈ C.tabs) (hx : Heap.ExtBut t.P W.h h) {c' : Addr} (hp : h.get? t.P = some (tabObj #[rawInt t.pos.line, rawInt t.pos.col, .ref c'])) (hr : h.CodeRec (.ref c') t.qual) :
    Ext C noOwn W (W.withHeap h tk) ∧ HR C (W.withHeap h tk) := by
  have hn := (C.tabNone t ht).1
  have x : Ext C noOwn W (W.withHeap h tk) := ⟨⟨h, tk, rfl⟩, fun b o e => by
      by_cases q : b = t.P
      · exact ⟨_, q ▸ hp⟩
      · exact ⟨o, hx b o q e⟩, Nat.le_refl _, fun _ _ => rfl, fun n h1 h2 => absurd h2 (Nat.not_lt.mpr h1), fun b o e _ h2 _ => ⟨o, hx b o (fun q => h2 ⟨t, ht, q.symm⟩) e, .refl o⟩, fun b o e _ h2 hd => ⟨o, hx b o (fun q => h2 ⟨t, ht, q.symm⟩) e, hd⟩⟩
  have nι : ∀ n, n < W.nx → W.ι n ≠ t.P := fun n hn q => (H.above n hn).2 ⟨t, ht, q.symm⟩
  refine ⟨x, ⟨fun b o e => hx b o (fun q => by rw [q, hn] at e; cases e) (H.keep b o e), fun n o e => ?_, H.inj, H.above, fun n hn => let ⟨o, e⟩ := H.below n hn; ⟨o, hx _ _ (nι n hn) e⟩, fun t' ht' => ?_⟩⟩
  · have hlt := lt_of_get e
    refine OR.keep (W := W) (h := H.obj n o e) (fun _ _ => rfl) (fun _ _ => VR.up x H) hlt (fun b hb ob q => hx b ob (fun q' => ?_) q) ?_
    · rcases hb with rfl | ⟨⟨fs, rfl⟩, rfl⟩
      · exact nι _ hlt q'
      · obtain ⟨_, _, h0, _⟩ := H.obj n _ e
        exact nι _ (lt_of_get h0) q'
    · rintro ⟨fs, rfl⟩; obtain ⟨_, _, h0, _⟩ := H.obj n _ e; exact h0
  · by_cases q : t'.P = t.P
    · obtain rfl := tab_uniq ht ht' q
      exact ⟨_, hp, .inr ⟨c', rfl, hr⟩⟩
    · obtain ⟨ps, e, hc⟩ := H.tabs t' ht'
      refine ⟨ps, hx _ _ q e, hc.imp id ?_⟩
      rintro ⟨c₂, e2, hcr⟩
      refine ⟨c₂, e2, ?_⟩
      obtain ⟨cc, oc, vs, tq, e3, hoc, hd, hv⟩ := hcr
      refine ⟨cc, oc, vs, tq, e3, hx _ _ (fun q' => ?_) hoc, hd, hv⟩
      obtain ⟨ps', e', hc'⟩ := H.tabs t ht
      rw [q', e'] at hoc; cases hoc
      cases hd
      rcases hc' with rfl | ⟨_, rfl, _⟩
      · cases hv
      · simp [rawInt] at hv

/-- what a made lambda is -/
structure LamAt (C : Cx) (W : Wd) (f : Addr) (t : Tab) (params : Arguments) (body : Expr) (scope : Scope) (clos : List (PySem.Str × Addr)) : Prop where
  at_ : ∃ pm c' ctv, W.h.get? f = some (kla_obj "<lambda>" t.qual params body scope clos pm c' ctv) ∧ W.h.CodeRec (.ref c') t.qual

theorem lamMake {env : Env} {A : Around} {W : Wd} {ρ : Loc} {params : Arguments} {body : Expr} {scope : Scope} {pos : Pos} {t : Tab} {Q : Value → Shared → Prop} {E : Value → Shared → Prop} (H : Here C k sc env A W ρ) (ht : t ∈ C.tabs) (htsc : t.sc = sc) (hdot : sc.names.lookup (".0" : PySem.Str) = none) (hpos : t.pos = pos)
    (hdef : defaultsOf params env = ([], [])) (hfree : ∀ y ∈ scope.names, y.2 = .free → sc.names.lookup y.1 = some .cell)
    (h : ∀ f clos W', Ext C noOwn W W' → HR C W' → W'.σ = W.σ → W.h.get? f = none → LamAt C W' f t params body scope clos → (∀ y c, clos.lookup y = some c → env.cells.lookup y = some c) → (∀ x ∈ scope.names, x.2 = .free → (clos.lookup x.1).isSome = true) → Q (.ref f) W'.s) :
    wpAny (model C.prog C.w) A (eval (.Lambda params body scope pos) env) Q E W.s := by
  obtain ⟨hcode, hqual⟩ := H.sc.2 hdot t ht htsc
  obtain ⟨clos, hcl, hc1, hc2⟩ := closureFor_is (scope := scope) (env := env) fun y hy hf => H.fr.celHas _ (by show env.scope.names.lookup _ = _; rw [H.sc.1]; exact hfree y hy hf)
  obtain ⟨bm, ob, b1, b2, b3, b4, b5, b6⟩ := C.T.bmain
  obtain ⟨hPn, hCd⟩ := C.tabNone t ht
  have hbP : bm ≠ t.P := fun q => by rw [q, hPn] at b3; cases b3
  have hbG : bm ≠ mainGlobals := fun q => by
    obtain ⟨o, es, ep, e, hd, _⟩ := C.T.g
    rw [q, e] at b3; cases b3; rw [hd] at b6; cases b6
  have hgP : mainGlobals ≠ t.P := fun q => by
    obtain ⟨o, es, ep, e, hd, _⟩ := C.T.g
    rw [q, hPn] at e; cases e
  have hgs := C.T.g.keeps H.hr.keep
  have hb : W.h.BuiltinsAt C.mg t.P := ⟨bm, ob, b1, b2, hbG, hbP, H.hr.keep _ _ b3, b4, b5, b6⟩
  subst hpos
  refine kla_eval hdef ?_
  rw [hqual]
  obtain ⟨ps, hp, hps⟩ := H.hr.tabs t ht
  rcases hps with rfl | ⟨c', rfl, hcr⟩
  · refine kla_makeFunction (mg := C.mg) hcl H.fr.glob hgs hcode (hCd.keeps H.hr.keep) hp trivial rfl hgP hb fun c' ctv h' tk hx hge hlt hrec htb => ?_
    obtain ⟨x₁, H₁⟩ := tabMove (W := W) (t := t) tk H.hr ht hx (by simpa using htb) hrec
    have kp : ∀ b o, h'.get? b = some o → (h'.push (kla_obj "<lambda>" t.qual params body scope clos ((C.mg "__name__").getD .none) c' ctv)).get? b = some o := fun _ _ e => Heap.get?_push_of_some _ e
    have x₂ : Ext C noOwn (W.withHeap h' tk) ((W.withHeap h' tk).withHeap (h'.push (kla_obj "<lambda>" t.qual params body scope clos ((C.mg "__name__").getD .none) c' ctv)) tk) := Ext.grow (W := W.withHeap h' tk) _ kp
    refine h h'.objs.size clos ((W.withHeap h' tk).withHeap (h'.push (kla_obj "<lambda>" t.qual params body scope clos ((C.mg "__name__").getD .none) c' ctv)) tk) (x₁.trans x₂) (HR.grow (W := W.withHeap h' tk) H₁ _ kp) rfl (x₁.unborn (Heap.get?_none_of_le (Nat.le_refl _))) ⟨_, c', ctv, Heap.get?_push_size _ rfl, hrec.keeps kp⟩ hc1 hc2
  · refine kla_makeFunctionHit (mg := C.mg) (cv := .ref c') hcl H.fr.glob hgs hcode (hCd.keeps H.hr.keep) hp (by simp [rawInt, TriplesOk]) (by simp [rawInt, codeAmong]) hb fun ctv h' tk hk hsz => ?_
    have x₁ : Ext C noOwn W (W.withHeap h' tk) := Ext.grow _ hk
    have H₁ : HR C (W.withHeap h' tk) := H.hr.grow _ hk
    have kp : ∀ b o, h'.get? b = some o → (h'.push (kla_obj "<lambda>" t.qual params body scope clos ((C.mg "__name__").getD .none) c' ctv)).get? b = some o := fun _ _ e => Heap.get?_push_of_some _ e
    have x₂ : Ext C noOwn (W.withHeap h' tk) ((W.withHeap h' tk).withHeap (h'.push (kla_obj "<lambda>" t.qual params body scope clos ((C.mg "__name__").getD .none) c' ctv)) tk) := Ext.grow (W := W.withHeap h' tk) _ kp
    exact h h'.objs.size clos ((W.withHeap h' tk).withHeap (h'.push (kla_obj "<lambda>" t.qual params body scope clos ((C.mg "__name__").getD .none) c' ctv)) tk) (x₁.trans x₂) (HR.grow (W := W.withHeap h' tk) H₁ _ kp) rfl (x₁.unborn (Heap.get?_none_of_le (Nat.le_refl _))) ⟨_, c', ctv, Heap.get?_push_size _ rfl, (hcr.keeps hk).keeps kp⟩ hc1 hc2
end
/-! ## an attribute of a caught exception -/
theorem slot_exc_ga : Slot "Exception" "__getattribute__" "BaseException.__getattribute__" := .of (owner := "BaseException") (n := "__getattribute__") (by rw [typeLookup_type, builtinLookup_eq_fast]; kernel_rfl) (by decide +kernel) (by decide +kernel) (by decide +kernel)
  (by first | exact .inl (by decide +kernel) | exact .inr (by decide +kernel)) (by rw [isSubtype_type]; kernel_rfl)
theorem lk_exc_getattr : typeLookup (.type "Exception") "__getattr__" = pure none := by rw [typeLookup_type, builtinLookup_eq_fast]; kernel_rfl
theorem mro_exc : mroOf (.type "Exception") = pure bmE := by rw [mroOf_type]; kernel_rfl
section
variable {prog : Program} {w : World} {A : Around} {E : Value → Shared → Prop} {h : Heap} {g : Array GenState} {d : Drawn} {t : Nat} {os : OsState} {nm q : PySem.Str} {C N x : Addr} {bs : List Value} {sn : List PySem.Str} {sub : List Value} {ab : Bool} {col : Option Bool} {dd : Option Addr} {k0 k1 k2 k3 k5 : Option Value} {newId : String}
    {mN mA : PySem.Str → Option Value} {name : PySem.Str} {v : Value}
theorem check_ga_exc {M : Model} {nameV : Value} {o : Obj} {Q : Unit → Shared → Prop} (hC : h.get? C = some (excClassObj nm q C N bs bmE true sn sub ab col dd k0 k1 k2 k3 k5 newId))
    (hx : h.get? x = some o) (hc : o.cls = .ref C) (hq : Q () ⟨h, g, d, t, os⟩) : wpAny M A (checkBuiltinCall "BaseException.__getattribute__" ⟨[.ref x, nameV], []⟩) Q E ⟨h, g, d, t, os⟩ := by
  have hk : builtinKind "BaseException.__getattribute__" = some .slot := by decide +kernel
  have hsplit : splitId "BaseException.__getattribute__" = some ("BaseException", "__getattribute__") := by decide +kernel
  have hcB : (Value.ref C :: bmE).contains (.type "BaseException") = true := by rw [List.contains_cons, show bmE.contains (.type "BaseException") = true from by decide, Bool.or_true]
  have ha := PySem.F.args_bexc_ga (.ref x) nameV
  simp only [checkBuiltinCall, hk, hsplit]
  refine wpAny_bind ?_
  · unfold isInstance
    repeat (first | (with_reducible refine wpAny_loadPart_at hx ?_; rw [hc]) | (with_reducible refine wpAny_isSubtype_exc hC ?_; rw [hcB]) | wp_step)
    exact hq
open Builtin Builtin.ObjectAttr in
theorem load_exc_entry {tk : Tok} {Q' : PySem.Fin → Shared → Prop} {E' : Value → Shared → Prop} (hC : h.get? C = some (excClassObj nm q C N bs bmE true sn sub ab col dd k0 k1 k2 k3 k5 newId)) (hn : h.Ns N mN) (hna : mN name = none)
    (hB : typeLookup (.type "Exception") name = pure none) (I : h.Inst x C mA) (hv : mA name = some v) (hq : Q' (.done (.ret v)) ⟨h, g, d, t, os⟩) : wpAny (model prog w) A (Builtin.«object.__getattribute__» ⟨[.ref x, .str name tk], []⟩) Q' E' ⟨h, g, d, t, os⟩ := by
  obtain ⟨o, hx, hc, hnc, hd⟩ := id I
  rcases hd with ⟨_, hmA⟩ | ⟨dx, hdx, hne, hns⟩
  · rw [hmA name] at hv; cases hv
  unfold Builtin.«object.__getattribute__»
  repeat (first | (with_reducible refine wpAny_loadPart_at hx ?_; rw [hc]) | (with_reducible refine wpAny_typeLookup_exc hC hn mro_exc hB ?_; rw [hna]) | wp_step)
  split
  · rename_i c hcd
    exact absurd hcd (hnc c)
  unfold instanceDict
  repeat (first | (with_reducible refine wpAny_loadPart_at hx ?_; rw [hc]) | with_reducible refine wpAny_loadPart_at hC ?_ | wp_step)
  rw [hdx]
  repeat (first | (with_reducible refine wpAny_nsGet hns.ns ?_; rw [hv]) | wp_step)
  exact hq
open Builtin Builtin.ObjectAttr in
theorem load_exc {expr : Bool} {Q : Value → Shared → Prop}
    (hC : h.get? C = some (excClassObj nm q C N bs bmE true sn sub ab col dd k0 k1 k2 k3 k5 newId)) (hn : h.Ns N mN) (hng : mN "__getattribute__" = none) (hnh : mN "__getattr__" = none) (hna : mN name = none)
    (hB : typeLookup (.type "Exception") name = pure none) (I : h.Inst x C mA) (hv : mA name = some v) (hh : handedOut v = pure v) (hq : Q v ⟨h, g, d, t + 1, os⟩) :
    wpAny (model prog w) A (getAttr (.ref x) name expr) Q E ⟨h, g, d, t, os⟩ := by
  obtain ⟨o, hx, hc, _⟩ := id I
  have f3 := slot_exc_ga.bind (.ref x)
  have hx0 : (expr && onTheHeap (Value.builtin "BaseException.__getattribute__")) = false := by cases expr <;> rfl
  have hx2 : (Value.builtin "BaseException.__getattribute__" == Value.builtin "object.__getattribute__") = false := by decide +kernel
  have hx1 : (onTheHeap (Value.ref C) && Value.builtin "BaseException.__getattribute__" == Value.builtin "object.__getattribute__") = false := by rw [hx2]; rfl
  unfold getAttr getAttrBy
  repeat (any_goals (first | assumption | (with_reducible refine wpAny_loadPart_at hx ?_; rw [hc]) | (with_reducible refine wpAny_typeLookup_exc hC hn mro_exc slot_exc_ga.lookup ?_; rw [hng]) | (with_reducible refine wpAny_typeLookup_exc hC hn mro_exc lk_exc_getattr ?_; rw [hnh]) | wp_step))
  refine codeAny_call_builtin slot_exc_ga.plain PySem.F.entry_bexc_ga (check_ga_exc hC hx hc (load_exc_entry hC hn hna hB I hv ?_))
  repeat (any_goals (first | assumption | wp_step))
end
/-! ## _law_code(lambda: ...) -/
noncomputable def eLaw (fv : List String) (fb : EA) : EA := fun ρ σ => match fb (cap fv ρ) σ with
  | .ok _ σ' => .ok (.str []) σ'
  | .exc c σ' => .ok c σ'
  | .fail => .fail

inductive LawDef (C : Cx) : Prop
  | mk : ∀ od osl fd a1 a2 a3 b1 b2 b3 b4 b5 b6 c0 c1 c2, C.h₀.get? 228 = some ⟨.type "function", od, .func fd, osl⟩ →
      fd.body = .stmts [.Try [.Expr (.Call (.Name (PySem.Str.ofString "deed") a1) [] [] a2) a3] [.ExceptHandler (some (.Name (PySem.Str.ofString "BasicError") b1)) (some (PySem.Str.ofString "caught")) [.Return (some (.Attribute (.Name (PySem.Str.ofString "caught") b2) (PySem.Str.ofString "code") b3)) b4] b5] [] [] b6, .Return (some (.Constant (.str (PySem.Str.ofString "")) c0 c1)) c2] →
      fd.scope = { kind := .function, names := [(PySem.Str.ofString "deed", .local), (PySem.Str.ofString "caught", .local), (PySem.Str.ofString "BasicError", .globalImplicit)], isGenerator := false, isCoroutine := false } →
      fd.globals = mainGlobals →
      fd.builtins = builtinsNs →
      fd.closure = [] →
      (∀ a : Value, bindArgs fd ⟨[a], []⟩ = pure [(PySem.Str.ofString "deed", a)]) →
      C.h₀.CodeRec fd.code fd.qualname → LawDef C
structure LawFn (C : Cx) : Prop where
  fn : LawDef C
  exc : nsIn C.K mainGlobals (sname "BasicError") = some (some (.ref 34))
  keep : keepIn C.K (.ref 228) = true
  name : nsIn C.K mainGlobals (sname "_law_code") = some (some (.ref 228))

section
variable {C : Cx} {k : Nat} {sc : Scope}
theorem setFly {A : Around} {W : Wd} {lo : Heap} {e : Addr} {c : V} {Q : Unit → Shared → Prop} {E : Value → Shared → Prop} (H : HR C W) (Fy : Fly C W lo e c)
    (h : ∀ W', Ext C (fun b => lo.get? b = none) W W' → HR C W' → W'.σ = W.σ → Fly C W' lo e c → Q () W'.s) : wpAny (model C.prog C.w) A (setFlight (.ref e) none) Q E W.s := by
  obtain ⟨h1, h0, h2, oe, vs, de, a1, a2, a3, a4, X, tr⟩ := id Fy
  unfold setFlight
  rcases tr with tr | ⟨T, oT, ts, fr, b1, b2, b0, b3, b4, b5, b6, b7, b8⟩
  · refine wpAny_bind (wpAny_field a1 a4 tr ?_)
    rw [if_neg (by decide)]
    exact wpAny_pure (h W (.refl _ _ _) H rfl Fy)
  · refine wpAny_bind (wpAny_field a1 a4 b1 ?_)
    rw [if_pos (show (Value.ref T != Value.none) = true from by simp)]
    refine wpAny_setField b5 b6 (Array.getElem?_eq_some_iff.mp b7).1 ?_
    have hd' := Obj.data_mapFields b6 (·.setIfInBounds 3 ((none : Option Addr).elim Value.none fun f => rawInt f))
    obtain ⟨x₁, H₁, u₁⟩ := fieldStep H b0 b3 b5 b6 (by intro x q; rw [b8]; intro z; cases z) (Obj.mapFields (·.setIfInBounds 3 ((none : Option Addr).elim Value.none fun f => rawInt f))) (Obj.isFreed_of_fields hd') W.s.toks
    have hdT : de ≠ T := fun q => by
      obtain ⟨_, _, _, m, y, hm, _⟩ := X
      obtain ⟨od, es, ep, e', hd'⟩ := Ns1.dict hm
      rw [q, b5] at e'; cases e'; rw [b6] at hd'; cases hd'
    refine h (W.withHeap (W.h.update T (Obj.mapFields (·.setIfInBounds 3 ((none : Option Addr).elim Value.none fun f => rawInt f)))) W.s.toks) (x₁.mono fun b _ _ q => by subst q; exact b2) H₁ rfl ?_
    refine ⟨h1, h0, h2, oe, vs, de, (Heap.get?_update_other _ _ b4).trans a1, a2, a3, a4, Code.step X x₁ hdT u₁, .inr ⟨T, _, _, fr, b1, b2, b0, b3, b4, Heap.get?_update_self _ b5 (Obj.isFreed_of_fields hd'), hd', ?_, ?_⟩⟩
    · have hlt := (Array.getElem?_eq_some_iff.mp b7).1
      simp [hlt]
    · rw [Array.getElem?_setIfInBounds]; simp [b8]

theorem lamFR {lscope : Scope} {fv : List String} {env : Env} {A A' : Around} {W : Wd} {ρ : Loc} {L f c' : Addr} {q : PySem.Str} {clos : List (PySem.Str × Addr)} {m : PySem.Str → Option Value} (hsc : env.scope = sc) (F : FR C env A W ρ)
    (hkind : lscope.kind = .function) (hfv : ∀ n ∈ fv, lscope.names.lookup (sname n) = some .free) (hcell : ∀ y ∈ lscope.names, y.2 ≠ .cell) (hfree : ∀ y ∈ lscope.names, y.2 = .free → sc.names.lookup y.1 = some .cell)
    (hc1 : ∀ y c, clos.lookup y = some c → env.cells.lookup y = some c) (hc2 : ∀ x ∈ lscope.names, x.2 = .free → (clos.lookup x.1).isSome = true)
    (hns : W.h.Ns L m) (hout : C.out L) (hap : ∀ n, n < W.nx → W.ι n ≠ L) (hne : ∀ y c, env.cells.lookup y = some c → c ≠ L) (hS : ∃ outer, Stk C A' W outer) : FR C (envX q lscope L f (.ref c') clos) A' W (cap fv ρ) := by
  have mem : ∀ {n : String}, n ∈ fv → (sname n, NameKind.free) ∈ lscope.names := fun hn => mem_of_lookup (hfv _ hn)
  refine ⟨hkind, rfl, rfl, ⟨m, hns, fun z v e hl => ?_⟩, fun z v e hl => ?_, ⟨hout, hap⟩, fun y c hc => ?_, fun y z c h1 h2 => F.celInj y z c (hc1 _ _ h1) (hc1 _ _ h2), fun y hy => ?_, hS⟩
  · obtain ⟨hz, _⟩ := look_cap e
    have : lscope.names.lookup (sname z) = some .local := hl
    rw [hfv z hz] at this; cases this
  · obtain ⟨hz, e'⟩ := look_cap e
    have hcl : env.kindOf (sname z) = some .cell := by show env.scope.names.lookup _ = _; rw [hsc]; exact hfree _ (mem hz) rfl
    obtain ⟨h3, c, y, h4, h5, h6⟩ := F.cel z v e' (by rw [hcl]; simp)
    obtain ⟨c₂, hc₂⟩ := Option.isSome_iff_exists.mp (hc2 _ (mem hz) rfl)
    have := hc1 _ _ hc₂
    rw [h4] at this; cases this
    exact ⟨.inr (hfv z hz), c, y, hc₂, h5, h6⟩
  · obtain ⟨a1, a2, a3, v, a4⟩ := F.celAp y c (hc1 _ _ hc)
    exact ⟨a1, hne _ _ (hc1 _ _ hc), a3, v, a4⟩
  · have : lscope.names.lookup y = some .cell := hy
    exact absurd rfl (hcell _ (mem_of_lookup this))
end
section
variable {C : Cx} {k : Nat} {sc : Scope}
theorem VR.handedO {ι nx h} {v : V} {y : Value} (r : VR ι nx h v y) : handedOut y = pure y := by cases r <;> rfl

/-- the caught exception's code is given back -/
theorem catchFly {env : Env} {A : Around} {W₀ W : Wd} {ρ₀ ρ : Loc} {outer : List Env} {e : Addr} {c : V} {b1 b2 b3 b4 b5 : Pos} {Q : Flow → Shared → Prop} {E : Value → Shared → Prop} (X : ExcFacts C) (hexc : nsIn C.K mainGlobals (sname "BasicError") = some (some (.ref 34)))
    (hf : env.frame = some env.locals) (S : Stk C A W (env :: outer)) (H : HR C W) (F : FR C env A W ρ) (F₀ : FR C env A W₀ ρ₀) (hB : ∀ b, W.h.get? b = none → W₀.h.get? b = none) (Fy : Fly C W W₀.h e c)
    (hkB : env.kindOf (sname "BasicError") = some .globalImplicit) (hkc : env.kindOf (PySem.Str.ofString "caught") = some .local)
    (h : ∀ y W', Ext C (fun b => W₀.h.get? b = none ∨ b = env.locals) W W' → HR C W' → W'.σ = W.σ → W'.VR c y → Q (.ret y) W'.s) :
    wpAny (model C.prog C.w) A (noteFrame (.ref e) env) (fun _ s₂ => wpAny (model C.prog C.w) A (setFlight (.ref e) none) (fun _ s₃ => wpAny (model C.prog C.w) A (handleBy (.ref e) env
      [.ExceptHandler (some (.Name (PySem.Str.ofString "BasicError") b1)) (some (PySem.Str.ofString "caught")) [.Return (some (.Attribute (.Name (PySem.Str.ofString "caught") b2) (PySem.Str.ofString "code") b3)) b4] b5]) Q E s₃) E s₂) E W.s := by
  refine hide fun X_ k_ => ?_
  obtain ⟨nm, q, bs, sn, sub, ab, col, dd, k0, k1, k2, k3, k5, hC₀⟩ := X.cls
  obtain ⟨mN, hN₀, n1, n2, n3, n4, n5, n6⟩ := X.ns
  refine k_ ?_
  clear k_ X_
  have hp : (env.scope.kind == .class || (env.scope.kind == .module && env.locals != env.globals)) = false := by rw [F.kind]; rfl
  refine noteFly hf S H Fy hB fun W₁ x₁ H₁ e₁ _ Fy₁ => ?_
  refine wpAny_handleBy_cons (codeAny_handlers_test ?_) (by intro q; cases q)
  have live₀ : ∃ o, W₀.h.get? env.locals = some o := by obtain ⟨m, ⟨o, es, ep, e, _⟩, _⟩ := F₀.ns; exact ⟨o, e⟩
  obtain ⟨m, hm, _⟩ := F.ns
  have hm₁ : W₁.h.Ns env.locals m := Ns.kept hm fun o eo => x₁.keep _ o eo F.locAp.2 F.locAp.1.2 (fun q => by obtain ⟨o', e'⟩ := live₀; rw [q] at e'; cases e')
  refine wpAny_Name (ks_loadName_global F.kind hkB ?_) (by decide +kernel)
  unfold loadGlobal
  rw [F.glob]
  refine wpAny_bind (wpAny_nsGet (C.T.g.keeps H₁.keep) ?_)
  rw [mg_of C.X C.T.g hexc]
  refine wpAny_pure ?_
  refine hide fun X_ k_ => ?_
  obtain ⟨g1, g0, g2, oe, vs, de, a1, a2, a3, a4, Xc, tr⟩ := id Fy₁
  refine k_ ?_
  clear k_ X_
  have hC₁ := H₁.keep _ _ hC₀
  show wpAny _ _ (excMatches (.ref e) (.ref 34)) _ _ ⟨W₁.s.heap, W₁.s.gens, W₁.s.drawn, W₁.s.toks, W₁.s.os⟩
  refine wpAny_excMatches_sub_self hC₁ a1 a2 PySem.F.excBase_Exception.hasBase ?_
  refine codeAny_handlers_suite_as ?_
  refine setFly H₁ Fy₁ fun W₂ x₂ H₂ e₂ Fy₂ => ?_
  have hm₂ : W₂.h.Ns env.locals m := by
    have hap₁ : ∀ n, n < W₁.nx → W₁.ι n ≠ env.locals := by obtain ⟨o, _, _, e, _⟩ := hm; exact x₁.notι e F.locAp.2
    exact Ns.kept hm₁ fun o eo => x₂.keep _ o eo hap₁ F.locAp.1.2 (fun q => by obtain ⟨o', e'⟩ := live₀; rw [q] at e'; cases e')
  have hap₂ : ∀ n, n < W₂.nx → W₂.ι n ≠ env.locals := by
    have hap₁ : ∀ n, n < W₁.nx → W₁.ι n ≠ env.locals := by obtain ⟨o, _, _, e, _⟩ := hm; exact x₁.notι e F.locAp.2
    obtain ⟨o, _, _, e, _⟩ := hm₁; exact x₂.notι e hap₁
  refine wpAny_storeName_local hkc hm₂ (fun h₃ hn₃ sb₃ => ?_) hp
  refine hide fun X_ k_ => ?_
  obtain ⟨g1, g0, g2, oe, vs, de, a1, a2, a3, a4, Xc, tr⟩ := id Fy₂
  refine k_ ?_
  clear k_ X_
  have x₃ : Ext C (fun b => b = env.locals) W₂ (W₂.withHeap h₃ (W₂.s.toks + 1)) := Ext.loc _ rfl sb₃ (ns_stays hn₃)
  have H₃ : HR C (W₂.withHeap h₃ (W₂.s.toks + 1)) := H₂.loc _ F.locAp.1 hap₂ sb₃ (ns_stays hn₃) (ns_plainish hm₂)
  have u₃ : ∀ v y, W₂.VR v y → (W₂.withHeap h₃ (W₂.s.toks + 1)).VR v y := fun v y r => VR.loc H₂ sb₃ (ns_stays hn₃) (ns_plainish hm₂) r
  have neE : e ≠ env.locals := fun q => by
    refine hide fun X_ k_ => ?_
    obtain ⟨o', es, ep, e', hd, _⟩ := hm₂
    refine k_ ?_
    clear k_ X_
    rw [← q, a1] at e'; cases e'; rw [a4] at hd; cases hd
  refine hide fun X_ k_ => ?_
  obtain ⟨w1, w2, w3, mc, y, hmc, hy, ry⟩ := Xc
  refine k_ ?_
  clear k_ X_
  have neD : de ≠ env.locals := fun q => by
    obtain ⟨o', e'⟩ := live₀
    rw [← q, w1] at e'; cases e'
  have a1₃ : h₃.get? e = some oe := (sb₃.2 _ neE).trans a1
  have hmc₃ : h₃.Ns1 de mc := hmc.sameBut sb₃ neD
  have neDE : de ≠ e := fun q => by
    refine hide fun X_ k_ => ?_
    obtain ⟨od, es, ep, e', hd⟩ := Ns1.dict hmc
    refine k_ ?_
    clear k_ X_
    rw [q, a1] at e'; cases e'; rw [a4] at hd; cases hd
  have I₃ : h₃.Inst e 34 mc := ⟨oe, a1₃, a2, fun c q => (by rw [a4] at q; cases q), .inr ⟨de, a3, neDE, hmc₃⟩⟩
  refine PySem.wpAny_execs_cons (PySem.wpAny_Return_some (Attribute_any_ (wpAny_Name (wpAny_loadName_local F.kind hkc hn₃ (if_pos rfl) ?_) (by decide +kernel)) (by with_unfolding_all rfl)))
  show wpAny _ _ (getAttr (.ref e) (PySem.Str.ofString "code") true) _ _ ⟨h₃, W₂.s.gens, W₂.s.drawn, W₂.s.toks + 1, W₂.s.os⟩
  refine load_exc (H₃.keep _ _ hC₀) (hN₀.keeps H₃.keep) n5 n6 n3 (by rw [typeLookup_type, builtinLookup_eq_fast]; kernel_rfl) I₃ hy ry.handedO ?_
  have hn₃' : ({ W₂.s with heap := h₃, toks := W₂.s.toks + 1 + 1 } : Shared).heap.Ns env.locals _ := hn₃
  refine wpAny_nameGoes (s := { W₂.s with heap := h₃, toks := W₂.s.toks + 1 + 1 }) hkc hn₃' hp fun h₄ m₄ hn₄ sb₄ => ?_
  have x₄ : Ext C (fun b => b = env.locals) (W₂.withHeap h₃ (W₂.s.toks + 1)) ((W₂.withHeap h₃ (W₂.s.toks + 1)).withHeap h₄ (W₂.s.toks + 1 + 1 + 1)) := Ext.loc (W := W₂.withHeap h₃ (W₂.s.toks + 1)) _ rfl sb₄ (ns_stays hn₄)
  have H₄ : HR C ((W₂.withHeap h₃ (W₂.s.toks + 1)).withHeap h₄ (W₂.s.toks + 1 + 1 + 1)) := HR.loc (W := W₂.withHeap h₃ (W₂.s.toks + 1)) H₃ _ F.locAp.1 hap₂ sb₄ (ns_stays hn₄) (ns_plainish hn₃)
  refine h y ((W₂.withHeap h₃ (W₂.s.toks + 1)).withHeap h₄ (W₂.s.toks + 1 + 1 + 1)) ?_ H₄ (e₂.trans e₁) (VR.loc (W := W₂.withHeap h₃ (W₂.s.toks + 1)) H₃ sb₄ (ns_stays hn₄) (ns_plainish hn₃) (u₃ _ _ ry))
  exact (x₁.mono fun b _ _ h => .inl h).trans ((x₂.mono fun b _ _ h => .inl h).trans ((x₃.mono fun b _ _ h => .inr h).trans (x₄.mono fun b _ _ h => .inr h)))
end
noncomputable abbrev noParams : Arguments := { posonlyargs := [], args := [], vararg := none, kwonlyargs := [], kw_defaults := [], kwarg := none, defaults := [] }
section
variable {C : Cx} {k : Nat} {sc : Scope}
theorem SE_law {lp pn p : Pos} {body : Expr} {lscope : Scope} {t : Tab} {fv : List String} {fb : EA} (X : ExcFacts C) (LF : LawFn C) (ht : t ∈ C.tabs) (htsc : t.sc = sc) (hdot : sc.names.lookup (".0" : PySem.Str) = none) (hpos : t.pos = lp)
    (hfv : ∀ n ∈ fv, lscope.names.lookup (sname n) = some .free) (hfree : ∀ y ∈ lscope.names, y.2 = .free → sc.names.lookup y.1 = some .cell) (hcell : ∀ y ∈ lscope.names, y.2 ≠ .cell)
    (hkind : lscope.kind = .function) (hco : lscope.isCoroutine = false) (hgen : lscope.isGenerator = false) (hnoTab : ∀ t ∈ C.tabs, t.sc.names ≠ lscope.names) (hb : SE C k lscope body fb)
    (hg : sc.names.lookup (sname "_law_code") = some .globalImplicit) : SE C (k + 2) sc (.Call (.Name (PySem.Str.ofString "_law_code") pn) [.Lambda noParams body lscope lp] [] p) (eLaw fv fb) := fun env A W ρ H Q E hk => by
  have hk₀ : K C (fun b => W.h.get? b = none) vrel (eLaw fv fb ρ W.σ) W Q E := hk.widen fun b o e h => by rw [h] at e; cases e
  obtain ⟨od, osl, fd, a1, a2, a3, b1, b2, b3, b4, b5, b6, c0, c1, c2, hf₀, hbody, hscope, hglob, hblt, hclo, hbind, hrec⟩ := LF.fn
  show wpAny _ A (do callWith p (← eval (.Name (PySem.Str.ofString "_law_code") pn) env) [] (backTo p (starEach [.Lambda noParams body lscope lp] env)) (backToKw p (keywordEach [] env))) Q E W.s
  refine wpAny_bind (globalName H hg LF.name (by decide +kernel) ?_)
  show wpAny _ A (callWith p (.ref 228) [] (backTo p (starEach [.Lambda noParams body lscope lp] env)) []) Q E W.s
  refine callWith_K C.X LF.keep ?_ rfl rfl
  show wpAny _ A (spliced ((false, eval (.Lambda noParams body lscope lp) env) :: [])) _ _ _
  refine spliced_cons (lamMake H ht htsc hdot hpos rfl hfree fun f clos W₁ x₁ H₁ e₁ nf L hc1 hc2 => spliced_nil ⟨C.X.keeps H₁.keep, ?_⟩)
  obtain ⟨pm, c', ctv, hf₁, hcr₁⟩ := L.at_
  have F₁ := H.fr.ext H.hr x₁
  obtain ⟨outer, S₁⟩ := F₁.stk
  have X₁ : Ext C (fun b => W.h.get? b = none) W W₁ := x₁.mono fun _ _ _ h => h.elim
  -- the frame of _law_code
  have hsc : ∀ x, fd.scope.names.lookup x = [(PySem.Str.ofString "deed", NameKind.local), (PySem.Str.ofString "caught", .local), (PySem.Str.ofString "BasicError", .globalImplicit)].lookup x := fun x => by rw [hscope]
  have hkF : fd.scope.kind = .function := by rw [hscope]
  have hkdeed : fd.scope.names.lookup (PySem.Str.ofString "deed") = some .local := (hsc _).trans (by decide +kernel)
  refine wpAny_call (codeAny_call_cells (fd := fd) (binds := [(PySem.Str.ofString "deed", .ref f)]) (by have := H.room.depth; lia) (H₁.keep _ _ hf₀) rfl H₁.nolimit (hrec.keeps H₁.keep) hbody (hbind _) hclo (fun x hx => by
    cases List.mem_singleton.mp hx; exact .inl hkdeed) (fun s₂ ic => ?_) (by rw [hscope]) (by rw [hscope]) hkF)
  obtain ⟨h₂, tk₂, rfl⟩ := ic.toInCall.same
  have x₂ : Ext C noOwn W₁ (W₁.withHeap h₂ tk₂) := Ext.grow tk₂ ic.toInCall.keep
  have H₂ : HR C (W₁.withHeap h₂ tk₂) := H₁.grow tk₂ ic.toInCall.keep
  have nL : W₁.h.get? W₁.h.objs.size = none := Heap.get?_none_of_le (Nat.le_refl _)
  have outL : C.out W₁.h.objs.size := H₁.out nL
  have apL : ∀ n, n < W₁.nx → W₁.ι n ≠ W₁.h.objs.size := newAp H₁
  have S₂ := (S₁.ext x₂).push (env := callEnvC fd W₁.h.objs.size 228) hkF rfl outL apL ic.toInCall.ns
  let env₁ := callEnvC fd W₁.h.objs.size 228
  have hkd : (callEnvC fd W₁.h.objs.size 228).kindOf (PySem.Str.ofString "deed") = some .local := hkdeed
  have hkc : (callEnvC fd W₁.h.objs.size 228).kindOf (PySem.Str.ofString "caught") = some .local := (hsc _).trans (by decide +kernel)
  have hkB : (callEnvC fd W₁.h.objs.size 228).kindOf (sname "BasicError") = some .globalImplicit := (hsc _).trans (by decide +kernel)
  have F₂ : FR C (callEnvC fd W₁.h.objs.size 228) (A.deeper (callEnvC fd W₁.h.objs.size 228)) (W₁.withHeap h₂ tk₂) [] := by
    refine ⟨hkF, hglob, hblt, ⟨_, ic.toInCall.ns, fun x v e hl => by cases e⟩, fun x v e hl => (by cases e), ⟨outL, apL⟩, fun y c hc => ?_, fun y z c h1 h2 => name_of_addr ic.apart (mem_of_lookup h1) (mem_of_lookup h2), fun y hy => cellsFrom_some _ _ _ (.inl hy), ⟨_, S₂⟩⟩
    have hgt := ic.above y c (mem_of_lookup hc)
    exact ⟨H₁.out (Heap.get?_none_of_le (Nat.le_of_lt hgt)), Nat.ne_of_gt hgt, fun n hn => let ⟨_, e⟩ := H₁.below n hn; Nat.ne_of_lt (Nat.lt_trans (Heap.lt_size e) hgt), _, ic.cell y c hc⟩
  have hdeed : bindL (callEnvC fd W₁.h.objs.size 228).kindOf [(PySem.Str.ofString "deed", Value.ref f)] (fun _ => none) (PySem.Str.ofString "deed") = some (.ref f) := by
    show (if (callEnvC fd W₁.h.objs.size 228).kindOf (PySem.Str.ofString "deed") = some NameKind.local then (fun z => if z = (PySem.Str.ofString "deed") then some (Value.ref f) else none) else (fun _ => none)) (PySem.Str.ofString "deed") = _
    rw [if_pos hkd]; exact if_pos rfl
  have R₂ : Room (A.deeper (callEnvC fd W₁.h.objs.size 228)) (k + 1) := H.room.deeper _
  have hintr : interactive (callEnvC fd W₁.h.objs.size 228) = false := by
    have hkE : (callEnvC fd W₁.h.objs.size 228).scope.kind = .function := hkF
    unfold interactive; rw [hkE]; rfl
  have X₂ : Ext C (fun b => W.h.get? b = none) W (W₁.withHeap h₂ tk₂) := X₁.trans (x₂.mono fun _ _ _ h => h.elim)
  have hf₂ := ic.toInCall.keep _ _ hf₁
  have hcr₂ := hcr₁.keeps ic.toInCall.keep
  -- the end of it
  have fin : ∀ {v : V} {y : Value} {σ' : AH} {W' : Wd}, K C (fun b => W.h.get? b = none) vrel (.ok v σ') W Q E → Ext C (fun b => W.h.get? b = none) W W' → HR C W' → W'.σ = σ' → W'.VR v y → Q y W'.s := fun k x H e r => k _ _ x H e r
  refine PySem.wpAny_execs_cons (wpAny_Try_except (PySem.wpAny_execs_cons (PySem.wpAny_Expr_any ?_ hintr rfl)))
  show wpAny _ _ (do callWith a2 (← eval (.Name (PySem.Str.ofString "deed") a1) (callEnvC fd W₁.h.objs.size 228)) [] [] []) _ _ _
  refine wpAny_bind (wpAny_Name (wpAny_loadName_local (s := (W₁.withHeap h₂ tk₂).s) hkF hkd ic.toInCall.ns hdeed ?_) (by decide +kernel))
  refine callWith_of (P := fun hp => hp.get? f = some (kla_obj "<lambda>" t.qual noParams body lscope clos pm c' ctv)) rfl (fun hp hP => ⟨.frame, .inl rfl, (Looks.ld (part := none) hP).andThen .now⟩) (evalArgs_nil3 ⟨hf₂, ?_⟩)
  refine wpAny_call (kla_callFunE (fd := kla_fn "<lambda>" t.qual noParams body lscope clos pm (.ref c') ctv) (by have := R₂.depth; show (A.deeper (callEnvC fd W₁.h.objs.size 228)).depth < _; lia) hf₂ rfl hco hgen rfl hcr₂ ?_)
  have hb0 : bindArgs (kla_fn "<lambda>" t.qual noParams body lscope clos pm (.ref c') ctv) ⟨[] ++ [], []⟩ = pure [] := rfl
  rw [hb0]
  refine wpAny_pure (wpAny_newFunctionEnv hcell (by intro y hy; cases hy) (fun h₃ hns₃ hsb₃ => ⟨H₂.nolimit.fresh _ hsb₃, kla_codeExpr ?_⟩) hkind)
  have kp₃ : ∀ b o, h₂.get? b = some o → h₃.get? b = some o := fun b o e => hsb₃.extBut b o (Nat.ne_of_lt (Heap.lt_size e)) (Heap.get?_push_of_some _ e)
  have x₃ : Ext C noOwn (W₁.withHeap h₂ tk₂) ((W₁.withHeap h₂ tk₂).withHeap h₃ tk₂) := Ext.grow (W := W₁.withHeap h₂ tk₂) _ kp₃
  have H₃ : HR C ((W₁.withHeap h₂ tk₂).withHeap h₃ tk₂) := HR.grow (W := W₁.withHeap h₂ tk₂) H₂ _ kp₃
  have nL₃ : h₂.get? h₂.objs.size = none := Heap.get?_none_of_le (Nat.le_refl _)
  have outL₃ : C.out h₂.objs.size := H₂.out nL₃
  have apL₃ : ∀ n, n < W₁.nx → W₁.ι n ≠ h₂.objs.size := newAp H₂
  have S₃ := (S₂.ext x₃).push (env := envX t.qual lscope h₂.objs.size f (.ref c') clos) (A := A.deeper (callEnvC fd W₁.h.objs.size 228)) hkind rfl outL₃ apL₃ hns₃
  have X₃ : Ext C (fun b => W.h.get? b = none) W ((W₁.withHeap h₂ tk₂).withHeap h₃ tk₂) := X₂.trans (x₃.mono fun _ _ _ h => h.elim)
  have Fo : FR C env A ((W₁.withHeap h₂ tk₂).withHeap h₃ tk₂) ρ := (F₁.ext H₁ x₂).ext H₂ x₃
  have F₃ : FR C (envX t.qual lscope h₂.objs.size f (.ref c') clos) ((A.deeper (callEnvC fd W₁.h.objs.size 228)).deeper (envX t.qual lscope h₂.objs.size f (.ref c') clos)) ((W₁.withHeap h₂ tk₂).withHeap h₃ tk₂) (cap fv ρ) :=
    lamFR H.sc.1 Fo hkind hfv hcell hfree hc1 hc2 hns₃ outL₃ apL₃ (fun y c hc q => by
      obtain ⟨_, _, _, v, o, e, _⟩ := (F₁.ext H₁ x₂).celAp y c hc
      have e' : h₂.get? c = some o := e
      rw [q, nL₃] at e'; cases e') ⟨_, S₃⟩
  have hcok : C.codeOk lscope (.ref c') (t.qual ++ ".<locals>.") := fun _ t' ht' q => absurd (by rw [q]) (hnoTab t' ht')
  have eσ : ((W₁.withHeap h₂ tk₂).withHeap h₃ tk₂).σ = W.σ := e₁
  have tk0 : (W₁.withHeap h₂ tk₂).s.toks + ([] : List (PySem.Str × Value)).length = tk₂ := rfl
  show wpAny _ _ _ _ _ ((W₁.withHeap h₂ tk₂).withHeap h₃ tk₂).s
  refine hb _ _ ((W₁.withHeap h₂ tk₂).withHeap h₃ tk₂) _ ⟨⟨rfl, hcok⟩, R₂.deeper _, H₃, F₃⟩ _ _ ?_
  rw [eσ]
  unfold eLaw at hk₀
  generalize ((W₁.withHeap h₂ tk₂).withHeap h₃ tk₂) = W₃ at x₃ H₃ S₃ X₃ F₃ Fo
  cases hr : fb (cap fv ρ) W.σ with
  | fail => rw [hr] at hk₀; exact hk₀.elim
  | ok v σ' =>
    rw [hr] at hk₀
    intro y W₄ x₄ H₄ e₄ r₄
    refine PySem.wpAny_execs_nil (PySem.wpAny_execs_nil (PySem.wpAny_execs_cons (PySem.wpAny_Return_some (wpAny_Constant_str ?_))))
    refine fin (W' := W₄.withHeap W₄.h (W₄.s.toks + 1)) hk₀ ((X₃.trans (x₄.mono fun _ _ _ h => h.elim)).trans (Ext.grow _ fun _ _ e => e)) (H₄.grow _ fun _ _ e => e) e₄ ?_
    show Wd.VR _ (.str []) (.str (sname "") _)
    rw [sname_codes]
    exact .str _ _
  | exc c σ' =>
    rw [hr] at hk₀
    intro e W₄ x₄ H₄ e₄ fy
    have X₄ : Ext C (fun b => W.h.get? b = none) W W₄ := X₃.trans (x₄.mono fun _ _ _ h => h.elim)
    have x₂₄ : Ext C (fun b => h₂.get? b = none) (W₁.withHeap h₂ tk₂) W₄ := (x₃.mono fun _ _ _ h => h.elim).trans (x₄.mono fun _ _ _ h => h.elim)
    have fy₂ : Fly C W₄ h₂ e c := fy.weak fun _ => x₃.unborn
    refine leaveFly (lo := h₂) rfl (S₃.ext x₄) H₄ fy₂ (fun _ => x₂₄.unborn) fun W₅ x₅ H₅ e₅ _ fy₅ => ?_
    have x₂₅ : Ext C (fun b => h₂.get? b = none) (W₁.withHeap h₂ tk₂) W₅ := x₂₄.trans x₅
    have x₂₅n : Ext C noOwn (W₁.withHeap h₂ tk₂) W₅ := x₂₅.mono fun b o e h => by
      have e' : h₂.get? b = some o := e
      rw [h] at e'; cases e'
    refine catchFly (W₀ := W₁.withHeap h₂ tk₂) (ρ := []) (outer := outer) X LF.exc rfl (S₂.ext x₂₅n) H₅ (F₂.ext H₂ x₂₅n) F₂ (fun _ => x₂₅.unborn) fy₅ hkB hkc fun y W₆ x₆ H₆ e₆ r₆ => ?_
    have X₆ : Ext C (fun b => W.h.get? b = none) W W₆ := X₂.trans ((x₂₅n.mono fun _ _ _ h => h.elim).trans (x₆.mono fun b _ _ h => h.elim (fun h => X₂.unborn h) fun h => by subst h; exact X₁.unborn nL))
    exact fin hk₀ X₆ H₆ (e₆.trans (e₅.trans e₄)) r₆
end
/-! ## Space(...) -/
@[reducible] noncomputable def Wd.new2 (W : Wd) (h : Heap) (tk : Nat) (x dx : Addr) : Wd := ⟨fun n => if n = W.nx then x else if n = W.nx + 1 then dx else W.ι n, W.σ ++ [.inst [], .shadow], { W.s with heap := h, toks := tk }⟩
theorem nx_new2 (W : Wd) (h : Heap) (tk : Nat) (x dx : Addr) : (W.new2 h tk x dx).nx = W.nx + 2 := by simp [Wd.nx]
section
variable {C : Cx} {k : Nat} {sc : Scope}
theorem Ext.new2 {own : Addr → Prop} {W : Wd} {h : Heap} {x dx : Addr} (tk : Nat) (hx : W.h.get? x = none) (hdx : W.h.get? dx = none) (kp : ∀ b o, W.h.get? b = some o → h.get? b = some o) : Ext C own W (W.new2 h tk x dx) :=
  ⟨⟨h, tk, rfl⟩, fun b o e => ⟨o, kp b o e⟩, by rw [nx_new2]; lia, fun n hn => by
    show (if n = W.nx then x else if n = W.nx + 1 then dx else W.ι n) = _
    rw [if_neg (Nat.ne_of_lt hn), if_neg (by lia)], fun n h1 h2 => by
    show W.h.get? (if n = W.nx then x else if n = W.nx + 1 then dx else W.ι n) = none
    by_cases e : n = W.nx
    · rw [if_pos e]; exact hx
    · rw [if_neg e, if_pos (by rw [nx_new2] at h2; lia)]; exact hdx, fun b o e _ _ _ => ⟨o, kp b o e, .refl o⟩, fun b o e _ _ h => ⟨o, kp b o e, h⟩⟩

theorem HR.new2 {W : Wd} (H : HR C W) {h : Heap} {x dx : Addr} (tk : Nat) (hx : W.h.get? x = none) (hdx : W.h.get? dx = none) (hne : x ≠ dx) (kp : ∀ b o, W.h.get? b = some o → h.get? b = some o)
    (h1 : h.get? x = some (instObj C.spaceC dx)) (h2 : h.get? dx = some (dictOf [] 0)) : HR C (W.new2 h tk x dx) := by
  have xx : Ext C noOwn W (W.new2 h tk x dx) := Ext.new2 tk hx hdx kp
  have hlen : (W.new2 h tk x dx).nx = W.nx + 2 := nx_new2 ..
  have i0 : (W.new2 h tk x dx).ι W.nx = x := if_pos rfl
  have i1 : (W.new2 h tk x dx).ι (W.nx + 1) = dx := by
    show (if W.nx + 1 = W.nx then x else if W.nx + 1 = W.nx + 1 then dx else _) = _
    rw [if_neg (by lia), if_pos rfl]
  have live : ∀ {n}, n < W.nx → ∀ a, W.h.get? a = none → W.ι n ≠ a := fun hn a ha q => by
    obtain ⟨o, e⟩ := H.below _ hn
    rw [q, ha] at e; cases e
  have cases3 : ∀ n, n < W.nx + 2 → n < W.nx ∨ n = W.nx ∨ n = W.nx + 1 := fun n hn => by lia
  refine ⟨fun b o e => kp b o (H.keep b o e), fun n o e => ?_, fun n m hn hm e => ?_, fun n hn => ?_, fun n hn => ?_, tabs_keep H fun b o e _ => kp b o e⟩
  · have hn : n < W.nx + 2 := by rw [← hlen]; exact lt_of_get e
    rcases cases3 n hn with hn | rfl | rfl
    · rw [show (W.new2 h tk x dx).σ = W.σ ++ [.inst [], .shadow] from rfl, List.getElem?_append_left hn] at e
      refine OR.keep (W := W) (h := H.obj n o e) xx.same (fun _ _ => VR.up xx H) hn (fun b _ ob q => kp b ob q) ?_
      rintro ⟨fs, rfl⟩
      obtain ⟨_, _, h0, _⟩ := H.obj n _ e
      rw [show (W.new2 h tk x dx).σ = W.σ ++ [.inst [], .shadow] from rfl, List.getElem?_append_left (lt_of_get h0)]; exact h0
    · rw [show (W.new2 h tk x dx).σ = W.σ ++ [.inst [], .shadow] from rfl, List.getElem?_append_right (Nat.le_refl _), Nat.sub_self] at e
      cases e
      refine ⟨[], 0, ?_, by rw [i0, i1]; exact h1, by rw [i1]; exact h2, .nil⟩
      rw [show (W.new2 h tk x dx).σ = W.σ ++ [.inst [], .shadow] from rfl, List.getElem?_append_right (Nat.le_succ _)]
      simp [Wd.nx]
    · rw [show (W.new2 h tk x dx).σ = W.σ ++ [.inst [], .shadow] from rfl, List.getElem?_append_right (Nat.le_succ _)] at e
      have : W.nx + 1 - W.σ.length = 1 := by simp [Wd.nx]
      rw [this] at e
      cases e
      trivial
  · rw [hlen] at hn hm
    rcases cases3 n hn with hn | rfl | rfl <;> rcases cases3 m hm with hm | rfl | rfl
    · rw [xx.same n hn, xx.same m hm] at e; exact H.inj n m hn hm e
    · rw [xx.same n hn, i0] at e; exact absurd e (live hn _ hx)
    · rw [xx.same n hn, i1] at e; exact absurd e (live hn _ hdx)
    · rw [xx.same m hm, i0] at e; exact absurd e.symm (live hm _ hx)
    · rfl
    · rw [i0, i1] at e; exact absurd e hne
    · rw [xx.same m hm, i1] at e; exact absurd e.symm (live hm _ hdx)
    · rw [i0, i1] at e; exact absurd e.symm hne
    · rfl
  · rw [hlen] at hn
    rcases cases3 n hn with hn | rfl | rfl
    · rw [xx.same n hn]; exact H.above n hn
    · rw [i0]; exact H.out hx
    · rw [i1]; exact H.out hdx
  · rw [hlen] at hn
    rcases cases3 n hn with hn | rfl | rfl
    · rw [xx.same n hn]; obtain ⟨o, e⟩ := H.below n hn; exact ⟨o, kp _ _ e⟩
    · rw [i0]; exact ⟨_, h1⟩
    · rw [i1]; exact ⟨_, h2⟩

noncomputable def eNew (F : List V → AH → Res V) (l : LA) : EA := fun ρ σ => (l ρ σ).bind fun vs σ => (F (.ref σ.length :: vs) (σ ++ [.inst [], .shadow])).bind fun r σ' => match r with
  | .none => .ok (.ref σ.length) σ'
  | _ => .fail
theorem VR.none_is {ι nx h} {y : Value} (r : VR ι nx h .none y) : y = .none := by cases r; rfl
theorem SE_new {j : Nat} {x : String} {fI : Addr} {F : List V → AH → Res V} {e : Expr} {r : List Expr} {l : LA} {p pn : Pos} (hF : FJ C j fI F) (hl : SL C k sc (e :: r) l) (hj : j + 1 ≤ k) (hg : sc.names.lookup (sname x) = some .globalImplicit)
    (hm : nsIn C.K mainGlobals (sname x) = some (some (.ref C.spaceC))) (hkeep : keepIn C.K (.ref C.spaceC) = true) (hmk : makesIn C.K C.spaceC = true) (hi : findIn C.K (.ref C.spaceC) "__init__" = some (some (.ref fI))) (hft : typeIn C.K (.ref fI) = some (.type "function")) (hd : (sname x == ("__debug__" : PySem.Str)) = false)
    (he : ∀ env, starEach (e :: r) env = (false, eval e env) :: starEach r env := by intro _; rfl) (hp : ∀ env, (backTo p (starEach r env)).any (·.1) = false := by intro _; rfl) :
    SE C k sc (.Call (.Name (PySem.Str.ofString x) pn) (e :: r) [] p) (eNew F l) := fun env A W ρ H Q E hk => by
  show wpAny _ A (do callWith p (← eval (.Name (PySem.Str.ofString x) pn) env) [] (backTo p (starEach (e :: r) env)) (backToKw p (keywordEach [] env))) Q E W.s
  refine wpAny_bind (globalName H hg hm hd ?_)
  show wpAny _ A (callWith p (.ref C.spaceC) [] (backTo p (starEach (e :: r) env)) []) Q E W.s
  refine callWith_K C.X hkeep (hl env A W ρ p H _ _ (K.bind hk (fun _ => id) fun xs vs σ₁ W₁ _ x₁ H₁ _ r₁ hk₁ => ⟨C.X.keeps H₁.keep, ?_⟩)) (he env) (hp env)
  have X := C.X.keeps H₁.keep
  refine wpAny_call ?_
  show codeAny _ _ _ _ ⟨W₁.s.heap, W₁.s.gens, W₁.s.drawn, W₁.s.toks, W₁.s.os⟩
  refine make_core (makes_of X hmk) (looks_findIn X hi) (fun self => bind_fn X self hft) (.inl rfl) ?_
  have kp : ∀ b o, W₁.h.get? b = some o → ((W₁.h.push emptyDict).push (instObj C.spaceC W₁.h.objs.size)).get? b = some o := fun b o e => Heap.get?_push_of_some _ (Heap.get?_push_of_some _ e)
  have nd : W₁.h.get? W₁.h.objs.size = none := Heap.get?_none_of_le (Nat.le_refl _)
  have nx' : W₁.h.get? (W₁.h.objs.size + 1) = none := Heap.get?_none_of_le (Nat.le_succ _)
  have hgd : ((W₁.h.push emptyDict).push (instObj C.spaceC W₁.h.objs.size)).get? W₁.h.objs.size = some emptyDict := Heap.get?_push_of_some _ (Heap.get?_push_size _ rfl)
  have hgx : ((W₁.h.push emptyDict).push (instObj C.spaceC W₁.h.objs.size)).get? (W₁.h.objs.size + 1) = some (instObj C.spaceC W₁.h.objs.size) := by
    have := Heap.get?_push_size (W₁.h.push emptyDict) (o := instObj C.spaceC W₁.h.objs.size) rfl
    rwa [Heap.size_push] at this
  have x₂ : Ext C noOwn W₁ (W₁.new2 ((W₁.h.push emptyDict).push (instObj C.spaceC W₁.h.objs.size)) W₁.s.toks (W₁.h.objs.size + 1) W₁.h.objs.size) := Ext.new2 _ nx' nd kp
  have H₂ : HR C (W₁.new2 ((W₁.h.push emptyDict).push (instObj C.spaceC W₁.h.objs.size)) W₁.s.toks (W₁.h.objs.size + 1) W₁.h.objs.size) := H₁.new2 _ nx' nd (Nat.succ_ne_self _) kp hgx hgd
  have i0 : (W₁.new2 ((W₁.h.push emptyDict).push (instObj C.spaceC W₁.h.objs.size)) W₁.s.toks (W₁.h.objs.size + 1) W₁.h.objs.size).ι W₁.nx = W₁.h.objs.size + 1 := if_pos rfl
  have hlt : W₁.nx < (W₁.new2 ((W₁.h.push emptyDict).push (instObj C.spaceC W₁.h.objs.size)) W₁.s.toks (W₁.h.objs.size + 1) W₁.h.objs.size).nx := by rw [nx_new2]; lia
  have rx : (W₁.new2 ((W₁.h.push emptyDict).push (instObj C.spaceC W₁.h.objs.size)) W₁.s.toks (W₁.h.objs.size + 1) W₁.h.objs.size).VR (.ref W₁.nx) (.ref (W₁.h.objs.size + 1)) := by
    have := VR.ref (ι := (W₁.new2 ((W₁.h.push emptyDict).push (instObj C.spaceC W₁.h.objs.size)) W₁.s.toks (W₁.h.objs.size + 1) W₁.h.objs.size).ι) (h := (W₁.new2 ((W₁.h.push emptyDict).push (instObj C.spaceC W₁.h.objs.size)) W₁.s.toks (W₁.h.objs.size + 1) W₁.h.objs.size).h) W₁.nx hlt
    rw [i0] at this
    exact this
  have hA : Room (A.under (.builtin "type.__call__" ⟨.ref C.spaceC :: ([] ++ xs), []⟩)) j := by
    have w1 : (Code.builtin "type.__call__" ⟨.ref C.spaceC :: ([] ++ xs), []⟩).weight = 1 := by kernel_rfl
    have u1 : (Code.builtin "type.__call__" ⟨.ref C.spaceC :: ([] ++ xs), []⟩).cUnits = 1 := by kernel_rfl
    refine ⟨?_, ?_, H.room.hand⟩
    · show A.depth + (Code.builtin "type.__call__" ⟨.ref C.spaceC :: ([] ++ xs), []⟩).weight + j < _
      have := H.room.depth; lia
    · show A.units + (Code.builtin "type.__call__" ⟨.ref C.spaceC :: ([] ++ xs), []⟩).cUnits + 5 * j + 100 < _
      have := H.room.units; lia
  obtain ⟨outer, S⟩ := H.fr.stk
  have S₂ : Stk C (A.under (.builtin "type.__call__" ⟨.ref C.spaceC :: ([] ++ xs), []⟩)) (W₁.new2 ((W₁.h.push emptyDict).push (instObj C.spaceC W₁.h.objs.size)) W₁.s.toks (W₁.h.objs.size + 1) W₁.h.objs.size) outer := by
    obtain ⟨e1, e2⟩ := (S.ext x₁).ext x₂
    refine ⟨?_, e2⟩
    show pushEnvs (Code.builtin "type.__call__" ⟨.ref C.spaceC :: ([] ++ xs), []⟩).envs A.frames = _
    have : (Code.builtin "type.__call__" ⟨.ref C.spaceC :: ([] ++ xs), []⟩).envs = [] := by kernel_rfl
    rw [this]; exact e1
  have hcall := hF _ _ (.ref W₁.nx :: vs) (.ref (W₁.h.objs.size + 1) :: ([] ++ xs)) hA H₂ ⟨outer, S₂⟩ (.cons _ _ _ _ rx (VsR.up x₂ H₁ r₁)) (fun v s' => v = .none ∧ Q (.ref (W₁.h.objs.size + 1)) s') E (K.bind (hk₁.shift x₂) (fun _ => id) fun a b σ₃ W₃ _ x₃ H₃ _ r₃ hk₃ => by
    split at hk₃
    · refine ⟨VR.none_is r₃, hk₃.here H₃ ?_⟩
      have := VR.up x₃ H₂ rx
      exact this
    · exact hk₃.elim)
  refine codeAny_mono hcall fun r s' z => ?_
  rcases r with e | (v | _ | _ | _) <;> first | exact z | exact z.elim
end
/-! ## sorted, of pairs of ints -/
noncomputable def ltP (a b : Int × Int) : Bool := if a.1 = b.1 then decide (a.2 < b.2) else decide (a.1 < b.1)
noncomputable def kRun {α : Type} (lt : Nat → Nat → Bool) (n : Nat) : KasT α → Option α
  | .ret a => some a
  | .ask i j k => if i < n ∧ j < n then kRun lt n (k (lt i j)) else none
noncomputable def prOf : V → Option (Int × Int)
  | .tup [.int a, .int b] => some (a, b)
  | _ => none
noncomputable def prsOf : List V → Option (List (Int × Int))
  | [] => some []
  | v :: r => match prOf v, prsOf r with
    | some a, some l => some (a :: l)
    | _, _ => none
noncomputable def vSorted (l : List V) (ps : List (Int × Int)) : Option (List V) :=
  if l.length < 2 then some l else (kRun (fun i j => ltP (ps.getD i (0, 0)) (ps.getD j (0, 0))) l.length (kas_sort l.length)).map fun p => p.toList.map fun i => l.getD i .none
noncomputable def bSorted : List V → AH → Res V := fun vs σ => match vs with
  | [v] => match listAt σ v with
    | some l => match prsOf l with
      | some ps => if l.length < 64 then (match vSorted l ps with
        | some l' => .ok (.lst l') σ
        | none => .fail) else .fail
      | none => .fail
    | none => .fail
  | _ => .fail

inductive PrsR (h : Heap) : List (Int × Int) → List Value → Prop
  | nil : PrsR h [] []
  | cons (a b : Int) (t u : Tok) (ad : Addr) (ep : Nat) (l : List (Int × Int)) (vs : List Value) (ho : h.get? ad = some { cls := .type "tuple", data := .seq #[.int a t, .int b u] ep }) (hr : PrsR h l vs) : PrsR h ((a, b) :: l) (.ref ad :: vs)
theorem PrsR.keep {h h' : Heap} (k : ∀ b xs n, h.get? b = some { cls := .type "tuple", data := .seq xs n } → h'.get? b = some { cls := .type "tuple", data := .seq xs n }) : ∀ {ps vs}, PrsR h ps vs → PrsR h' ps vs := fun {ps vs} h => by
  cases h with
  | nil => exact .nil
  | cons a b t u ad ep l vs ho hr => exact .cons a b t u ad ep l vs (k _ _ _ ho) (PrsR.keep k hr)
theorem PrsR.get {h : Heap} : ∀ {ps vs}, PrsR h ps vs → ∀ i, i < vs.length → ∃ a b t u ad ep, ps.getD i (0, 0) = (a, b) ∧ vs.getD i Value.none = .ref ad ∧ h.get? ad = some { cls := .type "tuple", data := .seq #[.int a t, .int b u] ep } := fun {ps vs} h i hi => by
  cases h with
  | nil => simp at hi
  | cons a b t u ad ep l vs ho hr => cases i with
    | zero => exact ⟨a, b, t, u, ad, ep, rfl, rfl, ho⟩
    | succ i =>
      obtain ⟨a, b, t, u, ad, ep, h1, h2, h3⟩ := PrsR.get hr i (by simpa using hi)
      exact ⟨a, b, t, u, ad, ep, by simpa using h1, by simpa using h2, h3⟩
theorem PrsR.kat {h : Heap} : ∀ {ps vs}, PrsR h ps vs → ∃ fs, KatTups h vs fs ∧ fs.length = vs.length ∧ ∀ v ∈ fs, ∃ i t, v = Value.int i t := fun {ps vs} h => by
  cases h with
  | nil => exact ⟨[], .nil, rfl, by simp⟩
  | cons a b t u ad ep l vs ho hr =>
    obtain ⟨fs, h1, h2, h3⟩ := hr.kat
    exact ⟨.int a t :: fs, .cons ho rfl rfl rfl h1, by simp [h2], by
      intro v hv
      rcases List.mem_cons.mp hv with rfl | hv
      · exact ⟨a, t, rfl⟩
      · exact h3 v hv⟩
theorem VsR.prs {W : Wd} : ∀ {l : List V} {vs : List Value} {ps : List (Int × Int)}, W.VsR l vs → prsOf l = some ps → PrsR W.h ps vs := fun {l vs ps} h e => by
  cases h with
  | nil => cases e; exact .nil
  | cons v x l xs hv hs =>
    unfold prsOf at e
    split at e
    · rename_i a l' h1 h2
      cases e
      unfold prOf at h1
      split at h1
      · cases h1
        cases hv with
        | tup _ vs ad ep ho ha hvs =>
        cases hvs with
        | cons _ _ _ _ r1 hvs =>
        cases r1
        cases hvs with
        | cons _ _ _ _ r2 hvs =>
        cases r2
        cases hvs
        exact .cons _ _ _ _ _ ep _ _ ho (VsR.prs hs h2)
      · cases h1
    · cases e

section
variable {prog : Program} {w : World} {A : Around} {E : Value → Shared → Prop} {s : Shared}
theorem ask_pr {ps : List (Int × Int)} {vs : List Value} (R : PrsR s.heap ps vs) {i j : Nat} (hi : i < vs.length) (hj : j < vs.length) {Q : Bool → Shared → Prop} (h : Q (ltP (ps.getD i (0, 0)) (ps.getD j (0, 0))) s) :
    kas_ask prog w A (tuples' true) vs i j Q s := by
  refine hide fun X_ k_ => ?_
  obtain ⟨a, b, t, u, x, ep, e1, e2, e3⟩ := R.get i hi
  obtain ⟨c, d, t', u', y, ep', f1, f2, f3⟩ := R.get j hj
  refine k_ ?_
  clear k_ X_
  unfold kas_ask
  rw [e2, f2]
  rw [e1, f1] at h
  refine kat_lt e3 rfl f3 rfl ?_
  show KatLex prog w A true false Q [(Value.int a t, Value.int c t'), (Value.int b u, Value.int d u')] 0 s
  refine kat_cons (wpAny_eqBool_int ?_)
  unfold ltP at h
  dsimp only at h
  by_cases q : a = c
  · rw [if_pos q] at h
    rw [show (a == c) = true by simpa using q]
    refine kat_yes (kat_cons (wpAny_eqBool_int ?_))
    by_cases q2 : b = d
    · rw [show (b == d) = true by simpa using q2]
      refine kat_yes (kat_nil ?_)
      rw [show decide (b < d) = false by simp [q2]] at h
      exact h
    · rw [show (b == d) = false by simpa using q2]
      exact kat_no (kat_one _ _ (lt_int h))
  · rw [if_neg q] at h
    rw [show (a == c) = false by simpa using q]
    exact kat_no (oneLt_int h)
theorem kRun_wp {ps : List (Int × Int)} {vs : List Value} (R : PrsR s.heap ps vs) {α : Type} {Q : α → Shared → Prop} : ∀ (t : KasT α) {a : α}, kRun (fun i j => ltP (ps.getD i (0, 0)) (ps.getD j (0, 0))) vs.length t = some a → Q a s → t.kasWp (kas_ask prog w A (tuples' true) vs) Q s
  | .ret _, _, e, h => by cases e; exact h
  | .ask i j k, a, e, h => by
    unfold kRun at e
    split at e
    · rename_i hij
      exact ask_pr R hij.1 hij.2 (kRun_wp R _ e h)
    · cases e

theorem sort_prs {a : Addr} {vs : List Value} {ps : List (Int × Int)} {n : Nat} {p : Array Nat} {P : Fin → Shared → Prop} (ho : s.heap.get? a = some (seqObj "list" vs.toArray n)) (R : PrsR s.heap ps vs) (h2 : 2 ≤ vs.length) (h64 : vs.length < 64)
    (e : kRun (fun i j => ltP (ps.getD i (0, 0)) (ps.getD j (0, 0))) vs.length (kas_sort vs.length) = some p)
    (h : P (.done (.ret .none)) { s with heap := sortedHeap s.heap a vs (p.toList.map fun i => vs.getD i Value.none).toArray }) :
    wpAny (model prog w) A (Builtin.«list.sort» ⟨[.ref a], []⟩) P E s := by
  rw [list_sort_plain]
  have ha : a < s.heap.objs.size := Heap.lt_size ho
  refine wpAny_bind (listItems_at ho rfl ?_)
  refine wpAny_bind (listUpdate_at ho rfl ?_ (by rw [List.size_toArray, sizeLine_eq]; lia) (Nat.zero_le _))
  obtain ⟨e1, ho1⟩ : ∃ e1, (s.heap.update a (Obj.mapSeq fun _ => #[])).get? a = some (seqObj "list" #[] e1) := ⟨_, get?_update_seq ho (fun _ => #[])⟩
  refine wpAny_bind (seqEpoch_at ho1 rfl ?_)
  refine wpAny_bind (wpAny_newTuple ?_ (by show vs.length ≤ _; rw [sizeLine_eq]; lia))
  refine wpAny_bind (wpAny_newList ?_ (Nat.zero_le _))
  refine wpAny_holding ?_
  have ho6 : (((s.heap.update a (Obj.mapSeq fun _ => #[])).push (seqObj "tuple" vs.toArray 0)).push (seqObj "list" #[] 0)).get? a = some (seqObj "list" #[] e1) := by
    rw [Heap.get?_push_ne _ _ _ (by rw [size_push', Heap.size_update]; exact Nat.ne_of_lt (Nat.lt_succ_of_lt ha)), Heap.get?_push_ne _ _ _ (by rw [Heap.size_update]; exact Nat.ne_of_lt ha)]
    exact ho1
  show wpAny (model prog w) A _ P E { s with heap := ((s.heap.update a (Obj.mapSeq fun _ => #[])).push (seqObj "tuple" vs.toArray 0)).push (seqObj "list" #[] 0) }
  have R6 : PrsR (((s.heap.update a (Obj.mapSeq fun _ => #[])).push (seqObj "tuple" vs.toArray 0)).push (seqObj "list" #[] 0)) ps vs := R.keep fun b xs m g => by
    have hne : b ≠ a := by
      rintro rfl
      rw [ho] at g
      have q : Value.type "list" = Value.type "tuple" := congrArg Obj.cls (Option.some.inj g)
      injection q with q
      exact absurd q (by decide)
    refine Heap.get?_push_of_some _ (Heap.get?_push_of_some _ ?_)
    rw [Heap.get?_update_ne _ _ _ _ hne]
    exact g
  dsimp only
  have hn2 : ¬ vs.toArray.size < 2 := by rw [List.size_toArray]; lia
  rw [if_neg hn2, if_neg hn2]
  obtain ⟨fs, k1, k2, k3⟩ := R6.kat
  refine wpAny_bind (kat_kind (T := .type "int") k1 (by lia) (fun v hv => ?_) rfl ?_)
  · obtain ⟨i, t, rfl⟩ := k3 v hv
    exact fun A Q E s _ q => wpAny_typeOf (typeIs_int s i t) q
  refine wpAny_bind (wpAny_mono (kat_run (ks := vs) (vs := vs) (Q := fun st' s' => s' = { s with heap := ((s.heap.update a (Obj.mapSeq fun _ => #[])).push (seqObj "tuple" vs.toArray 0)).push (seqObj "list" #[] 0) } ∧ p.size = vs.length ∧ arrOf st' = p.map (kas_item (vs.toArray.zip vs.toArray)) ∧ failedOf st' = none)
    (G := fun p' s' => s' = { s with heap := ((s.heap.update a (Obj.mapSeq fun _ => #[])).push (seqObj "tuple" vs.toArray 0)).push (seqObj "list" #[] 0) } ∧ p' = p)
    rfl h2 h64 (fun p' st' s' a1 a2 a3 a4 => by obtain ⟨rfl, rfl⟩ := a4; exact ⟨rfl, a1, a2, a3⟩)
    (kRun_wp (s := { s with heap := ((s.heap.update a (Obj.mapSeq fun _ => #[])).push (seqObj "tuple" vs.toArray 0)).push (seqObj "list" #[] 0) }) R6 _ e ⟨rfl, rfl⟩)) ?_ fun _ _ e => e)
  rintro ⟨⟨⟩, st'⟩ s' ⟨rfl, hp, har, hf⟩
  dsimp only at hp har hf ⊢
  have e6 : (arrOf st').map (·.2) = (p.toList.map fun i => vs.getD i Value.none).toArray := kat_snds rfl har
  refine wpAny_bind (seqEpoch_at ho6 rfl ?_)
  refine wpAny_bind (listUpdate_at ho6 rfl ?_ (Nat.zero_le _) (by rw [e6, List.size_toArray, List.length_map, Array.length_toList, hp, sizeLine_eq]; lia))
  rw [hf]
  simp only [bne_self_eq_false, Bool.false_eq_true, if_false]
  refine wpAny_pure ?_
  rw [e6]
  exact h
end
theorem sortedHeap_keep {h : Heap} {a : Addr} {vs : List Value} {out : Array Value} {b : Addr} {o : Obj} (hb : b ≠ a) (e : h.get? b = some o) : (sortedHeap h a vs out).get? b = some o := by
  unfold sortedHeap
  rw [Heap.get?_update_ne _ _ _ _ hb]
  exact Heap.get?_push_of_some _ (Heap.get?_push_of_some _ (by rw [Heap.get?_update_ne _ _ _ _ hb]; exact e))
theorem sortedHeap_at {h : Heap} {a : Addr} {vs xs : List Value} {n : Nat} {out : Array Value} (e : h.get? a = some (seqObj "list" xs.toArray n)) : ∃ ep, (sortedHeap h a vs out).get? a = some (listOf out ep) := by
  unfold sortedHeap
  have h1 := get?_update_seq e (fun _ => #[])
  exact ⟨_, get?_update_seq (Heap.get?_push_of_some (seqObj "list" #[] 0) (Heap.get?_push_of_some (seqObj "tuple" vs.toArray 0) h1)) (fun _ => out)⟩
theorem VsR.getD {W : Wd} : ∀ {l : List V} {vs : List Value}, W.VsR l vs → ∀ i, W.VR (l.getD i .none) (vs.getD i Value.none) := fun {l vs} h i => by
  cases h with
  | nil => exact .none
  | cons v x l xs hv hs => cases i with
    | zero => exact hv
    | succ i => simpa using VsR.getD hs i
theorem VsR.mapD {W : Wd} {l : List V} {vs : List Value} (r : W.VsR l vs) : ∀ is : List Nat, W.VsR (is.map fun i => l.getD i .none) (is.map fun i => vs.getD i Value.none)
  | [] => .nil
  | i :: is => .cons _ _ _ _ (r.getD i) (VsR.mapD r is)

theorem sortedB {C : Cx} : BJ C "sorted" bSorted := by
  intro k A W vs xs R H r Q E hk
  unfold bSorted at hk
  split at hk
  · rename_i v
    cases r with
    | cons _ x _ _ hv hs =>
    cases hs
    split at hk
    · rename_i l hl
      split at hk
      · rename_i ps hps
        split at hk
        · rename_i h64
          split at hk
          · rename_i l' hv'
            refine hide fun X_ k_ => ?_
            obtain ⟨a, ws, rfl, g1, g2⟩ := listAt_is H hv hl
            refine k_ ?_
            clear k_ X_
            have hlen := g2.length
            have R0 : PrsR W.h ps ws := g2.prs hps
            have hz : ((W.h.push (seqObj "list" #[] 0)).update W.h.objs.size (Obj.mapSeq (· ++ ws.toArray))).objs.size = W.h.objs.size + 1 := by
              rw [Heap.size_update, size_push']
            have hoL : (((W.h.push (seqObj "list" #[] 0)).update W.h.objs.size (Obj.mapSeq (· ++ ws.toArray))).push (seqObj "list" ws.toArray 0)).get? (W.h.objs.size + 1) = some (seqObj "list" ws.toArray 0) := by
              rw [← hz]; exact Heap.get?_push_size _ rfl
            have kp : ∀ b o, W.h.get? b = some o → (((W.h.push (seqObj "list" #[] 0)).update W.h.objs.size (Obj.mapSeq (· ++ ws.toArray))).push (seqObj "list" ws.toArray 0)).get? b = some o := fun b o q => by
              have hlt : b < W.h.objs.size := Heap.lt_size q
              refine Heap.get?_push_of_some _ ?_
              rw [Heap.get?_update_ne _ _ _ _ (Nat.ne_of_lt hlt)]
              exact Heap.get?_push_of_some _ q
            have fin : ∀ (out : List Value), (∀ W' : Wd, (∀ v y, W.VR v y → W'.VR v y) → W'.VsR l' out) → Q (.ref (W.h.objs.size + 1)) { W.s with heap := sortedAll W.h ws out.toArray } := fun out ho => by
              have gr : ∀ b o, W.h.get? b = some o → (sortedAll W.h ws out.toArray).get? b = some o := fun b o q => by
                unfold sortedAll
                exact sortedHeap_keep (Nat.ne_of_lt (Nat.lt_succ_of_lt (Heap.lt_size q))) (kp b o q)
              obtain ⟨ep, h1⟩ : ∃ ep, (sortedAll W.h ws out.toArray).get? (W.h.objs.size + 1) = some (listOf out.toArray ep) := sortedHeap_at hoL
              have x : Ext C noOwn W (W.withHeap (sortedAll W.h ws out.toArray) W.s.toks) := Ext.grow _ gr
              refine hk _ (W.withHeap (sortedAll W.h ws out.toArray) W.s.toks) x (H.grow _ gr) rfl ?_
              refine .lst _ out _ ep _ h1 rfl rfl (fun n hn q => ?_) (ho _ fun v y => VR.up x H)
              obtain ⟨o, e⟩ := H.below n hn
              have q' : W.ι n = W.h.objs.size + 1 := q
              have h9 := Heap.lt_size e
              rw [q'] at h9
              exact absurd h9 (Nat.not_lt.mpr (Nat.le_succ _))
            refine Calls.call_function_entry kind_sorted plain_sorted entry_sorted (args_sorted1 _) ?_
            unfold Builtin.«sorted»
            refine wpAny_bind (m := checkCount "sorted" 1 1 _) (wpAny_pure ?_)
            refine wpAny_bind (collect_list g1 ?_ (by rw [sizeLine_eq]; lia))
            refine wpAny_bind (wpAny_newList ?_ (by rw [sizeLine_eq]; lia))
            show wpAny _ _ _ _ _ { W.s with heap := ((W.h.push (seqObj "list" #[] 0)).update W.h.objs.size (Obj.mapSeq (· ++ ws.toArray))).push (seqObj "list" ws.toArray 0) }
            have hz' : ((W.s.heap.push (seqObj "list" #[] 0)).update W.s.heap.objs.size (Obj.mapSeq (· ++ ws.toArray))).objs.size = W.h.objs.size + 1 := hz
            rw [hz']
            have body : wpAny (model C.prog C.w) A.in1.in1 (Builtin.«list.sort» ⟨[.ref (W.h.objs.size + 1)], []⟩) (fun fin s' => ∃ v, fin = .done (.ret v) ∧ Q (.ref (W.h.objs.size + 1)) s') (fun _ _ => False) { W.s with heap := ((W.h.push (seqObj "list" #[] 0)).update W.h.objs.size (Obj.mapSeq (· ++ ws.toArray))).push (seqObj "list" ws.toArray 0) } := by
              unfold vSorted at hv'
              split at hv'
              · rename_i h2
                cases hv'
                rw [list_sort_plain]
                have ho := hoL
                have ha : W.h.objs.size + 1 < (((W.h.push (seqObj "list" #[] 0)).update W.h.objs.size (Obj.mapSeq (· ++ ws.toArray))).push (seqObj "list" ws.toArray 0)).objs.size := Heap.lt_size ho
                refine wpAny_bind (listItems_at ho rfl ?_)
                refine wpAny_bind (listUpdate_at ho rfl ?_ (by rw [List.size_toArray, sizeLine_eq]; lia) (Nat.zero_le _))
                obtain ⟨e1, ho1⟩ := (⟨_, get?_update_seq ho (fun _ => #[])⟩ : ∃ e1, ((((W.h.push (seqObj "list" #[] 0)).update W.h.objs.size (Obj.mapSeq (· ++ ws.toArray))).push (seqObj "list" ws.toArray 0)).update (W.h.objs.size + 1) (Obj.mapSeq fun _ => #[])).get? (W.h.objs.size + 1) = some (seqObj "list" #[] e1))
                refine wpAny_bind (seqEpoch_at ho1 rfl ?_)
                refine wpAny_bind (wpAny_newTuple ?_ (by show ws.length ≤ _; rw [sizeLine_eq]; lia))
                refine wpAny_bind (wpAny_newList ?_ (Nat.zero_le _))
                refine wpAny_holding ?_
                have ho6 := Heap.get?_push_of_some (seqObj "list" #[] 0) (Heap.get?_push_of_some (seqObj "tuple" ws.toArray 0) ho1)
                show wpAny (model C.prog C.w) _ _ _ _ { W.s with heap := ((((((W.h.push (seqObj "list" #[] 0)).update W.h.objs.size (Obj.mapSeq (· ++ ws.toArray))).push (seqObj "list" ws.toArray 0)).update (W.h.objs.size + 1) (Obj.mapSeq fun _ => #[])).push (seqObj "tuple" ws.toArray 0)).push (seqObj "list" #[] 0)) }
                dsimp only
                have hn2 : ws.toArray.size < 2 := by rw [List.size_toArray]; lia
                rw [if_pos hn2, if_pos hn2]
                refine wpAny_bind (wpAny_pure ?_)
                rw [StateT.run_pure]
                refine wpAny_bind (wpAny_pure ?_)
                dsimp only
                have e6 : (arrOf (SortSt.mk' general' (ws.toArray.zip ws.toArray) #[] 7 none)).map (·.2) = ws.toArray := by
                  show (ws.toArray.zip ws.toArray).map (·.2) = _
                  apply Array.ext
                  · simp
                  · intro i h1 h2; simp
                refine wpAny_bind (seqEpoch_at ho6 rfl ?_)
                refine wpAny_bind (listUpdate_at ho6 rfl ?_ (Nat.zero_le _) (by rw [e6, List.size_toArray, sizeLine_eq]; lia))
                simp only [bne_self_eq_false, Bool.false_eq_true, if_false]
                refine wpAny_pure ⟨_, rfl, ?_⟩
                rw [e6]
                exact fin ws fun W' u => VsR.mono u g2
              · rename_i h2
                obtain ⟨p, hp, rfl⟩ := Option.map_eq_some_iff.mp hv'
                rw [hlen] at hp
                refine sort_prs (n := 0) (ps := ps) (p := p) hoL (R0.keep fun b xs m g => kp _ _ g) (by lia) (by lia) hp ⟨_, rfl, ?_⟩
                exact fin _ fun W' u => VsR.mono u (g2.mapD p.toList)
            refine wpAny_bind (wpAny_holding (wpAny_call_entry slot_list_sort (show Shared.TypeIs _ _ _ from ⟨_, hoL, rfl⟩) entry_list_sort (Q := fun _ s' => wpAny (model C.prog C.w) A.in1 (ret (.ref (W.h.objs.size + 1))) (fun fin s'' => ∃ v, fin = .done (.ret v) ∧ Q v s'') (fun _ _ => False) s') (wpAny_mono body (fun f s' hf => ?_) fun _ _ x => x.elim) (args_list_sort _)))
            obtain ⟨v, rfl, hq⟩ := hf
            exact ⟨v, rfl, wpAny_pure ⟨_, rfl, hq⟩⟩
          · exact hk.elim
        · exact hk.elim
      · exact hk.elim
    · exact hk.elim
  · exact hk.elim
/-! ## lists of a given length -/
theorem allS {n : Nat} {p : List Value → Prop} (h : ∀ a, ∀ xs : List Value, xs.length = n → p (a :: xs)) : ∀ xs : List Value, xs.length = n + 1 → p xs := by
  intro xs e
  cases xs with
  | nil => cases e
  | cons a t => exact h a t (Nat.succ.inj e)
theorem all0 {p : List Value → Prop} (h : p []) : ∀ xs : List Value, xs.length = 0 → p xs := by
  intro xs e
  cases xs with
  | nil => exact h
  | cons a t => cases e
theorem all1 {p : List Value → Prop} (h : ∀ a, p [a]) : ∀ xs : List Value, xs.length = 1 → p xs := allS fun a => all0 (p := fun t => p (a :: t)) (h a)
theorem all2 {p : List Value → Prop} (h : ∀ a b, p [a, b]) : ∀ xs : List Value, xs.length = 2 → p xs := allS fun a => all1 (p := fun t => p (a :: t)) (h a)
theorem all3 {p : List Value → Prop} (h : ∀ a b c, p [a, b, c]) : ∀ xs : List Value, xs.length = 3 → p xs := allS fun a => all2 (p := fun t => p (a :: t)) (h a)
theorem all4 {p : List Value → Prop} (h : ∀ a b c d, p [a, b, c, d]) : ∀ xs : List Value, xs.length = 4 → p xs := allS fun a => all3 (p := fun t => p (a :: t)) (h a)
theorem all5 {p : List Value → Prop} (h : ∀ a b c d e, p [a, b, c, d, e]) : ∀ xs : List Value, xs.length = 5 → p xs := allS fun a => all4 (p := fun t => p (a :: t)) (h a)
theorem all6 {p : List Value → Prop} (h : ∀ a b c d e f, p [a, b, c, d, e, f]) : ∀ xs : List Value, xs.length = 6 → p xs := allS fun a => all5 (p := fun t => p (a :: t)) (h a)
/-! ## the program's defs: what is known of the context -/
noncomputable def fdAt (K : Frag) (a : Addr) : Option FuncData := match K.lookup a with
  | some ⟨_, _, .func fd, _⟩ => some fd
  | _ => none
noncomputable def scAt (P : Params) (a : Addr) : Scope := match fdAt (KP P) a with
  | some fd => fd.scope
  | none => { kind := .function, names := [], isGenerator := false, isCoroutine := false }
noncomputable def tab__law_written (P : Params) : Tab := ⟨260, 256, ⟨165, 25, 165, 69⟩, PySem.Str.ofString "_law_written.<locals>.<lambda>", scAt P 261⟩
noncomputable def tab__law_joined (P : Params) : Tab := ⟨253, 249, ⟨157, 17, 157, 43⟩, PySem.Str.ofString "_law_joined.<locals>.<lambda>", scAt P 254⟩
noncomputable def tab__law_pushed (P : Params) : Tab := ⟨246, 242, ⟨147, 17, 147, 49⟩, PySem.Str.ofString "_law_pushed.<locals>.<lambda>", scAt P 247⟩
noncomputable def tab__law_given (P : Params) : Tab := ⟨239, 235, ⟨139, 21, 139, 58⟩, PySem.Str.ofString "_law_given.<locals>.<lambda>", scAt P 240⟩
noncomputable def tab_law (P : Params) : Tab := ⟨272, 270, ⟨218, 17, 218, 58⟩, PySem.Str.ofString "law.<locals>.<lambda>", scAt P 273⟩
noncomputable def tabs5 (P : Params) : List Tab := [tab__law_written P, tab__law_joined P, tab__law_pushed P, tab__law_given P, tab_law P]
structure Ok (C : Cx) (P : Params) : Prop where
  K : C.K = KP P
  X : ExcFacts C
  LF : LawFn C
  space : C.spaceC = 54
  tabs : C.tabs = tabs5 P
section
variable {C : Cx} {P : Params}
theorem lk (h : Ok C P) {a : Addr} {o : Obj} (e : (KP P).lookup a = some o) : C.K.lookup a = some o := by rw [h.K]; exact e
theorem gl (h : Ok C P) {x : String} {v : Option Value} (e : nsIn (KP P) mainGlobals (sname x) = some v) : nsIn C.K mainGlobals (sname x) = some v := by rw [h.K]; exact e
theorem kpK (h : Ok C P) {v : Value} (e : keepIn (KP P) v = true) : keepIn C.K v = true := by rw [h.K]; exact e
theorem cd (h : Ok C P) {v : Value} {q : PySem.Str} (e : codeIn (KP P) v q = true) : codeIn C.K v q = true := by rw [h.K]; exact e
noncomputable def namesOff (P : Params) (l : List (PySem.Str × NameKind)) : Bool := (tabs5 P).all fun t => !(t.sc.names.map (·.1) == l.map (·.1))
theorem noTabOf {l : List (PySem.Str × NameKind)} (e : namesOff P l = true) : ∀ t ∈ tabs5 P, t.sc.names ≠ l := fun t ht q => by
  have := List.all_eq_true.mp e t ht
  rw [q] at this
  simp at this
theorem Ok.noTab (h : Ok C P) {l : Scope} (e : namesOff P l.names = true) : ∀ t ∈ C.tabs, t.sc.names ≠ l.names := by rw [h.tabs]; exact noTabOf e
theorem Ok.co_no (h : Ok C P) {sc : Scope} {code : Value} {q : PySem.Str} (e : namesOff P sc.names = true) : C.codeOk sc code q := fun _ t ht z => absurd (by rw [z]) (h.noTab e t ht)
noncomputable def codeOne (sc : Scope) (c : Addr) (q : PySem.Str) (t : Tab) : Bool := !(t.sc.names.map (·.1) == sc.names.map (·.1)) || (c == t.c && (q ++ ("<lambda>" : PySem.Str)) == t.qual)
theorem Ok.co_yes (h : Ok C P) {sc : Scope} {c : Addr} {q : PySem.Str} (e : (tabs5 P).all (codeOne sc c q) = true) : C.codeOk sc (.ref c) q := fun _ t ht z => by
  rw [h.tabs] at ht
  have := List.all_eq_true.mp e t ht
  unfold codeOne at this
  rw [z] at this
  simp at this
  exact ⟨by rw [this.1], this.2⟩
theorem Ok.tab__law_written (h : Ok C P) : Mine.tab__law_written P ∈ C.tabs := by rw [h.tabs]; exact .head _
theorem Ok.tab__law_joined (h : Ok C P) : Mine.tab__law_joined P ∈ C.tabs := by rw [h.tabs]; exact .tail _ (.head _)
theorem Ok.tab__law_pushed (h : Ok C P) : Mine.tab__law_pushed P ∈ C.tabs := by rw [h.tabs]; exact .tail _ (.tail _ (.head _))
theorem Ok.tab__law_given (h : Ok C P) : Mine.tab__law_given P ∈ C.tabs := by rw [h.tabs]; exact .tail _ (.tail _ (.tail _ (.head _)))
theorem Ok.tab_law (h : Ok C P) : Mine.tab_law P ∈ C.tabs := by rw [h.tabs]; exact .tail _ (.tail _ (.tail _ (.tail _ (.head _))))
theorem g_ord (h : Ok C P) : nsIn C.K mainGlobals (sname "ord") = some none := gl h (by with_unfolding_all rfl)
theorem g_chr (h : Ok C P) : nsIn C.K mainGlobals (sname "chr") = some none := gl h (by with_unfolding_all rfl)
theorem g_len (h : Ok C P) : nsIn C.K mainGlobals (sname "len") = some none := gl h (by with_unfolding_all rfl)
theorem g_abs (h : Ok C P) : nsIn C.K mainGlobals (sname "abs") = some none := gl h (by with_unfolding_all rfl)
theorem g_sum (h : Ok C P) : nsIn C.K mainGlobals (sname "sum") = some none := gl h (by with_unfolding_all rfl)
theorem g_sorted (h : Ok C P) : nsIn C.K mainGlobals (sname "sorted") = some none := gl h (by with_unfolding_all rfl)
theorem g_enumerate (h : Ok C P) : nsIn C.K mainGlobals (sname "enumerate") = some none := gl h (by with_unfolding_all rfl)
theorem g_range (h : Ok C P) : nsIn C.K mainGlobals (sname "range") = some none := gl h (by with_unfolding_all rfl)
theorem g_octets_of (h : Ok C P) : nsIn C.K mainGlobals (sname "octets_of") = some (some (.ref 63)) := gl h (by with_unfolding_all rfl)
theorem k_octets_of (h : Ok C P) : keepIn C.K (.ref 63) = true := kpK h (by with_unfolding_all rfl)
theorem g_text_at (h : Ok C P) : nsIn C.K mainGlobals (sname "text_at") = some (some (.ref 68)) := gl h (by with_unfolding_all rfl)
theorem k_text_at (h : Ok C P) : keepIn C.K (.ref 68) = true := kpK h (by with_unfolding_all rfl)
theorem g_write_octets (h : Ok C P) : nsIn C.K mainGlobals (sname "write_octets") = some (some (.ref 75)) := gl h (by with_unfolding_all rfl)
theorem k_write_octets (h : Ok C P) : keepIn C.K (.ref 75) = true := kpK h (by with_unfolding_all rfl)
theorem g_places_of (h : Ok C P) : nsIn C.K mainGlobals (sname "places_of") = some (some (.ref 80)) := gl h (by with_unfolding_all rfl)
theorem k_places_of (h : Ok C P) : keepIn C.K (.ref 80) = true := kpK h (by with_unfolding_all rfl)
theorem g_free_room (h : Ok C P) : nsIn C.K mainGlobals (sname "free_room") = some (some (.ref 87)) := gl h (by with_unfolding_all rfl)
theorem k_free_room (h : Ok C P) : keepIn C.K (.ref 87) = true := kpK h (by with_unfolding_all rfl)
theorem g_next_highest (h : Ok C P) : nsIn C.K mainGlobals (sname "next_highest") = some (some (.ref 94)) := gl h (by with_unfolding_all rfl)
theorem k_next_highest (h : Ok C P) : keepIn C.K (.ref 94) = true := kpK h (by with_unfolding_all rfl)
theorem g_collect (h : Ok C P) : nsIn C.K mainGlobals (sname "collect") = some (some (.ref 99)) := gl h (by with_unfolding_all rfl)
theorem k_collect (h : Ok C P) : keepIn C.K (.ref 99) = true := kpK h (by with_unfolding_all rfl)
theorem g_fre (h : Ok C P) : nsIn C.K mainGlobals (sname "fre") = some (some (.ref 106)) := gl h (by with_unfolding_all rfl)
theorem k_fre (h : Ok C P) : keepIn C.K (.ref 106) = true := kpK h (by with_unfolding_all rfl)
theorem g_allocate (h : Ok C P) : nsIn C.K mainGlobals (sname "allocate") = some (some (.ref 113)) := gl h (by with_unfolding_all rfl)
theorem k_allocate (h : Ok C P) : keepIn C.K (.ref 113) = true := kpK h (by with_unfolding_all rfl)
theorem g_placed (h : Ok C P) : nsIn C.K mainGlobals (sname "placed") = some (some (.ref 120)) := gl h (by with_unfolding_all rfl)
theorem k_placed (h : Ok C P) : keepIn C.K (.ref 120) = true := kpK h (by with_unfolding_all rfl)
theorem g_assign_text (h : Ok C P) : nsIn C.K mainGlobals (sname "assign_text") = some (some (.ref 127)) := gl h (by with_unfolding_all rfl)
theorem k_assign_text (h : Ok C P) : keepIn C.K (.ref 127) = true := kpK h (by with_unfolding_all rfl)
theorem g_text_of (h : Ok C P) : nsIn C.K mainGlobals (sname "text_of") = some (some (.ref 134)) := gl h (by with_unfolding_all rfl)
theorem k_text_of (h : Ok C P) : keepIn C.K (.ref 134) = true := kpK h (by with_unfolding_all rfl)
theorem g_forget (h : Ok C P) : nsIn C.K mainGlobals (sname "forget") = some (some (.ref 141)) := gl h (by with_unfolding_all rfl)
theorem k_forget (h : Ok C P) : keepIn C.K (.ref 141) = true := kpK h (by with_unfolding_all rfl)
theorem g_swap_texts (h : Ok C P) : nsIn C.K mainGlobals (sname "swap_texts") = some (some (.ref 148)) := gl h (by with_unfolding_all rfl)
theorem k_swap_texts (h : Ok C P) : keepIn C.K (.ref 148) = true := kpK h (by with_unfolding_all rfl)
theorem g_push_waiting (h : Ok C P) : nsIn C.K mainGlobals (sname "push_waiting") = some (some (.ref 155)) := gl h (by with_unfolding_all rfl)
theorem k_push_waiting (h : Ok C P) : keepIn C.K (.ref 155) = true := kpK h (by with_unfolding_all rfl)
theorem g_pop_waiting (h : Ok C P) : nsIn C.K mainGlobals (sname "pop_waiting") = some (some (.ref 162)) := gl h (by with_unfolding_all rfl)
theorem k_pop_waiting (h : Ok C P) : keepIn C.K (.ref 162) = true := kpK h (by with_unfolding_all rfl)
theorem g_join_waiting (h : Ok C P) : nsIn C.K mainGlobals (sname "join_waiting") = some (some (.ref 169)) := gl h (by with_unfolding_all rfl)
theorem k_join_waiting (h : Ok C P) : keepIn C.K (.ref 169) = true := kpK h (by with_unfolding_all rfl)
theorem g_keep_waiting (h : Ok C P) : nsIn C.K mainGlobals (sname "keep_waiting") = some (some (.ref 176)) := gl h (by with_unfolding_all rfl)
theorem k_keep_waiting (h : Ok C P) : keepIn C.K (.ref 176) = true := kpK h (by with_unfolding_all rfl)
theorem g_write_within (h : Ok C P) : nsIn C.K mainGlobals (sname "write_within") = some (some (.ref 183)) := gl h (by with_unfolding_all rfl)
theorem k_write_within (h : Ok C P) : keepIn C.K (.ref 183) = true := kpK h (by with_unfolding_all rfl)
theorem g_set_left (h : Ok C P) : nsIn C.K mainGlobals (sname "set_left") = some (some (.ref 190)) := gl h (by with_unfolding_all rfl)
theorem k_set_left (h : Ok C P) : keepIn C.K (.ref 190) = true := kpK h (by with_unfolding_all rfl)
theorem g_set_right (h : Ok C P) : nsIn C.K mainGlobals (sname "set_right") = some (some (.ref 197)) := gl h (by with_unfolding_all rfl)
theorem k_set_right (h : Ok C P) : keepIn C.K (.ref 197) = true := kpK h (by with_unfolding_all rfl)
theorem g_is_sound (h : Ok C P) : nsIn C.K mainGlobals (sname "is_sound") = some (some (.ref 202)) := gl h (by with_unfolding_all rfl)
theorem k_is_sound (h : Ok C P) : keepIn C.K (.ref 202) = true := kpK h (by with_unfolding_all rfl)
theorem g__law_box (h : Ok C P) : nsIn C.K mainGlobals (sname "_law_box") = some (some (.ref 207)) := gl h (by with_unfolding_all rfl)
theorem k__law_box (h : Ok C P) : keepIn C.K (.ref 207) = true := kpK h (by with_unfolding_all rfl)
theorem g__law_take (h : Ok C P) : nsIn C.K mainGlobals (sname "_law_take") = some (some (.ref 214)) := gl h (by with_unfolding_all rfl)
theorem k__law_take (h : Ok C P) : keepIn C.K (.ref 214) = true := kpK h (by with_unfolding_all rfl)
theorem g__law_text (h : Ok C P) : nsIn C.K mainGlobals (sname "_law_text") = some (some (.ref 221)) := gl h (by with_unfolding_all rfl)
theorem k__law_text (h : Ok C P) : keepIn C.K (.ref 221) = true := kpK h (by with_unfolding_all rfl)
theorem g__law_held (h : Ok C P) : nsIn C.K mainGlobals (sname "_law_held") = some (some (.ref 233)) := gl h (by with_unfolding_all rfl)
theorem k__law_held (h : Ok C P) : keepIn C.K (.ref 233) = true := kpK h (by with_unfolding_all rfl)
theorem g__law_given (h : Ok C P) : nsIn C.K mainGlobals (sname "_law_given") = some (some (.ref 240)) := gl h (by with_unfolding_all rfl)
theorem k__law_given (h : Ok C P) : keepIn C.K (.ref 240) = true := kpK h (by with_unfolding_all rfl)
theorem g__law_pushed (h : Ok C P) : nsIn C.K mainGlobals (sname "_law_pushed") = some (some (.ref 247)) := gl h (by with_unfolding_all rfl)
theorem k__law_pushed (h : Ok C P) : keepIn C.K (.ref 247) = true := kpK h (by with_unfolding_all rfl)
theorem g__law_joined (h : Ok C P) : nsIn C.K mainGlobals (sname "_law_joined") = some (some (.ref 254)) := gl h (by with_unfolding_all rfl)
theorem k__law_joined (h : Ok C P) : keepIn C.K (.ref 254) = true := kpK h (by with_unfolding_all rfl)
theorem g__law_written (h : Ok C P) : nsIn C.K mainGlobals (sname "_law_written") = some (some (.ref 261)) := gl h (by with_unfolding_all rfl)
theorem k__law_written (h : Ok C P) : keepIn C.K (.ref 261) = true := kpK h (by with_unfolding_all rfl)
theorem g__law_deed (h : Ok C P) : nsIn C.K mainGlobals (sname "_law_deed") = some (some (.ref 268)) := gl h (by with_unfolding_all rfl)
theorem k__law_deed (h : Ok C P) : keepIn C.K (.ref 268) = true := kpK h (by with_unfolding_all rfl)
theorem g_BasicError (h : Ok C P) : nsIn C.K mainGlobals (sname "BasicError") = some (some (.ref 34)) := gl h (by with_unfolding_all rfl)
theorem k_BasicError (h : Ok C P) : keepIn C.K (.ref 34) = true := kpK h (by with_unfolding_all rfl)
theorem g_LONGEST (h : Ok C P) : nsIn C.K mainGlobals (sname "LONGEST") = some (some (.int 255 225)) := gl h (by with_unfolding_all rfl)
theorem g_BLANK (h : Ok C P) : nsIn C.K mainGlobals (sname "BLANK") = some (some (.int 32 227)) := gl h (by with_unfolding_all rfl)
theorem g_Space (h : Ok C P) : nsIn C.K mainGlobals (sname "Space") = some (some (.ref C.spaceC)) := by rw [h.space]; exact gl h (by with_unfolding_all rfl)
theorem k_Space (h : Ok C P) : keepIn C.K (.ref C.spaceC) = true := by rw [h.space]; exact kpK h (by with_unfolding_all rfl)
theorem mk_Space (h : Ok C P) : makesIn C.K C.spaceC = true := by rw [h.space, h.K]; with_unfolding_all rfl
theorem init_Space (h : Ok C P) : findIn C.K (.ref C.spaceC) "__init__" = some (some (.ref 51)) := by rw [h.space, h.K]; with_unfolding_all rfl
theorem ft_Space (h : Ok C P) : typeIn C.K (.ref 51) = some (.type "function") := by rw [h.K]; with_unfolding_all rfl

theorem enum_iSrc {f : EA} : ∀ ρ σ src σ', iSrc f ρ σ = .ok src σ' → src.isEnum = false := fun ρ σ src σ' h => (plain_iSrc ρ σ src σ' h).1
theorem enum_iEnum {f : EA} : ∀ ρ σ src σ', iEnum f ρ σ = .ok src σ' → src.isEnum = true := fun ρ σ src σ' h => by
  obtain ⟨a, σ₁, h1, h2⟩ := bind_ok h
  split at h2
  · cases h2; rfl
  · cases h2
theorem enum_iRange {f : EA} : ∀ ρ σ src σ', iRange f ρ σ = .ok src σ' → src.isEnum = false := fun ρ σ src σ' h => by
  obtain ⟨a, σ₁, h1, h2⟩ := bind_ok h
  split at h2
  · split at h2
    · cases h2; rfl
    · cases h2
  · cases h2
theorem still_len {f : EA} (hf : Still f) : Still (eFn bLen (lCons f lNil)) := fun ρ σ v σ' h => by
  obtain ⟨vs, σ₁, h1, h2⟩ := bind_ok h
  obtain ⟨a, σ₂, h3, h4⟩ := bind_ok h1
  cases h4
  have := hf _ _ _ _ h3
  subst this
  unfold bLen at h2
  split at h2
  · split at h2
    · cases h2; rfl
    · cases h2
  · split at h2
    · split at h2
      · cases h2; rfl
      · cases h2
    · cases h2
  · cases h2
end
section
variable {C : Cx} {P : Params}
noncomputable def f_octets_of : List V → AH → Res V := fnA ["text"] (sSeq (sRet (eComp [] "sign" (iSrc (eName "text")) tTrue (eFn bOrd (lCons (eName "sign") lNil))))
    sSkip)
theorem j_octets_of (h : Ok C P) : FJ C 1 63 f_octets_of :=
  FJ_def (params := ["text"]) (lk h rfl) (cd h (by with_unfolding_all rfl)) (all1 fun _ => rfl) (by decide +kernel) (by decide +kernel) rfl rfl rfl
    (SB_cons (SS_ret (SE_comp (fv := []) (x := "sign") ⟨rfl, rfl, by decide +kernel, by decide +kernel, by decide +kernel, by decide +kernel, by decide +kernel, by decide +kernel⟩ (SI_src (SE_name (x := "text") (by decide +kernel) (by decide +kernel))) plain_iSrc STs_nil (SE_built (x := "ord") ordB (SL_cons (SE_name (x := "sign") (by decide +kernel) (by decide +kernel)) SL_nil) (by decide +kernel) (g_ord h) (by decide +kernel) (by decide +kernel) (by decide +kernel))))
    SB_nil) (h.co_no (by kernel_rfl))

noncomputable def f_text_at : List V → AH → Res V := fnA ["space", "place"] (sSeq (sRet (eMeth isS (eStr "") (lCons (eComp [] "octet" (iSrc (eSlc (eAttr "octets" (eName "space")) (eSub (eName "place") (eInt 0)) (e2 vAdd (eSub (eName "place") (eInt 0)) (eSub (eName "place") (eInt 1))))) tTrue (eFn bChr (lCons (eName "octet") lNil))) lNil) mJoin))
    sSkip)
theorem j_text_at (h : Ok C P) : FJ C 1 68 f_text_at :=
  FJ_def (params := ["space", "place"]) (lk h rfl) (cd h (by with_unfolding_all rfl)) (all2 fun _ _ => rfl) (by decide +kernel) (by decide +kernel) rfl rfl rfl
    (SB_cons (SS_ret (SE_meth (x := "join") (SE_str (x := "")) (SL_cons (SE_comp (fv := []) (x := "octet") ⟨rfl, rfl, by decide +kernel, by decide +kernel, by decide +kernel, by decide +kernel, by decide +kernel, by decide +kernel⟩ (SI_src (SE_slc (SE_attr (x := "octets") (SE_name (x := "space") (by decide +kernel) (by decide +kernel)) (by decide +kernel)) (SP_some (SE_sub (SE_name (x := "place") (by decide +kernel) (by decide +kernel)) SE_int)) (SP_some (SE_bin (SE_sub (SE_name (x := "place") (by decide +kernel) (by decide +kernel)) SE_int) (SE_sub (SE_name (x := "place") (by decide +kernel) (by decide +kernel)) SE_int) addR)))) plain_iSrc STs_nil (SE_built (x := "chr") chrB (SL_cons (SE_name (x := "octet") (by decide +kernel) (by decide +kernel)) SL_nil) (by decide +kernel) (g_chr h) (by decide +kernel) (by decide +kernel) (by decide +kernel))) SL_nil) joinM chkS PySem.F.plainAttrs_str PySem.F.slot_str_join PySem.F.type_str_join (hline := by decide +kernel)))
    SB_nil) (h.co_no (by kernel_rfl))

noncomputable def f_write_octets : List V → AH → Res V := fnA ["space", "at", "octets"] (sSeq (sFor (iEnum (eName "octets")) (gTup 2 (gsCons (gName "spot") (gsCons (gName "octet") gsNil))) (sSeq (sAsg (eName "octet") (gSub (eAttr "octets" (eName "space")) (e2 vAdd (eName "at") (eName "spot"))))
    sSkip))
    sSkip)
theorem j_write_octets (h : Ok C P) : FJ C 1 75 f_write_octets :=
  FJ_def (params := ["space", "at", "octets"]) (lk h rfl) (cd h (by with_unfolding_all rfl)) (all3 fun _ _ _ => rfl) (by decide +kernel) (by decide +kernel) rfl rfl rfl
    (SB_cons (SS_for (SI_enum (SE_name (x := "octets") (by decide +kernel) (by decide +kernel)) (by decide +kernel) (g_enumerate h)) (SG_tup (SGs_cons (SG_name (x := "spot") (by decide +kernel)) (SGs_cons (SG_name (x := "octet") (by decide +kernel)) SGs_nil))) (SB_cons (SS_asg (SE_name (x := "octet") (by decide +kernel) (by decide +kernel)) (SG_sub (SE_attr (x := "octets") (SE_name (x := "space") (by decide +kernel) (by decide +kernel)) (by decide +kernel)) (SE_bin (SE_name (x := "at") (by decide +kernel) (by decide +kernel)) (SE_name (x := "spot") (by decide +kernel) (by decide +kernel)) addR)))
    SB_nil) TgtOk.tuple enum_iEnum)
    SB_nil) (h.co_no (by kernel_rfl))

noncomputable def f_places_of : List V → AH → Res V := fnA ["space"] (sSeq (sAsg (e2 vAdd (eCompD ["space"] "name" (eAttr "held" (eName "space")) (eSubD (eAttr "held" (eName "space")) (eName "name"))) (eAttr "waiting" (eName "space"))) (gName "places"))
    (sSeq (sRet (eComp [] "place" (iSrc (eName "places")) (tV (e2 vGt (eSub (eName "place") (eInt 1)) (eInt 0))) (eName "place")))
    sSkip))
theorem j_places_of (h : Ok C P) : FJ C 1 80 f_places_of :=
  FJ_def (params := ["space"]) (lk h rfl) (cd h (by with_unfolding_all rfl)) (all1 fun _ => rfl) (by decide +kernel) (by decide +kernel) rfl rfl rfl
    (SB_cons (SS_asg (SE_bin (SE_compD (fv := ["space"]) (x := "name") ⟨rfl, rfl, by decide +kernel, by decide +kernel, by decide +kernel, by decide +kernel, by decide +kernel, by decide +kernel⟩ (SE_attr (x := "held") (SE_name (x := "space") (by decide +kernel) (by decide +kernel)) (by decide +kernel)) (SQ_subD (SQ_attr (x := "held") (SQ_name (x := "space") (by decide +kernel) (by decide +kernel)) still_name (by decide +kernel)) (SQ_name (x := "name") (by decide +kernel) (by decide +kernel)) (still_attr still_name) still_name) (still_subD (still_attr still_name) still_name)) (SE_attr (x := "waiting") (SE_name (x := "space") (by decide +kernel) (by decide +kernel)) (by decide +kernel)) addR) (SG_name (x := "places") (by decide +kernel)))
    (SB_cons (SS_ret (SE_comp (fv := []) (x := "place") ⟨rfl, rfl, by decide +kernel, by decide +kernel, by decide +kernel, by decide +kernel, by decide +kernel, by decide +kernel⟩ (SI_src (SE_name (x := "places") (by decide +kernel) (by decide +kernel))) plain_iSrc (STs_one (ST_cmp (SE_sub (SE_name (x := "place") (by decide +kernel) (by decide +kernel)) SE_int) SE_int gtR)) (SE_name (x := "place") (by decide +kernel) (by decide +kernel))))
    SB_nil)) (h.co_no (by kernel_rfl))

noncomputable def f_free_room : List V → AH → Res V := fnA ["space"] (sSeq (sRet (e2 vSub (eAttr "free" (eName "space")) (eAttr "low" (eName "space"))))
    sSkip)
theorem j_free_room (h : Ok C P) : FJ C 1 87 f_free_room :=
  FJ_def (params := ["space"]) (lk h rfl) (cd h (by with_unfolding_all rfl)) (all1 fun _ => rfl) (by decide +kernel) (by decide +kernel) rfl rfl rfl
    (SB_cons (SS_ret (SE_bin (SE_attr (x := "free") (SE_name (x := "space") (by decide +kernel) (by decide +kernel)) (by decide +kernel)) (SE_attr (x := "low") (SE_name (x := "space") (by decide +kernel) (by decide +kernel)) (by decide +kernel)) subR))
    SB_nil) (h.co_no (by kernel_rfl))

noncomputable def f_next_highest : List V → AH → Res V := fnA ["places", "below"] (sSeq (sAsg eNone (gName "found"))
    (sSeq (sFor (iSrc (eName "places")) (gName "place") (sSeq (sIf (tAnd (tV (e2 vLt (eSub (eName "place") (eInt 0)) (eName "below"))) (tAnd (tOr (tV (e2 (vIs false) (eName "found") eNone)) (tOr (tV (e2 vGt (eSub (eName "place") (eInt 0)) (eSub (eName "found") (eInt 0)))) (fun _ σ => .ok false σ))) (fun _ σ => .ok true σ))) (sSeq (sAsg (eName "place") (gName "found"))
    sSkip) sSkip)
    sSkip))
    (sSeq (sRet (eName "found"))
    sSkip)))
theorem j_next_highest (h : Ok C P) : FJ C 1 94 f_next_highest :=
  FJ_def (params := ["places", "below"]) (lk h rfl) (cd h (by with_unfolding_all rfl)) (all2 fun _ _ => rfl) (by decide +kernel) (by decide +kernel) rfl rfl rfl
    (SB_cons (SS_asg SE_none (SG_name (x := "found") (by decide +kernel)))
    (SB_cons (SS_for (SI_src (SE_name (x := "places") (by decide +kernel) (by decide +kernel))) (SG_name (x := "place") (by decide +kernel)) (SB_cons (SS_if (ST_bool (SAll_and (ST_cmp (SE_sub (SE_name (x := "place") (by decide +kernel) (by decide +kernel)) SE_int) (SE_name (x := "below") (by decide +kernel) (by decide +kernel)) ltR) (SAll_and (ST_bool (SAll_or (ST_cmp (SE_name (x := "found") (by decide +kernel) (by decide +kernel)) SE_none isR) (SAll_or (ST_cmp (SE_sub (SE_name (x := "place") (by decide +kernel) (by decide +kernel)) SE_int) (SE_sub (SE_name (x := "found") (by decide +kernel) (by decide +kernel)) SE_int) gtR) SAll_or0))) SAll_and0))) (SB_cons (SS_asg (SE_name (x := "place") (by decide +kernel) (by decide +kernel)) (SG_name (x := "found") (by decide +kernel)))
    SB_nil) SB_nil)
    SB_nil) TgtOk.name enum_iSrc)
    (SB_cons (SS_ret (SE_name (x := "found") (by decide +kernel) (by decide +kernel)))
    SB_nil))) (h.co_no (by kernel_rfl))

end
section
variable {C : Cx} {P : Params}
noncomputable def f_collect : List V → AH → Res V := fnA ["space"] (sSeq (sAsg (eTup (lCons (eAttr "free" (eName "space")) (lCons (eAttr "size" (eName "space")) (lCons (eAttr "size" (eName "space")) lNil)))) (gTup 3 (gsCons (gName "before") (gsCons (gName "goal") (gsCons (gName "below") gsNil)))))
    (sSeq (sAsg (eFn f_places_of (lCons (eName "space") lNil)) (gName "places"))
    (sSeq (sAsg (eFn f_next_highest (lCons (eName "places") (lCons (eName "below") lNil))) (gName "place"))
    (sSeq (sWhile 100 (tV (e2 (vIs true) (eName "place") eNone)) (sSeq (sAsg (eName "place") (gTup 2 (gsCons (gName "begin") (gsCons (gName "length") gsNil))))
    (sSeq (sAsg (eTup (lCons (eName "begin") (lCons (e2 vSub (eName "goal") (eName "length")) lNil))) (gTup 2 (gsCons (gName "below") (gsCons (gName "goal") gsNil))))
    (sSeq (sDo (eFn f_write_octets (lCons (eName "space") (lCons (eName "goal") (lCons (eSlc (eAttr "octets" (eName "space")) (eName "begin") (e2 vAdd (eName "begin") (eName "length"))) lNil)))))
    (sSeq (sAsg (eName "goal") (gSub (eName "place") (eInt 0)))
    (sSeq (sAsg (eComp ["below"] "other" (iSrc (eName "places")) (tV (e2 vLt (eSub (eName "other") (eInt 0)) (eName "below"))) (eName "other")) (gName "places"))
    (sSeq (sAsg (eFn f_next_highest (lCons (eName "places") (lCons (eName "below") lNil))) (gName "place"))
    sSkip)))))))
    (sSeq (sAsg (eName "goal") (gAttr "free" (eName "space")))
    (sSeq (sAug "collections" vIAdd (eName "space") (eInt 1))
    (sSeq (sRet (e2 vSub (eName "goal") (eName "before")))
    sSkip)))))))
theorem j_collect (h : Ok C P) : FJ C 2 99 f_collect :=
  FJ_def (params := ["space"]) (lk h rfl) (cd h (by with_unfolding_all rfl)) (all1 fun _ => rfl) (by decide +kernel) (by decide +kernel) rfl rfl rfl
    (SB_cons (SS_asg (SE_tup (SL_cons (SE_attr (x := "free") (SE_name (x := "space") (by decide +kernel) (by decide +kernel)) (by decide +kernel)) (SL_cons (SE_attr (x := "size") (SE_name (x := "space") (by decide +kernel) (by decide +kernel)) (by decide +kernel)) (SL_cons (SE_attr (x := "size") (SE_name (x := "space") (by decide +kernel) (by decide +kernel)) (by decide +kernel)) SL_nil)))) (SG_tup (SGs_cons (SG_name (x := "before") (by decide +kernel)) (SGs_cons (SG_name (x := "goal") (by decide +kernel)) (SGs_cons (SG_name (x := "below") (by decide +kernel)) SGs_nil)))) (hw := by intro env q; cases env; cases q; rfl))
    (SB_cons (SS_asg (SE_call (x := "places_of") (j_places_of h) (SL_cons (SE_name (x := "space") (by decide +kernel) (by decide +kernel)) SL_nil) (by decide +kernel) (by decide +kernel) (g_places_of h) (k_places_of h) (by decide +kernel)) (SG_name (x := "places") (by decide +kernel)))
    (SB_cons (SS_asg (SE_call (x := "next_highest") (j_next_highest h) (SL_cons (SE_name (x := "places") (by decide +kernel) (by decide +kernel)) (SL_cons (SE_name (x := "below") (by decide +kernel) (by decide +kernel)) SL_nil)) (by decide +kernel) (by decide +kernel) (g_next_highest h) (k_next_highest h) (by decide +kernel)) (SG_name (x := "place") (by decide +kernel)))
    (SB_cons (SS_while 100 (ST_cmp (SE_name (x := "place") (by decide +kernel) (by decide +kernel)) SE_none isNotR) (SB_cons (SS_asg (SE_name (x := "place") (by decide +kernel) (by decide +kernel)) (SG_tup (SGs_cons (SG_name (x := "begin") (by decide +kernel)) (SGs_cons (SG_name (x := "length") (by decide +kernel)) SGs_nil))) (hw := by intro env q; cases env; cases q; rfl))
    (SB_cons (SS_asg (SE_tup (SL_cons (SE_name (x := "begin") (by decide +kernel) (by decide +kernel)) (SL_cons (SE_bin (SE_name (x := "goal") (by decide +kernel) (by decide +kernel)) (SE_name (x := "length") (by decide +kernel) (by decide +kernel)) subR) SL_nil))) (SG_tup (SGs_cons (SG_name (x := "below") (by decide +kernel)) (SGs_cons (SG_name (x := "goal") (by decide +kernel)) SGs_nil))) (hw := by intro env q; cases env; cases q; rfl))
    (SB_cons (SS_do (SE_call (x := "write_octets") (j_write_octets h) (SL_cons (SE_name (x := "space") (by decide +kernel) (by decide +kernel)) (SL_cons (SE_name (x := "goal") (by decide +kernel) (by decide +kernel)) (SL_cons (SE_slc (SE_attr (x := "octets") (SE_name (x := "space") (by decide +kernel) (by decide +kernel)) (by decide +kernel)) (SP_some (SE_name (x := "begin") (by decide +kernel) (by decide +kernel))) (SP_some (SE_bin (SE_name (x := "begin") (by decide +kernel) (by decide +kernel)) (SE_name (x := "length") (by decide +kernel) (by decide +kernel)) addR))) SL_nil))) (by decide +kernel) (by decide +kernel) (g_write_octets h) (k_write_octets h) (by decide +kernel)))
    (SB_cons (SS_asg (SE_name (x := "goal") (by decide +kernel) (by decide +kernel)) (SG_sub (SE_name (x := "place") (by decide +kernel) (by decide +kernel)) SE_int))
    (SB_cons (SS_compUse (fv := ["below"]) (x := "other") (y := "places") ⟨rfl, rfl, by decide +kernel, by decide +kernel, by decide +kernel, by decide +kernel, by decide +kernel, by decide +kernel⟩ (SI_src (SE_name (x := "places") (by decide +kernel) (by decide +kernel))) plain_iSrc (STs_one (ST_cmp (SE_sub (SE_name (x := "other") (by decide +kernel) (by decide +kernel)) SE_int) (SE_name (x := "below") (by decide +kernel) (by decide +kernel)) ltR)) (SE_name (x := "other") (by decide +kernel) (by decide +kernel)) (by decide +kernel) (by intro env q; cases env; cases q; rfl))
    (SB_cons (SS_asg (SE_call (x := "next_highest") (j_next_highest h) (SL_cons (SE_name (x := "places") (by decide +kernel) (by decide +kernel)) (SL_cons (SE_name (x := "below") (by decide +kernel) (by decide +kernel)) SL_nil)) (by decide +kernel) (by decide +kernel) (g_next_highest h) (k_next_highest h) (by decide +kernel)) (SG_name (x := "place") (by decide +kernel)))
    SB_nil)))))))
    (SB_cons (SS_asg (SE_name (x := "goal") (by decide +kernel) (by decide +kernel)) (SG_attr (x := "free") (SE_name (x := "space") (by decide +kernel) (by decide +kernel)) (by decide +kernel)))
    (SB_cons (SS_aug (x := "collections") (by decide +kernel) (SE_name (x := "space") (by decide +kernel) (by decide +kernel)) SE_int iaddR)
    (SB_cons (SS_ret (SE_bin (SE_name (x := "goal") (by decide +kernel) (by decide +kernel)) (SE_name (x := "before") (by decide +kernel) (by decide +kernel)) subR))
    SB_nil))))))) (h.co_no (by kernel_rfl))

noncomputable def f_fre : List V → AH → Res V := fnA ["space"] (sSeq (sDo (eFn f_collect (lCons (eName "space") lNil)))
    (sSeq (sRet (eFn f_free_room (lCons (eName "space") lNil)))
    sSkip))
theorem j_fre (h : Ok C P) : FJ C 3 106 f_fre :=
  FJ_def (params := ["space"]) (lk h rfl) (cd h (by with_unfolding_all rfl)) (all1 fun _ => rfl) (by decide +kernel) (by decide +kernel) rfl rfl rfl
    (SB_cons (SS_do (SE_call (x := "collect") (j_collect h) (SL_cons (SE_name (x := "space") (by decide +kernel) (by decide +kernel)) SL_nil) (by decide +kernel) (by decide +kernel) (g_collect h) (k_collect h) (by decide +kernel)))
    (SB_cons (SS_ret (SE_call (x := "free_room") (j_free_room h) (SL_cons (SE_name (x := "space") (by decide +kernel) (by decide +kernel)) SL_nil) (by decide +kernel) (by decide +kernel) (g_free_room h) (k_free_room h) (by decide +kernel)))
    SB_nil)) (h.co_no (by kernel_rfl))

noncomputable def f_allocate : List V → AH → Res V := fnA ["space", "length"] (sSeq (sIf (tV (e2 vGt (eName "length") (eGlob 255))) (sSeq (sRaise (lCons (eStr "LS") (lCons (eName "length") lNil)))
    sSkip) sSkip)
    (sSeq (sIf (tV (e2 vLt (eFn f_free_room (lCons (eName "space") lNil)) (eName "length"))) (sSeq (sDo (eFn f_collect (lCons (eName "space") lNil)))
    sSkip) sSkip)
    (sSeq (sIf (tV (e2 vLt (eFn f_free_room (lCons (eName "space") lNil)) (eName "length"))) (sSeq (sRaise (lCons (eStr "OS") (lCons (eName "length") lNil)))
    sSkip) sSkip)
    (sSeq (sAug "free" vSub (eName "space") (eName "length"))
    (sSeq (sRet (eAttr "free" (eName "space")))
    sSkip)))))
theorem j_allocate (h : Ok C P) : FJ C 3 113 f_allocate :=
  FJ_def (params := ["space", "length"]) (lk h rfl) (cd h (by with_unfolding_all rfl)) (all2 fun _ _ => rfl) (by decide +kernel) (by decide +kernel) rfl rfl rfl
    (SB_cons (SS_if (ST_cmp (SE_name (x := "length") (by decide +kernel) (by decide +kernel)) (SE_glob (x := "LONGEST") (by decide +kernel) (g_LONGEST h) (by decide +kernel)) gtR) (SB_cons (SS_raise h.X (k_BasicError h) (SL_cons (SE_str (x := "LS")) (SL_cons (SE_name (x := "length") (by decide +kernel) (by decide +kernel)) SL_nil)) (by decide +kernel) (by decide +kernel) (g_BasicError h))
    SB_nil) SB_nil)
    (SB_cons (SS_if (ST_cmp (SE_call (x := "free_room") (j_free_room h) (SL_cons (SE_name (x := "space") (by decide +kernel) (by decide +kernel)) SL_nil) (by decide +kernel) (by decide +kernel) (g_free_room h) (k_free_room h) (by decide +kernel)) (SE_name (x := "length") (by decide +kernel) (by decide +kernel)) ltR) (SB_cons (SS_do (SE_call (x := "collect") (j_collect h) (SL_cons (SE_name (x := "space") (by decide +kernel) (by decide +kernel)) SL_nil) (by decide +kernel) (by decide +kernel) (g_collect h) (k_collect h) (by decide +kernel)))
    SB_nil) SB_nil)
    (SB_cons (SS_if (ST_cmp (SE_call (x := "free_room") (j_free_room h) (SL_cons (SE_name (x := "space") (by decide +kernel) (by decide +kernel)) SL_nil) (by decide +kernel) (by decide +kernel) (g_free_room h) (k_free_room h) (by decide +kernel)) (SE_name (x := "length") (by decide +kernel) (by decide +kernel)) ltR) (SB_cons (SS_raise h.X (k_BasicError h) (SL_cons (SE_str (x := "OS")) (SL_cons (SE_name (x := "length") (by decide +kernel) (by decide +kernel)) SL_nil)) (by decide +kernel) (by decide +kernel) (g_BasicError h))
    SB_nil) SB_nil)
    (SB_cons (SS_aug (x := "free") (by decide +kernel) (SE_name (x := "space") (by decide +kernel) (by decide +kernel)) (SE_name (x := "length") (by decide +kernel) (by decide +kernel)) isubR)
    (SB_cons (SS_ret (SE_attr (x := "free") (SE_name (x := "space") (by decide +kernel) (by decide +kernel)) (by decide +kernel)))
    SB_nil))))) (h.co_no (by kernel_rfl))

noncomputable def f_placed : List V → AH → Res V := fnA ["space", "text"] (sSeq (sAsg (eFn f_allocate (lCons (eName "space") (lCons (eFn bLen (lCons (eName "text") lNil)) lNil))) (gName "at"))
    (sSeq (sDo (eFn f_write_octets (lCons (eName "space") (lCons (eName "at") (lCons (eFn f_octets_of (lCons (eName "text") lNil)) lNil)))))
    (sSeq (sRet (eLstH (lCons (eName "at") (lCons (eFn bLen (lCons (eName "text") lNil)) lNil))))
    sSkip)))
theorem j_placed (h : Ok C P) : FJ C 4 120 f_placed :=
  FJ_def (params := ["space", "text"]) (lk h rfl) (cd h (by with_unfolding_all rfl)) (all2 fun _ _ => rfl) (by decide +kernel) (by decide +kernel) rfl rfl rfl
    (SB_cons (SS_asg (SE_call (x := "allocate") (j_allocate h) (SL_cons (SE_name (x := "space") (by decide +kernel) (by decide +kernel)) (SL_cons (SE_built (x := "len") lenB (SL_cons (SE_name (x := "text") (by decide +kernel) (by decide +kernel)) SL_nil) (by decide +kernel) (g_len h) (by decide +kernel) (by decide +kernel) (by decide +kernel)) SL_nil)) (by decide +kernel) (by decide +kernel) (g_allocate h) (k_allocate h) (by decide +kernel)) (SG_name (x := "at") (by decide +kernel)))
    (SB_cons (SS_do (SE_call (x := "write_octets") (j_write_octets h) (SL_cons (SE_name (x := "space") (by decide +kernel) (by decide +kernel)) (SL_cons (SE_name (x := "at") (by decide +kernel) (by decide +kernel)) (SL_cons (SE_call (x := "octets_of") (j_octets_of h) (SL_cons (SE_name (x := "text") (by decide +kernel) (by decide +kernel)) SL_nil) (by decide +kernel) (by decide +kernel) (g_octets_of h) (k_octets_of h) (by decide +kernel)) SL_nil))) (by decide +kernel) (by decide +kernel) (g_write_octets h) (k_write_octets h) (by decide +kernel)))
    (SB_cons (SS_ret (SE_lstH (SL_cons (SE_name (x := "at") (by decide +kernel) (by decide +kernel)) (SL_cons (SE_built (x := "len") lenB (SL_cons (SE_name (x := "text") (by decide +kernel) (by decide +kernel)) SL_nil) (by decide +kernel) (g_len h) (by decide +kernel) (by decide +kernel) (by decide +kernel)) SL_nil))))
    SB_nil))) (h.co_no (by kernel_rfl))

noncomputable def f_assign_text : List V → AH → Res V := fnA ["space", "name", "text"] (sSeq (sAsg (eFn f_placed (lCons (eName "space") (lCons (eName "text") lNil))) (gSub (eAttr "held" (eName "space")) (eName "name")))
    sSkip)
theorem j_assign_text (h : Ok C P) : FJ C 5 127 f_assign_text :=
  FJ_def (params := ["space", "name", "text"]) (lk h rfl) (cd h (by with_unfolding_all rfl)) (all3 fun _ _ _ => rfl) (by decide +kernel) (by decide +kernel) rfl rfl rfl
    (SB_cons (SS_asg (SE_call (x := "placed") (j_placed h) (SL_cons (SE_name (x := "space") (by decide +kernel) (by decide +kernel)) (SL_cons (SE_name (x := "text") (by decide +kernel) (by decide +kernel)) SL_nil)) (by decide +kernel) (by decide +kernel) (g_placed h) (k_placed h) (by decide +kernel)) (SG_sub (SE_attr (x := "held") (SE_name (x := "space") (by decide +kernel) (by decide +kernel)) (by decide +kernel)) (SE_name (x := "name") (by decide +kernel) (by decide +kernel))))
    SB_nil) (h.co_no (by kernel_rfl))

noncomputable def f_text_of : List V → AH → Res V := fnA ["space", "name"] (sSeq (sRet (eIf (tV (e2 vIn (eName "name") (eAttr "held" (eName "space")))) (eFn f_text_at (lCons (eName "space") (lCons (eSub (eAttr "held" (eName "space")) (eName "name")) lNil))) (eStr "")))
    sSkip)
theorem j_text_of (h : Ok C P) : FJ C 2 134 f_text_of :=
  FJ_def (params := ["space", "name"]) (lk h rfl) (cd h (by with_unfolding_all rfl)) (all2 fun _ _ => rfl) (by decide +kernel) (by decide +kernel) rfl rfl rfl
    (SB_cons (SS_ret (SE_if (ST_cmp (SE_name (x := "name") (by decide +kernel) (by decide +kernel)) (SE_attr (x := "held") (SE_name (x := "space") (by decide +kernel) (by decide +kernel)) (by decide +kernel)) inR) (SE_call (x := "text_at") (j_text_at h) (SL_cons (SE_name (x := "space") (by decide +kernel) (by decide +kernel)) (SL_cons (SE_sub (SE_attr (x := "held") (SE_name (x := "space") (by decide +kernel) (by decide +kernel)) (by decide +kernel)) (SE_name (x := "name") (by decide +kernel) (by decide +kernel))) SL_nil)) (by decide +kernel) (by decide +kernel) (g_text_at h) (k_text_at h) (by decide +kernel)) (SE_str (x := ""))))
    SB_nil) (h.co_no (by kernel_rfl))

noncomputable def f_forget : List V → AH → Res V := fnA ["space", "name"] (sSeq (sDo (eMeth isD (eAttr "held" (eName "space")) (lCons (eName "name") (lCons eNone lNil)) mPopD))
    sSkip)
theorem j_forget (h : Ok C P) : FJ C 1 141 f_forget :=
  FJ_def (params := ["space", "name"]) (lk h rfl) (cd h (by with_unfolding_all rfl)) (all2 fun _ _ => rfl) (by decide +kernel) (by decide +kernel) rfl rfl rfl
    (SB_cons (SS_do (SE_meth (x := "pop") (SE_attr (x := "held") (SE_name (x := "space") (by decide +kernel) (by decide +kernel)) (by decide +kernel)) (SL_cons (SE_name (x := "name") (by decide +kernel) (by decide +kernel)) (SL_cons SE_none SL_nil)) popDM chkD PySem.F.plainAttrs_dict PySem.F.slot_dict_pop PySem.F.type_dict_pop (hline := by decide +kernel)))
    SB_nil) (h.co_no (by kernel_rfl))

noncomputable def f_swap_texts : List V → AH → Res V := fnA ["space", "one", "other"] (sSeq (sAsg (eTup (lCons (eMeth isD (eAttr "held" (eName "space")) (lCons (eName "one") (lCons (eLstH (lCons (eAttr "size" (eName "space")) (lCons (eInt 0) lNil))) lNil)) mGet) (lCons (eMeth isD (eAttr "held" (eName "space")) (lCons (eName "other") (lCons (eLstH (lCons (eAttr "size" (eName "space")) (lCons (eInt 0) lNil))) lNil)) mGet) lNil))) (gSwap ["first", "last"]))
    (sSeq (sAsg (eTup (lCons (eName "last") (lCons (eName "first") lNil))) (gTup 2 (gsCons (gSub (eAttr "held" (eName "space")) (eName "one")) (gsCons (gSub (eAttr "held" (eName "space")) (eName "other")) gsNil))))
    sSkip))
theorem j_swap_texts (h : Ok C P) : FJ C 1 148 f_swap_texts :=
  FJ_def (params := ["space", "one", "other"]) (lk h rfl) (cd h (by with_unfolding_all rfl)) (all3 fun _ _ _ => rfl) (by decide +kernel) (by decide +kernel) rfl rfl rfl
    (SB_cons (SS_swap (names := ["first", "last"]) (SE_tup (SL_cons (SE_meth (x := "get") (SE_attr (x := "held") (SE_name (x := "space") (by decide +kernel) (by decide +kernel)) (by decide +kernel)) (SL_cons (SE_name (x := "one") (by decide +kernel) (by decide +kernel)) (SL_cons (SE_lstH (SL_cons (SE_attr (x := "size") (SE_name (x := "space") (by decide +kernel) (by decide +kernel)) (by decide +kernel)) (SL_cons SE_int SL_nil))) SL_nil)) getM chkD PySem.F.plainAttrs_dict PySem.F.slot_dict_get PySem.F.type_dict_get (hline := by decide +kernel)) (SL_cons (SE_meth (x := "get") (SE_attr (x := "held") (SE_name (x := "space") (by decide +kernel) (by decide +kernel)) (by decide +kernel)) (SL_cons (SE_name (x := "other") (by decide +kernel) (by decide +kernel)) (SL_cons (SE_lstH (SL_cons (SE_attr (x := "size") (SE_name (x := "space") (by decide +kernel) (by decide +kernel)) (by decide +kernel)) (SL_cons SE_int SL_nil))) SL_nil)) getM chkD PySem.F.plainAttrs_dict PySem.F.slot_dict_get PySem.F.type_dict_get (hline := by decide +kernel)) SL_nil))) (hw := by intro env q; cases env; cases q; rfl) (ha := by decide +kernel))
    (SB_cons (SS_asg (SE_tup (SL_cons (SE_name (x := "last") (by decide +kernel) (by decide +kernel)) (SL_cons (SE_name (x := "first") (by decide +kernel) (by decide +kernel)) SL_nil))) (SG_tup (SGs_cons (SG_sub (SE_attr (x := "held") (SE_name (x := "space") (by decide +kernel) (by decide +kernel)) (by decide +kernel)) (SE_name (x := "one") (by decide +kernel) (by decide +kernel))) (SGs_cons (SG_sub (SE_attr (x := "held") (SE_name (x := "space") (by decide +kernel) (by decide +kernel)) (by decide +kernel)) (SE_name (x := "other") (by decide +kernel) (by decide +kernel))) SGs_nil))) (hw := by intro env q; cases env; cases q; rfl))
    SB_nil)) (h.co_no (by kernel_rfl))

end
section
variable {C : Cx} {P : Params}
noncomputable def f_push_waiting : List V → AH → Res V := fnA ["space", "text"] (sSeq (sIf (tV (e2 vGe (eFn bLen (lCons (eAttr "waiting" (eName "space")) lNil)) (eAttr "most_waiting" (eName "space")))) (sSeq (sRaise (lCons (eStr "ST") (lCons (eFn bLen (lCons (eAttr "waiting" (eName "space")) lNil)) lNil)))
    sSkip) sSkip)
    (sSeq (sDo (eMeth isL (eAttr "waiting" (eName "space")) (lCons (eFn f_placed (lCons (eName "space") (lCons (eName "text") lNil))) lNil) mAppend))
    sSkip))
theorem j_push_waiting (h : Ok C P) : FJ C 5 155 f_push_waiting :=
  FJ_def (params := ["space", "text"]) (lk h rfl) (cd h (by with_unfolding_all rfl)) (all2 fun _ _ => rfl) (by decide +kernel) (by decide +kernel) rfl rfl rfl
    (SB_cons (SS_if (ST_cmp (SE_built (x := "len") lenB (SL_cons (SE_attr (x := "waiting") (SE_name (x := "space") (by decide +kernel) (by decide +kernel)) (by decide +kernel)) SL_nil) (by decide +kernel) (g_len h) (by decide +kernel) (by decide +kernel) (by decide +kernel)) (SE_attr (x := "most_waiting") (SE_name (x := "space") (by decide +kernel) (by decide +kernel)) (by decide +kernel)) geR) (SB_cons (SS_raise h.X (k_BasicError h) (SL_cons (SE_str (x := "ST")) (SL_cons (SE_built (x := "len") lenB (SL_cons (SE_attr (x := "waiting") (SE_name (x := "space") (by decide +kernel) (by decide +kernel)) (by decide +kernel)) SL_nil) (by decide +kernel) (g_len h) (by decide +kernel) (by decide +kernel) (by decide +kernel)) SL_nil)) (by decide +kernel) (by decide +kernel) (g_BasicError h))
    SB_nil) SB_nil)
    (SB_cons (SS_do (SE_meth (x := "append") (SE_attr (x := "waiting") (SE_name (x := "space") (by decide +kernel) (by decide +kernel)) (by decide +kernel)) (SL_cons (SE_call (x := "placed") (j_placed h) (SL_cons (SE_name (x := "space") (by decide +kernel) (by decide +kernel)) (SL_cons (SE_name (x := "text") (by decide +kernel) (by decide +kernel)) SL_nil)) (by decide +kernel) (by decide +kernel) (g_placed h) (k_placed h) (by decide +kernel)) SL_nil) appendM chkL PySem.F.plainAttrs_list PySem.F.slot_list_append PySem.F.type_list_append (hline := by decide +kernel)))
    SB_nil)) (h.co_no (by kernel_rfl))

noncomputable def f_pop_waiting : List V → AH → Res V := fnA ["space"] (sSeq (sAsg (eMeth isL (eAttr "waiting" (eName "space")) lNil mPop) (gName "place"))
    (sSeq (sAsg (eFn f_text_at (lCons (eName "space") (lCons (eName "place") lNil))) (gName "found"))
    (sSeq (sIf (tAnd (tV (e2 vGt (eSub (eName "place") (eInt 1)) (eInt 0))) (tAnd (tV (e2 vEq (eSub (eName "place") (eInt 0)) (eAttr "free" (eName "space")))) (fun _ σ => .ok true σ))) (sSeq (sAug "free" vIAdd (eName "space") (eSub (eName "place") (eInt 1)))
    sSkip) sSkip)
    (sSeq (sRet (eName "found"))
    sSkip))))
theorem j_pop_waiting (h : Ok C P) : FJ C 2 162 f_pop_waiting :=
  FJ_def (params := ["space"]) (lk h rfl) (cd h (by with_unfolding_all rfl)) (all1 fun _ => rfl) (by decide +kernel) (by decide +kernel) rfl rfl rfl
    (SB_cons (SS_asg (SE_meth0 (x := "pop") (SE_attr (x := "waiting") (SE_name (x := "space") (by decide +kernel) (by decide +kernel)) (by decide +kernel)) popM chkL PySem.F.plainAttrs_list PySem.F.slot_list_pop PySem.F.type_list_pop (hline := by decide +kernel)) (SG_name (x := "place") (by decide +kernel)))
    (SB_cons (SS_asg (SE_call (x := "text_at") (j_text_at h) (SL_cons (SE_name (x := "space") (by decide +kernel) (by decide +kernel)) (SL_cons (SE_name (x := "place") (by decide +kernel) (by decide +kernel)) SL_nil)) (by decide +kernel) (by decide +kernel) (g_text_at h) (k_text_at h) (by decide +kernel)) (SG_name (x := "found") (by decide +kernel)))
    (SB_cons (SS_if (ST_bool (SAll_and (ST_cmp (SE_sub (SE_name (x := "place") (by decide +kernel) (by decide +kernel)) SE_int) SE_int gtR) (SAll_and (ST_cmp (SE_sub (SE_name (x := "place") (by decide +kernel) (by decide +kernel)) SE_int) (SE_attr (x := "free") (SE_name (x := "space") (by decide +kernel) (by decide +kernel)) (by decide +kernel)) eqR) SAll_and0))) (SB_cons (SS_aug (x := "free") (by decide +kernel) (SE_name (x := "space") (by decide +kernel) (by decide +kernel)) (SE_sub (SE_name (x := "place") (by decide +kernel) (by decide +kernel)) SE_int) iaddR)
    SB_nil) SB_nil)
    (SB_cons (SS_ret (SE_name (x := "found") (by decide +kernel) (by decide +kernel)))
    SB_nil)))) (h.co_no (by kernel_rfl))

noncomputable def f_join_waiting : List V → AH → Res V := fnA ["space"] (sSeq (sAsg (eTup (lCons (eSub (eAttr "waiting" (eName "space")) (eNeg (eInt 1))) (lCons (eSub (eAttr "waiting" (eName "space")) (eNeg (eInt 2))) lNil))) (gSwap ["other", "one"]))
    (sSeq (sIf (tV (e2 vGt (e2 vAdd (eSub (eName "one") (eInt 1)) (eSub (eName "other") (eInt 1))) (eGlob 255))) (sSeq (sRaise (lCons (eStr "LS") (lCons (e2 vAdd (eSub (eName "one") (eInt 1)) (eSub (eName "other") (eInt 1))) lNil)))
    sSkip) sSkip)
    (sSeq (sAsg (eFn f_allocate (lCons (eName "space") (lCons (e2 vAdd (eSub (eName "one") (eInt 1)) (eSub (eName "other") (eInt 1))) lNil))) (gName "at"))
    (sSeq (sDo (eFn f_write_octets (lCons (eName "space") (lCons (eName "at") (lCons (eFn f_octets_of (lCons (e2 vAdd (eFn f_text_at (lCons (eName "space") (lCons (eName "one") lNil))) (eFn f_text_at (lCons (eName "space") (lCons (eName "other") lNil)))) lNil)) lNil)))))
    (sSeq (sAsg (eLstV (lCons (eLstH (lCons (eName "at") (lCons (e2 vAdd (eSub (eName "one") (eInt 1)) (eSub (eName "other") (eInt 1))) lNil))) lNil)) (gSlc (eAttr "waiting" (eName "space")) (eNeg (eInt 2)) eNone))
    sSkip)))))
theorem j_join_waiting (h : Ok C P) : FJ C 4 169 f_join_waiting :=
  FJ_def (params := ["space"]) (lk h rfl) (cd h (by with_unfolding_all rfl)) (all1 fun _ => rfl) (by decide +kernel) (by decide +kernel) rfl rfl rfl
    (SB_cons (SS_swap (names := ["other", "one"]) (SE_tup (SL_cons (SE_sub (SE_attr (x := "waiting") (SE_name (x := "space") (by decide +kernel) (by decide +kernel)) (by decide +kernel)) (SE_neg SE_int)) (SL_cons (SE_sub (SE_attr (x := "waiting") (SE_name (x := "space") (by decide +kernel) (by decide +kernel)) (by decide +kernel)) (SE_neg SE_int)) SL_nil))) (hw := by intro env q; cases env; cases q; rfl) (ha := by decide +kernel))
    (SB_cons (SS_if (ST_cmp (SE_bin (SE_sub (SE_name (x := "one") (by decide +kernel) (by decide +kernel)) SE_int) (SE_sub (SE_name (x := "other") (by decide +kernel) (by decide +kernel)) SE_int) addR) (SE_glob (x := "LONGEST") (by decide +kernel) (g_LONGEST h) (by decide +kernel)) gtR) (SB_cons (SS_raise h.X (k_BasicError h) (SL_cons (SE_str (x := "LS")) (SL_cons (SE_bin (SE_sub (SE_name (x := "one") (by decide +kernel) (by decide +kernel)) SE_int) (SE_sub (SE_name (x := "other") (by decide +kernel) (by decide +kernel)) SE_int) addR) SL_nil)) (by decide +kernel) (by decide +kernel) (g_BasicError h))
    SB_nil) SB_nil)
    (SB_cons (SS_asg (SE_call (x := "allocate") (j_allocate h) (SL_cons (SE_name (x := "space") (by decide +kernel) (by decide +kernel)) (SL_cons (SE_bin (SE_sub (SE_name (x := "one") (by decide +kernel) (by decide +kernel)) SE_int) (SE_sub (SE_name (x := "other") (by decide +kernel) (by decide +kernel)) SE_int) addR) SL_nil)) (by decide +kernel) (by decide +kernel) (g_allocate h) (k_allocate h) (by decide +kernel)) (SG_name (x := "at") (by decide +kernel)))
    (SB_cons (SS_do (SE_call (x := "write_octets") (j_write_octets h) (SL_cons (SE_name (x := "space") (by decide +kernel) (by decide +kernel)) (SL_cons (SE_name (x := "at") (by decide +kernel) (by decide +kernel)) (SL_cons (SE_call (x := "octets_of") (j_octets_of h) (SL_cons (SE_bin (SE_call (x := "text_at") (j_text_at h) (SL_cons (SE_name (x := "space") (by decide +kernel) (by decide +kernel)) (SL_cons (SE_name (x := "one") (by decide +kernel) (by decide +kernel)) SL_nil)) (by decide +kernel) (by decide +kernel) (g_text_at h) (k_text_at h) (by decide +kernel)) (SE_call (x := "text_at") (j_text_at h) (SL_cons (SE_name (x := "space") (by decide +kernel) (by decide +kernel)) (SL_cons (SE_name (x := "other") (by decide +kernel) (by decide +kernel)) SL_nil)) (by decide +kernel) (by decide +kernel) (g_text_at h) (k_text_at h) (by decide +kernel)) addR) SL_nil) (by decide +kernel) (by decide +kernel) (g_octets_of h) (k_octets_of h) (by decide +kernel)) SL_nil))) (by decide +kernel) (by decide +kernel) (g_write_octets h) (k_write_octets h) (by decide +kernel)))
    (SB_cons (SS_asg (SE_lstV (SL_cons (SE_lstH (SL_cons (SE_name (x := "at") (by decide +kernel) (by decide +kernel)) (SL_cons (SE_bin (SE_sub (SE_name (x := "one") (by decide +kernel) (by decide +kernel)) SE_int) (SE_sub (SE_name (x := "other") (by decide +kernel) (by decide +kernel)) SE_int) addR) SL_nil))) SL_nil)) (SG_slc (SE_attr (x := "waiting") (SE_name (x := "space") (by decide +kernel) (by decide +kernel)) (by decide +kernel)) (SP_some (SE_neg SE_int)) SP_none))
    SB_nil))))) (h.co_no (by kernel_rfl))

noncomputable def f_keep_waiting : List V → AH → Res V := fnA ["space", "name"] (sSeq (sAsg (eMeth isL (eAttr "waiting" (eName "space")) lNil mPop) (gSub (eAttr "held" (eName "space")) (eName "name")))
    sSkip)
theorem j_keep_waiting (h : Ok C P) : FJ C 1 176 f_keep_waiting :=
  FJ_def (params := ["space", "name"]) (lk h rfl) (cd h (by with_unfolding_all rfl)) (all2 fun _ _ => rfl) (by decide +kernel) (by decide +kernel) rfl rfl rfl
    (SB_cons (SS_asg (SE_meth0 (x := "pop") (SE_attr (x := "waiting") (SE_name (x := "space") (by decide +kernel) (by decide +kernel)) (by decide +kernel)) popM chkL PySem.F.plainAttrs_list PySem.F.slot_list_pop PySem.F.type_list_pop (hline := by decide +kernel)) (SG_sub (SE_attr (x := "held") (SE_name (x := "space") (by decide +kernel) (by decide +kernel)) (by decide +kernel)) (SE_name (x := "name") (by decide +kernel) (by decide +kernel))))
    SB_nil) (h.co_no (by kernel_rfl))

noncomputable def f_write_within : List V → AH → Res V := fnA ["space", "name", "spot", "text"] (sSeq (sAsg (eMeth isD (eAttr "held" (eName "space")) (lCons (eName "name") (lCons (eLstH (lCons (eAttr "size" (eName "space")) (lCons (eInt 0) lNil))) lNil)) mGet) (gName "place"))
    (sSeq (sIf (tNot (tChain vLe vLe (eInt 1) (eName "spot") (eSub (eName "place") (eInt 1)))) (sSeq (sRaise (lCons (eStr "FC") (lCons (eName "spot") lNil)))
    sSkip) sSkip)
    (sSeq (sDo (eFn f_write_octets (lCons (eName "space") (lCons (e2 vSub (e2 vAdd (eSub (eName "place") (eInt 0)) (eName "spot")) (eInt 1)) (lCons (eSlc (eFn f_octets_of (lCons (eName "text") lNil)) eNone (e2 vAdd (e2 vSub (eSub (eName "place") (eInt 1)) (eName "spot")) (eInt 1))) lNil)))))
    sSkip)))
theorem j_write_within (h : Ok C P) : FJ C 3 183 f_write_within :=
  FJ_def (params := ["space", "name", "spot", "text"]) (lk h rfl) (cd h (by with_unfolding_all rfl)) (all4 fun _ _ _ _ => rfl) (by decide +kernel) (by decide +kernel) rfl rfl rfl
    (SB_cons (SS_asg (SE_meth (x := "get") (SE_attr (x := "held") (SE_name (x := "space") (by decide +kernel) (by decide +kernel)) (by decide +kernel)) (SL_cons (SE_name (x := "name") (by decide +kernel) (by decide +kernel)) (SL_cons (SE_lstH (SL_cons (SE_attr (x := "size") (SE_name (x := "space") (by decide +kernel) (by decide +kernel)) (by decide +kernel)) (SL_cons SE_int SL_nil))) SL_nil)) getM chkD PySem.F.plainAttrs_dict PySem.F.slot_dict_get PySem.F.type_dict_get (hline := by decide +kernel)) (SG_name (x := "place") (by decide +kernel)))
    (SB_cons (SS_if (ST_not (ST_chain SE_int (SE_name (x := "spot") (by decide +kernel) (by decide +kernel)) (SE_sub (SE_name (x := "place") (by decide +kernel) (by decide +kernel)) SE_int) leR leR)) (SB_cons (SS_raise h.X (k_BasicError h) (SL_cons (SE_str (x := "FC")) (SL_cons (SE_name (x := "spot") (by decide +kernel) (by decide +kernel)) SL_nil)) (by decide +kernel) (by decide +kernel) (g_BasicError h))
    SB_nil) SB_nil)
    (SB_cons (SS_do (SE_call (x := "write_octets") (j_write_octets h) (SL_cons (SE_name (x := "space") (by decide +kernel) (by decide +kernel)) (SL_cons (SE_bin (SE_bin (SE_sub (SE_name (x := "place") (by decide +kernel) (by decide +kernel)) SE_int) (SE_name (x := "spot") (by decide +kernel) (by decide +kernel)) addR) SE_int subR) (SL_cons (SE_slc (SE_call (x := "octets_of") (j_octets_of h) (SL_cons (SE_name (x := "text") (by decide +kernel) (by decide +kernel)) SL_nil) (by decide +kernel) (by decide +kernel) (g_octets_of h) (k_octets_of h) (by decide +kernel)) SP_none (SP_some (SE_bin (SE_bin (SE_sub (SE_name (x := "place") (by decide +kernel) (by decide +kernel)) SE_int) (SE_name (x := "spot") (by decide +kernel) (by decide +kernel)) subR) SE_int addR))) SL_nil))) (by decide +kernel) (by decide +kernel) (g_write_octets h) (k_write_octets h) (by decide +kernel)))
    SB_nil))) (h.co_no (by kernel_rfl))

noncomputable def f_set_left : List V → AH → Res V := fnA ["space", "name", "text"] (sSeq (sAsg (eMeth isD (eAttr "held" (eName "space")) (lCons (eName "name") (lCons (eLstH (lCons (eAttr "size" (eName "space")) (lCons (eInt 0) lNil))) lNil)) mGet) (gName "place"))
    (sSeq (sDo (eFn f_write_octets (lCons (eName "space") (lCons (eSub (eName "place") (eInt 0)) (lCons (eSlc (e2 vAdd (eFn f_octets_of (lCons (eName "text") lNil)) (eRepV (eGlob 32) (eSub (eName "place") (eInt 1)))) eNone (eSub (eName "place") (eInt 1))) lNil)))))
    sSkip))
theorem j_set_left (h : Ok C P) : FJ C 2 190 f_set_left :=
  FJ_def (params := ["space", "name", "text"]) (lk h rfl) (cd h (by with_unfolding_all rfl)) (all3 fun _ _ _ => rfl) (by decide +kernel) (by decide +kernel) rfl rfl rfl
    (SB_cons (SS_asg (SE_meth (x := "get") (SE_attr (x := "held") (SE_name (x := "space") (by decide +kernel) (by decide +kernel)) (by decide +kernel)) (SL_cons (SE_name (x := "name") (by decide +kernel) (by decide +kernel)) (SL_cons (SE_lstH (SL_cons (SE_attr (x := "size") (SE_name (x := "space") (by decide +kernel) (by decide +kernel)) (by decide +kernel)) (SL_cons SE_int SL_nil))) SL_nil)) getM chkD PySem.F.plainAttrs_dict PySem.F.slot_dict_get PySem.F.type_dict_get (hline := by decide +kernel)) (SG_name (x := "place") (by decide +kernel)))
    (SB_cons (SS_do (SE_call (x := "write_octets") (j_write_octets h) (SL_cons (SE_name (x := "space") (by decide +kernel) (by decide +kernel)) (SL_cons (SE_sub (SE_name (x := "place") (by decide +kernel) (by decide +kernel)) SE_int) (SL_cons (SE_slc (SE_bin (SE_call (x := "octets_of") (j_octets_of h) (SL_cons (SE_name (x := "text") (by decide +kernel) (by decide +kernel)) SL_nil) (by decide +kernel) (by decide +kernel) (g_octets_of h) (k_octets_of h) (by decide +kernel)) (SE_repV (SE_glob (x := "BLANK") (by decide +kernel) (g_BLANK h) (by decide +kernel)) (SE_sub (SE_name (x := "place") (by decide +kernel) (by decide +kernel)) SE_int)) addR) SP_none (SP_some (SE_sub (SE_name (x := "place") (by decide +kernel) (by decide +kernel)) SE_int))) SL_nil))) (by decide +kernel) (by decide +kernel) (g_write_octets h) (k_write_octets h) (by decide +kernel)))
    SB_nil)) (h.co_no (by kernel_rfl))

noncomputable def f_set_right : List V → AH → Res V := fnA ["space", "name", "text"] (sSeq (sAsg (eMeth isD (eAttr "held" (eName "space")) (lCons (eName "name") (lCons (eLstH (lCons (eAttr "size" (eName "space")) (lCons (eInt 0) lNil))) lNil)) mGet) (gName "place"))
    (sSeq (sAsg (eSlc (eFn f_octets_of (lCons (eName "text") lNil)) eNone (eSub (eName "place") (eInt 1))) (gName "octets"))
    (sSeq (sDo (eFn f_write_octets (lCons (eName "space") (lCons (eSub (eName "place") (eInt 0)) (lCons (e2 vAdd (eRepV (eGlob 32) (e2 vSub (eSub (eName "place") (eInt 1)) (eFn bLen (lCons (eName "octets") lNil)))) (eName "octets")) lNil)))))
    sSkip)))
theorem j_set_right (h : Ok C P) : FJ C 2 197 f_set_right :=
  FJ_def (params := ["space", "name", "text"]) (lk h rfl) (cd h (by with_unfolding_all rfl)) (all3 fun _ _ _ => rfl) (by decide +kernel) (by decide +kernel) rfl rfl rfl
    (SB_cons (SS_asg (SE_meth (x := "get") (SE_attr (x := "held") (SE_name (x := "space") (by decide +kernel) (by decide +kernel)) (by decide +kernel)) (SL_cons (SE_name (x := "name") (by decide +kernel) (by decide +kernel)) (SL_cons (SE_lstH (SL_cons (SE_attr (x := "size") (SE_name (x := "space") (by decide +kernel) (by decide +kernel)) (by decide +kernel)) (SL_cons SE_int SL_nil))) SL_nil)) getM chkD PySem.F.plainAttrs_dict PySem.F.slot_dict_get PySem.F.type_dict_get (hline := by decide +kernel)) (SG_name (x := "place") (by decide +kernel)))
    (SB_cons (SS_asg (SE_slc (SE_call (x := "octets_of") (j_octets_of h) (SL_cons (SE_name (x := "text") (by decide +kernel) (by decide +kernel)) SL_nil) (by decide +kernel) (by decide +kernel) (g_octets_of h) (k_octets_of h) (by decide +kernel)) SP_none (SP_some (SE_sub (SE_name (x := "place") (by decide +kernel) (by decide +kernel)) SE_int))) (SG_name (x := "octets") (by decide +kernel)))
    (SB_cons (SS_do (SE_call (x := "write_octets") (j_write_octets h) (SL_cons (SE_name (x := "space") (by decide +kernel) (by decide +kernel)) (SL_cons (SE_sub (SE_name (x := "place") (by decide +kernel) (by decide +kernel)) SE_int) (SL_cons (SE_bin (SE_repV (SE_glob (x := "BLANK") (by decide +kernel) (g_BLANK h) (by decide +kernel)) (SE_bin (SE_sub (SE_name (x := "place") (by decide +kernel) (by decide +kernel)) SE_int) (SE_built (x := "len") lenB (SL_cons (SE_name (x := "octets") (by decide +kernel) (by decide +kernel)) SL_nil) (by decide +kernel) (g_len h) (by decide +kernel) (by decide +kernel) (by decide +kernel)) subR)) (SE_name (x := "octets") (by decide +kernel) (by decide +kernel)) addR) SL_nil))) (by decide +kernel) (by decide +kernel) (g_write_octets h) (k_write_octets h) (by decide +kernel)))
    SB_nil))) (h.co_no (by kernel_rfl))

noncomputable def f_is_sound : List V → AH → Res V := fnA ["space"] (sSeq (sAsg (eFn bSorted (lCons (eComp [] "place" (iSrc (eFn f_places_of (lCons (eName "space") lNil))) tTrue (eTup (lCons (eSub (eName "place") (eInt 0)) (lCons (e2 vAdd (eSub (eName "place") (eInt 0)) (eSub (eName "place") (eInt 1))) lNil)))) lNil)) (gName "found"))
    (sSeq (sFor (iEnum (eName "found")) (gTup 2 (gsCons (gName "at") (gsCons (gTup 2 (gsCons (gName "begin") (gsCons (gName "end") gsNil))) gsNil))) (sSeq (sIf (tOr (tV (e2 vLt (eName "begin") (eAttr "free" (eName "space")))) (tOr (tV (e2 vGt (eName "end") (eAttr "size" (eName "space")))) (tOr (tAnd (tV (e2 vGt (eName "at") (eInt 0))) (tAnd (tV (e2 vLt (eName "begin") (eSub (eSub (eName "found") (e2 vSub (eName "at") (eInt 1))) (eInt 1)))) (fun _ σ => .ok true σ))) (fun _ σ => .ok false σ)))) (sSeq (sRet (eBool false))
    sSkip) sSkip)
    sSkip))
    (sSeq (sRet (e2 vLe (eAttr "low" (eName "space")) (eAttr "free" (eName "space"))))
    sSkip)))
theorem j_is_sound (h : Ok C P) : FJ C 2 202 f_is_sound :=
  FJ_def (params := ["space"]) (lk h rfl) (cd h (by with_unfolding_all rfl)) (all1 fun _ => rfl) (by decide +kernel) (by decide +kernel) rfl rfl rfl
    (SB_cons (SS_asg (SE_built (x := "sorted") sortedB (SL_cons (SE_comp (fv := []) (x := "place") ⟨rfl, rfl, by decide +kernel, by decide +kernel, by decide +kernel, by decide +kernel, by decide +kernel, by decide +kernel⟩ (SI_src (SE_call (x := "places_of") (j_places_of h) (SL_cons (SE_name (x := "space") (by decide +kernel) (by decide +kernel)) SL_nil) (by decide +kernel) (by decide +kernel) (g_places_of h) (k_places_of h) (by decide +kernel))) plain_iSrc STs_nil (SE_tup (SL_cons (SE_sub (SE_name (x := "place") (by decide +kernel) (by decide +kernel)) SE_int) (SL_cons (SE_bin (SE_sub (SE_name (x := "place") (by decide +kernel) (by decide +kernel)) SE_int) (SE_sub (SE_name (x := "place") (by decide +kernel) (by decide +kernel)) SE_int) addR) SL_nil)))) SL_nil) (by decide +kernel) (g_sorted h) (by decide +kernel) (by decide +kernel) (by decide +kernel)) (SG_name (x := "found") (by decide +kernel)))
    (SB_cons (SS_for (SI_enum (SE_name (x := "found") (by decide +kernel) (by decide +kernel)) (by decide +kernel) (g_enumerate h)) (SG_tup (SGs_cons (SG_name (x := "at") (by decide +kernel)) (SGs_cons (SG_tup (SGs_cons (SG_name (x := "begin") (by decide +kernel)) (SGs_cons (SG_name (x := "end") (by decide +kernel)) SGs_nil))) SGs_nil))) (SB_cons (SS_if (ST_bool (SAll_or (ST_cmp (SE_name (x := "begin") (by decide +kernel) (by decide +kernel)) (SE_attr (x := "free") (SE_name (x := "space") (by decide +kernel) (by decide +kernel)) (by decide +kernel)) ltR) (SAll_or (ST_cmp (SE_name (x := "end") (by decide +kernel) (by decide +kernel)) (SE_attr (x := "size") (SE_name (x := "space") (by decide +kernel) (by decide +kernel)) (by decide +kernel)) gtR) (SAll_or (ST_bool (SAll_and (ST_cmp (SE_name (x := "at") (by decide +kernel) (by decide +kernel)) SE_int gtR) (SAll_and (ST_cmp (SE_name (x := "begin") (by decide +kernel) (by decide +kernel)) (SE_sub (SE_sub (SE_name (x := "found") (by decide +kernel) (by decide +kernel)) (SE_bin (SE_name (x := "at") (by decide +kernel) (by decide +kernel)) SE_int subR)) SE_int) ltR) SAll_and0))) SAll_or0)))) (SB_cons (SS_ret SE_bool)
    SB_nil) SB_nil)
    SB_nil) TgtOk.tuple enum_iEnum)
    (SB_cons (SS_ret (SE_cmp (SE_attr (x := "low") (SE_name (x := "space") (by decide +kernel) (by decide +kernel)) (by decide +kernel)) (SE_attr (x := "free") (SE_name (x := "space") (by decide +kernel) (by decide +kernel)) (by decide +kernel)) leR))
    SB_nil))) (h.co_no (by kernel_rfl))

noncomputable def f_Space__init__ : List V → AH → Res V := fnA ["self", "size", "most_waiting"] (sSeq (sAsg (eName "size") (gAttr "size" (eName "self")))
    (sSeq (sAsg (eRepH (eInt 0) (eName "size")) (gAttr "octets" (eName "self")))
    (sSeq (sAsg (eInt 0) (gAttr "low" (eName "self")))
    (sSeq (sAsg (eName "size") (gAttr "free" (eName "self")))
    (sSeq (sAsg eDict0 (gAttr "held" (eName "self")))
    (sSeq (sAsg (eLstH lNil) (gAttr "waiting" (eName "self")))
    (sSeq (sAsg (eName "most_waiting") (gAttr "most_waiting" (eName "self")))
    (sSeq (sAsg (eInt 0) (gAttr "collections" (eName "self")))
    sSkip))))))))
theorem j_Space__init__ (h : Ok C P) : FJ C 1 51 f_Space__init__ :=
  FJ_def (params := ["self", "size", "most_waiting"]) (lk h rfl) (cd h (by with_unfolding_all rfl)) (all3 fun _ _ _ => rfl) (by decide +kernel) (by decide +kernel) rfl rfl rfl
    (SB_cons (SS_asg (SE_name (x := "size") (by decide +kernel) (by decide +kernel)) (SG_attr (x := "size") (SE_name (x := "self") (by decide +kernel) (by decide +kernel)) (by decide +kernel)))
    (SB_cons (SS_asg (SE_repH SE_int (SE_name (x := "size") (by decide +kernel) (by decide +kernel))) (SG_attr (x := "octets") (SE_name (x := "self") (by decide +kernel) (by decide +kernel)) (by decide +kernel)))
    (SB_cons (SS_asg SE_int (SG_attr (x := "low") (SE_name (x := "self") (by decide +kernel) (by decide +kernel)) (by decide +kernel)))
    (SB_cons (SS_asg (SE_name (x := "size") (by decide +kernel) (by decide +kernel)) (SG_attr (x := "free") (SE_name (x := "self") (by decide +kernel) (by decide +kernel)) (by decide +kernel)))
    (SB_cons (SS_asg SE_dict0 (SG_attr (x := "held") (SE_name (x := "self") (by decide +kernel) (by decide +kernel)) (by decide +kernel)))
    (SB_cons (SS_asg (SE_lstH SL_nil) (SG_attr (x := "waiting") (SE_name (x := "self") (by decide +kernel) (by decide +kernel)) (by decide +kernel)))
    (SB_cons (SS_asg (SE_name (x := "most_waiting") (by decide +kernel) (by decide +kernel)) (SG_attr (x := "most_waiting") (SE_name (x := "self") (by decide +kernel) (by decide +kernel)) (by decide +kernel)))
    (SB_cons (SS_asg SE_int (SG_attr (x := "collections") (SE_name (x := "self") (by decide +kernel) (by decide +kernel)) (by decide +kernel)))
    SB_nil)))))))) (h.co_no (by kernel_rfl))

end
section
variable {C : Cx} {P : Params}
noncomputable def f__law_box : List V → AH → Res V := fnA ["script"] (sSeq (sAsg (eComp [] "number" (iSrc (eSlc (eName "script") eNone (eInt 60))) tTrue (eFn bAbs (lCons (eName "number") lNil))) (gName "numbers"))
    (sSeq (sRet (eLstH (lCons (eName "numbers") (lCons (e2 vMod (eFn bSum (lCons (eName "numbers") lNil)) (eInt 97)) (lCons (eInt 0) lNil)))))
    sSkip))
theorem j__law_box (h : Ok C P) : FJ C 1 207 f__law_box :=
  FJ_def (params := ["script"]) (lk h rfl) (cd h (by with_unfolding_all rfl)) (all1 fun _ => rfl) (by decide +kernel) (by decide +kernel) rfl rfl rfl
    (SB_cons (SS_compUse (fv := []) (x := "number") (y := "numbers") ⟨rfl, rfl, by decide +kernel, by decide +kernel, by decide +kernel, by decide +kernel, by decide +kernel, by decide +kernel⟩ (SI_src (SE_slc (SE_name (x := "script") (by decide +kernel) (by decide +kernel)) SP_none (SP_some SE_int))) plain_iSrc STs_nil (SE_built (x := "abs") absB (SL_cons (SE_name (x := "number") (by decide +kernel) (by decide +kernel)) SL_nil) (by decide +kernel) (g_abs h) (by decide +kernel) (by decide +kernel) (by decide +kernel)) (by decide +kernel) (by intro env q; cases env; cases q; rfl))
    (SB_cons (SS_ret (SE_lstH (SL_cons (SE_name (x := "numbers") (by decide +kernel) (by decide +kernel)) (SL_cons (SE_bin (SE_built (x := "sum") sumB (SL_cons (SE_name (x := "numbers") (by decide +kernel) (by decide +kernel)) SL_nil) (by decide +kernel) (g_sum h) (by decide +kernel) (by decide +kernel) (by decide +kernel)) SE_int modR) (SL_cons SE_int SL_nil)))))
    SB_nil)) (h.co_no (by kernel_rfl))

noncomputable def f__law_take : List V → AH → Res V := fnA ["box", "many"] (sSeq (sAsg (eSub (eName "box") (eInt 2)) (gName "turn"))
    (sSeq (sAsg (e2 vAdd (eName "turn") (eInt 1)) (gSub (eName "box") (eInt 2)))
    (sSeq (sIf (tV (e2 vLt (eName "turn") (eFn bLen (lCons (eSub (eName "box") (eInt 0)) lNil)))) (sSeq (sRet (e2 vMod (eSub (eSub (eName "box") (eInt 0)) (eName "turn")) (eName "many")))
    sSkip) sSkip)
    (sSeq (sRet (e2 vMod (e2 vAdd (e2 vAdd (eSub (eName "box") (eInt 1)) (e2 vMul (eInt 3) (eName "turn"))) (e2 vDiv (eName "turn") (eInt 4))) (eName "many")))
    sSkip))))
theorem j__law_take (h : Ok C P) : FJ C 1 214 f__law_take :=
  FJ_def (params := ["box", "many"]) (lk h rfl) (cd h (by with_unfolding_all rfl)) (all2 fun _ _ => rfl) (by decide +kernel) (by decide +kernel) rfl rfl rfl
    (SB_cons (SS_asg (SE_sub (SE_name (x := "box") (by decide +kernel) (by decide +kernel)) SE_int) (SG_name (x := "turn") (by decide +kernel)))
    (SB_cons (SS_asg (SE_bin (SE_name (x := "turn") (by decide +kernel) (by decide +kernel)) SE_int addR) (SG_sub (SE_name (x := "box") (by decide +kernel) (by decide +kernel)) SE_int))
    (SB_cons (SS_if (ST_cmp (SE_name (x := "turn") (by decide +kernel) (by decide +kernel)) (SE_built (x := "len") lenB (SL_cons (SE_sub (SE_name (x := "box") (by decide +kernel) (by decide +kernel)) SE_int) SL_nil) (by decide +kernel) (g_len h) (by decide +kernel) (by decide +kernel) (by decide +kernel)) ltR) (SB_cons (SS_ret (SE_bin (SE_sub (SE_sub (SE_name (x := "box") (by decide +kernel) (by decide +kernel)) SE_int) (SE_name (x := "turn") (by decide +kernel) (by decide +kernel))) (SE_name (x := "many") (by decide +kernel) (by decide +kernel)) modR))
    SB_nil) SB_nil)
    (SB_cons (SS_ret (SE_bin (SE_bin (SE_bin (SE_sub (SE_name (x := "box") (by decide +kernel) (by decide +kernel)) SE_int) (SE_bin SE_int (SE_name (x := "turn") (by decide +kernel) (by decide +kernel)) mulR) addR) (SE_bin (SE_name (x := "turn") (by decide +kernel) (by decide +kernel)) SE_int divR) addR) (SE_name (x := "many") (by decide +kernel) (by decide +kernel)) modR))
    SB_nil)))) (h.co_no (by kernel_rfl))

noncomputable def f__law_text : List V → AH → Res V := fnA ["box"] (sSeq (sRet (e2 vAdd (eSlc (eStr "abcdefgh") (eFn f__law_take (lCons (eName "box") (lCons (eInt 8) lNil))) eNone) (eSlc (eStr "xyz") eNone (eFn f__law_take (lCons (eName "box") (lCons (eInt 2) lNil))))))
    sSkip)
theorem j__law_text (h : Ok C P) : FJ C 2 221 f__law_text :=
  FJ_def (params := ["box"]) (lk h rfl) (cd h (by with_unfolding_all rfl)) (all1 fun _ => rfl) (by decide +kernel) (by decide +kernel) rfl rfl rfl
    (SB_cons (SS_ret (SE_bin (SE_slc (SE_str (x := "abcdefgh")) (SP_some (SE_call (x := "_law_take") (j__law_take h) (SL_cons (SE_name (x := "box") (by decide +kernel) (by decide +kernel)) (SL_cons SE_int SL_nil)) (by decide +kernel) (by decide +kernel) (g__law_take h) (k__law_take h) (by decide +kernel))) SP_none) (SE_slc (SE_str (x := "xyz")) SP_none (SP_some (SE_call (x := "_law_take") (j__law_take h) (SL_cons (SE_name (x := "box") (by decide +kernel) (by decide +kernel)) (SL_cons SE_int SL_nil)) (by decide +kernel) (by decide +kernel) (g__law_take h) (k__law_take h) (by decide +kernel)))) addR))
    SB_nil) (h.co_no (by kernel_rfl))

noncomputable def f__law_held : List V → AH → Res V := fnA ["kept", "pile"] (sSeq (sRet (e2 vAdd (eFn bSum (lCons (eCompD ["kept"] "name" (eName "kept") (eFn bLen (lCons (eSubD (eName "kept") (eName "name")) lNil))) lNil)) (eFn bSum (lCons (eComp [] "text" (iSrc (eName "pile")) tTrue (eFn bLen (lCons (eName "text") lNil))) lNil))))
    sSkip)
theorem j__law_held (h : Ok C P) : FJ C 1 233 f__law_held :=
  FJ_def (params := ["kept", "pile"]) (lk h rfl) (cd h (by with_unfolding_all rfl)) (all2 fun _ _ => rfl) (by decide +kernel) (by decide +kernel) rfl rfl rfl
    (SB_cons (SS_ret (SE_bin (SE_built (x := "sum") sumB (SL_cons (SE_compD (fv := ["kept"]) (x := "name") ⟨rfl, rfl, by decide +kernel, by decide +kernel, by decide +kernel, by decide +kernel, by decide +kernel, by decide +kernel⟩ (SE_name (x := "kept") (by decide +kernel) (by decide +kernel)) (SQ_len (SQ_subD (SQ_name (x := "kept") (by decide +kernel) (by decide +kernel)) (SQ_name (x := "name") (by decide +kernel) (by decide +kernel)) still_name still_name) (still_subD still_name still_name) (by decide +kernel) (g_len h)) (still_len (still_subD still_name still_name))) SL_nil) (by decide +kernel) (g_sum h) (by decide +kernel) (by decide +kernel) (by decide +kernel)) (SE_built (x := "sum") sumB (SL_cons (SE_comp (fv := []) (x := "text") ⟨rfl, rfl, by decide +kernel, by decide +kernel, by decide +kernel, by decide +kernel, by decide +kernel, by decide +kernel⟩ (SI_src (SE_name (x := "pile") (by decide +kernel) (by decide +kernel))) plain_iSrc STs_nil (SE_built (x := "len") lenB (SL_cons (SE_name (x := "text") (by decide +kernel) (by decide +kernel)) SL_nil) (by decide +kernel) (g_len h) (by decide +kernel) (by decide +kernel) (by decide +kernel))) SL_nil) (by decide +kernel) (g_sum h) (by decide +kernel) (by decide +kernel) (by decide +kernel)) addR))
    SB_nil) (h.co_no (by kernel_rfl))

end
section
variable {C : Cx} {P : Params}
noncomputable def f__law_given : List V → AH → Res V := fnA ["room", "kept", "pile", "name", "text", "size"] (sSeq (sAsg (e2 vGt (e2 vAdd (eFn f__law_held (lCons (eName "kept") (lCons (eName "pile") lNil))) (eFn bLen (lCons (eName "text") lNil))) (eName "size")) (gName "lack"))
    (sSeq (sAsg (eTup (lCons (eFn f_free_room (lCons (eName "room") lNil)) (lCons (eAttr "collections" (eName "room")) lNil))) (gSwap ["free", "before"]))
    (sSeq (sAsg (eLaw ["room", "name", "text"] (eFn f_assign_text (lCons (eName "room") (lCons (eName "name") (lCons (eName "text") lNil))))) (gName "code"))
    (sSeq (sIf (tOr (tV (e2 vNe (eName "code") (eIf (tV (eName "lack")) (eStr "OS") (eStr "")))) (tOr (tAnd (tV (e2 vGe (eName "free") (eFn bLen (lCons (eName "text") lNil)))) (tAnd (tV (e2 vNe (eAttr "collections" (eName "room")) (eName "before"))) (fun _ σ => .ok true σ))) (fun _ σ => .ok false σ))) (sSeq (sRet (eBool false))
    sSkip) sSkip)
    (sSeq (sIf (tNot (tV (eName "lack"))) (sSeq (sAsg (eName "text") (gSub (eName "kept") (eName "name")))
    sSkip) sSkip)
    (sSeq (sRet (eBool true))
    sSkip))))))
theorem j__law_given (h : Ok C P) : FJ C 8 240 f__law_given :=
  FJ_def (params := ["room", "kept", "pile", "name", "text", "size"]) (lk h rfl) (cd h (by with_unfolding_all rfl)) (all6 fun _ _ _ _ _ _ => rfl) (by decide +kernel) (by decide +kernel) rfl rfl rfl
    (SB_cons (SS_asg (SE_cmp (SE_bin (SE_call (x := "_law_held") (j__law_held h) (SL_cons (SE_name (x := "kept") (by decide +kernel) (by decide +kernel)) (SL_cons (SE_name (x := "pile") (by decide +kernel) (by decide +kernel)) SL_nil)) (by decide +kernel) (by decide +kernel) (g__law_held h) (k__law_held h) (by decide +kernel)) (SE_built (x := "len") lenB (SL_cons (SE_name (x := "text") (by decide +kernel) (by decide +kernel)) SL_nil) (by decide +kernel) (g_len h) (by decide +kernel) (by decide +kernel) (by decide +kernel)) addR) (SE_name (x := "size") (by decide +kernel) (by decide +kernel)) gtR) (SG_name (x := "lack") (by decide +kernel)))
    (SB_cons (SS_swap (names := ["free", "before"]) (SE_tup (SL_cons (SE_call (x := "free_room") (j_free_room h) (SL_cons (SE_name (x := "room") (by decide +kernel) (by decide +kernel)) SL_nil) (by decide +kernel) (by decide +kernel) (g_free_room h) (k_free_room h) (by decide +kernel)) (SL_cons (SE_attr (x := "collections") (SE_name (x := "room") (by decide +kernel) (by decide +kernel)) (by decide +kernel)) SL_nil))) (hw := by intro env q; cases env; cases q; rfl) (ha := by decide +kernel))
    (SB_cons (SS_asg (SE_law (fv := ["room", "name", "text"]) h.X h.LF h.tab__law_given (by with_unfolding_all rfl) (by decide +kernel) (by with_unfolding_all rfl) (by decide +kernel) (by decide +kernel) (by decide +kernel) rfl rfl rfl (h.noTab (by kernel_rfl)) (SE_call (x := "assign_text") (j_assign_text h) (SL_cons (SE_name (x := "room") (by decide +kernel) (by decide +kernel)) (SL_cons (SE_name (x := "name") (by decide +kernel) (by decide +kernel)) (SL_cons (SE_name (x := "text") (by decide +kernel) (by decide +kernel)) SL_nil))) (by decide +kernel) (by decide +kernel) (g_assign_text h) (k_assign_text h) (by decide +kernel)) (by decide +kernel)) (SG_name (x := "code") (by decide +kernel)))
    (SB_cons (SS_if (ST_bool (SAll_or (ST_cmp (SE_name (x := "code") (by decide +kernel) (by decide +kernel)) (SE_if (ST_val (SE_name (x := "lack") (by decide +kernel) (by decide +kernel))) (SE_str (x := "OS")) (SE_str (x := ""))) neR) (SAll_or (ST_bool (SAll_and (ST_cmp (SE_name (x := "free") (by decide +kernel) (by decide +kernel)) (SE_built (x := "len") lenB (SL_cons (SE_name (x := "text") (by decide +kernel) (by decide +kernel)) SL_nil) (by decide +kernel) (g_len h) (by decide +kernel) (by decide +kernel) (by decide +kernel)) geR) (SAll_and (ST_cmp (SE_attr (x := "collections") (SE_name (x := "room") (by decide +kernel) (by decide +kernel)) (by decide +kernel)) (SE_name (x := "before") (by decide +kernel) (by decide +kernel)) neR) SAll_and0))) SAll_or0))) (SB_cons (SS_ret SE_bool)
    SB_nil) SB_nil)
    (SB_cons (SS_if (ST_not (ST_val (SE_name (x := "lack") (by decide +kernel) (by decide +kernel)))) (SB_cons (SS_asg (SE_name (x := "text") (by decide +kernel) (by decide +kernel)) (SG_sub (SE_name (x := "kept") (by decide +kernel) (by decide +kernel)) (SE_name (x := "name") (by decide +kernel) (by decide +kernel))))
    SB_nil) SB_nil)
    (SB_cons (SS_ret SE_bool)
    SB_nil)))))) (h.co_yes (by kernel_rfl))

noncomputable def f__law_pushed : List V → AH → Res V := fnA ["room", "kept", "pile", "text", "size"] (sSeq (sAsg (eIf (tV (e2 vGe (eFn bLen (lCons (eName "pile") lNil)) (eAttr "most_waiting" (eName "room")))) (eStr "ST") (eIf (tV (e2 vGt (e2 vAdd (eFn f__law_held (lCons (eName "kept") (lCons (eName "pile") lNil))) (eFn bLen (lCons (eName "text") lNil))) (eName "size"))) (eStr "OS") (eStr ""))) (gName "due"))
    (sSeq (sIf (tV (e2 vNe (eLaw ["room", "text"] (eFn f_push_waiting (lCons (eName "room") (lCons (eName "text") lNil)))) (eName "due"))) (sSeq (sRet (eBool false))
    sSkip) sSkip)
    (sSeq (sIf (tV (e2 vEq (eName "due") (eStr ""))) (sSeq (sDo (eMeth isL (eName "pile") (lCons (eName "text") lNil) mAppend))
    sSkip) sSkip)
    (sSeq (sRet (eBool true))
    sSkip))))
theorem j__law_pushed (h : Ok C P) : FJ C 8 247 f__law_pushed :=
  FJ_def (params := ["room", "kept", "pile", "text", "size"]) (lk h rfl) (cd h (by with_unfolding_all rfl)) (all5 fun _ _ _ _ _ => rfl) (by decide +kernel) (by decide +kernel) rfl rfl rfl
    (SB_cons (SS_asg (SE_if (ST_cmp (SE_built (x := "len") lenB (SL_cons (SE_name (x := "pile") (by decide +kernel) (by decide +kernel)) SL_nil) (by decide +kernel) (g_len h) (by decide +kernel) (by decide +kernel) (by decide +kernel)) (SE_attr (x := "most_waiting") (SE_name (x := "room") (by decide +kernel) (by decide +kernel)) (by decide +kernel)) geR) (SE_str (x := "ST")) (SE_if (ST_cmp (SE_bin (SE_call (x := "_law_held") (j__law_held h) (SL_cons (SE_name (x := "kept") (by decide +kernel) (by decide +kernel)) (SL_cons (SE_name (x := "pile") (by decide +kernel) (by decide +kernel)) SL_nil)) (by decide +kernel) (by decide +kernel) (g__law_held h) (k__law_held h) (by decide +kernel)) (SE_built (x := "len") lenB (SL_cons (SE_name (x := "text") (by decide +kernel) (by decide +kernel)) SL_nil) (by decide +kernel) (g_len h) (by decide +kernel) (by decide +kernel) (by decide +kernel)) addR) (SE_name (x := "size") (by decide +kernel) (by decide +kernel)) gtR) (SE_str (x := "OS")) (SE_str (x := "")))) (SG_name (x := "due") (by decide +kernel)))
    (SB_cons (SS_if (ST_cmp (SE_law (fv := ["room", "text"]) h.X h.LF h.tab__law_pushed (by with_unfolding_all rfl) (by decide +kernel) (by with_unfolding_all rfl) (by decide +kernel) (by decide +kernel) (by decide +kernel) rfl rfl rfl (h.noTab (by kernel_rfl)) (SE_call (x := "push_waiting") (j_push_waiting h) (SL_cons (SE_name (x := "room") (by decide +kernel) (by decide +kernel)) (SL_cons (SE_name (x := "text") (by decide +kernel) (by decide +kernel)) SL_nil)) (by decide +kernel) (by decide +kernel) (g_push_waiting h) (k_push_waiting h) (by decide +kernel)) (by decide +kernel)) (SE_name (x := "due") (by decide +kernel) (by decide +kernel)) neR) (SB_cons (SS_ret SE_bool)
    SB_nil) SB_nil)
    (SB_cons (SS_if (ST_cmp (SE_name (x := "due") (by decide +kernel) (by decide +kernel)) (SE_str (x := "")) eqR) (SB_cons (SS_do (SE_meth (x := "append") (SE_name (x := "pile") (by decide +kernel) (by decide +kernel)) (SL_cons (SE_name (x := "text") (by decide +kernel) (by decide +kernel)) SL_nil) appendM chkL PySem.F.plainAttrs_list PySem.F.slot_list_append PySem.F.type_list_append (hline := by decide +kernel)))
    SB_nil) SB_nil)
    (SB_cons (SS_ret SE_bool)
    SB_nil)))) (h.co_yes (by kernel_rfl))

noncomputable def f__law_joined : List V → AH → Res V := fnA ["room", "kept", "pile", "size"] (sSeq (sIf (tV (e2 vLt (eFn bLen (lCons (eName "pile") lNil)) (eInt 2))) (sSeq (sRet (eBool true))
    sSkip) sSkip)
    (sSeq (sAsg (e2 vAdd (eSub (eName "pile") (eNeg (eInt 2))) (eSub (eName "pile") (eNeg (eInt 1)))) (gName "text"))
    (sSeq (sAsg (eIf (tV (e2 vGt (e2 vAdd (eFn f__law_held (lCons (eName "kept") (lCons (eName "pile") lNil))) (eFn bLen (lCons (eName "text") lNil))) (eName "size"))) (eStr "OS") (eStr "")) (gName "due"))
    (sSeq (sIf (tV (e2 vNe (eLaw ["room"] (eFn f_join_waiting (lCons (eName "room") lNil))) (eName "due"))) (sSeq (sRet (eBool false))
    sSkip) sSkip)
    (sSeq (sIf (tV (e2 vEq (eName "due") (eStr ""))) (sSeq (sAsg (eLstV (lCons (eName "text") lNil)) (gSlc (eName "pile") (eNeg (eInt 2)) eNone))
    sSkip) sSkip)
    (sSeq (sRet (eBool true))
    sSkip))))))
theorem j__law_joined (h : Ok C P) : FJ C 7 254 f__law_joined :=
  FJ_def (params := ["room", "kept", "pile", "size"]) (lk h rfl) (cd h (by with_unfolding_all rfl)) (all4 fun _ _ _ _ => rfl) (by decide +kernel) (by decide +kernel) rfl rfl rfl
    (SB_cons (SS_if (ST_cmp (SE_built (x := "len") lenB (SL_cons (SE_name (x := "pile") (by decide +kernel) (by decide +kernel)) SL_nil) (by decide +kernel) (g_len h) (by decide +kernel) (by decide +kernel) (by decide +kernel)) SE_int ltR) (SB_cons (SS_ret SE_bool)
    SB_nil) SB_nil)
    (SB_cons (SS_asg (SE_bin (SE_sub (SE_name (x := "pile") (by decide +kernel) (by decide +kernel)) (SE_neg SE_int)) (SE_sub (SE_name (x := "pile") (by decide +kernel) (by decide +kernel)) (SE_neg SE_int)) addR) (SG_name (x := "text") (by decide +kernel)))
    (SB_cons (SS_asg (SE_if (ST_cmp (SE_bin (SE_call (x := "_law_held") (j__law_held h) (SL_cons (SE_name (x := "kept") (by decide +kernel) (by decide +kernel)) (SL_cons (SE_name (x := "pile") (by decide +kernel) (by decide +kernel)) SL_nil)) (by decide +kernel) (by decide +kernel) (g__law_held h) (k__law_held h) (by decide +kernel)) (SE_built (x := "len") lenB (SL_cons (SE_name (x := "text") (by decide +kernel) (by decide +kernel)) SL_nil) (by decide +kernel) (g_len h) (by decide +kernel) (by decide +kernel) (by decide +kernel)) addR) (SE_name (x := "size") (by decide +kernel) (by decide +kernel)) gtR) (SE_str (x := "OS")) (SE_str (x := ""))) (SG_name (x := "due") (by decide +kernel)))
    (SB_cons (SS_if (ST_cmp (SE_law (fv := ["room"]) h.X h.LF h.tab__law_joined (by with_unfolding_all rfl) (by decide +kernel) (by with_unfolding_all rfl) (by decide +kernel) (by decide +kernel) (by decide +kernel) rfl rfl rfl (h.noTab (by kernel_rfl)) (SE_call (x := "join_waiting") (j_join_waiting h) (SL_cons (SE_name (x := "room") (by decide +kernel) (by decide +kernel)) SL_nil) (by decide +kernel) (by decide +kernel) (g_join_waiting h) (k_join_waiting h) (by decide +kernel)) (by decide +kernel)) (SE_name (x := "due") (by decide +kernel) (by decide +kernel)) neR) (SB_cons (SS_ret SE_bool)
    SB_nil) SB_nil)
    (SB_cons (SS_if (ST_cmp (SE_name (x := "due") (by decide +kernel) (by decide +kernel)) (SE_str (x := "")) eqR) (SB_cons (SS_asg (SE_lstV (SL_cons (SE_name (x := "text") (by decide +kernel) (by decide +kernel)) SL_nil)) (SG_slc (SE_name (x := "pile") (by decide +kernel) (by decide +kernel)) (SP_some (SE_neg SE_int)) SP_none))
    SB_nil) SB_nil)
    (SB_cons (SS_ret SE_bool)
    SB_nil)))))) (h.co_yes (by kernel_rfl))

noncomputable def f__law_written : List V → AH → Res V := fnA ["room", "kept", "name", "form", "spot", "text"] (sSeq (sAsg (eMeth isD (eName "kept") (lCons (eName "name") (lCons (eStr "") lNil)) mGet) (gName "old"))
    (sSeq (sIf (tV (e2 vEq (eName "form") (eInt 0))) (sSeq (sAsg (eLaw ["room", "name", "spot", "text"] (eFn f_write_within (lCons (eName "room") (lCons (eName "name") (lCons (eName "spot") (lCons (eName "text") lNil)))))) (gName "code"))
    (sSeq (sIf (tNot (tChain vLe vLe (eInt 1) (eName "spot") (eFn bLen (lCons (eName "old") lNil)))) (sSeq (sRet (e2 vEq (eName "code") (eStr "FC")))
    sSkip) sSkip)
    (sSeq (sAsg (eSlc (e2 vAdd (e2 vAdd (eSlc (eName "old") eNone (e2 vSub (eName "spot") (eInt 1))) (eName "text")) (eSlc (eName "old") (e2 vAdd (e2 vSub (eName "spot") (eInt 1)) (eFn bLen (lCons (eName "text") lNil))) eNone)) eNone (eFn bLen (lCons (eName "old") lNil))) (gSub (eName "kept") (eName "name")))
    (sSeq (sRet (e2 vEq (eName "code") (eStr "")))
    sSkip)))) sSkip)
    (sSeq (sIf (tV (e2 vEq (eName "form") (eInt 1))) (sSeq (sDo (eFn f_set_left (lCons (eName "room") (lCons (eName "name") (lCons (eName "text") lNil)))))
    (sSeq (sAsg (eSlc (e2 vAdd (eName "text") (e2 vMul (eStr " ") (eFn bLen (lCons (eName "old") lNil)))) eNone (eFn bLen (lCons (eName "old") lNil))) (gName "due"))
    sSkip)) (sSeq (sDo (eFn f_set_right (lCons (eName "room") (lCons (eName "name") (lCons (eName "text") lNil)))))
    (sSeq (sAsg (e2 vAdd (e2 vMul (eStr " ") (e2 vSub (eFn bLen (lCons (eName "old") lNil)) (eFn bLen (lCons (eName "text") lNil)))) (eSlc (eName "text") eNone (eFn bLen (lCons (eName "old") lNil)))) (gName "due"))
    sSkip)))
    (sSeq (sIf (tV (e2 vIn (eName "name") (eName "kept"))) (sSeq (sAsg (eName "due") (gSub (eName "kept") (eName "name")))
    sSkip) sSkip)
    (sSeq (sRet (eBool true))
    sSkip)))))
theorem j__law_written (h : Ok C P) : FJ C 6 261 f__law_written :=
  FJ_def (params := ["room", "kept", "name", "form", "spot", "text"]) (lk h rfl) (cd h (by with_unfolding_all rfl)) (all6 fun _ _ _ _ _ _ => rfl) (by decide +kernel) (by decide +kernel) rfl rfl rfl
    (SB_cons (SS_asg (SE_meth (x := "get") (SE_name (x := "kept") (by decide +kernel) (by decide +kernel)) (SL_cons (SE_name (x := "name") (by decide +kernel) (by decide +kernel)) (SL_cons (SE_str (x := "")) SL_nil)) getM chkD PySem.F.plainAttrs_dict PySem.F.slot_dict_get PySem.F.type_dict_get (hline := by decide +kernel)) (SG_name (x := "old") (by decide +kernel)))
    (SB_cons (SS_if (ST_cmp (SE_name (x := "form") (by decide +kernel) (by decide +kernel)) SE_int eqR) (SB_cons (SS_asg (SE_law (fv := ["room", "name", "spot", "text"]) h.X h.LF h.tab__law_written (by with_unfolding_all rfl) (by decide +kernel) (by with_unfolding_all rfl) (by decide +kernel) (by decide +kernel) (by decide +kernel) rfl rfl rfl (h.noTab (by kernel_rfl)) (SE_call (x := "write_within") (j_write_within h) (SL_cons (SE_name (x := "room") (by decide +kernel) (by decide +kernel)) (SL_cons (SE_name (x := "name") (by decide +kernel) (by decide +kernel)) (SL_cons (SE_name (x := "spot") (by decide +kernel) (by decide +kernel)) (SL_cons (SE_name (x := "text") (by decide +kernel) (by decide +kernel)) SL_nil)))) (by decide +kernel) (by decide +kernel) (g_write_within h) (k_write_within h) (by decide +kernel)) (by decide +kernel)) (SG_name (x := "code") (by decide +kernel)))
    (SB_cons (SS_if (ST_not (ST_chain SE_int (SE_name (x := "spot") (by decide +kernel) (by decide +kernel)) (SE_built (x := "len") lenB (SL_cons (SE_name (x := "old") (by decide +kernel) (by decide +kernel)) SL_nil) (by decide +kernel) (g_len h) (by decide +kernel) (by decide +kernel) (by decide +kernel)) leR leR)) (SB_cons (SS_ret (SE_cmp (SE_name (x := "code") (by decide +kernel) (by decide +kernel)) (SE_str (x := "FC")) eqR))
    SB_nil) SB_nil)
    (SB_cons (SS_asg (SE_slc (SE_bin (SE_bin (SE_slc (SE_name (x := "old") (by decide +kernel) (by decide +kernel)) SP_none (SP_some (SE_bin (SE_name (x := "spot") (by decide +kernel) (by decide +kernel)) SE_int subR))) (SE_name (x := "text") (by decide +kernel) (by decide +kernel)) addR) (SE_slc (SE_name (x := "old") (by decide +kernel) (by decide +kernel)) (SP_some (SE_bin (SE_bin (SE_name (x := "spot") (by decide +kernel) (by decide +kernel)) SE_int subR) (SE_built (x := "len") lenB (SL_cons (SE_name (x := "text") (by decide +kernel) (by decide +kernel)) SL_nil) (by decide +kernel) (g_len h) (by decide +kernel) (by decide +kernel) (by decide +kernel)) addR)) SP_none) addR) SP_none (SP_some (SE_built (x := "len") lenB (SL_cons (SE_name (x := "old") (by decide +kernel) (by decide +kernel)) SL_nil) (by decide +kernel) (g_len h) (by decide +kernel) (by decide +kernel) (by decide +kernel)))) (SG_sub (SE_name (x := "kept") (by decide +kernel) (by decide +kernel)) (SE_name (x := "name") (by decide +kernel) (by decide +kernel))))
    (SB_cons (SS_ret (SE_cmp (SE_name (x := "code") (by decide +kernel) (by decide +kernel)) (SE_str (x := "")) eqR))
    SB_nil)))) SB_nil)
    (SB_cons (SS_if (ST_cmp (SE_name (x := "form") (by decide +kernel) (by decide +kernel)) SE_int eqR) (SB_cons (SS_do (SE_call (x := "set_left") (j_set_left h) (SL_cons (SE_name (x := "room") (by decide +kernel) (by decide +kernel)) (SL_cons (SE_name (x := "name") (by decide +kernel) (by decide +kernel)) (SL_cons (SE_name (x := "text") (by decide +kernel) (by decide +kernel)) SL_nil))) (by decide +kernel) (by decide +kernel) (g_set_left h) (k_set_left h) (by decide +kernel)))
    (SB_cons (SS_asg (SE_slc (SE_bin (SE_name (x := "text") (by decide +kernel) (by decide +kernel)) (SE_bin (SE_str (x := " ")) (SE_built (x := "len") lenB (SL_cons (SE_name (x := "old") (by decide +kernel) (by decide +kernel)) SL_nil) (by decide +kernel) (g_len h) (by decide +kernel) (by decide +kernel) (by decide +kernel)) mulR) addR) SP_none (SP_some (SE_built (x := "len") lenB (SL_cons (SE_name (x := "old") (by decide +kernel) (by decide +kernel)) SL_nil) (by decide +kernel) (g_len h) (by decide +kernel) (by decide +kernel) (by decide +kernel)))) (SG_name (x := "due") (by decide +kernel)))
    SB_nil)) (SB_cons (SS_do (SE_call (x := "set_right") (j_set_right h) (SL_cons (SE_name (x := "room") (by decide +kernel) (by decide +kernel)) (SL_cons (SE_name (x := "name") (by decide +kernel) (by decide +kernel)) (SL_cons (SE_name (x := "text") (by decide +kernel) (by decide +kernel)) SL_nil))) (by decide +kernel) (by decide +kernel) (g_set_right h) (k_set_right h) (by decide +kernel)))
    (SB_cons (SS_asg (SE_bin (SE_bin (SE_str (x := " ")) (SE_bin (SE_built (x := "len") lenB (SL_cons (SE_name (x := "old") (by decide +kernel) (by decide +kernel)) SL_nil) (by decide +kernel) (g_len h) (by decide +kernel) (by decide +kernel) (by decide +kernel)) (SE_built (x := "len") lenB (SL_cons (SE_name (x := "text") (by decide +kernel) (by decide +kernel)) SL_nil) (by decide +kernel) (g_len h) (by decide +kernel) (by decide +kernel) (by decide +kernel)) subR) mulR) (SE_slc (SE_name (x := "text") (by decide +kernel) (by decide +kernel)) SP_none (SP_some (SE_built (x := "len") lenB (SL_cons (SE_name (x := "old") (by decide +kernel) (by decide +kernel)) SL_nil) (by decide +kernel) (g_len h) (by decide +kernel) (by decide +kernel) (by decide +kernel)))) addR) (SG_name (x := "due") (by decide +kernel)))
    SB_nil)))
    (SB_cons (SS_if (ST_cmp (SE_name (x := "name") (by decide +kernel) (by decide +kernel)) (SE_name (x := "kept") (by decide +kernel) (by decide +kernel)) inR) (SB_cons (SS_asg (SE_name (x := "due") (by decide +kernel) (by decide +kernel)) (SG_sub (SE_name (x := "kept") (by decide +kernel) (by decide +kernel)) (SE_name (x := "name") (by decide +kernel) (by decide +kernel))))
    SB_nil) SB_nil)
    (SB_cons (SS_ret SE_bool)
    SB_nil))))) (h.co_yes (by kernel_rfl))

noncomputable def f__law_deed : List V → AH → Res V := fnA ["room", "kept", "pile", "box", "size"] (sSeq (sAsg (eTup (lCons (eFn f__law_take (lCons (eName "box") (lCons (eInt 11) lNil))) (lCons (eSub (eStr "ABCD") (eFn f__law_take (lCons (eName "box") (lCons (eInt 4) lNil)))) lNil))) (gSwap ["form", "name"]))
    (sSeq (sIf (tV (e2 vLt (eName "form") (eInt 3))) (sSeq (sRet (eFn f__law_given (lCons (eName "room") (lCons (eName "kept") (lCons (eName "pile") (lCons (eName "name") (lCons (eFn f__law_text (lCons (eName "box") lNil)) (lCons (eName "size") lNil))))))))
    sSkip) sSkip)
    (sSeq (sIf (tV (e2 vLt (eName "form") (eInt 5))) (sSeq (sRet (eFn f__law_pushed (lCons (eName "room") (lCons (eName "kept") (lCons (eName "pile") (lCons (eFn f__law_text (lCons (eName "box") lNil)) (lCons (eName "size") lNil)))))))
    sSkip) sSkip)
    (sSeq (sIf (tV (e2 vEq (eName "form") (eInt 5))) (sSeq (sRet (eFn f__law_joined (lCons (eName "room") (lCons (eName "kept") (lCons (eName "pile") (lCons (eName "size") lNil))))))
    sSkip) sSkip)
    (sSeq (sIf (tV (e2 vEq (eName "form") (eInt 6))) (sSeq (sDo (eFn f_collect (lCons (eName "room") lNil)))
    (sSeq (sRet (e2 vEq (eFn f_free_room (lCons (eName "room") lNil)) (e2 vSub (eName "size") (eFn f__law_held (lCons (eName "kept") (lCons (eName "pile") lNil))))))
    sSkip)) sSkip)
    (sSeq (sIf (tAnd (tV (e2 vEq (eName "form") (eInt 7))) (tAnd (tV (e2 vNe (eName "pile") (eLstV lNil))) (fun _ σ => .ok true σ))) (sSeq (sIf (tV (e2 vEq (eFn f__law_take (lCons (eName "box") (lCons (eInt 2) lNil))) (eInt 0))) (sSeq (sRet (e2 vEq (eFn f_pop_waiting (lCons (eName "room") lNil)) (eMeth isL (eName "pile") lNil mPop)))
    sSkip) sSkip)
    (sSeq (sDo (eFn f_keep_waiting (lCons (eName "room") (lCons (eName "name") lNil))))
    (sSeq (sAsg (eMeth isL (eName "pile") lNil mPop) (gSub (eName "kept") (eName "name")))
    sSkip))) sSkip)
    (sSeq (sIf (tV (e2 vEq (eName "form") (eInt 8))) (sSeq (sAsg (eSub (eStr "ABCD") (eFn f__law_take (lCons (eName "box") (lCons (eInt 4) lNil)))) (gName "other"))
    (sSeq (sDo (eFn f_swap_texts (lCons (eName "room") (lCons (eName "name") (lCons (eName "other") lNil)))))
    (sSeq (sAsg (eTup (lCons (eMeth isD (eName "kept") (lCons (eName "name") (lCons (eStr "") lNil)) mGet) (lCons (eMeth isD (eName "kept") (lCons (eName "other") (lCons (eStr "") lNil)) mGet) lNil))) (gSwap ["first", "last"]))
    (sSeq (sAsg (eTup (lCons (eName "last") (lCons (eName "first") lNil))) (gTup 2 (gsCons (gSub (eName "kept") (eName "name")) (gsCons (gSub (eName "kept") (eName "other")) gsNil))))
    sSkip)))) sSkip)
    (sSeq (sIf (tV (e2 vEq (eName "form") (eInt 9))) (sSeq (sDo (eFn f_forget (lCons (eName "room") (lCons (eName "name") lNil))))
    (sSeq (sDo (eMeth isD (eName "kept") (lCons (eName "name") (lCons eNone lNil)) mPopD))
    sSkip)) sSkip)
    (sSeq (sIf (tV (e2 vEq (eName "form") (eInt 10))) (sSeq (sRet (eFn f__law_written (lCons (eName "room") (lCons (eName "kept") (lCons (eName "name") (lCons (eFn f__law_take (lCons (eName "box") (lCons (eInt 3) lNil))) (lCons (eFn f__law_take (lCons (eName "box") (lCons (eInt 9) lNil))) (lCons (eFn f__law_text (lCons (eName "box") lNil)) lNil))))))))
    sSkip) sSkip)
    (sSeq (sRet (eBool true))
    sSkip))))))))))
theorem j__law_deed (h : Ok C P) : FJ C 9 268 f__law_deed :=
  FJ_def (params := ["room", "kept", "pile", "box", "size"]) (lk h rfl) (cd h (by with_unfolding_all rfl)) (all5 fun _ _ _ _ _ => rfl) (by decide +kernel) (by decide +kernel) rfl rfl rfl
    (SB_cons (SS_swap (names := ["form", "name"]) (SE_tup (SL_cons (SE_call (x := "_law_take") (j__law_take h) (SL_cons (SE_name (x := "box") (by decide +kernel) (by decide +kernel)) (SL_cons SE_int SL_nil)) (by decide +kernel) (by decide +kernel) (g__law_take h) (k__law_take h) (by decide +kernel)) (SL_cons (SE_sub (SE_str (x := "ABCD")) (SE_call (x := "_law_take") (j__law_take h) (SL_cons (SE_name (x := "box") (by decide +kernel) (by decide +kernel)) (SL_cons SE_int SL_nil)) (by decide +kernel) (by decide +kernel) (g__law_take h) (k__law_take h) (by decide +kernel))) SL_nil))) (hw := by intro env q; cases env; cases q; rfl) (ha := by decide +kernel))
    (SB_cons (SS_if (ST_cmp (SE_name (x := "form") (by decide +kernel) (by decide +kernel)) SE_int ltR) (SB_cons (SS_ret (SE_call (x := "_law_given") (j__law_given h) (SL_cons (SE_name (x := "room") (by decide +kernel) (by decide +kernel)) (SL_cons (SE_name (x := "kept") (by decide +kernel) (by decide +kernel)) (SL_cons (SE_name (x := "pile") (by decide +kernel) (by decide +kernel)) (SL_cons (SE_name (x := "name") (by decide +kernel) (by decide +kernel)) (SL_cons (SE_call (x := "_law_text") (j__law_text h) (SL_cons (SE_name (x := "box") (by decide +kernel) (by decide +kernel)) SL_nil) (by decide +kernel) (by decide +kernel) (g__law_text h) (k__law_text h) (by decide +kernel)) (SL_cons (SE_name (x := "size") (by decide +kernel) (by decide +kernel)) SL_nil)))))) (by decide +kernel) (by decide +kernel) (g__law_given h) (k__law_given h) (by decide +kernel)))
    SB_nil) SB_nil)
    (SB_cons (SS_if (ST_cmp (SE_name (x := "form") (by decide +kernel) (by decide +kernel)) SE_int ltR) (SB_cons (SS_ret (SE_call (x := "_law_pushed") (j__law_pushed h) (SL_cons (SE_name (x := "room") (by decide +kernel) (by decide +kernel)) (SL_cons (SE_name (x := "kept") (by decide +kernel) (by decide +kernel)) (SL_cons (SE_name (x := "pile") (by decide +kernel) (by decide +kernel)) (SL_cons (SE_call (x := "_law_text") (j__law_text h) (SL_cons (SE_name (x := "box") (by decide +kernel) (by decide +kernel)) SL_nil) (by decide +kernel) (by decide +kernel) (g__law_text h) (k__law_text h) (by decide +kernel)) (SL_cons (SE_name (x := "size") (by decide +kernel) (by decide +kernel)) SL_nil))))) (by decide +kernel) (by decide +kernel) (g__law_pushed h) (k__law_pushed h) (by decide +kernel)))
    SB_nil) SB_nil)
    (SB_cons (SS_if (ST_cmp (SE_name (x := "form") (by decide +kernel) (by decide +kernel)) SE_int eqR) (SB_cons (SS_ret (SE_call (x := "_law_joined") (j__law_joined h) (SL_cons (SE_name (x := "room") (by decide +kernel) (by decide +kernel)) (SL_cons (SE_name (x := "kept") (by decide +kernel) (by decide +kernel)) (SL_cons (SE_name (x := "pile") (by decide +kernel) (by decide +kernel)) (SL_cons (SE_name (x := "size") (by decide +kernel) (by decide +kernel)) SL_nil)))) (by decide +kernel) (by decide +kernel) (g__law_joined h) (k__law_joined h) (by decide +kernel)))
    SB_nil) SB_nil)
    (SB_cons (SS_if (ST_cmp (SE_name (x := "form") (by decide +kernel) (by decide +kernel)) SE_int eqR) (SB_cons (SS_do (SE_call (x := "collect") (j_collect h) (SL_cons (SE_name (x := "room") (by decide +kernel) (by decide +kernel)) SL_nil) (by decide +kernel) (by decide +kernel) (g_collect h) (k_collect h) (by decide +kernel)))
    (SB_cons (SS_ret (SE_cmp (SE_call (x := "free_room") (j_free_room h) (SL_cons (SE_name (x := "room") (by decide +kernel) (by decide +kernel)) SL_nil) (by decide +kernel) (by decide +kernel) (g_free_room h) (k_free_room h) (by decide +kernel)) (SE_bin (SE_name (x := "size") (by decide +kernel) (by decide +kernel)) (SE_call (x := "_law_held") (j__law_held h) (SL_cons (SE_name (x := "kept") (by decide +kernel) (by decide +kernel)) (SL_cons (SE_name (x := "pile") (by decide +kernel) (by decide +kernel)) SL_nil)) (by decide +kernel) (by decide +kernel) (g__law_held h) (k__law_held h) (by decide +kernel)) subR) eqR))
    SB_nil)) SB_nil)
    (SB_cons (SS_if (ST_bool (SAll_and (ST_cmp (SE_name (x := "form") (by decide +kernel) (by decide +kernel)) SE_int eqR) (SAll_and (ST_cmp (SE_name (x := "pile") (by decide +kernel) (by decide +kernel)) (SE_lstV SL_nil) neR) SAll_and0))) (SB_cons (SS_if (ST_cmp (SE_call (x := "_law_take") (j__law_take h) (SL_cons (SE_name (x := "box") (by decide +kernel) (by decide +kernel)) (SL_cons SE_int SL_nil)) (by decide +kernel) (by decide +kernel) (g__law_take h) (k__law_take h) (by decide +kernel)) SE_int eqR) (SB_cons (SS_ret (SE_cmp (SE_call (x := "pop_waiting") (j_pop_waiting h) (SL_cons (SE_name (x := "room") (by decide +kernel) (by decide +kernel)) SL_nil) (by decide +kernel) (by decide +kernel) (g_pop_waiting h) (k_pop_waiting h) (by decide +kernel)) (SE_meth0 (x := "pop") (SE_name (x := "pile") (by decide +kernel) (by decide +kernel)) popM chkL PySem.F.plainAttrs_list PySem.F.slot_list_pop PySem.F.type_list_pop (hline := by decide +kernel)) eqR))
    SB_nil) SB_nil)
    (SB_cons (SS_do (SE_call (x := "keep_waiting") (j_keep_waiting h) (SL_cons (SE_name (x := "room") (by decide +kernel) (by decide +kernel)) (SL_cons (SE_name (x := "name") (by decide +kernel) (by decide +kernel)) SL_nil)) (by decide +kernel) (by decide +kernel) (g_keep_waiting h) (k_keep_waiting h) (by decide +kernel)))
    (SB_cons (SS_asg (SE_meth0 (x := "pop") (SE_name (x := "pile") (by decide +kernel) (by decide +kernel)) popM chkL PySem.F.plainAttrs_list PySem.F.slot_list_pop PySem.F.type_list_pop (hline := by decide +kernel)) (SG_sub (SE_name (x := "kept") (by decide +kernel) (by decide +kernel)) (SE_name (x := "name") (by decide +kernel) (by decide +kernel))))
    SB_nil))) SB_nil)
    (SB_cons (SS_if (ST_cmp (SE_name (x := "form") (by decide +kernel) (by decide +kernel)) SE_int eqR) (SB_cons (SS_asg (SE_sub (SE_str (x := "ABCD")) (SE_call (x := "_law_take") (j__law_take h) (SL_cons (SE_name (x := "box") (by decide +kernel) (by decide +kernel)) (SL_cons SE_int SL_nil)) (by decide +kernel) (by decide +kernel) (g__law_take h) (k__law_take h) (by decide +kernel))) (SG_name (x := "other") (by decide +kernel)))
    (SB_cons (SS_do (SE_call (x := "swap_texts") (j_swap_texts h) (SL_cons (SE_name (x := "room") (by decide +kernel) (by decide +kernel)) (SL_cons (SE_name (x := "name") (by decide +kernel) (by decide +kernel)) (SL_cons (SE_name (x := "other") (by decide +kernel) (by decide +kernel)) SL_nil))) (by decide +kernel) (by decide +kernel) (g_swap_texts h) (k_swap_texts h) (by decide +kernel)))
    (SB_cons (SS_swap (names := ["first", "last"]) (SE_tup (SL_cons (SE_meth (x := "get") (SE_name (x := "kept") (by decide +kernel) (by decide +kernel)) (SL_cons (SE_name (x := "name") (by decide +kernel) (by decide +kernel)) (SL_cons (SE_str (x := "")) SL_nil)) getM chkD PySem.F.plainAttrs_dict PySem.F.slot_dict_get PySem.F.type_dict_get (hline := by decide +kernel)) (SL_cons (SE_meth (x := "get") (SE_name (x := "kept") (by decide +kernel) (by decide +kernel)) (SL_cons (SE_name (x := "other") (by decide +kernel) (by decide +kernel)) (SL_cons (SE_str (x := "")) SL_nil)) getM chkD PySem.F.plainAttrs_dict PySem.F.slot_dict_get PySem.F.type_dict_get (hline := by decide +kernel)) SL_nil))) (hw := by intro env q; cases env; cases q; rfl) (ha := by decide +kernel))
    (SB_cons (SS_asg (SE_tup (SL_cons (SE_name (x := "last") (by decide +kernel) (by decide +kernel)) (SL_cons (SE_name (x := "first") (by decide +kernel) (by decide +kernel)) SL_nil))) (SG_tup (SGs_cons (SG_sub (SE_name (x := "kept") (by decide +kernel) (by decide +kernel)) (SE_name (x := "name") (by decide +kernel) (by decide +kernel))) (SGs_cons (SG_sub (SE_name (x := "kept") (by decide +kernel) (by decide +kernel)) (SE_name (x := "other") (by decide +kernel) (by decide +kernel))) SGs_nil))) (hw := by intro env q; cases env; cases q; rfl))
    SB_nil)))) SB_nil)
    (SB_cons (SS_if (ST_cmp (SE_name (x := "form") (by decide +kernel) (by decide +kernel)) SE_int eqR) (SB_cons (SS_do (SE_call (x := "forget") (j_forget h) (SL_cons (SE_name (x := "room") (by decide +kernel) (by decide +kernel)) (SL_cons (SE_name (x := "name") (by decide +kernel) (by decide +kernel)) SL_nil)) (by decide +kernel) (by decide +kernel) (g_forget h) (k_forget h) (by decide +kernel)))
    (SB_cons (SS_do (SE_meth (x := "pop") (SE_name (x := "kept") (by decide +kernel) (by decide +kernel)) (SL_cons (SE_name (x := "name") (by decide +kernel) (by decide +kernel)) (SL_cons SE_none SL_nil)) popDM chkD PySem.F.plainAttrs_dict PySem.F.slot_dict_pop PySem.F.type_dict_pop (hline := by decide +kernel)))
    SB_nil)) SB_nil)
    (SB_cons (SS_if (ST_cmp (SE_name (x := "form") (by decide +kernel) (by decide +kernel)) SE_int eqR) (SB_cons (SS_ret (SE_call (x := "_law_written") (j__law_written h) (SL_cons (SE_name (x := "room") (by decide +kernel) (by decide +kernel)) (SL_cons (SE_name (x := "kept") (by decide +kernel) (by decide +kernel)) (SL_cons (SE_name (x := "name") (by decide +kernel) (by decide +kernel)) (SL_cons (SE_call (x := "_law_take") (j__law_take h) (SL_cons (SE_name (x := "box") (by decide +kernel) (by decide +kernel)) (SL_cons SE_int SL_nil)) (by decide +kernel) (by decide +kernel) (g__law_take h) (k__law_take h) (by decide +kernel)) (SL_cons (SE_call (x := "_law_take") (j__law_take h) (SL_cons (SE_name (x := "box") (by decide +kernel) (by decide +kernel)) (SL_cons SE_int SL_nil)) (by decide +kernel) (by decide +kernel) (g__law_take h) (k__law_take h) (by decide +kernel)) (SL_cons (SE_call (x := "_law_text") (j__law_text h) (SL_cons (SE_name (x := "box") (by decide +kernel) (by decide +kernel)) SL_nil) (by decide +kernel) (by decide +kernel) (g__law_text h) (k__law_text h) (by decide +kernel)) SL_nil)))))) (by decide +kernel) (by decide +kernel) (g__law_written h) (k__law_written h) (by decide +kernel)))
    SB_nil) SB_nil)
    (SB_cons (SS_ret SE_bool)
    SB_nil)))))))))) (h.co_no (by kernel_rfl))

end
/-- the body of the def at an address -/
noncomputable def SBAt (C : Cx) (k : Nat) (fa : Addr) (g : SA) : Prop := ∃ oc od osl fd body, C.K.lookup fa = some ⟨oc, od, .func fd, osl⟩ ∧ fd.body = .stmts body ∧ C.codeOk fd.scope fd.code (fd.qualname ++ ".<locals>.") ∧ SB C k fd.scope body g
theorem SBAt_def {C : Cx} {k : Nat} {fa : Addr} {g : SA} {name qual : PySem.Str} {prm : Arguments} {body : List Stmt} {scope : Scope} {dV kV doc pm cdv ct oc : Value} {an od : Option Addr} {osl : Array (Option Value)}
    (ho : C.K.lookup fa = some ⟨oc, od, .func (fnOf name qual prm body scope dV kV doc pm an cdv ct), osl⟩) (hb : SB C k scope body g) (hc : C.codeOk scope cdv (qual ++ ".<locals>.")) : SBAt C k fa g :=
  ⟨oc, od, osl, _, body, ho, rfl, hc, hb⟩
section
variable {C : Cx} {P : Params}

noncomputable def f_law : SA := (sSeq (sAsg (eFn f__law_box (lCons (eName "script") lNil)) (gName "box"))
    (sSeq (sAsg (eTup (lCons (e2 vAdd (eInt 12) (eFn f__law_take (lCons (eName "box") (lCons (eInt 24) lNil)))) (lCons (eFn f__law_take (lCons (eName "box") (lCons (eInt 4) lNil))) lNil))) (gSwap ["whole", "low"]))
    (sSeq (sAsg (eTup (lCons (eNew f_Space__init__ (lCons (eName "whole") (lCons (e2 vAdd (eInt 2) (eFn f__law_take (lCons (eName "box") (lCons (eInt 3) lNil)))) lNil))) (lCons eDict0 (lCons (eLstH lNil) lNil)))) (gTup 3 (gsCons (gName "room") (gsCons (gName "kept") (gsCons (gName "pile") gsNil)))))
    (sSeq (sAsg (eName "low") (gAttr "low" (eName "room")))
    (sSeq (sFor (iRange (e2 vAdd (eInt 4) (eFn f__law_take (lCons (eName "box") (lCons (eInt 13) lNil))))) (gName "turn") (sSeq (sIf (tNot (tV (eFn f__law_deed (lCons (eName "room") (lCons (eName "kept") (lCons (eName "pile") (lCons (eName "box") (lCons (e2 vSub (eName "whole") (eName "low")) lNil)))))))) (sSeq (sRet (eBool false))
    sSkip) sSkip)
    (sSeq (sIf (tOr (tNot (tV (eFn f_is_sound (lCons (eName "room") lNil)))) (tOr (tV (e2 vNe (eComp ["room"] "place" (iSrc (eAttr "waiting" (eName "room"))) tTrue (eFn f_text_at (lCons (eName "room") (lCons (eName "place") lNil)))) (eName "pile"))) (fun _ σ => .ok false σ))) (sSeq (sRet (eBool false))
    sSkip) sSkip)
    (sSeq (sIf (tV (e2 vNe (eComp ["room", "kept"] "name" (iSrc (eStr "ABCD")) (tV (e2 vNe (eFn f_text_of (lCons (eName "room") (lCons (eName "name") lNil))) (eMeth isD (eName "kept") (lCons (eName "name") (lCons (eStr "") lNil)) mGet))) (eName "name")) (eLstV lNil))) (sSeq (sRet (eBool false))
    sSkip) sSkip)
    sSkip))))
    (sSeq (sIf (tOr (tV (e2 vNe (eLaw ["room"] (eFn f_assign_text (lCons (eName "room") (lCons (eStr "A") (lCons (e2 vMul (eStr "l") (eInt 256)) lNil))))) (eStr "LS"))) (tOr (tV (e2 vNe (eFn f_fre (lCons (eName "room") lNil)) (e2 vSub (e2 vSub (eName "whole") (eName "low")) (eFn f__law_held (lCons (eName "kept") (lCons (eName "pile") lNil)))))) (fun _ σ => .ok false σ))) (sSeq (sRet (eBool false))
    sSkip) sSkip)
    (sSeq (sRet (e2 vEq (eComp ["room"] "name" (iSrc (eStr "ABCD")) tTrue (eFn f_text_of (lCons (eName "room") (lCons (eName "name") lNil)))) (eComp ["kept"] "name" (iSrc (eStr "ABCD")) tTrue (eMeth isD (eName "kept") (lCons (eName "name") (lCons (eStr "") lNil)) mGet))))
    sSkip)))))))
theorem j_law (h : Ok C P) : SBAt C 9 273 f_law :=
  SBAt_def (lk h rfl)
    (SB_cons (SS_asg (SE_call (x := "_law_box") (j__law_box h) (SL_cons (SE_name (x := "script") (by decide +kernel) (by decide +kernel)) SL_nil) (by decide +kernel) (by decide +kernel) (g__law_box h) (k__law_box h) (by decide +kernel)) (SG_name (x := "box") (by decide +kernel)))
    (SB_cons (SS_swap (names := ["whole", "low"]) (SE_tup (SL_cons (SE_bin SE_int (SE_call (x := "_law_take") (j__law_take h) (SL_cons (SE_name (x := "box") (by decide +kernel) (by decide +kernel)) (SL_cons SE_int SL_nil)) (by decide +kernel) (by decide +kernel) (g__law_take h) (k__law_take h) (by decide +kernel)) addR) (SL_cons (SE_call (x := "_law_take") (j__law_take h) (SL_cons (SE_name (x := "box") (by decide +kernel) (by decide +kernel)) (SL_cons SE_int SL_nil)) (by decide +kernel) (by decide +kernel) (g__law_take h) (k__law_take h) (by decide +kernel)) SL_nil))) (hw := by intro env q; cases env; cases q; rfl) (ha := by decide +kernel))
    (SB_cons (SS_asg (SE_tup (SL_cons (SE_new (x := "Space") (j_Space__init__ h) (SL_cons (SE_name (x := "whole") (by decide +kernel) (by decide +kernel)) (SL_cons (SE_bin SE_int (SE_call (x := "_law_take") (j__law_take h) (SL_cons (SE_name (x := "box") (by decide +kernel) (by decide +kernel)) (SL_cons SE_int SL_nil)) (by decide +kernel) (by decide +kernel) (g__law_take h) (k__law_take h) (by decide +kernel)) addR) SL_nil)) (by decide +kernel) (by decide +kernel) (g_Space h) (k_Space h) (mk_Space h) (init_Space h) (ft_Space h) (by decide +kernel)) (SL_cons SE_dict0 (SL_cons (SE_lstH SL_nil) SL_nil)))) (SG_tup (SGs_cons (SG_name (x := "room") (by decide +kernel)) (SGs_cons (SG_name (x := "kept") (by decide +kernel)) (SGs_cons (SG_name (x := "pile") (by decide +kernel)) SGs_nil)))) (hw := by intro env q; cases env; cases q; rfl))
    (SB_cons (SS_asg (SE_name (x := "low") (by decide +kernel) (by decide +kernel)) (SG_attr (x := "low") (SE_name (x := "room") (by decide +kernel) (by decide +kernel)) (by decide +kernel)))
    (SB_cons (SS_for (SI_range (SE_bin SE_int (SE_call (x := "_law_take") (j__law_take h) (SL_cons (SE_name (x := "box") (by decide +kernel) (by decide +kernel)) (SL_cons SE_int SL_nil)) (by decide +kernel) (by decide +kernel) (g__law_take h) (k__law_take h) (by decide +kernel)) addR) (by decide +kernel) (g_range h)) (SG_name (x := "turn") (by decide +kernel)) (SB_cons (SS_if (ST_not (ST_val (SE_call (x := "_law_deed") (j__law_deed h) (SL_cons (SE_name (x := "room") (by decide +kernel) (by decide +kernel)) (SL_cons (SE_name (x := "kept") (by decide +kernel) (by decide +kernel)) (SL_cons (SE_name (x := "pile") (by decide +kernel) (by decide +kernel)) (SL_cons (SE_name (x := "box") (by decide +kernel) (by decide +kernel)) (SL_cons (SE_bin (SE_name (x := "whole") (by decide +kernel) (by decide +kernel)) (SE_name (x := "low") (by decide +kernel) (by decide +kernel)) subR) SL_nil))))) (by decide +kernel) (by decide +kernel) (g__law_deed h) (k__law_deed h) (by decide +kernel)))) (SB_cons (SS_ret SE_bool)
    SB_nil) SB_nil)
    (SB_cons (SS_if (ST_bool (SAll_or (ST_not (ST_val (SE_call (x := "is_sound") (j_is_sound h) (SL_cons (SE_name (x := "room") (by decide +kernel) (by decide +kernel)) SL_nil) (by decide +kernel) (by decide +kernel) (g_is_sound h) (k_is_sound h) (by decide +kernel)))) (SAll_or (ST_cmp (SE_comp (fv := ["room"]) (x := "place") ⟨rfl, rfl, by decide +kernel, by decide +kernel, by decide +kernel, by decide +kernel, by decide +kernel, by decide +kernel⟩ (SI_src (SE_attr (x := "waiting") (SE_name (x := "room") (by decide +kernel) (by decide +kernel)) (by decide +kernel))) plain_iSrc STs_nil (SE_call (x := "text_at") (j_text_at h) (SL_cons (SE_name (x := "room") (by decide +kernel) (by decide +kernel)) (SL_cons (SE_name (x := "place") (by decide +kernel) (by decide +kernel)) SL_nil)) (by decide +kernel) (by decide +kernel) (g_text_at h) (k_text_at h) (by decide +kernel))) (SE_name (x := "pile") (by decide +kernel) (by decide +kernel)) neR) SAll_or0))) (SB_cons (SS_ret SE_bool)
    SB_nil) SB_nil)
    (SB_cons (SS_if (ST_cmp (SE_comp (fv := ["room", "kept"]) (x := "name") ⟨rfl, rfl, by decide +kernel, by decide +kernel, by decide +kernel, by decide +kernel, by decide +kernel, by decide +kernel⟩ (SI_src (SE_str (x := "ABCD"))) plain_iSrc (STs_one (ST_cmp (SE_call (x := "text_of") (j_text_of h) (SL_cons (SE_name (x := "room") (by decide +kernel) (by decide +kernel)) (SL_cons (SE_name (x := "name") (by decide +kernel) (by decide +kernel)) SL_nil)) (by decide +kernel) (by decide +kernel) (g_text_of h) (k_text_of h) (by decide +kernel)) (SE_meth (x := "get") (SE_name (x := "kept") (by decide +kernel) (by decide +kernel)) (SL_cons (SE_name (x := "name") (by decide +kernel) (by decide +kernel)) (SL_cons (SE_str (x := "")) SL_nil)) getM chkD PySem.F.plainAttrs_dict PySem.F.slot_dict_get PySem.F.type_dict_get (hline := by decide +kernel)) neR)) (SE_name (x := "name") (by decide +kernel) (by decide +kernel))) (SE_lstV SL_nil) neR) (SB_cons (SS_ret SE_bool)
    SB_nil) SB_nil)
    SB_nil))) TgtOk.name enum_iRange)
    (SB_cons (SS_if (ST_bool (SAll_or (ST_cmp (SE_law (fv := ["room"]) h.X h.LF h.tab_law (by with_unfolding_all rfl) (by decide +kernel) (by with_unfolding_all rfl) (by decide +kernel) (by decide +kernel) (by decide +kernel) rfl rfl rfl (h.noTab (by kernel_rfl)) (SE_call (x := "assign_text") (j_assign_text h) (SL_cons (SE_name (x := "room") (by decide +kernel) (by decide +kernel)) (SL_cons (SE_str (x := "A")) (SL_cons (SE_bin (SE_str (x := "l")) SE_int mulR) SL_nil))) (by decide +kernel) (by decide +kernel) (g_assign_text h) (k_assign_text h) (by decide +kernel)) (by decide +kernel)) (SE_str (x := "LS")) neR) (SAll_or (ST_cmp (SE_call (x := "fre") (j_fre h) (SL_cons (SE_name (x := "room") (by decide +kernel) (by decide +kernel)) SL_nil) (by decide +kernel) (by decide +kernel) (g_fre h) (k_fre h) (by decide +kernel)) (SE_bin (SE_bin (SE_name (x := "whole") (by decide +kernel) (by decide +kernel)) (SE_name (x := "low") (by decide +kernel) (by decide +kernel)) subR) (SE_call (x := "_law_held") (j__law_held h) (SL_cons (SE_name (x := "kept") (by decide +kernel) (by decide +kernel)) (SL_cons (SE_name (x := "pile") (by decide +kernel) (by decide +kernel)) SL_nil)) (by decide +kernel) (by decide +kernel) (g__law_held h) (k__law_held h) (by decide +kernel)) subR) neR) SAll_or0))) (SB_cons (SS_ret SE_bool)
    SB_nil) SB_nil)
    (SB_cons (SS_ret (SE_cmp (SE_comp (fv := ["room"]) (x := "name") ⟨rfl, rfl, by decide +kernel, by decide +kernel, by decide +kernel, by decide +kernel, by decide +kernel, by decide +kernel⟩ (SI_src (SE_str (x := "ABCD"))) plain_iSrc STs_nil (SE_call (x := "text_of") (j_text_of h) (SL_cons (SE_name (x := "room") (by decide +kernel) (by decide +kernel)) (SL_cons (SE_name (x := "name") (by decide +kernel) (by decide +kernel)) SL_nil)) (by decide +kernel) (by decide +kernel) (g_text_of h) (k_text_of h) (by decide +kernel))) (SE_comp (fv := ["kept"]) (x := "name") ⟨rfl, rfl, by decide +kernel, by decide +kernel, by decide +kernel, by decide +kernel, by decide +kernel, by decide +kernel⟩ (SI_src (SE_str (x := "ABCD"))) plain_iSrc STs_nil (SE_meth (x := "get") (SE_name (x := "kept") (by decide +kernel) (by decide +kernel)) (SL_cons (SE_name (x := "name") (by decide +kernel) (by decide +kernel)) (SL_cons (SE_str (x := "")) SL_nil)) getM chkD PySem.F.plainAttrs_dict PySem.F.slot_dict_get PySem.F.type_dict_get (hline := by decide +kernel))) eqR))
    SB_nil))))))) (h.co_yes (by kernel_rfl))
end
/-! ## the join: the walk and the plain law -/
section
variable {w : World} {h₀ : Heap} {p : Program} {loose : List PySem.Str} {mean : ExcName → Option Value} {mg mb : PySem.Str → Option Value}
noncomputable def cxOf (w : World) (h₀ : Heap) (p : Program) (loose : List PySem.Str) (mean : ExcName → Option Value) (mg mb : PySem.Str → Option Value) (X : (KP w.params).In h₀) (T : Top p loose mean mg mb h₀)
    (ht : ∀ t ∈ tabs5 w.params, h₀.get? t.P = none ∧ CodeHd h₀ t.c t.P) : Cx where
  prog := PySem.Challenge.rw_pq0168_01.row.prog
  w := w
  K := KP w.params
  h₀ := h₀
  p := p
  loose := loose
  mean := mean
  mg := mg
  mb := mb
  X := X
  T := T
  tabs := tabs5 w.params
  tabNone := ht
  tabNd := by unfold tabs5; simp [tab__law_written, tab__law_joined, tab__law_pushed, tab__law_given, tab_law]
  spaceC := 54
  sysMod := ⟨34, _, by decide, X 34 _ rfl⟩
  spG := by with_unfolding_all rfl
  spH := by with_unfolding_all rfl
  spF := by with_unfolding_all (intro x hx; simp only [spaceFields, List.mem_cons, List.mem_nil_iff, or_false] at hx; rcases hx with rfl | rfl | rfl | rfl | rfl | rfl | rfl | rfl <;> rfl)
  spSet := by with_unfolding_all rfl
  spO := by with_unfolding_all rfl
  hprog := rfl
end
theorem ns_some_of {K : Frag} {h : Heap} {N : Addr} {mg : PySem.Str → Option Value} {n : PySem.Str} {v : Value} (X : K.In h) (G : h.Ns N mg) (e : nsIn K N n = some (some v)) : mg n = some v := by
  refine hide fun X_ k_ => ?_
  obtain ⟨o, es, ep, ho, hd, _, hf⟩ := G
  refine k_ ?_
  clear k_ X_
  unfold nsIn at e
  split at e
  · rename_i c d es' n' sl q
    have := X _ _ q
    rw [ho] at this
    cases this
    cases hd
    split at e
    · rename_i he
      cases e
      rw [← hf]
      unfold nsFind findBy
      rw [← Array.find?_toList, he]
      rfl
    · split at e <;> cases e
  · cases e
section
variable {w : World} {h₀ : Heap} {p : Program} {loose : List PySem.Str} {mean : ExcName → Option Value} {mg mb : PySem.Str → Option Value} {X : (KP w.params).In h₀} {T : Top p loose mean mg mb h₀} {ht : ∀ t ∈ tabs5 w.params, h₀.get? t.P = none ∧ CodeHd h₀ t.c t.P}
theorem ns33 (X : (KP w.params).In h₀) : h₀.Ns 33 (h₀.nsMap 33) := .of_isNs (isNs_of_in X (by with_unfolding_all rfl))
theorem excFacts : ExcFacts (cxOf w h₀ p loose mean mg mb X T ht) where
  cls := ⟨_, _, _, _, _, _, _, _, _, _, _, _, _, X 34 _ rfl⟩
  ns := ⟨h₀.nsMap 33, ns33 X, ns_some_of X (ns33 X) (by with_unfolding_all rfl), ns_none_of X (ns33 X) (by with_unfolding_all rfl), ns_none_of X (ns33 X) (by with_unfolding_all rfl), ns_none_of X (ns33 X) (by with_unfolding_all rfl), ns_none_of X (ns33 X) (by with_unfolding_all rfl), ns_none_of X (ns33 X) (by with_unfolding_all rfl)⟩
  fn := ⟨_, _, _, _, _, _, _, _, _, _, _, _, _, _, _, _, _, _, _, _, _, X 31 _ rfl, rfl, rfl, rfl, rfl, rfl, rfl, rfl, rfl, fun s hs a b c => BindsTo.of_defaults (T := 23) rfl (hs _ _ (X 23 _ rfl)) rfl rfl rfl, codeRec_of X (by with_unfolding_all rfl), X 30 _ rfl, rfl, rfl, by with_unfolding_all rfl⟩
  cell := ⟨_, X 18 _ rfl, rfl⟩
  sup := by with_unfolding_all rfl
  opq := by with_unfolding_all rfl
  clsK := ⟨_, rfl, rfl⟩
  along := by with_unfolding_all rfl
  top := by with_unfolding_all rfl
theorem lawFn : LawFn (cxOf w h₀ p loose mean mg mb X T ht) where
  fn := ⟨_, _, _, _, _, _, _, _, _, _, _, _, _, _, _, X 228 _ rfl, rfl, rfl, rfl, rfl, rfl, fun _ => rfl, codeRec_of X (by with_unfolding_all rfl)⟩
  exc := by with_unfolding_all rfl
  keep := by with_unfolding_all rfl
  name := by with_unfolding_all rfl
theorem cxOk : Ok (cxOf w h₀ p loose mean mg mb X T ht) w.params := ⟨rfl, excFacts, lawFn, rfl, rfl⟩
end
theorem vsr_ints {ι nx h} : ∀ {xs : List Value} {ns : List Int}, IntsAre xs ns → VsR ι nx h (ns.map V.int) xs := fun {xs ns} h => by
  cases h with
  | nil => exact .nil
  | cons n t r => exact .cons _ _ _ _ (.int n t) (vsr_ints r)

theorem start {w : World} {h₀ : Heap} {L fa : Addr} {p : Program} {loose : List PySem.Str} {mean : ExcName → Option Value} {mg mb m : PySem.Str → Option Value}
    {o1 o2 : Obj} {v1 v2 : Option Value} {xs : List Value} {ns : List Int} {sl : Addr} {s : Shared} {body : List Stmt} {scope : Scope} {nm : PySem.Str} {Q : Flow → Shared → Prop} {E : Value → Shared → Prop}
    (X : (KP w.params).In h₀) (T : Top p loose mean mg mb h₀) (F : Fr h₀ L s.heap m)
    (N : News h₀ L s.heap [(L + 1 + 1, o1), (L + 1, o2), (256, tabObj #[]), (249, tabObj #[]), (242, tabObj #[]), (235, tabObj #[]), (270, tabObj #[])])
    (c1 : CodeHd h₀ 260 256) (c2 : CodeHd h₀ 253 249) (c3 : CodeHd h₀ 246 242) (c4 : CodeHd h₀ 239 235) (c5 : CodeHd h₀ 272 270)
    (lift : h₀.IsList sl xs.toArray) (hI : IntsAre xs ns) (d1 : o1.data = .cell v1) (d2 : o2.data = .cell v2)
    (hm : m (sname "script") = some (.ref sl)) (hlt : 256 < L ∧ 249 < L ∧ 242 < L ∧ 235 < L ∧ 270 < L)
    (hlk : ∃ oc od osl fd, (KP w.params).lookup 273 = some ⟨oc, od, .func fd, osl⟩ ∧ fd.body = .stmts body ∧ fd.scope = scope ∧ fd.code = .ref 272 ∧ fd.qualname = nm)
    (hcells : cellsFrom (L + 1) scope.names [] = [(sname "room", L + 1 + 1), (sname "kept", L + 1)] ∨ cellsFrom (L + 1) scope.names [] = [(sname "kept", L + 1 + 1), (sname "room", L + 1)]) (hkind : scope.kind = .function) (hscr : (envOfC nm scope L fa (.ref 272)).kindOf (sname "script") = some .local)
    (plain : ∃ ρ σ, f_law [("script", .lst (ns.map .int))] [] = .ok (.ret (.bool true), ρ) σ)
    (hQ : ∀ h tk, (∀ b o, h₀.get? b = some o → h.get? b = some o) → (∀ P ∈ [256, 249, 242, 235, 270], ∃ ps, h.get? P = some (tabObj ps)) → Q (.ret (.bool true)) { s with heap := h, toks := tk }) :
    wpAny (model PySem.Challenge.rw_pq0168_01.row.prog w) (callerA.deeper (envOfC nm scope L fa (.ref 272))) (execs body (envOfC nm scope L fa (.ref 272))) Q E s := by
  have n1 := N _ (.head _)
  have n2 := N _ (.tail _ (.head _))
  have n3 := N _ (.tail _ (.tail _ (.head _)))
  have n4 := N _ (.tail _ (.tail _ (.tail _ (.head _))))
  have n5 := N _ (.tail _ (.tail _ (.tail _ (.tail _ (.head _)))))
  have n6 := N _ (.tail _ (.tail _ (.tail _ (.tail _ (.tail _ (.head _))))))
  have n7 := N _ (.tail _ (.tail _ (.tail _ (.tail _ (.tail _ (.tail _ (.head _)))))))
  have ht : ∀ t ∈ tabs5 w.params, h₀.get? t.P = none ∧ CodeHd h₀ t.c t.P := by
    intro t ht
    simp only [tabs5, List.mem_cons, List.mem_nil_iff, or_false] at ht
    rcases ht with rfl | rfl | rfl | rfl | rfl
    · exact ⟨n3.2.2, c1⟩
    · exact ⟨n4.2.2, c2⟩
    · exact ⟨n5.2.2, c3⟩
    · exact ⟨n6.2.2, c4⟩
    · exact ⟨n7.2.2, c5⟩
  let C := cxOf w h₀ p loose mean mg mb X T ht
  let env := envOfC nm scope L fa (.ref 272)
  let W : Wd := ⟨fun _ => 0, [], s⟩
  have tabLt : ∀ b, C.isTab b → b < L := by
    rintro b ⟨t, ht, rfl⟩
    have ht : t ∈ tabs5 w.params := ht
    simp only [tabs5, List.mem_cons, List.mem_nil_iff, or_false] at ht
    rcases ht with rfl | rfl | rfl | rfl | rfl
    · exact hlt.1
    · exact hlt.2.1
    · exact hlt.2.2.1
    · exact hlt.2.2.2.1
    · exact hlt.2.2.2.2
  have out : ∀ b, L ≤ b → C.out b := fun b hb => ⟨Heap.get?_none_of_le (Nat.le_trans F.above hb), fun q => absurd (tabLt b q) (Nat.not_lt.mpr hb)⟩
  have nx0 : ∀ n, ¬ n < W.nx := fun n h => absurd h (Nat.not_lt_zero _)
  have H : HR C W := by
    refine ⟨F.keep, fun n o e => (by cases e), fun n _ h => (nx0 n h).elim, fun n h => (nx0 n h).elim, fun n h => (nx0 n h).elim, ?_⟩
    intro t ht
    have ht : t ∈ tabs5 w.params := ht
    simp only [tabs5, List.mem_cons, List.mem_nil_iff, or_false] at ht
    rcases ht with rfl | rfl | rfl | rfl | rfl
    · exact ⟨_, n3.1, .inl rfl⟩
    · exact ⟨_, n4.1, .inl rfl⟩
    · exact ⟨_, n5.1, .inl rfl⟩
    · exact ⟨_, n6.1, .inl rfl⟩
    · exact ⟨_, n7.1, .inl rfl⟩
  have cellsIn : ∀ y c, env.cells.lookup y = some c → (y = sname "room" ∨ y = sname "kept") ∧ ((c = L + 1 + 1) ∨ (c = L + 1)) := by
    intro y c e
    have hm := mem_of_lookup e
    have : (y, c) ∈ cellsFrom (L + 1) scope.names [] := hm
    rcases hcells with hc | hc
    · rw [hc] at this
      simp only [List.mem_cons, Prod.mk.injEq, List.mem_nil_iff, or_false] at this
      rcases this with ⟨rfl, rfl⟩ | ⟨rfl, rfl⟩
      · exact ⟨.inl rfl, .inl rfl⟩
      · exact ⟨.inr rfl, .inr rfl⟩
    · rw [hc] at this
      simp only [List.mem_cons, Prod.mk.injEq, List.mem_nil_iff, or_false] at this
      rcases this with ⟨rfl, rfl⟩ | ⟨rfl, rfl⟩
      · exact ⟨.inr rfl, .inl rfl⟩
      · exact ⟨.inl rfl, .inr rfl⟩
  have only : ∀ x v, look x [("script", V.lst (ns.map V.int))] = some v → x = "script" ∧ v = V.lst (ns.map V.int) := by
    intro x v e
    unfold look at e
    split at e
    · rename_i q; cases e; exact ⟨q.symm, rfl⟩
    · cases e
  refine hide fun X_ k_ => ?_
  obtain ⟨osl, hsl, hcl, ep, hdl⟩ := id lift
  refine k_ ?_
  clear k_ X_
  have FF : FR C env (callerA.deeper env) W [("script", V.lst (ns.map V.int))] := by
    refine ⟨hkind, rfl, rfl, ⟨m, F.ns, fun x v e _ => ?_⟩, fun x v e hk => ?_, ⟨out L (Nat.le_refl _), fun n h => (nx0 n h).elim⟩, fun y c e => ?_, fun y z c e1 e2 => ?_, fun y hy => cellsFrom_some _ _ _ (.inl hy), ⟨[env], rfl, fun e he => ?_⟩⟩
    · obtain ⟨rfl, rfl⟩ := only x v e
      exact ⟨_, hm, .lst _ xs sl ep osl (F.keep _ _ hsl) hcl hdl (fun n h => (nx0 n h).elim) (vsr_ints hI)⟩
    · obtain ⟨rfl, rfl⟩ := only x v e
      exact absurd hscr hk
    · obtain ⟨_, rfl | rfl⟩ := cellsIn y c e
      · exact ⟨out _ (Nat.le_add_right L 2), Nat.ne_of_gt (Nat.lt_add_of_pos_right (n := L) (k := 2) (by decide)), fun n h => (nx0 n h).elim, v1, o1, n1.1, d1⟩
      · exact ⟨out _ (Nat.le_add_right L 1), Nat.ne_of_gt (Nat.lt_add_of_pos_right (n := L) (k := 1) (by decide)), fun n h => (nx0 n h).elim, v2, o2, n2.1, d2⟩
    · have m1 : (y, c) ∈ cellsFrom (L + 1) scope.names [] := mem_of_lookup e1
      have m2 : (z, c) ∈ cellsFrom (L + 1) scope.names [] := mem_of_lookup e2
      rcases hcells with hc | hc <;> rw [hc] at m1 m2 <;> simp only [List.mem_cons, Prod.mk.injEq, List.mem_nil_iff, or_false] at m1 m2 <;> rcases m1 with ⟨rfl, rfl⟩ | ⟨rfl, rfl⟩ <;> rcases m2 with ⟨rfl, q⟩ | ⟨rfl, q⟩ <;> first | rfl | exact absurd q (Nat.succ_ne_self _) | exact absurd q.symm (Nat.succ_ne_self _)
    · simp only [List.mem_cons, List.mem_nil_iff, or_false] at he
      subst he
      refine hide fun X_ k_ => ?_
      obtain ⟨o, es, ep, ho, hd, _⟩ := F.ns
      refine k_ ?_
      clear k_ X_
      exact ⟨by show scope.kind ≠ _; rw [hkind]; decide, L, o, rfl, out L (Nat.le_refl _), fun n h => (nx0 n h).elim, ho, es, ep, hd⟩
  have Rm : Room (callerA.deeper env) 9 := ⟨by show 1 + claimMargin + 1 + 9 < recursionLimit; decide, by show 4 + 3 + 5 * 9 + 100 < cLine; decide, rfl⟩
  refine hide fun X_ k_ => ?_
  obtain ⟨oc', od', osl', fd', body', h1', h2', h3', hb⟩ := j_law (cxOk (w := w) (h₀ := h₀) (p := p) (loose := loose) (mean := mean) (mg := mg) (mb := mb) (X := X) (T := T) (ht := ht))
  obtain ⟨oc, od, os2, fd, g1, g2, rfl, g4, rfl⟩ := hlk
  refine k_ ?_
  clear k_ X_
  rw [show (cxOf w h₀ p loose mean mg mb X T ht).K.lookup 273 = some ⟨oc, od, .func fd, os2⟩ from g1] at h1'
  cases h1'
  rw [g2] at h2'
  cases h2'
  rw [g4] at h3'
  obtain ⟨ρ', σ', hp⟩ := plain
  refine hb env (callerA.deeper env) W _ ⟨⟨rfl, h3'⟩, Rm, H, FF⟩ _ _ ?_
  show K _ _ _ (f_law [("script", .lst (ns.map .int))] []) W Q E
  rw [hp]
  intro a W' x' H' e' r'
  obtain ⟨_, y, rfl, rv⟩ := r'
  cases rv
  obtain ⟨h, tk, e⟩ := x'.sh
  rw [e]
  have eh : W'.s.heap = h := by rw [e]
  refine hQ h tk (fun b o q => eh ▸ H'.keep b o q) fun P hP => ?_
  have tb : ∀ t ∈ tabs5 w.params, ∃ ps, h.get? t.P = some (tabObj ps) := fun t ht => let ⟨ps, e1, _⟩ := H'.tabs t ht; ⟨ps, eh ▸ e1⟩
  simp only [List.mem_cons, List.mem_nil_iff, or_false] at hP
  rcases hP with rfl | rfl | rfl | rfl | rfl
  · exact tb _ (.head _)
  · exact tb _ (.tail _ (.head _))
  · exact tb _ (.tail _ (.tail _ (.head _)))
  · exact tb _ (.tail _ (.tail _ (.tail _ (.head _))))
  · exact tb _ (.tail _ (.tail _ (.tail _ (.tail _ (.head _)))))
set_option maxHeartbeats 1000000
theorem grownAll_of {h : Heap} (k : ∀ P ∈ [256, 249, 242, 235, 270], ∃ ps, h.get? P = some (tabObj ps)) : GrownAll [(260, 256), (253, 249), (246, 242), (239, 235), (272, 270)] h :=
  ⟨k 256 (by simp), k 249 (by simp), k 242 (by simp), k 235 (by simp), k 270 (by simp), trivial⟩
theorem joined (plain : ∀ ns : List Int, ns.length ≤ 63 → ∃ ρ σ, f_law [("script", .lst (ns.map .int))] [] = .ok (.ret (.bool true), ρ) σ) : PySem.Challenge.rw_pq0168_01.Holds := by
  w_on
  refine holds_law (by decide +kernel) fun said => ?_
  refine holds_open (q := VIEW) (loose := [PySem.Str.ofString "BasicError"]) (Xt := fun s => xlAt VIEW [] s && recOk (RowW.records PySem.Challenge.rw_pq0168_01.row.toRowW) s) (XP := XL VIEW []) (Yf := (kmHook KP asK hkE [256, 249, 242, 235, 270]).obs) (Ya := (kmHook KP asK hkE [256, 249, 242, 235, 270]).val) (YP := (kmHook KP asK hkE [256, 249, 242, 235, 270]).says) (N := 3208) tl (kmHook KP asK hkE [256, 249, 242, 235, 270]).of (kmHook KP asK hkE [256, 249, 242, 235, 270]).keeps (fun s e => xl_of s (Bool.and_eq_true_iff.mp e).1) XL.keeps (by rfl) (by rfl) (by rfl) (fun s e => recFacts_of (Bool.and_eq_true_iff.mp e).2) (by rfl) (by first | assumption | decide +kernel) (by decide +kernel) ⟨rfl, rfl, rfl, rfl, rfl, by decide +kernel⟩ ?hw ?hc
  case hw => w_witness2
  case hc => w_strict (k_go0; (
    (refine' start ?X ?T ?F ?N ?c1 ?c2 ?c3 ?c4 ?c5 ?lift ?hI ?d1 ?d2 ?hm ?hlt ?hlk ?hcells ?hkind ?hscr ?plain ?hQ);
    (case X => with_reducible assumption); (case T => with_reducible assumption); (case F => with_reducible assumption); (case N => with_reducible assumption);
    (case c1 => with_reducible assumption); (case c2 => with_reducible assumption); (case c3 => with_reducible assumption); (case c4 => with_reducible assumption); (case c5 => with_reducible assumption);
    (case lift => with_reducible assumption); (case hI => with_reducible assumption); (case d1 => with_reducible assumption); (case d2 => with_reducible assumption); (case hlt => with_reducible assumption);
    (case plain => exact plain _ (by omega));
    (case hkind => rfl); (case hcells => first | exact .inl rfl | exact .inr rfl); (case hm => rfl); (case hscr => rfl); (case hlk => exact ⟨_, _, _, _, rfl, rfl, rfl, rfl, rfl⟩);
    (case hQ => (intro h tk k1 k2; (refine' ⟨⟨.inl ⟨.bool true, .bool true, [], rfl, raisesW_false (fun _ h => nomatch h), .bool true, ?hp, fun _ => ⟨List.nodup_nil, fun a h => nomatch h⟩⟩, k1, rfl, ?hg⟩, grownAll_of k2⟩); (case hg => with_reducible assumption); (case hp => (refine postW_of ?_ (w_eq_bool (w_res rfl) w_lit) ?_ <;> rfl))));
    skip))
set_option maxHeartbeats 200000
/-! # The plain law: what the walked functions compute -/
noncomputable def WP {α : Type} (r : Res α) (Q : α → AH → Prop) (E : V → AH → Prop) : Prop := match r with
  | .ok a σ => Q a σ
  | .exc c σ => E c σ
  | .fail => False
section
variable {α β : Type} {Q : α → AH → Prop} {E : V → AH → Prop} {ρ : Loc} {σ : AH}
theorem w_bind {m : Res β} {f : β → AH → Res α} (h : WP m (fun a σ => WP (f a σ) Q E) E) : WP (m.bind f) Q E := by
  cases m <;> exact h
theorem w_mono {m : Res α} {Q' : α → AH → Prop} {E' : V → AH → Prop} (h : WP m Q' E') (q : ∀ a σ, Q' a σ → Q a σ) (e : ∀ a σ, E' a σ → E a σ) : WP m Q E := by
  cases m with
  | ok a σ => exact q _ _ h
  | exc c σ => exact e _ _ h
  | fail => exact h
theorem w_safe {m : Res α} (h : WP m Q (fun _ _ => False)) : WP m.safe Q E := by
  cases m with
  | ok a σ => exact h
  | exc c σ => exact h.elim
  | fail => exact h
theorem w_out {m : Res α} (h : WP m Q (fun _ _ => False)) : ∃ a σ, m = .ok a σ ∧ Q a σ := by
  cases m with
  | ok a σ => exact ⟨a, σ, rfl, h⟩
  | exc c σ => exact h.elim
  | fail => exact h.elim
end
/-! ### the rests of an expression, by name: terms stay small -/
section
noncomputable abbrev K2b (op : Op2) (a : V) (Q E : V → AH → Prop) : V → AH → Prop := fun b σ => WP (op a b σ) Q E
noncomputable abbrev K2a (op : Op2) (g : EA) (ρ : Loc) (Q E : V → AH → Prop) : V → AH → Prop := fun a σ => WP (g ρ σ) (K2b op a Q E) E
noncomputable abbrev Kfn (F : List V → AH → Res V) (Q E : V → AH → Prop) : List V → AH → Prop := fun vs σ => WP (F vs σ) Q E
noncomputable abbrev Kcb (v : V) (Q : List V → AH → Prop) : List V → AH → Prop := fun l σ => Q (v :: l) σ
noncomputable abbrev Kca (g : LA) (ρ : Loc) (Q : List V → AH → Prop) (E : V → AH → Prop) : V → AH → Prop := fun v σ => WP (g ρ σ) (Kcb v Q) E
noncomputable abbrev KtV (Q : Bool → AH → Prop) : V → AH → Prop := fun v σ => ∃ b, v = .bool b ∧ Q b σ
noncomputable abbrev Kno (Q : Bool → AH → Prop) : Bool → AH → Prop := fun b σ => Q (!b) σ
noncomputable abbrev Krt (ρ : Loc) (Q : Fl × Loc → AH → Prop) : V → AH → Prop := fun v σ => Q (.ret v, ρ) σ
noncomputable abbrev Kdo {α : Type} (ρ : Loc) (Q : Fl × Loc → AH → Prop) : α → AH → Prop := fun _ σ => Q (.next, ρ) σ
noncomputable abbrev Kgo (Q : Fl × Loc → AH → Prop) : Loc → AH → Prop := fun ρ σ => Q (.next, ρ) σ
noncomputable abbrev Kas (g : GA) (ρ : Loc) (Q : Fl × Loc → AH → Prop) (E : V → AH → Prop) : V → AH → Prop := fun v σ => WP (g v ρ σ) (Kgo Q) E
noncomputable abbrev Kat (x : String) (Q E : V → AH → Prop) : V → AH → Prop := fun a σ => WP (vAttr x a σ) Q E
noncomputable abbrev K3c (a b : V) (Q E : V → AH → Prop) : V → AH → Prop := fun c σ => WP (vSlc a b c σ) Q E
noncomputable abbrev K3b (k : EA) (ρ : Loc) (a : V) (Q E : V → AH → Prop) : V → AH → Prop := fun b σ => WP (k ρ σ) (K3c a b Q E) E
noncomputable abbrev K3a (g k : EA) (ρ : Loc) (Q E : V → AH → Prop) : V → AH → Prop := fun a σ => WP (g ρ σ) (K3b k ρ a Q E) E
end
section
variable {Q : V → AH → Prop} {E : V → AH → Prop} {ρ : Loc} {σ : AH}
theorem w_int {i : Int} (h : Q (.int i) σ) : WP (eInt i ρ σ) Q E := h
theorem w_str {x : String} (h : Q (.str (codes x)) σ) : WP (eStr x ρ σ) Q E := h
theorem w_none (h : Q .none σ) : WP (eNone ρ σ) Q E := h
theorem w_bool {b : Bool} (h : Q (.bool b) σ) : WP (eBool b ρ σ) Q E := h
theorem w_glob {i : Int} (h : Q (.int i) σ) : WP (eGlob i ρ σ) Q E := h
theorem w_name {x : String} {v : V} (hl : look x ρ = some v) (h : Q v σ) : WP (eName x ρ σ) Q E := by unfold eName; rw [hl]; exact h
theorem w_e2 {op : Op2} {f g : EA} (h : WP (f ρ σ) (K2a op g ρ Q E) E) : WP (e2 op f g ρ σ) Q E :=
  w_bind (w_mono h (fun _ _ h => w_bind h) fun _ _ h => h)
theorem w_sub {f g : EA} (h : WP (f ρ σ) (K2a vGet g ρ Q E) E) : WP (eSub f g ρ σ) Q E := w_e2 h
theorem w_subD {f g : EA} (h : WP (f ρ σ) (K2a vGetD g ρ Q E) E) : WP (eSubD f g ρ σ) Q E := w_e2 h
theorem w_slc {f g k : EA} (h : WP (f ρ σ) (K3a g k ρ Q E) E) : WP (eSlc f g k ρ σ) Q E :=
  w_bind (w_mono h (fun _ _ h => w_bind (w_mono h (fun _ _ h => w_bind h) fun _ _ h => h)) fun _ _ h => h)
theorem w_attr {x : String} {f : EA} (h : WP (f ρ σ) (Kat x Q E) E) : WP (eAttr x f ρ σ) Q E := w_bind h
theorem w_fn {F : List V → AH → Res V} {l : LA} (h : WP (l ρ σ) (Kfn F Q E) E) : WP (eFn F l ρ σ) Q E := w_bind h
theorem w_if {c : BA} {f g : EA} (h : WP (c ρ σ) (fun b σ => WP (if b then f ρ σ else g ρ σ) Q E) E) : WP (eIf c f g ρ σ) Q E := w_bind h
theorem w_tup {l : LA} (h : WP (l ρ σ) (fun vs σ => sizeOk' vs.length = true ∧ Q (.tup vs) σ) E) : WP (eTup l ρ σ) Q E :=
  w_bind (w_mono h (fun _ _ h => by rw [if_pos h.1]; exact h.2) fun _ _ h => h)
theorem w_lstV {l : LA} (h : WP (l ρ σ) (fun vs σ => sizeOk' vs.length = true ∧ Q (.lst vs) σ) E) : WP (eLstV l ρ σ) Q E :=
  w_bind (w_mono h (fun _ _ h => by rw [if_pos h.1]; exact h.2) fun _ _ h => h)
theorem w_lstH {l : LA} (h : WP (l ρ σ) (fun vs σ => sizeOk' vs.length = true ∧ Q (.ref σ.length) (σ ++ [.list vs])) E) : WP (eLstH l ρ σ) Q E :=
  w_bind (w_mono h (fun _ _ h => by rw [if_pos h.1]; exact h.2) fun _ _ h => h)
theorem w_dict0 (h : Q (.ref σ.length) (σ ++ [.dict []])) : WP (eDict0 ρ σ) Q E := h
theorem w_repV {f g : EA} (h : WP (f ρ σ) (fun a σ => WP (g ρ σ) (fun b σ => ∃ i : Int, b = .int i ∧ i.natAbs ≤ 100000 ∧ Q (.lst (List.replicate i.toNat a)) σ) E) E) : WP (eRepV f g ρ σ) Q E :=
  w_bind (w_mono h (fun _ _ h => w_bind (w_mono h (fun _ _ ⟨i, e, hi, h⟩ => by subst e; show WP (if i.natAbs ≤ 100000 then _ else _) Q E; rw [if_pos hi]; exact h) fun _ _ h => h)) fun _ _ h => h)
theorem w_repH {f g : EA} (h : WP (f ρ σ) (fun a σ => WP (g ρ σ) (fun b σ => ∃ i : Int, b = .int i ∧ i.natAbs ≤ 100000 ∧ Q (.ref σ.length) (σ ++ [.list (List.replicate i.toNat a)])) E) E) : WP (eRepH f g ρ σ) Q E :=
  w_bind (w_mono h (fun _ _ h => w_bind (w_mono h (fun _ _ ⟨i, e, hi, h⟩ => by subst e; show WP (if i.natAbs ≤ 100000 then _ else _) Q E; rw [if_pos hi]; exact h) fun _ _ h => h)) fun _ _ h => h)
theorem w_meth {chk : AH → V → Bool} {f : EA} {l : LA} {F : List V → AH → Res V} (h : WP (f ρ σ) (fun v σ => chk σ v = true ∧ WP (l ρ σ) (fun vs σ => WP (F (v :: vs) σ) Q E) E) E) : WP (eMeth chk f l F ρ σ) Q E :=
  w_bind (w_mono h (fun v σ h => by rw [if_pos h.1]; exact w_bind h.2) fun _ _ h => h)
theorem w_law {fv : List String} {fb : EA} (h : WP (fb (cap fv ρ) σ) (fun _ σ => Q (.str []) σ) (fun c σ => Q c σ)) : WP (eLaw fv fb ρ σ) Q E := by
  unfold eLaw
  cases q : fb (cap fv ρ) σ <;> rw [q] at h <;> exact h
theorem w_new {F : List V → AH → Res V} {l : LA} (h : WP (l ρ σ) (fun vs σ => WP (F (.ref σ.length :: vs) (σ ++ [.inst [], .shadow])) (fun r σ' => r = .none ∧ Q (.ref σ.length) σ') E) E) : WP (eNew F l ρ σ) Q E :=
  w_bind (w_mono h (fun vs σ h => w_bind (w_mono h (fun r σ' h => by rw [h.1]; exact h.2) fun _ _ h => h)) fun _ _ h => h)
end
section
variable {Q : List V → AH → Prop} {E : V → AH → Prop} {ρ : Loc} {σ : AH}
theorem w_nil (h : Q [] σ) : WP (lNil ρ σ) Q E := h
theorem w_cons {f : EA} {g : LA} (h : WP (f ρ σ) (Kca g ρ Q E) E) : WP (lCons f g ρ σ) Q E :=
  w_bind (w_mono h (fun _ _ h => w_bind h) fun _ _ h => h)
end
section
variable {Q : Bool → AH → Prop} {E : V → AH → Prop} {ρ : Loc} {σ : AH}
theorem w_tV {f : EA} (h : WP (f ρ σ) (KtV Q) E) : WP (tV f ρ σ) Q E :=
  w_bind (w_mono h (fun v σ ⟨b, e, h⟩ => by subst e; exact h) fun _ _ h => h)
theorem w_not {f : BA} (h : WP (f ρ σ) (Kno Q) E) : WP (tNot f ρ σ) Q E := w_bind h
theorem w_and {f g : BA} (h : WP (f ρ σ) (fun b σ => WP (if b then g ρ σ else .ok false σ) Q E) E) : WP (tAnd f g ρ σ) Q E := w_bind h
theorem w_or {f g : BA} (h : WP (f ρ σ) (fun b σ => WP (if b then .ok true σ else g ρ σ) Q E) E) : WP (tOr f g ρ σ) Q E := w_bind h
theorem w_okB {b : Bool} (h : Q b σ) : WP (Res.ok b σ) Q E := h
theorem w_chain {o₁ o₂ : Op2} {f g k : EA} (h : WP (f ρ σ) (fun a σ => WP (g ρ σ) (fun b σ => WP (o₁ a b σ) (fun v σ => ∃ c, v = .bool c ∧ WP (if c then (k ρ σ).bind fun d σ => (o₂ b d σ).bind asB else .ok false σ) Q E) E) E) E) : WP (tChain o₁ o₂ f g k ρ σ) Q E :=
  w_bind (w_mono h (fun _ _ h => w_bind (w_mono h (fun _ _ h => w_bind (w_bind (w_mono h (fun v σ ⟨b, e, h⟩ => by subst e; exact h) fun _ _ h => h))) fun _ _ h => h)) fun _ _ h => h)
theorem w_chain2 {o₂ : Op2} {k : EA} {b : V} (h : WP (k ρ σ) (fun d σ => WP (o₂ b d σ) (fun v σ => ∃ c, v = .bool c ∧ Q c σ) E) E) : WP ((k ρ σ).bind fun d σ => (o₂ b d σ).bind asB) Q E :=
  w_bind (w_mono h (fun _ _ h => w_bind (w_mono h (fun v σ ⟨b, e, h⟩ => by subst e; exact h) fun _ _ h => h)) fun _ _ h => h)
end
/-! ### statements -/
noncomputable abbrev SQ' := Fl × Loc → AH → Prop
noncomputable def Nx (g : SA) (Q : SQ') (E : V → AH → Prop) : SQ' := fun r σ => match r.1 with
  | .next => WP (g r.2 σ) Q E
  | .ret v => Q (.ret v, r.2) σ
section
variable {Q : SQ'} {E : V → AH → Prop} {ρ : Loc} {σ : AH}
theorem nx_next {g : SA} (h : WP (g ρ σ) Q E) : Nx g Q E (.next, ρ) σ := h
theorem nx_ret {g : SA} {v : V} (h : Q (.ret v, ρ) σ) : Nx g Q E (.ret v, ρ) σ := h
theorem w_skip (h : Q (.next, ρ) σ) : WP (sSkip ρ σ) Q E := h
theorem w_seq {f g : SA} (h : WP (f ρ σ) (Nx g Q E) E) : WP (sSeq f g ρ σ) Q E :=
  w_bind (w_mono h (fun ⟨r, ρ⟩ σ h => by cases r <;> exact h) fun _ _ h => h)
theorem w_ret {f : EA} (h : WP (f ρ σ) (Krt ρ Q) E) : WP (sRet f ρ σ) Q E := w_bind h
theorem w_do {f : EA} (h : WP (f ρ σ) (Kdo ρ Q) E) : WP (sDo f ρ σ) Q E := w_bind h
theorem w_sif {c : BA} {f g : SA} (h : WP (c ρ σ) (fun b σ => WP (if b then f ρ σ else g ρ σ) Q E) E) : WP (sIf c f g ρ σ) Q E := w_bind h
theorem w_asg {f : EA} {g : GA} (h : WP (f ρ σ) (Kas g ρ Q E) E) : WP (sAsg f g ρ σ) Q E :=
  w_bind (w_mono h (fun _ _ h => w_bind h) fun _ _ h => h)
theorem w_aug {x : String} {op : Op2} {o f : EA} (h : WP (o ρ σ) (fun o σ => WP (vAttr x o σ) (fun old σ => WP (f ρ σ) (fun v σ => WP (op old v σ) (fun new σ => WP (vSetAttr x o new σ) (fun _ σ => Q (.next, ρ) σ) E) E) E) E) E) : WP (sAug x op o f ρ σ) Q E :=
  w_bind (w_mono h (fun _ _ h => w_bind (w_mono h (fun _ _ h => w_bind (w_mono h (fun _ _ h => w_bind (w_mono h (fun _ _ h => w_bind h) fun _ _ h => h)) fun _ _ h => h)) fun _ _ h => h)) fun _ _ h => h)
theorem w_raise {l : LA} (h : WP (l ρ σ) (fun vs σ => ∃ c d, vs = [c, d] ∧ E c σ) E) : WP (sRaise l ρ σ) Q E :=
  w_bind (w_mono h (fun _ _ ⟨c, d, e, h⟩ => by subst e; exact h) fun _ _ h => h)
end
section
variable {Q : Loc → AH → Prop} {E : V → AH → Prop} {ρ : Loc} {σ : AH} {v : V}
theorem w_gName {x : String} (h : Q (put x v ρ) σ) : WP (gName x v ρ σ) Q E := h
theorem w_gAttr {x : String} {f : EA} (h : WP (f ρ σ) (fun o σ => WP (vSetAttr x o v σ) (fun _ σ => Q ρ σ) E) E) : WP (gAttr x f v ρ σ) Q E :=
  w_bind (w_mono h (fun _ _ h => w_bind h) fun _ _ h => h)
theorem w_gSub {f g : EA} (h : WP (f ρ σ) (fun a σ => WP (g ρ σ) (fun b σ => WP (vSetItem a b v σ) (fun _ σ => Q ρ σ) E) E) E) : WP (gSub f g v ρ σ) Q E :=
  w_bind (w_mono h (fun _ _ h => w_bind (w_mono h (fun _ _ h => w_bind h) fun _ _ h => h)) fun _ _ h => h)
theorem w_gSlc {f g k : EA} (h : WP (f ρ σ) (fun a σ => WP (g ρ σ) (fun b σ => WP (k ρ σ) (fun c σ => WP (vSetSlc a b c v σ) (fun _ σ => Q ρ σ) E) E) E) E) : WP (gSlc f g k v ρ σ) Q E :=
  w_bind (w_mono h (fun _ _ h => w_bind (w_mono h (fun _ _ h => w_bind (w_mono h (fun _ _ h => w_bind h) fun _ _ h => h)) fun _ _ h => h)) fun _ _ h => h)
theorem w_gTup {n : Nat} {gs : GsA} {l : List V} (hs : seqAt σ v = some l) (hn : l.length = n) (h : WP (gs l ρ σ) Q E) : WP (gTup n gs v ρ σ) Q E := by
  refine w_bind ?_
  unfold unpackR; rw [hs]; dsimp only; rw [if_pos hn]; exact h
theorem w_gSwap {names : List String} {l : List V} (hs : seqAt σ v = some l) (hn : l.length = names.length) (h : Q (putAll names.reverse l.reverse ρ) σ) : WP (gSwap names v ρ σ) Q E := by
  refine w_bind ?_
  unfold unpackR; rw [hs]; dsimp only; rw [if_pos hn]; exact h
theorem w_gsNil {l : List V} (h : Q ρ σ) : WP (gsNil l ρ σ) Q E := h
theorem w_gsCons {g : GA} {gs : GsA} {u : V} {l : List V} (h : WP (g u ρ σ) (fun ρ σ => WP (gs l ρ σ) Q E) E) : WP (gsCons g gs (u :: l) ρ σ) Q E := w_bind h
end
noncomputable def retV : Fl → V
  | .next => .none
  | .ret v => v
theorem w_fnA {ps : List String} {g : SA} {vs : List V} {σ : AH} {Q : V → AH → Prop} {E : V → AH → Prop} (hl : vs.length = ps.length) (h : WP (g (ps.zip vs) σ) (fun r σ => Q (retV r.1) σ) E) : WP (fnA ps g vs σ) Q E := by
  unfold fnA; rw [if_pos hl]
  exact w_bind (w_mono h (fun ⟨r, _⟩ _ h => by cases r <;> exact h) fun _ _ h => h)

/-! ### what lies on the heap -/
section
variable {Q : V → AH → Prop} {U : Unit → AH → Prop} {E : V → AH → Prop} {σ : AH}
theorem w_vAttr {x : String} {n : Nat} {fs : List (String × V)} {v : V} (hn : σ[n]? = some (.inst fs)) (hl : look x fs = some v) (h : Q v σ) : WP (vAttr x (.ref n) σ) Q E := by
  unfold vAttr; dsimp only; rw [hn]; dsimp only; rw [hl]; exact h
theorem w_vSetAttr {x : String} {n : Nat} {fs : List (String × V)} {v : V} (hn : σ[n]? = some (.inst fs)) (hl : fs.length ≤ 50) (h : U () (σ.set n (.inst (put x v fs)))) : WP (vSetAttr x (.ref n) v σ) U E := by
  unfold vSetAttr; dsimp only; rw [hn]; dsimp only; rw [if_pos hl]; exact h
theorem listAt_ref {n : Nat} {l : List V} (hn : σ[n]? = some (.list l)) : listAt σ (.ref n) = some l := by unfold listAt; dsimp only; rw [hn]
theorem dictAt_ref {n : Nat} {l : List (List Nat × V)} (hn : σ[n]? = some (.dict l)) : dictAt σ (.ref n) = some l := by unfold dictAt; dsimp only; rw [hn]
theorem lidx_nat {α : Type} {l : List α} {i : Nat} : lidx l (i : Int) = l[i]? := by unfold lidx; rw [if_pos (Int.natCast_nonneg i)]; simp
theorem w_getL {n i : Nat} {l : List V} {v : V} (hn : σ[n]? = some (.list l)) (hi : i ≤ 1000000) (hv : l[i]? = some v) (h : Q v σ) : WP (vGet (.ref n) (.int i) σ) Q E := by
  unfold vGet; dsimp only
  rw [if_pos (by lia), listAt_ref hn]
  show WP (match lidx l i with | some v => _ | none => _) Q E
  rw [lidx_nat, hv]; exact h
theorem w_getN {n : Nat} {l : List V} {v : V} (i : Int) (hn : σ[n]? = some (.list l)) (hi : i.natAbs ≤ 1000000) (hv : lidx l i = some v) (h : Q v σ) : WP (vGet (.ref n) (.int i) σ) Q E := by
  unfold vGet; dsimp only
  rw [if_pos hi, listAt_ref hn]
  show WP (match lidx l i with | some v => _ | none => _) Q E
  rw [hv]; exact h
theorem w_getV {i : Int} {l : List V} {v : V} (hi : i.natAbs ≤ 1000000) (hv : lidx l i = some v) (h : Q v σ) : WP (vGet (.lst l) (.int i) σ) Q E := by
  unfold vGet; dsimp only
  rw [if_pos hi]
  show WP (match lidx l i with | some v => _ | none => _) Q E
  rw [hv]; exact h
theorem w_getT {i : Nat} {l : List V} {v : V} (hi : i ≤ 1000000) (hv : l[i]? = some v) (h : Q v σ) : WP (vGet (.tup l) (.int i) σ) Q E := by
  unfold vGet; dsimp only
  rw [if_pos (by lia), if_pos (Int.natCast_nonneg i), show ((i : Int).toNat) = i from Int.toNat_natCast i, hv]; exact h
theorem w_getS {i : Nat} {l : List Nat} {c : Nat} (hi : i ≤ 1000000) (hv : l[i]? = some c) (h : Q (.str [c]) σ) : WP (vGet (.str l) (.int i) σ) Q E := by
  unfold vGet; dsimp only
  rw [if_pos (by lia), if_pos (Int.natCast_nonneg i), show ((i : Int).toNat) = i from Int.toNat_natCast i, hv]; exact h
theorem w_getD {n : Nat} {l : List (List Nat × V)} {k : List Nat} {v : V} (hn : σ[n]? = some (.dict l)) (hv : dlook k l = some v) (h : Q v σ) : WP (vGet (.ref n) (.str k) σ) Q E := by
  unfold vGet; dsimp only
  rw [dictAt_ref hn]
  show WP (match dlook k l with | some v => _ | none => _) Q E
  rw [hv]; exact h
theorem w_setL {n i : Nat} {l : List V} {v : V} (hn : σ[n]? = some (.list l)) (hi : i < l.length) (hz : sizeOk' l.length = true) (h : U () (σ.set n (.list (l.set i v)))) : WP (vSetItem (.ref n) (.int i) v σ) U E := by
  unfold vSetItem; dsimp only
  rw [hn]; dsimp only
  rw [show lset l (i : Int) v = some (l.set i v) by unfold lset; rw [if_pos ⟨Int.natCast_nonneg i, by lia⟩]; simp]
  dsimp only; rw [if_pos hz]; exact h
theorem w_setD {n : Nat} {l : List (List Nat × V)} {k : List Nat} {v : V} (hn : σ[n]? = some (.dict l)) (hz : sizeOk' l.length = true) (h : U () (σ.set n (.dict (dput k v l)))) : WP (vSetItem (.ref n) (.str k) v σ) U E := by
  unfold vSetItem; dsimp only
  rw [hn]; dsimp only
  rw [if_pos hz]; exact h
theorem szOk {n : Nat} (h : n ≤ 100000) : sizeOk' n = true := decide_eq_true h
end
/-! ### ghosts: what lies where -/
structure Pl where
  r : Nat
  b : Nat
  l : Nat
structure Rm where
  size : Nat
  low : Nat
  free : Nat
  most : Nat
  coll : Nat
  oct : List Nat
  held : List (List Nat × Pl)
  wait : List Pl
structure Lw where
  kept : List (List Nat × List Nat)
  pile : List (List Nat)
  ns : List Nat
  chk : Nat
  turn : Nat
structure Rf where
  s : Nat
  o : Nat
  d : Nat
  w : Nat
  k : Nat
  p : Nat
  bx : Nat
  nb : Nat
noncomputable def nums (l : List Nat) : List V := l.map fun c => .int (c : Nat)
noncomputable def txts (l : List (List Nat)) : List V := l.map .str
noncomputable def refs (l : List Pl) : List V := l.map fun p => .ref p.r
noncomputable def Pl.ao (p : Pl) : AO := .list [.int (p.b : Nat), .int (p.l : Nat)]
noncomputable def hdict (l : List (List Nat × Pl)) : List (List Nat × V) := l.map fun e => (e.1, .ref e.2.r)
noncomputable def kdict (l : List (List Nat × List Nat)) : List (List Nat × V) := l.map fun e => (e.1, .str e.2)
noncomputable def places (R : Rm) : List Pl := R.held.map (·.2) ++ R.wait
noncomputable def fields (f : Rf) (R : Rm) : List (String × V) :=
  [("size", .int (R.size : Nat)), ("octets", .ref f.o), ("low", .int (R.low : Nat)), ("free", .int (R.free : Nat)), ("held", .ref f.d), ("waiting", .ref f.w), ("most_waiting", .int (R.most : Nat)), ("collections", .int (R.coll : Nat))]
noncomputable def cells (f : Rf) (R : Rm) (L : Lw) : List (Nat × AO) :=
  (f.s, .inst (fields f R)) :: (f.o, .list (nums R.oct)) :: (f.d, .dict (hdict R.held)) :: (f.w, .list (refs R.wait)) :: (f.k, .dict (kdict L.kept)) :: (f.p, .list (txts L.pile)) ::
    (f.bx, .list [.ref f.nb, .int (L.chk : Nat), .int (L.turn : Nat)]) :: (f.nb, .list (nums L.ns)) :: (places R).map fun p => (p.r, p.ao)

/-- these cells lie there -/
noncomputable def CO (σ : AH) (C : List (Nat × AO)) : Prop := (C.map (·.1)).Nodup ∧ ∀ c ∈ C, σ[c.1]? = some c.2
theorem gr_get {σ σ' : AH} (h : σ <+: σ') {n : Nat} {a : AO} (e : σ[n]? = some a) : σ'[n]? = some a := by
  obtain ⟨t, rfl⟩ := h
  rw [List.getElem?_append_left (lt_of_get e)]; exact e
theorem gr_push (σ : AH) (a : AO) : σ <+: σ ++ [a] := ⟨[a], rfl⟩
theorem gr_refl (σ : AH) : σ <+: σ := List.prefix_refl σ
theorem get_push (σ : AH) (a : AO) : (σ ++ [a])[σ.length]? = some a := by simp
theorem CO.gr {σ σ' : AH} {C : List (Nat × AO)} (c : CO σ C) (h : σ <+: σ') : CO σ' C := ⟨c.1, fun x hx => gr_get h (c.2 x hx)⟩
theorem CO.push {σ : AH} {C : List (Nat × AO)} (c : CO σ C) (a : AO) : CO (σ ++ [a]) ((σ.length, a) :: C) := by
  refine ⟨?_, fun x hx => ?_⟩
  · rw [List.map_cons, List.nodup_cons]
    refine ⟨fun q => ?_, c.1⟩
    obtain ⟨x, hx, e⟩ := List.mem_map.mp q
    have := lt_of_get (c.2 x hx)
    lia
  · rcases List.mem_cons.mp hx with rfl | hx
    · exact get_push σ a
    · exact gr_get (gr_push σ a) (c.2 x hx)
theorem CO.set {σ : AH} {A B : List (Nat × AO)} {n : Nat} {a a' : AO} (c : CO σ (A ++ (n, a) :: B)) : CO (σ.set n a') (A ++ (n, a') :: B) := by
  obtain ⟨h1, h2⟩ := c
  have hn := lt_of_get (h2 (n, a) (by simp))
  refine ⟨by simpa using h1, fun x hx => ?_⟩
  simp only [List.map_append, List.map_cons] at h1
  rw [List.nodup_append] at h1
  obtain ⟨a1, a2, a3⟩ := h1
  rw [List.nodup_cons] at a2
  rcases List.mem_append.mp hx with hx | hx
  · have hne : n ≠ x.1 := fun q => a3 x.1 (List.mem_map_of_mem hx) n (List.mem_cons_self ..) q.symm
    rw [List.getElem?_set_ne hne]
    exact h2 x (List.mem_append_left _ hx)
  · rcases List.mem_cons.mp hx with rfl | hx
    · exact List.getElem?_set_self hn
    · have hne : n ≠ x.1 := fun q => a2.1 (q ▸ List.mem_map_of_mem hx)
      rw [List.getElem?_set_ne hne]
      exact h2 x (List.mem_append_right _ (List.mem_cons_of_mem _ hx))
theorem CO.perm {σ : AH} {C C' : List (Nat × AO)} (c : CO σ C) (p : C.Perm C') : CO σ C' := ⟨(p.map _).nodup_iff.mp c.1, fun x hx => c.2 x (p.mem_iff.mpr hx)⟩
theorem CO.sub {σ : AH} {C C' : List (Nat × AO)} (c : CO σ C) (p : C'.Sublist C) : CO σ C' := ⟨(p.map _).nodup c.1, fun x hx => c.2 x (p.subset hx)⟩

noncomputable def Rep (σ : AH) (f : Rf) (R : Rm) (L : Lw) : Prop := CO σ (cells f R L)
section
variable {σ σ' : AH} {f : Rf} {R : Rm} {L : Lw}
theorem Rep.gr (h : Rep σ f R L) (g : σ <+: σ') : Rep σ' f R L := CO.gr h g
theorem Rep.s (h : Rep σ f R L) : σ[f.s]? = some (.inst (fields f R)) := h.2 _ (.head _)
theorem Rep.o (h : Rep σ f R L) : σ[f.o]? = some (.list (nums R.oct)) := h.2 _ (.tail _ (.head _))
theorem Rep.d (h : Rep σ f R L) : σ[f.d]? = some (.dict (hdict R.held)) := h.2 _ (.tail _ (.tail _ (.head _)))
theorem Rep.w (h : Rep σ f R L) : σ[f.w]? = some (.list (refs R.wait)) := h.2 _ (.tail _ (.tail _ (.tail _ (.head _))))
theorem Rep.k (h : Rep σ f R L) : σ[f.k]? = some (.dict (kdict L.kept)) := h.2 _ (.tail _ (.tail _ (.tail _ (.tail _ (.head _)))))
theorem Rep.p (h : Rep σ f R L) : σ[f.p]? = some (.list (txts L.pile)) := h.2 _ (.tail _ (.tail _ (.tail _ (.tail _ (.tail _ (.head _))))))
theorem Rep.bx (h : Rep σ f R L) : σ[f.bx]? = some (.list [.ref f.nb, .int (L.chk : Nat), .int (L.turn : Nat)]) := h.2 _ (.tail _ (.tail _ (.tail _ (.tail _ (.tail _ (.tail _ (.head _)))))))
theorem Rep.nb (h : Rep σ f R L) : σ[f.nb]? = some (.list (nums L.ns)) := h.2 _ (.tail _ (.tail _ (.tail _ (.tail _ (.tail _ (.tail _ (.tail _ (.head _))))))))
theorem Rep.pl (h : Rep σ f R L) {p : Pl} (hp : p ∈ places R) : σ[p.r]? = some p.ao :=
  h.2 (p.r, p.ao) (.tail _ (.tail _ (.tail _ (.tail _ (.tail _ (.tail _ (.tail _ (.tail _ (List.mem_map_of_mem (f := fun p : Pl => (p.r, p.ao)) hp)))))))))
theorem Rep.setS (h : Rep σ f R L) {R' : Rm} (ho : R'.oct = R.oct) (hh : R'.held = R.held) (hw : R'.wait = R.wait) : Rep (σ.set f.s (.inst (fields f R'))) f R' L := by
  have c : CO (σ.set f.s (.inst (fields f R'))) _ := CO.set (A := []) (a' := .inst (fields f R')) h
  unfold Rep cells places; rw [ho, hh, hw]; exact c
theorem Rep.setO (h : Rep σ f R L) (oct' : List Nat) : Rep (σ.set f.o (.list (nums oct'))) f { R with oct := oct' } L := CO.set (A := [(_, _)]) h
theorem Rep.setK (h : Rep σ f R L) (kept' : List (List Nat × List Nat)) : Rep (σ.set f.k (.dict (kdict kept'))) f R { L with kept := kept' } := CO.set (A := [(_, _), (_, _), (_, _), (_, _)]) h
theorem Rep.setP (h : Rep σ f R L) (pile' : List (List Nat)) : Rep (σ.set f.p (.list (txts pile'))) f R { L with pile := pile' } := CO.set (A := [(_, _), (_, _), (_, _), (_, _), (_, _)]) h
theorem Rep.setB (h : Rep σ f R L) (turn' : Nat) : Rep (σ.set f.bx (.list [.ref f.nb, .int (L.chk : Nat), .int (turn' : Nat)])) f R { L with turn := turn' } := CO.set (A := [(_, _), (_, _), (_, _), (_, _), (_, _), (_, _)]) h
theorem Rep.nodup (h : Rep σ f R L) : ((places R).map (·.r)).Nodup := by
  have h1 := h.1
  unfold cells at h1
  simp only [List.map_cons, List.map_map, List.nodup_cons] at h1
  exact h1.2.2.2.2.2.2.2.2
end

/-! ### small facts -/
theorem ints_get {l : List Nat} {i : Nat} : (nums l)[i]? = (l[i]?).map fun c => V.int (c : Nat) := List.getElem?_map ..
theorem ints_len {l : List Nat} : (nums l).length = l.length := List.length_map ..
theorem strs_len {l : List (List Nat)} : (txts l).length = l.length := List.length_map ..
theorem refs_len {l : List Pl} : (refs l).length = l.length := List.length_map ..
theorem clip_min {n i : Nat} : clipAt n (i : Int) = min i n := by
  unfold clipAt
  rw [if_neg (Int.not_lt.mpr (Int.natCast_nonneg i))]
  have e : min (i : Int) (n : Int) = ((min i n : Nat) : Int) := by
    rcases Nat.le_total i n with h | h
    · rw [Nat.min_eq_left h, Int.min_eq_left (Int.ofNat_le.mpr h)]
    · rw [Nat.min_eq_right h, Int.min_eq_right (Int.ofNat_le.mpr h)]
  rw [e, Int.max_eq_right (Int.natCast_nonneg _), Int.toNat_natCast]
theorem clip_nat {n i : Nat} (h : i ≤ n) : clipAt n (i : Int) = i := by rw [clip_min, Nat.min_eq_left h]
theorem slc_ints {l : List Nat} {lo hi : Option Int} : slc lo hi (nums l) = nums (slc lo hi l) := by unfold slc nums; simp
theorem slc_at {α : Type} {l : List α} {b n : Nat} (h : b + n ≤ l.length) : slc (some (b : Int)) (some ((b : Int) + (n : Int))) l = (l.drop b).take n := by
  unfold slc
  show (l.drop (clipAt l.length (b : Int))).take (clipAt l.length ((b : Int) + (n : Int)) - clipAt l.length (b : Int)) = _
  rw [clip_nat (by lia), show ((b : Int) + (n : Int)) = ((b + n : Nat) : Int) by lia, clip_nat h, Nat.add_sub_cancel_left]
theorem slc_to {α : Type} {l : List α} {n : Nat} : slc none (some (n : Int)) l = l.take n := by
  unfold slc
  show (l.drop 0).take (clipAt l.length (n : Int) - 0) = _
  rw [clip_min, List.drop_zero, Nat.sub_zero]
  by_cases h : n ≤ l.length
  · rw [Nat.min_eq_left h]
  · rw [Nat.min_eq_right (by lia), List.take_of_length_le (Nat.le_refl _), List.take_of_length_le (by lia)]
theorem slc_from {α : Type} {l : List α} {n : Nat} : slc (some (n : Int)) none l = l.drop n := by
  unfold slc
  show (l.drop (clipAt l.length (n : Int))).take (l.length - clipAt l.length (n : Int)) = _
  rw [clip_min]
  by_cases h : n ≤ l.length
  · rw [Nat.min_eq_left h, List.take_of_length_le (by simp)]
  · rw [Nat.min_eq_right (by lia), List.drop_eq_nil_of_le (Nat.le_refl _), List.drop_eq_nil_of_le (by lia), List.take_nil]
theorem look_put_self {α : Type} {x : String} {v : α} {l : List (String × α)} : look x (put x v l) = some v := by rw [look_put, if_pos rfl]
theorem look_put_ne {α : Type} {x y : String} {v : α} {l : List (String × α)} (h : x ≠ y) : look y (put x v l) = look y l := by rw [look_put, if_neg h]

/-! ### comprehensions -/
noncomputable abbrev NoE : V → AH → Prop := fun _ _ => False
theorem compGo_w {γ : Type} {val : γ → V} {src : Src} {l₀ : List V} {x : String} {ft : BA} {fe : EA} {σ₀ : AH} {ρ₀ : Loc} {p : γ → Bool} {g : γ → V}
    (hsrc : ∀ τ, σ₀ <+: τ → src.items τ = some l₀) :
    ∀ (l : List γ) (acc : List V) (ρ : Loc) (τ t : AH), τ = σ₀ ++ .list acc :: t → (∀ y, y ≠ x → look y ρ = look y ρ₀) → acc.length + l.length ≤ 100000 →
      (∀ c ∈ l, ∀ ρ τ, look x ρ = some (val c) → (∀ y, y ≠ x → look y ρ = look y ρ₀) → σ₀ <+: τ →
        WP (ft ρ τ) (fun b τ₁ => τ <+: τ₁ ∧ b = p c ∧ (b = true → WP (fe ρ τ₁) (fun y τ₂ => τ₁ <+: τ₂ ∧ y = g c) NoE)) NoE) →
      ∃ t', compGo src l₀ x ft fe σ₀.length (l.map val) ρ τ = .ok () (σ₀ ++ .list (acc ++ (l.filter p).map g) :: t')
  | [], acc, ρ, τ, t, e, hρ, hl, hel => by
    unfold compGo
    rw [List.map_nil]; dsimp only
    rw [if_pos (hsrc τ (by subst e; exact ⟨_, rfl⟩))]
    exact ⟨t, by simp [e]⟩
  | c :: r, acc, ρ, τ, t, e, hρ, hl, hel => by
    have hpre : σ₀ <+: τ := by subst e; exact ⟨_, rfl⟩
    have hρ' : ∀ y, y ≠ x → look y (put x (val c) ρ) = look y ρ₀ := fun y hy => by rw [look_put_ne (Ne.symm hy)]; exact hρ y hy
    refine hide fun X_ k_ => ?_
    obtain ⟨b, τ₁, h1, ⟨t1, h2⟩, h3, h4⟩ := w_out (hel c (.head _) (put x (val c) ρ) τ look_put_self hρ' hpre)
    refine k_ ?_
    clear k_ X_
    subst h3
    unfold compGo
    rw [List.map_cons]; dsimp only
    rw [if_pos (hsrc τ hpre), h1]
    dsimp only [Res.bind]
    have hel' := fun v hv => hel v (List.mem_cons_of_mem _ hv)
    cases hp : p c with
    | false =>
      rw [if_neg (by simp)]
      obtain ⟨t', h5⟩ := compGo_w hsrc r acc (put x (val c) ρ) τ₁ (t ++ t1) (by rw [← h2, e]; simp) hρ' (by simp at hl; lia) hel'
      exact ⟨t', by rw [h5]; simp [hp]⟩
    | true =>
      rw [if_pos rfl]
      refine hide fun X_ k_ => ?_
      obtain ⟨y, τ₂, h5, ⟨t2, h6⟩, rfl⟩ := w_out (h4 hp)
      refine k_ ?_
      clear k_ X_
      rw [h5]
      dsimp only [Res.bind]
      have e2 : τ₂ = σ₀ ++ .list acc :: (t ++ t1 ++ t2) := by rw [← h6, ← h2, e]; simp
      have hm : mAppend [.ref σ₀.length, g c] τ₂ = .ok .none (σ₀ ++ .list (acc ++ [g c]) :: (t ++ t1 ++ t2)) := by
        unfold mAppend; dsimp only
        rw [show τ₂[σ₀.length]? = some (.list acc) by rw [e2]; simp]
        dsimp only
        rw [if_pos (szOk (by simp at hl; lia)), e2]
        simp
      rw [hm]
      dsimp only
      obtain ⟨t', h7⟩ := compGo_w hsrc r (acc ++ [g c]) (put x (val c) ρ) _ _ rfl hρ' (by simp at hl ⊢; lia) hel'
      exact ⟨t', by rw [h7]; simp [hp]⟩
theorem w_eComp {γ : Type} {fv : List String} {x : String} {fs : Loc → AH → Res Src} {ft : BA} {fe : EA} {ρ : Loc} {σ : AH} {Q : V → AH → Prop} {E : V → AH → Prop} (cs : List γ) (val : γ → V) (p : γ → Bool) (g : γ → V)
    (h : WP (fs ρ σ) (fun src σ₀ => (∀ τ, σ₀ <+: τ → src.items τ = some (cs.map val)) ∧ cs.length ≤ 100000 ∧
      (∀ c ∈ cs, ∀ ρ' τ, look x ρ' = some (val c) → (∀ y, y ≠ x → look y ρ' = look y (cap fv ρ)) → σ₀ <+: τ →
        WP (ft ρ' τ) (fun b τ₁ => τ <+: τ₁ ∧ b = p c ∧ (b = true → WP (fe ρ' τ₁) (fun y τ₂ => τ₁ <+: τ₂ ∧ y = g c) NoE)) NoE) ∧
      ∀ τ n, σ₀ <+: τ → τ[n]? = some (.list ((cs.filter p).map g)) → σ₀.length ≤ n → Q (.ref n) τ) E) : WP (eComp fv x fs ft fe ρ σ) Q E := by
  refine w_bind (w_mono h (fun src σ₀ hx => ?_) fun _ _ h => h)
  obtain ⟨h1, h2, h3, h4⟩ := hx
  rw [h1 σ₀ (gr_refl _)]
  refine w_safe (w_bind ?_)
  obtain ⟨t', h5⟩ := compGo_w (σ₀ := σ₀) (ρ₀ := cap fv ρ) (p := p) (g := g) h1 cs [] (cap fv ρ) (σ₀ ++ [.list []]) [] rfl (fun _ _ => rfl) (by simpa using h2) h3
  rw [h5]
  exact h4 _ _ ⟨_, rfl⟩ (by simp) (Nat.le_refl _)
theorem compD_w {x : String} {fe : EA} {σ : AH} {ρ₀ : Loc} {g : List Nat × V → V} : ∀ (l : List (List Nat × V)) (ρ : Loc) (acc : List V), (∀ y, y ≠ x → look y ρ = look y ρ₀) → acc.length + l.length ≤ 100000 →
    (∀ kv ∈ l, ∀ ρ τ, look x ρ = some (.str kv.1) → (∀ y, y ≠ x → look y ρ = look y ρ₀) → σ <+: τ → ∃ τ', fe ρ τ = .ok (g kv) τ') → compDGo x fe σ l ρ acc = .ok (acc ++ l.map g) σ
  | [], ρ, acc, hρ, hl, hel => by unfold compDGo; simp
  | kv :: r, ρ, acc, hρ, hl, hel => by
    obtain ⟨k, u⟩ := kv
    have hρ' : ∀ y, y ≠ x → look y (put x (.str k) ρ) = look y ρ₀ := fun y hy => by rw [look_put_ne (Ne.symm hy)]; exact hρ y hy
    obtain ⟨τ', h1⟩ := hel (k, u) (.head _) (put x (.str k) ρ) (σ ++ [.list acc]) look_put_self hρ' (gr_push _ _)
    unfold compDGo
    rw [h1]; dsimp only
    rw [if_pos (szOk (by simp at hl; lia)), compD_w r _ _ hρ' (by simp at hl ⊢; lia) fun kv hkv => hel kv (List.mem_cons_of_mem _ hkv)]
    simp
theorem w_eCompD {fv : List String} {x : String} {fd : EA} {fe : EA} {ρ : Loc} {σ : AH} {Q : V → AH → Prop} {E : V → AH → Prop} (g : List Nat × V → V)
    (h : WP (fd ρ σ) (fun d σ₀ => ∃ l, dictAt σ₀ d = some l ∧ l.length ≤ 100000 ∧ (∀ kv ∈ l, ∀ ρ' τ, look x ρ' = some (.str kv.1) → (∀ y, y ≠ x → look y ρ' = look y (cap fv ρ)) → σ₀ <+: τ → ∃ τ', fe ρ' τ = .ok (g kv) τ') ∧
      Q (.ref σ₀.length) (σ₀ ++ [.list (l.map g)])) E) : WP (eCompD fv x fd fe ρ σ) Q E := by
  refine w_bind (w_mono h (fun d σ₀ hx => ?_) fun _ _ h => h)
  obtain ⟨l, h1, h2, h3, h4⟩ := hx
  rw [h1]
  refine w_bind ?_
  rw [compD_w (ρ₀ := cap fv ρ) l (cap fv ρ) [] (fun _ _ => rfl) (by simpa using h2) h3]
  exact h4
/-! the sources -/
section
variable {ρ : Loc} {σ : AH} {Q : Src → AH → Prop} {E : V → AH → Prop}
theorem w_iSrc {f : EA} (h : WP (f ρ σ) (fun v σ₀ => (∃ l, listAt σ₀ v = some l ∧ Q (.list v) σ₀) ∨ ∃ l : List Nat, v = .str l ∧ l.all (· < 128) = true ∧ Q (.str l) σ₀) E) : WP (iSrc f ρ σ) Q E := by
  refine w_bind (w_mono h (fun v σ₀ h => ?_) fun _ _ h => h)
  rcases h with ⟨l, h1, h2⟩ | ⟨l, rfl, h1, h2⟩
  · unfold srcOf
    split
    · cases h1
    · rw [if_pos (by rw [h1]; rfl)]; exact h2
  · unfold srcOf; dsimp only; rw [if_pos h1]; exact h2
theorem w_iEnum {f : EA} (h : WP (f ρ σ) (fun v σ₀ => ∃ l, listAt σ₀ v = some l ∧ Q (.enum v) σ₀) E) : WP (iEnum f ρ σ) Q E := by
  refine w_bind (w_mono h (fun v σ₀ ⟨l, h1, h2⟩ => ?_) fun _ _ h => h)
  rw [if_pos (by rw [h1]; rfl)]; exact h2
theorem w_iRange {f : EA} (h : WP (f ρ σ) (fun v σ₀ => ∃ n : Nat, v = .int n ∧ n ≤ 1000 ∧ Q (.range n) σ₀) E) : WP (iRange f ρ σ) Q E := by
  refine w_bind (w_mono h (fun v σ₀ ⟨n, e, h1, h2⟩ => ?_) fun _ _ h => h)
  subst e
  dsimp only; rw [if_pos (by lia), Int.toNat_natCast]; exact h2
end
theorem listAt_gr {σ τ : AH} (g : σ <+: τ) {v : V} {l : List V} (h : listAt σ v = some l) : listAt τ v = some l := by
  unfold listAt at h ⊢
  split at h
  · exact h
  · split at h
    · rename_i q; rw [gr_get g q]; exact h
    · cases h
  · cases h

/-! ### loops -/
noncomputable def Lk (I : Loc → AH → Prop) (Q : SQ') : SQ' := fun r σ => match r.1 with
  | .next => I r.2 σ
  | .ret u => Q (.ret u, r.2) σ
theorem lk_next {I : Loc → AH → Prop} {Q : SQ'} {ρ : Loc} {σ : AH} (h : I ρ σ) : Lk I Q (.next, ρ) σ := h
theorem w_for {fs : Loc → AH → Res Src} {g : GA} {body : SA} {ρ : Loc} {σ : AH} {Q : SQ'} {E : V → AH → Prop} (I : List V → Loc → AH → Prop)
    (h : WP (fs ρ σ) (fun src σ₀ => ∃ l, src.items σ₀ = some l ∧ I l ρ σ₀ ∧
      (∀ v r ρ σ, I (v :: r) ρ σ → src.items σ = some l ∧ WP (g v ρ σ) (fun ρ σ => WP (body ρ σ) (Lk (I r) Q) NoE) NoE) ∧ ∀ ρ σ, I [] ρ σ → src.items σ = some l ∧ Q (.next, ρ) σ) E) : WP (sFor fs g body ρ σ) Q E := by
  refine w_bind (w_mono h (fun src σ₀ hx => ?_) fun _ _ h => h)
  obtain ⟨l, h1, h2, h3, h4⟩ := hx
  rw [h1]
  refine w_safe ?_
  have go : ∀ (rem : List V) ρ σ, I rem ρ σ → WP (forGo src l g body rem ρ σ) Q NoE := by
    intro rem
    induction rem with
    | nil => intro ρ σ hI; unfold forGo; rw [if_pos (h4 _ _ hI).1]; exact (h4 _ _ hI).2
    | cons v r ih =>
      intro ρ σ hI
      obtain ⟨a1, a2⟩ := h3 _ _ _ _ hI
      unfold forGo
      rw [if_pos a1]
      refine w_bind (w_mono a2 (fun ρ σ h5 => w_bind (w_mono h5 (fun fl σ h6 => ?_) fun _ _ h => h)) fun _ _ h => h)
      obtain ⟨fl, ρ'⟩ := fl
      cases fl with
      | next => exact ih _ _ h6
      | ret u => exact h6
  exact go l ρ σ₀ h2
theorem w_while {N : Nat} {c : BA} {b : SA} {ρ : Loc} {σ : AH} {Q : SQ'} {E : V → AH → Prop} (I : Nat → Loc → AH → Prop) (n : Nat) (hn : n < N) (hI : I n ρ σ)
    (step : ∀ n ρ σ, I n ρ σ → WP (c ρ σ) (fun t σ => if t then ∃ m, m < n ∧ WP (b ρ σ) (Lk (I m) Q) NoE else Q (.next, ρ) σ) NoE) : WP (sWhile N c b ρ σ) Q E := by
  refine w_safe ?_
  have go : ∀ (N n : Nat) ρ σ, n < N → I n ρ σ → WP (whGo c b N ρ σ) Q NoE := by
    intro N
    induction N with
    | zero => intro n ρ σ h; lia
    | succ N ih =>
      intro n ρ σ hn hI
      unfold whGo
      refine w_bind (w_mono (step n ρ σ hI) (fun t σ h => ?_) fun _ _ h => h)
      cases t with
      | false => exact h
      | true =>
        obtain ⟨m, hm, h⟩ := h
        refine w_bind (w_mono h (fun fl σ h6 => ?_) fun _ _ h => h)
        obtain ⟨fl, ρ'⟩ := fl
        cases fl with
        | next => exact ih m _ _ (by lia) h6
        | ret u => exact h6
  exact go N n ρ σ hn hI
/-! ### operators on known values -/
section
variable {Q : V → AH → Prop} {E : V → AH → Prop} {σ : AH}
theorem w_addI {a b : Int} (h : Q (.int (a + b)) σ) : WP (vAdd (.int a) (.int b) σ) Q E := h
theorem w_addS {a b : List Nat} (hz : a.length + b.length ≤ 100000) (h : Q (.str (a ++ b)) σ) : WP (vAdd (.str a) (.str b) σ) Q E := by
  show WP (if sizeOk' (a.length + b.length) then .ok (.str (a ++ b)) σ else .fail) Q E
  rw [if_pos (szOk hz)]; exact h
theorem w_addRR {a b : Nat} {l m : List V} (ha : σ[a]? = some (.list l)) (hb : σ[b]? = some (.list m)) (hz : l.length + m.length ≤ 100000) (h : Q (.lst (l ++ m)) σ) : WP (vAdd (.ref a) (.ref b) σ) Q E := by
  show WP (match listAt σ (.ref a), listAt σ (.ref b) with | some l, some m => if sizeOk' (l.length + m.length) then .ok (.lst (l ++ m)) σ else .fail | _, _ => .fail) Q E
  rw [listAt_ref ha, listAt_ref hb]
  dsimp only
  rw [if_pos (szOk hz)]; exact h
theorem w_addRV {a : Nat} {l m : List V} (ha : σ[a]? = some (.list l)) (hz : l.length + m.length ≤ 100000) (h : Q (.lst (l ++ m)) σ) : WP (vAdd (.ref a) (.lst m) σ) Q E := by
  show WP (match listAt σ (.ref a), some m with | some l, some m => if sizeOk' (l.length + m.length) then .ok (.lst (l ++ m)) σ else .fail | _, _ => .fail) Q E
  rw [listAt_ref ha]
  dsimp only
  rw [if_pos (szOk hz)]; exact h
theorem w_addVV {l m : List V} (hz : l.length + m.length ≤ 100000) (h : Q (.lst (l ++ m)) σ) : WP (vAdd (.lst l) (.lst m) σ) Q E := by
  show WP (if sizeOk' (l.length + m.length) then .ok (.lst (l ++ m)) σ else .fail) Q E
  rw [if_pos (szOk hz)]; exact h
theorem w_subI {a b : Int} (h : Q (.int (a - b)) σ) : WP (vSub (.int a) (.int b) σ) Q E := h
theorem w_modI {a b : Int} (hb : b ≠ 0) (h : Q (.int (a.fmod b)) σ) : WP (vMod (.int a) (.int b) σ) Q E := by unfold vMod; dsimp only; rw [if_neg hb]; exact h
theorem w_divI {a b : Int} (hb : ¬ (b = 0 ∨ 1000000 < b.natAbs)) (h : Q (.int (a.fdiv b)) σ) : WP (vDiv (.int a) (.int b) σ) Q E := by unfold vDiv; dsimp only; rw [if_neg hb]; exact h
theorem w_mulI {a b : Int} (ha : a.natAbs ≤ 1000000) (h : Q (.int (a * b)) σ) : WP (vMul (.int a) (.int b) σ) Q E := by unfold vMul; dsimp only; rw [if_pos ha]; exact h
theorem w_mulS {c : Nat} {b : Int} (hb : b.natAbs ≤ 100000) (h : Q (.str (List.replicate b.toNat c)) σ) : WP (vMul (.str [c]) (.int b) σ) Q E := by unfold vMul; dsimp only; rw [if_pos ⟨rfl, hb⟩]; exact h
theorem w_ltI {a b : Int} (h : Q (.bool (decide (a < b))) σ) : WP (vLt (.int a) (.int b) σ) Q E := h
theorem w_leI {a b : Int} (h : Q (.bool (decide (a ≤ b))) σ) : WP (vLe (.int a) (.int b) σ) Q E := h
theorem w_gtI {a b : Int} (h : Q (.bool (decide (b < a))) σ) : WP (vGt (.int a) (.int b) σ) Q E := h
theorem w_geI {a b : Int} (h : Q (.bool (decide (b ≤ a))) σ) : WP (vGe (.int a) (.int b) σ) Q E := h
theorem w_eqI {a b : Int} (h : Q (.bool (decide (a = b))) σ) : WP (vEq (.int a) (.int b) σ) Q E := by
  show Q (.bool (false != decide (a = b))) σ; rw [show (false != decide (a = b)) = decide (a = b) by cases decide (a = b) <;> rfl]; exact h
theorem w_neI {a b : Int} (h : Q (.bool (!decide (a = b))) σ) : WP (vNe (.int a) (.int b) σ) Q E := by
  show Q (.bool (true != decide (a = b))) σ; rw [show (true != decide (a = b)) = !decide (a = b) by cases decide (a = b) <;> rfl]; exact h
theorem w_eqS {a b : List Nat} (h : Q (.bool (decide (a = b))) σ) : WP (vEq (.str a) (.str b) σ) Q E := by
  show Q (.bool (false != decide (a = b))) σ; rw [show (false != decide (a = b)) = decide (a = b) by cases decide (a = b) <;> rfl]; exact h
theorem w_neS {a b : List Nat} (h : Q (.bool (!decide (a = b))) σ) : WP (vNe (.str a) (.str b) σ) Q E := by
  show Q (.bool (true != decide (a = b))) σ; rw [show (true != decide (a = b)) = !decide (a = b) by cases decide (a = b) <;> rfl]; exact h
theorem w_is {neg : Bool} {a : V} (h : Q (.bool (neg != isN a)) σ) : WP (vIs neg a .none σ) Q E := h
theorem w_in {n : Nat} {k : List Nat} {l : List (List Nat × V)} (hn : σ[n]? = some (.dict l)) (h : Q (.bool (dlook k l).isSome) σ) : WP (vIn (.str k) (.ref n) σ) Q E := by
  unfold vIn; rw [dictAt_ref hn]; exact h
theorem w_slcR {n : Nat} {lo hi : V} {lo' hi' : Option Int} {l : List V} (hn : σ[n]? = some (.list l)) (h1 : partOf lo = some lo') (h2 : partOf hi = some hi') (hz : l.length ≤ 100000) (h : Q (.lst (slc lo' hi' l)) σ) : WP (vSlc (.ref n) lo hi σ) Q E := by
  unfold vSlc; rw [h1, h2]; dsimp only; rw [listAt_ref hn]; dsimp only; rw [if_pos (szOk hz)]; exact h
theorem w_slcV {lo hi : V} {lo' hi' : Option Int} {l : List V} (h1 : partOf lo = some lo') (h2 : partOf hi = some hi') (hz : l.length ≤ 100000) (h : Q (.lst (slc lo' hi' l)) σ) : WP (vSlc (.lst l) lo hi σ) Q E := by
  unfold vSlc; rw [h1, h2]; show WP (if sizeOk' l.length then _ else _) Q E; rw [if_pos (szOk hz)]; exact h
theorem w_slcS {lo hi : V} {lo' hi' : Option Int} {l : List Nat} (h1 : partOf lo = some lo') (h2 : partOf hi = some hi') (hz : l.length ≤ 100000) (h : Q (.str (slc lo' hi' l)) σ) : WP (vSlc (.str l) lo hi σ) Q E := by
  unfold vSlc; rw [h1, h2]; show WP (if sizeOk' l.length then _ else _) Q E; rw [if_pos (szOk hz)]; exact h
theorem w_lenS {l : List Nat} (hz : l.length ≤ 100000) (h : Q (.int (l.length : Nat)) σ) : WP (bLen [.str l] σ) Q E := by
  show WP (if sizeOk' l.length then _ else _) Q E; rw [if_pos (szOk hz)]; exact h
theorem w_lenR {n : Nat} {l : List V} (hn : σ[n]? = some (.list l)) (hz : l.length ≤ 100000) (h : Q (.int (l.length : Nat)) σ) : WP (bLen [.ref n] σ) Q E := by
  show WP (match listAt σ (.ref n) with | some l => if sizeOk' l.length then .ok (.int l.length) σ else .fail | none => .fail) Q E
  rw [listAt_ref hn]; dsimp only; rw [if_pos (szOk hz)]; exact h
theorem w_lenV {l : List V} (hz : l.length ≤ 100000) (h : Q (.int (l.length : Nat)) σ) : WP (bLen [.lst l] σ) Q E := by
  show WP (if sizeOk' l.length then _ else _) Q E; rw [if_pos (szOk hz)]; exact h
theorem w_ord {c : Nat} (h : Q (.int (c : Nat)) σ) : WP (bOrd [.str [c]] σ) Q E := h
theorem w_chr {c : Nat} (hc : c ≤ 1000) (h : Q (.str [c]) σ) : WP (bChr [.int (c : Nat)] σ) Q E := by
  unfold bChr; dsimp only; rw [if_pos (by lia), Int.toNat_natCast]; exact h
theorem w_sum {v : V} {l : List V} {is : List Int} (hv : listAt σ v = some l) (hi : intsOf l = some is) (h : Q (.int is.sum) σ) : WP (bSum [v] σ) Q E := by
  unfold bSum; dsimp only; rw [hv]; show WP (match intsOf l with | some l => _ | none => _) Q E; rw [hi]; exact h
theorem w_appL {n : Nat} {l : List V} {v : V} (hn : σ[n]? = some (.list l)) (hz : l.length ≤ 100000) (h : Q .none (σ.set n (.list (l ++ [v])))) : WP (mAppend [.ref n, v] σ) Q E := by
  unfold mAppend; dsimp only; rw [hn]; dsimp only; rw [if_pos (szOk hz)]; exact h
theorem w_popL {n : Nat} {l : List V} {v : V} (hn : σ[n]? = some (.list l)) (hl : l.getLast? = some v) (hz : l.length ≤ 100000) (h : Q v (σ.set n (.list l.dropLast))) : WP (mPop [.ref n] σ) Q E := by
  unfold mPop; dsimp only; rw [hn]; dsimp only; rw [hl]; dsimp only; rw [if_pos (szOk hz)]; exact h
theorem w_getM {n : Nat} {l : List (List Nat × V)} {k : List Nat} {v : V} (hn : σ[n]? = some (.dict l)) (h : Q ((dlook k l).getD v) σ) : WP (mGet [.ref n, .str k, v] σ) Q E := by
  unfold mGet; dsimp only; rw [dictAt_ref hn]; exact h
theorem w_popD {n : Nat} {l : List (List Nat × V)} {k : List Nat} {v : V} (hn : σ[n]? = some (.dict l)) (hz : l.length ≤ 100000) (h : Q ((dlook k l).getD v) (σ.set n (.dict (dout k l)))) : WP (mPopD [.ref n, .str k, v] σ) Q E := by
  unfold mPopD; dsimp only; rw [hn]; dsimp only; rw [if_pos (szOk hz)]; exact h
theorem w_join {v : V} {l : List V} {ss : List (List Nat)} (hv : listAt σ v = some l) (hs : strsOf' l = some ss) (hz : ss.flatten.length ≤ 100000) (h : Q (.str ss.flatten) σ) : WP (mJoin [.str [], v] σ) Q E := by
  unfold mJoin; dsimp only; rw [hv]; show WP (match strsOf' l with | some ss => if sizeOk' ss.flatten.length then .ok (.str ss.flatten) σ else .fail | none => .fail) Q E
  rw [hs]; dsimp only; rw [if_pos (szOk hz)]; exact h
theorem w_getDq {n : Nat} {l : List (List Nat × V)} {k : List Nat} {v : V} (hn : σ[n]? = some (.dict l)) (hv : dlook k l = some v) (h : Q v σ) : WP (vGetD (.ref n) (.str k) σ) Q E := by
  unfold vGetD; dsimp only; rw [dictAt_ref hn]; show WP (match dlook k l with | some v => _ | none => _) Q E; rw [hv]; exact h
end
theorem w_dec {α : Type} {p : Prop} [Decidable p] {t e : Res α} {Q : α → AH → Prop} {E : V → AH → Prop} (h1 : p → WP t Q E) (h2 : ¬ p → WP e Q E) : WP (if decide p = true then t else e) Q E := by
  by_cases h : p
  · rw [if_pos (decide_eq_true h)]; exact h1 h
  · rw [if_neg (by simpa using h)]; exact h2 h
theorem w_yes {α : Type} {b : Bool} {t e : Res α} {Q : α → AH → Prop} {E : V → AH → Prop} (hb : b = true) (h1 : WP t Q E) : WP (if b = true then t else e) Q E := by rw [if_pos hb]; exact h1
theorem w_no {α : Type} {b : Bool} {t e : Res α} {Q : α → AH → Prop} {E : V → AH → Prop} (hb : b = false) (h1 : WP e Q E) : WP (if b = true then t else e) Q E := by rw [if_neg (by rw [hb]; decide)]; exact h1

theorem w_tT {ρ : Loc} {σ : AH} {Q : Bool → AH → Prop} {E : V → AH → Prop} (h : Q true σ) : WP (tTrue ρ σ) Q E := h
local macro_rules | `(tactic| walk_at "lk") => `(tactic| first | with_reducible assumption | with_unfolding_all rfl | (simp only [look_put, String.reduceEq, if_true, if_false]; done) | (simp only [look_put, String.reduceEq, if_true, if_false]; first | with_reducible assumption | rfl))
local macro_rules | `(tactic| walk_at "wp1") => `(tactic| with_reducible first
  | refine w_seq ?_ | refine w_asg ?_ | refine w_gName ?_ | refine nx_next ?_ | refine nx_ret ?_ | refine lk_next ?_ | refine lk_ret ?_ | refine w_skip ?_ | refine w_ret ?_ | refine w_do ?_ | refine w_sif ?_
  | refine w_int ?_ | refine w_str ?_ | refine w_none ?_ | refine w_bool ?_ | refine w_glob ?_ | refine w_name (by walk_at "lk") ?_ | refine w_e2 ?_ | refine w_sub ?_ | refine w_subD ?_ | refine w_slc ?_ | refine w_attr ?_ | refine w_fn ?_ | refine w_if ?_
  | refine w_nil ?_ | refine w_cons ?_ | refine w_tV ?_ | refine w_not ?_ | refine w_and ?_ | refine w_or ?_ | refine w_aug ?_ | refine w_gAttr ?_ | refine w_gSub ?_ | refine w_gSlc ?_ | refine w_raise ?_
  | refine w_gsCons ?_ | refine w_gsNil ?_ | refine w_tru ?_ | refine w_okB ?_ | refine w_tT ?_
  | refine w_vAttr (Rep.s (by assumption)) (by with_unfolding_all rfl) ?_
  | refine w_subI ?_ | refine w_addI ?_ | refine w_ltI ?_ | refine w_leI ?_ | refine w_gtI ?_ | refine w_geI ?_ | refine w_eqI ?_ | refine w_neI ?_ | refine w_eqS ?_ | refine w_neS ?_ | refine w_is ?_
  | refine ⟨_, rfl, ?_⟩)
local macro_rules | `(tactic| walk_at "wp") => `(tactic| ((repeat walk_at "wp1"); (try with_reducible show WP _ _ _)))

noncomputable def Tx (R : Rm) (p : Pl) : List Nat := (R.oct.drop p.b).take p.l
section
variable {σ : AH} {f : Rf} {R : Rm} {L : Lw} {Q : V → AH → Prop} {E : V → AH → Prop}
theorem c_free_room (H : Rep σ f R L) (k : Q (.int ((R.free : Int) - (R.low : Int))) σ) : WP (f_free_room [.ref f.s] σ) Q E := by
  refine w_fnA rfl ?_
  walk_at "wp"
  exact k

theorem filter_tt {α : Type} (l : List α) : l.filter (fun _ => true) = l := List.filter_eq_self.mpr fun _ _ => rfl
theorem strsOf_txts : ∀ l : List (List Nat), strsOf' (txts l) = some l
  | [] => rfl
  | a :: r => by show (strsOf' (txts r)).map (a :: ·) = _; rw [strsOf_txts r]; rfl
theorem flat_single : ∀ l : List Nat, (l.map fun c => [c]).flatten = l
  | [] => rfl
  | a :: r => by rw [List.map_cons, List.flatten_cons, flat_single r]; rfl

theorem c_octets_of {t : List Nat} (ht : ∀ c ∈ t, c < 128) (hz : t.length ≤ 1000) (k : ∀ τ n, σ <+: τ → τ[n]? = some (.list (nums t)) → σ.length ≤ n → Q (.ref n) τ) : WP (f_octets_of [.str t] σ) Q E := by
  refine w_fnA rfl (w_seq (w_ret (w_eComp t (fun c => .str [c]) (fun _ => true) (fun c => .int (c : Nat)) (w_iSrc ?_))))
  walk_at "wp"
  refine .inr ⟨t, rfl, by simpa using ht, fun _ _ => rfl, by lia, fun c hc ρ' τ h1 h2 h3 => ?_, fun τ n h1 h2 hn => ?_⟩
  · refine w_tT ⟨gr_refl _, rfl, fun _ => ?_⟩
    walk_at "wp"
    exact w_ord ⟨gr_refl _, rfl⟩
  · refine k τ n h1 ?_ hn
    rw [h2, filter_tt]; rfl
theorem c_text_at {p : Pl} (H : Rep σ f R L) (hp : σ[p.r]? = some p.ao) (hl : p.b + p.l ≤ R.oct.length) (hz : R.oct.length ≤ 1000) (ha : ∀ c ∈ R.oct, c < 128) (k : ∀ τ, σ <+: τ → Q (.str (Tx R p)) τ) : WP (f_text_at [.ref f.s, .ref p.r] σ) Q E := by
  have hT : ∀ c ∈ Tx R p, c < 128 := fun c hc => ha c (List.mem_of_mem_drop (List.mem_of_mem_take hc))
  have hTl : (Tx R p).length ≤ 1000 := by unfold Tx; simp; lia
  refine w_fnA rfl (w_seq (w_ret (w_meth (w_str ⟨rfl, w_cons (w_eComp (Tx R p) (fun c => .int (c : Nat)) (fun _ => true) (fun c => .str [c]) (w_iSrc ?_))⟩))))
  walk_at "wp"
  refine w_getN 0 hp (by decide) rfl ?_
  walk_at "wp"
  refine w_getN 0 hp (by decide) rfl ?_
  walk_at "wp"
  refine w_getN 1 hp (by decide) rfl ?_
  walk_at "wp"
  refine w_slcR H.o rfl rfl (by rw [ints_len]; lia) ?_
  refine .inl ⟨_, rfl, fun τ g => ?_, by lia, fun c hc ρ' τ h1 h2 h3 => ?_, fun τ n h1 h2 hn => ?_⟩
  · show some _ = some _
    rw [slc_ints, slc_at hl]; rfl
  · refine w_tT ⟨gr_refl _, rfl, fun _ => ?_⟩
    walk_at "wp"
    exact w_chr (by have := hT c hc; lia) ⟨gr_refl _, rfl⟩
  · walk_at "wp"
    rw [filter_tt] at h2
    refine w_join (ss := (Tx R p).map fun c => [c]) (listAt_ref h2) ?_ (by rw [flat_single]; lia) ?_
    · have := strsOf_txts ((Tx R p).map fun c => [c])
      unfold txts at this
      rw [List.map_map] at this
      exact this
    · rw [flat_single]
      exact k τ h1

/-! ### writing -/
noncomputable def wr (oct : List Nat) (at_ : Nat) (ws : List Nat) : List Nat := oct.take at_ ++ ws ++ oct.drop (at_ + ws.length)
theorem wr_get {oct : List Nat} {a : Nat} {ws : List Nat} (h : a + ws.length ≤ oct.length) (j : Nat) : (wr oct a ws)[j]? = if a ≤ j ∧ j < a + ws.length then ws[j - a]? else oct[j]? := by
  unfold wr
  have la : (oct.take a).length = a := List.length_take_of_le (Nat.le_trans (Nat.le_add_right _ _) h)
  by_cases h1 : j < a
  · rw [if_neg (fun x => absurd x.1 (Nat.not_le.mpr h1)), List.append_assoc, List.getElem?_append_left (by rw [la]; exact h1), List.getElem?_take, if_pos h1]
  · have h1' := Nat.le_of_not_lt h1
    by_cases h2 : j < a + ws.length
    · rw [if_pos ⟨h1', h2⟩, List.append_assoc, List.getElem?_append_right (by rw [la]; exact h1'), la, List.getElem?_append_left (Nat.sub_lt_left_of_lt_add h1' h2)]
    · have h2' := Nat.le_of_not_lt h2
      rw [if_neg (fun x => h2 x.2), List.getElem?_append_right (by rw [List.length_append, la]; exact h2'), List.getElem?_drop, List.length_append, la]
      congr 1; exact Nat.add_sub_cancel' h2'
theorem wr_len {oct : List Nat} {a : Nat} {ws : List Nat} (h : a + ws.length ≤ oct.length) : (wr oct a ws).length = oct.length := by unfold wr; simp; lia
theorem wr_nil {oct : List Nat} {a : Nat} (h : a ≤ oct.length) : wr oct a [] = oct := by unfold wr; simp
theorem wr_step {oct : List Nat} {a i : Nat} {ws : List Nat} {c : Nat} (h : a + ws.length ≤ oct.length) (hc : ws[i]? = some c) : (wr oct a (ws.take i)).set (a + i) c = wr oct a (ws.take (i + 1)) := by
  have hi : i < ws.length := by rcases List.getElem?_eq_some_iff.mp hc with ⟨x, _⟩; exact x
  have l1 : (ws.take i).length = i := by simp; lia
  have l2 : (ws.take (i + 1)).length = i + 1 := by simp; lia
  apply List.ext_getElem?
  intro j
  rw [wr_get (by lia), List.getElem?_set, wr_len (by lia), wr_get (by lia), l1, l2, List.getElem?_take, List.getElem?_take]
  by_cases hj : a + i = j
  · subst hj
    rw [if_pos rfl, if_pos (by lia), if_pos (by lia), Nat.add_sub_cancel_left, if_pos (by lia), hc]
  · rw [if_neg hj]
    by_cases h1 : a ≤ j ∧ j < a + i
    · rw [if_pos h1, if_pos (by lia), if_pos (by lia), if_pos (by lia)]
    · rw [if_neg h1, if_neg (by lia)]
theorem nums_set {l : List Nat} {i c : Nat} : (nums l).set i (.int (c : Nat)) = nums (l.set i c) := by unfold nums; rw [List.map_set]
theorem listAt_set {σ : AH} {n : Nat} {a : AO} {v : V} (h : v ≠ .ref n) : listAt (σ.set n a) v = listAt σ v := by
  cases v with
  | ref m =>
    have : n ≠ m := fun q => h (by rw [q])
    unfold listAt; dsimp only; rw [List.getElem?_set_ne this]
  | _ => rfl
theorem set_self {σ : AH} {n : Nat} {a : AO} (h : σ[n]? = some a) : σ.set n a = σ := List.ext_getElem? fun i => by
  by_cases hi : n = i
  · subst hi; rw [List.getElem?_set_self (lt_of_get h), h]
  · rw [List.getElem?_set_ne hi]

theorem c_write {a : Nat} {i : Int} {v : V} {ws : List Nat} (H : Rep σ f R L) (hi : i = (a : Int)) (hv : listAt σ v = some (nums ws)) (hne : v ≠ .ref f.o) (ha : a + ws.length ≤ R.oct.length) (hz : R.oct.length ≤ 1000)
    (k : Rep (σ.set f.o (.list (nums (wr R.oct a ws)))) f { R with oct := wr R.oct a ws } L → Q .none (σ.set f.o (.list (nums (wr R.oct a ws))))) : WP (f_write_octets [.ref f.s, .int i, v] σ) Q E := by
  subst hi
  refine w_fnA rfl (w_seq (w_for (fun rem ρ τ => ∃ i, i ≤ ws.length ∧ rem = ((nums ws).zipIdx.map fun (p : V × Nat) => V.tup [.int (p.2 : Int), p.1]).drop i ∧ τ = σ.set f.o (.list (nums (wr R.oct a (ws.take i)))) ∧ look "space" ρ = some (.ref f.s) ∧ look "at" ρ = some (.int (a : Int))) (w_iEnum ?_)))
  walk_at "wp"
  refine ⟨_, hv, _, by show (listAt σ v).map _ = _; rw [hv]; rfl, ⟨0, Nat.zero_le _, rfl, ?_, rfl, rfl⟩, fun u r ρ τ ⟨i, h1, h2, h3, h4, h5⟩ => ⟨?_, ?_⟩, fun ρ τ ⟨i, h1, h2, h3, h4, h5⟩ => ⟨?_, ?_⟩⟩
  · rw [List.take_zero, wr_nil (by lia), set_self H.o]
  · subst h3; show (listAt _ v).map _ = _; rw [listAt_set hne, hv]; rfl
  · have hlt : i < ws.length := by
      rcases Nat.lt_or_ge i ws.length with q | q
      · exact q
      · rw [List.drop_eq_nil_of_le (by simp [ints_len]; lia)] at h2; cases h2
    have hc : ws[i]? = some ws[i] := List.getElem?_eq_getElem hlt
    have hu : u = .tup [.int (i : Int), .int (ws[i] : Nat)] ∧ r = ((nums ws).zipIdx.map fun (p : V × Nat) => V.tup [.int (p.2 : Int), p.1]).drop (i + 1) := by
      rw [List.drop_eq_getElem_cons (by simp [ints_len]; lia)] at h2
      injection h2 with e1 e2
      exact ⟨by rw [e1]; simp [nums], e2⟩
    obtain ⟨rfl, rfl⟩ := hu
    have H' : Rep τ f { R with oct := wr R.oct a (ws.take i) } L := by subst h3; exact H.setO _
    refine w_gTup rfl rfl ?_
    walk_at "wp"
    refine w_setL (i := a + i) H'.o ?_ (szOk ?_) ?_
    · rw [ints_len]; show _ < (wr R.oct a (ws.take i)).length; rw [wr_len (by simp; lia)]; lia
    · rw [ints_len]; show (wr R.oct a (ws.take i)).length ≤ _; rw [wr_len (by simp; lia)]; lia
    walk_at "wp"
    refine ⟨i + 1, hlt, rfl, ?_, by walk_at "lk", by walk_at "lk"⟩
    subst h3
    rw [List.set_set, nums_set, wr_step ha hc]
  · subst h3; show (listAt _ v).map _ = _; rw [listAt_set hne, hv]; rfl
  · have hge : ws.length ≤ i := by
      rcases Nat.lt_or_ge i ws.length with q | q
      · rw [List.drop_eq_getElem_cons (by simp [ints_len]; lia)] at h2; cases h2
      · exact q
    rw [List.take_of_length_le hge] at h3
    subst h3
    walk_at "wp"
    exact k (H.setO _)
end
local macro_rules | `(tactic| walk_at "lk") => `(tactic| first | with_reducible assumption | with_unfolding_all rfl | (simp only [look_put, String.reduceEq, if_true, if_false]; first | rfl | with_reducible assumption))

/-! ### assoc lists -/
section
variable {α β : Type}
noncomputable def alook (k : List Nat) : List (List Nat × α) → Option α
  | [] => none
  | (y, v) :: r => if y = k then some v else alook k r
noncomputable def aput (k : List Nat) (v : α) (l : List (List Nat × α)) : List (List Nat × α) := if l.any (fun e => e.1 = k) then l.map (fun e => if e.1 = k then (e.1, v) else e) else l ++ [(k, v)]
noncomputable def aout (k : List Nat) (l : List (List Nat × α)) : List (List Nat × α) := l.filter fun e => e.1 ≠ k
noncomputable def amap (g : α → β) (l : List (List Nat × α)) : List (List Nat × β) := l.map fun e => (e.1, g e.2)
theorem dlook_map {g : α → V} {k : List Nat} : ∀ {l : List (List Nat × α)}, dlook k (amap g l) = (alook k l).map g
  | [] => rfl
  | (y, v) :: r => by
    show (if y = k then some (g v) else dlook k (amap g r)) = (if y = k then some v else alook k r).map g
    split
    · rfl
    · exact dlook_map
theorem alook_map {g : α → β} {k : List Nat} : ∀ {l : List (List Nat × α)}, alook k (amap g l) = (alook k l).map g
  | [] => rfl
  | (y, v) :: r => by
    show (if y = k then some (g v) else alook k (amap g r)) = (if y = k then some v else alook k r).map g
    split
    · rfl
    · exact alook_map
theorem any_amap {g : α → β} {k : List Nat} {l : List (List Nat × α)} : (amap g l).any (fun e => e.1 = k) = l.any (fun e => e.1 = k) := by unfold amap; rw [List.any_map]; rfl
theorem dput_map {g : α → V} {k : List Nat} {v : α} {l : List (List Nat × α)} : dput k (g v) (amap g l) = amap g (aput k v l) := by
  unfold dput aput
  rw [any_amap]
  split
  · unfold amap; rw [List.map_map, List.map_map]; congr 1; funext e; simp only [Function.comp]; split <;> rfl
  · unfold amap; simp
theorem aput_map {g : α → β} {k : List Nat} {v : α} {l : List (List Nat × α)} : aput k (g v) (amap g l) = amap g (aput k v l) := by
  unfold aput
  rw [any_amap]
  split
  · unfold amap; rw [List.map_map, List.map_map]; congr 1; funext e; simp only [Function.comp]; split <;> rfl
  · unfold amap; simp
theorem dout_map {g : α → V} {k : List Nat} {l : List (List Nat × α)} : dout k (amap g l) = amap g (aout k l) := by
  unfold dout aout amap; rw [List.filter_map]; rfl
theorem aout_map {g : α → β} {k : List Nat} {l : List (List Nat × α)} : aout k (amap g l) = amap g (aout k l) := by
  unfold aout amap; rw [List.filter_map]; rfl
theorem alook_mem {k : List Nat} {v : α} : ∀ {l : List (List Nat × α)}, alook k l = some v → (k, v) ∈ l
  | (y, u) :: r, h => by
    unfold alook at h
    split at h
    · rename_i q; cases h; subst q; exact .head _
    · exact .tail _ (alook_mem h)
theorem alook_of_mem {k : List Nat} {v : α} : ∀ {l : List (List Nat × α)}, (l.map (·.1)).Nodup → (k, v) ∈ l → alook k l = some v
  | (y, u) :: r, hn, h => by
    rw [List.map_cons, List.nodup_cons] at hn
    unfold alook
    rcases List.mem_cons.mp h with e | h
    · cases e; rw [if_pos rfl]
    · rw [if_neg (fun q => hn.1 (by subst q; exact List.mem_map_of_mem (f := (·.1)) h))]; exact alook_of_mem hn.2 h
theorem alook_none {k : List Nat} : ∀ {l : List (List Nat × α)}, alook k l = none → ∀ e ∈ l, e.1 ≠ k
  | (y, u) :: r, h, e, he => by
    unfold alook at h
    split at h
    · cases h
    · rename_i q
      rcases List.mem_cons.mp he with rfl | he
      · exact q
      · exact alook_none h e he
theorem aout_none {k : List Nat} {l : List (List Nat × α)} (h : alook k l = none) : aout k l = l := List.filter_eq_self.mpr fun e he => by simpa using alook_none h e he
theorem perm_aout {k : List Nat} {v : α} : ∀ {l : List (List Nat × α)}, (l.map (·.1)).Nodup → alook k l = some v → l.Perm ((k, v) :: aout k l)
  | (y, u) :: r, hn, h => by
    rw [List.map_cons, List.nodup_cons] at hn
    unfold alook at h
    split at h
    · rename_i q
      cases h; subst q
      have : aout y ((y, v) :: r) = r := by
        unfold aout
        rw [List.filter_cons_of_neg (by simp)]
        exact List.filter_eq_self.mpr fun e he => by
          simp only [ne_eq, decide_not, Bool.not_eq_true', decide_eq_false_iff_not]
          exact fun q => hn.1 (q ▸ List.mem_map_of_mem (f := (·.1)) he)
      rw [this]
    · rename_i q
      have : aout k ((y, u) :: r) = (y, u) :: aout k r := by unfold aout; rw [List.filter_cons_of_pos (by simpa using q)]
      rw [this]
      exact ((perm_aout hn.2 h).cons _).trans (List.Perm.swap ..)
theorem aput_map_out {k : List Nat} {v : α} : ∀ {l : List (List Nat × α)}, aout k (l.map (fun e => if e.1 = k then (e.1, v) else e)) = aout k l
  | [] => rfl
  | (y, u) :: r => by
    have ih := aput_map_out (k := k) (v := v) (l := r)
    unfold aout at ih ⊢
    rw [List.map_cons]
    by_cases q : y = k
    · subst q
      rw [List.filter_cons_of_neg (by simp), List.filter_cons_of_neg (by simp)]; exact ih
    · rw [if_neg q, List.filter_cons_of_pos (by simpa using q), List.filter_cons_of_pos (by simpa using q), ih]
theorem map_keys {k : List Nat} {v : α} (l : List (List Nat × α)) : (l.map (fun e => if e.1 = k then (e.1, v) else e)).map (·.1) = l.map (·.1) := by
  rw [List.map_map]; congr 1; funext e; simp only [Function.comp]; split <;> rfl
theorem any_iff {k : List Nat} : ∀ {l : List (List Nat × α)}, l.any (fun e => e.1 = k) = (alook k l).isSome
  | [] => rfl
  | (y, u) :: r => by
    rw [List.any_cons]
    unfold alook
    by_cases q : y = k
    · simp [q]
    · simp [q, any_iff (l := r)]
theorem alook_aput {k j : List Nat} {v : α} {l : List (List Nat × α)} : alook j (aput k v l) = if j = k then some v else alook j l := by
  unfold aput
  rw [any_iff]
  have m : ∀ {l : List (List Nat × α)}, alook j (l.map (fun e => if e.1 = k then (e.1, v) else e)) = if j = k then (alook k l).map (fun _ => v) else alook j l := by
    intro l
    induction l with
    | nil => simp [alook]
    | cons e r ih =>
      obtain ⟨y, u⟩ := e
      rw [List.map_cons]
      by_cases q : y = k
      · subst q
        simp only [if_true]
        unfold alook
        by_cases q2 : j = y
        · subst q2; simp
        · rw [if_neg (Ne.symm q2), if_neg q2, ih, if_neg q2, if_neg (Ne.symm q2)]
      · simp only [if_neg q]
        unfold alook
        by_cases q2 : y = j
        · subst q2; simp [q]
        · rw [if_neg q2, ih]
          simp [q, q2]
  have a : ∀ {l : List (List Nat × α)}, alook k l = none → alook j (l ++ [(k, v)]) = if j = k then some v else alook j l := by
    intro l
    induction l with
    | nil =>
      intro _; show alook j [(k, v)] = _
      unfold alook
      by_cases q : j = k
      · subst q; simp
      · rw [if_neg (Ne.symm q), if_neg q]; rfl
    | cons e r ih =>
      obtain ⟨y, u⟩ := e
      intro h
      unfold alook at h
      split at h
      · cases h
      · rename_i q
        rw [List.cons_append]
        unfold alook
        by_cases q2 : y = j
        · subst q2; simp [q]
        · rw [if_neg q2, if_neg q2, ih h]
  cases h : alook k l with
  | none => simp only [Option.isSome_none, Bool.false_eq_true, if_false]; exact a h
  | some u => simp only [Option.isSome_some, if_true]; rw [m, h]; rfl
theorem aput_perm {k : List Nat} {v : α} {l : List (List Nat × α)} (hn : (l.map (·.1)).Nodup) : (aput k v l).Perm ((k, v) :: aout k l) := by
  unfold aput
  rw [any_iff]
  cases h : alook k l with
  | none =>
    simp only [Option.isSome_none, Bool.false_eq_true, if_false]
    rw [aout_none h]
    exact List.perm_append_singleton ..
  | some u =>
    simp only [Option.isSome_some, if_true]
    have h2 : alook k (l.map (fun e => if e.1 = k then (e.1, v) else e)) = some v := by
      have := alook_aput (k := k) (j := k) (v := v) (l := l)
      unfold aput at this
      rw [any_iff, h] at this
      simpa using this
    have := perm_aout (by rw [map_keys]; exact hn) h2
    rw [aput_map_out] at this
    exact this
theorem nodup_aout {k : List Nat} {l : List (List Nat × α)} (hn : (l.map (·.1)).Nodup) : ((aout k l).map (·.1)).Nodup := ((List.filter_sublist (l := l)).map _).nodup hn
theorem nodup_aput {k : List Nat} {v : α} {l : List (List Nat × α)} (hn : (l.map (·.1)).Nodup) : ((aput k v l).map (·.1)).Nodup := by
  rw [((aput_perm (v := v) (k := k) hn).map _).nodup_iff]
  rw [List.map_cons, List.nodup_cons]
  refine ⟨fun q => ?_, nodup_aout hn⟩
  obtain ⟨e, he, q⟩ := List.mem_map.mp q
  unfold aout at he
  have := (List.mem_filter.mp he).2
  simp at this
  exact this q
theorem keys_aput {k : List Nat} {v : α} {l : List (List Nat × α)} {P : List Nat → Prop} (hk : P k) (h : ∀ e ∈ l, P e.1) : ∀ e ∈ aput k v l, P e.1 := by
  intro e he
  unfold aput at he
  split at he
  · obtain ⟨e', h1, rfl⟩ := List.mem_map.mp he
    have := h e' h1
    split <;> exact this
  · rcases List.mem_append.mp he with he | he
    · exact h e he
    · simp only [List.mem_singleton] at he; subst he; exact hk
theorem keys_amap {g : α → β} (l : List (List Nat × α)) : (amap g l).map (·.1) = l.map (·.1) := by unfold amap; rw [List.map_map]; rfl
end
theorem hdict_eq (l : List (List Nat × Pl)) : hdict l = amap (fun p => V.ref p.r) l := rfl
theorem kdict_eq (l : List (List Nat × List Nat)) : kdict l = amap V.str l := rfl
section
variable {σ : AH} {f : Rf} {R : Rm} {L : Lw} {Q : V → AH → Prop} {E : V → AH → Prop}
theorem w_getA {p : Pl} {n : Nat} {i : Int} {v : V} (hn : σ[n]? = some p.ao) (hi : i.natAbs ≤ 1000000) (hv : lidx [.int (p.b : Nat), .int (p.l : Nat)] i = some v) (h : Q v σ) : WP (vGet (.ref n) (.int i) σ) Q E := w_getN i hn hi hv h
noncomputable def ne (l : List Pl) : List Pl := l.filter fun p => decide (0 < p.l)
theorem c_places_of (H : Rep σ f R L) (hn : (R.held.map (·.1)).Nodup) (hz : (places R).length ≤ 1000) (k : ∀ τ n, σ <+: τ → τ[n]? = some (.list (refs (ne (places R)))) → σ.length ≤ n → Q (.ref n) τ) : WP (f_places_of [.ref f.s] σ) Q E := by
  have hz2 : R.held.length + R.wait.length ≤ 1000 := by unfold places at hz; simpa using hz
  refine w_fnA rfl (w_seq (w_asg (w_e2 (w_eCompD (·.2) ?_))))
  walk_at "wp"
  refine ⟨hdict R.held, dictAt_ref H.d, by rw [hdict_eq]; unfold amap; simp; lia, fun kv hkv ρ' τ h1 h2 g => ?_, ?_⟩
  · have H' := H.gr g
    have hs : look "space" ρ' = some (.ref f.s) := h2 "space" (by decide)
    have : WP (eSubD (eAttr "held" (eName "space")) (eName "name") ρ' τ) (fun v _ => v = kv.2) NoE := by
      walk_at "wp"
      obtain ⟨e, he, rfl⟩ := List.mem_map.mp hkv
      refine w_getDq H'.d ?_ rfl
      rw [hdict_eq, dlook_map, alook_of_mem hn he]; rfl
    obtain ⟨a, τ', e1, e2⟩ := w_out this
    exact ⟨τ', by rw [e1, e2]⟩
  · have H' := H.gr (gr_push σ (.list ((hdict R.held).map (·.2))))
    walk_at "wp"
    refine w_addRR (get_push σ _) H'.w (by unfold hdict refs; simp; lia) ?_
    walk_at "wp"
    refine w_eComp (places R) (fun p => .ref p.r) (fun p => decide (0 < p.l)) (fun p => .ref p.r) (w_iSrc ?_)
    walk_at "wp"
    refine .inl ⟨_, rfl, fun τ g => ?_, by lia, fun p hp ρ' τ h1 h2 g => ?_, fun τ n g h2 hn => k τ n ((gr_push σ _).trans g) h2 (by simp at hn; lia)⟩
    · show some _ = some _
      unfold hdict refs places; simp
    · walk_at "wp"
      refine w_getA ((H'.gr g).pl hp) (by decide) rfl ?_
      walk_at "wp"
      refine ⟨gr_refl _, decide_eq_decide.mpr (by lia), fun _ => ?_⟩
      walk_at "wp"
      exact ⟨gr_refl _, rfl⟩

noncomputable def nh (below : Nat) : List Pl → Option Pl → Option Pl
  | [], fd => fd
  | p :: r, fd => nh below r (if p.b < below ∧ (∀ q ∈ fd, q.b < p.b) then some p else fd)
noncomputable def optV : Option Pl → V
  | none => .none
  | some p => .ref p.r
inductive NI (σ : AH) (ps : List Pl) (below : Nat) (rem : List V) (ρ : Loc) (τ : AH) : Prop
  | mk : τ = σ → ∀ (rest : List Pl) (fd : Option Pl), rem = refs rest → (∀ p ∈ rest, p ∈ ps) → (∀ p ∈ fd, p ∈ ps) → look "found" ρ = some (optV fd) → look "below" ρ = some (.int (below : Nat)) → nh below rest fd = nh below ps none → NI σ ps below rem ρ τ
theorem c_next {v : V} {ps : List Pl} {below : Nat} (hv : listAt σ v = some (refs ps)) (hp : ∀ p ∈ ps, σ[p.r]? = some p.ao) (k : Q (optV (nh below ps none)) σ) : WP (f_next_highest [v, .int (below : Nat)] σ) Q E := by
  refine w_fnA rfl ?_
  walk_at "wp"
  refine w_for (NI σ ps below) (w_iSrc ?_)
  walk_at "wp"
  have it : (∃ l, listAt σ v = some l) := ⟨_, hv⟩
  refine .inl ⟨_, hv, _, hv, ⟨rfl, ps, none, rfl, fun _ h => h, (fun p h => by cases h), rfl, rfl, rfl⟩, fun u r ρ τ ⟨e, rest, fd, h1, h2, h3, h4, h5, h6⟩ => ⟨by subst e; exact hv, ?_⟩, fun ρ τ ⟨e, rest, fd, h1, h2, h3, h4, h5, h6⟩ => ⟨by subst e; exact hv, ?_⟩⟩
  · subst e
    cases rest with
    | nil => cases h1
    | cons p rest =>
      injection h1 with e1 e2
      subst e1 e2
      have gp := hp p (h2 p (.head _))
      have go : ∀ fd' ρ', (∀ q ∈ fd', q ∈ ps) → look "found" ρ' = some (optV fd') → look "below" ρ' = some (.int (below : Nat)) → nh below rest fd' = nh below ps none →
          NI τ ps below (refs rest) ρ' τ :=
        fun fd' ρ' a1 a2 a3 a4 => ⟨rfl, rest, fd', rfl, fun q hq => h2 q (.tail _ hq), a1, a2, a3, a4⟩
      have b1 : p.b < below → (∀ q ∈ fd, q.b < p.b) → nh below rest (some p) = nh below ps none := fun q1 q2 => by rw [← h6]; show _ = nh below rest _; rw [if_pos ⟨q1, q2⟩]
      have b2 : ¬ (p.b < below ∧ ∀ q ∈ fd, q.b < p.b) → nh below rest fd = nh below ps none := fun q => by rw [← h6]; show _ = nh below rest _; rw [if_neg q]
      walk_at "wp"
      refine w_getA gp (by decide) rfl ?_
      walk_at "wp"
      refine w_dec (fun q1 => ?_) (fun q1 => ?_)
      · walk_at "wp"
        cases fd with
        | none =>
          refine w_yes rfl ?_
          walk_at "wp"
          refine w_yes rfl ?_
          walk_at "wp"
          refine w_yes rfl ?_
          walk_at "wp"
          exact go (some p) _ (fun q hq => by cases hq; exact h2 _ (.head _)) (by walk_at "lk") (by walk_at "lk") (b1 (by lia) (fun q hq => by cases hq))
        | some q₀ =>
          refine w_no rfl ?_
          walk_at "wp"
          refine w_getA gp (by decide) rfl ?_
          walk_at "wp"
          refine w_getA (p := q₀) (hp q₀ (h3 q₀ rfl)) (by decide) rfl ?_
          walk_at "wp"
          refine w_dec (fun q2 => ?_) (fun q2 => ?_)
          · walk_at "wp"
            refine w_yes rfl ?_
            walk_at "wp"
            refine w_yes rfl ?_
            walk_at "wp"
            exact go (some p) _ (fun q hq => by cases hq; exact h2 _ (.head _)) (by walk_at "lk") (by walk_at "lk") (b1 (by lia) (fun q hq => by cases hq; lia))
          · walk_at "wp"
            refine w_no rfl ?_
            walk_at "wp"
            refine w_no rfl ?_
            walk_at "wp"
            exact go (some q₀) _ h3 (by walk_at "lk") (by walk_at "lk") (b2 fun q => by have := q.2 q₀ rfl; lia)
      · walk_at "wp"
        refine w_no rfl ?_
        walk_at "wp"
        exact go fd _ h3 (by walk_at "lk") (by walk_at "lk") (b2 fun q => by lia)
  · subst e
    cases rest with
    | cons p rest => cases h1
    | nil =>
      walk_at "wp"
      rw [← h6] at k
      exact k

theorem c_text_of {name : List Nat} (H : Rep σ f R L) (hb : ∀ p ∈ places R, p.b + p.l ≤ R.oct.length) (hz : R.oct.length ≤ 1000) (ha : ∀ c ∈ R.oct, c < 128)
    (k : ∀ τ, σ <+: τ → Q (.str ((alook name (amap (Tx R) R.held)).getD [])) τ) : WP (f_text_of [.ref f.s, .str name] σ) Q E := by
  rw [alook_map] at k
  refine w_fnA rfl ?_
  walk_at "wp"
  refine w_in H.d ?_
  rw [hdict_eq, dlook_map]
  walk_at "wp"
  cases h : alook name R.held with
  | none =>
    rw [h] at k
    refine w_no rfl ?_
    walk_at "wp"
    exact k σ (gr_refl _)
  | some p =>
    rw [h] at k
    have hp : p ∈ places R := List.mem_append_left _ (List.mem_map_of_mem (f := (·.2)) (alook_mem h))
    refine w_yes rfl ?_
    walk_at "wp"
    refine w_getD H.d (by rw [hdict_eq, dlook_map, h]; rfl) ?_
    walk_at "wp"
    exact c_text_at H (H.pl hp) (hb p hp) hz ha k
end
/-! ### the room's invariant -/
noncomputable def Disj (p q : Pl) : Prop := p.l = 0 ∨ q.l = 0 ∨ p.b + p.l ≤ q.b ∨ q.b + q.l ≤ p.b
noncomputable def total (R : Rm) : Nat := ((places R).map (·.l)).sum
noncomputable def names4 : List (List Nat) := [[65], [66], [67], [68]]
structure Inv (R : Rm) : Prop where
  len : R.oct.length = R.size
  sz : R.size ≤ 35
  asc : ∀ c ∈ R.oct, c < 128
  low : R.low ≤ R.free
  fr : R.free ≤ R.size
  bd : ∀ p ∈ places R, p.b + p.l ≤ R.size
  lo : ∀ p ∈ places R, 0 < p.l → R.free ≤ p.b
  dj : (places R).Pairwise Disj
  tot : R.free + total R ≤ R.size
  nd : (R.held.map (·.1)).Nodup
  nm : ∀ e ∈ R.held, e.1 ∈ names4
  wt : R.wait.length ≤ R.most
  mo : R.most ≤ 4
theorem len_sub {α : Type} [DecidableEq α] : ∀ (l m : List α), l.Nodup → (∀ x ∈ l, x ∈ m) → l.length ≤ m.length
  | [], m, _, _ => Nat.zero_le _
  | a :: r, m, hn, h => by
    rw [List.nodup_cons] at hn
    have ha : a ∈ m := h a (.head _)
    have := len_sub r (m.erase a) hn.2 fun x hx => (List.mem_erase_of_ne (fun q : x = a => hn.1 (by rw [← q]; exact hx))).mpr (h x (.tail _ hx))
    rw [List.length_erase_of_mem ha] at this
    have : 0 < m.length := List.length_pos_of_mem ha
    simp; lia
theorem Inv.held_len {R : Rm} (I : Inv R) : R.held.length ≤ 4 := by
  have := len_sub (R.held.map (·.1)) names4 I.nd fun x hx => by
    obtain ⟨e, he, rfl⟩ := List.mem_map.mp hx; exact I.nm e he
  simpa [names4] using this
theorem Inv.places_len {R : Rm} (I : Inv R) : (places R).length ≤ 8 := by
  have := I.held_len; have := I.wt; have := I.mo
  unfold places; simp; lia

/-- the same to those who look from outside -/
structure Sm (R R' : Rm) : Prop where
  size : R'.size = R.size
  low : R'.low = R.low
  most : R'.most = R.most
  kt : amap (Tx R') R'.held = amap (Tx R) R.held
  wx : R'.wait.map (Tx R') = R.wait.map (Tx R)
  hr : R'.held.map (fun e => (e.1, e.2.r, e.2.l)) = R.held.map (fun e => (e.1, e.2.r, e.2.l))
  wr : R'.wait.map (fun p => (p.r, p.l)) = R.wait.map (fun p => (p.r, p.l))
theorem Sm.refl (R : Rm) : Sm R R := ⟨rfl, rfl, rfl, rfl, rfl, rfl, rfl⟩
theorem Sm.trans {R₁ R₂ R₃ : Rm} (a : Sm R₁ R₂) (b : Sm R₂ R₃) : Sm R₁ R₃ := ⟨b.size.trans a.size, b.low.trans a.low, b.most.trans a.most, b.kt.trans a.kt, b.wx.trans a.wx, b.hr.trans a.hr, b.wr.trans a.wr⟩
theorem Sm.total {R R' : Rm} (s : Sm R R') : Mine.total R' = Mine.total R := by
  have h1 : R'.held.map (fun e => e.2.l) = R.held.map (fun e => e.2.l) := by
    have := congrArg (List.map fun x : List Nat × Nat × Nat => x.2.2) s.hr
    rw [List.map_map, List.map_map] at this; exact this
  have h2 : R'.wait.map (fun p => p.l) = R.wait.map (fun p => p.l) := by
    have := congrArg (List.map fun x : Nat × Nat => x.2) s.wr
    rw [List.map_map, List.map_map] at this; exact this
  unfold Mine.total places
  simp only [List.map_append, List.map_map]
  show (List.map (fun e => e.2.l) R'.held ++ List.map (fun p => p.l) R'.wait).sum = (List.map (fun e => e.2.l) R.held ++ List.map (fun p => p.l) R.wait).sum
  rw [h1, h2]
theorem Sm.keys {R R' : Rm} (s : Sm R R') : R'.held.map (·.1) = R.held.map (·.1) := by
  have := congrArg (List.map fun x : List Nat × Nat × Nat => x.1) s.hr
  rw [List.map_map, List.map_map] at this; exact this

/-! ### texts under writing -/
theorem tx_get {R : Rm} {p : Pl} (j : Nat) : (Tx R p)[j]? = if j < p.l then R.oct[p.b + j]? else none := by
  unfold Tx; rw [List.getElem?_take, List.getElem?_drop]
theorem tx_len {R : Rm} {p : Pl} (h : p.b + p.l ≤ R.oct.length) : (Tx R p).length = p.l := by unfold Tx; simp; lia
theorem tx_off {R R' : Rm} {p : Pl} {a : Nat} {ws : List Nat} (h : a + ws.length ≤ R.oct.length) (ho : R'.oct = wr R.oct a ws) (hd : p.l = 0 ∨ p.b + p.l ≤ a ∨ a + ws.length ≤ p.b) : Tx R' p = Tx R p := by
  apply List.ext_getElem?
  intro j
  rw [tx_get, tx_get, ho, wr_get h]
  by_cases hj : j < p.l
  · rw [if_pos hj, if_pos hj, if_neg (by lia)]
  · rw [if_neg hj, if_neg hj]
theorem tx_on {R R' : Rm} {p : Pl} {ws : List Nat} (h : p.b + ws.length ≤ R.oct.length) (ho : R'.oct = wr R.oct p.b ws) (hl : p.l = ws.length) : Tx R' p = ws := by
  apply List.ext_getElem?
  intro j
  rw [tx_get, ho, wr_get h]
  by_cases hj : j < p.l
  · rw [if_pos hj, if_pos (by lia), Nat.add_sub_cancel_left]
  · rw [if_neg hj, List.getElem?_eq_none (by lia)]
theorem wr_asc {oct : List Nat} {a : Nat} {ws : List Nat} (h1 : ∀ c ∈ oct, c < 128) (h2 : ∀ c ∈ ws, c < 128) : ∀ c ∈ wr oct a ws, c < 128 := by
  intro c hc
  unfold wr at hc
  rcases List.mem_append.mp hc with hc | hc
  · rcases List.mem_append.mp hc with hc | hc
    · exact h1 c (List.mem_of_mem_take hc)
    · exact h2 c hc
  · exact h1 c (List.mem_of_mem_drop hc)
theorem tx_asc {R : Rm} {p : Pl} (h : ∀ c ∈ R.oct, c < 128) : ∀ c ∈ Tx R p, c < 128 := fun c hc => h c (List.mem_of_mem_drop (List.mem_of_mem_take hc))

/-! ### a place is moved -/
noncomputable def mv (r b' : Nat) (p : Pl) : Pl := if p.r = r then { p with b := b' } else p
theorem mv_r (r b' : Nat) (p : Pl) : (mv r b' p).r = p.r := by unfold mv; split <;> rfl
theorem mv_l (r b' : Nat) (p : Pl) : (mv r b' p).l = p.l := by unfold mv; split <;> rfl
theorem mv_b_self (b' : Nat) (p : Pl) : (mv p.r b' p).b = b' := by unfold mv; rw [if_pos rfl]
theorem mv_ne {r b' : Nat} {p : Pl} (h : p.r ≠ r) : mv r b' p = p := if_neg h
noncomputable def stepR (R : Rm) (p : Pl) (b' : Nat) : Rm := { R with held := amap (mv p.r b') R.held, wait := R.wait.map (mv p.r b'), oct := wr R.oct b' (Tx R p) }
theorem places_step (R : Rm) (p : Pl) (b' : Nat) : places (stepR R p b') = (places R).map (mv p.r b') := by
  unfold places stepR amap; simp [List.map_map, Function.comp]
theorem CO.upd {σ : AH} {C : List (Nat × AO)} {n : Nat} {a a' : AO} (c : CO σ C) (h : (n, a) ∈ C) : CO (σ.set n a') (C.map fun c => if c.1 = n then (n, a') else c) := by
  refine ⟨?_, fun x hx => ?_⟩
  · rw [List.map_map, show ((fun c : Nat × AO => c.1) ∘ fun c : Nat × AO => if c.1 = n then (n, a') else c) = fun c => c.1 by funext c; simp only [Function.comp]; split <;> simp_all]
    exact c.1
  · obtain ⟨y, hy, rfl⟩ := List.mem_map.mp hx
    split
    · exact List.getElem?_set_self (lt_of_get (c.2 _ h))
    · rename_i q; rw [List.getElem?_set_ne (Ne.symm q)]; exact c.2 y hy
theorem nodup_inj {l : List Pl} (h : (l.map (·.r)).Nodup) {p q : Pl} (hp : p ∈ l) (hq : q ∈ l) (e : p.r = q.r) : p = q := by
  induction l with
  | nil => cases hp
  | cons a r ih =>
    rw [List.map_cons, List.nodup_cons] at h
    rcases List.mem_cons.mp hp with e1 | hp1
    · rcases List.mem_cons.mp hq with e2 | hq1
      · rw [e1, e2]
      · exact absurd (by rw [← e1, e]; exact List.mem_map_of_mem (f := (·.r)) hq1) h.1
    · rcases List.mem_cons.mp hq with e2 | hq1
      · exact absurd (by rw [← e2, ← e]; exact List.mem_map_of_mem (f := (·.r)) hp1) h.1
      · exact ih h.2 hp1 hq1
theorem Rep.move {σ : AH} {f : Rf} {R : Rm} {L : Lw} (h : Rep σ f R L) {p : Pl} (hp : p ∈ places R) (b' : Nat) :
    Rep (σ.set p.r (.list [.int (b' : Nat), .int (p.l : Nat)])) f { R with held := amap (mv p.r b') R.held, wait := R.wait.map (mv p.r b') } L := by
  have hm : (p.r, p.ao) ∈ cells f R L := .tail _ (.tail _ (.tail _ (.tail _ (.tail _ (.tail _ (.tail _ (.tail _ (List.mem_map_of_mem (f := fun p : Pl => (p.r, p.ao)) hp))))))))
  have c := CO.upd (a' := .list [.int (b' : Nat), .int (p.l : Nat)]) h hm
  have h1 := h.1
  have hnd := h.nodup
  unfold cells at h1
  simp only [List.map_cons, List.map_map, List.nodup_cons] at h1
  refine hide fun X_ k_ => ?_
  obtain ⟨a1, a2, a3, a4, a5, a6, a7, a8, _⟩ := h1
  refine k_ ?_
  clear k_ X_
  have out : ∀ {x : Nat} {M : List Nat}, x ∉ M → p.r ∈ M → ¬ x = p.r := fun h1 h2 e => h1 (e ▸ h2)
  have hmem : p.r ∈ (places R).map ((fun c : Nat × AO => c.1) ∘ fun p : Pl => (p.r, p.ao)) := List.mem_map_of_mem (f := ((fun c : Nat × AO => c.1) ∘ fun p : Pl => (p.r, p.ao))) hp
  have e : cells f { R with held := amap (mv p.r b') R.held, wait := R.wait.map (mv p.r b') } L = (cells f R L).map fun c => if c.1 = p.r then (p.r, AO.list [.int (b' : Nat), .int (p.l : Nat)]) else c := by
    unfold cells
    simp only [List.map_cons]
    rw [if_neg (out a1 (by simp only [List.mem_cons]; exact .inr (.inr (.inr (.inr (.inr (.inr (.inr hmem)))))))), if_neg (out a2 (by simp only [List.mem_cons]; exact .inr (.inr (.inr (.inr (.inr (.inr hmem))))))), if_neg (out a3 (by simp only [List.mem_cons]; exact .inr (.inr (.inr (.inr (.inr hmem)))))),
      if_neg (out a4 (by simp only [List.mem_cons]; exact .inr (.inr (.inr (.inr hmem))))), if_neg (out a5 (by simp only [List.mem_cons]; exact .inr (.inr (.inr hmem)))), if_neg (out a6 (by simp only [List.mem_cons]; exact .inr (.inr hmem))), if_neg (out a7 (by simp only [List.mem_cons]; exact .inr hmem)), if_neg (out a8 hmem)]
    have hh : hdict (amap (mv p.r b') R.held) = hdict R.held := by unfold hdict amap; rw [List.map_map]; congr 1; funext e; simp [mv_r]
    have hw : refs (R.wait.map (mv p.r b')) = refs R.wait := by unfold refs; rw [List.map_map]; congr 1; funext e; simp [mv_r]
    have hpl : places { R with held := amap (mv p.r b') R.held, wait := R.wait.map (mv p.r b') } = (places R).map (mv p.r b') := by unfold places amap; simp [List.map_map, Function.comp]
    have ht : ((places R).map (mv p.r b')).map (fun p => (p.r, p.ao)) = ((places R).map fun p => (p.r, p.ao)).map fun c => if c.1 = p.r then (p.r, AO.list [.int (b' : Nat), .int (p.l : Nat)]) else c := by
      rw [List.map_map, List.map_map]
      apply List.map_congr_left
      intro q hq
      simp only [Function.comp]
      split
      · rename_i e
        obtain rfl := nodup_inj hnd hq hp e
        unfold mv; rw [if_pos rfl]; rfl
      · rename_i e; rw [mv_ne e]
    rw [hpl, ht]
    show ((f.s, AO.inst (fields f R)) :: _ :: (f.d, AO.dict (hdict (amap (mv p.r b') R.held))) :: (f.w, AO.list (refs (R.wait.map (mv p.r b')))) :: _) = _
    rw [hh, hw]
  unfold Rep
  rw [e]
  exact c

/-! ### the highest -/
theorem nh_all (below : Nat) : ∀ (l : List Pl) (fd : Option Pl), (∀ q ∈ fd, q.b < below) →
    (nh below l fd = none → fd = none ∧ ∀ p ∈ l, ¬ p.b < below) ∧ (∀ q, nh below l fd = some q → (q ∈ l ∨ fd = some q) ∧ q.b < below ∧ (∀ p ∈ l, p.b < below → p.b ≤ q.b) ∧ ∀ p ∈ fd, p.b ≤ q.b)
  | [], fd, h => by
    refine ⟨fun e => ⟨e, fun p hp => nomatch hp⟩, fun q e => ⟨.inr e, h q e, (fun p hp => nomatch hp), fun p hp => ?_⟩⟩
    have e' : fd = some q := e
    rw [e'] at hp; cases hp; exact Nat.le_refl _
  | p :: r, fd, h => by
    unfold nh
    split
    · rename_i c
      obtain ⟨h1, h2⟩ := nh_all below r (some p) (fun q hq => by cases hq; exact c.1)
      refine ⟨(fun e => by obtain ⟨z, _⟩ := h1 e; cases z), fun q e => ?_⟩
      obtain ⟨a1, a2, a3, a4⟩ := h2 q e
      have hp := a4 p rfl
      refine ⟨.inl ?_, a2, fun x hx hlt => ?_, fun x hx => Nat.le_trans (Nat.le_of_lt (c.2 x hx)) hp⟩
      · rcases a1 with a1 | a1
        · exact .tail _ a1
        · cases a1; exact .head _
      · rcases List.mem_cons.mp hx with rfl | hx
        · exact hp
        · exact a3 x hx hlt
    · rename_i c
      obtain ⟨h1, h2⟩ := nh_all below r fd h
      refine ⟨fun e => ?_, fun q e => ?_⟩
      · obtain ⟨a1, a2⟩ := h1 e
        refine ⟨a1, fun x hx => ?_⟩
        rcases List.mem_cons.mp hx with rfl | hx
        · intro hlt; exact c ⟨hlt, fun q hq => by rw [a1] at hq; cases hq⟩
        · exact a2 x hx
      · obtain ⟨a1, a2, a3, a4⟩ := h2 q e
        refine ⟨a1.imp (.tail _) id, a2, (fun x hx hlt => ?_), a4⟩
        rcases List.mem_cons.mp hx with rfl | hx
        · cases fd with
          | none => exact absurd ⟨hlt, fun q hq => by cases hq⟩ c
          | some y =>
            have := a4 y rfl
            have : ¬ y.b < x.b := fun z => c ⟨hlt, fun q hq => by cases hq; exact z⟩
            lia
        · exact a3 x hx hlt
/-! ### collect -/
theorem lk_cap {ρ : Loc} {y : String} : ∀ {fv : List String}, y ∈ fv → look y (cap fv ρ) = look y ρ
  | n :: fv, h => by
    unfold cap
    rw [List.filterMap_cons]
    by_cases e : n = y
    · subst e
      cases q : look n ρ with
      | none =>
        simp only [Option.map_none]
        have : ∀ fv, look n (cap fv ρ) = none := by
          intro fv
          induction fv with
          | nil => rfl
          | cons m fv ih =>
            unfold cap; rw [List.filterMap_cons]
            cases q2 : look m ρ with
            | none => exact ih
            | some v =>
              simp only [Option.map_some]
              unfold look
              rw [if_neg (fun z => by rw [z, q] at q2; cases q2)]
              exact ih
        exact this fv
      | some v => simp only [Option.map_some]; unfold look; rw [if_pos rfl]
    · have h' : y ∈ fv := by
        rcases List.mem_cons.mp h with z | z
        · exact absurd z.symm e
        · exact z
      cases q : look n ρ with
      | none => simp only [Option.map_none]; exact lk_cap h'
      | some v => simp only [Option.map_some]; show (if n = y then some v else look y (cap fv ρ)) = _; rw [if_neg e]; exact lk_cap h'
theorem Disj.symm {p q : Pl} (h : Disj p q) : Disj q p := by
  rcases h with h | h | h | h
  · exact .inr (.inl h)
  · exact .inl h
  · exact .inr (.inr (.inr h))
  · exact .inr (.inr (.inl h))
theorem disj_mem {l : List Pl} (h : l.Pairwise Disj) : ∀ {p q : Pl}, p ∈ l → q ∈ l → p.r ≠ q.r → Disj p q := by
  induction h with
  | nil => intro p q hp; cases hp
  | cons h1 _ ih =>
    intro p q hp hq hne
    rcases List.mem_cons.mp hp with e1 | hp1
    · rcases List.mem_cons.mp hq with e2 | hq1
      · exact absurd (by rw [e1, e2]) hne
      · exact e1 ▸ h1 q hq1
    · rcases List.mem_cons.mp hq with e2 | hq1
      · exact (e2 ▸ h1 p hp1 : Disj q p).symm
      · exact ih hp1 hq1 hne
theorem sum_zero {α : Type} {g : α → Nat} : ∀ {l : List α}, (∀ x ∈ l, g x = 0) → (l.map g).sum = 0
  | [], _ => rfl
  | a :: r, h => by rw [List.map_cons, List.sum_cons, h a (.head _), sum_zero fun x hx => h x (.tail _ hx)]
theorem sum_one {g h : Pl → Nat} {k : Nat} {p : Pl} : ∀ {l : List Pl}, (l.map (·.r)).Nodup → p ∈ l → g p = h p + k → (∀ q ∈ l, q.r ≠ p.r → g q = h q) → (l.map g).sum = (l.map h).sum + k
  | a :: r, hn, hp, h1, h2 => by
    rw [List.map_cons, List.nodup_cons] at hn
    rw [List.map_cons, List.map_cons, List.sum_cons, List.sum_cons]
    rcases List.mem_cons.mp hp with e | hp
    · subst e
      have : r.map g = r.map h := List.map_congr_left fun q hq => h2 q (.tail _ hq) fun e => hn.1 (e ▸ List.mem_map_of_mem (f := (·.r)) hq)
      rw [this, h1]; lia
    · rw [sum_one hn.2 hp h1 fun q hq => h2 q (.tail _ hq), h2 a (.head _) fun e => hn.1 (e ▸ List.mem_map_of_mem (f := (·.r)) hp)]; lia
structure CI (R R₁ : Rm) (below goal : Nat) : Prop where
  sm : Sm R R₁
  fr : R₁.free = R.free
  co : R₁.coll = R.coll
  len : R₁.oct.length = R₁.size
  asc : ∀ c ∈ R₁.oct, c < 128
  bd : ∀ p ∈ places R₁, p.b + p.l ≤ R₁.size
  lo : ∀ p ∈ places R₁, 0 < p.l → R.free ≤ p.b
  dj : (places R₁).Pairwise Disj
  up : ∀ p ∈ places R₁, 0 < p.l → below ≤ p.b → goal ≤ p.b
  dn : ∀ p ∈ places R₁, 0 < p.l → p.b < below → p.b + p.l ≤ goal
  bg : below ≤ goal
  gs : goal ≤ R₁.size
  gf : R.free ≤ goal
  sum : goal + ((places R₁).map fun p => if p.b < below then 0 else p.l).sum = R₁.size
theorem CI.start {R : Rm} (I : Inv R) : CI R R R.size R.size where
  sm := .refl R
  fr := rfl
  co := rfl
  len := I.len
  asc := I.asc
  bd := I.bd
  lo := I.lo
  dj := I.dj
  up := fun p hp h0 h1 => h1
  dn := fun p hp h0 h1 => I.bd p hp
  bg := Nat.le_refl _
  gs := Nat.le_refl _
  gf := I.fr
  sum := by
    rw [sum_zero fun p hp => ?_, Nat.add_zero]
    have := I.bd p hp
    split <;> lia
theorem CI.step {R R₁ : Rm} {below goal : Nat} {p : Pl} (C : CI R R₁ below goal) (nd : ((places R₁).map (·.r)).Nodup) (hp : p ∈ places R₁) (h0 : 0 < p.l) (hb : p.b < below)
    (mx : ∀ q ∈ places R₁, 0 < q.l → q.b < below → q.b ≤ p.b) : CI R (stepR R₁ p (goal - p.l)) p.b (goal - p.l) := by
  have e1 := C.dn p hp h0 hb
  have e2 := C.gs
  have hlen : (Tx R₁ p).length = p.l := tx_len (by rw [C.len]; exact C.bd p hp)
  have hw : goal - p.l + (Tx R₁ p).length ≤ R₁.oct.length := by rw [hlen, C.len]; lia
  have far : ∀ q ∈ places R₁, q.r ≠ p.r → q.l = 0 ∨ q.b + q.l ≤ p.b ∨ goal ≤ q.b := fun q hq hne => by
    rcases Nat.eq_zero_or_pos q.l with z | z
    · exact .inl z
    · by_cases hlt : q.b < below
      · have := mx q hq z hlt
        rcases disj_mem C.dj hq hp hne with d | d | d | d
        · exact .inl d
        · lia
        · exact .inr (.inl d)
        · lia
      · exact .inr (.inr (C.up q hq z (by lia)))
  have cases_ : ∀ {P : Pl → Prop}, P { p with b := goal - p.l } → (∀ q ∈ places R₁, q.r ≠ p.r → P q) → ∀ q' ∈ places (stepR R₁ p (goal - p.l)), P q' := by
    intro P h1 h2 q' hq'
    rw [places_step] at hq'
    obtain ⟨q, hq, rfl⟩ := List.mem_map.mp hq'
    by_cases e : q.r = p.r
    · obtain rfl := nodup_inj nd hq hp e
      unfold mv; rw [if_pos rfl]; exact h1
    · rw [mv_ne e]; exact h2 q hq e
  have tx : ∀ q ∈ places R₁, Tx (stepR R₁ p (goal - p.l)) (mv p.r (goal - p.l) q) = Tx R₁ q := fun q hq => by
    by_cases e : q.r = p.r
    · obtain rfl := nodup_inj nd hq hp e
      exact tx_on (R := R₁) (p := mv q.r (goal - q.l) q) (by rw [mv_b_self]; exact hw) (by rw [mv_b_self]; rfl) (by rw [mv_l, hlen])
    · rw [mv_ne e]
      refine tx_off hw rfl ?_
      rw [hlen]
      rcases far q hq e with d | d | d
      · exact .inl d
      · exact .inr (.inl (by lia))
      · exact .inr (.inr (by lia))
  refine ⟨?_, C.fr, C.co, ?_, ?_, ?_, ?_, ?_, ?_, ?_, ?_, ?_, ?_, ?_⟩
  · refine C.sm.trans ⟨rfl, rfl, rfl, ?_, ?_, ?_, ?_⟩
    · show amap (Tx (stepR R₁ p (goal - p.l))) (amap (mv p.r (goal - p.l)) R₁.held) = amap (Tx R₁) R₁.held
      unfold amap
      rw [List.map_map]
      exact List.map_congr_left fun e he => by
        simp only [Function.comp]
        rw [tx e.2 (List.mem_append_left _ (List.mem_map_of_mem (f := (·.2)) he))]
    · show (R₁.wait.map (mv p.r (goal - p.l))).map (Tx (stepR R₁ p (goal - p.l))) = R₁.wait.map (Tx R₁)
      rw [List.map_map]
      exact List.map_congr_left fun e he => tx e (List.mem_append_right _ he)
    · show (amap (mv p.r (goal - p.l)) R₁.held).map _ = _
      unfold amap; rw [List.map_map]
      exact List.map_congr_left fun e he => by simp only [Function.comp]; rw [mv_r, mv_l]
    · show (R₁.wait.map (mv p.r (goal - p.l))).map _ = _
      rw [List.map_map]
      exact List.map_congr_left fun e he => by simp only [Function.comp]; rw [mv_r, mv_l]
  · show (wr R₁.oct (goal - p.l) (Tx R₁ p)).length = R₁.size
    rw [wr_len hw, C.len]
  · exact wr_asc C.asc (tx_asc C.asc)
  · exact cases_ (by show goal - p.l + p.l ≤ R₁.size; lia) fun q hq _ => C.bd q hq
  · exact cases_ (P := fun q => 0 < q.l → R.free ≤ q.b) (fun _ => by show R.free ≤ goal - p.l; have := C.lo p hp h0; lia) fun q hq _ => C.lo q hq
  · rw [places_step, List.pairwise_map]
    have h1 := C.dj.and (List.pairwise_map.mp nd)
    refine h1.imp_of_mem fun {a b} ha hb' ⟨d, hne⟩ => ?_
    by_cases ea : a.r = p.r
    · obtain rfl := nodup_inj nd ha hp ea
      rw [mv_ne (Ne.symm hne)]
      unfold mv; rw [if_pos rfl]
      rcases far b hb' (Ne.symm hne) with d | d | d
      · exact .inr (.inl d)
      · exact .inr (.inr (.inr (by show b.b + b.l ≤ goal - a.l; lia)))
      · exact .inr (.inr (.inl (by show goal - a.l + a.l ≤ b.b; lia)))
    · rw [mv_ne ea]
      by_cases eb : b.r = p.r
      · obtain rfl := nodup_inj nd hb' hp eb
        unfold mv; rw [if_pos rfl]
        rcases far a ha ea with d | d | d
        · exact .inl d
        · exact .inr (.inr (.inl (by show a.b + a.l ≤ goal - b.l; lia)))
        · exact .inr (.inr (.inr (by show goal - b.l + b.l ≤ a.b; lia)))
      · rw [mv_ne eb]; exact d
  · exact cases_ (P := fun q => 0 < q.l → p.b ≤ q.b → goal - p.l ≤ q.b) (fun _ _ => Nat.le_refl _) fun q hq hne z1 z2 => by
      rcases far q hq hne with d | d | d <;> lia
  · exact cases_ (P := fun q => 0 < q.l → q.b < p.b → q.b + q.l ≤ goal - p.l) (fun _ (z : goal - p.l < p.b) => by lia) fun q hq hne z1 z2 => by
      rcases far q hq hne with d | d | d <;> lia
  · lia
  · show goal - p.l ≤ R₁.size; lia
  · have := C.lo p hp h0; lia
  · rw [places_step, List.map_map]
    have hs := C.sum
    rw [sum_one (h := fun q => if q.b < below then 0 else q.l) (k := p.l) nd hp ?_ fun q hq hne => ?_]
    · show _ = R₁.size; lia
    · show (if (mv p.r (goal - p.l) p).b < p.b then 0 else (mv p.r (goal - p.l) p).l) = (if p.b < below then 0 else p.l) + p.l
      rw [mv_b_self, mv_l, if_neg (by lia), if_pos hb]; lia
    · show (if (mv p.r (goal - p.l) q).b < p.b then 0 else (mv p.r (goal - p.l) q).l) = if q.b < below then 0 else q.l
      rw [mv_ne hne]
      rcases far q hq hne with d | d | d
      · rw [d]; split <;> split <;> rfl
      · by_cases z : q.l = 0
        · rw [z]; split <;> split <;> rfl
        · rw [if_pos (by lia), if_pos (by lia)]
      · by_cases z : q.l = 0
        · rw [z]; split <;> split <;> rfl
        · rw [if_neg (by lia), if_neg ?_]
          intro hlt
          have := C.dn q hq (by lia) hlt
          lia
noncomputable def endR (R : Rm) (goal : Nat) : Rm := { R with free := goal, coll := R.coll + 1 }
theorem CI.done {R R₁ : Rm} {below goal : Nat} (C : CI R R₁ below goal) (I : Inv R) (h : ∀ q ∈ places R₁, 0 < q.l → ¬ q.b < below) : Inv (endR R₁ goal) ∧ Sm R (endR R₁ goal) ∧ (endR R₁ goal).free + total (endR R₁ goal) = (endR R₁ goal).size := by
  have hs := C.sum
  have e : ((places R₁).map fun p => if p.b < below then 0 else p.l) = (places R₁).map (·.l) := List.map_congr_left fun q hq => by
    split
    · rename_i z
      have := h q hq
      lia
    · rfl
  rw [e] at hs
  refine ⟨⟨C.len, ?_, C.asc, ?_, C.gs, C.bd, fun p hp z => C.up p hp z (by have := h p hp z; lia), C.dj, ?_, ?_, fun e he => ?_, ?_, ?_⟩, ⟨C.sm.size, C.sm.low, C.sm.most, C.sm.kt, C.sm.wx, C.sm.hr, C.sm.wr⟩, hs⟩
  · show R₁.size ≤ 35; rw [C.sm.size]; exact I.sz
  · show R₁.low ≤ goal; rw [C.sm.low]; exact Nat.le_trans I.low C.gf
  · exact Nat.le_of_eq hs
  · show (R₁.held.map (·.1)).Nodup; rw [C.sm.keys]; exact I.nd
  · have : e.1 ∈ R₁.held.map (·.1) := List.mem_map_of_mem (f := (·.1)) he
    rw [C.sm.keys] at this
    obtain ⟨e', h1, h2⟩ := List.mem_map.mp this
    rw [← h2]; exact I.nm e' h1
  · show R₁.wait.length ≤ R₁.most
    have := congrArg List.length C.sm.wr
    simp at this
    rw [this, C.sm.most]; exact I.wt
  · show R₁.most ≤ 4; rw [C.sm.most]; exact I.mo

noncomputable def todo (R : Rm) (below : Nat) : List Pl := (places R).filter fun p => decide (0 < p.l) && decide (p.b < below)
inductive LI (f : Rf) (R : Rm) (L : Lw) (n : Nat) (ρ : Loc) (τ : AH) : Prop
  | mk : ∀ R₁ below goal m, Rep τ f R₁ L → CI R R₁ below goal → n = (todo R₁ below).length → τ[m]? = some (.list (refs (todo R₁ below))) →
      look "space" ρ = some (.ref f.s) → look "before" ρ = some (.int (R.free : Nat)) → look "goal" ρ = some (.int (goal : Nat)) → look "below" ρ = some (.int (below : Nat)) → look "places" ρ = some (.ref m) → look "place" ρ = some (optV (nh below (todo R₁ below) none)) → LI f R L n ρ τ
theorem ne_todo {R : Rm} (I : Inv R) : ne (places R) = todo R R.size := by
  unfold ne todo
  refine List.filter_congr fun p hp => ?_
  have := I.bd p hp
  by_cases z : 0 < p.l
  · simp [z]; lia
  · simp [z]
theorem todo_step {R₁ : Rm} {below g2 : Nat} {p : Pl} (nd : ((places R₁).map (·.r)).Nodup) (hp : p ∈ places R₁) (h1 : p.b ≤ g2) (h2 : p.b ≤ below) :
    ((todo R₁ below).filter fun c => decide ((mv p.r g2 c).b < p.b)).map (fun c => V.ref c.r) = refs (todo (stepR R₁ p g2) p.b) := by
  unfold todo refs
  rw [places_step, List.filter_map, List.map_map, List.filter_filter]
  have : (fun c : Pl => decide ((mv p.r g2 c).b < p.b) && (decide (0 < c.l) && decide (c.b < below))) = fun c => decide ((mv p.r g2 c).b < p.b) && (decide (0 < c.l) && decide (c.b < below)) := rfl
  have e : (places R₁).filter (fun c : Pl => decide ((mv p.r g2 c).b < p.b) && (decide (0 < c.l) && decide (c.b < below))) = (places R₁).filter ((fun p_1 => decide (0 < p_1.l) && decide (p_1.b < p.b)) ∘ mv p.r g2) := List.filter_congr fun c hc => by
    simp only [Function.comp]
    rw [mv_l]
    by_cases q : c.r = p.r
    · obtain rfl := nodup_inj nd hc hp q
      rw [mv_b_self]
      have : ¬ g2 < c.b := by lia
      simp [this]
    · rw [mv_ne q]
      by_cases z : c.b < p.b
      · have : c.b < below := by lia
        simp [z, this]
      · simp [z]
  rw [e]
  exact List.map_congr_left fun c _ => by simp only [Function.comp]; rw [mv_r]
theorem todo_lt {R₁ : Rm} {below g2 : Nat} {p : Pl} (nd : ((places R₁).map (·.r)).Nodup) (hp : p ∈ todo R₁ below) (h1 : p.b ≤ g2) : (todo (stepR R₁ p g2) p.b).length < (todo R₁ below).length := by
  obtain ⟨a1, a2⟩ := List.mem_filter.mp hp
  simp only [Bool.and_eq_true, decide_eq_true_eq] at a2
  have := congrArg List.length (todo_step nd a1 h1 (Nat.le_of_lt a2.2))
  unfold refs at this
  rw [List.length_map, List.length_map] at this
  rw [← this]
  refine Nat.lt_of_le_of_ne (List.length_filter_le ..) fun q => ?_
  have := List.length_filter_eq_length_iff.mp q p hp
  rw [mv_b_self] at this
  simp at this; lia
theorem refs_ne_nums {l : List Pl} {m : List Nat} {p : Pl} (hp : p ∈ l) : refs l ≠ nums m := by
  intro q
  cases l with
  | nil => cases hp
  | cons a r => cases m with
    | nil => cases q
    | cons c m => injection q with q _; cases q
section
variable {σ : AH} {f : Rf} {R : Rm} {L : Lw} {Q : V → AH → Prop} {E : V → AH → Prop}
theorem c_collect (H : Rep σ f R L) (I : Inv R) (k : ∀ v σ' R', Rep σ' f R' L → Inv R' → Sm R R' → R'.free + total R' = R'.size → R'.coll = R.coll + 1 → Q v σ') : WP (f_collect [.ref f.s] σ) Q E := by
  refine w_fnA rfl ?_
  walk_at "wp"
  refine w_tup ?_
  walk_at "wp"
  refine ⟨rfl, ?_⟩
  walk_at "wp"
  refine w_gTup rfl rfl ?_
  walk_at "wp"
  have pl8 := I.places_len
  refine c_places_of H I.nd (by lia) fun τ m g hm hlt => ?_
  rw [ne_todo I] at hm
  have H₁ := H.gr g
  walk_at "wp"
  refine c_next (listAt_ref hm) (fun p hp => H₁.pl ((List.mem_filter.mp hp).1)) ?_
  walk_at "wp"
  refine w_while (LI f R L) (todo R R.size).length ?_ ⟨R, R.size, R.size, m, H₁, .start I, rfl, hm, rfl, rfl, rfl, rfl, rfl, rfl⟩ ?_
  · have : (todo R R.size).length ≤ (places R).length := List.length_filter_le ..
    lia
  clear hm H₁ hlt
  rintro n ρ τ ⟨R₁, below, goal, m, H₁, C, hn, hm, l1, l2, l3, l4, l5, l6⟩
  have nd := H₁.nodup
  obtain ⟨n1, n2⟩ := nh_all below (todo R₁ below) none (fun q hq => nomatch hq)
  walk_at "wp"
  cases hq0 : nh below (todo R₁ below) none with
  | none =>
    rw [hq0] at l6
    rw [if_neg (by decide)]
    walk_at "wp"
    refine w_vSetAttr H₁.s (show 8 ≤ 50 by decide) ?_
    have H₂ : Rep (τ.set f.s (.inst (put "free" (.int (goal : Nat)) (fields f R₁)))) f { R₁ with free := goal } L := H₁.setS (R' := { R₁ with free := goal }) rfl rfl rfl
    walk_at "wp"
    unfold vIAdd
    dsimp only
    refine w_vSetAttr H₂.s (show 8 ≤ 50 by decide) ?_
    have H₃ : Rep (List.set (τ.set f.s (.inst (put "free" (.int (goal : Nat)) (fields f R₁)))) f.s (.inst (put "collections" (.int ((R₁.coll : Int) + 1)) (fields f { R₁ with free := goal })))) f (endR R₁ goal) L := H₂.setS (R' := endR R₁ goal) rfl rfl rfl
    walk_at "wp"
    obtain ⟨d1, d2, d3⟩ := C.done I fun q hq z1 z2 => (n1 hq0).2 q (List.mem_filter.mpr ⟨hq, by simp [z1, z2]⟩) z2
    exact k _ _ _ H₃ d1 d2 d3 (by show R₁.coll + 1 = _; rw [C.co])
  | some p =>
    rw [hq0] at l6
    obtain ⟨a1, a2, a3, _⟩ := n2 p hq0
    rcases a1 with a1 | a1
    · obtain ⟨b1, b2⟩ := List.mem_filter.mp a1
      simp only [Bool.and_eq_true, decide_eq_true_eq] at b2
      have gp := H₁.pl b1
      have e1 := C.dn p b1 b2.1 b2.2
      have e2 := C.gs
      have sz : R₁.size ≤ 35 := by rw [C.sm.size]; exact I.sz
      have S := C.step nd b1 b2.1 b2.2 fun q hq z1 z2 => a3 q (List.mem_filter.mpr ⟨hq, by simp [z1, z2]⟩) z2
      have eg : ((goal : Int) - (p.l : Int)) = ((goal - p.l : Nat) : Int) := by lia
      rw [if_pos (by rfl)]
      refine ⟨_, by rw [hn]; exact todo_lt nd a1 (g2 := goal - p.l) (by lia), ?_⟩
      walk_at "wp"
      refine w_gTup (l := [.int (p.b : Nat), .int (p.l : Nat)]) (listAt_ref gp) rfl ?_
      walk_at "wp"
      refine w_tup ?_
      walk_at "wp"
      refine ⟨rfl, ?_⟩
      rw [eg]
      refine w_gTup rfl rfl ?_
      walk_at "wp"
      refine w_slcR H₁.o rfl rfl (by rw [ints_len, C.len]; lia) ?_
      have hlen : (Tx R₁ p).length = p.l := tx_len (by rw [C.len]; exact C.bd p b1)
      walk_at "wp"
      refine c_write (a := goal - p.l) (ws := Tx R₁ p) H₁ rfl (by show some _ = some _; rw [slc_ints, slc_at (by rw [C.len]; exact C.bd p b1)]; rfl) (fun q => nomatch q) (by rw [hlen, C.len]; lia) (by rw [C.len]; lia) fun H₂ => ?_
      walk_at "wp"
      have gp2 := H₂.pl (p := p) b1
      refine w_setL (i := 0) gp2 (show 0 < 2 by decide) rfl ?_
      have H₃ : Rep _ f (stepR R₁ p (goal - p.l)) L := H₂.move (p := p) b1 (goal - p.l)
      walk_at "wp"
      have m1 : m ≠ f.o := fun q => by
        have := H₁.o; rw [← q, hm] at this
        injection this with this; injection this with this
        exact refs_ne_nums a1 this
      have m2 : m ≠ p.r := fun q => by
        have := gp; rw [← q, hm] at this
        unfold Pl.ao at this
        injection this with this; injection this with this
        cases ht : todo R₁ below with
        | nil => rw [ht] at a1; cases a1
        | cons x y => rw [ht] at this; injection this with this _; cases this
      have hm3 : (List.set (List.set τ f.o (.list (nums (wr R₁.oct (goal - p.l) (Tx R₁ p))))) p.r (.list [.int ((goal - p.l : Nat) : Int), .int (p.l : Nat)]))[m]? = some (.list (refs (todo R₁ below))) := by
        rw [List.getElem?_set_ne (Ne.symm m2), List.getElem?_set_ne (Ne.symm m1)]; exact hm
      refine w_eComp (todo R₁ below) (fun c => .ref c.r) (fun c => decide ((mv p.r (goal - p.l) c).b < p.b)) (fun c => .ref c.r) (w_iSrc ?_)
      walk_at "wp"
      have tl : (todo R₁ below).length ≤ 8 := by
        have h1 : (todo R₁ below).length ≤ (places R₁).length := List.length_filter_le ..
        have h2 : (places R₁).length = (places R).length := by
          have h3 := congrArg List.length C.sm.hr
          have h4 := congrArg List.length C.sm.wr
          simp at h3 h4
          unfold places; simp; lia
        lia
      refine .inl ⟨_, listAt_ref hm3, fun τ' g => listAt_gr g (listAt_ref hm3), by lia, fun c hc ρ' τ' q1 q2 g => ?_, fun τ' n' g q2 hn' => ?_⟩
      · have hc' : mv p.r (goal - p.l) c ∈ places (stepR R₁ p (goal - p.l)) := by rw [places_step]; exact List.mem_map_of_mem ((List.mem_filter.mp hc).1)
        have gc := (H₃.gr g).pl hc'
        rw [mv_r] at gc
        have hb : look "below" ρ' = some (.int (p.b : Nat)) := (q2 "below" (by decide)).trans ((lk_cap (by decide)).trans (by walk_at "lk"))
        walk_at "wp"
        refine w_getA gc (by decide) rfl ?_
        walk_at "wp"
        refine ⟨gr_refl _, decide_eq_decide.mpr (by lia), fun _ => ?_⟩
        walk_at "wp"
        exact ⟨gr_refl _, rfl⟩
      · rw [todo_step nd b1 (by lia) (Nat.le_of_lt b2.2)] at q2
        have H₄ := H₃.gr g
        walk_at "wp"
        refine c_next (listAt_ref q2) (fun q hq => H₄.pl ((List.mem_filter.mp hq).1)) ?_
        walk_at "wp"
        exact ⟨stepR R₁ p (goal - p.l), p.b, goal - p.l, n', H₄, S, rfl, q2, by walk_at "lk", by walk_at "lk", by walk_at "lk", by walk_at "lk", by walk_at "lk", by walk_at "lk"⟩
    · cases a1
end
/-! ### places more or fewer -/
noncomputable def pc (p : Pl) : Nat × AO := (p.r, p.ao)
noncomputable def cells8 (f : Rf) (R : Rm) (L : Lw) : List (Nat × AO) :=
  [(f.s, .inst (fields f R)), (f.o, .list (nums R.oct)), (f.d, .dict (hdict R.held)), (f.w, .list (refs R.wait)), (f.k, .dict (kdict L.kept)), (f.p, .list (txts L.pile)), (f.bx, .list [.ref f.nb, .int (L.chk : Nat), .int (L.turn : Nat)]), (f.nb, .list (nums L.ns))]
noncomputable def CP (σ : AH) (f : Rf) (R : Rm) (L : Lw) (ps : List Pl) : Prop := CO σ (cells8 f R L ++ ps.map pc)
noncomputable def SubP (l U : List Pl) : Prop := ∃ r, (l ++ r).Perm U
theorem SubP.mem {l U : List Pl} (h : SubP l U) {p : Pl} (hp : p ∈ l) : p ∈ U := let ⟨_, h⟩ := h; h.mem_iff.mp (List.mem_append_left _ hp)
section
variable {σ σ' : AH} {f : Rf} {R : Rm} {L : Lw} {ps : List Pl}
theorem CP.of (h : Rep σ f R L) : CP σ f R L (places R) := h
theorem CP.rep (h : CP σ f R L (places R)) : Rep σ f R L := h
theorem CP.s (h : CP σ f R L ps) : σ[f.s]? = some (.inst (fields f R)) := h.2 _ (.head _)
theorem CP.d (h : CP σ f R L ps) : σ[f.d]? = some (.dict (hdict R.held)) := h.2 _ (.tail _ (.tail _ (.head _)))
theorem CP.w (h : CP σ f R L ps) : σ[f.w]? = some (.list (refs R.wait)) := h.2 _ (.tail _ (.tail _ (.tail _ (.head _))))
theorem CP.pl (h : CP σ f R L ps) {p : Pl} (hp : p ∈ ps) : σ[p.r]? = some p.ao := h.2 (pc p) (List.mem_append_right _ (List.mem_map_of_mem hp))
theorem CP.push (h : CP σ f R L ps) {q : Pl} (hq : q.r = σ.length) : CP (σ ++ [q.ao]) f R L (q :: ps) := by
  have c := CO.push h q.ao
  rw [← hq] at c
  exact c.perm (List.perm_middle (l₁ := cells8 f R L) (a := pc q) (l₂ := ps.map pc)).symm
theorem CP.setD (h : CP σ f R L ps) (h' : List (List Nat × Pl)) : CP (σ.set f.d (.dict (hdict h'))) f { R with held := h' } L ps := CO.set (A := [(_, _), (_, _)]) h
theorem CP.setW (h : CP σ f R L ps) (w' : List Pl) : CP (σ.set f.w (.list (refs w'))) f { R with wait := w' } L ps := CO.set (A := [(_, _), (_, _), (_, _)]) h
theorem CP.sub (h : CP σ f R L ps) {ps' : List Pl} (s : SubP ps' ps) : CP σ f R L ps' := by
  obtain ⟨r, hr⟩ := s
  refine (CO.perm h ((List.Perm.refl (cells8 f R L)).append (hr.symm.map pc))).sub ?_
  rw [List.map_append]
  exact (List.Sublist.refl _).append (List.sublist_append_left _ _)
end
/-- a stock of places that may stand together -/
structure Univ (R : Rm) (U : List Pl) : Prop where
  bd : ∀ p ∈ U, p.b + p.l ≤ R.size
  lo : ∀ p ∈ U, 0 < p.l → R.free ≤ p.b
  dj : U.Pairwise Disj
  tot : R.free + (U.map (·.l)).sum ≤ R.size
theorem Inv.univ {R : Rm} (I : Inv R) : Univ R (places R) := ⟨I.bd, I.lo, I.dj, I.tot⟩
theorem perm_sum {l m : List Nat} (h : l.Perm m) : l.sum = m.sum := by
  induction h with
  | nil => rfl
  | cons _ _ ih => simp [ih]
  | swap => simp; lia
  | trans _ _ a b => exact a.trans b
theorem Univ.sub {R : Rm} {U l : List Pl} (u : Univ R U) (s : SubP l U) : Univ R l := by
  have sm := s
  obtain ⟨r, hr⟩ := s
  refine ⟨fun p hp => u.bd p (sm.mem hp), fun p hp => u.lo p (sm.mem hp), ?_, ?_⟩
  · have := (hr.pairwise_iff (R := Disj) fun h => h.symm).mpr u.dj
    exact (List.pairwise_append.mp this).1
  · have h1 := perm_sum (hr.map (·.l))
    have := u.tot
    rw [List.map_append, List.sum_append] at h1
    lia
theorem Inv.of {R : Rm} (I : Inv R) {U : List Pl} {h' : List (List Nat × Pl)} {w' : List Pl} (u : Univ R U) (s : SubP (places { R with held := h', wait := w' }) U) (nd : (h'.map (·.1)).Nodup) (nm : ∀ e ∈ h', e.1 ∈ names4) (wt : w'.length ≤ R.most) :
    Inv { R with held := h', wait := w' } := by
  have v := u.sub s
  exact ⟨I.len, I.sz, I.asc, I.low, I.fr, v.bd, v.lo, v.dj, v.tot, nd, nm, wt, I.mo⟩
/-- what has come of it, seen from outside -/
structure Out (R R' : Rm) (K : List (List Nat × List Nat)) (P : List (List Nat)) : Prop where
  inv : Inv R'
  size : R'.size = R.size
  low : R'.low = R.low
  most : R'.most = R.most
  kt : amap (Tx R') R'.held = K
  wx : R'.wait.map (Tx R') = P
theorem Sm.out {R R' : Rm} (s : Sm R R') (I : Inv R') : Out R R' (amap (Tx R) R.held) (R.wait.map (Tx R)) := ⟨I, s.size, s.low, s.most, s.kt, s.wx⟩

/-! ### allocate -/
structure Gap (R : Rm) (n : Nat) : Prop where
  inv : Inv R
  up : ∀ p ∈ places R, 0 < p.l → R.free + n ≤ p.b
  tot : R.free + n + total R ≤ R.size
section
variable {σ : AH} {f : Rf} {R : Rm} {L : Lw} {Q : V → AH → Prop} {E : V → AH → Prop}
theorem c_alloc_LS {n : Nat} (hn : 255 < n) (k : E (.str (codes "LS")) σ) : WP (f_allocate [.ref f.s, .int (n : Nat)] σ) Q E := by
  refine w_fnA rfl ?_
  walk_at "wp"
  refine w_dec (fun _ => ?_) (fun q => absurd hn (by lia))
  walk_at "wp"
  exact ⟨_, _, rfl, k⟩
theorem c_alloc {n : Nat} {i : Int} (hi : i = (n : Int)) (H : Rep σ f R L) (I : Inv R) (hn : n ≤ 255) (kE : R.size < R.low + total R + n → ∀ σ' R', Rep σ' f R' L → Inv R' → Sm R R' → E (.str (codes "OS")) σ')
    (kQ : R.low + total R + n ≤ R.size → ∀ σ' R', Rep σ' f R' L → Gap R' n → Sm R R' → (R.low + n ≤ R.free → R'.coll = R.coll) → Q (.int (R'.free : Nat)) σ') : WP (f_allocate [.ref f.s, .int i] σ) Q E := by
  subst hi
  refine w_fnA rfl ?_
  walk_at "wp"
  refine w_dec (fun q => absurd hn (by lia)) (fun _ => ?_)
  refine w_skip (nx_next (w_seq ?_))
  refine w_mono (Q' := fun r τ => r = (Fl.next, [("space", V.ref f.s), ("length", V.int (n : Nat))]) ∧ ∃ R₁, Rep τ f R₁ L ∧ Inv R₁ ∧ Sm R R₁ ∧ (R.low + n ≤ R.free → R₁.coll = R.coll) ∧ (R₁.low + n ≤ R₁.free ∨ R₁.free + total R₁ = R₁.size)) (E' := NoE) ?_ ?_ (fun _ _ h => h.elim)
  · refine w_sif ?_
    walk_at "wp"
    refine c_free_room H ?_
    walk_at "wp"
    refine w_dec (fun q => ?_) (fun q => ?_)
    · walk_at "wp"
      refine c_collect H I fun v σ' R' H' I' S' e _ => ?_
      walk_at "wp"
      exact ⟨rfl, R', H', I', S', fun h => absurd h (by lia), .inr e⟩
    · walk_at "wp"
      exact ⟨rfl, R, H, I, .refl R, fun _ => rfl, .inl (by lia)⟩
  rintro _ τ ⟨rfl, R₁, H₁, I₁, S₁, hc, hd⟩
  have st := S₁.total
  have ss := S₁.size
  have sl := S₁.low
  have t1 := I₁.tot
  refine nx_next ?_
  walk_at "wp"
  refine c_free_room H₁ ?_
  walk_at "wp"
  refine w_dec (fun q => ?_) (fun q => ?_)
  · walk_at "wp"
    exact ⟨_, _, rfl, kE (by lia) τ R₁ H₁ I₁ S₁⟩
  · walk_at "wp"
    have eg : ((R₁.free : Int) - (n : Int)) = ((R₁.free - n : Nat) : Int) := by lia
    rw [eg]
    refine w_vSetAttr H₁.s (show 8 ≤ 50 by decide) ?_
    have H₂ : Rep (τ.set f.s (.inst (put "free" (.int ((R₁.free - n : Nat) : Int)) (fields f R₁)))) f { R₁ with free := R₁.free - n } L := H₁.setS (R' := { R₁ with free := R₁.free - n }) rfl rfl rfl
    walk_at "wp"
    refine kQ (by lia) _ _ H₂ ⟨⟨I₁.len, I₁.sz, I₁.asc, by show R₁.low ≤ R₁.free - n; lia, by show R₁.free - n ≤ R₁.size; have := I₁.fr; lia, I₁.bd, fun p hp z => by have := I₁.lo p hp z; show R₁.free - n ≤ p.b; lia, I₁.dj, by show R₁.free - n + total R₁ ≤ R₁.size; lia, I₁.nd, I₁.nm, I₁.wt, I₁.mo⟩, fun p hp z => ?_, ?_⟩ ⟨S₁.size, S₁.low, S₁.most, S₁.kt, S₁.wx, S₁.hr, S₁.wr⟩ hc
    · have := I₁.lo p hp z; show R₁.free - n + n ≤ p.b; lia
    · show R₁.free - n + n + total R₁ ≤ R₁.size; lia

/-! ### placed -/
theorem Gap.write {R : Rm} {n : Nat} {ws : List Nat} (G : Gap R n) (hl : ws.length = n) (ha : ∀ c ∈ ws, c < 128) (r : Nat) :
    Inv { R with oct := wr R.oct R.free ws } ∧ Sm R { R with oct := wr R.oct R.free ws } ∧ Univ { R with oct := wr R.oct R.free ws } (⟨r, R.free, n⟩ :: places R) ∧ Tx { R with oct := wr R.oct R.free ws } ⟨r, R.free, n⟩ = ws := by
  have I := G.inv
  have ht := G.tot
  have hw : R.free + ws.length ≤ R.oct.length := by rw [I.len, hl]; lia
  have tx : ∀ p ∈ places R, Tx { R with oct := wr R.oct R.free ws } p = Tx R p := fun p hp => tx_off hw rfl (by
    rcases Nat.eq_zero_or_pos p.l with z | z
    · exact .inl z
    · have := G.up p hp z; exact .inr (.inr (by lia)))
  refine ⟨⟨by show (wr R.oct R.free ws).length = _; rw [wr_len hw]; exact I.len, I.sz, wr_asc I.asc ha, I.low, I.fr, I.bd, I.lo, I.dj, I.tot, I.nd, I.nm, I.wt, I.mo⟩, ⟨rfl, rfl, rfl, ?_, ?_, rfl, rfl⟩, ⟨fun p hp => ?_, fun p hp z => ?_, ?_, ?_⟩, ?_⟩
  · unfold amap
    exact List.map_congr_left fun e he => by rw [tx e.2 (List.mem_append_left _ (List.mem_map_of_mem (f := (·.2)) he))]
  · exact List.map_congr_left fun e he => tx e (List.mem_append_right _ he)
  · rcases List.mem_cons.mp hp with rfl | hp
    · show R.free + n ≤ R.size; lia
    · exact I.bd p hp
  · rcases List.mem_cons.mp hp with rfl | hp
    · exact Nat.le_refl _
    · exact I.lo p hp z
  · refine List.pairwise_cons.mpr ⟨fun p hp => ?_, I.dj⟩
    rcases Nat.eq_zero_or_pos p.l with z | z
    · exact .inr (.inl z)
    · exact .inr (.inr (.inl (G.up p hp z)))
  · rw [List.map_cons, List.sum_cons]
    have : total R = ((places R).map (·.l)).sum := rfl
    show R.free + (n + _) ≤ R.size
    lia
  · exact tx_on (R := R) (p := ⟨r, R.free, n⟩) hw rfl hl.symm
theorem c_placed {t : List Nat} (H : Rep σ f R L) (I : Inv R) (hn : t.length ≤ 255) (ha : ∀ c ∈ t, c < 128) (kE : R.size < R.low + total R + t.length → ∀ σ' R', Rep σ' f R' L → Inv R' → Sm R R' → E (.str (codes "OS")) σ')
    (kQ : R.low + total R + t.length ≤ R.size → ∀ σ' R' q, CP σ' f R' L (q :: places R') → Inv R' → Sm R R' → Univ R' (q :: places R') → Tx R' q = t → (R.low + t.length ≤ R.free → R'.coll = R.coll) → Q (.ref q.r) σ') : WP (f_placed [.ref f.s, .str t] σ) Q E := by
  refine w_fnA rfl ?_
  walk_at "wp"
  refine w_lenS (by lia) ?_
  walk_at "wp"
  refine c_alloc rfl H I hn kE fun hr σ' R₁ H₁ G S₁ hc => ?_
  walk_at "wp"
  refine c_octets_of ha (by lia) fun τ m g hm hlt => ?_
  have H₂ := H₁.gr g
  have I₁ := G.inv
  have hsz := I₁.sz
  have htot := G.tot
  have mo : V.ref m ≠ V.ref f.o := fun q => by
    injection q with q
    have := lt_of_get H₁.o
    lia
  walk_at "wp"
  refine c_write (a := R₁.free) H₂ rfl (listAt_ref hm) mo (by rw [I₁.len]; lia) (by rw [I₁.len]; lia) fun H₃ => ?_
  obtain ⟨g1, g2, g3, g4⟩ := G.write (ws := t) rfl ha (τ.set f.o (.list (nums (wr R₁.oct R₁.free t)))).length
  walk_at "wp"
  refine w_lstH ?_
  walk_at "wp"
  refine w_lenS (by lia) ?_
  walk_at "wp"
  refine ⟨rfl, ?_⟩
  exact kQ hr _ _ ⟨_, R₁.free, t.length⟩ (CP.push (CP.of H₃) rfl) g1 (S₁.trans g2) g3 g4 hc
end
theorem w_neg {f : EA} {ρ : Loc} {σ : AH} {Q : V → AH → Prop} {E : V → AH → Prop} (h : WP (f ρ σ) (fun v σ => ∃ i : Int, v = .int i ∧ Q (.int (-i)) σ) E) : WP (eNeg f ρ σ) Q E :=
  w_bind (w_mono h (fun v σ ⟨i, e, h⟩ => by subst e; exact h) fun _ _ h => h)
local macro_rules | `(tactic| walk_at "wp1") => `(tactic| with_reducible first | refine w_vAttr (CP.s (by assumption)) (by with_unfolding_all rfl) ?_ | refine w_neg ?_)

/-! ### the pile and the names -/
theorem filter_perm {α : Type} (p : α → Bool) (l : List α) : (l.filter p ++ l.filter (fun x => !p x)).Perm l := List.filter_append_perm p l
theorem vals_aout (k : List Nat) (h : List (List Nat × Pl)) : ((aout k h).map (·.2) ++ (h.filter fun e => !decide (e.1 ≠ k)).map (·.2)).Perm (h.map (·.2)) := by
  have := (filter_perm (fun e => decide (e.1 ≠ k)) h).map (·.2)
  rw [List.map_append] at this
  exact this
theorem vals_aput {k : List Nat} {q : Pl} {h : List (List Nat × Pl)} (hn : (h.map (·.1)).Nodup) : ((aput k q h).map (·.2)).Perm (q :: (aout k h).map (·.2)) := (aput_perm hn).map _
theorem swap_mid {α : Type} (a b c : List α) : (a ++ b ++ c).Perm (a ++ c ++ b) := by rw [List.append_assoc, List.append_assoc]; exact List.Perm.append_left _ List.perm_append_comm
theorem dput_hdict {k : List Nat} {q : Pl} {h : List (List Nat × Pl)} : dput k (.ref q.r) (hdict h) = hdict (aput k q h) := dput_map (g := fun p : Pl => V.ref p.r) (v := q)
theorem dout_hdict {k : List Nat} {h : List (List Nat × Pl)} : dout k (hdict h) = hdict (aout k h) := dout_map (g := fun p : Pl => V.ref p.r)
theorem subp_cons_aput {k : List Nat} {q : Pl} {h : List (List Nat × Pl)} {w : List Pl} (hn : (h.map (·.1)).Nodup) : SubP ((aput k q h).map (·.2) ++ w) (q :: (h.map (·.2) ++ w)) := by
  refine ⟨(h.filter fun e => !decide (e.1 ≠ k)).map (·.2), ?_⟩
  have h1 := vals_aput (k := k) (q := q) hn
  have h2 := vals_aout k h
  refine ((h1.append_right w).append_right _).trans ?_
  rw [List.cons_append, List.cons_append]
  refine List.Perm.cons _ ?_
  exact (swap_mid ..).trans (h2.append_right w)
theorem subp_aout {k : List Nat} {h : List (List Nat × Pl)} {w : List Pl} : SubP ((aout k h).map (·.2) ++ w) (h.map (·.2) ++ w) := by
  refine ⟨(h.filter fun e => !decide (e.1 ≠ k)).map (·.2), ?_⟩
  exact (swap_mid ..).trans ((vals_aout k h).append_right w)
theorem subp_app {h : List Pl} {w v : List Pl} : SubP (h ++ w) (h ++ (w ++ v)) := ⟨v, by rw [List.append_assoc]⟩
theorem subp_new {h : List Pl} {w : List Pl} {q : Pl} : SubP (h ++ (w ++ [q])) (q :: (h ++ w)) := ⟨[], by
  rw [List.append_nil, ← List.append_assoc]; exact List.perm_append_singleton ..⟩
theorem SubP.trans {a b c : List Pl} (h : SubP a b) (g : SubP b c) : SubP a c := by
  obtain ⟨r, hr⟩ := h
  obtain ⟨s, hs⟩ := g
  exact ⟨r ++ s, by rw [← List.append_assoc]; exact (hr.append_right s).trans hs⟩
theorem keys_sub {R : Rm} {k : List Nat} {q : Pl} (I : Inv R) (hk : k ∈ names4) : ∀ e ∈ aput k q R.held, e.1 ∈ names4 := keys_aput (P := (· ∈ names4)) hk I.nm
theorem isL_ref {σ : AH} {n : Nat} {l : List V} (h : σ[n]? = some (.list l)) : isL σ (.ref n) = true := by show (listAt σ (.ref n)).isSome = true; rw [listAt_ref h]; rfl
theorem isD_ref {σ : AH} {n : Nat} {l : List (List Nat × V)} (h : σ[n]? = some (.dict l)) : isD σ (.ref n) = true := by show (dictAt σ (.ref n)).isSome = true; rw [dictAt_ref h]; rfl
section
variable {σ : AH} {f : Rf} {R : Rm} {L : Lw} {Q : V → AH → Prop} {E : V → AH → Prop}
theorem c_assign {name t : List Nat} (H : Rep σ f R L) (I : Inv R) (hname : name ∈ names4) (hn : t.length ≤ 255) (ha : ∀ c ∈ t, c < 128) (kE : R.size < R.low + total R + t.length → ∀ σ' R', Rep σ' f R' L → Inv R' → Sm R R' → E (.str (codes "OS")) σ')
    (kQ : R.low + total R + t.length ≤ R.size → ∀ σ' R', Rep σ' f R' L → Out R R' (aput name t (amap (Tx R) R.held)) (R.wait.map (Tx R)) → (R.low + t.length ≤ R.free → R'.coll = R.coll) → Q .none σ') : WP (f_assign_text [.ref f.s, .str name, .str t] σ) Q E := by
  refine w_fnA rfl ?_
  walk_at "wp"
  refine c_placed H I hn ha kE fun hr σ' R₁ q c I₁ S₁ u tq hc => ?_
  walk_at "wp"
  have hl := I₁.held_len
  refine w_setD c.d (szOk (by unfold hdict; simp; lia)) ?_
  rw [dput_hdict]
  walk_at "wp"
  have c' := (c.setD (aput name q R₁.held)).sub (subp_cons_aput (k := name) (w := R₁.wait) I₁.nd)
  have I' := I₁.of (h' := aput name q R₁.held) (w' := R₁.wait) u (subp_cons_aput I₁.nd) (nodup_aput I₁.nd) (keys_sub I₁ hname) I₁.wt
  refine kQ hr _ _ c' ⟨I', S₁.size, S₁.low, S₁.most, ?_, S₁.wx⟩ hc
  show amap (Tx R₁) (aput name q R₁.held) = _
  rw [← aput_map, tq, S₁.kt]

theorem c_assign_LS {name t : List Nat} (hn : 255 < t.length) (hz : t.length ≤ 100000) (k : E (.str (codes "LS")) σ) : WP (f_assign_text [.ref f.s, .str name, .str t] σ) Q E := by
  refine w_fnA rfl ?_
  walk_at "wp"
  refine w_fnA rfl ?_
  walk_at "wp"
  refine w_lenS hz ?_
  walk_at "wp"
  exact c_alloc_LS hn k

theorem c_push {t : List Nat} (H : Rep σ f R L) (I : Inv R) (hn : t.length ≤ 255) (ha : ∀ c ∈ t, c < 128) (kS : R.most ≤ R.wait.length → E (.str (codes "ST")) σ)
    (kE : R.wait.length < R.most → R.size < R.low + total R + t.length → ∀ σ' R', Rep σ' f R' L → Inv R' → Sm R R' → E (.str (codes "OS")) σ')
    (kQ : R.wait.length < R.most → R.low + total R + t.length ≤ R.size → ∀ σ' R', Rep σ' f R' L → Out R R' (amap (Tx R) R.held) (R.wait.map (Tx R) ++ [t]) → Q .none σ') : WP (f_push_waiting [.ref f.s, .str t] σ) Q E := by
  have hw := I.wt
  have hm := I.mo
  refine w_fnA rfl ?_
  walk_at "wp"
  refine w_lenR H.w (by rw [refs_len]; lia) ?_
  rw [refs_len]
  walk_at "wp"
  refine w_dec (fun q => ?_) (fun q => ?_)
  · walk_at "wp"
    refine w_lenR H.w (by rw [refs_len]; lia) ?_
    walk_at "wp"
    exact ⟨_, _, rfl, kS (by lia)⟩
  · have hlt : R.wait.length < R.most := by lia
    walk_at "wp"
    refine w_meth ?_
    walk_at "wp"
    refine ⟨isL_ref H.w, ?_⟩
    walk_at "wp"
    refine c_placed H I hn ha (kE hlt) fun hr σ' R₁ q c I₁ S₁ u tq hc => ?_
    have hw1 : R₁.wait.length = R.wait.length := by have := congrArg List.length S₁.wr; simpa using this
    walk_at "wp"
    refine w_appL c.w (by rw [refs_len]; lia) ?_
    rw [show refs R₁.wait ++ [V.ref q.r] = refs (R₁.wait ++ [q]) by unfold refs; simp]
    walk_at "wp"
    have c' := (c.setW (R₁.wait ++ [q])).sub (subp_new (h := R₁.held.map (·.2)))
    have I' := I₁.of (h' := R₁.held) (w' := R₁.wait ++ [q]) u subp_new I₁.nd I₁.nm (by rw [List.length_append, S₁.most, hw1]; exact hlt)
    refine kQ hlt hr _ _ c' ⟨I', S₁.size, S₁.low, S₁.most, S₁.kt, ?_⟩
    show (R₁.wait ++ [q]).map (Tx R₁) = _
    rw [List.map_append, S₁.wx, List.map_cons, tq]; rfl

theorem getLast_refs {ws : List Pl} {p : Pl} : (refs (ws ++ [p])).getLast? = some (.ref p.r) := by unfold refs; simp
theorem dropLast_refs {ws : List Pl} {p : Pl} : (refs (ws ++ [p])).dropLast = refs ws := by unfold refs; simp
theorem total_pop {h : List (List Nat × Pl)} {ws : List Pl} {p : Pl} : ((h.map (·.2) ++ (ws ++ [p])).map (·.l)).sum = ((h.map (·.2) ++ ws).map (·.l)).sum + p.l := by
  simp [List.sum_append]; lia
theorem c_pop {ws : List Pl} {p : Pl} (H : Rep σ f R L) (I : Inv R) (hw : R.wait = ws ++ [p])
    (k : ∀ σ' R', Rep σ' f R' L → Out R R' (amap (Tx R) R.held) (ws.map (Tx R)) → Q (.str (Tx R p)) σ') : WP (f_pop_waiting [.ref f.s] σ) Q E := by
  have hwl := I.wt
  have hmo := I.mo
  have hp : p ∈ places R := List.mem_append_right _ (by rw [hw]; simp)
  have Hw := H.w
  rw [hw] at Hw
  have hsz := I.sz
  refine w_fnA rfl ?_
  refine w_seq (w_asg (w_meth ?_))
  walk_at "wp"
  refine ⟨isL_ref Hw, ?_⟩
  walk_at "wp"
  refine w_popL Hw getLast_refs (by rw [refs_len, ← hw]; lia) ?_
  rw [dropLast_refs]
  have c := (CP.of H).setW ws
  have s1 : SubP (places { R with wait := ws }) (places R) := by unfold places; rw [hw]; exact subp_app
  have H₁ : Rep _ f { R with wait := ws } L := (c.sub s1).rep
  have gp := c.pl hp
  have wtl : ws.length ≤ R.most := by rw [hw] at hwl; simp at hwl; lia
  have I₁ : Inv { R with wait := ws } := I.of (h' := R.held) (w' := ws) I.univ s1 I.nd I.nm wtl
  walk_at "wp"
  refine c_text_at (p := p) H₁ gp (by show _ ≤ R.oct.length; rw [I.len]; exact I.bd p hp) (by show R.oct.length ≤ _; rw [I.len]; lia) I.asc fun τ g => ?_
  have H₂ := H₁.gr g
  have gp2 := gr_get g gp
  have fin : ∀ τ, Rep τ f { R with wait := ws } L → Q (.str (Tx R p)) τ := fun τ h => k τ _ h ⟨I₁, rfl, rfl, rfl, rfl, rfl⟩
  walk_at "wp"
  refine w_getA gp2 (by decide) rfl ?_
  walk_at "wp"
  refine w_dec (fun q => ?_) (fun q => ?_)
  · walk_at "wp"
    refine w_getA gp2 (by decide) rfl ?_
    walk_at "wp"
    refine w_dec (fun q2 => ?_) (fun q2 => ?_)
    · walk_at "wp"
      refine w_yes rfl ?_
      walk_at "wp"
      refine w_getA gp2 (by decide) rfl ?_
      unfold vIAdd
      dsimp only
      have e1 : ((R.free : Int) + (p.l : Int)) = ((R.free + p.l : Nat) : Int) := by lia
      show WP (vSetAttr "free" (.ref f.s) (.int ((R.free : Int) + (p.l : Int))) τ) _ _
      rw [e1]
      refine w_vSetAttr H₂.s (show 8 ≤ 50 by decide) ?_
      have H₃ : Rep (τ.set f.s (.inst (put "free" (.int ((R.free + p.l : Nat) : Int)) (fields f { R with wait := ws })))) f { R with wait := ws, free := R.free + p.l } L := H₂.setS (R' := { R with wait := ws, free := R.free + p.l }) rfl rfl rfl
      walk_at "wp"
      have hb : p.b = R.free := by
        have q3 : (p.b : Int) = (R.free : Int) := q2
        lia
      have bd := I.bd p hp
      have tt := I.tot
      have t2 : total R = total { R with wait := ws } + p.l := by unfold total places; rw [hw]; exact total_pop
      have hnd := H.nodup
      have d1 : ∀ q ∈ places { R with wait := ws }, Disj p q := by
        have hd := I.dj
        unfold places at hd ⊢
        rw [hw, ← List.append_assoc] at hd
        exact fun q hq => ((List.pairwise_append.mp hd).2.2 q hq p (by simp)).symm
      refine k _ _ H₃ ⟨⟨I.len, I.sz, I.asc, by show R.low ≤ R.free + p.l; have := I.low; lia, by show R.free + p.l ≤ R.size; lia, I₁.bd, fun q hq z => ?_, I₁.dj, ?_, I.nd, I.nm, wtl, I.mo⟩, rfl, rfl, rfl, rfl, rfl⟩
      · show R.free + p.l ≤ q.b
        have lo : R.free ≤ q.b := I₁.lo q hq z
        rcases d1 q hq with d | d | d | d <;> lia
      · show R.free + p.l + total { R with wait := ws } ≤ R.size
        lia
    · walk_at "wp"
      refine w_no rfl ?_
      walk_at "wp"
      exact fin τ H₂
  · walk_at "wp"
    refine w_no rfl ?_
    walk_at "wp"
    exact fin τ H₂

theorem c_keep {ws : List Pl} {p : Pl} {name : List Nat} (H : Rep σ f R L) (I : Inv R) (hname : name ∈ names4) (hw : R.wait = ws ++ [p])
    (k : ∀ σ' R', Rep σ' f R' L → Out R R' (aput name (Tx R p) (amap (Tx R) R.held)) (ws.map (Tx R)) → Q .none σ') : WP (f_keep_waiting [.ref f.s, .str name] σ) Q E := by
  have hwl := I.wt
  have hmo := I.mo
  have hl := I.held_len
  have Hw := H.w
  rw [hw] at Hw
  refine w_fnA rfl ?_
  refine w_seq (w_asg (w_meth ?_))
  walk_at "wp"
  refine ⟨isL_ref Hw, ?_⟩
  walk_at "wp"
  refine w_popL Hw getLast_refs (by rw [refs_len, ← hw]; lia) ?_
  rw [dropLast_refs]
  have c := (CP.of H).setW ws
  walk_at "wp"
  refine w_setD (l := hdict R.held) c.d (szOk (by unfold hdict; simp; lia)) ?_
  rw [dput_hdict]
  walk_at "wp"
  have s1 : SubP ((aput name p R.held).map (·.2) ++ ws) (places R) := by
    refine (subp_cons_aput I.nd).trans ⟨[], ?_⟩
    rw [List.append_nil]; unfold places; rw [hw, ← List.append_assoc]
    exact (List.perm_append_singleton ..).symm
  have c' := (c.setD (aput name p R.held)).sub s1
  have wtl : ws.length ≤ R.most := by rw [hw] at hwl; simp at hwl; lia
  have I' := I.of (h' := aput name p R.held) (w' := ws) I.univ s1 (nodup_aput I.nd) (keys_sub I hname) wtl
  refine k _ _ c' ⟨I', rfl, rfl, rfl, ?_, rfl⟩
  show amap (Tx R) (aput name p R.held) = _
  rw [← aput_map]

theorem c_forget {name : List Nat} (H : Rep σ f R L) (I : Inv R) (k : ∀ σ' R', Rep σ' f R' L → Out R R' (aout name (amap (Tx R) R.held)) (R.wait.map (Tx R)) → Q .none σ') : WP (f_forget [.ref f.s, .str name] σ) Q E := by
  have hl := I.held_len
  refine w_fnA rfl ?_
  refine w_seq (w_do (w_meth ?_))
  walk_at "wp"
  refine ⟨isD_ref H.d, ?_⟩
  walk_at "wp"
  refine w_popD H.d (by unfold hdict; simp; lia) ?_
  rw [dout_hdict]
  walk_at "wp"
  have c' := ((CP.of H).setD (aout name R.held)).sub (subp_aout (k := name) (w := R.wait))
  have I' := I.of (h' := aout name R.held) (w' := R.wait) I.univ subp_aout (nodup_aout I.nd) (fun e he => I.nm e (List.mem_filter.mp he).1) I.wt
  refine k _ _ c' ⟨I', rfl, rfl, rfl, ?_, rfl⟩
  show amap (Tx R) (aout name R.held) = _
  rw [← aout_map]
end
/-! ### exchange -/
theorem Univ.empty {R : Rm} {U : List Pl} (u : Univ R U) (r : Nat) : Univ R (⟨r, R.size, 0⟩ :: U) := by
  refine ⟨fun p hp => ?_, fun p hp z => ?_, List.pairwise_cons.mpr ⟨fun p _ => .inl rfl, u.dj⟩, ?_⟩
  · rcases List.mem_cons.mp hp with rfl | hp
    · exact Nat.le_refl _
    · exact u.bd p hp
  · rcases List.mem_cons.mp hp with rfl | hp
    · exact absurd z (Nat.lt_irrefl 0)
    · exact u.lo p hp z
  · rw [List.map_cons, List.sum_cons]; have := u.tot; show R.free + (0 + _) ≤ _; lia
theorem get_place {k : List Nat} {q : Pl} {h : List (List Nat × Pl)} : (dlook k (hdict h)).getD (.ref q.r) = .ref ((alook k h).getD q).r := by
  rw [hdict_eq, dlook_map]; cases alook k h <;> rfl
theorem tx_empty {R : Rm} {q : Pl} (h : q.l = 0) : Tx R q = [] := by unfold Tx; rw [h, List.take_zero]
theorem tx_place {R : Rm} {k : List Nat} {q : Pl} {h : List (List Nat × Pl)} (hq : q.l = 0) : Tx R ((alook k h).getD q) = (alook k (amap (Tx R) h)).getD [] := by
  rw [alook_map]
  cases alook k h with
  | none => exact tx_empty hq
  | some p => rfl
theorem alook_aout {α : Type} {j k : List Nat} (hne : j ≠ k) : ∀ {l : List (List Nat × α)}, alook j (aout k l) = alook j l
  | [] => rfl
  | (y, u) :: r => by
    have ih := alook_aout hne (l := r)
    unfold aout at ih ⊢
    by_cases q : y = k
    · rw [List.filter_cons_of_neg (by simpa using q), ih]
      show _ = if y = j then some u else alook j r
      rw [if_neg (fun z => hne (by rw [← z, q]))]
    · rw [List.filter_cons_of_pos (by simpa using q)]
      show (if y = j then some u else alook j _) = if y = j then some u else alook j r
      rw [ih]
section
variable {vs vh w : List Pl} {q1 q2 : Pl}
theorem sw_a (h : vs.Perm vh) : SubP (vs ++ w) (q2 :: q1 :: (vh ++ w)) := ⟨[q2, q1], ((h.append_right w).append_right _).trans List.perm_append_comm⟩
theorem sw_b (h : vs.Perm (q2 :: vh)) : SubP (vs ++ w) (q2 :: q1 :: (vh ++ w)) := ⟨[q1], ((h.append_right w).append_right _).trans (List.Perm.cons q2 (List.perm_append_singleton ..))⟩
theorem sw_c (h : vs.Perm (q1 :: vh)) : SubP (vs ++ w) (q2 :: q1 :: (vh ++ w)) := ⟨[q2], ((h.append_right w).append_right _).trans (List.perm_append_singleton ..)⟩
theorem sw_d (h : vs.Perm (q1 :: q2 :: vh)) : SubP (vs ++ w) (q2 :: q1 :: (vh ++ w)) := ⟨[], by rw [List.append_nil]; exact (h.append_right w).trans (List.Perm.swap ..)⟩
end
theorem vals_some {k : List Nat} {p : Pl} {h : List (List Nat × Pl)} (hn : (h.map (·.1)).Nodup) (e : alook k h = some p) : (h.map (·.2)).Perm (p :: (aout k h).map (·.2)) := (perm_aout hn e).map _
theorem subp_swap {one other : List Nat} {h : List (List Nat × Pl)} {w : List Pl} {q1 q2 : Pl} (hn : (h.map (·.1)).Nodup) :
    SubP ((aput other ((alook one h).getD q1) (aput one ((alook other h).getD q2) h)).map (·.2) ++ w) (q2 :: q1 :: (h.map (·.2) ++ w)) := by
  generalize e1 : (alook one h).getD q1 = p1
  generalize e2 : (alook other h).getD q2 = p2
  have hA := aput_perm (k := one) (v := p2) hn
  have hB := vals_aput (k := other) (q := p1) (nodup_aput (k := one) (v := p2) hn)
  have hC : (aout other (aput one p2 h)).Perm (aout other ((one, p2) :: aout one h)) := hA.filter _
  have hD := hB.trans ((hC.map (·.2)).cons p1)
  by_cases eq : one = other
  · subst eq
    have e3 : aout one ((one, p2) :: aout one h) = aout one h := by
      unfold aout
      rw [List.filter_cons_of_neg (by simp), List.filter_filter]
      congr 1; funext x; simp
    rw [e3] at hD
    cases q : alook one h with
    | some p =>
      rw [q] at e1
      have e1 : p = p1 := e1
      subst e1
      exact sw_a (hD.trans (vals_some hn q).symm)
    | none =>
      rw [q] at e1
      have e1 : q1 = p1 := e1
      subst e1
      rw [aout_none q] at hD
      exact sw_c hD
  · have e3 : aout other ((one, p2) :: aout one h) = (one, p2) :: aout other (aout one h) := by
      unfold aout; rw [List.filter_cons_of_pos (by simpa using eq)]
    rw [e3] at hD
    have hX := nodup_aout (k := one) hn
    have e4 : alook other (aout one h) = alook other h := alook_aout (Ne.symm eq)
    have hD : ((aput other p1 (aput one p2 h)).map (·.2)).Perm (p1 :: p2 :: (aout other (aout one h)).map (·.2)) := hD
    cases q : alook one h with
    | some p =>
      rw [q] at e1
      have e1 : p = p1 := e1
      subst e1
      have v1 := vals_some hn q
      cases q' : alook other h with
      | some p' =>
        rw [q'] at e2 e4
        have e2 : p' = p2 := e2
        subst e2
        exact sw_a (hD.trans (((vals_some hX e4).symm.cons p).trans v1.symm))
      | none =>
        rw [q'] at e2 e4
        have e2 : q2 = p2 := e2
        subst e2
        rw [aout_none e4] at hD
        exact sw_b (hD.trans ((List.Perm.swap ..).trans (v1.symm.cons _)))
    | none =>
      rw [q] at e1
      have e1 : q1 = p1 := e1
      subst e1
      rw [aout_none q] at hD hX e4
      cases q' : alook other h with
      | some p' =>
        rw [q'] at e2
        have e2 : p' = p2 := e2
        subst e2
        exact sw_c (hD.trans ((vals_some hn q').symm.cons _))
      | none =>
        rw [q'] at e2
        have e2 : q2 = p2 := e2
        subst e2
        rw [aout_none q'] at hD
        exact sw_d hD
section
variable {σ : AH} {f : Rf} {R : Rm} {L : Lw} {Q : V → AH → Prop} {E : V → AH → Prop}
theorem c_swap {one other : List Nat} (H : Rep σ f R L) (I : Inv R) (h1 : one ∈ names4) (h2 : other ∈ names4)
    (k : ∀ σ' R', Rep σ' f R' L → Out R R' (aput other ((alook one (amap (Tx R) R.held)).getD []) (aput one ((alook other (amap (Tx R) R.held)).getD []) (amap (Tx R) R.held))) (R.wait.map (Tx R)) → Q .none σ') : WP (f_swap_texts [.ref f.s, .str one, .str other] σ) Q E := by
  have hl := I.held_len
  let q1 : Pl := ⟨σ.length, R.size, 0⟩
  have c1 : CP (σ ++ [q1.ao]) f R L (q1 :: places R) := (CP.of H).push rfl
  let q2 : Pl := ⟨(σ ++ [q1.ao]).length, R.size, 0⟩
  have c2 : CP (σ ++ [q1.ao] ++ [q2.ao]) f R L (q2 :: q1 :: places R) := c1.push rfl
  refine w_fnA rfl (w_seq (w_asg (w_tup (w_cons (w_meth ?_)))))
  walk_at "wp"
  refine ⟨isD_ref H.d, ?_⟩
  walk_at "wp"
  refine w_lstH ?_
  walk_at "wp"
  refine ⟨rfl, ?_⟩
  walk_at "wp"
  show WP (mGet [.ref f.d, .str one, .ref q1.r] (σ ++ [q1.ao])) _ _
  refine w_getM c1.d ?_
  rw [get_place]
  refine w_cons (w_meth ?_)
  walk_at "wp"
  refine ⟨isD_ref c1.d, ?_⟩
  walk_at "wp"
  refine w_lstH ?_
  walk_at "wp"
  refine ⟨rfl, ?_⟩
  walk_at "wp"
  show WP (mGet [.ref f.d, .str other, .ref q2.r] (σ ++ [q1.ao] ++ [q2.ao])) _ _
  refine w_getM c2.d ?_
  rw [get_place]
  walk_at "wp"
  refine ⟨rfl, ?_⟩
  refine w_gSwap rfl rfl ?_
  refine nx_next (w_seq (w_asg (w_tup ?_)))
  walk_at "wp"
  refine ⟨rfl, ?_⟩
  refine w_gTup rfl rfl ?_
  walk_at "wp"
  refine w_setD (l := hdict R.held) c2.d (szOk (by unfold hdict; simp; lia)) ?_
  rw [dput_hdict]
  have c3 := c2.setD (aput one ((alook other R.held).getD q2) R.held)
  walk_at "wp"
  have hl2 : (aput one ((alook other R.held).getD q2) R.held).length ≤ 4 := by
    have := len_sub ((aput one ((alook other R.held).getD q2) R.held).map (·.1)) names4 (nodup_aput I.nd) fun x hx => by
      obtain ⟨e, he, rfl⟩ := List.mem_map.mp hx; exact keys_sub I h1 e he
    simpa [names4] using this
  refine w_setD (l := hdict (aput one ((alook other R.held).getD q2) R.held)) c3.d (szOk (by unfold hdict; rw [List.length_map]; lia)) ?_
  rw [dput_hdict]
  have c4 := c3.setD (aput other ((alook one R.held).getD q1) (aput one ((alook other R.held).getD q2) R.held))
  walk_at "wp"
  have s1 := subp_swap (one := one) (other := other) (h := R.held) (w := R.wait) (q1 := q1) (q2 := q2) I.nd
  have u : Univ R (q2 :: q1 :: places R) := (I.univ.empty _).empty _
  have I' := I.of (h' := aput other ((alook one R.held).getD q1) (aput one ((alook other R.held).getD q2) R.held)) (w' := R.wait) u s1 (nodup_aput (nodup_aput I.nd)) (keys_aput (P := (· ∈ names4)) h2 (keys_sub I h1)) I.wt
  refine k _ _ (c4.sub s1) ⟨I', rfl, rfl, rfl, ?_, rfl⟩
  show amap (Tx R) (aput other ((alook one R.held).getD q1) (aput one ((alook other R.held).getD q2) R.held)) = _
  rw [← aput_map, ← aput_map, tx_place rfl, tx_place rfl]

/-! ### join -/
theorem lidx_m1 {a b : V} {l : List V} : lidx (l ++ [a, b]) (-1) = some b := by
  unfold lidx
  rw [if_neg (by decide), if_pos (by simp; lia)]
  have : ((-1 : Int) + ((l ++ [a, b]).length : Int)).toNat = l.length + 1 := by simp; lia
  rw [this, List.getElem?_append_right (by lia)]; simp
theorem lidx_m2 {a b : V} {l : List V} : lidx (l ++ [a, b]) (-2) = some a := by
  unfold lidx
  rw [if_neg (by decide), if_pos (by simp; lia)]
  have : ((-2 : Int) + ((l ++ [a, b]).length : Int)).toNat = l.length := by simp; lia
  rw [this, List.getElem?_append_right (by lia)]; simp
theorem w_setSlc2 {n : Nat} {l m : List V} {a b : V} {U : Unit → AH → Prop} (hn : σ[n]? = some (.list (l ++ [a, b]))) (hz : l.length + 2 + m.length ≤ 100000) (h : U () (σ.set n (.list (l ++ m)))) : WP (vSetSlc (.ref n) (.int (-2)) .none (.lst m) σ) U E := by
  unfold vSetSlc; dsimp only [partOf]
  rw [hn]; dsimp only
  rw [if_pos (szOk (by simp; lia))]
  show U () _
  have e : clipAt (l ++ [a, b]).length (-2) = l.length := by unfold clipAt; rw [if_pos (by decide)]; simp; lia
  have e2 : (l ++ [a, b]).take l.length = l := by simp
  have e3 : max l.length (l ++ [a, b]).length = (l ++ [a, b]).length := by simp
  show U () (σ.set n (.list ((l ++ [a, b]).take (clipAt (l ++ [a, b]).length (-2)) ++ m ++ (l ++ [a, b]).drop (max (clipAt (l ++ [a, b]).length (-2)) (l ++ [a, b]).length))))
  rw [e, e2, e3, List.drop_length, List.append_nil]
  exact h
theorem Sm.two {R R' : Rm} (s : Sm R R') {ws : List Pl} {a b : Pl} (hw : R.wait = ws ++ [a, b]) : ∃ ws' a' b', R'.wait = ws' ++ [a', b'] ∧ a'.r = a.r ∧ a'.l = a.l ∧ b'.r = b.r ∧ b'.l = b.l ∧ Tx R' a' = Tx R a ∧ Tx R' b' = Tx R b ∧ ws'.map (Tx R') = ws.map (Tx R) := by
  have h1 := s.wr
  have h2 := s.wx
  rw [hw] at h1 h2
  rw [List.map_append] at h1 h2
  refine hide fun X_ k_ => ?_
  obtain ⟨ws', t, e1, e2, e3⟩ := List.map_eq_append_iff.mp h1
  refine k_ ?_
  clear k_ X_
  have hl2 : t.length = 2 := by have := congrArg List.length e3; simpa using this
  match t, hl2, e3, e1 with
  | [a', b'], _, e3, e1 =>
    simp only [List.map_cons, List.map_nil, List.cons.injEq, Prod.mk.injEq, and_true] at e3
    rw [e1, List.map_append] at h2
    have hl : (ws'.map (Tx R')).length = (ws.map (Tx R)).length := by have := congrArg List.length e2; simpa using this
    obtain ⟨h3, h4⟩ := List.append_inj h2 hl
    simp only [List.map_cons, List.map_nil, List.cons.injEq, and_true] at h4
    exact ⟨ws', a', b', e1, e3.1.1, e3.1.2, e3.2.1, e3.2.2, h4.1, h4.2, h3⟩
theorem refs_two {ws : List Pl} {a b : Pl} : refs (ws ++ [a, b]) = refs ws ++ [.ref a.r, .ref b.r] := by unfold refs; simp
theorem c_join {ws : List Pl} {p1 p2 : Pl} (H : Rep σ f R L) (I : Inv R) (hw : R.wait = ws ++ [p1, p2])
    (kE : R.size < R.low + total R + (p1.l + p2.l) → ∀ σ' R', Rep σ' f R' L → Inv R' → Sm R R' → E (.str (codes "OS")) σ')
    (kQ : R.low + total R + (p1.l + p2.l) ≤ R.size → ∀ σ' R', Rep σ' f R' L → Out R R' (amap (Tx R) R.held) (ws.map (Tx R) ++ [Tx R p1 ++ Tx R p2]) → Q .none σ') : WP (f_join_waiting [.ref f.s] σ) Q E := by
  have hwl := I.wt
  have hmo := I.mo
  have hsz := I.sz
  have hp1 : p1 ∈ places R := List.mem_append_right _ (by rw [hw]; simp)
  have hp2 : p2 ∈ places R := List.mem_append_right _ (by rw [hw]; simp)
  have b1 := I.bd p1 hp1
  have b2 := I.bd p2 hp2
  have Hw := H.w
  rw [hw, refs_two] at Hw
  refine w_fnA rfl (w_seq (w_asg (w_tup ?_)))
  walk_at "wp"
  refine w_getN (-1) Hw (by decide) lidx_m1 ?_
  walk_at "wp"
  refine w_getN (-2) Hw (by decide) lidx_m2 ?_
  walk_at "wp"
  refine ⟨rfl, ?_⟩
  refine w_gSwap rfl rfl ?_
  refine nx_next (w_seq (w_sif ?_))
  walk_at "wp"
  refine w_getA (H.pl hp1) (by decide) rfl ?_
  walk_at "wp"
  refine w_getA (H.pl hp2) (by decide) rfl ?_
  walk_at "wp"
  refine w_dec (fun q => absurd q (by lia)) (fun _ => ?_)
  walk_at "wp"
  refine w_getA (H.pl hp1) (by decide) rfl ?_
  walk_at "wp"
  refine w_getA (H.pl hp2) (by decide) rfl ?_
  walk_at "wp"
  refine c_alloc (n := p1.l + p2.l) (by lia) H I (by lia) kE fun hr σ₁ R₁ H₁ G S₁ _ => ?_
  have I₁ := G.inv
  have hsz1 := I₁.sz
  have gt := G.tot
  refine hide fun X_ k_ => ?_
  obtain ⟨ws', a, b, ew, ar, al, br, bl, ta, tb, tw⟩ := S₁.two hw
  refine k_ ?_
  clear k_ X_
  have ha : a ∈ places R₁ := List.mem_append_right _ (by rw [ew]; simp)
  have hb : b ∈ places R₁ := List.mem_append_right _ (by rw [ew]; simp)
  have ba := I₁.bd a ha
  have bb := I₁.bd b hb
  have la : (Tx R₁ a).length = a.l := tx_len (by rw [I₁.len]; exact ba)
  have lb : (Tx R₁ b).length = b.l := tx_len (by rw [I₁.len]; exact bb)
  walk_at "wp"
  rw [← ar]
  refine c_text_at H₁ (H₁.pl ha) (by rw [I₁.len]; exact ba) (by rw [I₁.len]; lia) I₁.asc fun σ₂ g₂ => ?_
  have H₂ := H₁.gr g₂
  walk_at "wp"
  rw [← br]
  refine c_text_at H₂ (H₂.pl hb) (by rw [I₁.len]; exact bb) (by rw [I₁.len]; lia) I₁.asc fun σ₃ g₃ => ?_
  have H₃ := H₂.gr g₃
  refine w_addS (by rw [la, lb]; lia) ?_
  walk_at "wp"
  have hasc : ∀ c ∈ Tx R₁ a ++ Tx R₁ b, c < 128 := fun c hc => by
    rcases List.mem_append.mp hc with hc | hc
    · exact tx_asc I₁.asc c hc
    · exact tx_asc I₁.asc c hc
  refine c_octets_of hasc (by rw [List.length_append, la, lb]; lia) fun σ₄ m g₄ hm hlt => ?_
  have H₄ := H₃.gr g₄
  have mo : V.ref m ≠ V.ref f.o := fun q => by
    injection q with q
    have := lt_of_get H₃.o
    lia
  walk_at "wp"
  refine c_write (a := R₁.free) H₄ rfl (listAt_ref hm) mo (by rw [I₁.len, List.length_append, la, lb]; lia) (by rw [I₁.len]; lia) fun H₅ => ?_
  have wlen : (Tx R₁ a ++ Tx R₁ b).length = p1.l + p2.l := by rw [List.length_append, la, lb, al, bl]
  obtain ⟨g1, g2, g3, g4⟩ := G.write wlen hasc (σ₄.set f.o (.list (nums (wr R₁.oct R₁.free (Tx R₁ a ++ Tx R₁ b))))).length
  walk_at "wp"
  refine w_lstV (w_cons (w_lstH ?_))
  walk_at "wp"
  have pa := H₅.pl (p := a) ha
  have pb := H₅.pl (p := b) hb
  refine w_getA pa (by decide) rfl ?_
  walk_at "wp"
  refine w_getA pb (by decide) rfl ?_
  walk_at "wp"
  refine ⟨rfl, ?_⟩
  have e5 : ((a.l : Int) + (b.l : Int)) = ((p1.l + p2.l : Nat) : Int) := by lia
  rw [e5]
  have c := CP.push (CP.of H₅) (q := Pl.mk _ R₁.free (p1.l + p2.l)) rfl
  walk_at "wp"
  refine ⟨rfl, ?_⟩
  have c' : CP (σ₄.set f.o (.list (nums (wr R₁.oct R₁.free (Tx R₁ a ++ Tx R₁ b)))) ++ [.list [.int (R₁.free : Nat), .int ((p1.l + p2.l : Nat) : Int)]]) f _ L _ := c
  walk_at "wp"
  have cw := c'.w
  have cw' : (σ₄.set f.o (.list (nums (wr R₁.oct R₁.free (Tx R₁ a ++ Tx R₁ b)))) ++ [.list [.int (R₁.free : Nat), .int ((p1.l + p2.l : Nat) : Int)]])[f.w]? = some (.list (refs ws' ++ [.ref a.r, .ref b.r])) := by
    rw [cw]; show some (AO.list (refs R₁.wait)) = _; rw [ew, refs_two]
  have hw1 : R₁.wait.length = R.wait.length := by have := congrArg List.length S₁.wr; simpa using this
  rw [ew] at hw1
  rw [hw] at hw1 hwl
  simp at hw1 hwl
  refine w_setSlc2 cw' (by rw [refs_len]; simp; lia) ?_
  rw [show refs ws' ++ [V.ref (σ₄.set f.o (.list (nums (wr R₁.oct R₁.free (Tx R₁ a ++ Tx R₁ b))))).length] = refs (ws' ++ [Pl.mk (σ₄.set f.o (.list (nums (wr R₁.oct R₁.free (Tx R₁ a ++ Tx R₁ b))))).length R₁.free (p1.l + p2.l)]) by unfold refs; simp]
  walk_at "wp"
  have s1 : SubP (R₁.held.map (·.2) ++ (ws' ++ [Pl.mk (σ₄.set f.o (.list (nums (wr R₁.oct R₁.free (Tx R₁ a ++ Tx R₁ b))))).length R₁.free (p1.l + p2.l)])) (Pl.mk (σ₄.set f.o (.list (nums (wr R₁.oct R₁.free (Tx R₁ a ++ Tx R₁ b))))).length R₁.free (p1.l + p2.l) :: (R₁.held.map (·.2) ++ R₁.wait)) := by
    rw [ew]
    refine subp_new.trans ⟨[a, b], ?_⟩
    rw [List.cons_append, List.append_assoc]
  have I' := g1.of (h' := R₁.held) (w' := ws' ++ [Pl.mk (σ₄.set f.o (.list (nums (wr R₁.oct R₁.free (Tx R₁ a ++ Tx R₁ b))))).length R₁.free (p1.l + p2.l)]) g3 s1 I₁.nd I₁.nm (by show _ ≤ R₁.most; rw [S₁.most]; simp; lia)
  refine kQ hr _ _ ((c'.setW _).sub s1) ⟨I', S₁.size, S₁.low, S₁.most, (g2.kt.trans S₁.kt), ?_⟩
  have gx := g2.wx
  have gx : (R₁.wait).map (Tx { R₁ with oct := wr R₁.oct R₁.free (Tx R₁ a ++ Tx R₁ b) }) = R₁.wait.map (Tx R₁) := gx
  rw [ew, List.map_append, List.map_append] at gx
  have gw : ws'.map (Tx { R₁ with oct := wr R₁.oct R₁.free (Tx R₁ a ++ Tx R₁ b) }) = ws'.map (Tx R₁) := (List.append_inj gx (by simp)).1
  show (ws' ++ [Pl.mk _ R₁.free (p1.l + p2.l)]).map (Tx { R₁ with oct := wr R₁.oct R₁.free (Tx R₁ a ++ Tx R₁ b) }) = _
  rw [List.map_append, gw, tw, List.map_cons, g4, ta, tb]; rfl
end
/-! ### writing into a text -/
theorem inj_map {α β : Type} {g : α → β} {l : List α} (h : (l.map g).Nodup) {p q : α} (hp : p ∈ l) (hq : q ∈ l) (e : g p = g q) : p = q := by
  induction l with
  | nil => cases hp
  | cons a r ih =>
    rw [List.map_cons, List.nodup_cons] at h
    rcases List.mem_cons.mp hp with e1 | hp1
    · rcases List.mem_cons.mp hq with e2 | hq1
      · rw [e1, e2]
      · exact absurd (by rw [← e1, e]; exact List.mem_map_of_mem hq1) h.1
    · rcases List.mem_cons.mp hq with e2 | hq1
      · exact absurd (by rw [← e2, ← e]; exact List.mem_map_of_mem hp1) h.1
      · exact ih h.2 hp1 hq1
theorem sub_shift {b a j : Nat} (h : b ≤ a) : b + j - a = j - (a - b) := by
  obtain ⟨d, rfl⟩ := Nat.exists_eq_add_of_le h
  rw [Nat.add_sub_cancel_left, Nat.add_sub_add_left]
theorem toNat_sub_min (a b : Nat) : ((a : Int) - ((min a b : Nat) : Int)).toNat = a - b := by
  rcases Nat.le_total a b with h | h
  · rw [Nat.min_eq_left h, Int.sub_self, Nat.sub_eq_zero_of_le h]; rfl
  · rw [Nat.min_eq_right h, Int.toNat_sub]
theorem out_write {R : Rm} {name : List Nat} {p : Pl} {a : Nat} {ws : List Nat} (I : Inv R) (nd : ((places R).map (·.r)).Nodup) (hl : alook name R.held = some p) (h1 : p.b ≤ a) (h2 : a + ws.length ≤ p.b + p.l) (ha : ∀ c ∈ ws, c < 128) :
    Out R { R with oct := wr R.oct a ws } (aput name (wr (Tx R p) (a - p.b) ws) (amap (Tx R) R.held)) (R.wait.map (Tx R)) := by
  have hm := alook_mem hl
  have hp : p ∈ places R := List.mem_append_left _ (List.mem_map_of_mem (f := (·.2)) hm)
  have bd := I.bd p hp
  have hw : a + ws.length ≤ R.oct.length := by rw [I.len]; lia
  have off : ∀ q ∈ places R, q.r ≠ p.r → Tx { R with oct := wr R.oct a ws } q = Tx R q := fun q hq hne => by
    rcases Nat.eq_zero_or_pos ws.length with z | z
    · have : ws = [] := List.eq_nil_of_length_eq_zero z
      subst this
      rw [wr_nil (by simpa using hw)]
    · refine tx_off hw rfl ?_
      rcases disj_mem I.dj hp hq (Ne.symm hne) with d | d | d | d
      · lia
      · exact .inl d
      · exact .inr (.inr (by lia))
      · exact .inr (.inl (by lia))
  have on : Tx { R with oct := wr R.oct a ws } p = wr (Tx R p) (a - p.b) ws := by
    have tl : (Tx R p).length = p.l := tx_len (by rw [I.len]; exact bd)
    apply List.ext_getElem?
    intro j
    have eL : (Tx { R with oct := wr R.oct a ws } p)[j]? = if j < p.l then (wr R.oct a ws)[p.b + j]? else none := tx_get j
    have eR := wr_get (oct := Tx R p) (a := a - p.b) (ws := ws) (by rw [tl]; lia) j
    rw [eL, eR, tx_get, wr_get hw]
    by_cases c1 : j < p.l
    · rw [if_pos c1, if_pos c1]
      by_cases c2 : a ≤ p.b + j ∧ p.b + j < a + ws.length
      · rw [if_pos c2, if_pos (by lia)]; congr 1; exact sub_shift h1
      · rw [if_neg c2, if_neg (by lia)]
    · rw [if_neg c1, if_neg c1, if_neg (by lia)]
  unfold places at nd
  rw [List.map_append, List.nodup_append] at nd
  obtain ⟨n1, n2, n3⟩ := nd
  rw [List.map_map] at n1 n3
  refine ⟨⟨by show (wr R.oct a ws).length = _; rw [wr_len hw]; exact I.len, I.sz, wr_asc I.asc ha, I.low, I.fr, I.bd, I.lo, I.dj, I.tot, I.nd, I.nm, I.wt, I.mo⟩, rfl, rfl, rfl, ?_, ?_⟩
  · show amap (Tx { R with oct := wr R.oct a ws }) R.held = _
    unfold aput
    rw [any_iff, alook_map, hl]
    simp only [Option.map_some, Option.isSome_some, if_true]
    unfold amap
    rw [List.map_map]
    refine List.map_congr_left fun e he => ?_
    simp only [Function.comp]
    by_cases q : e.1 = name
    · rw [if_pos q]
      have : e = (name, p) := inj_map I.nd he hm q
      rw [this, on]
    · rw [if_neg q, off e.2 (List.mem_append_left _ (List.mem_map_of_mem (f := (·.2)) he)) (fun z => q (by
        have : e = (name, p) := inj_map n1 he hm z
        rw [this]))]
  · exact List.map_congr_left fun q hq => off q (List.mem_append_right _ hq) fun z => n3 p.r (List.mem_map_of_mem (f := ((fun x : Pl => x.r) ∘ fun x : List Nat × Pl => x.2)) hm) q.r (List.mem_map_of_mem (f := (·.r)) hq) z.symm
theorem wr_within {old t : List Nat} {s : Nat} (hs : s ≤ old.length) : wr old s (t.take (old.length - s)) = (old.take s ++ t ++ old.drop (s + t.length)).take old.length := by
  apply List.ext_getElem?
  intro j
  have ls : (old.take s).length = s := List.length_take_of_le hs
  have eR : ((old.take s ++ t ++ old.drop (s + t.length)).take old.length)[j]? = if j < old.length then (old.take s ++ t ++ old.drop (s + t.length))[j]? else none := List.getElem?_take
  rw [wr_get (by rw [List.length_take]; exact Nat.le_trans (Nat.add_le_add_left (Nat.min_le_left _ _) _) (Nat.le_of_eq (Nat.add_sub_cancel' hs))), eR, List.getElem?_take, List.length_take]
  by_cases c0 : j < old.length
  · rw [if_pos c0]
    by_cases c1 : j < s
    · rw [if_neg (fun x => absurd x.1 (Nat.not_le.mpr c1)), List.append_assoc, List.getElem?_append_left (by rw [ls]; exact c1), List.getElem?_take, if_pos c1]
    · have c1' := Nat.le_of_not_lt c1
      by_cases c2 : j < s + t.length
      · rw [if_pos (by lia), if_pos (by lia), List.append_assoc, List.getElem?_append_right (by rw [ls]; exact c1'), ls, List.getElem?_append_left (Nat.sub_lt_left_of_lt_add c1' c2)]
      · have c2' := Nat.le_of_not_lt c2
        rw [if_neg (by lia), List.getElem?_append_right (by rw [List.length_append, ls]; exact c2'), List.getElem?_drop, List.length_append, ls]
        congr 1; exact (Nat.add_sub_cancel' c2').symm
  · rw [if_neg c0, if_neg (by lia), List.getElem?_eq_none (Nat.le_of_not_lt c0)]
theorem wr_whole {old ws : List Nat} (h : ws.length = old.length) : wr old 0 ws = ws := by
  unfold wr; rw [List.take_zero, List.nil_append, Nat.zero_add, h, List.drop_length, List.append_nil]
theorem nums_app (a b : List Nat) : nums a ++ nums b = nums (a ++ b) := by unfold nums; rw [List.map_append]
theorem nums_rep (n c : Nat) : List.replicate n (V.int (c : Nat)) = nums (List.replicate n c) := by unfold nums; rw [List.map_replicate]
section
variable {σ : AH} {f : Rf} {R : Rm} {L : Lw} {Q : V → AH → Prop} {E : V → AH → Prop}
/-- the place of a name, or an empty one -/
theorem w_place {name : List Nat} {ρ : Loc} (H : Rep σ f R L) (hs : look "space" ρ = some (.ref f.s)) (hn : look "name" ρ = some (.str name))
    (k : ∀ σ' q, CP σ' f R L (q :: places R) → q.l = 0 → q.b = R.size → Q (.ref ((alook name R.held).getD q).r) σ') :
    WP (eMeth isD (eAttr "held" (eName "space")) (lCons (eName "name") (lCons (eLstH (lCons (eAttr "size" (eName "space")) (lCons (eInt 0) lNil))) lNil)) mGet ρ σ) Q E := by
  let q1 : Pl := ⟨σ.length, R.size, 0⟩
  have c1 : CP (σ ++ [q1.ao]) f R L (q1 :: places R) := (CP.of H).push rfl
  refine w_meth ?_
  walk_at "wp"
  refine ⟨isD_ref H.d, ?_⟩
  walk_at "wp"
  refine w_lstH ?_
  walk_at "wp"
  refine ⟨rfl, ?_⟩
  walk_at "wp"
  show WP (mGet [.ref f.d, .str name, .ref q1.r] (σ ++ [q1.ao])) _ _
  refine w_getM c1.d ?_
  rw [get_place]
  exact k _ q1 c1 rfl rfl
theorem CP.drop {q : Pl} (c : CP σ f R L (q :: places R)) : Rep σ f R L := (c.sub ⟨[q], List.perm_append_singleton ..⟩).rep
theorem getD_mem {name : List Nat} {h : List (List Nat × Pl)} {w : List Pl} {q : Pl} : (alook name h).getD q ∈ q :: (h.map (·.2) ++ w) := by
  cases e : alook name h with
  | none => exact .head _
  | some p => exact .tail _ (List.mem_append_left _ (List.mem_map_of_mem (f := (·.2)) (alook_mem e)))
theorem old_len {name : List Nat} {q : Pl} (I : Inv R) (hq : q.l = 0) : ((alook name (amap (Tx R) R.held)).getD []).length = ((alook name R.held).getD q).l := by
  rw [alook_map]
  cases e : alook name R.held with
  | none => exact hq.symm
  | some p => exact tx_len (by rw [I.len]; exact I.bd p (List.mem_append_left _ (List.mem_map_of_mem (f := (·.2)) (alook_mem e))))
theorem c_within {name t : List Nat} {spot : Nat} (H : Rep σ f R L) (I : Inv R) (hn : t.length ≤ 255) (ha : ∀ c ∈ t, c < 128)
    (kF : ¬ (1 ≤ spot ∧ spot ≤ ((alook name (amap (Tx R) R.held)).getD []).length) → ∀ σ', Rep σ' f R L → E (.str (codes "FC")) σ')
    (kQ : 1 ≤ spot → spot ≤ ((alook name (amap (Tx R) R.held)).getD []).length → ∀ old, (alook name (amap (Tx R) R.held)).getD [] = old → ∀ σ' R', Rep σ' f R' L →
      Out R R' (aput name ((old.take (spot - 1) ++ t ++ old.drop (spot - 1 + t.length)).take old.length) (amap (Tx R) R.held)) (R.wait.map (Tx R)) → Q .none σ') : WP (f_write_within [.ref f.s, .str name, .int (spot : Nat), .str t] σ) Q E := by
  have hsz := I.sz
  refine w_fnA rfl (w_seq (w_asg (w_place H rfl rfl fun σ₁ q c hq hqb => ?_)))
  have H₁ := c.drop
  have hol := old_len (name := name) I hq
  generalize hp : (alook name R.held).getD q = p at hol
  have gp : σ₁[p.r]? = some p.ao := c.pl (by rw [← hp]; exact getD_mem)
  rw [hol] at kF kQ
  walk_at "wp"
  refine w_chain ?_
  walk_at "wp"
  refine w_dec (fun q1 => ?_) (fun q1 => ?_)
  · refine w_chain2 ?_
    walk_at "wp"
    refine w_getA gp (by decide) rfl ?_
    walk_at "wp"
    by_cases q2 : (spot : Int) ≤ (p.l : Int)
    · rw [decide_eq_true q2]
      refine w_no rfl ?_
      walk_at "wp"
      have hsome : alook name R.held = some p := by
        cases e : alook name R.held with
        | none => rw [e] at hp; have hp : q = p := hp; subst hp; lia
        | some p' => rw [e] at hp; have hp : p' = p := hp; rw [hp]
      have hpm : p ∈ places R := List.mem_append_left _ (List.mem_map_of_mem (f := (·.2)) (alook_mem hsome))
      have bd := I.bd p hpm
      refine w_getA gp (by decide) rfl ?_
      walk_at "wp"
      refine c_octets_of ha (by lia) fun σ₂ m g hm hlt => ?_
      have gp2 := gr_get g gp
      have H₂ := H₁.gr g
      walk_at "wp"
      refine w_getA gp2 (by decide) rfl ?_
      walk_at "wp"
      have e1 : ((p.l : Int) - (spot : Int) + 1) = ((p.l - (spot - 1) : Nat) : Int) := by lia
      rw [e1]
      refine w_slcR hm rfl rfl (by rw [ints_len]; lia) ?_
      rw [slc_to, show (nums t).take (p.l - (spot - 1)) = nums (t.take (p.l - (spot - 1))) by unfold nums; rw [List.map_take]]
      walk_at "wp"
      refine c_write (a := p.b + (spot - 1)) (ws := t.take (p.l - (spot - 1))) H₂ (by lia) rfl (fun q => nomatch q) (by rw [I.len, List.length_take]; lia) (by rw [I.len]; lia) fun H₃ => ?_
      walk_at "wp"
      have o := out_write (a := p.b + (spot - 1)) (ws := t.take (p.l - (spot - 1))) I H.nodup hsome (by lia) (by rw [List.length_take]; lia) (fun c hc => ha c (List.mem_of_mem_take hc))
      have eo : (alook name (amap (Tx R) R.held)).getD [] = Tx R p := by rw [alook_map, hsome]; rfl
      have tl : (Tx R p).length = p.l := tx_len (by rw [I.len]; exact bd)
      rw [show p.b + (spot - 1) - p.b = spot - 1 by lia] at o
      have e2 := wr_within (old := Tx R p) (t := t) (s := spot - 1) (by rw [tl]; lia)
      rw [tl] at e2
      rw [e2] at o
      exact kQ (by lia) (by lia) _ eo _ _ H₃ (by rw [tl]; exact o)
    · rw [decide_eq_false q2]
      refine w_yes rfl ?_
      walk_at "wp"
      exact ⟨_, _, rfl, kF (by lia) _ H₁⟩
  · walk_at "wp"
    refine w_yes rfl ?_
    walk_at "wp"
    exact ⟨_, _, rfl, kF (by lia) _ H₁⟩

theorem out_side {name : List Nat} {p q : Pl} {ws : List Nat} (I : Inv R) (nd : ((places R).map (·.r)).Nodup) (hp : (alook name R.held).getD q = p) (hq : q.l = 0) (hqb : q.b = R.size) (hl : ws.length = p.l) (ha : ∀ c ∈ ws, c < 128) :
    Out R { R with oct := wr R.oct p.b ws } (if (alook name (amap (Tx R) R.held)).isSome then aput name ws (amap (Tx R) R.held) else amap (Tx R) R.held) (R.wait.map (Tx R)) := by
  rw [alook_map]
  cases e : alook name R.held with
  | none =>
    rw [e] at hp
    have hp : q = p := hp
    subst hp
    have : ws = [] := List.eq_nil_of_length_eq_zero (by rw [hl, hq])
    subst this
    rw [hqb, wr_nil (by rw [I.len]; exact Nat.le_refl _)]
    exact (Sm.refl R).out I
  | some p' =>
    rw [e] at hp
    have hp : p' = p := hp
    subst hp
    have hpm : p' ∈ places R := List.mem_append_left _ (List.mem_map_of_mem (f := (·.2)) (alook_mem e))
    have o := out_write (a := p'.b) (ws := ws) I nd e (Nat.le_refl _) (by rw [hl]; exact Nat.le_refl _) ha
    rw [Nat.sub_self, wr_whole (by rw [hl, tx_len (by rw [I.len]; exact I.bd p' hpm)])] at o
    exact o
theorem side_ok {name : List Nat} {p q : Pl} (I : Inv R) (hp : (alook name R.held).getD q = p) (hq : q.l = 0) (hqb : q.b = R.size) : p.b + p.l ≤ R.size := by
  cases e : alook name R.held with
  | none =>
    rw [e] at hp
    have hp : q = p := hp
    subst hp; lia
  | some p' =>
    rw [e] at hp
    have hp : p' = p := hp
    subst hp
    exact I.bd p' (List.mem_append_left _ (List.mem_map_of_mem (f := (·.2)) (alook_mem e)))
theorem c_left {name t : List Nat} (H : Rep σ f R L) (I : Inv R) (hn : t.length ≤ 255) (ha : ∀ c ∈ t, c < 128)
    (k : ∀ n, ((alook name (amap (Tx R) R.held)).getD []).length = n → ∀ σ' R', Rep σ' f R' L → Out R R' (if (alook name (amap (Tx R) R.held)).isSome then aput name ((t ++ List.replicate n 32).take n) (amap (Tx R) R.held) else amap (Tx R) R.held) (R.wait.map (Tx R)) → Q .none σ') :
    WP (f_set_left [.ref f.s, .str name, .str t] σ) Q E := by
  have hsz := I.sz
  refine w_fnA rfl (w_seq (w_asg (w_place H rfl rfl fun σ₁ q c hq hqb => ?_)))
  have H₁ := c.drop
  have hol := old_len (name := name) I hq
  generalize hp : (alook name R.held).getD q = p at hol
  have gp : σ₁[p.r]? = some p.ao := c.pl (by rw [← hp]; exact getD_mem)
  have bd := side_ok I hp hq hqb
  walk_at "wp"
  refine w_getA gp (by decide) rfl ?_
  walk_at "wp"
  refine c_octets_of ha (by lia) fun σ₂ m g hm hlt => ?_
  have gp2 := gr_get g gp
  have H₂ := H₁.gr g
  refine w_repV ?_
  walk_at "wp"
  refine w_getA gp2 (by decide) rfl ?_
  refine ⟨_, rfl, by lia, ?_⟩
  rw [Int.toNat_natCast]
  refine w_addRV hm (by rw [ints_len, List.length_replicate]; lia) ?_
  walk_at "wp"
  refine w_getA gp2 (by decide) rfl ?_
  refine w_slcV rfl rfl (by rw [List.length_append, ints_len, List.length_replicate]; lia) ?_
  rw [slc_to]
  have e1 : (nums t ++ List.replicate p.l (V.int 32)).take p.l = nums ((t ++ List.replicate p.l 32).take p.l) := by
    rw [show List.replicate p.l (V.int 32) = nums (List.replicate p.l 32) from nums_rep p.l 32, nums_app]; unfold nums; rw [List.map_take]
  rw [e1]
  walk_at "wp"
  have wl : ((t ++ List.replicate p.l 32).take p.l).length = p.l := by simp
  refine c_write (a := p.b) (ws := (t ++ List.replicate p.l 32).take p.l) H₂ rfl rfl (fun q => nomatch q) (by rw [I.len, wl]; lia) (by rw [I.len]; lia) fun H₃ => ?_
  walk_at "wp"
  exact k p.l hol _ _ H₃ (out_side I H.nodup hp hq hqb wl fun c hc => by
    rcases List.mem_append.mp (List.mem_of_mem_take hc) with h | h
    · exact ha c h
    · rw [(List.mem_replicate.mp h).2]; decide)
theorem c_right {name t : List Nat} (H : Rep σ f R L) (I : Inv R) (hn : t.length ≤ 255) (ha : ∀ c ∈ t, c < 128)
    (k : ∀ n, ((alook name (amap (Tx R) R.held)).getD []).length = n → ∀ σ' R', Rep σ' f R' L → Out R R' (if (alook name (amap (Tx R) R.held)).isSome then aput name (List.replicate (n - t.length) 32 ++ t.take n) (amap (Tx R) R.held) else amap (Tx R) R.held) (R.wait.map (Tx R)) → Q .none σ') :
    WP (f_set_right [.ref f.s, .str name, .str t] σ) Q E := by
  have hsz := I.sz
  refine w_fnA rfl (w_seq (w_asg (w_place H rfl rfl fun σ₁ q c hq hqb => ?_)))
  have H₁ := c.drop
  have hol := old_len (name := name) I hq
  generalize hp : (alook name R.held).getD q = p at hol
  have gp : σ₁[p.r]? = some p.ao := c.pl (by rw [← hp]; exact getD_mem)
  have bd := side_ok I hp hq hqb
  walk_at "wp"
  refine c_octets_of ha (by lia) fun σ₂ m g hm hlt => ?_
  have gp2 := gr_get g gp
  have H₂ := H₁.gr g
  walk_at "wp"
  refine w_getA gp2 (by decide) rfl ?_
  refine w_slcR hm rfl rfl (by rw [ints_len]; lia) ?_
  rw [slc_to, show (nums t).take p.l = nums (t.take p.l) by unfold nums; rw [List.map_take]]
  walk_at "wp"
  refine w_getA gp2 (by decide) rfl ?_
  refine w_cons (w_e2 (w_repV ?_))
  walk_at "wp"
  refine w_getA gp2 (by decide) rfl ?_
  walk_at "wp"
  refine w_lenV (by rw [ints_len, List.length_take]; lia) ?_
  rw [ints_len, List.length_take]
  walk_at "wp"
  refine ⟨by lia, ?_⟩
  rw [toNat_sub_min]
  walk_at "wp"
  refine w_addVV (by rw [ints_len, List.length_replicate, List.length_take, Nat.sub_add_min_cancel]; lia) ?_
  rw [show List.replicate (p.l - t.length) (V.int 32) = nums (List.replicate (p.l - t.length) 32) from nums_rep _ 32, nums_app]
  walk_at "wp"
  have wl : (List.replicate (p.l - t.length) 32 ++ t.take p.l).length = p.l := by rw [List.length_append, List.length_replicate, List.length_take, Nat.sub_add_min_cancel]
  refine c_write (a := p.b) (ws := List.replicate (p.l - t.length) 32 ++ t.take p.l) H₂ rfl rfl (fun q => nomatch q) (by rw [I.len, wl]; lia) (by rw [I.len]; lia) fun H₃ => ?_
  walk_at "wp"
  exact k p.l hol _ _ H₃ (out_side I H.nodup hp hq hqb wl fun c hc => by
    rcases List.mem_append.mp hc with h | h
    · rw [(List.mem_replicate.mp h).2]; decide
    · exact ha c (List.mem_of_mem_take h))
end
/-! ### the sort of distinct things -/
noncomputable def KW {α : Type} (lt : Nat → Nat → Bool) (n : Nat) (t : KasT α) (Q : α → Prop) : Prop := ∃ a, kRun lt n t = some a ∧ Q a
section
variable {α β : Type} {lt : Nat → Nat → Bool} {n : Nat}
theorem KW.ret {a : α} {Q : α → Prop} (h : Q a) : KW lt n (.ret a) Q := ⟨a, rfl, h⟩
theorem KW.ask {i j : Nat} {k : Bool → KasT α} {Q : α → Prop} (hi : i < n) (hj : j < n) (h : KW lt n (k (lt i j)) Q) : KW lt n (.ask i j k) Q := by
  obtain ⟨a, e, q⟩ := h
  exact ⟨a, by show (if i < n ∧ j < n then kRun lt n (k (lt i j)) else none) = _; rw [if_pos ⟨hi, hj⟩]; exact e, q⟩
theorem kRun_bind {f : α → KasT β} : ∀ t : KasT α, kRun lt n (t.bind f) = (kRun lt n t).bind fun a => kRun lt n (f a)
  | .ret a => rfl
  | .ask i j k => by
    show (if i < n ∧ j < n then kRun lt n ((k (lt i j)).bind f) else none) = (if i < n ∧ j < n then kRun lt n (k (lt i j)) else none).bind _
    split
    · exact kRun_bind _
    · rfl
theorem KW.bind {t : KasT α} {f : α → KasT β} {Q : β → Prop} (h : KW lt n t fun a => KW lt n (f a) Q) : KW lt n (t.bind f) Q := by
  obtain ⟨a, e, b, e2, q⟩ := h
  exact ⟨b, by rw [kRun_bind, e]; exact e2, q⟩
theorem KW.mono {t : KasT α} {Q Q' : α → Prop} (h : KW lt n t Q) (q : ∀ a, Q a → Q' a) : KW lt n t Q' := let ⟨a, e, h⟩ := h; ⟨a, e, q a h⟩
end
structure Lin (lt : Nat → Nat → Bool) (n : Nat) : Prop where
  tot : ∀ i j, i < n → j < n → i ≠ j → lt i j = true ∨ lt j i = true
  tr : ∀ i j k, i < n → j < n → k < n → lt i j = true → lt j k = true → lt i k = true
  as : ∀ i j, i < n → j < n → lt i j = true → lt j i = false
structure PP (n : Nat) (p : Array Nat) : Prop where
  size : p.size = n
  perm : p.toList.Perm (List.range n)
noncomputable def SortedTo (lt : Nat → Nat → Bool) (p : Array Nat) (m : Nat) : Prop := ∀ i j, i < j → j < m → lt (p.getD i 0) (p.getD j 0) = true
section
variable {lt : Nat → Nat → Bool} {n : Nat} {p : Array Nat}
theorem getD_some {i : Nat} (h : i < p.size) : p[i]? = some (p.getD i 0) := by rw [Array.getD_eq_getD_getElem?, Array.getElem?_eq_getElem h]; rfl
theorem PP.bd (P : PP n p) {i : Nat} (h : i < n) : p.getD i 0 < n := by
  have h1 := getD_some (p := p) (i := i) (by rw [P.size]; exact h)
  have : p.getD i 0 ∈ p.toList := by rw [Array.mem_toList_iff]; exact Array.mem_of_getElem? h1
  exact List.mem_range.mp (P.perm.mem_iff.mp this)
theorem PP.inj (P : PP n p) {i j : Nat} (hi : i < n) (hj : j < n) (h : p.getD i 0 = p.getD j 0) : i = j := by
  have nd : p.toList.Nodup := P.perm.nodup_iff.mpr List.nodup_range
  have h1 := getD_some (p := p) (i := i) (by rw [P.size]; exact hi)
  have h2 := getD_some (p := p) (i := j) (by rw [P.size]; exact hj)
  rw [← Array.getElem?_toList] at h1 h2
  exact (List.getElem?_inj (by rw [Array.length_toList, P.size]; exact hi) nd).mp (by rw [h1, h2, h])
theorem PP.of_perm (P : PP n p) {p' : Array Nat} (h : p'.Perm p) : PP n p' := ⟨by rw [h.size_eq, P.size], (Array.perm_iff_toList_perm.mp h).trans P.perm⟩
theorem kw_asc (L : Lin lt n) (P : PP n p) : ∀ f m, 1 ≤ m → m + f ≤ n → SortedTo lt p m → KW lt n (kas_asc p f m) fun r => m ≤ r ∧ r ≤ m + f ∧ SortedTo lt p r ∧ (r < m + f → lt (p.getD r 0) (p.getD (r - 1) 0) = true)
  | 0, m, _, _, h => .ret ⟨Nat.le_refl _, Nat.le_refl _, h, fun q => absurd q (Nat.lt_irrefl _)⟩
  | f + 1, m, h1, h2, h => by
    refine .ask (P.bd (by lia)) (P.bd (by lia)) ?_
    cases c : lt (p.getD m 0) (p.getD (m - 1) 0) with
    | true => rw [if_pos rfl]; exact .ret ⟨Nat.le_refl _, by lia, h, fun _ => c⟩
    | false =>
      rw [if_neg (by decide)]
      have hm : lt (p.getD (m - 1) 0) (p.getD m 0) = true := by
        rcases L.tot _ _ (P.bd (i := m) (by lia)) (P.bd (i := m - 1) (by lia)) (fun q => by have := P.inj (by lia) (by lia) q; lia) with q | q
        · rw [c] at q; cases q
        · exact q
      refine (kw_asc L P f (m + 1) (by lia) (by lia) fun i j hij hj => ?_).mono fun r ⟨a, b, c, d⟩ => ⟨by lia, by lia, c, fun q => d (by lia)⟩
      by_cases e : j = m
      · subst e
        by_cases e2 : i = j - 1
        · rw [e2]; exact hm
        · exact L.tr _ _ _ (P.bd (by lia)) (P.bd (by lia)) (P.bd (by lia)) (h i (j - 1) (by lia) (by lia)) hm
      · exact h i j hij (by lia)
noncomputable def DescTo (lt : Nat → Nat → Bool) (p : Array Nat) (m : Nat) : Prop := ∀ i j, i < j → j < m → lt (p.getD j 0) (p.getD i 0) = true
theorem kw_desc (L : Lin lt n) (P : PP n p) : ∀ f m, 1 ≤ m → m + f ≤ n → DescTo lt p m → KW lt n (kas_desc f p m 0) fun r => r.1 = p ∧ r.2.2 = 0 ∧ m ≤ r.2.1 ∧ r.2.1 ≤ m + f ∧ DescTo lt p r.2.1
  | 0, m, _, _, h => .ret ⟨rfl, rfl, Nat.le_refl _, Nat.le_refl _, h⟩
  | f + 1, m, h1, h2, h => by
    refine .ask (P.bd (by lia)) (P.bd (by lia)) ?_
    cases c : lt (p.getD m 0) (p.getD (m - 1) 0) with
    | true =>
      rw [if_pos rfl, if_neg (by lia)]
      refine (kw_desc L P f (m + 1) (by lia) (by lia) fun i j hij hj => ?_).mono fun r ⟨a1, a2, a, b, c⟩ => ⟨a1, a2, by lia, by lia, c⟩
      by_cases e : j = m
      · subst e
        by_cases e2 : i = j - 1
        · rw [e2]; exact c
        · exact L.tr _ _ _ (P.bd (by lia)) (P.bd (by lia)) (P.bd (by lia)) c (h i (j - 1) (by lia) (by lia))
      · exact h i j hij (by lia)
    | false =>
      rw [if_neg (by decide)]
      have hm : lt (p.getD (m - 1) 0) (p.getD m 0) = true := by
        rcases L.tot _ _ (P.bd (i := m) (by lia)) (P.bd (i := m - 1) (by lia)) (fun q => by have := P.inj (by lia) (by lia) q; lia) with q | q
        · rw [c] at q; cases q
        · exact q
      refine .ask (P.bd (by lia)) (P.bd (by lia)) ?_
      rw [hm, if_pos rfl]
      exact .ret ⟨rfl, rfl, Nat.le_refl _, (by show m ≤ _; lia), h⟩
theorem rev_get {m : Nat} (hm : m ≤ p.size) {k : Nat} (hk : k < m) : (kas_rev p 0 m).getD k 0 = p.getD (m - 1 - k) 0 := by
  have h := getElem?_mirror_all (xs := p) (i := 0) (j := m) hm k
  unfold kas_rev
  rw [Array.getD_eq_getD_getElem?, Array.getD_eq_getD_getElem?, h, if_pos ⟨Nat.zero_le _, hk⟩, Nat.zero_add]
theorem kw_tail3 (L : Lin lt n) (P : PP n p) {m : Nat} (h1 : 1 ≤ m) (h2 : m ≤ n) (h : DescTo lt p m) : KW lt n (kas_tail3 m n p) fun r => PP n r.2 ∧ 1 ≤ r.1 ∧ r.1 ≤ n ∧ SortedTo lt r.2 r.1 := by
  have P' : PP n (kas_rev p 0 m) := P.of_perm (mirror_perm ..)
  refine .bind ((kw_asc L P' (n - m) m h1 (by lia) fun i j hij hj => ?_).mono fun r ⟨a, b, c, _⟩ => .ret ⟨P', by show 1 ≤ r; lia, by show r ≤ n; lia, c⟩)
  rw [rev_get (by rw [P.size]; exact h2) (Nat.lt_trans hij hj), rev_get (by rw [P.size]; exact h2) hj]
  exact h _ _ (Nat.sub_lt_sub_left (Nat.lt_of_lt_of_le hij (Nat.le_sub_one_of_lt hj)) hij) (by lia)
theorem kw_count (L : Lin lt n) (P : PP n p) (hn : 2 ≤ n) : KW lt n (kas_count n p) fun r => PP n r.2 ∧ 1 ≤ r.1 ∧ r.1 ≤ n ∧ SortedTo lt r.2 r.1 := by
  refine .bind ((kw_asc L P (n - 1) 1 (Nat.le_refl _) (by lia) fun i j hij hj => by lia).mono fun m ⟨a, b, c, d⟩ => ?_)
  by_cases e : m = n
  · rw [if_pos (by simpa using e)]
    exact .ret ⟨P, a, by show m ≤ n; lia, c⟩
  · rw [if_neg (by simpa using e)]
    by_cases e1 : m > 1
    · rw [if_pos e1]
      refine .ask (P.bd (by lia)) (P.bd (by lia)) ?_
      rw [c 0 (m - 1) (by lia) (by lia), if_pos rfl]
      exact .ret ⟨P, a, by show m ≤ n; lia, c⟩
    · rw [if_neg e1]
      obtain rfl : m = 1 := by lia
      have c1 : lt (p.getD 1 0) (p.getD 0 0) = true := d (by lia)
      refine .bind ((kw_desc L P (n - (1 + 1)) (1 + 1) (by lia) (by lia) fun i j hij hj => ?_).mono fun r ⟨a1, a2, a3, a4, a5⟩ => ?_)
      · obtain rfl : j = 1 := by lia
        obtain rfl : i = 0 := by lia
        exact c1
      · rw [a2, if_neg (by lia), a1]
        exact kw_tail3 L P (by lia) (by lia) a5
theorem kw_place (L : Lin lt n) (P : PP n p) {k : Nat} (hk : k < n) (h : SortedTo lt p k) : ∀ f l r, r - l ≤ f → l ≤ r → r ≤ k → (∀ i, i < l → lt (p.getD i 0) (p.getD k 0) = true) → (∀ i, r ≤ i → i < k → lt (p.getD k 0) (p.getD i 0) = true) →
    KW lt n (kas_place p k f l r) fun m => m ≤ k ∧ (∀ i, i < m → lt (p.getD i 0) (p.getD k 0) = true) ∧ ∀ i, m ≤ i → i < k → lt (p.getD k 0) (p.getD i 0) = true
  | 0, l, r, h1, h2, h3, h4, h5 => by
    obtain rfl : l = r := by lia
    exact .ret ⟨h3, h4, h5⟩
  | f + 1, l, r, h1, h2, h3, h4, h5 => by
    unfold kas_place
    by_cases e : l ≥ r
    · rw [if_pos e]
      obtain rfl : l = r := by lia
      exact .ret ⟨h3, h4, h5⟩
    · rw [if_neg e]
      have q1 : l ≤ (l + r) / 2 := by lia
      have q2 : (l + r) / 2 < r := by lia
      generalize (l + r) / 2 = mid at q1 q2 ⊢
      refine .ask (P.bd hk) (P.bd (by lia)) ?_
      cases c : lt (p.getD k 0) (p.getD mid 0) with
      | true =>
        rw [if_pos rfl]
        refine kw_place L P hk h f l mid (by lia) (by lia) (by lia) h4 fun i hi hik => ?_
        by_cases z : i = mid
        · rw [z]; exact c
        · exact L.tr _ _ _ (P.bd hk) (P.bd (by lia)) (P.bd (by lia)) c (h _ i (by lia) hik)
      | false =>
        rw [if_neg (by decide)]
        have hm : lt (p.getD mid 0) (p.getD k 0) = true := by
          rcases L.tot _ _ (P.bd (i := k) hk) (P.bd (i := mid) (by lia)) (fun q => by have := P.inj hk (by lia) q; lia) with q | q
          · rw [c] at q; cases q
          · exact q
        refine kw_place L P hk h f (mid + 1) r (by lia) (by lia) h3 (fun i hi => ?_) h5
        by_cases z : i = mid
        · rw [z]; exact hm
        · exact L.tr _ _ _ (P.bd (by lia)) (P.bd (by lia)) (P.bd hk) (h i _ (by lia) (by lia)) hm
theorem bub_get {k d : Nat} (hk : k < p.size) (hd : d ≤ k) (i : Nat) : (bubble p k d).getD i 0 = if i = k - d then p.getD k 0 else if k - d < i ∧ i ≤ k then p.getD (i - 1) 0 else p.getD i 0 := by
  rw [Array.getD_eq_getD_getElem?, getElem?_bubble hk d hd i]
  by_cases h1 : i = k - d
  · rw [if_pos h1, if_pos h1, Array.getD_eq_getD_getElem?]
  · rw [if_neg h1, if_neg h1]
    by_cases h2 : k - d < i ∧ i ≤ k
    · rw [if_pos h2, if_pos h2, Array.getD_eq_getD_getElem?]
    · rw [if_neg h2, if_neg h2, Array.getD_eq_getD_getElem?]
end
theorem kw_bin {lt : Nat → Nat → Bool} {n : Nat} (L : Lin lt n) : ∀ (f : Nat) (p : Array Nat) (k : Nat), PP n p → k + f = n → SortedTo lt p k → KW lt n (kas_bin f p k) fun q => PP n q ∧ SortedTo lt q n
  | 0, p, k, P, hf, h => by
    obtain rfl : k = n := by lia
    exact .ret ⟨P, h⟩
  | f + 1, p, k, P, hf, h => by
    have hk : k < n := by lia
    refine .bind ((kw_place L P hk h k 0 k (by lia) (by lia) (Nat.le_refl _) (fun i hi => absurd hi (Nat.not_lt_zero _)) fun i hi hik => absurd hik (by lia)).mono fun m ⟨h1, h2, h3⟩ => ?_)
    refine kw_bin L f _ (k + 1) (P.of_perm (bubble_perm ..)) (by lia) fun i j hij hj => ?_
    have hs : k < p.size := by rw [P.size]; exact hk
    rw [bub_get hs (by lia), bub_get hs (by lia), show k - (k - m) = m by lia]
    by_cases a1 : i = m
    · rw [if_pos a1, if_neg (by lia), if_pos (by lia)]
      exact h3 _ (by lia) (by lia)
    · rw [if_neg a1]
      by_cases a2 : j = m
      · rw [if_pos a2, if_neg (by lia)]
        exact h2 _ (by lia)
      · rw [if_neg a2]
        by_cases a3 : m < i ∧ i ≤ k
        · rw [if_pos a3, if_pos (by lia)]
          exact h _ _ (by lia) (by lia)
        · rw [if_neg a3]
          by_cases a4 : m < j ∧ j ≤ k
          · rw [if_pos a4]
            exact h _ _ (by lia) (by lia)
          · rw [if_neg a4]
            exact h _ _ hij (by lia)
theorem kw_sort {lt : Nat → Nat → Bool} {n : Nat} (L : Lin lt n) (hn : 2 ≤ n) : KW lt n (kas_sort n) fun q => PP n q ∧ SortedTo lt q n := by
  have P : PP n (List.toArray (List.range n)) := ⟨by simp, by simp⟩
  refine .bind ((kw_count L P hn).mono fun r ⟨a1, a2, a3, a4⟩ => ?_)
  by_cases e : r.1 < n
  · rw [if_pos e]
    rw [show max r.1 1 = r.1 by lia]
    exact kw_bin L _ _ _ a1 (by lia) a4
  · rw [if_neg e]
    have : r.1 = n := by lia
    rw [this] at a4
    exact .ret ⟨a1, a4⟩
/-- pairs by their heads -/
theorem lin_pairs {ps : List (Int × Int)} (h : (ps.map (·.1)).Nodup) : Lin (fun i j => ltP (ps.getD i (0, 0)) (ps.getD j (0, 0))) ps.length := by
  have key : ∀ i j, i < ps.length → j < ps.length → (ps.getD i (0, 0)).1 = (ps.getD j (0, 0)).1 → i = j := fun i j hi hj e => by
    have h1 : ps[i]? = some (ps.getD i (0, 0)) := by rw [List.getD_eq_getElem?_getD, List.getElem?_eq_getElem hi]; rfl
    have h2 : ps[j]? = some (ps.getD j (0, 0)) := by rw [List.getD_eq_getElem?_getD, List.getElem?_eq_getElem hj]; rfl
    refine (List.getElem?_inj (by simpa using hi) h).mp ?_
    rw [List.getElem?_map, List.getElem?_map, h1, h2]
    exact congrArg some e
  have u : ∀ a b : Int × Int, a.1 ≠ b.1 → ltP a b = decide (a.1 < b.1) := fun a b q => by unfold ltP; rw [if_neg q]
  refine ⟨fun i j hi hj hne => ?_, fun i j k hi hj hk a b => ?_, fun i j hi hj a => ?_⟩
  · have : (ps.getD i (0, 0)).1 ≠ (ps.getD j (0, 0)).1 := fun q => hne (key i j hi hj q)
    rw [u _ _ this, u _ _ (Ne.symm this), decide_eq_true_eq, decide_eq_true_eq]
    lia
  · unfold ltP at a b ⊢
    split at a <;> split at b <;> split <;> simp only [decide_eq_true_eq] at a b ⊢ <;> lia
  · unfold ltP at a ⊢
    split at a <;> split <;> simp only [decide_eq_true_eq, decide_eq_false_iff_not] at a ⊢ <;> lia
/-! ### is_sound -/
noncomputable def tupV (p : Pl) : V := .tup [.int (p.b : Nat), .int ((p.b : Int) + (p.l : Int))]
noncomputable def pairOf (p : Pl) : Int × Int := ((p.b : Nat), (p.b : Int) + (p.l : Int))
theorem prs_tup : ∀ l : List Pl, prsOf (l.map tupV) = some (l.map pairOf)
  | [] => rfl
  | p :: r => by
    show (match prOf (tupV p), prsOf (r.map tupV) with | some a, some l => some (a :: l) | _, _ => none) = _
    rw [prs_tup r]; rfl
noncomputable def Chain (l : List Pl) : Prop := ∀ i p q, l[i]? = some p → l[i + 1]? = some q → p.b + p.l ≤ q.b
theorem w_sorted {σ : AH} {v : V} {l : List V} {ps : List (Int × Int)} {l' : List V} {Q : V → AH → Prop} {E : V → AH → Prop} (hv : listAt σ v = some l) (hp : prsOf l = some ps) (hz : l.length < 64) (hs : vSorted l ps = some l') (h : Q (.lst l') σ) : WP (bSorted [v] σ) Q E := by
  unfold bSorted; dsimp only; rw [hv]; dsimp only; rw [hp]; dsimp only; rw [if_pos hz, hs]; exact h
theorem sorted_places {U : List Pl} (hr : (U.map (·.r)).Nodup) (hd : U.Pairwise Disj) (hl : ∀ p ∈ U, 0 < p.l) : ∃ qs, vSorted (U.map tupV) (U.map pairOf) = some (qs.map tupV) ∧ qs.length = U.length ∧ (∀ q ∈ qs, q ∈ U) ∧ Chain qs := by
  unfold vSorted
  rw [List.length_map]
  by_cases hn : U.length < 2
  · rw [if_pos hn]
    refine ⟨U, rfl, rfl, fun q h => h, fun i p q h1 h2 => ?_⟩
    have h3 := (List.getElem?_eq_some_iff.mp h2).1
    lia
  · rw [if_neg hn]
    have hb : ((U.map pairOf).map (·.1)).Nodup := by
      rw [List.map_map]
      refine List.pairwise_map.mpr ?_
      refine (hd.and (List.pairwise_map.mp hr)).imp_of_mem fun {a b} ha hb ⟨d, _⟩ => ?_
      have h1 := hl a ha
      have h2 := hl b hb
      show ((a.b : Nat) : Int) ≠ ((b.b : Nat) : Int)
      rcases d with d | d | d | d <;> lia
    have L := lin_pairs hb
    rw [List.length_map] at L
    obtain ⟨p, e, P, S⟩ := kw_sort L (by lia)
    rw [e]
    have hU : ∀ i, i < U.length → U[i]? = some (U.getD i ⟨0, 0, 0⟩) := fun i hi => by rw [List.getD_eq_getElem?_getD, List.getElem?_eq_getElem hi]; rfl
    have hmem : ∀ i, i < U.length → U.getD i ⟨0, 0, 0⟩ ∈ U := fun i hi => List.mem_of_getElem? (hU i hi)
    have hlt : ∀ i ∈ p.toList, i < U.length := fun i hi => List.mem_range.mp (P.perm.mem_iff.mp hi)
    refine ⟨p.toList.map fun i => U.getD i ⟨0, 0, 0⟩, ?_, ?_, fun q hq => ?_, fun i a b h1 h2 => ?_⟩
    · show some _ = some _
      rw [List.map_map]
      congr 1
      refine List.map_congr_left fun i hi => ?_
      simp only [Function.comp]
      rw [List.getD_eq_getElem?_getD, List.getElem?_map, hU i (hlt i hi)]; rfl
    · rw [List.length_map, Array.length_toList, P.size]
    · obtain ⟨i, hi, rfl⟩ := List.mem_map.mp hq
      exact hmem i (hlt i hi)
    · rw [List.getElem?_map] at h1 h2
      have l2 : i + 1 < U.length := by
        have := (Option.map_eq_some_iff.mp h2).choose_spec.1
        have := (List.getElem?_eq_some_iff.mp this).1
        rw [Array.length_toList, P.size] at this
        exact this
      have g1 : p.toList[i]? = some (p.getD i 0) := by rw [Array.getElem?_toList]; exact getD_some (by rw [P.size]; lia)
      have g2 : p.toList[i + 1]? = some (p.getD (i + 1) 0) := by rw [Array.getElem?_toList]; exact getD_some (by rw [P.size]; lia)
      rw [g1] at h1
      rw [g2] at h2
      have e1 : U.getD (p.getD i 0) ⟨0, 0, 0⟩ = a := Option.some.inj h1
      have e2 : U.getD (p.getD (i + 1) 0) ⟨0, 0, 0⟩ = b := Option.some.inj h2
      have lt := S i (i + 1) (by lia) l2
      have b1 := P.bd (i := i) (by lia)
      have b2 := P.bd l2
      have v1 : (U.map pairOf).getD (p.getD i 0) (0, 0) = pairOf a := by rw [List.getD_eq_getElem?_getD, List.getElem?_map, hU _ b1, ← e1]; rfl
      have v2 : (U.map pairOf).getD (p.getD (i + 1) 0) (0, 0) = pairOf b := by rw [List.getD_eq_getElem?_getD, List.getElem?_map, hU _ b2, ← e2]; rfl
      dsimp only at lt
      rw [v1, v2] at lt
      have m1 : a ∈ U := e1 ▸ hmem _ b1
      have m2 : b ∈ U := e2 ▸ hmem _ b2
      have hle : a.b ≤ b.b := by
        unfold ltP pairOf at lt
        split at lt
        · rename_i z; simp only at z; lia
        · simp only [decide_eq_true_eq] at lt; lia
      have hne : a.r ≠ b.r := fun z => by
        have := nodup_inj hr m1 m2 z
        rw [← e1, ← e2] at this
        have h3 := hU _ b1
        have h4 := hU _ b2
        rw [← this] at h4
        have nd : U.Nodup := by
          refine List.Pairwise.imp (fun {x y} h e => h (congrArg (·.r) e)) (List.pairwise_map.mp hr)
        have := (List.getElem?_inj b1 nd).mp (h3.trans h4.symm)
        have := P.inj (by lia) l2 this
        lia
      have h5 := hl a m1
      have h6 := hl b m2
      rcases disj_mem hd m1 m2 hne with d | d | d | d <;> lia
section
variable {σ : AH} {f : Rf} {R : Rm} {L : Lw} {Q : V → AH → Prop} {E : V → AH → Prop}
theorem c_sound (H : Rep σ f R L) (I : Inv R) (k : ∀ τ, σ <+: τ → Q (.bool true) τ) : WP (f_is_sound [.ref f.s] σ) Q E := by
  have pl8 := I.places_len
  have nel : (ne (places R)).length ≤ (places R).length := List.length_filter_le ..
  refine w_fnA rfl (w_seq (w_asg (w_fn (w_cons (w_eComp (ne (places R)) (fun p => .ref p.r) (fun _ => true) tupV (w_iSrc ?_))))))
  walk_at "wp"
  refine c_places_of H I.nd (by lia) fun σ₁ m g₁ hm hlt => ?_
  have H₁ := H.gr g₁
  refine .inl ⟨_, listAt_ref hm, fun τ g => listAt_gr g (listAt_ref hm), by lia, fun p hp ρ' τ h1 h2 g => ?_, fun σ₂ n g₂ hn hl2 => ?_⟩
  · have gp := (H₁.gr g).pl (List.mem_filter.mp hp).1
    walk_at "wp"
    refine ⟨gr_refl _, rfl, fun _ => w_tup ?_⟩
    walk_at "wp"
    refine w_getA gp (by decide) rfl ?_
    walk_at "wp"
    refine w_getA gp (by decide) rfl ?_
    walk_at "wp"
    refine w_getA gp (by decide) rfl ?_
    walk_at "wp"
    exact ⟨rfl, gr_refl _, rfl⟩
  rw [filter_tt] at hn
  have H₂ := H₁.gr g₂
  have sub : (ne (places R)).Sublist (places R) := List.filter_sublist
  obtain ⟨qs, hs, hql, hqm, hch⟩ := sorted_places (U := ne (places R)) ((sub.map _).nodup H.nodup) (I.dj.sublist sub) (fun p hp => by simpa using (List.mem_filter.mp hp).2)
  walk_at "wp"
  refine w_sorted (listAt_ref hn) (prs_tup _) (by rw [List.length_map]; lia) hs ?_
  walk_at "wp"
  refine w_for (fun rem ρ τ => τ = σ₂ ∧ ∃ i, rem = ((qs.map tupV).zipIdx.map fun (p : V × Nat) => V.tup [.int (p.2 : Int), p.1]).drop i ∧ look "space" ρ = some (.ref f.s) ∧ look "found" ρ = some (.lst (qs.map tupV))) (w_iEnum ?_)
  walk_at "wp"
  refine ⟨⟨rfl, 0, rfl, rfl, rfl⟩, fun u r ρ τ ⟨e, i, h1, h2, h3⟩ => ⟨rfl, ?_⟩, fun ρ τ ⟨e, i, h1, h2, h3⟩ => ⟨rfl, ?_⟩⟩
  · subst e
    have hi : i < qs.length := by
      rcases Nat.lt_or_ge i qs.length with q | q
      · exact q
      · rw [List.drop_eq_nil_of_le (by simp; lia)] at h1; cases h1
    have hq : qs[i]? = some qs[i] := List.getElem?_eq_getElem hi
    have hu : u = .tup [.int (i : Int), tupV qs[i]] ∧ r = ((qs.map tupV).zipIdx.map fun (p : V × Nat) => V.tup [.int (p.2 : Int), p.1]).drop (i + 1) := by
      rw [List.drop_eq_getElem_cons (by simp; lia)] at h1
      injection h1 with e1 e2
      exact ⟨by rw [e1]; simp, e2⟩
    obtain ⟨rfl, rfl⟩ := hu
    generalize hqi : qs[i] = q at hq
    have hqU := hqm q (List.mem_of_getElem? hq)
    obtain ⟨m1, m2⟩ := List.mem_filter.mp hqU
    have m2 : 0 < q.l := by simpa using m2
    have lo := I.lo q m1 m2
    have bd := I.bd q m1
    refine w_gTup rfl rfl ?_
    walk_at "wp"
    refine w_gTup rfl rfl ?_
    walk_at "wp"
    refine w_dec (fun z => absurd z (by lia)) (fun _ => ?_)
    walk_at "wp"
    refine w_dec (fun z => absurd z (by lia)) (fun _ => ?_)
    walk_at "wp"
    have go : look "space" (put "end" (V.int ((q.b : Int) + (q.l : Int))) (put "begin" (V.int (q.b : Nat)) (put "at" (V.int (i : Int)) ρ))) = some (.ref f.s) := by walk_at "lk"
    have gf : look "found" (put "end" (V.int ((q.b : Int) + (q.l : Int))) (put "begin" (V.int (q.b : Nat)) (put "at" (V.int (i : Int)) ρ))) = some (.lst (qs.map tupV)) := by walk_at "lk"
    refine w_dec (fun z => ?_) (fun z => ?_)
    · walk_at "wp"
      have hp : qs[i - 1]? = some qs[i - 1] := List.getElem?_eq_getElem (by lia)
      have ch := hch (i - 1) qs[i - 1] q hp (by rw [show i - 1 + 1 = i by lia]; exact hq)
      rw [show ((i : Int) - 1) = ((i - 1 : Nat) : Int) by lia]
      refine w_getV (by lia) (by rw [lidx_nat, List.getElem?_map, hp]; rfl) ?_
      walk_at "wp"
      refine w_getT (i := 1) (by decide) rfl ?_
      walk_at "wp"
      refine w_dec (fun z => absurd z (by lia)) (fun _ => ?_)
      walk_at "wp"
      refine w_no rfl ?_
      walk_at "wp"
      refine w_no rfl ?_
      walk_at "wp"
      exact ⟨rfl, i + 1, rfl, go, gf⟩
    · walk_at "wp"
      refine w_no rfl ?_
      walk_at "wp"
      refine w_no rfl ?_
      walk_at "wp"
      exact ⟨rfl, i + 1, rfl, go, gf⟩
  · subst e
    walk_at "wp"
    have lw := I.low
    rw [decide_eq_true (show (R.low : Int) ≤ (R.free : Int) by lia)]
    exact k _ (g₁.trans g₂)
end
/-! ### the law's helpers -/
structure Good (R : Rm) (L : Lw) : Prop where
  inv : Inv R
  kt : L.kept = amap (Tx R) R.held
  wx : L.pile = R.wait.map (Tx R)
  nz : L.ns.length ≤ 60
structure Next (R R' : Rm) (L' : Lw) : Prop where
  good : Good R' L'
  size : R'.size = R.size
  low : R'.low = R.low
theorem Out.next {R R' : Rm} {K P} {L : Lw} (o : Out R R' K P) (hz : L.ns.length ≤ 60) {L' : Lw} (hk : L'.kept = K) (hp : L'.pile = P) (hn : L'.ns = L.ns) : Next R R' L' :=
  ⟨⟨o.inv, by rw [hk, o.kt], by rw [hp, o.wx], by rw [hn]; exact hz⟩, o.size, o.low⟩
noncomputable def tkv (ns : List Nat) (chk turn m : Nat) : Nat := if turn < ns.length then ns.getD turn 0 % m else (chk + 3 * turn + turn / 4) % m
section
variable {σ : AH} {f : Rf} {R : Rm} {L : Lw} {Q : V → AH → Prop} {E : V → AH → Prop}
theorem c_take0 {bx nb m chk turn : Nat} {ns : List Nat} (hb : σ[bx]? = some (.list [.ref nb, .int (chk : Nat), .int (turn : Nat)])) (hn : σ[nb]? = some (.list (nums ns))) (hne : bx ≠ nb) (hm : 0 < m) (hz : ns.length ≤ 1000)
    (k : ∀ t, t < m → Q (.int (t : Nat)) (σ.set bx (.list [.ref nb, .int (chk : Nat), .int ((turn + 1 : Nat) : Int)]))) : WP (f__law_take [.ref bx, .int (m : Nat)] σ) Q E := by
  refine w_fnA rfl ?_
  walk_at "wp"
  refine w_getN 2 hb (by decide) rfl ?_
  walk_at "wp"
  rw [show ((turn : Int) + 1) = ((turn + 1 : Nat) : Int) by lia]
  refine w_setL (i := 2) hb (show 2 < 3 by decide) rfl ?_
  have hb2 : (σ.set bx (.list [.ref nb, .int (chk : Nat), .int ((turn + 1 : Nat) : Int)]))[bx]? = some (.list [.ref nb, .int (chk : Nat), .int ((turn + 1 : Nat) : Int)]) := List.getElem?_set_self (lt_of_get hb)
  have hn2 : (σ.set bx (.list [.ref nb, .int (chk : Nat), .int ((turn + 1 : Nat) : Int)]))[nb]? = some (.list (nums ns)) := by rw [List.getElem?_set_ne hne]; exact hn
  show WP _ _ _
  walk_at "wp"
  refine w_getN 0 hb2 (by decide) rfl ?_
  walk_at "wp"
  refine w_lenR hn2 (by rw [ints_len]; lia) ?_
  rw [ints_len]
  walk_at "wp"
  refine w_dec (fun q => ?_) (fun q => ?_)
  · have hlt : turn < ns.length := by lia
    walk_at "wp"
    refine w_getN 0 hb2 (by decide) rfl ?_
    walk_at "wp"
    refine w_getL hn2 (by lia) (by rw [ints_get, List.getElem?_eq_getElem hlt]; rfl) ?_
    walk_at "wp"
    refine w_modI (by lia) ?_
    rw [← Int.ofNat_fmod]
    exact k _ (Nat.mod_lt _ hm)
  · walk_at "wp"
    refine w_getN 1 hb2 (by decide) rfl ?_
    walk_at "wp"
    refine w_mulI (by decide) ?_
    walk_at "wp"
    refine w_divI (by decide) ?_
    walk_at "wp"
    refine w_modI (by lia) ?_
    rw [show ((chk : Int) + 3 * (turn : Int) + (turn : Int).fdiv 4) = ((chk + 3 * turn + turn / 4 : Nat) : Int) by
      have : (turn : Int).fdiv 4 = ((turn / 4 : Nat) : Int) := (Int.ofNat_fdiv turn 4).symm
      rw [this]; push_cast; rfl, ← Int.ofNat_fmod]
    exact k _ (Nat.mod_lt _ hm)
theorem Rep.bn (H : Rep σ f R L) : f.bx ≠ f.nb := by
  have h1 := H.1
  unfold cells at h1
  simp only [List.map_cons, List.nodup_cons, List.mem_cons] at h1
  exact fun q => h1.2.2.2.2.2.2.1 (.inl q)
theorem c_take {m : Nat} (H : Rep σ f R L) (hm : 0 < m) (hz : L.ns.length ≤ 60) (k : ∀ t τ, t < m → Rep τ f R { L with turn := L.turn + 1 } → Q (.int (t : Nat)) τ) : WP (f__law_take [.ref f.bx, .int (m : Nat)] σ) Q E :=
  c_take0 H.bx H.nb H.bn hm (by lia) fun t ht => k t _ ht (H.setB _)
theorem c_text (H : Rep σ f R L) (hz : L.ns.length ≤ 60) (k : ∀ t τ x, 1 ≤ t.length → t.length ≤ 9 → (∀ c ∈ t, c < 128) → Rep τ f R { L with turn := x } → Q (.str t) τ) : WP (f__law_text [.ref f.bx] σ) Q E := by
  refine w_fnA rfl ?_
  walk_at "wp"
  refine c_take (m := 8) H (by decide) hz fun t1 τ1 h1 H1 => ?_
  walk_at "wp"
  refine w_slcS rfl rfl (by decide) ?_
  walk_at "wp"
  refine c_take (m := 2) H1 (by decide) hz fun t2 τ2 h2 H2 => ?_
  refine w_slcS rfl rfl (by decide) ?_
  rw [slc_from, slc_to]
  have e1 : codes "abcdefgh" = [97, 98, 99, 100, 101, 102, 103, 104] := by decide
  have e2 : codes "xyz" = [120, 121, 122] := by decide
  rw [e1, e2]
  refine w_addS (by simp; lia) ?_
  refine k _ _ _ (by simp; lia) (by simp; lia) (fun c hc => ?_) H2
  rcases List.mem_append.mp hc with hc | hc
  · have := List.mem_of_mem_drop hc
    simp only [List.mem_cons, List.mem_nil_iff, or_false] at this
    lia
  · have := List.mem_of_mem_take hc
    simp only [List.mem_cons, List.mem_nil_iff, or_false] at this
    lia

theorem intsOf_nat : ∀ l : List Nat, intsOf (l.map fun n => V.int (n : Nat)) = some (l.map fun (n : Nat) => (n : Int))
  | [] => rfl
  | a :: r => by show (intsOf (r.map fun n => V.int (n : Nat))).map _ = _; rw [intsOf_nat r]; rfl
theorem sum_cast : ∀ l : List Nat, (l.map fun (n : Nat) => (n : Int)).sum = ((l.sum : Nat) : Int)
  | [] => rfl
  | a :: r => by rw [List.map_cons, List.sum_cons, sum_cast r, List.sum_cons]; lia
noncomputable def lenV : List Nat × V → V := fun kv => match kv.2 with
  | .str t => .int (t.length : Nat)
  | _ => .none
theorem Good.keys (G : Good R L) : (L.kept.map (·.1)).Nodup := by rw [G.kt, keys_amap]; exact G.inv.nd
theorem Good.kept_len (G : Good R L) : L.kept.length ≤ 4 := by rw [G.kt]; unfold amap; rw [List.length_map]; exact G.inv.held_len
theorem Good.pile_len (G : Good R L) : L.pile.length = R.wait.length := by rw [G.wx, List.length_map]
theorem Good.text_len (G : Good R L) {e : List Nat × List Nat} (he : e ∈ L.kept) : e.2.length ≤ 35 := by
  rw [G.kt] at he
  obtain ⟨e', h1, rfl⟩ := List.mem_map.mp he
  have bd := G.inv.bd e'.2 (List.mem_append_left _ (List.mem_map_of_mem (f := (·.2)) h1))
  have := G.inv.sz
  show (Tx R e'.2).length ≤ 35
  rw [tx_len (by rw [G.inv.len]; exact bd)]; lia
theorem Good.pile_text (G : Good R L) {t : List Nat} (ht : t ∈ L.pile) : t.length ≤ 35 := by
  rw [G.wx] at ht
  obtain ⟨p, h1, rfl⟩ := List.mem_map.mp ht
  have bd := G.inv.bd p (List.mem_append_right _ h1)
  have := G.inv.sz
  rw [tx_len (by rw [G.inv.len]; exact bd)]; lia
theorem Good.held (G : Good R L) : (L.kept.map fun e => e.2.length).sum + (L.pile.map (·.length)).sum = total R := by
  rw [G.kt, G.wx]
  unfold total places amap
  rw [List.map_map, List.map_map, List.map_append, List.sum_append, List.map_map]
  have bd := G.inv.bd
  congr 1
  · congr 1
    refine List.map_congr_left fun e he => ?_
    exact tx_len (by rw [G.inv.len]; exact bd e.2 (List.mem_append_left _ (List.mem_map_of_mem (f := (·.2)) he)))
  · congr 1
    refine List.map_congr_left fun p hp => ?_
    exact tx_len (by rw [G.inv.len]; exact bd p (List.mem_append_right _ hp))
theorem c_held (H : Rep σ f R L) (G : Good R L) (k : ∀ τ, σ <+: τ → Q (.int (total R : Nat)) τ) : WP (f__law_held [.ref f.k, .ref f.p] σ) Q E := by
  have kl := G.kept_len
  have pl := G.pile_len
  have wt := G.inv.wt
  have mo := G.inv.mo
  refine w_fnA rfl (w_seq (w_ret (w_e2 (w_fn (w_cons (w_eCompD lenV ?_))))))
  walk_at "wp"
  refine ⟨kdict L.kept, dictAt_ref H.k, by unfold kdict; rw [List.length_map]; lia, fun kv hkv ρ' τ h1 h2 g => ?_, ?_⟩
  · have H' := H.gr g
    have hs : look "kept" ρ' = some (.ref f.k) := h2 "kept" (by decide)
    obtain ⟨e, he, rfl⟩ := List.mem_map.mp hkv
    have hl := G.text_len he
    have : WP (eFn bLen (lCons (eSubD (eName "kept") (eName "name")) lNil) ρ' τ) (fun v _ => v = lenV (e.1, .str e.2)) NoE := by
      walk_at "wp"
      refine w_getDq (v := .str e.2) H'.k ?_ ?_
      · rw [kdict_eq, dlook_map, alook_of_mem G.keys he]; rfl
      walk_at "wp"
      exact w_lenS (by lia) rfl
    obtain ⟨a, τ', e1, e2⟩ := w_out this
    exact ⟨τ', by rw [e1, e2]⟩
  · have e1 : (kdict L.kept).map lenV = (L.kept.map fun e => e.2.length).map fun n => V.int (n : Nat) := by unfold kdict; rw [List.map_map, List.map_map]; rfl
    rw [e1]
    have H' := H.gr (gr_push σ (.list ((L.kept.map fun e => e.2.length).map fun n => V.int (n : Nat))))
    walk_at "wp"
    refine w_sum (listAt_ref (get_push σ _)) (intsOf_nat _) ?_
    rw [sum_cast]
    walk_at "wp"
    refine w_eComp L.pile V.str (fun _ => true) (fun t => .int (t.length : Nat)) (w_iSrc ?_)
    walk_at "wp"
    refine .inl ⟨_, listAt_ref H'.p, fun τ g => listAt_gr g (listAt_ref H'.p), by lia, fun t ht ρ' τ h1 h2 g => ?_, fun τ n g hn hl => ?_⟩
    · have := G.pile_text ht
      refine w_tT ⟨gr_refl _, rfl, fun _ => ?_⟩
      walk_at "wp"
      exact w_lenS (by lia) ⟨gr_refl _, rfl⟩
    · rw [filter_tt] at hn
      walk_at "wp"
      have e2 : (L.pile.map fun t => V.int (t.length : Nat)) = (L.pile.map (·.length)).map fun n => V.int (n : Nat) := by rw [List.map_map]; rfl
      rw [e2] at hn
      refine w_sum (listAt_ref hn) (intsOf_nat _) ?_
      rw [sum_cast]
      walk_at "wp"
      have := G.held
      rw [show (((L.kept.map fun e => e.2.length).sum : Nat) : Int) + (((L.pile.map (·.length)).sum : Nat) : Int) = ((total R : Nat) : Int) by lia]
      exact k τ ((gr_push σ _).trans g)

theorem c_given {name t : List Nat} {i : Int} (H : Rep σ f R L) (G : Good R L) (hname : name ∈ names4) (hn : t.length ≤ 100) (ha : ∀ c ∈ t, c < 128) (hi : i = (R.size : Int) - (R.low : Int))
    (k : ∀ σ' R' L', Rep σ' f R' L' → Next R R' L' → Q (.bool true) σ') : WP (f__law_given [.ref f.s, .ref f.k, .ref f.p, .str name, .str t, .int i] σ) Q E := by
  have I := G.inv
  have tot := I.tot
  have low := I.low
  have fr := I.fr
  refine w_fnA rfl ?_
  walk_at "wp"
  refine c_held H G fun σ₁ g₁ => ?_
  have H₁ := H.gr g₁
  walk_at "wp"
  refine w_lenS (by lia) ?_
  walk_at "wp"
  refine w_tup ?_
  walk_at "wp"
  refine c_free_room H₁ ?_
  walk_at "wp"
  refine ⟨rfl, w_gSwap rfl rfl ?_⟩
  refine nx_next (w_seq (w_asg (w_law ?_)))
  walk_at "wp"
  refine c_assign H₁ I hname (by lia) ha (fun hr σ' R' H' I' S' => ?_) (fun hr σ' R' H' O hc => ?_)
  · walk_at "wp"
    refine w_yes (decide_eq_true (by lia)) ?_
    walk_at "wp"
    refine w_no (by simp) ?_
    walk_at "wp"
    refine w_lenS (by lia) ?_
    walk_at "wp"
    refine w_dec (fun q => absurd q (by lia)) (fun _ => ?_)
    walk_at "wp"
    refine w_no rfl ?_
    walk_at "wp"
    refine w_no rfl ?_
    walk_at "wp"
    refine w_no (by rw [decide_eq_true (by lia)]; rfl) ?_
    walk_at "wp"
    exact k _ R' L H' ⟨⟨I', by rw [G.kt, S'.kt], by rw [G.wx, S'.wx], G.nz⟩, S'.size, S'.low⟩
  · have fin : ∀ ρ, look "lack" ρ = some (.bool (decide (i < (total R : Int) + (t.length : Int)))) → look "kept" ρ = some (.ref f.k) → look "name" ρ = some (.str name) → look "text" ρ = some (.str t) →
        WP (sSeq (sIf (tNot (tV (eName "lack"))) (sSeq (sAsg (eName "text") (gSub (eName "kept") (eName "name"))) sSkip) sSkip) (sSeq (sRet (eBool true)) sSkip) ρ σ') (fun r σ => Q (retV r.1) σ) E := fun ρ l1 l2 l3 l4 => by
      walk_at "wp"
      refine w_yes (by rw [decide_eq_false (by lia)]; rfl) ?_
      walk_at "wp"
      have kl := G.kept_len
      refine w_setD H'.k (szOk (by unfold kdict; rw [List.length_map]; lia)) ?_
      rw [show dput name (.str t) (kdict L.kept) = kdict (aput name t L.kept) from dput_map (g := V.str)]
      have H'' := H'.setK (aput name t L.kept)
      walk_at "wp"
      exact k _ R' _ H'' (O.next (L := L) G.nz (by rw [G.kt]) (by rw [G.wx]) rfl)
    walk_at "wp"
    refine w_no (decide_eq_false (by lia)) ?_
    walk_at "wp"
    refine w_no (by rfl) ?_
    walk_at "wp"
    refine w_lenS (by lia) ?_
    walk_at "wp"
    refine w_dec (fun q => ?_) (fun q => ?_)
    · walk_at "wp"
      have e := hc (by lia)
      refine w_no (by rw [decide_eq_true (by rw [e])]; rfl) ?_
      walk_at "wp"
      refine w_no rfl ?_
      walk_at "wp"
      refine w_no rfl ?_
      refine w_skip (nx_next (fin _ rfl rfl rfl rfl))
    · walk_at "wp"
      refine w_no rfl ?_
      walk_at "wp"
      refine w_no rfl ?_
      refine w_skip (nx_next (fin _ rfl rfl rfl rfl))
end
/-! ### pushed, joined, written -/
section
variable {σ : AH} {f : Rf} {R : Rm} {L : Lw} {Q : V → AH → Prop} {E : V → AH → Prop}
theorem Sm.next {R' : Rm} (S : Sm R R') (I' : Inv R') (G : Good R L) : Next R R' L := ⟨⟨I', by rw [G.kt, S.kt], by rw [G.wx, S.wx], G.nz⟩, S.size, S.low⟩
theorem c_pushed {t : List Nat} {i : Int} (H : Rep σ f R L) (G : Good R L) (hn : t.length ≤ 100) (ha : ∀ c ∈ t, c < 128) (hi : i = (R.size : Int) - (R.low : Int))
    (k : ∀ σ' R' L', Rep σ' f R' L' → Next R R' L' → Q (.bool true) σ') : WP (f__law_pushed [.ref f.s, .ref f.k, .ref f.p, .str t, .int i] σ) Q E := by
  have I := G.inv
  have tot := I.tot
  have low := I.low
  have fr := I.fr
  have wt := I.wt
  have mo := I.mo
  have pl := G.pile_len
  -- what follows, for each due
  have fin : ∀ (σ' : AH) (due : List Nat) (ρ : Loc), look "due" ρ = some (.str due) → look "pile" ρ = some (.ref f.p) → look "text" ρ = some (.str t) →
      (due ≠ [] → ∃ R', Rep σ' f R' L ∧ Next R R' L) → (due = [] → ∃ R', Rep σ' f R' L ∧ Out R R' (amap (Tx R) R.held) (R.wait.map (Tx R) ++ [t])) →
      WP (sSeq (sIf (tV (e2 vEq (eName "due") (eStr ""))) (sSeq (sDo (eMeth isL (eName "pile") (lCons (eName "text") lNil) mAppend)) sSkip) sSkip) (sSeq (sRet (eBool true)) sSkip) ρ σ') (fun r σ => Q (retV r.1) σ) E := fun σ' due ρ l1 l2 l3 h1 h2 => by
    walk_at "wp"
    refine w_dec (fun q => ?_) (fun q => ?_)
    · obtain ⟨R', H', O⟩ := h2 q
      refine w_seq (w_do (w_meth ?_))
      walk_at "wp"
      refine ⟨isL_ref H'.p, ?_⟩
      walk_at "wp"
      refine w_appL H'.p (by rw [strs_len]; lia) ?_
      rw [show txts L.pile ++ [V.str t] = txts (L.pile ++ [t]) by unfold txts; rw [List.map_append]; rfl]
      have H'' := H'.setP (L.pile ++ [t])
      walk_at "wp"
      exact k _ R' _ H'' (O.next (L := L) G.nz G.kt (by show L.pile ++ [t] = _; rw [G.wx]) rfl)
    · obtain ⟨R', H', N⟩ := h1 q
      walk_at "wp"
      exact k _ R' L H' N
  -- the call, for each due
  have call : ∀ (σ₁ : AH) (due : List Nat), Rep σ₁ f R L → (R.most ≤ R.wait.length ∧ due = codes "ST" ∨ R.wait.length < R.most ∧ (R.size < R.low + total R + t.length ∧ due = codes "OS" ∨ R.low + total R + t.length ≤ R.size ∧ due = [])) →
      WP (sSeq (sIf (tV (e2 vNe (eLaw ["room", "text"] (eFn f_push_waiting (lCons (eName "room") (lCons (eName "text") lNil)))) (eName "due"))) (sSeq (sRet (eBool false)) sSkip) sSkip)
        (sSeq (sIf (tV (e2 vEq (eName "due") (eStr ""))) (sSeq (sDo (eMeth isL (eName "pile") (lCons (eName "text") lNil) mAppend)) sSkip) sSkip) (sSeq (sRet (eBool true)) sSkip))
        (put "due" (.str due) (["room", "kept", "pile", "text", "size"].zip [.ref f.s, .ref f.k, .ref f.p, .str t, .int i])) σ₁) (fun r σ => Q (retV r.1) σ) E := fun σ₁ due H₁ hd => by
    refine w_seq (w_sif (w_tV (w_e2 (w_law ?_))))
    walk_at "wp"
    refine c_push H₁ I (by lia) ha (fun h => ?_) (fun h hr σ' R' H' I' S' => ?_) (fun h hr σ' R' H' O => ?_)
    · rcases hd with ⟨_, hd⟩ | ⟨z, _⟩
      · subst hd
        walk_at "wp"
        refine w_no (by simp) ?_
        exact w_skip (nx_next (fin _ (codes "ST") _ rfl rfl rfl (fun _ => ⟨R, H₁, (Sm.refl R).next I G⟩) (fun q => absurd q (by decide))))
      · lia
    · rcases hd with ⟨z, _⟩ | ⟨_, ⟨_, hd⟩ | ⟨z, _⟩⟩
      · lia
      · subst hd
        walk_at "wp"
        refine w_no (by simp) ?_
        exact w_skip (nx_next (fin _ (codes "OS") _ rfl rfl rfl (fun _ => ⟨R', H', S'.next I' G⟩) (fun q => absurd q (by decide))))
      · lia
    · rcases hd with ⟨z, _⟩ | ⟨_, ⟨z, _⟩ | ⟨_, hd⟩⟩
      · lia
      · lia
      · subst hd
        walk_at "wp"
        refine w_no (by simp) ?_
        exact w_skip (nx_next (fin _ [] _ rfl rfl rfl (fun q => absurd rfl q) (fun _ => ⟨R', H', O⟩)))
  refine w_fnA rfl (w_seq (w_asg ?_))
  walk_at "wp"
  refine w_lenR H.p (by rw [strs_len]; lia) ?_
  rw [strs_len, pl]
  walk_at "wp"
  refine w_dec (fun q => ?_) (fun q => ?_)
  · refine w_str (w_gName (nx_next ?_))
    exact call σ _ H (.inl ⟨by lia, rfl⟩)
  · walk_at "wp"
    refine c_held H G fun σ₁ g₁ => ?_
    have H₁ := H.gr g₁
    walk_at "wp"
    refine w_lenS (by lia) ?_
    walk_at "wp"
    refine w_dec (fun q2 => ?_) (fun q2 => ?_)
    · refine w_str (w_gName (nx_next ?_))
      exact call σ₁ _ H₁ (.inr ⟨by lia, .inl ⟨by lia, rfl⟩⟩)
    · refine w_str (w_gName (nx_next ?_))
      exact call σ₁ [] H₁ (.inr ⟨by lia, .inr ⟨by lia, rfl⟩⟩)

theorem one_last {α : Type} {l : List α} (h : 1 ≤ l.length) : ∃ ws a, l = ws ++ [a] := ⟨l.dropLast, l.getLast (fun e => by rw [e] at h; simp at h), (List.dropLast_concat_getLast _).symm⟩
theorem two_last {α : Type} {l : List α} (h : 2 ≤ l.length) : ∃ ws a b, l = ws ++ [a, b] := by
  obtain ⟨w, b, rfl⟩ := one_last (Nat.le_trans (by decide : 1 ≤ 2) h)
  rw [List.length_append] at h
  obtain ⟨w, a, rfl⟩ := one_last (l := w) (Nat.le_of_succ_le_succ h)
  exact ⟨w, a, b, by rw [List.append_assoc]; rfl⟩
theorem txts_two {ws : List (List Nat)} {a b : List Nat} : txts (ws ++ [a, b]) = txts ws ++ [.str a, .str b] := by unfold txts; simp
theorem c_joined {i : Int} (H : Rep σ f R L) (G : Good R L) (hi : i = (R.size : Int) - (R.low : Int))
    (k : ∀ σ' R' L', Rep σ' f R' L' → Next R R' L' → Q (.bool true) σ') : WP (f__law_joined [.ref f.s, .ref f.k, .ref f.p, .int i] σ) Q E := by
  have I := G.inv
  have tot := I.tot
  have low := I.low
  have fr := I.fr
  have wt := I.wt
  have mo := I.mo
  have pl := G.pile_len
  refine w_fnA rfl ?_
  walk_at "wp"
  refine w_lenR H.p (by rw [strs_len]; lia) ?_
  rw [strs_len, pl]
  walk_at "wp"
  refine w_dec (fun q => ?_) (fun q => ?_)
  · walk_at "wp"
    exact k _ R L H ((Sm.refl R).next I G)
  obtain ⟨ws, p1, p2, hw⟩ := two_last (l := R.wait) (by lia)
  have hp : L.pile = ws.map (Tx R) ++ [Tx R p1, Tx R p2] := by rw [G.wx, hw, List.map_append]; rfl
  have hp1 : p1 ∈ places R := List.mem_append_right _ (by rw [hw]; simp)
  have hp2 : p2 ∈ places R := List.mem_append_right _ (by rw [hw]; simp)
  have b1 := I.bd p1 hp1
  have b2 := I.bd p2 hp2
  have sz := I.sz
  have la : (Tx R p1).length = p1.l := tx_len (by rw [I.len]; exact b1)
  have lb : (Tx R p2).length = p2.l := tx_len (by rw [I.len]; exact b2)
  have Hp := H.p
  rw [hp, txts_two] at Hp
  have tl : (Tx R p1 ++ Tx R p2).length = p1.l + p2.l := by rw [List.length_append, la, lb]
  generalize ht : Tx R p1 ++ Tx R p2 = t at tl
  have fin : ∀ (σ' : AH) (due : List Nat) (ρ : Loc), look "due" ρ = some (.str due) → look "pile" ρ = some (.ref f.p) → look "text" ρ = some (.str t) →
      (due ≠ [] → ∃ R', Rep σ' f R' L ∧ Next R R' L) → (due = [] → ∃ R', Rep σ' f R' L ∧ Out R R' (amap (Tx R) R.held) (ws.map (Tx R) ++ [t])) →
      WP (sSeq (sIf (tV (e2 vEq (eName "due") (eStr ""))) (sSeq (sAsg (eLstV (lCons (eName "text") lNil)) (gSlc (eName "pile") (eNeg (eInt 2)) eNone)) sSkip) sSkip) (sSeq (sRet (eBool true)) sSkip) ρ σ') (fun r σ => Q (retV r.1) σ) E := fun σ' due ρ l1 l2 l3 h1 h2 => by
    walk_at "wp"
    refine w_dec (fun q => ?_) (fun q => ?_)
    · obtain ⟨R', H', O⟩ := h2 q
      refine w_seq (w_asg (w_lstV ?_))
      walk_at "wp"
      refine ⟨rfl, ?_⟩
      walk_at "wp"
      have Hp' := H'.p
      rw [hp, txts_two] at Hp'
      have wl : ws.length ≤ 4 := by have := congrArg List.length hw; simp at this; lia
      refine w_setSlc2 Hp' (by rw [strs_len, List.length_map]; simp; lia) ?_
      rw [show txts (ws.map (Tx R)) ++ [V.str t] = txts (ws.map (Tx R) ++ [t]) by unfold txts; rw [List.map_append]; rfl]
      have H'' := H'.setP (ws.map (Tx R) ++ [t])
      walk_at "wp"
      exact k _ R' _ H'' (O.next (L := L) G.nz G.kt rfl rfl)
    · obtain ⟨R', H', N⟩ := h1 q
      walk_at "wp"
      exact k _ R' L H' N
  have call : ∀ (σ₁ : AH) (due : List Nat) (ρ : Loc), Rep σ₁ f R L → look "room" ρ = some (.ref f.s) → look "due" ρ = some (.str due) → look "pile" ρ = some (.ref f.p) → look "text" ρ = some (.str t) → (R.size < R.low + total R + (p1.l + p2.l) ∧ due = codes "OS" ∨ R.low + total R + (p1.l + p2.l) ≤ R.size ∧ due = []) →
      WP (sSeq (sIf (tV (e2 vNe (eLaw ["room"] (eFn f_join_waiting (lCons (eName "room") lNil))) (eName "due"))) (sSeq (sRet (eBool false)) sSkip) sSkip)
        (sSeq (sIf (tV (e2 vEq (eName "due") (eStr ""))) (sSeq (sAsg (eLstV (lCons (eName "text") lNil)) (gSlc (eName "pile") (eNeg (eInt 2)) eNone)) sSkip) sSkip) (sSeq (sRet (eBool true)) sSkip))
        ρ σ₁) (fun r σ => Q (retV r.1) σ) E := fun σ₁ due ρ H₁ l0 l1 l2 l3 hd => by
    refine w_seq (w_sif (w_tV (w_e2 (w_law ?_))))
    have l0' : look "room" (cap ["room"] ρ) = some (.ref f.s) := (lk_cap (by decide)).trans l0
    walk_at "wp"
    refine c_join H₁ I hw (fun hr σ' R' H' I' S' => ?_) (fun hr σ' R' H' O => ?_)
    · rcases hd with ⟨_, hd⟩ | ⟨z, _⟩
      · subst hd
        walk_at "wp"
        refine w_no (by simp) ?_
        exact w_skip (nx_next (fin _ (codes "OS") _ l1 l2 l3 (fun _ => ⟨R', H', S'.next I' G⟩) (fun q => absurd q (by decide))))
      · lia
    · rcases hd with ⟨z, _⟩ | ⟨_, hd⟩
      · lia
      · subst hd
        walk_at "wp"
        refine w_no (by simp) ?_
        rw [ht] at O
        exact w_skip (nx_next (fin _ [] _ l1 l2 l3 (fun q => absurd rfl q) (fun _ => ⟨R', H', O⟩)))
  walk_at "wp"
  refine w_getN (-2) Hp (by decide) lidx_m2 ?_
  walk_at "wp"
  refine w_getN (-1) Hp (by decide) lidx_m1 ?_
  refine w_addS (by rw [la, lb]; lia) ?_
  rw [ht]
  refine w_gName (nx_next (w_seq (w_asg ?_)))
  walk_at "wp"
  refine c_held H G fun σ₁ g₁ => ?_
  have H₁ := H.gr g₁
  walk_at "wp"
  refine w_lenS (by lia) ?_
  walk_at "wp"
  refine w_dec (fun q2 => ?_) (fun q2 => ?_)
  · refine w_str (w_gName (nx_next ?_))
    exact call σ₁ _ _ H₁ rfl rfl rfl rfl (.inl ⟨by lia, rfl⟩)
  · refine w_str (w_gName (nx_next ?_))
    exact call σ₁ [] _ H₁ rfl rfl rfl rfl (.inr ⟨by lia, rfl⟩)
end
/-! ### written -/
theorem strsOf_asc : ∀ {l : List (List Nat)}, (∀ t ∈ l, ∀ c ∈ t, c < 128) → strsOf (txts l) = some l
  | [], _ => rfl
  | a :: r, h => by
    show (if a.all (· < 128) = true then (strsOf (txts r)).map (a :: ·) else none) = _
    rw [if_pos (by simpa using h a (.head _)), strsOf_asc fun t ht => h t (.tail _ ht)]; rfl
section
variable {σ : AH} {f : Rf} {R : Rm} {L : Lw} {Q : V → AH → Prop} {E : V → AH → Prop}
theorem w_neL {n : Nat} {b : V} {l m : List (List Nat)} (h1 : σ[n]? = some (.list (txts l))) (h2 : listAt σ b = some (txts m)) (hb : ∀ t, b ≠ .str t) (hi : ∀ i, b ≠ .int i) (ha : ∀ t ∈ l, ∀ c ∈ t, c < 128) (hm : ∀ t ∈ m, ∀ c ∈ t, c < 128)
    (h : Q (.bool (!decide (l = m))) σ) : WP (vNe (.ref n) b σ) Q E := by
  show WP (match (listAt σ (.ref n)).bind strsOf, (listAt σ b).bind strsOf with | some l, some m => .ok (.bool (true != decide (l = m))) σ | _, _ => .fail) Q E
  rw [listAt_ref h1, h2]
  show WP (match strsOf (txts l), strsOf (txts m) with | some l, some m => .ok (.bool (true != decide (l = m))) σ | _, _ => .fail) Q E
  rw [strsOf_asc ha, strsOf_asc hm]
  show Q (.bool (true != decide (l = m))) σ
  rw [show (true != decide (l = m)) = !decide (l = m) by cases decide (l = m) <;> rfl]; exact h
theorem w_eqL {n b : Nat} {l m : List (List Nat)} (h1 : σ[n]? = some (.list (txts l))) (h2 : σ[b]? = some (.list (txts m))) (ha : ∀ t ∈ l, ∀ c ∈ t, c < 128) (hm : ∀ t ∈ m, ∀ c ∈ t, c < 128)
    (h : Q (.bool (decide (l = m))) σ) : WP (vEq (.ref n) (.ref b) σ) Q E := by
  show WP (match (listAt σ (.ref n)).bind strsOf, (listAt σ (.ref b)).bind strsOf with | some l, some m => .ok (.bool (false != decide (l = m))) σ | _, _ => .fail) Q E
  rw [listAt_ref h1, listAt_ref h2]
  show WP (match strsOf (txts l), strsOf (txts m) with | some l, some m => .ok (.bool (false != decide (l = m))) σ | _, _ => .fail) Q E
  rw [strsOf_asc ha, strsOf_asc hm]
  show Q (.bool (false != decide (l = m))) σ
  rw [show (false != decide (l = m)) = decide (l = m) by cases decide (l = m) <;> rfl]; exact h
theorem get_text {k : List Nat} {h : List (List Nat × List Nat)} : (dlook k (kdict h)).getD (.str []) = .str ((alook k h).getD []) := by
  rw [kdict_eq, dlook_map]; cases alook k h <;> rfl
theorem dput_kdict {k t : List Nat} {h : List (List Nat × List Nat)} : dput k (.str t) (kdict h) = kdict (aput k t h) := dput_map (g := V.str)
theorem dout_kdict {k : List Nat} {h : List (List Nat × List Nat)} : dout k (kdict h) = kdict (aout k h) := dout_map (g := V.str)
theorem kdict_len {h : List (List Nat × List Nat)} : (kdict h).length = h.length := List.length_map ..
theorem Good.old_len (G : Good R L) {k : List Nat} : ((alook k L.kept).getD []).length ≤ 35 := by
  cases e : alook k L.kept with
  | none => exact Nat.zero_le _
  | some t => exact G.text_len (alook_mem e)
theorem c_written {name t : List Nat} {form spot : Nat} (H : Rep σ f R L) (G : Good R L) (hn : t.length ≤ 100) (ha : ∀ c ∈ t, c < 128)
    (k : ∀ σ' R' L', Rep σ' f R' L' → Next R R' L' → Q (.bool true) σ') : WP (f__law_written [.ref f.s, .ref f.k, .str name, .int (form : Nat), .int (spot : Nat), .str t] σ) Q E := by
  have I := G.inv
  have kl := G.kept_len
  have ol := G.old_len (k := name)
  refine w_fnA rfl (w_seq (w_asg (w_meth ?_)))
  walk_at "wp"
  refine ⟨isD_ref H.k, ?_⟩
  walk_at "wp"
  show WP (mGet [.ref f.k, .str name, .str []] σ) _ _
  refine w_getM H.k ?_
  rw [get_text]
  generalize ho : (alook name L.kept).getD [] = old at ol
  have ho' : (alook name (amap (Tx R) R.held)).getD [] = old := by rw [← G.kt]; exact ho
  walk_at "wp"
  refine w_dec (fun q => ?_) (fun q => ?_)
  · refine w_seq (w_asg (w_law ?_))
    walk_at "wp"
    refine c_within H I (by lia) ha (fun h σ' H' => ?_) (fun h1 h2 o eo σ' R' H' O => ?_)
    · rw [ho'] at h
      walk_at "wp"
      refine w_chain ?_
      walk_at "wp"
      refine w_dec (fun q1 => ?_) (fun q1 => ?_)
      · refine w_chain2 ?_
        walk_at "wp"
        refine w_lenS (by lia) ?_
        walk_at "wp"
        refine w_yes (by rw [decide_eq_false (by lia)]; rfl) ?_
        walk_at "wp"
        rw [decide_eq_true rfl]
        exact k _ R L H' ((Sm.refl R).next I G)
      · walk_at "wp"
        refine w_yes rfl ?_
        walk_at "wp"
        rw [decide_eq_true rfl]
        exact k _ R L H' ((Sm.refl R).next I G)
    · rw [ho'] at h2 eo
      subst eo
      walk_at "wp"
      refine w_chain ?_
      walk_at "wp"
      refine w_dec (fun q1 => ?_) (fun q1 => absurd q1 (by lia))
      refine w_chain2 ?_
      walk_at "wp"
      refine w_lenS (by lia) ?_
      walk_at "wp"
      refine w_no (by rw [decide_eq_true (by lia)]; rfl) ?_
      walk_at "wp"
      rw [show ((spot : Int) - 1) = ((spot - 1 : Nat) : Int) by lia]
      refine w_slcS rfl rfl (by lia) ?_
      rw [slc_to]
      walk_at "wp"
      refine w_addS (by rw [List.length_take]; exact Nat.le_trans (Nat.add_le_add_right (Nat.min_le_right _ _) _) (by lia)) ?_
      walk_at "wp"
      refine w_lenS (by lia) ?_
      walk_at "wp"
      rw [show ((spot : Int) - 1 + (t.length : Int)) = ((spot - 1 + t.length : Nat) : Int) by lia]
      refine w_slcS rfl rfl (by lia) ?_
      rw [slc_from]
      refine w_addS (by rw [List.length_append, List.length_take, List.length_drop]; lia) ?_
      walk_at "wp"
      refine w_lenS (by lia) ?_
      refine w_slcS rfl rfl (by rw [List.length_append, List.length_append, List.length_take, List.length_drop]; lia) ?_
      rw [slc_to]
      walk_at "wp"
      refine w_setD H'.k (szOk (by rw [kdict_len]; lia)) ?_
      rw [dput_kdict]
      have H'' := H'.setK (aput name ((old.take (spot - 1) ++ t ++ old.drop (spot - 1 + t.length)).take old.length) L.kept)
      walk_at "wp"
      rw [decide_eq_true (show ([] : List Nat) = codes "" from rfl)]
      exact k _ R' _ H'' (O.next (L := L) G.nz (by rw [G.kt]) (by rw [G.wx]) rfl)
  · -- the two sides
    have fin : ∀ (σ' : AH) (R' : Rm) (due : List Nat) (ρ : Loc), look "due" ρ = some (.str due) → look "name" ρ = some (.str name) → look "kept" ρ = some (.ref f.k) → Rep σ' f R' L →
        Out R R' (if (alook name (amap (Tx R) R.held)).isSome then aput name due (amap (Tx R) R.held) else amap (Tx R) R.held) (R.wait.map (Tx R)) →
        WP (sSeq (sIf (tV (e2 vIn (eName "name") (eName "kept"))) (sSeq (sAsg (eName "due") (gSub (eName "kept") (eName "name"))) sSkip) sSkip) (sSeq (sRet (eBool true)) sSkip) ρ σ') (fun r σ => Q (retV r.1) σ) E := fun σ' R' due ρ l1 l2 l3 H' O => by
      rw [← G.kt, ← G.wx] at O
      walk_at "wp"
      refine w_in H'.k ?_
      rw [kdict_eq, dlook_map, Option.isSome_map]
      walk_at "wp"
      cases e : (alook name L.kept).isSome with
      | true =>
        rw [e, if_pos rfl] at O
        refine w_yes rfl ?_
        walk_at "wp"
        refine w_setD H'.k (szOk (by rw [kdict_len]; lia)) ?_
        rw [dput_kdict]
        have H'' := H'.setK (aput name due L.kept)
        walk_at "wp"
        exact k _ R' _ H'' (O.next (L := L) G.nz rfl rfl rfl)
      | false =>
        rw [e, if_neg (by decide)] at O
        refine w_no rfl ?_
        walk_at "wp"
        exact k _ R' _ H' (O.next (L := L) G.nz rfl rfl rfl)
    refine w_skip (nx_next (w_seq (w_sif ?_)))
    walk_at "wp"
    refine w_dec (fun q1 => ?_) (fun q1 => ?_)
    · walk_at "wp"
      refine c_left H I (by lia) ha fun n hn' σ' R' H' O => ?_
      rw [ho'] at hn'
      subst hn'
      walk_at "wp"
      refine w_lenS (by lia) ?_
      rw [show codes " " = [32] by decide]
      refine w_mulS (by lia) ?_
      rw [Int.toNat_natCast]
      refine w_addS (by rw [List.length_replicate]; lia) ?_
      walk_at "wp"
      refine w_lenS (by lia) ?_
      refine w_slcS rfl rfl (by rw [List.length_append, List.length_replicate]; lia) ?_
      rw [slc_to]
      refine w_gName (nx_next (w_skip (nx_next ?_)))
      exact fin σ' R' _ _ rfl rfl rfl H' O
    · walk_at "wp"
      refine c_right H I (by lia) ha fun n hn' σ' R' H' O => ?_
      rw [ho'] at hn'
      subst hn'
      walk_at "wp"
      refine w_lenS (by lia) ?_
      walk_at "wp"
      refine w_lenS (by lia) ?_
      walk_at "wp"
      rw [show codes " " = [32] by decide]
      refine w_mulS (by lia) ?_
      rw [show ((old.length : Int) - (t.length : Int)).toNat = old.length - t.length by lia]
      walk_at "wp"
      refine w_lenS (by lia) ?_
      refine w_slcS rfl rfl (by lia) ?_
      rw [slc_to]
      refine w_addS (by rw [List.length_replicate, List.length_take]; lia) ?_
      refine w_gName (nx_next (w_skip (nx_next ?_)))
      exact fin σ' R' _ _ rfl rfl rfl H' O
end
/-! ### the deed -/
theorem abcd (t : Nat) (h : t < 4) : ∃ c, (codes "ABCD")[t]? = some c ∧ [c] ∈ names4 := by
  rw [show codes "ABCD" = [65, 66, 67, 68] by decide]
  unfold names4
  rcases t with _ | _ | _ | _ | t
  · exact ⟨65, rfl, by simp⟩
  · exact ⟨66, rfl, by simp⟩
  · exact ⟨67, rfl, by simp⟩
  · exact ⟨68, rfl, by simp⟩
  · exact absurd h (by lia)
section
variable {σ : AH} {f : Rf} {R : Rm} {L : Lw} {Q : V → AH → Prop} {E : V → AH → Prop}
theorem Good.turn (G : Good R L) (x : Nat) : Good R { L with turn := x } := ⟨G.inv, G.kt, G.wx, G.nz⟩
theorem Good.asc_pile (G : Good R L) : ∀ t ∈ L.pile, ∀ c ∈ t, c < 128 := fun t ht => by
  rw [G.wx] at ht
  obtain ⟨p, _, rfl⟩ := List.mem_map.mp ht
  exact tx_asc G.inv.asc
theorem getLast_txts {ws : List (List Nat)} {t : List Nat} : (txts (ws ++ [t])).getLast? = some (.str t) := by unfold txts; simp
theorem dropLast_txts {ws : List (List Nat)} {t : List Nat} : (txts (ws ++ [t])).dropLast = txts ws := by unfold txts; simp
theorem c_deed {i : Int} (H : Rep σ f R L) (G : Good R L) (hi : i = (R.size : Int) - (R.low : Int)) (k : ∀ σ' R' L', Rep σ' f R' L' → Next R R' L' → Q (.bool true) σ') :
    WP (f__law_deed [.ref f.s, .ref f.k, .ref f.p, .ref f.bx, .int i] σ) Q E := by
  refine w_fnA rfl (w_seq (w_asg (w_tup ?_)))
  walk_at "wp"
  refine c_take (m := 11) H (by decide) G.nz fun t τ ht H1 => ?_
  have G1 := G.turn (L.turn + 1)
  walk_at "wp"
  refine c_take (m := 4) H1 (by decide) G.nz fun u τ2 hu H2 => ?_
  have G2 := G1.turn (L.turn + 1 + 1)
  obtain ⟨c, hc, hname⟩ := abcd u hu
  refine w_getS (by lia) hc ?_
  walk_at "wp"
  refine ⟨rfl, w_gSwap rfl rfl (nx_next ?_)⟩
  generalize hL : ({ L with turn := L.turn + 1 + 1 } : Lw) = L2 at H2 G2
  have I := G2.inv
  have nz := G2.nz
  have kl := G2.kept_len
  have pl := G2.pile_len
  have wt := I.wt
  have mo := I.mo
  generalize hnm : [c] = name at hname
  -- the ends
  have done : ∀ (σ' : AH) (ρ : Loc) (R' : Rm) (L' : Lw), Rep σ' f R' L' → Next R R' L' → WP (sSeq (sRet (eBool true)) sSkip ρ σ') (fun r σ => Q (retV r.1) σ) E := fun σ' ρ R' L' H' N => by
    walk_at "wp"
    exact k _ _ _ H' N
  walk_at "wp"
  refine w_dec (fun q => ?_) (fun q0 => ?_)
  · walk_at "wp"
    refine c_text H2 nz fun txt τ3 x h1 h2 ha H3 => ?_
    walk_at "wp"
    exact c_given H3 (G2.turn x) hname (by lia) ha hi k
  walk_at "wp"
  refine w_dec (fun q => ?_) (fun q1 => ?_)
  · walk_at "wp"
    refine c_text H2 nz fun txt τ3 x h1 h2 ha H3 => ?_
    walk_at "wp"
    exact c_pushed H3 (G2.turn x) (by lia) ha hi k
  walk_at "wp"
  refine w_dec (fun q => ?_) (fun q2 => ?_)
  · walk_at "wp"
    exact c_joined H2 G2 hi k
  walk_at "wp"
  refine w_dec (fun q => ?_) (fun q3 => ?_)
  · walk_at "wp"
    refine c_collect H2 I fun v σ' R' H' I' S' e _ => ?_
    walk_at "wp"
    refine c_free_room H' ?_
    walk_at "wp"
    have N := S'.next I' G2
    refine c_held H' N.good fun τ4 g4 => ?_
    have st := S'.total
    have ss := S'.size
    have sl := S'.low
    walk_at "wp"
    rw [decide_eq_true (by lia)]
    exact k _ _ _ (H'.gr g4) N
  -- the forms below: what is done, then the rest of the row falls through
  have rest10 : ∀ (σ' : AH) (ρ : Loc) (R' : Rm) (L' : Lw), look "form" ρ = some (.int (t : Nat)) → t ≠ 10 → Rep σ' f R' L' → Next R R' L' →
      WP (sSeq (sIf (tV (e2 vEq (eName "form") (eInt 10))) (sSeq (sRet (eFn f__law_written (lCons (eName "room") (lCons (eName "kept") (lCons (eName "name") (lCons (eFn f__law_take (lCons (eName "box") (lCons (eInt 3) lNil))) (lCons (eFn f__law_take (lCons (eName "box") (lCons (eInt 9) lNil))) (lCons (eFn f__law_text (lCons (eName "box") lNil)) lNil))))))))
        sSkip) sSkip) (sSeq (sRet (eBool true)) sSkip) ρ σ') (fun r σ => Q (retV r.1) σ) E := fun σ' ρ R' L' l1 hne H' N => by
    walk_at "wp"
    refine w_dec (fun q => absurd q (by lia)) (fun _ => ?_)
    exact w_skip (nx_next (done _ _ _ _ H' N))
  have rest9 : ∀ (σ' : AH) (ρ : Loc) (R' : Rm) (L' : Lw), look "form" ρ = some (.int (t : Nat)) → t ≠ 10 → t ≠ 9 → Rep σ' f R' L' → Next R R' L' →
      WP (sSeq (sIf (tV (e2 vEq (eName "form") (eInt 9))) (sSeq (sDo (eFn f_forget (lCons (eName "room") (lCons (eName "name") lNil)))) (sSeq (sDo (eMeth isD (eName "kept") (lCons (eName "name") (lCons eNone lNil)) mPopD)) sSkip)) sSkip)
        (sSeq (sIf (tV (e2 vEq (eName "form") (eInt 10))) (sSeq (sRet (eFn f__law_written (lCons (eName "room") (lCons (eName "kept") (lCons (eName "name") (lCons (eFn f__law_take (lCons (eName "box") (lCons (eInt 3) lNil))) (lCons (eFn f__law_take (lCons (eName "box") (lCons (eInt 9) lNil))) (lCons (eFn f__law_text (lCons (eName "box") lNil)) lNil))))))))
        sSkip) sSkip) (sSeq (sRet (eBool true)) sSkip)) ρ σ') (fun r σ => Q (retV r.1) σ) E := fun σ' ρ R' L' l1 hne hne9 H' N => by
    refine w_seq (w_sif ?_)
    walk_at "wp"
    refine w_dec (fun q => absurd q (by lia)) (fun _ => ?_)
    exact w_skip (nx_next (rest10 _ _ _ _ l1 hne H' N))
  refine w_skip (nx_next (w_seq (w_sif ?_)))
  walk_at "wp"
  -- the exchange and what follows
  have rest8 : ∀ (σ' : AH) (ρ : Loc) (L' : Lw), look "form" ρ = some (.int (t : Nat)) → look "room" ρ = some (.ref f.s) → look "kept" ρ = some (.ref f.k) → look "pile" ρ = some (.ref f.p) → look "box" ρ = some (.ref f.bx) → look "name" ρ = some (.str name) →
      ∀ R', Rep σ' f R' L' → Next R R' L' → WP (sSeq (sIf (tV (e2 vEq (eName "form") (eInt 8))) (sSeq (sAsg (eSub (eStr "ABCD") (eFn f__law_take (lCons (eName "box") (lCons (eInt 4) lNil)))) (gName "other"))
    (sSeq (sDo (eFn f_swap_texts (lCons (eName "room") (lCons (eName "name") (lCons (eName "other") lNil)))))
    (sSeq (sAsg (eTup (lCons (eMeth isD (eName "kept") (lCons (eName "name") (lCons (eStr "") lNil)) mGet) (lCons (eMeth isD (eName "kept") (lCons (eName "other") (lCons (eStr "") lNil)) mGet) lNil))) (gSwap ["first", "last"]))
    (sSeq (sAsg (eTup (lCons (eName "last") (lCons (eName "first") lNil))) (gTup 2 (gsCons (gSub (eName "kept") (eName "name")) (gsCons (gSub (eName "kept") (eName "other")) gsNil))))
    sSkip)))) sSkip)
    (sSeq (sIf (tV (e2 vEq (eName "form") (eInt 9))) (sSeq (sDo (eFn f_forget (lCons (eName "room") (lCons (eName "name") lNil))))
    (sSeq (sDo (eMeth isD (eName "kept") (lCons (eName "name") (lCons eNone lNil)) mPopD))
    sSkip)) sSkip)
    (sSeq (sIf (tV (e2 vEq (eName "form") (eInt 10))) (sSeq (sRet (eFn f__law_written (lCons (eName "room") (lCons (eName "kept") (lCons (eName "name") (lCons (eFn f__law_take (lCons (eName "box") (lCons (eInt 3) lNil))) (lCons (eFn f__law_take (lCons (eName "box") (lCons (eInt 9) lNil))) (lCons (eFn f__law_text (lCons (eName "box") lNil)) lNil))))))))
    sSkip) sSkip)
    (sSeq (sRet (eBool true))
    sSkip))) ρ σ') (fun r σ => Q (retV r.1) σ) E := fun σ' ρ L' l1 l2 l3 l4 l5 l6 R' H' N => by
    have G' := N.good
    have I' := G'.inv
    have kl' := G'.kept_len
    walk_at "wp"
    refine w_dec (fun q => ?_) (fun q8 => ?_)
    · walk_at "wp"
      refine c_take (m := 4) H' (by decide) G'.nz fun u3 τ3 hu3 H3 => ?_
      obtain ⟨c3, hc3, hn3⟩ := abcd u3 hu3
      refine w_getS (by lia) hc3 ?_
      generalize hnm3 : [c3] = other at hn3
      refine w_gName (nx_next (w_seq (w_do ?_)))
      walk_at "wp"
      refine c_swap H3 I' hname hn3 fun σ4 R4 H4 O4 => ?_
      rw [← G'.kt, ← G'.wx] at O4
      refine nx_next (w_seq (w_asg (w_tup ?_)))
      refine w_cons (w_meth ?_)
      walk_at "wp"
      refine ⟨isD_ref H4.k, ?_⟩
      walk_at "wp"
      show WP (mGet [.ref f.k, .str name, .str []] σ4) _ _
      refine w_getM H4.k ?_
      rw [get_text]
      refine w_cons (w_meth ?_)
      walk_at "wp"
      refine ⟨isD_ref H4.k, ?_⟩
      walk_at "wp"
      show WP (mGet [.ref f.k, .str other, .str []] σ4) _ _
      refine w_getM H4.k ?_
      rw [get_text]
      walk_at "wp"
      refine ⟨rfl, w_gSwap rfl rfl (nx_next (w_seq (w_asg (w_tup ?_))))⟩
      show WP _ _ _
      have ll : look "last" (putAll ["first", "last"].reverse [V.str ((alook name L'.kept).getD []), V.str ((alook other L'.kept).getD [])].reverse (put "other" (V.str other) ρ)) = some (V.str ((alook other L'.kept).getD [])) := by
        show look "last" (put "first" _ (put "last" _ (put "other" _ ρ))) = _
        walk_at "lk"
      have lf : look "first" (putAll ["first", "last"].reverse [V.str ((alook name L'.kept).getD []), V.str ((alook other L'.kept).getD [])].reverse (put "other" (V.str other) ρ)) = some (V.str ((alook name L'.kept).getD [])) := by
        show look "first" (put "first" _ (put "last" _ (put "other" _ ρ))) = _
        walk_at "lk"
      have lk2 : look "kept" (putAll ["first", "last"].reverse [V.str ((alook name L'.kept).getD []), V.str ((alook other L'.kept).getD [])].reverse (put "other" (V.str other) ρ)) = some (.ref f.k) := by
        show look "kept" (put "first" _ (put "last" _ (put "other" _ ρ))) = _
        walk_at "lk"
      have ln : look "name" (putAll ["first", "last"].reverse [V.str ((alook name L'.kept).getD []), V.str ((alook other L'.kept).getD [])].reverse (put "other" (V.str other) ρ)) = some (.str name) := by
        show look "name" (put "first" _ (put "last" _ (put "other" _ ρ))) = _
        walk_at "lk"
      have lo : look "other" (putAll ["first", "last"].reverse [V.str ((alook name L'.kept).getD []), V.str ((alook other L'.kept).getD [])].reverse (put "other" (V.str other) ρ)) = some (.str other) := by
        show look "other" (put "first" _ (put "last" _ (put "other" _ ρ))) = _
        walk_at "lk"
      have lfm : look "form" (putAll ["first", "last"].reverse [V.str ((alook name L'.kept).getD []), V.str ((alook other L'.kept).getD [])].reverse (put "other" (V.str other) ρ)) = some (.int (t : Nat)) := by
        show look "form" (put "first" _ (put "last" _ (put "other" _ ρ))) = _
        walk_at "lk"
      walk_at "wp"
      refine ⟨rfl, w_gTup rfl rfl ?_⟩
      walk_at "wp"
      refine w_setD H4.k (szOk (by rw [kdict_len]; show L'.kept.length ≤ _; lia)) ?_
      rw [dput_kdict]
      have H5 := H4.setK (aput name ((alook other L'.kept).getD []) L'.kept)
      walk_at "wp"
      have hl2 : (aput name ((alook other L'.kept).getD []) L'.kept).length ≤ 4 := by
        have := len_sub ((aput name ((alook other L'.kept).getD []) L'.kept).map (·.1)) names4 (nodup_aput G'.keys) fun x hx => by
          obtain ⟨e, he, rfl⟩ := List.mem_map.mp hx
          refine keys_aput (P := (· ∈ names4)) hname (fun e he => ?_) e he
          rw [G'.kt] at he
          obtain ⟨e', h1, rfl⟩ := List.mem_map.mp he
          exact I'.nm e' h1
        simpa [names4] using this
      refine w_setD H5.k (szOk (by rw [kdict_len]; show (aput name ((alook other L'.kept).getD []) L'.kept).length ≤ _; lia)) ?_
      rw [dput_kdict]
      have H6 := H5.setK (aput other ((alook name L'.kept).getD []) (aput name ((alook other L'.kept).getD []) L'.kept))
      refine w_gsNil (nx_next (w_skip (nx_next ?_)))
      have N6 := O4.next (L := L') G'.nz (L' := { { { L' with turn := L'.turn + 1 } with kept := aput name ((alook other L'.kept).getD []) L'.kept } with kept := aput other ((alook name L'.kept).getD []) (aput name ((alook other L'.kept).getD []) L'.kept) }) rfl rfl rfl
      exact rest9 _ _ _ _ lfm (by lia) (by lia) H6 ⟨N6.good, N6.size.trans N.size, N6.low.trans N.low⟩
    · walk_at "wp"
      refine w_dec (fun q => ?_) (fun q9 => ?_)
      · walk_at "wp"
        refine c_forget H' I' fun σ4 R4 H4 O4 => ?_
        rw [← G'.kt, ← G'.wx] at O4
        refine nx_next (w_seq (w_do (w_meth ?_)))
        walk_at "wp"
        refine ⟨isD_ref H4.k, ?_⟩
        walk_at "wp"
        refine w_popD H4.k (by rw [kdict_len]; lia) ?_
        rw [dout_kdict]
        have H5 := H4.setK (aout name L'.kept)
        refine nx_next (w_skip (nx_next ?_))
        have N5 := O4.next (L := L') G'.nz (L' := { L' with kept := aout name L'.kept }) rfl rfl rfl
        exact rest10 _ _ _ _ l1 (by lia) H5 ⟨N5.good, N5.size.trans N.size, N5.low.trans N.low⟩
      · walk_at "wp"
        refine w_dec (fun q => ?_) (fun q10 => ?_)
        · walk_at "wp"
          refine c_take (m := 3) H' (by decide) G'.nz fun u3 τ3 hu3 H3 => ?_
          walk_at "wp"
          refine c_take (m := 9) H3 (by decide) G'.nz fun u4 τ4 hu4 H4 => ?_
          walk_at "wp"
          refine c_text H4 G'.nz fun txt τ5 x h1 h2 ha H5 => ?_
          walk_at "wp"
          exact c_written H5 (G'.turn x) (by lia) ha fun σ' R' L' H' N' => k _ _ _ H' ⟨N'.good, N'.size.trans N.size, N'.low.trans N.low⟩
        · exact w_skip (nx_next (done _ _ _ _ H' N))
  have N2 : Next R R L2 := ⟨G2, rfl, rfl⟩
  refine w_dec (fun q => ?_) (fun q7 => ?_)
  · refine w_and (w_tV (w_e2 ?_))
    walk_at "wp"
    refine w_lstV ?_
    walk_at "wp"
    refine ⟨rfl, ?_⟩
    refine w_neL (m := []) H2.p rfl (fun _ q => nomatch q) (fun _ q => nomatch q) G2.asc_pile (fun _ h => nomatch h) ?_
    walk_at "wp"
    by_cases hp : L2.pile = []
    · refine w_no (by rw [decide_eq_true hp]; rfl) ?_
      walk_at "wp"
      refine w_no rfl ?_
      exact w_skip (nx_next (rest8 _ _ _ rfl rfl rfl rfl rfl rfl _ H2 N2))
    · refine w_yes (by rw [decide_eq_false hp]; rfl) ?_
      walk_at "wp"
      refine w_yes rfl ?_
      have hlen : 1 ≤ R.wait.length := by
        rw [← pl]; exact List.length_pos_iff.mpr hp
      obtain ⟨ws, p, hw⟩ := one_last hlen
      have hpe : L2.pile = ws.map (Tx R) ++ [Tx R p] := by rw [G2.wx, hw, List.map_append]; rfl
      walk_at "wp"
      refine c_take (m := 2) H2 (by decide) nz fun u3 τ3 hu3 H3 => ?_
      walk_at "wp"
      have wl : ws.length ≤ 4 := by have := congrArg List.length hw; simp at this; lia
      refine w_dec (fun q2 => ?_) (fun q2 => ?_)
      · walk_at "wp"
        refine c_pop H3 I hw fun σ4 R4 H4 O4 => ?_
        refine w_meth ?_
        walk_at "wp"
        have Hp := H4.p
        have Hp : σ4[f.p]? = some (.list (txts (ws.map (Tx R) ++ [Tx R p]))) := by rw [← hpe]; exact Hp
        refine ⟨isL_ref Hp, ?_⟩
        walk_at "wp"
        refine w_popL Hp getLast_txts (by rw [strs_len]; simp; lia) ?_
        rw [dropLast_txts]
        walk_at "wp"
        rw [decide_eq_true rfl]
        have H5 := H4.setP (ws.map (Tx R))
        rw [← G2.kt] at O4
        exact k _ _ _ H5 (O4.next (L := L2) nz rfl rfl rfl)
      · refine w_skip (nx_next (w_seq (w_do ?_)))
        walk_at "wp"
        refine c_keep H3 I hname hw fun σ4 R4 H4 O4 => ?_
        refine nx_next (w_seq (w_asg (w_meth ?_)))
        walk_at "wp"
        have Hp := H4.p
        have Hp : σ4[f.p]? = some (.list (txts (ws.map (Tx R) ++ [Tx R p]))) := by rw [← hpe]; exact Hp
        refine ⟨isL_ref Hp, ?_⟩
        walk_at "wp"
        refine w_popL Hp getLast_txts (by rw [strs_len]; simp; lia) ?_
        rw [dropLast_txts]
        have H5 := H4.setP (ws.map (Tx R))
        walk_at "wp"
        refine w_setD H5.k (szOk (by rw [kdict_len]; show L2.kept.length ≤ _; lia)) ?_
        rw [dput_kdict]
        have H6 := H5.setK (aput name (Tx R p) L2.kept)
        rw [← G2.kt] at O4
        refine nx_next (w_skip (nx_next ?_))
        exact rest8 _ _ _ rfl rfl rfl rfl rfl rfl _ H6 (O4.next (L := L2) nz rfl rfl rfl)
  · walk_at "wp"
    refine w_no rfl ?_
    exact w_skip (nx_next (rest8 _ _ _ rfl rfl rfl rfl rfl rfl _ H2 N2))
end
/-! ### the law itself -/
section
variable {σ : AH} {f : Rf} {R : Rm} {L : Lw} {Q : V → AH → Prop} {E : V → AH → Prop}
theorem w_abs {i : Int} (h : Q (.int ((i.natAbs : Nat) : Int)) σ) : WP (bAbs [.int i] σ) Q E := by
  show Q (.int (if i < 0 then -i else i)) σ
  rw [show (if i < 0 then -i else i) = ((i.natAbs : Nat) : Int) by split <;> lia]; exact h
theorem c_box {ns : List Int} (hl : ns.length ≤ 63) (k : ∀ τ bx nb us chk, τ[bx]? = some (.list [.ref nb, .int ((chk : Nat) : Int), .int ((0 : Nat) : Int)]) → τ[nb]? = some (.list (nums us)) → bx ≠ nb → us.length ≤ 60 → Q (.ref bx) τ) :
    WP (f__law_box [.lst (ns.map .int)] σ) Q E := by
  refine w_fnA rfl (w_seq (w_asg (w_eComp (ns.take 60) V.int (fun _ => true) (fun i => .int ((i.natAbs : Nat) : Int)) (w_iSrc ?_))))
  walk_at "wp"
  refine w_slcV rfl rfl (by rw [List.length_map]; lia) ?_
  refine .inl ⟨_, rfl, fun τ g => ?_, by rw [List.length_take]; lia, fun i hi ρ' τ h1 h2 g => ?_, fun τ n g hn hlt => ?_⟩
  · show some (slc none (some ((60 : Nat) : Int)) (ns.map V.int)) = _
    rw [slc_to, List.map_take]
  · refine w_tT ⟨gr_refl _, rfl, fun _ => ?_⟩
    walk_at "wp"
    exact w_abs ⟨gr_refl _, rfl⟩
  · rw [filter_tt] at hn
    have e : ((ns.take 60).map fun i => V.int ((i.natAbs : Nat) : Int)) = nums ((ns.take 60).map Int.natAbs) := by unfold nums; rw [List.map_map]; rfl
    rw [e] at hn
    generalize hu : (ns.take 60).map Int.natAbs = us at hn
    have ul : us.length ≤ 60 := by rw [← hu, List.length_map, List.length_take]; lia
    walk_at "wp"
    refine w_lstH ?_
    walk_at "wp"
    refine w_sum (listAt_ref hn) (intsOf_nat us) ?_
    rw [sum_cast]
    walk_at "wp"
    refine w_modI (by decide) ?_
    walk_at "wp"
    refine ⟨rfl, ?_⟩
    rw [show ((us.sum : Nat) : Int).fmod 97 = ((us.sum % 97 : Nat) : Int) from (Int.ofNat_fmod us.sum 97).symm]
    refine k _ τ.length n us (us.sum % 97) (get_push τ _) (gr_get (gr_push τ _) hn) (fun q => ?_) ul
    have := lt_of_get hn
    lia
theorem c_take1 {bx nb m chk turn : Nat} {ns : List Nat} (hb : σ[bx]? = some (.list [.ref nb, .int (chk : Nat), .int (turn : Nat)])) (hn : σ[nb]? = some (.list (nums ns))) (hne : bx ≠ nb) (hm : 0 < m) (hz : ns.length ≤ 60)
    (k : ∀ t τ, t < m → τ[bx]? = some (.list [.ref nb, .int (chk : Nat), .int ((turn + 1 : Nat) : Int)]) → τ[nb]? = some (.list (nums ns)) → Q (.int (t : Nat)) τ) : WP (f__law_take [.ref bx, .int (m : Nat)] σ) Q E :=
  c_take0 hb hn hne hm (by lia) fun t ht => k t _ ht (List.getElem?_set_self (lt_of_get hb)) (by rw [List.getElem?_set_ne hne]; exact hn)
theorem co_setA {τ : AH} {n : Nat} {fs : List (String × V)} {A B : List (Nat × AO)} {x : String} {v : V} {U : Unit → AH → Prop} (c : CO τ (A ++ (n, .inst fs) :: B)) (hl : fs.length ≤ 50) (k : ∀ τ', CO τ' (A ++ (n, .inst (put x v fs)) :: B) → U () τ') : WP (vSetAttr x (.ref n) v τ) U E :=
  w_vSetAttr (c.2 (n, .inst fs) (by simp)) hl (k _ c.set)
theorem c_init {n whole : Nat} {v : V} {C0 : List (Nat × AO)} (c0 : CO σ ((n, .inst []) :: C0)) (hz : whole ≤ 1000)
    (k : ∀ τ o d w, CO τ ((w, .list []) :: (d, .dict []) :: (o, .list (List.replicate whole (.int 0))) :: (n, .inst [("size", .int (whole : Nat)), ("octets", .ref o), ("low", .int 0), ("free", .int (whole : Nat)), ("held", .ref d), ("waiting", .ref w), ("most_waiting", v), ("collections", .int 0)]) :: C0) → Q .none τ) :
    WP (f_Space__init__ [.ref n, .int (whole : Nat), v] σ) Q E := by
  refine w_fnA rfl ?_
  walk_at "wp"
  refine co_setA (A := []) c0 (show 0 ≤ 50 by decide) fun τ1 c1 => ?_
  refine nx_next (w_seq (w_asg (w_repH ?_)))
  walk_at "wp"
  refine ⟨by lia, ?_⟩
  rw [Int.toNat_natCast]
  have c2 := c1.push (.list (List.replicate whole (.int 0)))
  generalize τ1 ++ [AO.list (List.replicate whole (.int 0))] = τ2 at c2 ⊢
  generalize List.length τ1 = o at c2 ⊢
  walk_at "wp"
  refine co_setA (A := [_]) c2 (show 1 ≤ 50 by decide) fun τ3 c3 => ?_
  walk_at "wp"
  refine co_setA (A := [_]) c3 (show 2 ≤ 50 by decide) fun τ4 c4 => ?_
  walk_at "wp"
  refine co_setA (A := [_]) c4 (show 3 ≤ 50 by decide) fun τ5 c5 => ?_
  refine nx_next (w_seq (w_asg (w_dict0 ?_)))
  have c6 := c5.push (.dict [])
  generalize τ5 ++ [AO.dict []] = τ6 at c6 ⊢
  generalize List.length τ5 = d at c6 ⊢
  walk_at "wp"
  refine co_setA (A := [_, _]) c6 (show 4 ≤ 50 by decide) fun τ7 c7 => ?_
  refine nx_next (w_seq (w_asg (w_lstH ?_)))
  walk_at "wp"
  refine ⟨rfl, ?_⟩
  have c8 := c7.push (.list [])
  generalize τ7 ++ [AO.list []] = τ8 at c8 ⊢
  generalize List.length τ7 = w at c8 ⊢
  walk_at "wp"
  refine co_setA (A := [_, _, _]) c8 (show 5 ≤ 50 by decide) fun τ9 c9 => ?_
  walk_at "wp"
  refine co_setA (A := [_, _, _]) c9 (show 6 ≤ 50 by decide) fun τ10 c10 => ?_
  walk_at "wp"
  refine co_setA (A := [_, _, _]) c10 (show 7 ≤ 50 by decide) fun τ11 c11 => ?_
  walk_at "wp"
  exact k _ _ _ _ c11
end
/-! ### the plain law -/
section
variable {σ : AH} {f : Rf} {R : Rm} {L : Lw} {Q : V → AH → Prop} {E : V → AH → Prop}
noncomputable def one (c : Nat) : V := .str [c]
theorem names_src (τ : AH) : Src.items τ (.str (codes "ABCD")) = some ((codes "ABCD").map one) := rfl
theorem names_asc : (codes "ABCD").all (· < 128) = true := by decide
theorem names_len : (codes "ABCD").length ≤ 100000 := by decide
theorem kept_asc (G : Good R L) (c : Nat) : ∀ x ∈ (alook [c] L.kept).getD [], x < 128 := by
  rw [G.kt, alook_map]
  cases alook [c] R.held with
  | none => exact fun x hx => nomatch hx
  | some p => exact tx_asc G.inv.asc
theorem c_text_of' {c : Nat} (H : Rep σ f R L) (G : Good R L) (k : ∀ τ, σ <+: τ → Q (.str ((alook [c] L.kept).getD [])) τ) : WP (f_text_of [.ref f.s, .str [c]] σ) Q E := by
  have I := G.inv
  have sz := I.sz
  refine c_text_of H (fun p hp => by rw [I.len]; exact I.bd p hp) (by rw [I.len]; lia) I.asc fun τ g => ?_
  rw [← G.kt]; exact k τ g
theorem w_kget {c : Nat} {ρ : Loc} (H : Rep σ f R L) (h1 : look "kept" ρ = some (.ref f.k)) (h2 : look "name" ρ = some (one c)) (k : Q (.str ((alook [c] L.kept).getD [])) σ) :
    WP (eMeth isD (eName "kept") (lCons (eName "name") (lCons (eStr "") lNil)) mGet ρ σ) Q E := by
  refine w_meth ?_
  walk_at "wp"
  refine ⟨isD_ref H.k, ?_⟩
  walk_at "wp"
  show WP (mGet [.ref f.k, .str [c], .str []] σ) _ _
  refine w_getM H.k ?_
  rw [get_text]; exact k
/-- [text_at(room, place) for place in room.waiting] -/
theorem w_waits {ρ : Loc} (H : Rep σ f R L) (G : Good R L) (h1 : look "room" ρ = some (.ref f.s)) (k : ∀ τ n, σ <+: τ → τ[n]? = some (.list (txts L.pile)) → Q (.ref n) τ) :
    WP (eComp ["room"] "place" (iSrc (eAttr "waiting" (eName "room"))) tTrue (eFn f_text_at (lCons (eName "room") (lCons (eName "place") lNil))) ρ σ) Q E := by
  have I := G.inv
  have sz := I.sz
  have wt := I.wt
  have mo := I.mo
  refine w_eComp R.wait (fun p => .ref p.r) (fun _ => true) (fun p => .str (Tx R p)) (w_iSrc ?_)
  walk_at "wp"
  refine .inl ⟨_, listAt_ref H.w, fun τ g => listAt_gr g (listAt_ref H.w), by lia, fun p hp ρ' τ q1 q2 g => ?_, fun τ n g hn hlt => ?_⟩
  · have H' := H.gr g
    have l1 : look "room" ρ' = some (.ref f.s) := (q2 "room" (by decide)).trans ((lk_cap (by decide)).trans h1)
    have hpp : p ∈ places R := List.mem_append_right _ hp
    refine w_tT ⟨gr_refl _, rfl, fun _ => ?_⟩
    walk_at "wp"
    exact c_text_at H' (H'.pl hpp) (by rw [I.len]; exact I.bd p hpp) (by rw [I.len]; lia) I.asc fun τ' g' => ⟨g', rfl⟩
  · rw [filter_tt] at hn
    refine k τ n g ?_
    rw [hn, G.wx]; unfold txts; rw [List.map_map]; rfl
/-- [name for name in 'ABCD' if text_of(room, name) != kept.get(name, '')] -/
theorem w_odd {ρ : Loc} (H : Rep σ f R L) (G : Good R L) (h1 : look "room" ρ = some (.ref f.s)) (h2 : look "kept" ρ = some (.ref f.k)) (k : ∀ τ n, σ <+: τ → τ[n]? = some (.list (txts [])) → Q (.ref n) τ) :
    WP (eComp ["room", "kept"] "name" (iSrc (eStr "ABCD")) (tV (e2 vNe (eFn f_text_of (lCons (eName "room") (lCons (eName "name") lNil))) (eMeth isD (eName "kept") (lCons (eName "name") (lCons (eStr "") lNil)) mGet))) (eName "name") ρ σ) Q E := by
  refine w_eComp (codes "ABCD") one (fun _ => false) one (w_iSrc ?_)
  walk_at "wp"
  refine .inr ⟨_, rfl, names_asc, fun τ g => names_src τ, names_len, fun c hc ρ' τ q1 q2 g => ?_, fun τ n g hn hlt => ?_⟩
  · have H' := H.gr g
    have l1 : look "room" ρ' = some (.ref f.s) := (q2 "room" (by decide)).trans ((lk_cap (by decide)).trans h1)
    have l2 : look "kept" ρ' = some (.ref f.k) := (q2 "kept" (by decide)).trans ((lk_cap (by decide)).trans h2)
    walk_at "wp"
    refine c_text_of' H' G fun τ1 g1 => ?_
    refine w_kget (H'.gr g1) l2 q1 ?_
    walk_at "wp"
    rw [show (!decide ((alook [c] L.kept).getD [] = (alook [c] L.kept).getD [])) = false by simp]
    exact ⟨g1, rfl, fun q => nomatch q⟩
  · refine k τ n g ?_
    rw [hn, show (codes "ABCD").filter (fun _ => false) = [] from List.filter_eq_nil_iff.mpr fun _ _ => by simp]; rfl
theorem w_texts {ρ : Loc} (H : Rep σ f R L) (G : Good R L) (h1 : look "room" ρ = some (.ref f.s)) (k : ∀ τ n, σ <+: τ → τ[n]? = some (.list (txts ((codes "ABCD").map fun c => (alook [c] L.kept).getD []))) → Q (.ref n) τ) :
    WP (eComp ["room"] "name" (iSrc (eStr "ABCD")) tTrue (eFn f_text_of (lCons (eName "room") (lCons (eName "name") lNil))) ρ σ) Q E := by
  refine w_eComp (codes "ABCD") one (fun _ => true) (fun c => .str ((alook [c] L.kept).getD [])) (w_iSrc ?_)
  walk_at "wp"
  refine .inr ⟨_, rfl, names_asc, fun τ g => names_src τ, names_len, fun c hc ρ' τ q1 q2 g => ?_, fun τ n g hn hlt => ?_⟩
  · have H' := H.gr g
    have l1 : look "room" ρ' = some (.ref f.s) := (q2 "room" (by decide)).trans ((lk_cap (by decide)).trans h1)
    refine w_tT ⟨gr_refl _, rfl, fun _ => ?_⟩
    walk_at "wp"
    exact c_text_of' H' G fun τ1 g1 => ⟨g1, rfl⟩
  · rw [filter_tt] at hn
    refine k τ n g ?_
    rw [hn]; unfold txts; rw [List.map_map]; rfl
theorem w_kepts {ρ : Loc} (H : Rep σ f R L) (h2 : look "kept" ρ = some (.ref f.k)) (k : ∀ τ n, σ <+: τ → τ[n]? = some (.list (txts ((codes "ABCD").map fun c => (alook [c] L.kept).getD []))) → Q (.ref n) τ) :
    WP (eComp ["kept"] "name" (iSrc (eStr "ABCD")) tTrue (eMeth isD (eName "kept") (lCons (eName "name") (lCons (eStr "") lNil)) mGet) ρ σ) Q E := by
  refine w_eComp (codes "ABCD") one (fun _ => true) (fun c => .str ((alook [c] L.kept).getD [])) (w_iSrc ?_)
  walk_at "wp"
  refine .inr ⟨_, rfl, names_asc, fun τ g => names_src τ, names_len, fun c hc ρ' τ q1 q2 g => ?_, fun τ n g hn hlt => ?_⟩
  · have H' := H.gr g
    have l2 : look "kept" ρ' = some (.ref f.k) := (q2 "kept" (by decide)).trans ((lk_cap (by decide)).trans h2)
    refine w_tT ⟨gr_refl _, rfl, fun _ => ?_⟩
    exact w_kget H' l2 q1 ⟨gr_refl _, rfl⟩
  · rw [filter_tt] at hn
    refine k τ n g ?_
    rw [hn]; unfold txts; rw [List.map_map]; rfl
theorem c_fre (H : Rep σ f R L) (G : Good R L) (k : ∀ τ R', Rep τ f R' L → Next R R' L → Q (.int ((R.size : Int) - (R.low : Int) - ((total R : Nat) : Int))) τ) : WP (f_fre [.ref f.s] σ) Q E := by
  refine w_fnA rfl ?_
  walk_at "wp"
  refine c_collect H G.inv fun v σ' R' H' I' S' e _ => ?_
  walk_at "wp"
  refine c_free_room H' ?_
  walk_at "wp"
  have st := S'.total
  have ss := S'.size
  have sl := S'.low
  rw [show (R'.free : Int) - (R'.low : Int) = (R.size : Int) - (R.low : Int) - ((total R : Nat) : Int) by lia]
  exact k _ R' H' (S'.next I' G)
/-- the loop's and the end's part -/
inductive RI (f : Rf) (W lo : Nat) (ρ : Loc) (τ : AH) : Prop
  | mk : ∀ R L, Rep τ f R L → Good R L → R.size = W → R.low = lo → look "room" ρ = some (.ref f.s) → look "kept" ρ = some (.ref f.k) → look "pile" ρ = some (.ref f.p) → look "box" ρ = some (.ref f.bx) → look "whole" ρ = some (.int (W : Nat)) → look "low" ρ = some (.int (lo : Nat)) → RI f W lo ρ τ
theorem w_rest {W lo : Nat} {ρ : Loc} {Q : SQ'} (H : Rep σ f R L) (G : Good R L) (hW : R.size = W) (hlo : R.low = lo)
    (l1 : look "room" ρ = some (.ref f.s)) (l2 : look "kept" ρ = some (.ref f.k)) (l3 : look "pile" ρ = some (.ref f.p)) (l4 : look "box" ρ = some (.ref f.bx)) (l5 : look "whole" ρ = some (.int (W : Nat))) (l6 : look "low" ρ = some (.int (lo : Nat)))
    (k : ∀ ρ τ, Q (.ret (.bool true), ρ) τ) :
    WP (sSeq (sFor (iRange (e2 vAdd (eInt 4) (eFn f__law_take (lCons (eName "box") (lCons (eInt 13) lNil))))) (gName "turn") (sSeq (sIf (tNot (tV (eFn f__law_deed (lCons (eName "room") (lCons (eName "kept") (lCons (eName "pile") (lCons (eName "box") (lCons (e2 vSub (eName "whole") (eName "low")) lNil)))))))) (sSeq (sRet (eBool false))
    sSkip) sSkip)
    (sSeq (sIf (tOr (tNot (tV (eFn f_is_sound (lCons (eName "room") lNil)))) (tOr (tV (e2 vNe (eComp ["room"] "place" (iSrc (eAttr "waiting" (eName "room"))) tTrue (eFn f_text_at (lCons (eName "room") (lCons (eName "place") lNil)))) (eName "pile"))) (fun _ σ => .ok false σ))) (sSeq (sRet (eBool false))
    sSkip) sSkip)
    (sSeq (sIf (tV (e2 vNe (eComp ["room", "kept"] "name" (iSrc (eStr "ABCD")) (tV (e2 vNe (eFn f_text_of (lCons (eName "room") (lCons (eName "name") lNil))) (eMeth isD (eName "kept") (lCons (eName "name") (lCons (eStr "") lNil)) mGet))) (eName "name")) (eLstV lNil))) (sSeq (sRet (eBool false))
    sSkip) sSkip)
    sSkip))))
    (sSeq (sIf (tOr (tV (e2 vNe (eLaw ["room"] (eFn f_assign_text (lCons (eName "room") (lCons (eStr "A") (lCons (e2 vMul (eStr "l") (eInt 256)) lNil))))) (eStr "LS"))) (tOr (tV (e2 vNe (eFn f_fre (lCons (eName "room") lNil)) (e2 vSub (e2 vSub (eName "whole") (eName "low")) (eFn f__law_held (lCons (eName "kept") (lCons (eName "pile") lNil)))))) (fun _ σ => .ok false σ))) (sSeq (sRet (eBool false))
    sSkip) sSkip)
    (sSeq (sRet (e2 vEq (eComp ["room"] "name" (iSrc (eStr "ABCD")) tTrue (eFn f_text_of (lCons (eName "room") (lCons (eName "name") lNil)))) (eComp ["kept"] "name" (iSrc (eStr "ABCD")) tTrue (eMeth isD (eName "kept") (lCons (eName "name") (lCons (eStr "") lNil)) mGet))))
    sSkip)) ρ σ) Q E := by
  refine w_seq (w_for (fun rem ρ τ => RI f W lo ρ τ) (w_iRange ?_))
  walk_at "wp"
  refine c_take (m := 13) H (by decide) G.nz fun t τ ht H1 => ?_
  walk_at "wp"
  refine ⟨(show 4 + t ≤ 1000 by lia), _, rfl, ⟨R, _, H1, G.turn _, hW, hlo, l1, l2, l3, l4, l5, l6⟩, fun u r ρ τ ⟨R, L, H, G, hW, hlo, l1, l2, l3, l4, l5, l6⟩ => ⟨rfl, ?_⟩, fun ρ τ ⟨R, L, H, G, hW, hlo, l1, l2, l3, l4, l5, l6⟩ => ⟨rfl, ?_⟩⟩
  · walk_at "wp"
    refine c_deed H G (by rw [hW, hlo]) fun τ1 R1 L1 H1 N1 => ?_
    have G1 := N1.good
    walk_at "wp"
    refine w_no rfl ?_
    walk_at "wp"
    refine c_sound H1 G1.inv fun τ2 g2 => ?_
    have H2 := H1.gr g2
    walk_at "wp"
    refine w_no rfl ?_
    refine w_or (w_tV (w_e2 (w_waits H2 G1 (by walk_at "lk") fun τ3 n g3 hn => ?_)))
    have H3 := H2.gr g3
    walk_at "wp"
    refine w_neL (m := L1.pile) hn (listAt_ref H3.p) (fun _ q => nomatch q) (fun _ q => nomatch q) G1.asc_pile G1.asc_pile ?_
    walk_at "wp"
    refine w_no (by simp) ?_
    walk_at "wp"
    refine w_no rfl ?_
    refine w_skip (nx_next (w_seq (w_sif (w_tV (w_e2 (w_odd H3 G1 (by walk_at "lk") (by walk_at "lk") fun τ4 n4 g4 hn4 => ?_))))))
    have H4 := H3.gr g4
    refine w_lstV ?_
    walk_at "wp"
    refine ⟨rfl, ?_⟩
    refine w_neL (m := []) hn4 rfl (fun _ q => nomatch q) (fun _ q => nomatch q) (fun _ h => nomatch h) (fun _ h => nomatch h) ?_
    walk_at "wp"
    refine w_no (by simp) ?_
    walk_at "wp"
    exact ⟨R1, L1, H4, G1, N1.size.trans hW, N1.low.trans hlo, by walk_at "lk", by walk_at "lk", by walk_at "lk", by walk_at "lk", by walk_at "lk", by walk_at "lk"⟩
  · refine nx_next (w_seq (w_sif (w_or (w_tV (w_e2 (w_law ?_))))))
    have l0 : look "room" (cap ["room"] ρ) = some (.ref f.s) := (lk_cap (by decide)).trans l1
    walk_at "wp"
    rw [show codes "l" = [108] by decide]
    refine w_mulS (by decide) ?_
    walk_at "wp"
    refine c_assign_LS (by rw [List.length_replicate]; decide) (by rw [List.length_replicate]; decide) ?_
    walk_at "wp"
    refine w_no (by simp) ?_
    walk_at "wp"
    refine c_fre H G fun τ1 R1 H1 N1 => ?_
    have G1 := N1.good
    walk_at "wp"
    refine c_held H1 G1 fun τ2 g2 => ?_
    have H2 := H1.gr g2
    have e : total R1 = total R := by rw [← G1.held, ← G.held]
    walk_at "wp"
    refine w_no (by rw [e, hW, hlo, decide_eq_true rfl]; rfl) ?_
    walk_at "wp"
    refine w_no rfl ?_
    refine w_skip (nx_next (w_seq (w_ret (w_e2 (w_texts H2 G1 l1 fun τ3 n3 g3 hn3 => ?_)))))
    have H3 := H2.gr g3
    refine w_kepts H3 l2 fun τ4 n4 g4 hn4 => ?_
    have asc : ∀ t ∈ (codes "ABCD").map (fun c => (alook [c] L.kept).getD []), ∀ c ∈ t, c < 128 := fun t ht => by
      obtain ⟨c, _, rfl⟩ := List.mem_map.mp ht
      exact kept_asc G c
    refine w_eqL (gr_get g4 hn3) hn4 asc asc ?_
    rw [decide_eq_true rfl]
    exact nx_ret (k _ _)
end
theorem co_turn {τ : AH} {a b c d e g x y : Nat × AO} (h : CO τ [a, b, c, d, e, g, x, y]) : CO τ [g, e, d, c, b, a, x, y] :=
  CO.perm (C := [a, b, c, d, e, g] ++ [x, y]) (C' := [a, b, c, d, e, g].reverse ++ [x, y]) h ((List.reverse_perm [a, b, c, d, e, g]).symm.append_right [x, y])
theorem plain (ns : List Int) (hl : ns.length ≤ 63) : ∃ ρ σ, f_law [("script", .lst (ns.map .int))] [] = .ok (.ret (.bool true), ρ) σ := by
  have main : WP (f_law [("script", .lst (ns.map .int))] []) (fun r _ => r.1 = .ret (.bool true)) NoE := by
    unfold f_law
    walk_at "wp"
    refine c_box hl fun τ0 bx nb us chk hb hn hne hu => ?_
    walk_at "wp"
    refine w_tup ?_
    walk_at "wp"
    refine c_take1 (m := 24) hb hn hne (by decide) hu fun t1 τ1 h1 hb1 hn1 => ?_
    walk_at "wp"
    refine c_take1 (m := 4) hb1 hn1 hne (by decide) hu fun t2 τ2 h2 hb2 hn2 => ?_
    walk_at "wp"
    rw [show ((12 : Int) + (t1 : Int)) = ((12 + t1 : Nat) : Int) by lia]
    refine ⟨rfl, w_gSwap rfl rfl (nx_next (w_seq (w_asg (w_tup (w_cons (w_new ?_))))))⟩
    walk_at "wp"
    refine c_take1 (m := 3) hb2 hn2 hne (by decide) hu fun t3 τ3 h3 hb3 hn3 => ?_
    walk_at "wp"
    rw [show ((2 : Int) + (t3 : Int)) = ((2 + t3 : Nat) : Int) by lia]
    have C0 : CO τ3 [(bx, .list [.ref nb, .int (chk : Nat), .int ((0 + 1 + 1 + 1 : Nat) : Int)]), (nb, .list (nums us))] := by
      refine ⟨by simpa using hne, fun x hx => ?_⟩
      simp only [List.mem_cons, List.mem_nil_iff, or_false] at hx
      rcases hx with rfl | rfl
      · exact hb3
      · exact hn3
    have c1 : CO (τ3 ++ [.inst [], .shadow]) _ := (C0.push (.inst [])).gr (σ' := τ3 ++ [.inst [], .shadow]) ⟨[.shadow], by simp⟩
    refine c_init c1 (by lia) fun τ4 o d w c2 => ?_
    generalize List.length τ3 = s at c2 ⊢
    refine ⟨rfl, ?_⟩
    refine w_cons (w_dict0 ?_)
    have c3 := c2.push (.dict [])
    generalize τ4 ++ [AO.dict []] = τ5 at c3 ⊢
    generalize List.length τ4 = kk at c3 ⊢
    refine w_cons (w_lstH ?_)
    walk_at "wp"
    refine ⟨rfl, ?_⟩
    have c4 := c3.push (.list [])
    generalize τ5 ++ [AO.list []] = τ6 at c4 ⊢
    generalize List.length τ5 = pp at c4 ⊢
    walk_at "wp"
    refine ⟨rfl, w_gTup rfl rfl ?_⟩
    walk_at "wp"
    let f : Rf := ⟨s, o, d, w, kk, pp, bx, nb⟩
    let R0 : Rm := ⟨12 + t1, 0, 12 + t1, 2 + t3, 0, List.replicate (12 + t1) 0, [], []⟩
    let L0 : Lw := ⟨[], [], us, chk, 0 + 1 + 1 + 1⟩
    have c5 := co_turn c4
    rw [show List.replicate (12 + t1) (V.int 0) = nums (List.replicate (12 + t1) 0) from nums_rep (12 + t1) 0] at c5
    have H0 : Rep τ6 f R0 L0 := c5
    refine w_vSetAttr H0.s (show 8 ≤ 50 by decide) ?_
    have H1 : Rep (τ6.set s (.inst (put "low" (.int (t2 : Nat)) (fields f R0)))) f { R0 with low := t2 } L0 := H0.setS (R' := { R0 with low := t2 }) rfl rfl rfl
    have G1 : Good { R0 with low := t2 } L0 := by
      refine ⟨⟨List.length_replicate, (show 12 + t1 ≤ 35 by lia), fun c hc => ?_, (show t2 ≤ 12 + t1 by lia), Nat.le_refl _, (fun p hp => nomatch hp), (fun p hp => nomatch hp), List.Pairwise.nil, (show 12 + t1 + 0 ≤ 12 + t1 by lia), List.nodup_nil, (fun e he => nomatch he), Nat.zero_le _, (show 2 + t3 ≤ 4 by lia)⟩, rfl, rfl, hu⟩
      rw [(List.mem_replicate.mp hc).2]; decide
    refine nx_next (w_rest (W := 12 + t1) (lo := t2) H1 G1 rfl rfl rfl rfl rfl rfl rfl rfl fun _ _ => rfl)
  obtain ⟨⟨r, ρ⟩, τ, e, h⟩ := w_out main
  have h : r = .ret (.bool true) := h
  subst h
  exact ⟨ρ, τ, e⟩
end
end Mine
set_option maxRecDepth 100000 in
set_option maxHeartbeats 8000000 in
theorem PySem.Challenge.cw_pq0168_01_holds : PySem.Challenge.rw_pq0168_01.Holds :=
  Mine.joined Mine.plain
