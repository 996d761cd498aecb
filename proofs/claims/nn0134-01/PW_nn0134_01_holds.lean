import PyProof.Rows.All
import Wide.All
import OpenK.AllK
import Wide.FinOn
import PyProof.AttrMissHeap
import PySem.Challenge.RW_nn0134_01
set_option Elab.async false
local macro_rules | `(tactic| omega) => `(tactic| lia)
namespace SP
section
set_option maxRecDepth 100000
set_option maxHeartbeats 4000000
open PySem PySem.W PySem.W.X PySem.Calls PyProof.Rows
noncomputable abbrev pw : Program := PySem.Challenge.pw_nn0134_01
noncomputable def fnArgs : Option Stmt → Arguments
  | some (.FunctionDef _ a _ _ _ _ _ _ _ _) => a
  | _ => ⟨[], [], none, [], [], none, []⟩
noncomputable def fnBody : Option Stmt → List Stmt
  | some (.FunctionDef _ _ b _ _ _ _ _ _ _) => b
  | _ => []
noncomputable def fnScope : Option Stmt → Scope
  | some (.FunctionDef _ _ _ _ _ _ s _ _ _) => s
  | _ => default
noncomputable def clsBody : Option Stmt → List Stmt
  | some (.ClassDef _ _ _ b _ _ _ _ _ _ _) => b
  | _ => []
noncomputable def topS (i : Nat) : Option Stmt := pw.main.body[i]?
noncomputable def mth (i j : Nat) : Option Stmt := (clsBody (topS i))[j]?
noncomputable def hd.heap_39 (P : Params) : Frag := [
  (2, { cls := .none, data := Data.dict #[{ hash := PyData.keyHash P (Str.ofString "type.__subclasses__.Exception.0"), key := .str (Str.ofString "type.__subclasses__.Exception.0") 232, val := .int 46 0 }, { hash := PyData.keyHash P (Str.ofString "type.__subclasses__.Exception.n"), key := .str (Str.ofString "type.__subclasses__.Exception.n") 233, val := .int 1 0 }] 2 }),
  (3, { cls := .type "dict", data := Data.dict #[{ hash := PyData.keyHash P (Str.ofString "__name__"), key := .str (Str.ofString "__name__") 165, val := .str (Str.ofString "law_nn0134_01") 811 }, { hash := PyData.keyHash P (Str.ofString "__doc__"), key := .str (Str.ofString "__doc__") 166, val := .none }, { hash := PyData.keyHash P (Str.ofString "__package__"), key := .str (Str.ofString "__package__") 167, val := .none }, { hash := PyData.keyHash P (Str.ofString "__loader__"), key := .str (Str.ofString "__loader__") 168, val := .builtin "__main__.__loader__#opaque" }, { hash := PyData.keyHash P (Str.ofString "__spec__"), key := .str (Str.ofString "__spec__") 169, val := .none }, { hash := PyData.keyHash P (Str.ofString "__annotations__"), key := .str (Str.ofString "__annotations__") 170, val := .ref 6 }, { hash := PyData.keyHash P (Str.ofString "__builtins__"), key := .str (Str.ofString "__builtins__") 171, val := .ref 4 }, { hash := PyData.keyHash P (Str.ofString "__file__"), key := .str (Str.ofString "__file__") 173, val := .str (Str.ofString "/claim/cut.py") 172 }, { hash := PyData.keyHash P (Str.ofString "__cached__"), key := .str (Str.ofString "__cached__") 174, val := .none }, { hash := PyData.keyHash P (Str.ofString "_wall"), key := .str (Str.ofString "_wall") 193, val := .ref 21 }, { hash := PyData.keyHash P (Str.ofString "PaperError"), key := .str (Str.ofString "PaperError") 235, val := .ref 46 }, { hash := PyData.keyHash P (Str.ofString "Decimal"), key := .str (Str.ofString "Decimal") 351, val := .ref 143 }, { hash := PyData.keyHash P (Str.ofString "sign_text"), key := .str (Str.ofString "sign_text") 358, val := .ref 154 }, { hash := PyData.keyHash P (Str.ofString "MOST_HOPS"), key := .str (Str.ofString "MOST_HOPS") 362, val := .int 30 361 }, { hash := PyData.keyHash P (Str.ofString "Name"), key := .str (Str.ofString "Name") 391, val := .ref 171 }, { hash := PyData.keyHash P (Str.ofString "String"), key := .str (Str.ofString "String") 422, val := .ref 193 }, { hash := PyData.keyHash P (Str.ofString "Stream"), key := .str (Str.ofString "Stream") 453, val := .ref 214 }, { hash := PyData.keyHash P (Str.ofString "Reference"), key := .str (Str.ofString "Reference") 491, val := .ref 242 }, { hash := PyData.keyHash P (Str.ofString "kind_of"), key := .str (Str.ofString "kind_of") 498, val := .ref 253 }, { hash := PyData.keyHash P (Str.ofString "told_plain"), key := .str (Str.ofString "told_plain") 506, val := .ref 260 }, { hash := PyData.keyHash P (Str.ofString "told"), key := .str (Str.ofString "told") 512, val := .ref 265 }, { hash := PyData.keyHash P (Str.ofString "told_objects"), key := .str (Str.ofString "told_objects") 513, val := .ref 265 }, { hash := PyData.keyHash P (Str.ofString "copied"), key := .str (Str.ofString "copied") 519, val := .ref 270 }, { hash := PyData.keyHash P (Str.ofString "parts_of"), key := .str (Str.ofString "parts_of") 525, val := .ref 275 }, { hash := PyData.keyHash P (Str.ofString "references_in"), key := .str (Str.ofString "references_in") 536, val := .ref 282 }, { hash := PyData.keyHash P (Str.ofString "renumbered"), key := .str (Str.ofString "renumbered") 542, val := .ref 287 }, { hash := PyData.keyHash P (Str.ofString "Lookup"), key := .str (Str.ofString "Lookup") 594, val := .ref 319 }, { hash := PyData.keyHash P (Str.ofString "Shelf"), key := .str (Str.ofString "Shelf") 656, val := .ref 373 }, { hash := PyData.keyHash P (Str.ofString "shelf_copied"), key := .str (Str.ofString "shelf_copied") 667, val := .ref 382 }, { hash := PyData.keyHash P (Str.ofString "PLACES_OF_FILES"), key := .str (Str.ofString "PLACES_OF_FILES") 673, val := .ref 383 }, { hash := PyData.keyHash P (Str.ofString "is_there"), key := .str (Str.ofString "is_there") 683, val := .ref 390 }, { hash := PyData.keyHash P (Str.ofString "plain_trailer"), key := .str (Str.ofString "plain_trailer") 689, val := .ref 395 }, { hash := PyData.keyHash P (Str.ofString "walk"), key := .str (Str.ofString "walk") 695, val := .ref 400 }, { hash := PyData.keyHash P (Str.ofString "reached"), key := .str (Str.ofString "reached") 701, val := .ref 405 }, { hash := PyData.keyHash P (Str.ofString "unreached"), key := .str (Str.ofString "unreached") 707, val := .ref 410 }, { hash := PyData.keyHash P (Str.ofString "compacted"), key := .str (Str.ofString "compacted") 719, val := .ref 417 }, { hash := PyData.keyHash P (Str.ofString "seen_as"), key := .str (Str.ofString "seen_as") 727, val := .ref 424 }, { hash := PyData.keyHash P (Str.ofString "solid_keys"), key := .str (Str.ofString "solid_keys") 733, val := .ref 429 }, { hash := PyData.keyHash P (Str.ofString "Twin"), key := .str (Str.ofString "Twin") 799, val := .ref 467 }, { hash := PyData.keyHash P (Str.ofString "alike"), key := .str (Str.ofString "alike") 810, val := .ref 478 }, { hash := PyData.keyHash P (Str.ofString "_law_pen"), key := .str (Str.ofString "_law_pen") 821, val := .ref 485 }, { hash := PyData.keyHash P (Str.ofString "_law_draw"), key := .str (Str.ofString "_law_draw") 830, val := .ref 492 }, { hash := PyData.keyHash P (Str.ofString "_law_value"), key := .str (Str.ofString "_law_value") 836, val := .ref 497 }, { hash := PyData.keyHash P (Str.ofString "_law_shelf"), key := .str (Str.ofString "_law_shelf") 845, val := .ref 504 }, { hash := PyData.keyHash P (Str.ofString "_law_unfolded"), key := .str (Str.ofString "_law_unfolded") 851, val := .ref 509 }, { hash := PyData.keyHash P (Str.ofString "_law_flood"), key := .str (Str.ofString "_law_flood") 857, val := .ref 514 }, { hash := PyData.keyHash P (Str.ofString "_law_turned"), key := .str (Str.ofString "_law_turned") 871, val := .ref 521 }, { hash := PyData.keyHash P (Str.ofString "_law_second"), key := .str (Str.ofString "_law_second") 882, val := .ref 528 }, { hash := PyData.keyHash P (Str.ofString "law"), key := .str (Str.ofString "law") 888, val := .ref 533 }] 49 }),
  (45, { cls := .type "dict", data := Data.dict #[{ hash := PyData.keyHash P (Str.ofString "__module__"), key := .str (Str.ofString "__module__") 203, val := .str (Str.ofString "paperhold.errors") 194 }, { hash := PyData.keyHash P (Str.ofString "__firstlineno__"), key := .str (Str.ofString "__firstlineno__") 207, val := .int 5 206 }, { hash := PyData.keyHash P (Str.ofString "__init__"), key := .str (Str.ofString "__init__") 218, val := .ref 36 }, { hash := PyData.keyHash P (Str.ofString "told"), key := .str (Str.ofString "told") 225, val := .ref 43 }, { hash := PyData.keyHash P (Str.ofString "__static_attributes__"), key := .str (Str.ofString "__static_attributes__") 228, val := .ref 44 }, { hash := PyData.keyHash P (Str.ofString "__weakref__"), key := .str (Str.ofString "__weakref__") 230, val := .ref 47 }, { hash := PyData.keyHash P (Str.ofString "__doc__"), key := .str (Str.ofString "__doc__") 231, val := .none }] 3 }),
  (46, { cls := .type "type", data := Data.cls { name := Str.ofString "PaperError", bases := [.type "Exception"], mro := [.ref 46, .type "Exception", .type "BaseException", .type "object"], ns := 45, qualname := Str.ofString "PaperError" }, slots := #[some (.ref 22), none, some (.str (Str.ofString "PaperError") 196), some (.str (Str.ofString "PaperError") 204), some (.builtin "Exception.__new__"), some (.bool true)] }),
  (142, { cls := .type "dict", data := Data.dict #[{ hash := PyData.keyHash P (Str.ofString "__module__"), key := .str (Str.ofString "__module__") 245, val := .str (Str.ofString "paperhold.decimals") 236 }, { hash := PyData.keyHash P (Str.ofString "__firstlineno__"), key := .str (Str.ofString "__firstlineno__") 249, val := .int 15 248 }, { hash := PyData.keyHash P (Str.ofString "__init__"), key := .str (Str.ofString "__init__") 258, val := .ref 63 }, { hash := PyData.keyHash P (Str.ofString "plus"), key := .str (Str.ofString "plus") 266, val := .ref 70 }, { hash := PyData.keyHash P (Str.ofString "minus"), key := .str (Str.ofString "minus") 274, val := .ref 77 }, { hash := PyData.keyHash P (Str.ofString "times"), key := .str (Str.ofString "times") 282, val := .ref 84 }, { hash := PyData.keyHash P (Str.ofString "negated"), key := .str (Str.ofString "negated") 289, val := .ref 91 }, { hash := PyData.keyHash P (Str.ofString "compared"), key := .str (Str.ofString "compared") 297, val := .ref 98 }, { hash := PyData.keyHash P (Str.ofString "is_whole"), key := .str (Str.ofString "is_whole") 304, val := .ref 105 }, { hash := PyData.keyHash P (Str.ofString "floor"), key := .str (Str.ofString "floor") 311, val := .ref 112 }, { hash := PyData.keyHash P (Str.ofString "rounded"), key := .str (Str.ofString "rounded") 319, val := .ref 119 }, { hash := PyData.keyHash P (Str.ofString "told"), key := .str (Str.ofString "told") 326, val := .ref 126 }, { hash := PyData.keyHash P (Str.ofString "text"), key := .str (Str.ofString "text") 334, val := .ref 133 }, { hash := PyData.keyHash P (Str.ofString "least_text"), key := .str (Str.ofString "least_text") 341, val := .ref 140 }, { hash := PyData.keyHash P (Str.ofString "__static_attributes__"), key := .str (Str.ofString "__static_attributes__") 344, val := .ref 141 }, { hash := PyData.keyHash P (Str.ofString "__dict__"), key := .str (Str.ofString "__dict__") 346, val := .ref 144 }, { hash := PyData.keyHash P (Str.ofString "__weakref__"), key := .str (Str.ofString "__weakref__") 348, val := .ref 145 }, { hash := PyData.keyHash P (Str.ofString "__doc__"), key := .str (Str.ofString "__doc__") 349, val := .none }] 4 }),
  (143, { cls := .type "type", data := Data.cls { name := Str.ofString "Decimal", bases := [.type "object"], mro := [.ref 143, .type "object"], ns := 142, qualname := Str.ofString "Decimal" }, slots := #[none, none, some (.str (Str.ofString "Decimal") 238), some (.str (Str.ofString "Decimal") 246), some (.builtin "object.__new__"), some (.bool true)] }),
  (153, { cls := .type "code", data := Data.fields #[.str (Str.ofString "sign_text") 352, .str (Str.ofString "sign_text") 353, .str (Str.ofString "/claim/cut.py") 354, .int 60 0, .int 1 0, .int 0 0, .int 0 0, .int 3 0, .ref 148, .bool true, .int 181 0, .ref 149, .none, .ref 150, .ref 151, .ref 152, .int 356 0, .int 60 0, .str (Str.ofString "/claim/cut.py") 357] }),
  (154, { cls := .type "function", data := Data.func { name := Str.ofString "sign_text", qualname := Str.ofString "sign_text", params := fnArgs (topS 5), body := FuncBody.stmts (fnBody (topS 5)), scope := fnScope (topS 5), globals := 3, closure := [], defaults := .none, kwdefaults := .none, pyModule := .str (Str.ofString "paperhold.decimals") 236, code := .ref 153 } }),
  (167, { cls := .type "code", data := Data.fields #[.str (Str.ofString "__init__") 375, .str (Str.ofString "Name.__init__") 376, .str (Str.ofString "/claim/cut.py") 377, .int 66 0, .int 2 0, .int 0 0, .int 0 0, .int 3 0, .ref 162, .bool true, .int 181 0, .ref 163, .none, .ref 164, .ref 165, .ref 166, .int 380 0, .int 66 0, .str (Str.ofString "/claim/cut.py") 381] }),
  (168, { cls := .type "function", data := Data.func { name := Str.ofString "__init__", qualname := Str.ofString "Name.__init__", params := fnArgs (mth 8 0), body := FuncBody.stmts (fnBody (mth 8 0)), scope := fnScope (mth 8 0), globals := 3, closure := [], defaults := .none, kwdefaults := .none, pyModule := .str (Str.ofString "paperhold.objects") 359, code := .ref 167 } }),
  (170, { cls := .type "dict", data := Data.dict #[{ hash := PyData.keyHash P (Str.ofString "__module__"), key := .str (Str.ofString "__module__") 370, val := .str (Str.ofString "paperhold.objects") 359 }, { hash := PyData.keyHash P (Str.ofString "__firstlineno__"), key := .str (Str.ofString "__firstlineno__") 374, val := .int 64 373 }, { hash := PyData.keyHash P (Str.ofString "__init__"), key := .str (Str.ofString "__init__") 382, val := .ref 168 }, { hash := PyData.keyHash P (Str.ofString "__static_attributes__"), key := .str (Str.ofString "__static_attributes__") 384, val := .ref 169 }, { hash := PyData.keyHash P (Str.ofString "__dict__"), key := .str (Str.ofString "__dict__") 386, val := .ref 172 }, { hash := PyData.keyHash P (Str.ofString "__weakref__"), key := .str (Str.ofString "__weakref__") 388, val := .ref 173 }, { hash := PyData.keyHash P (Str.ofString "__doc__"), key := .str (Str.ofString "__doc__") 389, val := .none }] 4 }),
  (171, { cls := .type "type", data := Data.cls { name := Str.ofString "Name", bases := [.type "object"], mro := [.ref 171, .type "object"], ns := 170, qualname := Str.ofString "Name" }, slots := #[none, none, some (.str (Str.ofString "Name") 363), some (.str (Str.ofString "Name") 371), some (.builtin "object.__new__"), some (.bool true)] }),
  (192, { cls := .type "dict", data := Data.dict #[{ hash := PyData.keyHash P (Str.ofString "__module__"), key := .str (Str.ofString "__module__") 399, val := .str (Str.ofString "paperhold.objects") 359 }, { hash := PyData.keyHash P (Str.ofString "__firstlineno__"), key := .str (Str.ofString "__firstlineno__") 403, val := .int 68 402 }, { hash := PyData.keyHash P (Str.ofString "__init__"), key := .str (Str.ofString "__init__") 412, val := .ref 190 }, { hash := PyData.keyHash P (Str.ofString "__static_attributes__"), key := .str (Str.ofString "__static_attributes__") 415, val := .ref 191 }, { hash := PyData.keyHash P (Str.ofString "__dict__"), key := .str (Str.ofString "__dict__") 417, val := .ref 194 }, { hash := PyData.keyHash P (Str.ofString "__weakref__"), key := .str (Str.ofString "__weakref__") 419, val := .ref 195 }, { hash := PyData.keyHash P (Str.ofString "__doc__"), key := .str (Str.ofString "__doc__") 420, val := .none }] 4 }),
  (193, { cls := .type "type", data := Data.cls { name := Str.ofString "String", bases := [.type "object"], mro := [.ref 193, .type "object"], ns := 192, qualname := Str.ofString "String" }, slots := #[none, none, some (.str (Str.ofString "String") 392), some (.str (Str.ofString "String") 400), some (.builtin "object.__new__"), some (.bool true)] }),
  (210, { cls := .type "code", data := Data.fields #[.str (Str.ofString "__init__") 435, .str (Str.ofString "Stream.__init__") 436, .str (Str.ofString "/claim/cut.py") 437, .int 75 0, .int 3 0, .int 0 0, .int 0 0, .int 3 0, .ref 205, .bool true, .int 181 0, .ref 206, .none, .ref 207, .ref 208, .ref 209, .int 441 0, .int 75 0, .str (Str.ofString "/claim/cut.py") 442] }),
  (211, { cls := .type "function", data := Data.func { name := Str.ofString "__init__", qualname := Str.ofString "Stream.__init__", params := fnArgs (mth 10 0), body := FuncBody.stmts (fnBody (mth 10 0)), scope := fnScope (mth 10 0), globals := 3, closure := [], defaults := .none, kwdefaults := .none, pyModule := .str (Str.ofString "paperhold.objects") 359, code := .ref 210 } }),
  (213, { cls := .type "dict", data := Data.dict #[{ hash := PyData.keyHash P (Str.ofString "__module__"), key := .str (Str.ofString "__module__") 430, val := .str (Str.ofString "paperhold.objects") 359 }, { hash := PyData.keyHash P (Str.ofString "__firstlineno__"), key := .str (Str.ofString "__firstlineno__") 434, val := .int 73 433 }, { hash := PyData.keyHash P (Str.ofString "__init__"), key := .str (Str.ofString "__init__") 443, val := .ref 211 }, { hash := PyData.keyHash P (Str.ofString "__static_attributes__"), key := .str (Str.ofString "__static_attributes__") 446, val := .ref 212 }, { hash := PyData.keyHash P (Str.ofString "__dict__"), key := .str (Str.ofString "__dict__") 448, val := .ref 215 }, { hash := PyData.keyHash P (Str.ofString "__weakref__"), key := .str (Str.ofString "__weakref__") 450, val := .ref 216 }, { hash := PyData.keyHash P (Str.ofString "__doc__"), key := .str (Str.ofString "__doc__") 451, val := .none }] 4 }),
  (214, { cls := .type "type", data := Data.cls { name := Str.ofString "Stream", bases := [.type "object"], mro := [.ref 214, .type "object"], ns := 213, qualname := Str.ofString "Stream" }, slots := #[none, none, some (.str (Str.ofString "Stream") 423), some (.str (Str.ofString "Stream") 431), some (.builtin "object.__new__"), some (.bool true)] }),
  (231, { cls := .type "code", data := Data.fields #[.str (Str.ofString "__init__") 466, .str (Str.ofString "Reference.__init__") 467, .str (Str.ofString "/claim/cut.py") 468, .int 80 0, .int 3 0, .int 0 0, .int 0 0, .int 3 0, .ref 226, .bool true, .int 181 0, .ref 227, .none, .ref 228, .ref 229, .ref 230, .int 472 0, .int 80 0, .str (Str.ofString "/claim/cut.py") 473] }),
  (232, { cls := .type "function", data := Data.func { name := Str.ofString "__init__", qualname := Str.ofString "Reference.__init__", params := fnArgs (mth 11 0), body := FuncBody.stmts (fnBody (mth 11 0)), scope := fnScope (mth 11 0), globals := 3, closure := [], defaults := .none, kwdefaults := .none, pyModule := .str (Str.ofString "paperhold.objects") 359, code := .ref 231 } }),
  (238, { cls := .type "code", data := Data.fields #[.str (Str.ofString "pair") 475, .str (Str.ofString "Reference.pair") 476, .str (Str.ofString "/claim/cut.py") 477, .int 84 0, .int 1 0, .int 0 0, .int 0 0, .int 3 0, .ref 233, .bool true, .int 181 0, .ref 234, .none, .ref 235, .ref 236, .ref 237, .int 479 0, .int 84 0, .str (Str.ofString "/claim/cut.py") 480] }),
  (239, { cls := .type "function", data := Data.func { name := Str.ofString "pair", qualname := Str.ofString "Reference.pair", params := fnArgs (mth 11 1), body := FuncBody.stmts (fnBody (mth 11 1)), scope := fnScope (mth 11 1), globals := 3, closure := [], defaults := .none, kwdefaults := .none, pyModule := .str (Str.ofString "paperhold.objects") 359, code := .ref 238 } }),
  (241, { cls := .type "dict", data := Data.dict #[{ hash := PyData.keyHash P (Str.ofString "__module__"), key := .str (Str.ofString "__module__") 461, val := .str (Str.ofString "paperhold.objects") 359 }, { hash := PyData.keyHash P (Str.ofString "__firstlineno__"), key := .str (Str.ofString "__firstlineno__") 465, val := .int 78 464 }, { hash := PyData.keyHash P (Str.ofString "__init__"), key := .str (Str.ofString "__init__") 474, val := .ref 232 }, { hash := PyData.keyHash P (Str.ofString "pair"), key := .str (Str.ofString "pair") 481, val := .ref 239 }, { hash := PyData.keyHash P (Str.ofString "__static_attributes__"), key := .str (Str.ofString "__static_attributes__") 484, val := .ref 240 }, { hash := PyData.keyHash P (Str.ofString "__dict__"), key := .str (Str.ofString "__dict__") 486, val := .ref 243 }, { hash := PyData.keyHash P (Str.ofString "__weakref__"), key := .str (Str.ofString "__weakref__") 488, val := .ref 244 }, { hash := PyData.keyHash P (Str.ofString "__doc__"), key := .str (Str.ofString "__doc__") 489, val := .none }] 4 }),
  (242, { cls := .type "type", data := Data.cls { name := Str.ofString "Reference", bases := [.type "object"], mro := [.ref 242, .type "object"], ns := 241, qualname := Str.ofString "Reference" }, slots := #[none, none, some (.str (Str.ofString "Reference") 454), some (.str (Str.ofString "Reference") 462), some (.builtin "object.__new__"), some (.bool true)] }),
  (252, { cls := .type "code", data := Data.fields #[.str (Str.ofString "kind_of") 492, .str (Str.ofString "kind_of") 493, .str (Str.ofString "/claim/cut.py") 494, .int 86 0, .int 1 0, .int 0 0, .int 0 0, .int 3 0, .ref 247, .bool true, .int 181 0, .ref 248, .none, .ref 249, .ref 250, .ref 251, .int 496 0, .int 86 0, .str (Str.ofString "/claim/cut.py") 497] }),
  (253, { cls := .type "function", data := Data.func { name := Str.ofString "kind_of", qualname := Str.ofString "kind_of", params := fnArgs (topS 12), body := FuncBody.stmts (fnBody (topS 12)), scope := fnScope (topS 12), globals := 3, closure := [], defaults := .none, kwdefaults := .none, pyModule := .str (Str.ofString "paperhold.objects") 359, code := .ref 252 } }),
  (259, { cls := .type "code", data := Data.fields #[.str (Str.ofString "told_plain") 499, .str (Str.ofString "told_plain") 500, .str (Str.ofString "/claim/cut.py") 501, .int 108 0, .int 2 0, .int 0 0, .int 0 0, .int 3 0, .ref 254, .bool true, .int 181 0, .ref 255, .none, .ref 256, .ref 257, .ref 258, .int 504 0, .int 108 0, .str (Str.ofString "/claim/cut.py") 505] }),
  (260, { cls := .type "function", data := Data.func { name := Str.ofString "told_plain", qualname := Str.ofString "told_plain", params := fnArgs (topS 13), body := FuncBody.stmts (fnBody (topS 13)), scope := fnScope (topS 13), globals := 3, closure := [], defaults := .none, kwdefaults := .none, pyModule := .str (Str.ofString "paperhold.objects") 359, code := .ref 259 } }),
  (264, { cls := .type "code", data := Data.fields #[.str (Str.ofString "told") 507, .str (Str.ofString "told") 508, .str (Str.ofString "/claim/cut.py") 509, .int 122 0, .int 1 0, .int 0 0, .int 0 0, .int 3 0, .ref 261, .bool true, .int 181 0, .ref 262, .none, .none, .none, .ref 263, .int 510 0, .int 122 0, .str (Str.ofString "/claim/cut.py") 511] }),
  (265, { cls := .type "function", data := Data.func { name := Str.ofString "told", qualname := Str.ofString "told", params := fnArgs (topS 14), body := FuncBody.stmts (fnBody (topS 14)), scope := fnScope (topS 14), globals := 3, closure := [], defaults := .none, kwdefaults := .none, pyModule := .str (Str.ofString "paperhold.objects") 359, code := .ref 264 } }),
  (269, { cls := .type "code", data := Data.fields #[.str (Str.ofString "copied") 514, .str (Str.ofString "copied") 515, .str (Str.ofString "/claim/cut.py") 516, .int 132 0, .int 1 0, .int 0 0, .int 0 0, .int 3 0, .ref 266, .bool true, .int 181 0, .ref 267, .none, .none, .none, .ref 268, .int 517 0, .int 132 0, .str (Str.ofString "/claim/cut.py") 518] }),
  (270, { cls := .type "function", data := Data.func { name := Str.ofString "copied", qualname := Str.ofString "copied", params := fnArgs (topS 16), body := FuncBody.stmts (fnBody (topS 16)), scope := fnScope (topS 16), globals := 3, closure := [], defaults := .none, kwdefaults := .none, pyModule := .str (Str.ofString "paperhold.objects") 359, code := .ref 269 } }),
  (274, { cls := .type "code", data := Data.fields #[.str (Str.ofString "parts_of") 520, .str (Str.ofString "parts_of") 521, .str (Str.ofString "/claim/cut.py") 522, .int 141 0, .int 1 0, .int 0 0, .int 0 0, .int 3 0, .ref 271, .bool true, .int 181 0, .ref 272, .none, .none, .none, .ref 273, .int 523 0, .int 141 0, .str (Str.ofString "/claim/cut.py") 524] }),
  (275, { cls := .type "function", data := Data.func { name := Str.ofString "parts_of", qualname := Str.ofString "parts_of", params := fnArgs (topS 17), body := FuncBody.stmts (fnBody (topS 17)), scope := fnScope (topS 17), globals := 3, closure := [], defaults := .none, kwdefaults := .none, pyModule := .str (Str.ofString "paperhold.objects") 359, code := .ref 274 } }),
  (281, { cls := .type "code", data := Data.fields #[.str (Str.ofString "references_in") 526, .str (Str.ofString "references_in") 527, .str (Str.ofString "/claim/cut.py") 528, .int 150 0, .int 1 0, .int 0 0, .int 0 0, .int 3 0, .ref 276, .bool true, .int 181 0, .ref 277, .none, .ref 278, .ref 279, .ref 280, .int 534 0, .int 150 0, .str (Str.ofString "/claim/cut.py") 535] }),
  (282, { cls := .type "function", data := Data.func { name := Str.ofString "references_in", qualname := Str.ofString "references_in", params := fnArgs (topS 18), body := FuncBody.stmts (fnBody (topS 18)), scope := fnScope (topS 18), globals := 3, closure := [], defaults := .none, kwdefaults := .none, pyModule := .str (Str.ofString "paperhold.objects") 359, code := .ref 281 } }),
  (286, { cls := .type "code", data := Data.fields #[.str (Str.ofString "renumbered") 537, .str (Str.ofString "renumbered") 538, .str (Str.ofString "/claim/cut.py") 539, .int 163 0, .int 2 0, .int 0 0, .int 0 0, .int 3 0, .ref 283, .bool true, .int 181 0, .ref 284, .none, .none, .none, .ref 285, .int 540 0, .int 163 0, .str (Str.ofString "/claim/cut.py") 541] }),
  (287, { cls := .type "function", data := Data.func { name := Str.ofString "renumbered", qualname := Str.ofString "renumbered", params := fnArgs (topS 19), body := FuncBody.stmts (fnBody (topS 19)), scope := fnScope (topS 19), globals := 3, closure := [], defaults := .none, kwdefaults := .none, pyModule := .str (Str.ofString "paperhold.objects") 359, code := .ref 286 } }),
  (295, { cls := .type "tuple", data := Data.seq #[.none, .none] }),
  (301, { cls := .type "code", data := Data.fields #[.str (Str.ofString "__init__") 555, .str (Str.ofString "Lookup.__init__") 556, .str (Str.ofString "/claim/cut.py") 557, .int 180 0, .int 3 0, .int 0 0, .int 0 0, .int 3 0, .ref 296, .bool true, .int 181 0, .ref 297, .none, .ref 298, .ref 299, .ref 300, .int 561 0, .int 180 0, .str (Str.ofString "/claim/cut.py") 562] }),
  (302, { cls := .type "function", data := Data.func { name := Str.ofString "__init__", qualname := Str.ofString "Lookup.__init__", params := fnArgs (mth 20 0), body := FuncBody.stmts (fnBody (mth 20 0)), scope := fnScope (mth 20 0), globals := 3, closure := [], defaults := .ref 295, kwdefaults := .none, pyModule := .str (Str.ofString "paperhold.objects") 359, code := .ref 301 } }),
  (318, { cls := .type "dict", data := Data.dict #[{ hash := PyData.keyHash P (Str.ofString "__module__"), key := .str (Str.ofString "__module__") 550, val := .str (Str.ofString "paperhold.objects") 359 }, { hash := PyData.keyHash P (Str.ofString "__firstlineno__"), key := .str (Str.ofString "__firstlineno__") 554, val := .int 178 553 }, { hash := PyData.keyHash P (Str.ofString "__init__"), key := .str (Str.ofString "__init__") 563, val := .ref 302 }, { hash := PyData.keyHash P (Str.ofString "fetch"), key := .str (Str.ofString "fetch") 575, val := .ref 309 }, { hash := PyData.keyHash P (Str.ofString "get"), key := .str (Str.ofString "get") 584, val := .ref 316 }, { hash := PyData.keyHash P (Str.ofString "__static_attributes__"), key := .str (Str.ofString "__static_attributes__") 587, val := .ref 317 }, { hash := PyData.keyHash P (Str.ofString "__dict__"), key := .str (Str.ofString "__dict__") 589, val := .ref 320 }, { hash := PyData.keyHash P (Str.ofString "__weakref__"), key := .str (Str.ofString "__weakref__") 591, val := .ref 321 }, { hash := PyData.keyHash P (Str.ofString "__doc__"), key := .str (Str.ofString "__doc__") 592, val := .none }] 4 }),
  (319, { cls := .type "type", data := Data.cls { name := Str.ofString "Lookup", bases := [.type "object"], mro := [.ref 319, .type "object"], ns := 318, qualname := Str.ofString "Lookup", subclasses := [.ref 373] }, slots := #[none, none, some (.str (Str.ofString "Lookup") 543), some (.str (Str.ofString "Lookup") 551), some (.builtin "object.__new__"), some (.bool true)] }),
  (336, { cls := .type "code", data := Data.fields #[.str (Str.ofString "put") 607, .str (Str.ofString "Shelf.put") 608, .str (Str.ofString "/claim/cut.py") 609, .int 199 0, .int 4 0, .int 0 0, .int 0 0, .int 3 0, .ref 331, .bool true, .int 181 0, .ref 332, .none, .ref 333, .ref 334, .ref 335, .int 614 0, .int 199 0, .str (Str.ofString "/claim/cut.py") 615] }),
  (337, { cls := .type "function", data := Data.func { name := Str.ofString "put", qualname := Str.ofString "Shelf.put", params := fnArgs (mth 21 0), body := FuncBody.stmts (fnBody (mth 21 0)), scope := fnScope (mth 21 0), globals := 3, closure := [], defaults := .none, kwdefaults := .none, pyModule := .str (Str.ofString "paperhold.objects") 359, code := .ref 336 } }),
  (357, { cls := .type "code", data := Data.fields #[.str (Str.ofString "numbers") 633, .str (Str.ofString "Shelf.numbers") 634, .str (Str.ofString "/claim/cut.py") 635, .int 208 0, .int 1 0, .int 0 0, .int 0 0, .int 3 0, .ref 352, .bool true, .int 181 0, .ref 353, .none, .ref 354, .ref 355, .ref 356, .int 637 0, .int 208 0, .str (Str.ofString "/claim/cut.py") 638] }),
  (358, { cls := .type "function", data := Data.func { name := Str.ofString "numbers", qualname := Str.ofString "Shelf.numbers", params := fnArgs (mth 21 3), body := FuncBody.stmts (fnBody (mth 21 3)), scope := fnScope (mth 21 3), globals := 3, closure := [], defaults := .none, kwdefaults := .none, pyModule := .str (Str.ofString "paperhold.objects") 359, code := .ref 357 } }),
  (369, { cls := .type "code", data := Data.fields #[.str (Str.ofString "told") 647, .str (Str.ofString "Shelf.told") 648, .str (Str.ofString "/claim/cut.py") 649, .int 214 0, .int 1 0, .int 0 0, .int 0 0, .int 3 0, .ref 366, .bool true, .int 181 0, .ref 367, .none, .none, .none, .ref 368, .int 650 0, .int 214 0, .str (Str.ofString "/claim/cut.py") 651] }),
  (370, { cls := .type "function", data := Data.func { name := Str.ofString "told", qualname := Str.ofString "Shelf.told", params := fnArgs (mth 21 5), body := FuncBody.stmts (fnBody (mth 21 5)), scope := fnScope (mth 21 5), globals := 3, closure := [], defaults := .none, kwdefaults := .none, pyModule := .str (Str.ofString "paperhold.objects") 359, code := .ref 369 } }),
  (372, { cls := .type "dict", data := Data.dict #[{ hash := PyData.keyHash P (Str.ofString "__module__"), key := .str (Str.ofString "__module__") 602, val := .str (Str.ofString "paperhold.objects") 359 }, { hash := PyData.keyHash P (Str.ofString "__firstlineno__"), key := .str (Str.ofString "__firstlineno__") 606, val := .int 197 605 }, { hash := PyData.keyHash P (Str.ofString "put"), key := .str (Str.ofString "put") 616, val := .ref 337 }, { hash := PyData.keyHash P (Str.ofString "add"), key := .str (Str.ofString "add") 624, val := .ref 344 }, { hash := PyData.keyHash P (Str.ofString "drop"), key := .str (Str.ofString "drop") 632, val := .ref 351 }, { hash := PyData.keyHash P (Str.ofString "numbers"), key := .str (Str.ofString "numbers") 639, val := .ref 358 }, { hash := PyData.keyHash P (Str.ofString "root"), key := .str (Str.ofString "root") 646, val := .ref 365 }, { hash := PyData.keyHash P (Str.ofString "told"), key := .str (Str.ofString "told") 652, val := .ref 370 }, { hash := PyData.keyHash P (Str.ofString "__static_attributes__"), key := .str (Str.ofString "__static_attributes__") 653, val := .ref 371 }, { hash := PyData.keyHash P (Str.ofString "__doc__"), key := .str (Str.ofString "__doc__") 654, val := .none }] 2 }),
  (373, { cls := .type "type", data := Data.cls { name := Str.ofString "Shelf", bases := [.ref 319], mro := [.ref 373, .ref 319, .type "object"], ns := 372, qualname := Str.ofString "Shelf" }, slots := #[some (.ref 324), none, some (.str (Str.ofString "Shelf") 595), some (.str (Str.ofString "Shelf") 603), some (.builtin "object.__new__"), some (.bool true)] }),
  (381, { cls := .type "code", data := Data.fields #[.str (Str.ofString "shelf_copied") 657, .str (Str.ofString "shelf_copied") 658, .str (Str.ofString "/claim/cut.py") 659, .int 217 0, .int 1 0, .int 0 0, .int 0 0, .int 3 0, .ref 376, .bool true, .int 181 0, .ref 377, .none, .ref 378, .ref 379, .ref 380, .int 665 0, .int 217 0, .str (Str.ofString "/claim/cut.py") 666] }),
  (382, { cls := .type "function", data := Data.func { name := Str.ofString "shelf_copied", qualname := Str.ofString "shelf_copied", params := fnArgs (topS 22), body := FuncBody.stmts (fnBody (topS 22)), scope := fnScope (topS 22), globals := 3, closure := [], defaults := .none, kwdefaults := .none, pyModule := .str (Str.ofString "paperhold.objects") 359, code := .ref 381 } }),
  (383, { cls := .type "tuple", data := Data.seq #[.str (Str.ofString "Size") 670, .str (Str.ofString "Prev") 671, .str (Str.ofString "XRefStm") 672] }),
  (389, { cls := .type "code", data := Data.fields #[.str (Str.ofString "is_there") 674, .str (Str.ofString "is_there") 675, .str (Str.ofString "/claim/cut.py") 676, .int 225 0, .int 2 0, .int 0 0, .int 0 0, .int 3 0, .ref 384, .bool true, .int 181 0, .ref 385, .none, .ref 386, .ref 387, .ref 388, .int 681 0, .int 225 0, .str (Str.ofString "/claim/cut.py") 682] }),
  (390, { cls := .type "function", data := Data.func { name := Str.ofString "is_there", qualname := Str.ofString "is_there", params := fnArgs (topS 25), body := FuncBody.stmts (fnBody (topS 25)), scope := fnScope (topS 25), globals := 3, closure := [], defaults := .none, kwdefaults := .none, pyModule := .str (Str.ofString "paperhold.gather") 668, code := .ref 389 } }),
  (394, { cls := .type "code", data := Data.fields #[.str (Str.ofString "plain_trailer") 684, .str (Str.ofString "plain_trailer") 685, .str (Str.ofString "/claim/cut.py") 686, .int 228 0, .int 1 0, .int 0 0, .int 0 0, .int 3 0, .ref 391, .bool true, .int 181 0, .ref 392, .none, .none, .none, .ref 393, .int 687 0, .int 228 0, .str (Str.ofString "/claim/cut.py") 688] }),
  (395, { cls := .type "function", data := Data.func { name := Str.ofString "plain_trailer", qualname := Str.ofString "plain_trailer", params := fnArgs (topS 26), body := FuncBody.stmts (fnBody (topS 26)), scope := fnScope (topS 26), globals := 3, closure := [], defaults := .none, kwdefaults := .none, pyModule := .str (Str.ofString "paperhold.gather") 668, code := .ref 394 } }),
  (399, { cls := .type "code", data := Data.fields #[.str (Str.ofString "walk") 690, .str (Str.ofString "walk") 691, .str (Str.ofString "/claim/cut.py") 692, .int 230 0, .int 2 0, .int 0 0, .int 0 0, .int 3 0, .ref 396, .bool true, .int 181 0, .ref 397, .none, .none, .none, .ref 398, .int 693 0, .int 230 0, .str (Str.ofString "/claim/cut.py") 694] }),
  (400, { cls := .type "function", data := Data.func { name := Str.ofString "walk", qualname := Str.ofString "walk", params := fnArgs (topS 27), body := FuncBody.stmts (fnBody (topS 27)), scope := fnScope (topS 27), globals := 3, closure := [], defaults := .none, kwdefaults := .none, pyModule := .str (Str.ofString "paperhold.gather") 668, code := .ref 399 } }),
  (404, { cls := .type "code", data := Data.fields #[.str (Str.ofString "reached") 696, .str (Str.ofString "reached") 697, .str (Str.ofString "/claim/cut.py") 698, .int 241 0, .int 2 0, .int 0 0, .int 0 0, .int 3 0, .ref 401, .bool true, .int 181 0, .ref 402, .none, .none, .none, .ref 403, .int 699 0, .int 241 0, .str (Str.ofString "/claim/cut.py") 700] }),
  (405, { cls := .type "function", data := Data.func { name := Str.ofString "reached", qualname := Str.ofString "reached", params := fnArgs (topS 28), body := FuncBody.stmts (fnBody (topS 28)), scope := fnScope (topS 28), globals := 3, closure := [], defaults := .none, kwdefaults := .none, pyModule := .str (Str.ofString "paperhold.gather") 668, code := .ref 404 } }),
  (409, { cls := .type "code", data := Data.fields #[.str (Str.ofString "unreached") 702, .str (Str.ofString "unreached") 703, .str (Str.ofString "/claim/cut.py") 704, .int 243 0, .int 1 0, .int 0 0, .int 0 0, .int 3 0, .ref 406, .bool true, .int 181 0, .ref 407, .none, .none, .none, .ref 408, .int 705 0, .int 243 0, .str (Str.ofString "/claim/cut.py") 706] }),
  (410, { cls := .type "function", data := Data.func { name := Str.ofString "unreached", qualname := Str.ofString "unreached", params := fnArgs (topS 29), body := FuncBody.stmts (fnBody (topS 29)), scope := fnScope (topS 29), globals := 3, closure := [], defaults := .none, kwdefaults := .none, pyModule := .str (Str.ofString "paperhold.gather") 668, code := .ref 409 } }),
  (416, { cls := .type "code", data := Data.fields #[.str (Str.ofString "compacted") 708, .str (Str.ofString "compacted") 709, .str (Str.ofString "/claim/cut.py") 710, .int 246 0, .int 1 0, .int 0 0, .int 0 0, .int 3 0, .ref 411, .bool true, .int 181 0, .ref 412, .none, .ref 413, .ref 414, .ref 415, .int 717 0, .int 246 0, .str (Str.ofString "/claim/cut.py") 718] }),
  (417, { cls := .type "function", data := Data.func { name := Str.ofString "compacted", qualname := Str.ofString "compacted", params := fnArgs (topS 30), body := FuncBody.stmts (fnBody (topS 30)), scope := fnScope (topS 30), globals := 3, closure := [], defaults := .none, kwdefaults := .none, pyModule := .str (Str.ofString "paperhold.gather") 668, code := .ref 416 } }),
  (423, { cls := .type "code", data := Data.fields #[.str (Str.ofString "seen_as") 720, .str (Str.ofString "seen_as") 721, .str (Str.ofString "/claim/cut.py") 722, .int 256 0, .int 2 0, .int 0 0, .int 0 0, .int 3 0, .ref 418, .bool true, .int 181 0, .ref 419, .none, .ref 420, .ref 421, .ref 422, .int 725 0, .int 256 0, .str (Str.ofString "/claim/cut.py") 726] }),
  (424, { cls := .type "function", data := Data.func { name := Str.ofString "seen_as", qualname := Str.ofString "seen_as", params := fnArgs (topS 31), body := FuncBody.stmts (fnBody (topS 31)), scope := fnScope (topS 31), globals := 3, closure := [], defaults := .none, kwdefaults := .none, pyModule := .str (Str.ofString "paperhold.gather") 668, code := .ref 423 } }),
  (428, { cls := .type "code", data := Data.fields #[.str (Str.ofString "solid_keys") 728, .str (Str.ofString "solid_keys") 729, .str (Str.ofString "/claim/cut.py") 730, .int 260 0, .int 2 0, .int 0 0, .int 0 0, .int 3 0, .ref 425, .bool true, .int 181 0, .ref 426, .none, .none, .none, .ref 427, .int 731 0, .int 260 0, .str (Str.ofString "/claim/cut.py") 732] }),
  (429, { cls := .type "function", data := Data.func { name := Str.ofString "solid_keys", qualname := Str.ofString "solid_keys", params := fnArgs (topS 32), body := FuncBody.stmts (fnBody (topS 32)), scope := fnScope (topS 32), globals := 3, closure := [], defaults := .none, kwdefaults := .none, pyModule := .str (Str.ofString "paperhold.gather") 668, code := .ref 428 } }),
  (442, { cls := .type "code", data := Data.fields #[.str (Str.ofString "__init__") 746, .str (Str.ofString "Twin.__init__") 747, .str (Str.ofString "/claim/cut.py") 748, .int 264 0, .int 3 0, .int 0 0, .int 0 0, .int 3 0, .ref 437, .bool true, .int 181 0, .ref 438, .none, .ref 439, .ref 440, .ref 441, .int 752 0, .int 264 0, .str (Str.ofString "/claim/cut.py") 753] }),
  (443, { cls := .type "function", data := Data.func { name := Str.ofString "__init__", qualname := Str.ofString "Twin.__init__", params := fnArgs (mth 33 0), body := FuncBody.stmts (fnBody (mth 33 0)), scope := fnScope (mth 33 0), globals := 3, closure := [], defaults := .none, kwdefaults := .none, pyModule := .str (Str.ofString "paperhold.gather") 668, code := .ref 442 } }),
  (449, { cls := .type "code", data := Data.fields #[.str (Str.ofString "meet") 755, .str (Str.ofString "Twin.meet") 756, .str (Str.ofString "/claim/cut.py") 757, .int 271 0, .int 3 0, .int 0 0, .int 0 0, .int 3 0, .ref 444, .bool true, .int 181 0, .ref 445, .none, .ref 446, .ref 447, .ref 448, .int 764 0, .int 271 0, .str (Str.ofString "/claim/cut.py") 765] }),
  (450, { cls := .type "function", data := Data.func { name := Str.ofString "meet", qualname := Str.ofString "Twin.meet", params := fnArgs (mth 33 1), body := FuncBody.stmts (fnBody (mth 33 1)), scope := fnScope (mth 33 1), globals := 3, closure := [], defaults := .none, kwdefaults := .none, pyModule := .str (Str.ofString "paperhold.gather") 668, code := .ref 449 } }),
  (456, { cls := .type "code", data := Data.fields #[.str (Str.ofString "meet_dicts") 767, .str (Str.ofString "Twin.meet_dicts") 768, .str (Str.ofString "/claim/cut.py") 769, .int 288 0, .int 3 0, .int 0 0, .int 0 0, .int 3 0, .ref 451, .bool true, .int 181 0, .ref 452, .none, .ref 453, .ref 454, .ref 455, .int 775 0, .int 288 0, .str (Str.ofString "/claim/cut.py") 776] }),
  (457, { cls := .type "function", data := Data.func { name := Str.ofString "meet_dicts", qualname := Str.ofString "Twin.meet_dicts", params := fnArgs (mth 33 2), body := FuncBody.stmts (fnBody (mth 33 2)), scope := fnScope (mth 33 2), globals := 3, closure := [], defaults := .none, kwdefaults := .none, pyModule := .str (Str.ofString "paperhold.gather") 668, code := .ref 456 } }),
  (463, { cls := .type "code", data := Data.fields #[.str (Str.ofString "meet_references") 778, .str (Str.ofString "Twin.meet_references") 779, .str (Str.ofString "/claim/cut.py") 780, .int 296 0, .int 3 0, .int 0 0, .int 0 0, .int 3 0, .ref 458, .bool true, .int 181 0, .ref 459, .none, .ref 460, .ref 461, .ref 462, .int 784 0, .int 296 0, .str (Str.ofString "/claim/cut.py") 785] }),
  (464, { cls := .type "function", data := Data.func { name := Str.ofString "meet_references", qualname := Str.ofString "Twin.meet_references", params := fnArgs (mth 33 3), body := FuncBody.stmts (fnBody (mth 33 3)), scope := fnScope (mth 33 3), globals := 3, closure := [], defaults := .none, kwdefaults := .none, pyModule := .str (Str.ofString "paperhold.gather") 668, code := .ref 463 } }),
  (466, { cls := .type "dict", data := Data.dict #[{ hash := PyData.keyHash P (Str.ofString "__module__"), key := .str (Str.ofString "__module__") 741, val := .str (Str.ofString "paperhold.gather") 668 }, { hash := PyData.keyHash P (Str.ofString "__firstlineno__"), key := .str (Str.ofString "__firstlineno__") 745, val := .int 262 744 }, { hash := PyData.keyHash P (Str.ofString "__init__"), key := .str (Str.ofString "__init__") 754, val := .ref 443 }, { hash := PyData.keyHash P (Str.ofString "meet"), key := .str (Str.ofString "meet") 766, val := .ref 450 }, { hash := PyData.keyHash P (Str.ofString "meet_dicts"), key := .str (Str.ofString "meet_dicts") 777, val := .ref 457 }, { hash := PyData.keyHash P (Str.ofString "meet_references"), key := .str (Str.ofString "meet_references") 786, val := .ref 464 }, { hash := PyData.keyHash P (Str.ofString "__static_attributes__"), key := .str (Str.ofString "__static_attributes__") 792, val := .ref 465 }, { hash := PyData.keyHash P (Str.ofString "__dict__"), key := .str (Str.ofString "__dict__") 794, val := .ref 468 }, { hash := PyData.keyHash P (Str.ofString "__weakref__"), key := .str (Str.ofString "__weakref__") 796, val := .ref 469 }, { hash := PyData.keyHash P (Str.ofString "__doc__"), key := .str (Str.ofString "__doc__") 797, val := .none }] 4 }),
  (467, { cls := .type "type", data := Data.cls { name := Str.ofString "Twin", bases := [.type "object"], mro := [.ref 467, .type "object"], ns := 466, qualname := Str.ofString "Twin" }, slots := #[none, none, some (.str (Str.ofString "Twin") 734), some (.str (Str.ofString "Twin") 742), some (.builtin "object.__new__"), some (.bool true)] }),
  (477, { cls := .type "code", data := Data.fields #[.str (Str.ofString "alike") 800, .str (Str.ofString "alike") 801, .str (Str.ofString "/claim/cut.py") 802, .int 303 0, .int 2 0, .int 0 0, .int 0 0, .int 3 0, .ref 472, .bool true, .int 181 0, .ref 473, .none, .ref 474, .ref 475, .ref 476, .int 808 0, .int 303 0, .str (Str.ofString "/claim/cut.py") 809] }),
  (478, { cls := .type "function", data := Data.func { name := Str.ofString "alike", qualname := Str.ofString "alike", params := fnArgs (topS 34), body := FuncBody.stmts (fnBody (topS 34)), scope := fnScope (topS 34), globals := 3, closure := [], defaults := .none, kwdefaults := .none, pyModule := .str (Str.ofString "paperhold.gather") 668, code := .ref 477 } }),
  (484, { cls := .type "code", data := Data.fields #[.str (Str.ofString "_law_pen") 813, .str (Str.ofString "_law_pen") 814, .str (Str.ofString "/claim/cut.py") 815, .int 312 0, .int 1 0, .int 0 0, .int 0 0, .int 3 0, .ref 479, .bool true, .int 181 0, .ref 480, .none, .ref 481, .ref 482, .ref 483, .int 819 0, .int 312 0, .str (Str.ofString "/claim/cut.py") 820] }),
  (485, { cls := .type "function", data := Data.func { name := Str.ofString "_law_pen", qualname := Str.ofString "_law_pen", params := fnArgs (topS 36), body := FuncBody.stmts (fnBody (topS 36)), scope := fnScope (topS 36), globals := 3, closure := [], defaults := .none, kwdefaults := .none, pyModule := .str (Str.ofString "law_nn0134_01") 811, code := .ref 484 } }),
  (491, { cls := .type "code", data := Data.fields #[.str (Str.ofString "_law_draw") 822, .str (Str.ofString "_law_draw") 823, .str (Str.ofString "/claim/cut.py") 824, .int 317 0, .int 2 0, .int 0 0, .int 0 0, .int 3 0, .ref 486, .bool true, .int 181 0, .ref 487, .none, .ref 488, .ref 489, .ref 490, .int 828 0, .int 317 0, .str (Str.ofString "/claim/cut.py") 829] }),
  (492, { cls := .type "function", data := Data.func { name := Str.ofString "_law_draw", qualname := Str.ofString "_law_draw", params := fnArgs (topS 37), body := FuncBody.stmts (fnBody (topS 37)), scope := fnScope (topS 37), globals := 3, closure := [], defaults := .none, kwdefaults := .none, pyModule := .str (Str.ofString "law_nn0134_01") 811, code := .ref 491 } }),
  (496, { cls := .type "code", data := Data.fields #[.str (Str.ofString "_law_value") 831, .str (Str.ofString "_law_value") 832, .str (Str.ofString "/claim/cut.py") 833, .int 324 0, .int 2 0, .int 0 0, .int 0 0, .int 3 0, .ref 493, .bool true, .int 181 0, .ref 494, .none, .none, .none, .ref 495, .int 834 0, .int 324 0, .str (Str.ofString "/claim/cut.py") 835] }),
  (497, { cls := .type "function", data := Data.func { name := Str.ofString "_law_value", qualname := Str.ofString "_law_value", params := fnArgs (topS 38), body := FuncBody.stmts (fnBody (topS 38)), scope := fnScope (topS 38), globals := 3, closure := [], defaults := .none, kwdefaults := .none, pyModule := .str (Str.ofString "law_nn0134_01") 811, code := .ref 496 } }),
  (503, { cls := .type "code", data := Data.fields #[.str (Str.ofString "_law_shelf") 837, .str (Str.ofString "_law_shelf") 838, .str (Str.ofString "/claim/cut.py") 839, .int 338 0, .int 1 0, .int 0 0, .int 0 0, .int 3 0, .ref 498, .bool true, .int 181 0, .ref 499, .none, .ref 500, .ref 501, .ref 502, .int 843 0, .int 338 0, .str (Str.ofString "/claim/cut.py") 844] }),
  (504, { cls := .type "function", data := Data.func { name := Str.ofString "_law_shelf", qualname := Str.ofString "_law_shelf", params := fnArgs (topS 39), body := FuncBody.stmts (fnBody (topS 39)), scope := fnScope (topS 39), globals := 3, closure := [], defaults := .none, kwdefaults := .none, pyModule := .str (Str.ofString "law_nn0134_01") 811, code := .ref 503 } }),
  (508, { cls := .type "code", data := Data.fields #[.str (Str.ofString "_law_unfolded") 846, .str (Str.ofString "_law_unfolded") 847, .str (Str.ofString "/claim/cut.py") 848, .int 345 0, .int 3 0, .int 0 0, .int 0 0, .int 3 0, .ref 505, .bool true, .int 181 0, .ref 506, .none, .none, .none, .ref 507, .int 849 0, .int 345 0, .str (Str.ofString "/claim/cut.py") 850] }),
  (509, { cls := .type "function", data := Data.func { name := Str.ofString "_law_unfolded", qualname := Str.ofString "_law_unfolded", params := fnArgs (topS 40), body := FuncBody.stmts (fnBody (topS 40)), scope := fnScope (topS 40), globals := 3, closure := [], defaults := .none, kwdefaults := .none, pyModule := .str (Str.ofString "law_nn0134_01") 811, code := .ref 508 } }),
  (513, { cls := .type "code", data := Data.fields #[.str (Str.ofString "_law_flood") 852, .str (Str.ofString "_law_flood") 853, .str (Str.ofString "/claim/cut.py") 854, .int 358 0, .int 2 0, .int 0 0, .int 0 0, .int 3 0, .ref 510, .bool true, .int 181 0, .ref 511, .none, .none, .none, .ref 512, .int 855 0, .int 358 0, .str (Str.ofString "/claim/cut.py") 856] }),
  (514, { cls := .type "function", data := Data.func { name := Str.ofString "_law_flood", qualname := Str.ofString "_law_flood", params := fnArgs (topS 41), body := FuncBody.stmts (fnBody (topS 41)), scope := fnScope (topS 41), globals := 3, closure := [], defaults := .none, kwdefaults := .none, pyModule := .str (Str.ofString "law_nn0134_01") 811, code := .ref 513 } }),
  (520, { cls := .type "code", data := Data.fields #[.str (Str.ofString "_law_turned") 858, .str (Str.ofString "_law_turned") 859, .str (Str.ofString "/claim/cut.py") 860, .int 367 0, .int 2 0, .int 0 0, .int 0 0, .int 3 0, .ref 515, .bool true, .int 181 0, .ref 516, .none, .ref 517, .ref 518, .ref 519, .int 869 0, .int 367 0, .str (Str.ofString "/claim/cut.py") 870] }),
  (521, { cls := .type "function", data := Data.func { name := Str.ofString "_law_turned", qualname := Str.ofString "_law_turned", params := fnArgs (topS 42), body := FuncBody.stmts (fnBody (topS 42)), scope := fnScope (topS 42), globals := 3, closure := [], defaults := .none, kwdefaults := .none, pyModule := .str (Str.ofString "law_nn0134_01") 811, code := .ref 520 } }),
  (527, { cls := .type "code", data := Data.fields #[.str (Str.ofString "_law_second") 872, .str (Str.ofString "_law_second") 873, .str (Str.ofString "/claim/cut.py") 874, .int 378 0, .int 2 0, .int 0 0, .int 0 0, .int 3 0, .ref 522, .bool true, .int 181 0, .ref 523, .none, .ref 524, .ref 525, .ref 526, .int 880 0, .int 378 0, .str (Str.ofString "/claim/cut.py") 881] }),
  (528, { cls := .type "function", data := Data.func { name := Str.ofString "_law_second", qualname := Str.ofString "_law_second", params := fnArgs (topS 43), body := FuncBody.stmts (fnBody (topS 43)), scope := fnScope (topS 43), globals := 3, closure := [], defaults := .none, kwdefaults := .none, pyModule := .str (Str.ofString "law_nn0134_01") 811, code := .ref 527 } }),
  (532, { cls := .type "code", data := Data.fields #[.str (Str.ofString "law") 883, .str (Str.ofString "law") 884, .str (Str.ofString "/claim/cut.py") 885, .int 389 0, .int 1 0, .int 0 0, .int 0 0, .int 3 0, .ref 529, .bool true, .int 181 0, .ref 530, .none, .none, .none, .ref 531, .int 886 0, .int 389 0, .str (Str.ofString "/claim/cut.py") 887] }),
  (533, { cls := .type "function", data := Data.func { name := Str.ofString "law", qualname := Str.ofString "law", params := fnArgs (topS 44), body := FuncBody.stmts (fnBody (topS 44)), scope := fnScope (topS 44), globals := 3, closure := [], defaults := .none, kwdefaults := .none, pyModule := .str (Str.ofString "law_nn0134_01") 811, code := .ref 532 } })]
noncomputable def hd.ats : List Addr := [2, 3, 45, 46, 142, 143, 153, 154, 167, 168, 170, 171, 192, 193, 210, 211, 213, 214, 231, 232, 238, 239, 241, 242, 252, 253, 259, 260, 264, 265, 269, 270, 274, 275, 281, 282, 286, 287, 295, 301, 302, 318, 319, 336, 337, 357, 358, 369, 370, 372, 373, 381, 382, 383, 389, 390, 394, 395, 399, 400, 404, 405, 409, 410, 416, 417, 423, 424, 428, 429, 442, 443, 449, 450, 456, 457, 463, 464, 466, 467, 477, 478, 484, 485, 491, 492, 496, 497, 503, 504, 508, 509, 513, 514, 520, 521, 527, 528, 532, 533]
noncomputable def hd.view_39 : Program := view pw [44]
noncomputable def hd.loose : List Str := [Str.ofString "_wall", Str.ofString "PaperError", Str.ofString "Decimal", Str.ofString "sign_text", Str.ofString "MOST_HOPS", Str.ofString "Name", Str.ofString "String", Str.ofString "Stream", Str.ofString "Reference", Str.ofString "kind_of", Str.ofString "told_plain", Str.ofString "told", Str.ofString "told_objects", Str.ofString "copied", Str.ofString "parts_of", Str.ofString "references_in", Str.ofString "renumbered", Str.ofString "Lookup", Str.ofString "Shelf", Str.ofString "shelf_copied", Str.ofString "PLACES_OF_FILES", Str.ofString "is_there", Str.ofString "plain_trailer", Str.ofString "walk", Str.ofString "reached", Str.ofString "unreached", Str.ofString "compacted", Str.ofString "seen_as", Str.ofString "solid_keys", Str.ofString "Twin", Str.ofString "alike", Str.ofString "_law_pen", Str.ofString "_law_draw", Str.ofString "_law_value", Str.ofString "_law_shelf", Str.ofString "_law_unfolded", Str.ofString "_law_flood", Str.ofString "_law_turned", Str.ofString "_law_second"]
noncomputable def hd.hook : Hook := kHook hd.heap_39 hd.ats (fun _ => by kernel_rfl)
noncomputable def hd.lawD : DefRec := ((defOf hd.view_39 "law").get (by kernel_rfl)).1
noncomputable def bootT (P : Params) : BT := (BT.node (boot_o_0 P) (BT.node (boot_o_1 P) (BT.node (boot_o_3 P) (BT.node (boot_o_7 P) BT.nil BT.nil) BT.nil) (BT.node (boot_o_5 P) (BT.node (boot_o_9 P) BT.nil BT.nil) BT.nil)) (BT.node (boot_o_2 P) (BT.node (boot_o_4 P) (BT.node (boot_o_8 P) BT.nil BT.nil) BT.nil) (BT.node (boot_o_6 P) (BT.node (boot_o_10 P) BT.nil BT.nil) BT.nil)))
noncomputable def topRunT (p : Program) (w : World) (n₀ : Nat) (ann : Option Value) : Nat → SharedT → Thread → Option SharedT
  | 0, _, _ => none
  | n + 1, s, t => match through t with
    | true => some s
    | false => match PySem.W.Fast.tw6613529449190102663 n₀ ann t with
      | false => none
      | true => match PySem.W.Fast.tw10156331382660048174 (PySem.W.Fast.tw11892475500146522536 PySem.W.Fast.tw14364793385576792824) p w s t with
        | some (s', t') => topRunT p w n₀ ann n s' t'
        | none => none
theorem topRunE {p : Program} {w : World} {n₀ : Nat} {ann : Option Value} {n : Nat} {s : SharedT} {t : Thread} : topRunT p w n₀ ann (n + 1) s t = match through t with
    | true => some s
    | false => match PySem.W.Fast.tw6613529449190102663 n₀ ann t with
      | false => none
      | true => match PySem.W.Fast.tw10156331382660048174 (PySem.W.Fast.tw11892475500146522536 PySem.W.Fast.tw14364793385576792824) p w s t with
        | some (s', t') => topRunT p w n₀ ann n s' t'
        | none => none := rfl
theorem q_step : PySem.W.Fast.tw10156331382660048174 (PySem.W.Fast.tw11892475500146522536 PySem.W.Fast.tw14364793385576792824) = stepT (denote treeTable) := by rw [← PySem.W.Fast.te10156331382660048174, ← PySem.W.Fast.te11892475500146522536, ← PySem.W.Fast.te14364793385576792824]
theorem topRunT_of {p : Program} {w : World} {n₀ : Nat} {ann : Option Value} : ∀ {n : Nat} {s s' : SharedT} {t : Thread}, topRunT p w n₀ ann n s t = some s' → topRun treeTable p w n₀ ann n s.abs t = some s'.abs
  | 0, _, _, _, h => by cases h
  | n + 1, s, s', t, h => by
    unfold topRun
    cases he : through t with
    | true => rw [topRunE, he] at h; cases h; rfl
    | false =>
      rw [topRunE, he] at h
      rw [PySem.W.Fast.te6613529449190102663]
      cases hk : PySem.W.Fast.tw6613529449190102663 n₀ ann t with
      | false => rw [hk] at h; cases h
      | true =>
        rw [hk] at h
        cases hs : PySem.W.Fast.tw10156331382660048174 (PySem.W.Fast.tw11892475500146522536 PySem.W.Fast.tw14364793385576792824) p w s t with
        | none => rw [hs] at h; cases h
        | some r => rw [hs] at h; rw [stepT_spec ((congrFun (congrFun (congrFun (congrFun q_step p) w) s) t).symm.trans hs)]; exact topRunT_of h
theorem left_of_T {p q : Program} {loose : List Str} {Xt : Shared → Bool} {α : Type} {Yf : Shared → α} {Ya : World → α} {N : Nat} {m₀ : Nat} {ann : Option Value} {T : Params → BT}
    (e : opening p = plainProg p.main.scope.names) (hN : Nat.ble 600 N = true) (f : ∀ s, fenceModules? p s = some s) (hT : ∀ P, boot_heap P = absHeap (T P) m₀ {})
    (size : ∀ w : World, ((boot_heap w.params).isNs mainGlobals, (boot_heap w.params).objs.size, (boot_heap w.params).nsMap mainGlobals "__annotations__") = (true, m₀, ann))
    (run : ∀ (w : World) (os : OsState), (topRunT p w m₀ ann N ⟨T w.params, m₀, {}, Array.mk [], boot_drawn, boot_toks, os⟩ (topStub p)).map (fun s => ((staticsOk (importedModules p.main.body) (boot_heap w.params) s.abs.heap && namesBound p s.abs.heap && gensDone s.abs && laidKept (boot_heap w.params) s.abs.heap),
      openSeen q loose (importedModules p.main.body) Xt true s.abs, Yf s.abs)) = some (true, openGood q loose, Ya w)) : LeftO p q loose Xt Yf Ya N := fun w => by
  obtain ⟨⟨h, gs, d, k, os⟩, e1, e2⟩ := Option.map_eq_some_iff.mp (boot_open e hN f w)
  obtain ⟨rfl, rfl, rfl, rfl⟩ : h = boot_heap w.params ∧ gs = Array.mk [] ∧ d = boot_drawn ∧ k = boot_toks := by simpa using e2
  obtain ⟨z1, z2, z3⟩ : _ ∧ _ ∧ _ := by simpa only [Prod.mk.injEq] using size w
  obtain ⟨s1, r1, r2⟩ := Option.map_eq_some_iff.mp (run w os)
  obtain ⟨l1, l2, l3⟩ : _ ∧ _ ∧ _ := by simpa only [Prod.mk.injEq] using r2
  have r := topRunT_of r1
  unfold openEnds
  rw [e1]
  show (topFrom treeTable p w N _).map _ = _
  have t : topFrom treeTable p w N ⟨boot_heap w.params, Array.mk [], boot_drawn, boot_toks, os⟩ = some s1.abs := by
    unfold topFrom
    dsimp only
    rw [z1, z2, z3]
    have r' : topRun treeTable p w m₀ ann N ⟨boot_heap w.params, Array.mk [], boot_drawn, boot_toks, os⟩ (topStub p) = some s1.abs := by rw [hT]; exact r
    rw [r']
    show (match staticsOk (importedModules p.main.body) (boot_heap w.params) s1.abs.heap && namesBound p s1.abs.heap && gensDone s1.abs && laidKept (boot_heap w.params) s1.abs.heap with | true => _ | false => _) = _
    rw [l1]
  rw [t]
  show some (_, _) = some (_, _)
  rw [l2, l3]
theorem hd.left : LeftO PySem.Challenge.rw_nn0134_01.row.prog hd.view_39 hd.loose (fun s => xlAt hd.view_39 [] s && recOk (RowW.records PySem.Challenge.rw_nn0134_01.row.toRowW) s) (Hook.obs hd.hook) (Hook.val hd.hook) 7484 :=
  left_of_T (T := bootT) (m₀ := 11) (ann := some (.ref 6)) (by kernel_rfl) rfl (fun _ => by kernel_rfl) (fun _ => by kernel_rfl) (fun _ => by kernel_rfl) (fun w os => by kernel_rfl)
end
end SP
namespace SP
section
set_option maxRecDepth 100000
set_option maxHeartbeats 4000000
open PySem PySem.W PySem.W.X PySem.Calls PyProof.Rows
theorem hd.said : PySem.Challenge.rw_nn0134_01.wellSaid = true := by
  refine (congrFun PySem.W.Fast.te9446332074065402090 _).trans ?_
  iterate 18 refine look_both ?_ ?_
  · iterate 2 refine look_both ?_ ?_
    · iterate 13 refine look_both ?_ ?_
      · iterate 5 refine look_both ?_ ?_
        · kernel_rfl
        · kernel_rfl
        · decide +kernel
        · kernel_rfl
        all_goals decide +kernel
      all_goals kernel_rfl
    all_goals kernel_rfl
  · kernel_rfl
  · kernel_rfl
  · decide +kernel
  · kernel_rfl
  · kernel_rfl
  · decide +kernel
  · kernel_rfl
  · decide +kernel
  · kernel_rfl
  · decide +kernel
  · kernel_rfl
  · kernel_rfl
  · decide +kernel
  · kernel_rfl
  · kernel_rfl
  · kernel_rfl
  · decide +kernel
  · decide +kernel
theorem hd (call : WalkO hd.view_39 hd.loose (XL hd.view_39 []) (Hook.says hd.hook) PySem.Challenge.rw_nn0134_01.row.toRowW hd.lawD [] fun f vs => PySem.call f vs) : PySem.Challenge.rw_nn0134_01.Holds := by
  w_on
  refine holds_law hd.said fun said => ?_
  refine holds_open (q := hd.view_39) (loose := hd.loose) (Xt := fun s => xlAt hd.view_39 [] s && recOk (RowW.records PySem.Challenge.rw_nn0134_01.row.toRowW) s) (XP := XL hd.view_39 []) (Yf := Hook.obs hd.hook) (Ya := Hook.val hd.hook) (YP := Hook.says hd.hook) (N := 7484) (d := hd.lawD) (kwd := [])
    hd.left (Hook.of hd.hook) (Hook.keeps hd.hook) (fun s e => xl_of s (Bool.and_eq_true_iff.mp e).1) XL.keeps (by kernel_rfl) (by kernel_rfl) (by rfl) (fun s e => recFacts_of (Bool.and_eq_true_iff.mp e).2) (by rfl) said (by decide +kernel) ⟨rfl, rfl, rfl, rfl, rfl, by decide +kernel⟩ ?hw call
  case hw => w_witness2
end
end SP
namespace SP
open PySem PySem.W PySem.Calls PyProof.Rows
inductive V where
  | none | bool (b : Bool) | int (i : Int) | str (x : Str) | bytes (b : Array UInt8)
  | tup (xs : List V) | list (xs : List V)
  | dS (kvs : List (Str × V)) | dI (kvs : List (Int × V)) | dP (kvs : List (List Int × V))
  | inst (C : Addr) (fs : List (Str × V))
  | rng (a b : Int)
  | ref (a : Addr) | typ (T : String)
noncomputable abbrev Fz := Addr → Option Obj
noncomputable def ext (Z Z' : Fz) : Prop := ∀ a o, Z a = some o → Z' a = some o
theorem ext.rfl {Z : Fz} : ext Z Z := fun _ _ e => e
theorem ext.trans {Z Z' Z'' : Fz} (x : ext Z Z') (y : ext Z' Z'') : ext Z Z'' := fun a o e => y a o (x a o e)
noncomputable def tupObj (vs : List Value) (n : Nat) : Obj := ⟨.type "tuple", none, .seq vs.toArray n, #[]⟩
noncomputable def listObj (vs : List Value) (n : Nat) : Obj := ⟨.type "list", none, .seq vs.toArray n, #[]⟩
noncomputable def dictObj (es : List DictEntry) (n : Nat) : Obj := ⟨.type "dict", none, .dict es.toArray n, #[]⟩
noncomputable def instObj (C : Addr) (d : Option Addr) : Obj := ⟨.ref C, d, .plain, #[]⟩
noncomputable def keyS (w : World) (e : DictEntry) (k : Str) : Prop := (∃ t, e.key = .str k t) ∧ e.hash = hashStr w k
noncomputable def keyI (e : DictEntry) (k : Int) : Prop := (∃ t, e.key = .int k t) ∧ e.hash = hashInt k
inductive IntsV : List Int → List Value → Prop
  | nil : IntsV [] []
  | cons {k ks vs} (t) : IntsV ks vs → IntsV (k :: ks) (.int k t :: vs)
noncomputable def keyP (Z : Fz) (e : DictEntry) (k : List Int) : Prop :=
  (∃ a n vs, e.key = .ref a ∧ Z a = some (tupObj vs n) ∧ IntsV k vs) ∧ e.hash = reduceHash (Builtin.Tuple.tupleHashOf (k.map hashInt))
inductive VRel (w : World) (Z : Fz) : V → Value → Prop
  | none : VRel w Z .none .none
  | bool (b) : VRel w Z (.bool b) (.bool b)
  | int (i t) : VRel w Z (.int i) (.int i t)
  | str (x t) : VRel w Z (.str x) (.str x t)
  | bytes (b t) : VRel w Z (.bytes b) (.bytes b t)
  | ref (a) : VRel w Z (.ref a) (.ref a)
  | typ (T) : VRel w Z (.typ T) (.type T)
  | rng {a b : Int} {r t u v} : Z r = some ⟨.type "range", .none, .fields #[.int a t, .int b u, .int 1 v], #[]⟩ → VRel w Z (.rng a b) (.ref r)
  | tup {xs : List V} {vs : List Value} {a n} : Z a = some (tupObj vs n) → xs.length = vs.length → (∀ (i : Nat) x v, xs[i]? = some x → vs[i]? = some v → VRel w Z x v) → VRel w Z (.tup xs) (.ref a)
  | list {xs : List V} {vs : List Value} {a n} : Z a = some (listObj vs n) → xs.length = vs.length → (∀ (i : Nat) x v, xs[i]? = some x → vs[i]? = some v → VRel w Z x v) → VRel w Z (.list xs) (.ref a)
  | dS {kvs : List (Str × V)} {es : List DictEntry} {a n} : a ≠ sysModules → Z a = some (dictObj es n) → kvs.length = es.length → (∀ (i : Nat) k x e, kvs[i]? = some (k, x) → es[i]? = some e → keyS w e k) →
      (∀ (i : Nat) k x e, kvs[i]? = some (k, x) → es[i]? = some e → VRel w Z x e.val) → (kvs.map (·.1)).Nodup → VRel w Z (.dS kvs) (.ref a)
  | dI {kvs : List (Int × V)} {es : List DictEntry} {a n} : a ≠ sysModules → Z a = some (dictObj es n) → kvs.length = es.length → (∀ (i : Nat) k x e, kvs[i]? = some (k, x) → es[i]? = some e → keyI e k) →
      (∀ (i : Nat) k x e, kvs[i]? = some (k, x) → es[i]? = some e → VRel w Z x e.val) → (kvs.map (·.1)).Nodup → VRel w Z (.dI kvs) (.ref a)
  | dP {kvs : List (List Int × V)} {es : List DictEntry} {a n} : a ≠ sysModules → Z a = some (dictObj es n) → kvs.length = es.length → (∀ (i : Nat) k x e, kvs[i]? = some (k, x) → es[i]? = some e → keyP Z e k) →
      (∀ (i : Nat) k x e, kvs[i]? = some (k, x) → es[i]? = some e → VRel w Z x e.val) → (kvs.map (·.1)).Nodup → VRel w Z (.dP kvs) (.ref a)
  | inst {C : Addr} {fs : List (Str × V)} {es : List DictEntry} {a d n} : Z a = some (instObj C (some d)) → Z d = some (dictObj es n) → fs.length = es.length →
      (∀ (i : Nat) k x e, fs[i]? = some (k, x) → es[i]? = some e → ∃ t, e.key = .str k t) →
      (∀ (i : Nat) k x e, fs[i]? = some (k, x) → es[i]? = some e → VRel w Z x e.val) → VRel w Z (.inst C fs) (.ref a)
theorem VRel.mono {w : World} {Z Z' : Fz} (h : ext Z Z') {x : V} {v : Value} (r : VRel w Z x v) : VRel w Z' x v := by
  induction r with
  | none => exact .none
  | bool b => exact .bool b
  | int i t => exact .int i t
  | str x t => exact .str x t
  | bytes b t => exact .bytes b t
  | ref a => exact .ref a
  | typ T => exact .typ T
  | rng e => exact .rng (h _ _ e)
  | tup e l _ ih => exact .tup (h _ _ e) l ih
  | list e l _ ih => exact .list (h _ _ e) l ih
  | dS q e l k _ nd ih => exact .dS q (h _ _ e) l k ih nd
  | dI q e l k _ nd ih => exact .dI q (h _ _ e) l k ih nd
  | dP q e l k _ nd ih => exact .dP q (h _ _ e) l (fun i a b c d f => let ⟨⟨a', n, vs, e1, e2, e4⟩, e3⟩ := k i a b c d f; ⟨⟨a', n, vs, e1, h _ _ e2, e4⟩, e3⟩) ih nd
  | inst e e' l k _ ih => exact .inst (h _ _ e) (h _ _ e') l k ih
noncomputable def VInv (w : World) (Z : Fz) : V → Value → Prop
  | .none, v => v = .none
  | .bool b, v => v = .bool b
  | .int i, v => ∃ t, v = .int i t
  | .str x, v => ∃ t, v = .str x t
  | .bytes b, v => ∃ t, v = .bytes b t
  | .ref a, v => v = .ref a
  | .typ T, v => v = .type T
  | .rng a b, v => ∃ r t u q, v = .ref r ∧ Z r = some ⟨.type "range", .none, .fields #[.int a t, .int b u, .int 1 q], #[]⟩
  | .tup xs, v => ∃ vs a n, v = .ref a ∧ Z a = some (tupObj vs n) ∧ xs.length = vs.length ∧ ∀ (i : Nat) x v, xs[i]? = some x → vs[i]? = some v → VRel w Z x v
  | .list xs, v => ∃ vs a n, v = .ref a ∧ Z a = some (listObj vs n) ∧ xs.length = vs.length ∧ ∀ (i : Nat) x v, xs[i]? = some x → vs[i]? = some v → VRel w Z x v
  | .inst C fs, v => ∃ es a d n, v = .ref a ∧ Z a = some (instObj C (some d)) ∧ Z d = some (dictObj es n) ∧ fs.length = es.length ∧
      (∀ (i : Nat) k x e, fs[i]? = some (k, x) → es[i]? = some e → ∃ t, e.key = .str k t) ∧ (∀ (i : Nat) k x e, fs[i]? = some (k, x) → es[i]? = some e → VRel w Z x e.val)
  | _, _ => True
theorem VRel.inv {w : World} {Z : Fz} {x : V} {v : Value} (r : VRel w Z x v) : VInv w Z x v := by
  cases r with
  | none => exact rfl
  | bool b => exact rfl
  | int i t => exact ⟨t, rfl⟩
  | str x t => exact ⟨t, rfl⟩
  | bytes b t => exact ⟨t, rfl⟩
  | ref a => exact rfl
  | typ T => exact rfl
  | rng e => exact ⟨_, _, _, _, rfl, e⟩
  | tup e l h => exact ⟨_, _, _, rfl, e, l, h⟩
  | list e l h => exact ⟨_, _, _, rfl, e, l, h⟩
  | inst e e' l k h => exact ⟨_, _, _, _, rfl, e, e', l, k, h⟩
  | dS => exact trivial
  | dI => exact trivial
  | dP => exact trivial
inductive Cell where
  | list (xs : List V)
  | dS (kvs : List (Str × V)) | dI (kvs : List (Int × V)) | dP (kvs : List (List Int × V))
  | inst (C : Addr) (d : Option Addr)
  | flds (fs : List (Str × V))
noncomputable def VRels (w : World) (Z : Fz) (xs : List V) (vs : List Value) : Prop := xs.length = vs.length ∧ ∀ (i : Nat) x v, xs[i]? = some x → vs[i]? = some v → VRel w Z x v
noncomputable def EntS (w : World) (Z : Fz) (kvs : List (Str × V)) (es : List DictEntry) : Prop := kvs.length = es.length ∧ (∀ (i : Nat) k x e, kvs[i]? = some (k, x) → es[i]? = some e → keyS w e k) ∧
  (∀ (i : Nat) k x e, kvs[i]? = some (k, x) → es[i]? = some e → VRel w Z x e.val) ∧ (kvs.map (·.1)).Nodup
noncomputable def EntI (w : World) (Z : Fz) (kvs : List (Int × V)) (es : List DictEntry) : Prop := kvs.length = es.length ∧ (∀ (i : Nat) k x e, kvs[i]? = some (k, x) → es[i]? = some e → keyI e k) ∧
  (∀ (i : Nat) k x e, kvs[i]? = some (k, x) → es[i]? = some e → VRel w Z x e.val) ∧ (kvs.map (·.1)).Nodup
noncomputable def EntP (w : World) (Z : Fz) (kvs : List (List Int × V)) (es : List DictEntry) : Prop := kvs.length = es.length ∧ (∀ (i : Nat) k x e, kvs[i]? = some (k, x) → es[i]? = some e → keyP Z e k) ∧
  (∀ (i : Nat) k x e, kvs[i]? = some (k, x) → es[i]? = some e → VRel w Z x e.val) ∧ (kvs.map (·.1)).Nodup
noncomputable def EntF (w : World) (Z : Fz) (fs : List (Str × V)) (es : List DictEntry) : Prop := fs.length = es.length ∧ (∀ (i : Nat) k x e, fs[i]? = some (k, x) → es[i]? = some e → ∃ t, e.key = .str k t) ∧
  (∀ (i : Nat) k x e, fs[i]? = some (k, x) → es[i]? = some e → VRel w Z x e.val)
inductive CRel (w : World) (Z : Fz) : Cell → Obj → Prop
  | list {xs vs n} : VRels w Z xs vs → CRel w Z (.list xs) (listObj vs n)
  | dS {kvs es n} : EntS w Z kvs es → CRel w Z (.dS kvs) (dictObj es n)
  | dI {kvs es n} : EntI w Z kvs es → CRel w Z (.dI kvs) (dictObj es n)
  | dP {kvs es n} : EntP w Z kvs es → CRel w Z (.dP kvs) (dictObj es n)
  | inst {C d} : CRel w Z (.inst C d) (instObj C d)
  | flds {fs es n} : EntF w Z fs es → CRel w Z (.flds fs) (dictObj es n)
noncomputable def CInv (w : World) (Z : Fz) : Cell → Obj → Prop
  | .list xs, o => ∃ vs n, o = listObj vs n ∧ VRels w Z xs vs
  | .dS kvs, o => ∃ es n, o = dictObj es n ∧ EntS w Z kvs es
  | .dI kvs, o => ∃ es n, o = dictObj es n ∧ EntI w Z kvs es
  | .dP kvs, o => ∃ es n, o = dictObj es n ∧ EntP w Z kvs es
  | .flds fs, o => ∃ es n, o = dictObj es n ∧ EntF w Z fs es
  | .inst C d, o => o = instObj C d
theorem CRel.inv {w : World} {Z : Fz} {c : Cell} {o : Obj} (r : CRel w Z c o) : CInv w Z c o := by
  cases r with
  | list r => exact ⟨_, _, rfl, r⟩
  | dS r => exact ⟨_, _, rfl, r⟩
  | dI r => exact ⟨_, _, rfl, r⟩
  | dP r => exact ⟨_, _, rfl, r⟩
  | flds r => exact ⟨_, _, rfl, r⟩
  | inst => exact rfl
theorem VRels.mono {w : World} {Z Z' : Fz} (h : ext Z Z') {xs vs} (r : VRels w Z xs vs) : VRels w Z' xs vs := ⟨r.1, fun i x v a b => (r.2 i x v a b).mono h⟩
theorem EntS.mono {w : World} {Z Z' : Fz} (h : ext Z Z') {xs vs} (r : EntS w Z xs vs) : EntS w Z' xs vs := ⟨r.1, r.2.1, fun i k x v a b => (r.2.2.1 i k x v a b).mono h, r.2.2.2⟩
theorem EntI.mono {w : World} {Z Z' : Fz} (h : ext Z Z') {xs vs} (r : EntI w Z xs vs) : EntI w Z' xs vs := ⟨r.1, r.2.1, fun i k x v a b => (r.2.2.1 i k x v a b).mono h, r.2.2.2⟩
theorem keyP.mono {Z Z' : Fz} (h : ext Z Z') {e k} (r : keyP Z e k) : keyP Z' e k := let ⟨⟨a', n, vs, e1, e2, e4⟩, e3⟩ := r; ⟨⟨a', n, vs, e1, h _ _ e2, e4⟩, e3⟩
theorem EntP.mono {w : World} {Z Z' : Fz} (h : ext Z Z') {xs vs} (r : EntP w Z xs vs) : EntP w Z' xs vs := ⟨r.1, fun i k x v a b => (r.2.1 i k x v a b).mono h, fun i k x v a b => (r.2.2.1 i k x v a b).mono h, r.2.2.2⟩
theorem EntF.mono {w : World} {Z Z' : Fz} (h : ext Z Z') {xs vs} (r : EntF w Z xs vs) : EntF w Z' xs vs := ⟨r.1, r.2.1, fun i k x v a b => (r.2.2 i k x v a b).mono h⟩
theorem CRel.mono {w : World} {Z Z' : Fz} (h : ext Z Z') {c o} (r : CRel w Z c o) : CRel w Z' c o := by
  cases r with
  | list r => exact .list (r.mono h)
  | dS r => exact .dS (r.mono h)
  | dI r => exact .dI (r.mono h)
  | dP r => exact .dP (r.mono h)
  | inst => exact .inst
  | flds r => exact .flds (r.mono h)
theorem CRel.notFreed {w : World} {Z : Fz} {c o} (r : CRel w Z c o) : o.isFreed = false := by cases r <;> rfl
theorem VRels.nil {w : World} {Z : Fz} : VRels w Z [] [] := ⟨rfl, fun _ _ _ h => by simp at h⟩
theorem VRels.cons {w : World} {Z : Fz} {x v xs vs} (a : VRel w Z x v) (b : VRels w Z xs vs) : VRels w Z (x :: xs) (v :: vs) := by
  refine ⟨by simp [b.1], fun i y u h1 h2 => ?_⟩
  cases i with
  | zero => simp at h1 h2; subst h1 h2; exact a
  | succ i => simp at h1 h2; exact b.2 i y u h1 h2
theorem VRels.cons_inv {w : World} {Z : Fz} {x xs vs} (r : VRels w Z (x :: xs) vs) : ∃ v us, vs = v :: us ∧ VRel w Z x v ∧ VRels w Z xs us := by
  obtain ⟨l, h⟩ := r
  cases vs with
  | nil => simp at l
  | cons v us => exact ⟨v, us, rfl, h 0 x v rfl rfl, by simpa using l, fun i y u a b => h (i + 1) y u (by simpa using a) (by simpa using b)⟩
theorem VRels.nil_inv {w : World} {Z : Fz} {vs} (r : VRels w Z [] vs) : vs = [] := by
  have := r.1; cases vs <;> simp_all
theorem VRels.append {w : World} {Z : Fz} {xs vs ys us} (a : VRels w Z xs vs) (b : VRels w Z ys us) : VRels w Z (xs ++ ys) (vs ++ us) := by
  refine ⟨by simp [a.1, b.1], fun i x v h1 h2 => ?_⟩
  rcases Nat.lt_or_ge i xs.length with h | h
  · rw [List.getElem?_append_left h] at h1
    rw [List.getElem?_append_left (a.1 ▸ h)] at h2
    exact a.2 i x v h1 h2
  · rw [List.getElem?_append_right h] at h1
    rw [List.getElem?_append_right (a.1 ▸ h)] at h2
    exact b.2 _ x v h1 (a.1 ▸ h2)
theorem VRels.one {w : World} {Z : Fz} {x v} (a : VRel w Z x v) : VRels w Z [x] [v] := .cons a .nil
theorem VRels.at {w : World} {Z : Fz} {xs vs} (r : VRels w Z xs vs) {i : Nat} {x : V} (h : xs[i]? = some x) : ∃ v, vs[i]? = some v ∧ VRel w Z x v := by
  have hl : i < vs.length := r.1 ▸ (List.getElem?_eq_some_iff.mp h).1
  exact ⟨vs[i], by simp [hl], r.2 i x _ h (by simp [hl])⟩
structure Cx where
  prog : Program
  w : World
  K : Frag
  h₀ : Heap
  os₀ : OsState
  mb : Str → Option Value
  X : K.In h₀
  B : h₀.Ns builtinsNs mb
  hb : ∀ x : Str, x ≠ "__name__" → mb x = bootBuiltins x
  NL : h₀.NoLimit
noncomputable abbrev Mu := Addr → Option Cell
structure Rel (C : Cx) (Z : Fz) (μ : Mu) (ρ : Fz) (s : Shared) : Prop where
  base : ∀ a o, C.h₀.get? a = some o → Z a = some o
  z : ∀ a o, Z a = some o → s.heap.get? a = some o
  r : ∀ a o, ρ a = some o → s.heap.get? a = some o
  m : ∀ a c, μ a = some c → ∃ o, s.heap.get? a = some o ∧ CRel C.w Z c o
  zr : ∀ a o, Z a = some o → ρ a = none
  zm : ∀ a o, Z a = some o → μ a = none
  rm : ∀ a o, ρ a = some o → μ a = none
  gens : s.gens = #[]
  os : s.os = C.os₀
  lo : ∀ a c, μ a = some c → a ≠ sysModules
section
variable {C : Cx} {Z : Fz} {μ : Mu} {ρ : Fz} {s : Shared}
theorem Rel.keep (R : Rel C Z μ ρ s) : ∀ a o, C.h₀.get? a = some o → s.heap.get? a = some o := fun a o e => R.z a o (R.base a o e)
theorem Rel.X (R : Rel C Z μ ρ s) : C.K.In s.heap := C.X.keeps R.keep
theorem Rel.NL (R : Rel C Z μ ρ s) : s.heap.NoLimit := C.NL.keeps R.keep
theorem Rel.Bn (R : Rel C Z μ ρ s) : s.heap.Ns builtinsNs C.mb := C.B.keeps R.keep
theorem Rel.size3 (R : Rel C Z μ ρ s) : @LT.lt Nat _ 2 s.heap.objs.size := by
  obtain ⟨mc, h, _⟩ := R.NL
  exact h.lt
theorem Rel.lt_z (R : Rel C Z μ ρ s) {a o} (e : Z a = some o) : @LT.lt Nat _ a s.heap.objs.size := Heap.lt_size (R.z a o e)
theorem Rel.lt_r (R : Rel C Z μ ρ s) {a o} (e : ρ a = some o) : @LT.lt Nat _ a s.heap.objs.size := Heap.lt_size (R.r a o e)
theorem Rel.lt_m (R : Rel C Z μ ρ s) {a c} (e : μ a = some c) : @LT.lt Nat _ a s.heap.objs.size := let ⟨_, h, _⟩ := R.m a c e; Heap.lt_size h
theorem Rel.newZ (R : Rel C Z μ ρ s) : Z s.heap.objs.size = none := by
  cases h : Z s.heap.objs.size with
  | none => rfl
  | some o => exact absurd (R.lt_z h) (Nat.lt_irrefl _)
theorem Rel.newR (R : Rel C Z μ ρ s) : ρ s.heap.objs.size = none := by
  cases h : ρ s.heap.objs.size with
  | none => rfl
  | some o => exact absurd (R.lt_r h) (Nat.lt_irrefl _)
theorem Rel.newM (R : Rel C Z μ ρ s) : μ s.heap.objs.size = none := by
  cases h : μ s.heap.objs.size with
  | none => rfl
  | some o => exact absurd (R.lt_m h) (Nat.lt_irrefl _)
theorem Rel.heap (R : Rel C Z μ ρ s) {s' : Shared} (hz : ∀ a o, Z a = some o → s'.heap.get? a = some o) (hr : ∀ a o, ρ a = some o → s'.heap.get? a = some o)
    (hm : ∀ a c o, μ a = some c → s.heap.get? a = some o → s'.heap.get? a = some o) (hg : s'.gens = s.gens) (ho : s'.os = s.os) : Rel C Z μ ρ s' :=
  ⟨R.base, hz, hr, fun a c e => let ⟨o, h1, h2⟩ := R.m a c e; ⟨o, hm a c o e h1, h2⟩, R.zr, R.zm, R.rm, hg.trans R.gens, ho.trans R.os, R.lo⟩
theorem Rel.grow (R : Rel C Z μ ρ s) {s' : Shared} (hk : ∀ a o, s.heap.get? a = some o → s'.heap.get? a = some o) (hg : s'.gens = s.gens) (ho : s'.os = s.os) : Rel C Z μ ρ s' :=
  R.heap (fun a o e => hk a o (R.z a o e)) (fun a o e => hk a o (R.r a o e)) (fun a _ o _ e => hk a o e) hg ho
theorem Rel.tok (R : Rel C Z μ ρ s) (t : Nat) : Rel C Z μ ρ { s with toks := t } := R.heap R.z R.r (fun _ _ _ _ e => e) rfl rfl
theorem size_push (h : Heap) (o : Obj) : (h.push o).objs.size = h.objs.size + 1 := by cases h; simp [Heap.push]
theorem Rel.push (R : Rel C Z μ ρ s) (o : Obj) (t : Nat) : Rel C Z μ ρ { s with heap := s.heap.push o, toks := t } :=
  R.grow (fun _ _ e => Heap.get?_push_of_some _ e) rfl rfl
noncomputable def fup {α : Type} (f : Addr → Option α) (a : Addr) (x : Option α) : Addr → Option α := fun b => if b = a then x else f b
theorem fup_self {α : Type} (f : Addr → Option α) (a : Addr) (x : Option α) : fup f a x a = x := by simp [fup]
theorem fup_ne {α : Type} (f : Addr → Option α) {a b : Addr} (x : Option α) (h : b ≠ a) : fup f a x b = f b := by simp [fup, h]
theorem ext_fup {Z : Fz} {a : Addr} {o : Obj} (h : Z a = none) : ext Z (fup Z a (some o)) := fun b o' e => by
  by_cases hb : b = a
  · subst hb; rw [h] at e; cases e
  · rw [fup_ne _ _ hb]; exact e
theorem Rel.pushZ (R : Rel C Z μ ρ s) (o : Obj) (t : Nat) (hf : o.isFreed = false := by rfl) : Rel C (fup Z s.heap.objs.size (some o)) μ ρ { s with heap := s.heap.push o, toks := t } := by
  have hn := R.newZ
  refine ⟨fun a o' e => ext_fup hn a o' (R.base a o' e), fun a o' e => ?_, fun a o' e => Heap.get?_push_of_some _ (R.r a o' e), fun a c e => ?_, fun a o' e => ?_, fun a o' e => ?_, R.rm, R.gens, R.os, R.lo⟩
  · by_cases hb : a = s.heap.objs.size
    · subst hb; rw [fup_self] at e; cases e; exact Heap.get?_push_size _ hf
    · rw [fup_ne _ _ hb] at e; exact Heap.get?_push_of_some _ (R.z a o' e)
  · obtain ⟨o1, h1, h2⟩ := R.m a c e; exact ⟨o1, Heap.get?_push_of_some _ h1, h2.mono (ext_fup hn)⟩
  · by_cases hb : a = s.heap.objs.size
    · subst hb; exact R.newR
    · rw [fup_ne _ _ hb] at e; exact R.zr a o' e
  · by_cases hb : a = s.heap.objs.size
    · subst hb; exact R.newM
    · rw [fup_ne _ _ hb] at e; exact R.zm a o' e
theorem Rel.pushM (R : Rel C Z μ ρ s) {o : Obj} {c : Cell} (hc : CRel C.w Z c o) (t : Nat) : Rel C Z (fup μ s.heap.objs.size (some c)) ρ { s with heap := s.heap.push o, toks := t } := by
  refine ⟨R.base, fun a o' e => Heap.get?_push_of_some _ (R.z a o' e), fun a o' e => Heap.get?_push_of_some _ (R.r a o' e), fun a c' e => ?_, R.zr, fun a o' e => ?_, fun a o' e => ?_, R.gens, R.os, fun a c' e => ?_⟩
  · by_cases hb : a = s.heap.objs.size
    · subst hb; rw [fup_self] at e; cases e; exact ⟨o, Heap.get?_push_size _ hc.notFreed, hc⟩
    · rw [fup_ne _ _ hb] at e; obtain ⟨o1, h1, h2⟩ := R.m a c' e; exact ⟨o1, Heap.get?_push_of_some _ h1, h2⟩
  · rw [fup_ne _ _ (Nat.ne_of_lt (R.lt_z e))]; exact R.zm a o' e
  · rw [fup_ne _ _ (Nat.ne_of_lt (R.lt_r e))]; exact R.rm a o' e
  · by_cases hb : a = s.heap.objs.size
    · subst hb; have h1 := R.size3; show s.heap.objs.size ≠ 1; omega
    · rw [fup_ne _ _ hb] at e; exact R.lo a c' e
theorem Rel.setM (R : Rel C Z μ ρ s) {a : Addr} {c c' : Cell} {o' : Obj} {s' : Shared} (hc : μ a = some c) (hs : Heap.SameBut a s.heap s'.heap) (ho : s'.heap.get? a = some o') (hr : CRel C.w Z c' o')
    (hg : s'.gens = s.gens := by rfl) (hos : s'.os = s.os := by rfl) : Rel C Z (fup μ a (some c')) ρ s' := by
  have nz : ∀ b o, Z b = some o → b ≠ a := fun b o e h => by have := R.zm b o e; rw [h, hc] at this; cases this
  have nr : ∀ b o, ρ b = some o → b ≠ a := fun b o e h => by have := R.rm b o e; rw [h, hc] at this; cases this
  refine ⟨R.base, fun b o e => (hs.2 b (nz b o e)).trans (R.z b o e), fun b o e => (hs.2 b (nr b o e)).trans (R.r b o e), fun b c1 e => ?_, R.zr, fun b o e => ?_, fun b o e => ?_, hg.trans R.gens, hos.trans R.os, fun b c1 e => ?_⟩
  · by_cases hb : b = a
    · subst hb; rw [fup_self] at e; cases e; exact ⟨o', ho, hr⟩
    · rw [fup_ne _ _ hb] at e; obtain ⟨o1, h1, h2⟩ := R.m b c1 e; exact ⟨o1, (hs.2 b hb).trans h1, h2⟩
  · rw [fup_ne _ _ (nz b o e)]; exact R.zm b o e
  · rw [fup_ne _ _ (nr b o e)]; exact R.rm b o e
  · by_cases hb : b = a
    · subst hb; exact R.lo b c hc
    · rw [fup_ne _ _ hb] at e; exact R.lo b c1 e
theorem Rel.setR (R : Rel C Z μ ρ s) {a : Addr} {o o' : Obj} {s' : Shared} (hc : ρ a = some o) (hs : Heap.SameBut a s.heap s'.heap) (ho : s'.heap.get? a = some o')
    (hg : s'.gens = s.gens := by rfl) (hos : s'.os = s.os := by rfl) : Rel C Z μ (fup ρ a (some o')) s' := by
  have nz : ∀ b o, Z b = some o → b ≠ a := fun b o e h => by have := R.zr b o e; rw [h, hc] at this; cases this
  have nm : ∀ b o, μ b = some o → b ≠ a := fun b o e h => by have := R.rm a _ hc; rw [← h, e] at this; cases this
  refine ⟨R.base, fun b o e => (hs.2 b (nz b o e)).trans (R.z b o e), fun b o1 e => ?_, fun b c1 e => ?_, fun b o e => ?_, R.zm, fun b o1 e => ?_, hg.trans R.gens, hos.trans R.os, R.lo⟩
  · by_cases hb : b = a
    · subst hb; rw [fup_self] at e; cases e; exact ho
    · rw [fup_ne _ _ hb] at e; exact (hs.2 b hb).trans (R.r b o1 e)
  · obtain ⟨o1, h1, h2⟩ := R.m b c1 e; exact ⟨o1, (hs.2 b (nm b c1 e)).trans h1, h2⟩
  · rw [fup_ne _ _ (nz b o e)]; exact R.zr b o e
  · by_cases hb : b = a
    · subst hb; exact R.rm b o hc
    · rw [fup_ne _ _ hb] at e; exact R.rm b o1 e
theorem Rel.addR (R : Rel C Z μ ρ s) {a : Addr} {o : Obj} (ho : s.heap.get? a = some o) (hz : Z a = none) (hm : μ a = none) : Rel C Z μ (fup ρ a (some o)) s := by
  refine ⟨R.base, R.z, fun b o1 e => ?_, R.m, fun b o1 e => ?_, R.zm, fun b o1 e => ?_, R.gens, R.os, R.lo⟩
  · by_cases hb : b = a
    · subst hb; rw [fup_self] at e; cases e; exact ho
    · rw [fup_ne _ _ hb] at e; exact R.r b o1 e
  · by_cases hb : b = a
    · subst hb; rw [hz] at e; cases e
    · rw [fup_ne _ _ hb]; exact R.zr b o1 e
  · by_cases hb : b = a
    · subst hb; exact hm
    · rw [fup_ne _ _ hb] at e; exact R.rm b o1 e
theorem Rel.less (R : Rel C Z μ ρ s) {μ' : Mu} {ρ' : Fz} (hm : ∀ a c, μ' a = some c → μ a = some c) (hr : ext ρ' ρ) : Rel C Z μ' ρ' s := by
  refine ⟨R.base, R.z, fun a o e => R.r a o (hr a o e), fun a c e => R.m a c (hm a c e), fun a o e => ?_, fun a o e => ?_, fun a o e => ?_, R.gens, R.os, fun a c e => R.lo a c (hm a c e)⟩
  · cases h : ρ' a with
    | none => rfl
    | some o' => have := R.zr a o e; rw [hr a o' h] at this; cases this
  · cases h : μ' a with
    | none => rfl
    | some c => have := R.zm a o e; rw [hm a c h] at this; cases this
  · cases h : μ' a with
    | none => rfl
    | some c => have := R.rm a o (hr a o e); rw [hm a c h] at this; cases this
theorem Rel.freeze (R : Rel C Z μ ρ s) {a : Addr} {c : Cell} (hc : μ a = some c) : ∃ o, CRel C.w Z c o ∧ Z a = none ∧ Rel C (fup Z a (some o)) (fup μ a none) ρ s := by
  obtain ⟨o, h1, h2⟩ := R.m a c hc
  have hz : Z a = none := by
    cases h : Z a with
    | none => rfl
    | some o' => have := R.zm a o' h; rw [hc] at this; cases this
  refine ⟨o, h2, hz, fun b o1 e => ext_fup hz b o1 (R.base b o1 e), fun b o1 e => ?_, R.r, fun b c1 e => ?_, fun b o1 e => ?_, fun b o1 e => ?_, fun b o1 e => ?_, R.gens, R.os, fun b c1 e => ?_⟩
  · by_cases hb : b = a
    · subst hb; rw [fup_self] at e; cases e; exact h1
    · rw [fup_ne _ _ hb] at e; exact R.z b o1 e
  · by_cases hb : b = a
    · subst hb; rw [fup_self] at e; cases e
    · rw [fup_ne _ _ hb] at e; obtain ⟨o2, h3, h4⟩ := R.m b c1 e; exact ⟨o2, h3, h4.mono (ext_fup hz)⟩
  · by_cases hb : b = a
    · subst hb
      cases h : ρ b with
      | none => rfl
      | some o' => have := R.rm b o' h; rw [hc] at this; cases this
    · rw [fup_ne _ _ hb] at e; exact R.zr b o1 e
  · by_cases hb : b = a
    · subst hb; exact fup_self ..
    · rw [fup_ne _ _ hb] at e ⊢; exact R.zm b o1 e
  · by_cases hb : b = a
    · subst hb; exact fup_self ..
    · rw [fup_ne _ _ hb]; exact R.rm b o1 e
  · by_cases hb : b = a
    · subst hb; rw [fup_self] at e; cases e
    · rw [fup_ne _ _ hb] at e; exact R.lo b c1 e
end
end SP
namespace SP
open PySem PySem.W PySem.Calls PyProof.Rows
structure St where
  Z : Fz
  μ : Mu
  ρ : Fz
noncomputable abbrev NoE : Value → Shared → Prop := fun _ _ => False
inductive PO (C : Cx) (Z : Fz) {α : Type} (Φ : α → St → Prop) (a : α) (s' : Shared) : Prop
  | mk (σ' : St) (R : Rel C σ'.Z σ'.μ σ'.ρ s') (x : ext Z σ'.Z) (p : Φ a σ')
inductive PV (C : Cx) (Φ : V → Mu → Prop) (ρ : Fz) (v' : Value) (σ' : St) : Prop
  | mk (e : σ'.ρ = ρ) (v : V) (r : VRel C.w σ'.Z v v') (p : Φ v σ'.μ)
inductive PT {β : Type} (Φ : β → Mu → Prop) (ρ : Fz) (b : β) (σ' : St) : Prop
  | mk (e : σ'.ρ = ρ) (p : Φ b σ'.μ)
inductive PU (Φ : Mu → Prop) (ρ : Fz) (u : Unit) (σ' : St) : Prop
  | mk (e : σ'.ρ = ρ) (p : Φ σ'.μ)
noncomputable def Op (C : Cx) (A : Around) {α : Type} (t : Sem α) (Φ : α → St → Prop) (σ : St) : Prop :=
  ∀ s, Rel C σ.Z σ.μ σ.ρ s → wpAny (model C.prog C.w) A t (PO C σ.Z Φ) NoE s
section
variable {C : Cx} {A : Around} {α β : Type} {σ : St} {s : Shared}
theorem Op.use {t : Sem α} {Φ : α → St → Prop} (h : Op C A t Φ σ) (R : Rel C σ.Z σ.μ σ.ρ s) {Q : α → Shared → Prop} {E : Value → Shared → Prop}
    (k : ∀ a s' σ', Rel C σ'.Z σ'.μ σ'.ρ s' → ext σ.Z σ'.Z → Φ a σ' → Q a s') : wpAny (model C.prog C.w) A t Q E s :=
  wpAny_mono (h s R) (fun a s' ⟨σ', R', x, p⟩ => k a s' σ' R' x p) (fun _ _ f => f.elim)
theorem Op.mono {t : Sem α} {Φ Ψ : α → St → Prop} (h : Op C A t Φ σ) (k : ∀ a σ', ext σ.Z σ'.Z → Φ a σ' → Ψ a σ') : Op C A t Ψ σ :=
  fun _ R => h.use R fun a _ σ' R' x p => ⟨σ', R', x, k a σ' x p⟩
theorem Op.pure {a : α} {Φ : α → St → Prop} (h : Φ a σ) : Op C A (pure a) Φ σ := fun _ R => wpAny_pure ⟨σ, R, ext.rfl, h⟩
theorem Op.bind {m : Sem α} {f : α → Sem β} {Φ : β → St → Prop} (h : Op C A m (fun a σ' => Op C A (f a) Φ σ') σ) : Op C A (m >>= f) Φ σ :=
  fun _ R => wpAny_bind (h.use R fun _ _ _ R' x p => p.use R' fun _ _ σ'' R'' x' p' => ⟨σ'', R'', x.trans x', p'⟩)
theorem Op.standAt {p : Pos} {Φ : Unit → St → Prop} (h : Φ () σ) : Op C A (standAt p) Φ σ := fun _ R => wpAny_standAt ⟨σ, R, ext.rfl, h⟩
end
noncomputable abbrev Vop (C : Cx) (A : Around) (t : Sem Value) (Φ : V → Mu → Prop) (Z : Fz) (μ : Mu) (ρ : Fz) : Prop :=
  Op C A t (PV C Φ ρ) ⟨Z, μ, ρ⟩
structure AOk (n : Nat) (A : Around) : Prop where
  d : A.depth + 3 * n ≤ 900
  u : A.units + 20 * n ≤ 8000
  h : A.handled = none
theorem AOk.le {n m : Nat} {A : Around} (h : AOk n A) (hm : m ≤ n) : AOk m A := ⟨by have := h.d; omega, by have := h.u; omega, h.h⟩
theorem AOk.room {n : Nat} {A : Around} (h : AOk n A) : A.depth < recursionLimit := by have := h.d; show _ < 1000; omega
noncomputable abbrev Loc := List (Str × V)
structure Frm (C : Cx) (env : Env) (l : Loc) (Z : Fz) (ρ : Fz) : Prop where
  kind : env.scope.kind = .function
  glob : env.globals = mainGlobals
  blt : env.builtins = builtinsNs
  ns : ∃ o es n, ρ env.locals = some o ∧ o.data = .dict es n ∧ StrKeys es ∧ ∀ x v, l.lookup x = some v → env.kindOf x = some .local → ∃ v', nsFind es x = some v' ∧ VRel C.w Z v v'
  cl : ∀ x v, l.lookup x = some v → env.kindOf x = some .cell → ∃ c o v', env.cells.lookup x = some c ∧ ρ c = some o ∧ o.data = .cell (some v') ∧ VRel C.w Z v v'
  cells : ∀ x c, env.cells.lookup x = some c → ∃ o v', ρ c = some o ∧ o.data = .cell v'
  apart : ∀ x y c, env.cells.lookup x = some c → env.cells.lookup y = some c → x = y
  cellAt : ∀ x, env.kindOf x = some .cell → (env.cells.lookup x).isSome = true
theorem Frm.mono {C : Cx} {env : Env} {l : Loc} {Z Z' ρ : Fz} (F : Frm C env l Z ρ) (h : ext Z Z') : Frm C env l Z' ρ :=
  ⟨F.kind, F.glob, F.blt, let ⟨o, es, n, a, b, c, d⟩ := F.ns; ⟨o, es, n, a, b, c, fun x v e k => let ⟨v', e', r⟩ := d x v e k; ⟨v', e', r.mono h⟩⟩,
    fun x v e k => let ⟨c, o, v', a, b, d, r⟩ := F.cl x v e k; ⟨c, o, v', a, b, d, r.mono h⟩, F.cells, F.apart, F.cellAt⟩
noncomputable def own (env : Env) (a : Addr) : Prop := a = env.locals ∨ ∃ x, env.cells.lookup x = some a
noncomputable def off (env : Env) (ρ ρ' : Fz) : Prop := ∀ a, ¬ own env a → ρ' a = ρ a
theorem off.rfl {env : Env} {ρ : Fz} : off env ρ ρ := fun _ _ => Eq.refl _
theorem off.trans {env : Env} {ρ ρ' ρ'' : Fz} (x : off env ρ ρ') (y : off env ρ' ρ'') : off env ρ ρ'' := fun a h => (y a h).trans (x a h)
theorem Frm.agree {C : Cx} {env : Env} {l : Loc} {Z ρ ρ' : Fz} (F : Frm C env l Z ρ) (h : ∀ a o, ρ a = some o → ρ' a = some o) : Frm C env l Z ρ' :=
  ⟨F.kind, F.glob, F.blt, let ⟨o, es, n, a, b, c, d⟩ := F.ns; ⟨o, es, n, h _ _ a, b, c, d⟩, fun x v e k => let ⟨c, o, v', a, b, d⟩ := F.cl x v e k; ⟨c, o, v', a, h _ _ b, d⟩,
    fun x c e => let ⟨o, v', a, b⟩ := F.cells x c e; ⟨o, v', h _ _ a, b⟩, F.apart, F.cellAt⟩
theorem Frm.offs {C : Cx} {env : Env} {l : Loc} {Z ρ ρ' : Fz} (F : Frm C env l Z ρ) (h : ∀ a, own env a → ρ' a = ρ a) : Frm C env l Z ρ' :=
  ⟨F.kind, F.glob, F.blt, let ⟨o, es, n, a, b, c, d⟩ := F.ns; ⟨o, es, n, (h _ (.inl (Eq.refl _))).trans a, b, c, d⟩, fun x v e k => let ⟨c, o, v', a, b, d⟩ := F.cl x v e k; ⟨c, o, v', a, (h _ (.inr ⟨x, a⟩)).trans b, d⟩,
    fun x c e => let ⟨o, v', a, b⟩ := F.cells x c e; ⟨o, v', (h _ (.inr ⟨x, e⟩)).trans a, b⟩, F.apart, F.cellAt⟩
section
variable {C : Cx} {A : Around} {env : Env} {l : Loc} {Z ρ : Fz} {μ : Mu} {s : Shared}
theorem Frm.nsAt (F : Frm C env l Z ρ) (R : Rel C Z μ ρ s) : ∃ m, s.heap.Ns env.locals m ∧ ∀ x v, l.lookup x = Option.some v → env.kindOf x = Option.some .local → ∃ v', m x = Option.some v' ∧ VRel C.w Z v v' := by
  obtain ⟨o, es, n, a, b, c, d⟩ := F.ns
  exact ⟨nsFind es, ⟨o, es, n, R.r _ _ a, b, c, fun _ => rfl⟩, d⟩
theorem Frm.load (F : Frm C env l Z ρ) {x : Str} {v : V} {Φ : Value → St → Prop} (hx : l.lookup x = Option.some v) (hk : env.kindOf x = Option.some .local ∨ env.kindOf x = Option.some .cell)
    (h : ∀ v', VRel C.w Z v v' → Φ v' ⟨Z, μ, ρ⟩) : Op C A (loadName env x) Φ ⟨Z, μ, ρ⟩ := by
  intro s R
  rcases hk with hk | hk
  · obtain ⟨m, hn, hm⟩ := F.nsAt R
    obtain ⟨v', e, r⟩ := hm x v hx hk
    exact wpAny_loadName_local F.kind hk hn e ⟨_, R, ext.rfl, h v' r⟩
  · obtain ⟨c, o, v', a, b, d, r⟩ := F.cl x v hx hk
    exact wpAny_loadName_cell F.kind hk a ⟨o, R.r _ _ b, d⟩ ⟨_, R, ext.rfl, h v' r⟩
theorem lookup_cons_self {x : Str} {v : V} {l : Loc} : ((x, v) :: l).lookup x = Option.some v := by simp [List.lookup]
theorem lookup_cons_ne {x y : Str} {v : V} {l : Loc} (h : y ≠ x) : ((x, v) :: l).lookup y = l.lookup y := by
  have : (y == x) = false := by simpa using h
  simp [List.lookup, this]
theorem Frm.ownNe (F : Frm C env l Z ρ) {x : Str} {c : Addr} (hc : env.cells.lookup x = Option.some c) : c ≠ env.locals := by
  rintro rfl
  obtain ⟨o, es, n, a, b, _, _⟩ := F.ns
  obtain ⟨o', v', a', b'⟩ := F.cells x _ hc
  rw [a] at a'; cases a'; rw [b] at b'; cases b'
theorem Frm.store (F : Frm C env l Z ρ) {x : Str} {v : V} {v' : Value} {Φ : Unit → St → Prop} (hk : env.kindOf x = Option.some .local ∨ env.kindOf x = Option.some .cell) (r : VRel C.w Z v v')
    (h : ∀ ρ', Frm C env ((x, v) :: l) Z ρ' → off env ρ ρ' → Φ () ⟨Z, μ, ρ'⟩) : Op C A (storeName env x v') Φ ⟨Z, μ, ρ⟩ := by
  intro s R
  have hcls : (env.scope.kind == .class || (env.scope.kind == .module && env.locals != env.globals)) = false := by rw [F.kind]; rfl
  rcases hk with hk | hk
  · obtain ⟨o, es, n, a, b, c, d⟩ := F.ns
    refine wpAny_storeName_local hk (m := nsFind es) ⟨o, es, n, R.r _ _ a, b, c, fun _ => rfl⟩ (fun h' hn hs => ?_) hcls
    obtain ⟨o', es', n', a', b', c', d'⟩ := hn
    refine ⟨⟨Z, μ, fup ρ env.locals (Option.some o')⟩, R.setR (s' := { s with heap := h', toks := s.toks + 1 }) a hs a', ext.rfl, h _ ⟨F.kind, F.glob, F.blt, ⟨o', es', n', fup_self .., b', c', fun y u e k => ?_⟩, fun y u e k => ?_, fun y c1 e => ?_, F.apart, F.cellAt⟩ ?_⟩
    · rw [d' y]
      show ∃ v'', (if y = x then Option.some v' else nsFind es y) = _ ∧ _
      by_cases hy : y = x
      · subst hy; rw [lookup_cons_self] at e; cases e; rw [if_pos rfl]; exact ⟨v', rfl, r⟩
      · rw [if_neg hy]; rw [lookup_cons_ne hy] at e; exact d y u e k
    · have hy : y ≠ x := by rintro rfl; rw [hk] at k; cases k
      rw [lookup_cons_ne hy] at e
      obtain ⟨c1, o1, v1, e1, e2, e3⟩ := F.cl y u e k
      exact ⟨c1, o1, v1, e1, by rw [fup_ne _ _ (F.ownNe e1)]; exact e2, e3⟩
    · obtain ⟨o1, v1, e1, e2⟩ := F.cells y c1 e
      exact ⟨o1, v1, by rw [fup_ne _ _ (F.ownNe e)]; exact e1, e2⟩
    · intro b1 hb; exact fup_ne _ _ (fun e => hb (.inl e))
  · obtain ⟨c, hc⟩ := Option.isSome_iff_exists.mp (F.cellAt x hk)
    obtain ⟨oc, vc, a, b⟩ := F.cells x c hc
    refine wpAny_storeName_cell F.kind hk hc ⟨oc, R.r _ _ a, b⟩ fun h' hv hs => ?_
    obtain ⟨o', a', b'⟩ := hv
    refine ⟨⟨Z, μ, fup ρ c (Option.some o')⟩, R.setR (s' := { s with heap := h' }) a hs a', ext.rfl, h _ ⟨F.kind, F.glob, F.blt, ?_, fun y u e k => ?_, fun y c1 e => ?_, F.apart, F.cellAt⟩ ?_⟩
    · obtain ⟨o, es, n, a, b, c, d⟩ := F.ns
      refine ⟨o, es, n, by rw [fup_ne _ _ (F.ownNe hc).symm]; exact a, b, c, fun y u e k => ?_⟩
      have hy : y ≠ x := by rintro rfl; rw [hk] at k; cases k
      rw [lookup_cons_ne hy] at e; exact d y u e k
    · by_cases hy : y = x
      · subst hy; rw [lookup_cons_self] at e; cases e; exact ⟨c, o', v', hc, fup_self .., b', r⟩
      · rw [lookup_cons_ne hy] at e
        obtain ⟨c1, o1, v1, e1, e2, e3⟩ := F.cl y u e k
        have : c1 ≠ c := fun q => hy (F.apart _ _ _ e1 (q ▸ hc))
        exact ⟨c1, o1, v1, e1, (fup_ne _ _ this).trans e2, e3⟩
    · by_cases hy : c1 = c
      · subst hy; exact ⟨o', _, fup_self .., b'⟩
      · obtain ⟨o1, v1, e1, e2⟩ := F.cells y c1 e; exact ⟨o1, v1, (fup_ne _ _ hy).trans e1, e2⟩
    · intro b1 hb; exact fup_ne _ _ (fun e => hb (.inr ⟨x, e ▸ hc⟩))
end
inductive Fl where
  | next | brk | cont | ret (v : V)
inductive FRel (w : World) (Z : Fz) : Fl → Flow → Prop
  | next : FRel w Z .next .next
  | brk : FRel w Z .brk .brk
  | cont : FRel w Z .cont .cont
  | ret {v v'} : VRel w Z v v' → FRel w Z (.ret v) (.ret v')
inductive PS (C : Cx) (env : Env) (ρ : Fz) (Φ : Fl → Loc → Mu → Prop) (f' : Flow) (σ' : St) : Prop
  | mk (f : Fl) (l' : Loc) (r : FRel C.w σ'.Z f f') (F : Frm C env l' σ'.Z σ'.ρ) (o : off env ρ σ'.ρ) (p : Φ f l' σ'.μ)
inductive PA (C : Cx) (env : Env) (ρ : Fz) (Φ : Loc → Mu → Prop) (u : Unit) (σ' : St) : Prop
  | mk (l' : Loc) (F : Frm C env l' σ'.Z σ'.ρ) (o : off env ρ σ'.ρ) (p : Φ l' σ'.μ)
noncomputable def We (C : Cx) (n : Nat) (env : Env) (e : Expr) (Φ : V → Mu → Prop) (l : Loc) (μ : Mu) : Prop :=
  ∀ A, AOk n A → ∀ Z ρ, Frm C env l Z ρ → Vop C A (eval e env) Φ Z μ ρ
noncomputable def Wt (C : Cx) (n : Nat) (env : Env) (e : Expr) (Φ : Bool → Mu → Prop) (l : Loc) (μ : Mu) : Prop :=
  ∀ A, AOk n A → ∀ Z ρ, Frm C env l Z ρ → Op C A (isTrue e env (eval e env)) (PT Φ ρ) ⟨Z, μ, ρ⟩
noncomputable abbrev Sop (C : Cx) (A : Around) (env : Env) (t : Sem Flow) (Φ : Fl → Loc → Mu → Prop) (Z : Fz) (μ : Mu) (ρ : Fz) : Prop :=
  Op C A t (PS C env ρ Φ) ⟨Z, μ, ρ⟩
noncomputable def Wx (C : Cx) (n : Nat) (env : Env) (st : Stmt) (Φ : Fl → Loc → Mu → Prop) (l : Loc) (μ : Mu) : Prop :=
  ∀ A, AOk n A → ∀ Z ρ, Frm C env l Z ρ → Sop C A env (exec st env) Φ Z μ ρ
noncomputable def Ws (C : Cx) (n : Nat) (env : Env) (sts : List Stmt) (Φ : Fl → Loc → Mu → Prop) (l : Loc) (μ : Mu) : Prop :=
  ∀ A, AOk n A → ∀ Z ρ, Frm C env l Z ρ → Sop C A env (execs sts env) Φ Z μ ρ
noncomputable def Wa (C : Cx) (n : Nat) (env : Env) (t : Expr) (v : V) (Φ : Loc → Mu → Prop) (l : Loc) (μ : Mu) : Prop :=
  ∀ A, AOk n A → ∀ Z ρ v', VRel C.w Z v v' → Frm C env l Z ρ → Op C A (assign t env v') (PA C env ρ Φ) ⟨Z, μ, ρ⟩
section
variable {C : Cx} {n : Nat} {env : Env} {l : Loc} {μ : Mu}
theorem We.mono {e : Expr} {Φ Ψ : V → Mu → Prop} (h : We C n env e Φ l μ) (k : ∀ v μ', Φ v μ' → Ψ v μ') : We C n env e Ψ l μ :=
  fun A hA Z ρ F => (h A hA Z ρ F).mono fun _ _ _ ⟨a, v, r, p⟩ => ⟨a, v, r, k v _ p⟩
theorem Ws.mono {e : List Stmt} {Φ Ψ : Fl → Loc → Mu → Prop} (h : Ws C n env e Φ l μ) (k : ∀ f l' μ', Φ f l' μ' → Ψ f l' μ') : Ws C n env e Ψ l μ :=
  fun A hA Z ρ F => (h A hA Z ρ F).mono fun _ _ _ ⟨f, l', a, b, c, p⟩ => ⟨f, l', a, b, c, k f l' _ p⟩
noncomputable abbrev kS (C : Cx) (n : Nat) (env : Env) (rest : List Stmt) (Φ : Fl → Loc → Mu → Prop) : Fl → Loc → Mu → Prop := fun f l' μ' => match f with | .next => Ws C n env rest Φ l' μ' | f => Φ f l' μ'
noncomputable abbrev kRet (Φ : Fl → Loc → Mu → Prop) (l : Loc) : V → Mu → Prop := fun v μ' => Φ (.ret v) l μ'
noncomputable abbrev kIf (C : Cx) (n : Nat) (env : Env) (body orelse : List Stmt) (Φ : Fl → Loc → Mu → Prop) (l : Loc) : Bool → Mu → Prop := fun b μ' => if b then Ws C n env body Φ l μ' else Ws C n env orelse Φ l μ'
noncomputable abbrev kEx (Φ : Fl → Loc → Mu → Prop) (l : Loc) : V → Mu → Prop := fun _ μ' => Φ .next l μ'
noncomputable abbrev kAs (C : Cx) (n : Nat) (env : Env) (t : Expr) (Φ : Fl → Loc → Mu → Prop) (l : Loc) : V → Mu → Prop := fun v μ' => Wa C n env t v (Φ .next) l μ'
theorem Ws.nil {Φ : Fl → Loc → Mu → Prop} (h : Φ .next l μ) : Ws C n env [] Φ l μ :=
  fun _ _ Z ρ F => Op.pure (σ := ⟨Z, μ, ρ⟩) ⟨.next, l, .next, F, off.rfl, h⟩
theorem Ws.cons {st : Stmt} {rest : List Stmt} {Φ : Fl → Loc → Mu → Prop}
    (h : Wx C n env st (kS C n env rest Φ) l μ) : Ws C n env (st :: rest) Φ l μ := by
  intro A hA Z ρ F
  rw [execs_cons]
  refine Op.bind ((h A hA Z ρ F).mono fun f' σ' x ⟨f, l', a, b, c, p⟩ => ?_)
  cases a with
  | next => exact (p A hA _ _ b).mono fun f2 σ2 x2 ⟨f, l2, a2, b2, c2, p2⟩ => ⟨f, l2, a2, b2, c.trans c2, p2⟩
  | brk => exact Op.pure ⟨_, l', .brk, b, c, p⟩
  | cont => exact Op.pure ⟨_, l', .cont, b, c, p⟩
  | ret r => exact Op.pure ⟨_, l', .ret r, b, c, p⟩
theorem Wx.ret {e : Expr} {pos : Pos} {Φ : Fl → Loc → Mu → Prop} (h : We C n env e (kRet Φ l) l μ) : Wx C n env (.Return (some e) pos) Φ l μ := by
  intro A hA Z ρ F
  rw [exec_Return_some]
  refine Op.bind (Op.standAt (Op.bind ((h A hA Z ρ F).mono fun v' σ' x ⟨a, v, r, p⟩ => Op.pure ⟨.ret v, l, .ret r, ?_, ?_, p⟩)))
  · rw [a]; exact F.mono x
  · rw [a]; exact off.rfl
theorem Wx.ite {test : Expr} {body orelse : List Stmt} {pos : Pos} {Φ : Fl → Loc → Mu → Prop}
    (h : Wt C n env test (kIf C n env body orelse Φ l) l μ) : Wx C n env (.If test body orelse pos) Φ l μ := by
  intro A hA Z ρ F
  rw [exec_If]
  refine Op.bind (Op.standAt (Op.bind ((h A hA Z ρ F).mono fun b σ' x ⟨a, p⟩ => ?_)))
  have F' := F.mono x
  rw [← a] at F'
  cases b with
  | true => exact (p A hA _ _ F').mono fun f2 σ2 x2 ⟨f, l2, a2, b2, c2, p2⟩ => ⟨f, l2, a2, b2, a ▸ c2, p2⟩
  | false => exact (p A hA _ _ F').mono fun f2 σ2 x2 ⟨f, l2, a2, b2, c2, p2⟩ => ⟨f, l2, a2, b2, a ▸ c2, p2⟩
theorem dropValue_op {A : Around} {σ : St} {e : Expr} {pos : Pos} {v : Value} {Φ : Flow → St → Prop} (h : Φ .next σ) : Op C A (dropValue e pos v) Φ σ :=
  fun s R => wpAny_dropValue ⟨σ, R, ext.rfl, h⟩
theorem Wx.expr {e : Expr} {pos : Pos} {Φ : Fl → Loc → Mu → Prop} (h : We C n env e (kEx Φ l) l μ) (hs : swapsWith e none pos.line env = pure false := by rfl) : Wx C n env (.Expr e pos) Φ l μ := by
  intro A hA Z ρ F
  rw [exec_Expr env e pos (by unfold interactive; rw [F.kind]; rfl) hs]
  refine Op.bind (Op.standAt (Op.bind ((h A hA Z ρ F).mono fun v' σ' x ⟨a, v, r, p⟩ => dropValue_op ⟨.next, l, .next, ?_, ?_, p⟩)))
  · rw [a]; exact F.mono x
  · rw [a]; exact off.rfl
theorem Wa.name {x : Str} {pos : Pos} {v : V} {Φ : Loc → Mu → Prop} (hk : env.kindOf x = some .local ∨ env.kindOf x = some .cell) (h : Φ ((x, v) :: l) μ) : Wa C n env (.Name x pos) v Φ l μ := by
  intro A hA Z ρ v' r F s R
  exact wpAny_assign_Name ((F.store (A := A) (μ := μ) (Φ := PA C env ρ Φ) hk r fun ρ' F' o => ⟨_, F', o, h⟩) s R)
theorem Wx.assign {t e : Expr} {pos : Pos} {Φ : Fl → Loc → Mu → Prop} (h : We C n env e (kAs C n env t Φ l) l μ)
    (hs : swapsWithSole [t] e pos.line env = pure false := by rfl) (hw : swappedStores [t] e env = pure none := by rfl) (ht : assignEach [t] env = [(false, assign t env)] := by rfl) : Wx C n env (.Assign [t] e pos) Φ l μ := by
  intro A hA Z ρ F s R
  refine wpAny_Assign_stores ((h A hA Z ρ F).use R fun v' s1 σ1 R1 x1 ⟨a, v, r, p⟩ => ?_) hs hw
  rw [ht]
  have F' := F.mono x1
  rw [← a] at F'
  exact (p A hA _ _ _ r F').use R1 fun _ s2 σ2 R2 x2 ⟨l', f, o, q⟩ => ⟨σ2, R2, x1.trans x2, .next, l', .next, f, a ▸ o, q⟩
end
end SP
namespace SP
open PySem PySem.W PySem.Calls PyProof.Rows
section
variable {C : Cx} {n : Nat} {env : Env} {l : Loc} {μ : Mu}
structure ItSrc (C : Cx) (xs : List V) (ok : Mu → Prop) (I : Addr) (st : Nat → Obj → Prop) (Z₀ : Fz) : Prop where
  item : ∀ {A n Z μ ρ k o x}, AOk n A → ext Z₀ Z → ok μ → ρ I = some o → st k o → xs[k]? = some x →
    Op C A (pyNext (.ref I)) (fun r σ' => ∃ v' o', r = some v' ∧ VRel C.w σ'.Z x v' ∧ σ'.μ = μ ∧ σ'.ρ = fup ρ I (some o') ∧ st (k + 1) o') ⟨Z, μ, ρ⟩
  self : ∀ {A n Z μ ρ k o}, AOk n A → ext Z₀ Z → ρ I = some o → st k o → Op C A (pyIter (.ref I)) (fun r σ' => r = .ref I ∧ σ'.μ = μ ∧ σ'.ρ = ρ) ⟨Z, μ, ρ⟩
  fin : ∀ {A n Z μ ρ k o}, AOk n A → ext Z₀ Z → ok μ → ρ I = some o → st k o → xs[k]? = none →
    Op C A (pyNext (.ref I)) (fun r σ' => r = none ∧ σ'.μ = μ ∧ σ'.ρ = fup ρ I none) ⟨Z, μ, ρ⟩
noncomputable def Itr (C : Cx) (v : V) (xs : List V) (ok : Mu → Prop) : Prop := ∀ {A n Z μ ρ v'}, AOk n A → VRel C.w Z v v' → ok μ →
  Op C A (pyIter v') (fun it σ' => ∃ I st o, it = .ref I ∧ σ'.μ = μ ∧ σ'.ρ = fup ρ I (some o) ∧ ρ I = none ∧ st 0 o ∧ ItSrc C xs ok I st σ'.Z) ⟨Z, μ, ρ⟩
noncomputable def ForL (C : Cx) (n : Nat) (env : Env) (target : Expr) (body : List Stmt) (Φ : Fl → Loc → Mu → Prop) (ok : Mu → Prop) : List V → Loc → Mu → Prop
  | [], l, μ => ok μ ∧ Φ .next l μ
  | x :: rest, l, μ => ok μ ∧ Wa C n env target x (fun l1 μ1 => Ws C n env body (fun f l2 μ2 => match f with
      | .next | .cont => ForL C n env target body Φ ok rest l2 μ2
      | .brk => Φ .next l2 μ2
      | .ret v => Φ (.ret v) l2 μ2) l1 μ1) l μ
theorem ForL.ok {target : Expr} {body : List Stmt} {Φ : Fl → Loc → Mu → Prop} {ok : Mu → Prop} {xs : List V} (h : ForL C n env target body Φ ok xs l μ) : ok μ := by
  cases xs <;> exact h.1
theorem own_not_of_none {ρ : Fz} {Z : Fz} (F : Frm C env l Z ρ) {I : Addr} (h : ρ I = none) : ¬ own env I := by
  rintro (rfl | ⟨x, hc⟩)
  · obtain ⟨o, _, _, a, _⟩ := F.ns; rw [h] at a; cases a
  · obtain ⟨o, _, a, _⟩ := F.cells x I hc; rw [h] at a; cases a
theorem fup_ext_none {ρ : Fz} {I : Addr} {o : Obj} (h : ρ I = none) : ∀ a o', ρ a = some o' → fup ρ I (some o) a = some o' := fun a o' e => by
  by_cases q : a = I
  · subst q; rw [h] at e; cases e
  · rw [fup_ne _ _ q]; exact e
theorem Frm.fupI {Z ρ : Fz} (F : Frm C env l Z ρ) {I : Addr} {x : Option Obj} (h : ¬ own env I) : Frm C env l Z (fup ρ I x) :=
  F.offs fun a ha => fup_ne _ _ fun e => h (e ▸ ha)
noncomputable abbrev kFor (C : Cx) (n : Nat) (env : Env) (target : Expr) (body : List Stmt) (Φ : Fl → Loc → Mu → Prop) (l : Loc) : V → Mu → Prop := fun v μ1 => ∃ xs ok, Itr C v xs ok ∧ ForL C n env target body Φ ok xs l μ1
inductive ForI (C : Cx) (n : Nat) (env : Env) (target : Expr) (body : List Stmt) (Φ : Fl → Loc → Mu → Prop) (ok : Mu → Prop) (xs : List V) (Z₂ ρ : Fz) (I : Addr) (st : Nat → Obj → Prop) (m : Nat) (s : Shared) : Prop
  | mk (σ : St) (l' : Loc) (k : Nat) (o : Obj) (em : m = xs.length - k) (hk : k ≤ xs.length) (R : Rel C σ.Z σ.μ σ.ρ s) (x : ext Z₂ σ.Z) (F : Frm C env l' σ.Z σ.ρ)
      (of : ∀ a, ¬ own env a → a ≠ I → σ.ρ a = ρ a) (eI : σ.ρ I = some o) (hst : st k o) (hl : ForL C n env target body Φ ok (xs.drop k) l' σ.μ)
theorem Wx.for {target iter : Expr} {body : List Stmt} {pos : Pos} {Φ : Fl → Loc → Mu → Prop}
    (h : We C n env iter (kFor C n env target body Φ l) l μ)
    (hs : ∀ x, foldedSetIterable iter env x = pure x := by intro _; rfl) (ht : ∀ it v, letOwnedTupleGo target it v = pure () := by intro _ _; rfl) : Wx C n env (.For target iter body [] pos) Φ l μ := by
  intro A hA Z ρ F s R
  refine wpAny_For ((h A hA Z ρ F).use R fun x' s1 σ1 R1 x1 ⟨e1, v, r, xs, ok, hit, hl⟩ => ?_) hs
  refine (hit hA r hl.ok).use R1 fun it s2 σ2 R2 x2 ⟨I, st, o, hI, em, er, hn, h0, src⟩ => ?_
  subst hI
  rw [e1] at er hn
  have F2 : Frm C env l σ2.Z σ2.ρ := by rw [er]; exact (F.mono (x1.trans x2)).agree (fup_ext_none hn)
  have nI := own_not_of_none F hn
  refine codeAny_forLoop (ForI C n env target body Φ ok xs σ2.Z ρ I st) (fun m s ⟨σ, l', k, o, em, hk, R, x, F, of, eI, hst, hl⟩ => ?_) xs.length
    ⟨σ2, l, 0, o, by simp, Nat.zero_le _, R2, ext.rfl, F2, fun a _ hq => by rw [er, fup_ne _ _ hq], by rw [er]; exact fup_self .., h0, by rw [em]; simpa using hl⟩ (ht _)
  have dropI : ∀ {σ' : St} {s' : Shared}, Rel C σ'.Z σ'.μ σ'.ρ s' → Rel C σ'.Z σ'.μ (fup σ'.ρ I none) s' := fun R => R.less (fun _ _ e => e) (fun a o e => by
    by_cases hq : a = I
    · subst hq; rw [fup_self] at e; cases e
    · rw [fup_ne _ _ hq] at e; exact e)
  have offI : ∀ {ρ' : Fz}, (∀ a, ¬ own env a → a ≠ I → ρ' a = ρ a) → off env ρ (fup ρ' I none) := fun h a ha => by
    by_cases hq : a = I
    · subst hq; rw [fup_self, hn]
    · rw [fup_ne _ _ hq]; exact h a ha hq
  cases hx : xs[k]? with
  | none =>
    have hkl : xs.length ≤ k := List.getElem?_eq_none_iff.mp hx
    rw [List.drop_eq_nil_of_le hkl] at hl
    refine (src.fin hA x hl.1 eI hst hx).use R fun r s3 σ3 R3 x3 ⟨er3, em3, eρ⟩ => ?_
    subst er3
    exact wpAny_execs_nil ⟨σ3, R3, ((x1.trans x2).trans x).trans x3, .next, l', .next, by rw [eρ]; exact (F.mono x3).fupI nI, by rw [eρ]; exact offI of, em3 ▸ hl.2⟩
  | some y =>
    have hkl : k < xs.length := (List.getElem?_eq_some_iff.mp hx).1
    have hd : xs.drop k = y :: xs.drop (k + 1) := by rw [List.drop_eq_getElem_cons hkl]; rw [List.getElem?_eq_getElem hkl] at hx; cases hx; rfl
    rw [hd] at hl
    refine (src.item hA x hl.1 eI hst hx).use R fun r s3 σ3 R3 x3 ⟨v', o', er3, rv, em3, eρ, hst'⟩ => ?_
    subst er3
    have F3 : Frm C env l' σ3.Z σ3.ρ := by rw [eρ]; exact (F.mono x3).fupI nI
    have hw := hl.2
    rw [← em3] at hw
    refine (hw A hA _ _ _ rv F3).use R3 fun _ s4 σ4 R4 x4 ⟨l4, F4, o4, hb⟩ => ?_
    refine (hb A hA _ _ F4).use R4 fun f s5 σ5 R5 x5 ⟨f', l5, rf, F5, o5, q⟩ => ?_
    have xx : ext σ2.Z σ5.Z := ((x.trans x3).trans x4).trans x5
    have o45 : off env σ3.ρ σ5.ρ := o4.trans o5
    have oo : ∀ a, ¬ own env a → a ≠ I → σ5.ρ a = ρ a := fun a ha hq => by
      rw [o45 a ha, eρ, fup_ne _ _ hq, of a ha hq]
    have e5 : σ5.ρ I = some o' := by rw [o45 I nI, eρ, fup_self]
    have leave : ∀ f l (_ : Frm C env l σ5.Z σ5.ρ), Φ f l σ5.μ → ∀ f', FRel C.w σ5.Z f f' → PO C Z (PS C env ρ Φ) f' s5 := fun f l FF q f' rf =>
      ⟨⟨σ5.Z, σ5.μ, fup σ5.ρ I none⟩, dropI R5, (x1.trans x2).trans xx, f, l, rf, FF.fupI nI, offI oo, q⟩
    cases rf with
    | next => exact ⟨xs.length - (k + 1), by omega, σ5, l5, k + 1, o', rfl, hkl, R5, xx, F5, oo, e5, hst', q⟩
    | cont => exact ⟨xs.length - (k + 1), by omega, σ5, l5, k + 1, o', rfl, hkl, R5, xx, F5, oo, e5, hst', q⟩
    | brk => exact leave _ _ F5 q _ .next
    | ret r => exact leave _ _ F5 q _ (.ret r)
end
end SP
namespace SP
open PySem PySem.W PySem.Calls PyProof.Rows
section
variable {C : Cx} {Z : Fz} {μ : Mu} {ρ : Fz} {s : Shared}
theorem Rel.addZ (R : Rel C Z μ ρ s) {a : Addr} {o : Obj} (ho : s.heap.get? a = some o) (hz : Z a = none) (hm : μ a = none) (hr : ρ a = none) : Rel C (fup Z a (some o)) μ ρ s := by
  refine ⟨fun b o1 e => ext_fup hz b o1 (R.base b o1 e), fun b o1 e => ?_, R.r, fun b c e => let ⟨o2, h1, h2⟩ := R.m b c e; ⟨o2, h1, h2.mono (ext_fup hz)⟩, fun b o1 e => ?_, fun b o1 e => ?_, R.rm, R.gens, R.os, R.lo⟩
  · by_cases hb : b = a
    · subst hb; rw [fup_self] at e; cases e; exact ho
    · rw [fup_ne _ _ hb] at e; exact R.z b o1 e
  · by_cases hb : b = a
    · subst hb; exact hr
    · rw [fup_ne _ _ hb] at e; exact R.zr b o1 e
  · by_cases hb : b = a
    · subst hb; exact hm
    · rw [fup_ne _ _ hb] at e; exact R.zm b o1 e
theorem Rel.addM (R : Rel C Z μ ρ s) {a : Addr} {o : Obj} {c : Cell} (ho : s.heap.get? a = some o) (hc : CRel C.w Z c o) (hz : Z a = none) (hr : ρ a = none) (hl : a ≠ sysModules) : Rel C Z (fup μ a (some c)) ρ s := by
  refine ⟨R.base, R.z, R.r, fun b c1 e => ?_, R.zr, fun b o1 e => ?_, fun b o1 e => ?_, R.gens, R.os, fun b c1 e => ?_⟩
  · by_cases hb : b = a
    · subst hb; rw [fup_self] at e; cases e; exact ⟨o, ho, hc⟩
    · rw [fup_ne _ _ hb] at e; exact R.m b c1 e
  · have hb : b ≠ a := by rintro rfl; rw [hz] at e; cases e
    rw [fup_ne _ _ hb]; exact R.zm b o1 e
  · have hb : b ≠ a := by rintro rfl; rw [hr] at e; cases e
    rw [fup_ne _ _ hb]; exact R.rm b o1 e
  · by_cases hb : b = a
    · subst hb; exact hl
    · rw [fup_ne _ _ hb] at e; exact R.lo b c1 e
theorem Rel.zn (R : Rel C Z μ ρ s) {a o} (e : ρ a = some o) : Z a = none := by
  cases h : Z a with
  | none => rfl
  | some o' => have := R.zr a o' h; rw [e] at this; cases this
end
noncomputable def clo (cells : List (Str × Addr)) : List (Str × NameKind) → List (Str × Addr) → List (Str × Addr)
  | [], cs => cs
  | (x, k) :: r, cs => if k == .free then (match cells.lookup x with | some c => clo cells r ((x, c) :: cs) | none => clo cells r cs) else clo cells r cs
theorem cloE {cells cs : List (Str × Addr)} {x : Str} {k : NameKind} {r : List (Str × NameKind)} : clo cells ((x, k) :: r) cs = if k == .free then (match cells.lookup x with | some c => clo cells r ((x, c) :: cs) | none => clo cells r cs) else clo cells r cs := rfl
theorem closure_eq {scope : Scope} {env : Env} (h : ∀ x ∈ scope.names, x.2 = .free → (env.cells.lookup x.1).isSome = true) : closureFor scope env = pure (clo env.cells scope.names []) := by
  have key : ∀ (l : List (Str × NameKind)) (cs : List (Str × Addr)), (∀ x ∈ l, x.2 = .free → (env.cells.lookup x.1).isSome = true) →
      (forIn l cs fun (x : Str × NameKind) cs => (do if x.2 == .free then let c ← cellOf env x.1; pure (ForInStep.yield ((x.1, c) :: cs)) else pure (ForInStep.yield cs) : Sem (ForInStep (List (Str × Addr))))) = pure (clo env.cells l cs) := by
    intro l
    induction l with
    | nil => intro cs _; rfl
    | cons x r ih =>
      intro cs hl
      obtain ⟨x, k⟩ := x
      rw [List.forIn_cons]
      by_cases hk : k = .free
      · subst hk
        obtain ⟨c, hc⟩ := Option.isSome_iff_exists.mp (hl (x, .free) (.head _) rfl)
        have e : cellOf env x = pure c := by unfold cellOf; rw [hc]
        dsimp only at hc
        simp only [e, cloE, hc, beq_self_eq_true, if_true]
        exact ih _ fun y hy => hl y (.tail _ hy)
      · have hk' : (k == NameKind.free) = false := by simpa using hk
        simp only [cloE, hk', Bool.false_eq_true, if_false]
        exact ih _ fun y hy => hl y (.tail _ hy)
  have := key scope.names [] h
  unfold closureFor
  simpa using this
theorem clo_mem {cells : List (Str × Addr)} : ∀ {l : List (Str × NameKind)} {cs : List (Str × Addr)} {x : Str} {c : Addr}, (∀ y d, cs.lookup y = some d → cells.lookup y = some d) → (clo cells l cs).lookup x = some c → cells.lookup x = some c
  | [], cs, x, c, h, e => h x c e
  | (y, k) :: r, cs, x, c, h, e => by
    rw [cloE] at e
    split at e
    · split at e
      · rename_i c' hc'
        refine clo_mem (fun z d hz => ?_) e
        by_cases q : z = y
        · subst q; simp [List.lookup] at hz; rw [← hz]; exact hc'
        · have : (z == y) = false := by simpa using q
          simp only [List.lookup, this] at hz; exact h z d hz
      · exact clo_mem h e
    · exact clo_mem h e
theorem clo_keep {cells : List (Str × Addr)} : ∀ {l : List (Str × NameKind)} {cs : List (Str × Addr)} {x : Str}, (cs.lookup x).isSome = true → ((clo cells l cs).lookup x).isSome = true
  | [], _, _, h => h
  | (y, k) :: r, cs, x, h => by
    rw [cloE]
    split
    · split
      · refine clo_keep ?_
        by_cases q : x = y
        · subst q; simp [List.lookup]
        · have : (x == y) = false := by simpa using q
          simp only [List.lookup, this]; exact h
      · exact clo_keep h
    · exact clo_keep h
theorem clo_isSome {cells : List (Str × Addr)} : ∀ {l : List (Str × NameKind)} {cs : List (Str × Addr)} {x : Str}, (x, NameKind.free) ∈ l → (cells.lookup x).isSome = true → ((clo cells l cs).lookup x).isSome = true
  | (y, k) :: r, cs, x, hm, h => by
    obtain ⟨c, hc⟩ := Option.isSome_iff_exists.mp h
    rw [cloE]
    rcases List.mem_cons.mp hm with e | hm
    · cases e
      simp only [beq_self_eq_true, if_true, hc]
      exact clo_keep (by simp [List.lookup])
    · split
      · split <;> exact clo_isSome hm h
      · exact clo_isSome hm h
theorem relabel_cell {scope : Scope} {env : Env} (hc : ∀ y ∈ scope.names, y.2 ≠ .cell) {x : Str} (h : (relabel scope env).names.lookup x = some .cell) :
    (x, NameKind.free) ∈ scope.names ∧ env.kindOf x = some .cell := by
  unfold relabel at h
  dsimp only at h
  generalize scope.names = l at h hc
  induction l with
  | nil => simp at h
  | cons y r ih =>
    obtain ⟨y, k⟩ := y
    rw [List.map_cons] at h
    by_cases q : x = y
    · subst q
      dsimp only at h
      split at h
      · rename_i hk
        simp only [Bool.and_eq_true, beq_iff_eq] at hk
        refine ⟨?_, hk.2⟩
        rw [hk.1.1]; exact .head _
      · simp [List.lookup] at h
        exact absurd h (hc _ (.head _))
    · have hq : (x == y) = false := by simpa using q
      have : (r.map fun (x : Str × NameKind) => if (x.2 == .free && env.scope.kind == .function && env.kindOf x.1 == some .cell) then (x.1, NameKind.cell) else (x.1, x.2)).lookup x = some .cell := by
        dsimp only at h
        split at h <;> simpa only [List.lookup, hq] using h
      obtain ⟨a, b⟩ := ih this fun z hz => hc z (.tail _ hz)
      exact ⟨.tail _ a, b⟩
theorem relabel_local {scope : Scope} {env : Env} {x : Str} (h : (relabel scope env).names.lookup x = some .local) : scope.names.lookup x = some .local := by
  unfold relabel at h
  dsimp only at h
  generalize scope.names = l at h
  induction l with
  | nil => simp at h
  | cons y r ih =>
    obtain ⟨y, k⟩ := y
    rw [List.map_cons] at h
    by_cases q : x = y
    · subst q
      dsimp only at h
      split at h
      · simp [List.lookup] at h
      · simpa [List.lookup] using h
    · have hq : (x == y) = false := by simpa using q
      have : (r.map fun (x : Str × NameKind) => if (x.2 == .free && env.scope.kind == .function && env.kindOf x.1 == some .cell) then (x.1, NameKind.cell) else (x.1, x.2)).lookup x = some .local := by
        dsimp only at h
        split at h <;> simpa only [List.lookup, hq] using h
      simpa only [List.lookup, hq] using ih this
section
variable {C : Cx} {n : Nat} {env : Env} {l : Loc} {μ : Mu}
noncomputable def CompL (C : Cx) (n : Nat) (cenv : Env) (x : Str) (ifs : List Expr) (elt : Expr) (lf : Loc) (Φ : List V → Mu → Prop) (ok : Mu → Prop) : List V → List V → Mu → Prop
  | [], acc, μ => ok μ ∧ Φ acc μ
  | y :: rest, acc, μ => ok μ ∧ match ifs with
    | [] => We C n cenv elt (fun v μ1 => CompL C n cenv x ifs elt lf Φ ok rest (acc ++ [v]) μ1) ((x, y) :: lf) μ
    | [c] => Wt C n cenv c (fun b μ1 => if b then We C n cenv elt (fun v μ2 => CompL C n cenv x ifs elt lf Φ ok rest (acc ++ [v]) μ2) ((x, y) :: lf) μ1 else CompL C n cenv x ifs elt lf Φ ok rest acc μ1) ((x, y) :: lf) μ
    | _ => False
theorem CompL.ok {cenv : Env} {x : Str} {ifs : List Expr} {elt : Expr} {lf : Loc} {Φ : List V → Mu → Prop} {ok : Mu → Prop} {xs acc : List V} (h : CompL C n cenv x ifs elt lf Φ ok xs acc μ) : ok μ := by
  cases xs <;> exact h.1
inductive CompI (C : Cx) (n : Nat) (cenv : Env) (x : Str) (ifs : List Expr) (elt : Expr) (lf : Loc) (Φ : List V → Mu → Prop) (ok : Mu → Prop) (xs : List V) (Z₂ ρ₁ : Fz) (D Cl I : Addr) (st : Nat → Obj → Prop) (m : Nat) (s : Shared) : Prop
  | mk (σ : St) (k : Nat) (o : Obj) (vs : List Value) (q : Nat) (acc : List V) (oc : Obj) (es : Array DictEntry) (p : Nat) (em : m = xs.length - k) (hk : k ≤ xs.length) (R : Rel C σ.Z σ.μ σ.ρ s) (xz : ext Z₂ σ.Z)
      (aa : ∀ a, a ≠ D → a ≠ Cl → a ≠ I → σ.ρ a = ρ₁ a) (eI : σ.ρ I = some o) (hst : st k o) (eD : σ.ρ D = some (listObj vs q)) (rv : VRels C.w σ.Z acc vs) (hal : acc.length ≤ k) (eC : σ.ρ Cl = some oc)
      (hdc : oc.data = .dict es p) (hkc : StrKeys es) (hl : CompL C n cenv x ifs elt lf Φ ok (xs.drop k) acc σ.μ)
theorem comp_block {elt iter : Expr} {x : Str} {px : Pos} {ifs : List Expr} {scope : Scope} {pos : Pos} {A : Around} {Φ : List V → Mu → Prop} {ok : Mu → Prop} {xs : List V} {lf : Loc} {RR : Value → Addr → Result → Shared → Prop}
    {σ₁ σ₂ : St} {s₂ : Shared} {I : Addr} {st : Nat → Obj → Prop} {o₀ : Obj}
    (hA : AOk n A) (F : Frm C env l σ₁.Z σ₁.ρ) (R : Rel C σ₂.Z σ₂.μ σ₂.ρ s₂) (x12 : ext σ₁.Z σ₂.Z) (er : σ₂.ρ = fup σ₁.ρ I (some o₀)) (hn : σ₁.ρ I = none) (h0 : st 0 o₀) (src : ItSrc C xs ok I st σ₂.Z)
    (hcell : ∀ y ∈ scope.names, y.2 ≠ .cell) (hkind : scope.kind = .function) (hx : scope.names.lookup x = some .local)
    (hlf : ∀ z v, lf.lookup z = some v → scope.names.lookup z ≠ some .local ∧ l.lookup z = some v)
    (hfree : ∀ y ∈ scope.names, y.2 = .free → (env.cells.lookup y.1).isSome = true) (hsz : xs.length ≤ 16777216)
    (hl : ∀ Cl, CompL C n (compEnvC scope (clo env.cells scope.names []) Cl env) x ifs elt lf Φ ok xs [] σ₂.μ)
    (hRR : ∀ D Cl Z' μ' ρ' vs m acc s', Rel C Z' μ' ρ' s' → ext σ₁.Z Z' → σ₁.ρ D = none → σ₁.ρ Cl = none → D ≠ Cl → D ≠ sysModules → s'.heap.get? D = some (listObj vs m) → ρ' D = some (listObj vs m) → (∀ a, a ≠ D → a ≠ Cl → a ≠ I → ρ' a = σ₁.ρ a) → (∃ oc es q, ρ' Cl = some oc ∧ oc.data = .dict es q ∧ StrKeys es) →
      VRels C.w Z' acc vs → Φ acc μ' → RR (.ref D) Cl (.ok .next) s') :
    wpAny (model C.prog C.w) A (newList []) (fun acc s₃ => wpAny (model C.prog C.w) A (newFunctionEnv scope env.globals (clo env.cells scope.names []) [] env.qual none .none (some env)) (fun cenv s₄ =>
      codeAny (model C.prog C.w) A (.compStart (.ListComp elt [⟨.Name x px, iter, ifs, 0⟩] scope pos) 0 (.ref I) acc { cenv with scope := relabel scope env }) (RR acc cenv.locals) s₄) NoE s₃) NoE s₂ := by
  obtain ⟨Z₂, μ₂, ρ₂⟩ := σ₂
  dsimp only at *
  subst er
  have hD1 : σ₁.ρ s₂.heap.objs.size = none := by
    cases h : σ₁.ρ s₂.heap.objs.size with
    | none => rfl
    | some o => exact absurd (R.lt_r (fup_ext_none hn _ _ h)) (Nat.lt_irrefl _)
  have RD := (R.push (listObj [] 0) s₂.toks).addR (a := s₂.heap.objs.size) (o := listObj [] 0) (Heap.get?_push_size _ rfl) R.newZ R.newM
  refine wpAny_newObj_type ?_
  refine wpAny_newFunctionEnv hcell (by intro y hy; simp at hy) (fun h₁ hns₁ hsb₁ => ?_) hkind
  dsimp only at hns₁ hsb₁ ⊢
  have hC : (s₂.heap.push { cls := .type "list", dict := none, data := .seq ([] : List Value).toArray } : Heap).objs.size = s₂.heap.objs.size + 1 := by rw [size_push]
  generalize hH2 : (s₂.heap.push { cls := .type "list", dict := none, data := .seq ([] : List Value).toArray } : Heap) = H2 at hns₁ hsb₁ hC ⊢
  have e2 : H2 = s₂.heap.push (listObj [] 0) := hH2.symm
  have hC1 : σ₁.ρ H2.objs.size = none := by
    cases h : σ₁.ρ H2.objs.size with
    | none => rfl
    | some o => exact absurd (R.lt_r (fup_ext_none hn _ _ h)) (by rw [hC]; omega)
  have hDs : s₂.heap.objs.size ≠ sysModules := by have h1 := R.size3; show s₂.heap.objs.size ≠ 1; omega
  have hCI : H2.objs.size ≠ I := by
    rintro rfl
    exact absurd (R.lt_r (fup_self ..)) (by rw [hC]; omega)
  have hDI : s₂.heap.objs.size ≠ I := by
    rintro rfl
    exact absurd (R.lt_r (fup_self ..)) (Nat.lt_irrefl _)
  have hDC : s₂.heap.objs.size ≠ H2.objs.size := by rw [hC]; omega
  obtain ⟨oc, es, ep, hoc, hdc, hkc, hmc⟩ := hns₁
  have RD' : Rel C Z₂ μ₂ (fup (fup σ₁.ρ I (some o₀)) s₂.heap.objs.size (some (listObj [] 0))) { s₂ with heap := h₁, toks := s₂.toks + ([] : List (Str × Value)).length } := by
    refine RD.grow (fun a o e => ?_) rfl rfl
    dsimp only at e ⊢
    have : a ≠ H2.objs.size := e2 ▸ Nat.ne_of_lt (Heap.lt_size e)
    rw [hsb₁.2 a this]
    refine Heap.get?_push_of_some _ ?_
    rw [e2]; exact e
  have hZC : Z₂ H2.objs.size = none := by
    cases h : Z₂ H2.objs.size with
    | none => rfl
    | some o => exact absurd (R.lt_z h) (by rw [hC]; omega)
  have hMC : μ₂ H2.objs.size = none := by
    cases h : μ₂ H2.objs.size with
    | none => rfl
    | some o => exact absurd (R.lt_m h) (by rw [hC]; omega)
  have RC := RD'.addR (a := H2.objs.size) (o := oc) hoc hZC hMC
  generalize hcl : clo env.cells scope.names [] = cl at hl ⊢
  generalize hCl : H2.objs.size = Cl at *
  generalize hDd : s₂.heap.objs.size = D at *
  have hcm : ∀ y c, cl.lookup y = some c → env.cells.lookup y = some c := fun y c e => clo_mem (l := scope.names) (cs := []) (fun _ _ h => by simp at h) (hcl ▸ e)
  have nD : ¬ own env D := own_not_of_none F hD1
  have nC : ¬ own env Cl := own_not_of_none F hC1
  have nI : ¬ own env I := own_not_of_none F hn
  have frame : ∀ (Z : Fz) (ρ : Fz) (y : V) (o : Obj) (es : Array DictEntry) (q : Nat) (v' : Value), ext σ₁.Z Z → (∀ a, a ≠ D → a ≠ Cl → a ≠ I → ρ a = σ₁.ρ a) → ρ Cl = some o → o.data = .dict es q → StrKeys es → nsFind es x = some v' → VRel C.w Z y v' →
      Frm C (compEnvC scope cl Cl env) ((x, y) :: lf) Z ρ := by
    intro Z ρ y o es q v' xz hρ e1 e2 e3 e4 rv
    have keep : ∀ c, own env c → ρ c = σ₁.ρ c := fun c hc => hρ c (fun e => nD (e ▸ hc)) (fun e => nC (e ▸ hc)) (fun e => nI (e ▸ hc))
    refine ⟨hkind, F.glob, F.blt, ⟨o, es, q, e1, e2, e3, fun z v ez kz => ?_⟩, fun z v ez kz => ?_, fun z c ez => ?_, fun a b c ea eb => F.apart a b c (hcm _ _ ea) (hcm _ _ eb), fun z kz => ?_⟩
    · have kz' := relabel_local (env := env) (show (relabel scope env).names.lookup z = some .local from kz)
      by_cases hz : z = x
      · subst hz; rw [lookup_cons_self] at ez; cases ez; exact ⟨v', e4, rv⟩
      · rw [lookup_cons_ne hz] at ez
        exact absurd kz' (hlf z v ez).1
    · obtain ⟨hm, hk⟩ := relabel_cell (env := env) hcell (show (relabel scope env).names.lookup z = some .cell from kz)
      have hz : z ≠ x := by
        rintro rfl
        rw [show (compEnvC scope cl Cl env).kindOf z = some .local from lookup_relabel_local hx] at kz; cases kz
      rw [lookup_cons_ne hz] at ez
      obtain ⟨c, o', v1, a1, a2, a3, a4⟩ := F.cl z v (hlf z v ez).2 hk
      have hs := clo_isSome (cells := env.cells) (l := scope.names) (cs := []) hm (by rw [a1]; rfl)
      rw [hcl] at hs
      obtain ⟨c', hc'⟩ := Option.isSome_iff_exists.mp hs
      have : c' = c := by have := hcm _ _ hc'; rw [a1] at this; cases this; rfl
      subst this
      exact ⟨c', o', v1, hc', (keep c' (.inr ⟨z, a1⟩)).trans a2, a3, a4.mono xz⟩
    · obtain ⟨o', v1, a1, a2⟩ := F.cells z c (hcm _ _ ez)
      exact ⟨o', v1, (keep c (.inr ⟨z, hcm _ _ ez⟩)).trans a1, a2⟩
    · obtain ⟨hm, hk⟩ := relabel_cell (env := env) hcell (show (relabel scope env).names.lookup z = some .cell from kz)
      have := clo_isSome (cells := env.cells) (l := scope.names) (cs := []) hm (F.cellAt z hk)
      rwa [hcl] at this
  have hkc' : ∀ z, (compEnvC scope cl Cl env).kindOf z = (relabel scope env).names.lookup z := fun _ => rfl
  have loop : ∀ (s₃ : Shared) (σ₃ : St), Rel C σ₃.Z σ₃.μ σ₃.ρ s₃ → ext Z₂ σ₃.Z → (∀ a, a ≠ D → a ≠ Cl → a ≠ I → σ₃.ρ a = σ₁.ρ a) → σ₃.ρ I = some o₀ → σ₃.ρ D = some (listObj [] 0) → σ₃.ρ Cl = some oc → σ₃.μ = μ₂ →
      codeAny (model C.prog C.w) A (.compLoop (.ListComp elt [⟨.Name x px, iter, ifs, 0⟩] scope pos) 0 (.ref I) (.ref D) (compEnvC scope cl Cl env)) (RR (.ref D) Cl) s₃ := by
    intro s₃ σ₃ R3 x3 a3 eI eD eC eμ
    refine codeAny_compLoop_tests (CompI C n (compEnvC scope cl Cl env) x ifs elt lf Φ ok xs Z₂ σ₁.ρ D Cl I st)
      (fun m s ⟨σ, k, o, vs, q, acc, oc, es, p, em, hk, R, xz, aa, eI, hst, eD, rv, hal, eC, hdc, hkc, hl⟩ => ?_) xs.length
      ⟨σ₃, 0, o₀, [], 0, [], oc, es, ep, by simp, Nat.zero_le _, R3, x3, a3, eI, h0, eD, VRels.nil, Nat.le_refl _, eC, hdc, hkc, by rw [eμ]; simpa using hl Cl⟩
    cases hxk : xs[k]? with
    | none =>
      have hkl : xs.length ≤ k := List.getElem?_eq_none_iff.mp hxk
      rw [List.drop_eq_nil_of_le hkl] at hl
      refine (src.fin hA xz hl.1 eI hst hxk).use R fun r s3 σ3 R3 x3 ⟨er3, em3, eρ⟩ => ?_
      subst er3
      refine hRR D Cl σ3.Z σ3.μ σ3.ρ vs q acc s3 R3 ((x12.trans xz).trans x3) hD1 hC1 hDC hDs ?_ ?_ (fun a h1 h2 h3 => ?_) ⟨oc, es, p, ?_, hdc, hkc⟩ (rv.mono x3) (em3 ▸ hl.2)
      · exact R3.r _ _ (by rw [eρ, fup_ne _ _ hDI]; exact eD)
      · rw [eρ, fup_ne _ _ hDI]; exact eD
      · rw [eρ, fup_ne _ _ h3]; exact aa a h1 h2 h3
      · rw [eρ, fup_ne _ _ hCI]; exact eC
    | some y =>
      have hkl : k < xs.length := (List.getElem?_eq_some_iff.mp hxk).1
      have hd : xs.drop k = y :: xs.drop (k + 1) := by rw [List.drop_eq_getElem_cons hkl]; rw [List.getElem?_eq_getElem hkl] at hxk; cases hxk; rfl
      rw [hd] at hl
      refine (src.item hA xz hl.1 eI hst hxk).use R fun r s3 σ3 R3 x3 ⟨v', o', er3, ry, em3, eρ, hst'⟩ => ?_
      subst er3
      dsimp only
      have eC3 : σ3.ρ Cl = some oc := by rw [eρ, fup_ne _ _ hCI]; exact eC
      have eD3 : σ3.ρ D = some (listObj vs q) := by rw [eρ, fup_ne _ _ hDI]; exact eD
      have eI3 : σ3.ρ I = some o' := by rw [eρ, fup_self]
      refine wpAny_assign_Name (wpAny_storeName_local (m := nsFind es) (lookup_relabel_local hx) ⟨oc, es, p, R3.r _ _ eC3, hdc, hkc, fun _ => rfl⟩ (fun h' hn' hs' => ?_) (by show (scope.kind == .class || (scope.kind == .module && Cl != env.globals)) = false; rw [hkind]; rfl))
      obtain ⟨oc', es', p', e1', e2', e3', e4'⟩ := hn'
      have R4 := R3.setR (s' := { s3 with heap := h', toks := s3.toks + 1 }) eC3 hs' e1'
      have F4 : Frm C (compEnvC scope cl Cl env) ((x, y) :: lf) σ3.Z (fup σ3.ρ Cl (some oc')) := frame σ3.Z _ y oc' es' p' v' ((x12.trans xz).trans x3) (fun a h1 h2 h3 => by
          rw [fup_ne _ _ h2, eρ, fup_ne _ _ h3]; exact aa a h1 h2 h3) (fup_self ..) e2' e3' (by rw [e4' x]; exact if_pos rfl) ry
      have xz3 : ext Z₂ σ3.Z := xz.trans x3
      have behind : ∀ (s5 : Shared) (σ5 : St), Rel C σ5.Z σ5.μ σ5.ρ s5 → ext σ3.Z σ5.Z → σ5.ρ = fup σ3.ρ Cl (some oc') → ∀ vv v, VRel C.w σ5.Z v vv → CompL C n (compEnvC scope cl Cl env) x ifs elt lf Φ ok (xs.drop (k + 1)) (acc ++ [v]) σ5.μ →
          wpAny (model C.prog C.w) A (call (.builtin "list.append") [.ref D, vv]) (fun _ s₄ => ∃ m', m' < m ∧ CompI C n (compEnvC scope cl Cl env) x ifs elt lf Φ ok xs Z₂ σ₁.ρ D Cl I st m' s₄) (notedBy (model C.prog C.w) A (compEnvC scope cl Cl env) fun e s' => RR (.ref D) Cl (.error e) s') s5 := by
        intro s5 σ5 R5 x5 e5 vv v rvv hq
        have eD5 : σ5.ρ D = some (listObj vs q) := by rw [e5, fup_ne _ _ hDC]; exact eD3
        refine wpAny_list_append_plain (items := vs.toArray) ⟨q, R5.r _ _ eD5⟩ (fun h2 hp2 hs2 => ?_) (by rw [List.size_toArray, ← rv.1, sizeLine_eq]; omega)
        obtain ⟨q2, hp2⟩ := hp2
        have hp2' : h2.get? D = some (listObj (vs ++ [vv]) q2) := by rw [hp2]; simp [listObj]
        have R6 := R5.setR (s' := { s5 with heap := h2 }) eD5 hs2 hp2'
        refine ⟨xs.length - (k + 1), by omega, ⟨σ5.Z, σ5.μ, fup σ5.ρ D (some (listObj (vs ++ [vv]) q2))⟩, k + 1, o', vs ++ [vv], q2, acc ++ [v], oc', es', p', rfl, hkl, R6, xz3.trans x5, fun a h1 h2 h3 => ?_, ?_, hst', fup_self .., (rv.mono (x3.trans x5)).append (VRels.one rvv), by simp; omega, ?_, e2', e3', hq⟩
        · show fup _ _ _ a = _
          rw [fup_ne _ _ h1, e5, fup_ne _ _ h2, eρ, fup_ne _ _ h3]; exact aa a h1 h2 h3
        · show fup _ _ _ I = _
          rw [fup_ne _ _ hDI.symm, e5, fup_ne _ _ hCI.symm]; exact eI3
        · show fup _ _ _ Cl = _
          rw [fup_ne _ _ hDC.symm, e5, fup_self]
      have skip : ∀ (s5 : Shared) (σ5 : St), Rel C σ5.Z σ5.μ σ5.ρ s5 → ext σ3.Z σ5.Z → σ5.ρ = fup σ3.ρ Cl (some oc') → CompL C n (compEnvC scope cl Cl env) x ifs elt lf Φ ok (xs.drop (k + 1)) acc σ5.μ →
          ∃ m', m' < m ∧ CompI C n (compEnvC scope cl Cl env) x ifs elt lf Φ ok xs Z₂ σ₁.ρ D Cl I st m' s5 := by
        intro s5 σ5 R5 x5 e5 hq
        refine ⟨xs.length - (k + 1), by omega, σ5, k + 1, o', vs, q, acc, oc', es', p', rfl, hkl, R5, xz3.trans x5, fun a h1 h2 h3 => ?_, ?_, hst', ?_, rv.mono (x3.trans x5), by omega, ?_, e2', e3', hq⟩
        · rw [e5, fup_ne _ _ h2, eρ, fup_ne _ _ h3]; exact aa a h1 h2 h3
        · rw [e5, fup_ne _ _ hCI.symm]; exact eI3
        · rw [e5, fup_ne _ _ hDC]; exact eD3
        · rw [e5, fup_self]
      have hw := hl.2
      rw [← em3] at hw
      match ifs, hw, behind, skip with
      | [], hw, behind, _ =>
        refine wpAny_tests_nil ?_
        rw [if_pos rfl]
        refine (hw A hA _ _ F4).use (σ := ⟨σ3.Z, σ3.μ, fup σ3.ρ Cl (some oc')⟩) R4 fun vv s5 σ5 R5 x5 ⟨e5, v, r5, hq⟩ => behind s5 σ5 R5 x5 e5 vv v r5 hq
      | [c], hw, behind, skip =>
        refine wpAny_tests_one ?_
        refine (hw A hA _ _ F4).use (σ := ⟨σ3.Z, σ3.μ, fup σ3.ρ Cl (some oc')⟩) R4 fun b s5 σ5 R5 x5 ⟨e5, hq⟩ => ?_
        cases b with
        | false => rw [if_neg (by decide)]; exact skip s5 σ5 R5 x5 e5 hq
        | true =>
          rw [if_pos rfl]
          have F5 := F4.mono x5
          rw [← e5] at F5
          refine (hq A hA _ _ F5).use R5 fun vv s6 σ6 R6 x6 ⟨e6, v, r6, hq6⟩ => behind s6 σ6 R6 (x5.trans x6) (e6.trans e5) vv v r6 hq6
      | _ :: _ :: _, hw, _, _ => exact hw.elim
  have eI2 : fup (fup (fup σ₁.ρ I (some o₀)) D (some (listObj [] 0))) Cl (some oc) I = some o₀ := by rw [fup_ne _ _ hCI.symm, fup_ne _ _ hDI.symm, fup_self]
  have eD2 : fup (fup (fup σ₁.ρ I (some o₀)) D (some (listObj [] 0))) Cl (some oc) D = some (listObj [] 0) := by rw [fup_ne _ _ hDC, fup_self]
  have aa2 : ∀ a, a ≠ D → a ≠ Cl → a ≠ I → fup (fup (fup σ₁.ρ I (some o₀)) D (some (listObj [] 0))) Cl (some oc) a = σ₁.ρ a := fun a h1 h2 h3 => by rw [fup_ne _ _ h2, fup_ne _ _ h1, fup_ne _ _ h3]
  refine codeAny_compStart_list (loop _ ⟨Z₂, μ₂, _⟩ RC ext.rfl aa2 eI2 eD2 (fup_self ..) rfl) ?_
  refine (src.self hA ext.rfl eI2 h0).use (σ := ⟨Z₂, μ₂, _⟩) RC fun r s5 σ5 R5 x5 ⟨e1, e2, e3⟩ => ?_
  subst e1
  exact loop s5 σ5 R5 x5 (fun a h1 h2 h3 => by rw [e3]; exact aa2 a h1 h2 h3) (by rw [e3]; exact eI2) (by rw [e3]; exact eD2) (by rw [e3]; exact fup_self ..) e2
end
end SP
namespace SP
open PySem PySem.W PySem.Calls PyProof.Rows
theorem Rel.loose {C : Cx} {Z : Fz} {μ : Mu} {ρ : Fz} {s : Shared} (R : Rel C Z μ ρ s) {c : Addr} {oc : Obj} (e : ρ c = some oc) {h' : Heap} (hs : Heap.SameBut c s.heap h') : Rel C Z μ (fup ρ c none) { s with heap := h' } := by
  have R' : Rel C Z μ (fup ρ c none) s := R.less (fun _ _ e => e) (fun a o ea => by
    by_cases q : a = c
    · subst q; rw [fup_self] at ea; cases ea
    · rw [fup_ne _ _ q] at ea; exact ea)
  refine R'.heap (fun a o ea => ?_) (fun a o ea => ?_) (fun a c1 o ea eo => ?_) rfl rfl
  · have : a ≠ c := by rintro rfl; have := R.zr a o ea; rw [e] at this; cases this
    exact (hs.2 a this).trans (R.z a o ea)
  · have : a ≠ c := by rintro rfl; rw [fup_self] at ea; cases ea
    rw [fup_ne _ _ this] at ea
    exact (hs.2 a this).trans (R.r a o ea)
  · have : a ≠ c := by rintro rfl; have := R.rm a _ e; rw [ea] at this; cases this
    exact (hs.2 a this).trans eo
theorem VRel.ofList {w : World} {Z : Fz} {a : Addr} {xs vs n} (h : Z a = some (listObj vs n)) (r : VRels w Z xs vs) : VRel w Z (.list xs) (.ref a) := .list h r.1 r.2
theorem VRel.ofTup {w : World} {Z : Fz} {a : Addr} {xs vs n} (h : Z a = some (tupObj vs n)) (r : VRels w Z xs vs) : VRel w Z (.tup xs) (.ref a) := .tup h r.1 r.2
section
variable {C : Cx} {n : Nat} {env : Env} {l : Loc} {μ : Mu}
theorem free_ok {scope : Scope} {Z ρ : Fz} (F : Frm C env l Z ρ) (hk : ∀ y ∈ scope.names, y.2 = .free → env.kindOf y.1 = some .cell) : ∀ y ∈ scope.names, y.2 = .free → (env.cells.lookup y.1).isSome = true :=
  fun y hy hf => F.cellAt _ (hk y hy hf)
structure CompOk (env : Env) (scope : Scope) (x : Str) : Prop where
  cell : ∀ y ∈ scope.names, y.2 ≠ .cell
  kind : scope.kind = .function
  x : scope.names.lookup x = some .local
  free : ∀ y ∈ scope.names, y.2 = .free → env.kindOf y.1 = some .cell
  names : ∀ y ∈ scope.names, y.2 = .local → scope.names.lookup y.1 = some .local
noncomputable def compOkB (env : Env) (scope : Scope) (x : Str) : Bool :=
  scope.names.all (fun y => y.2 != .cell) && scope.kind == .function && scope.names.lookup x == some .local && scope.names.all (fun y => y.2 != .free || env.kindOf y.1 == some .cell) &&
    scope.names.all (fun y => y.2 != .local || scope.names.lookup y.1 == some .local)
theorem compOk_of {env : Env} {scope : Scope} {x : Str} (h : compOkB env scope x = true) : CompOk env scope x := by
  simp only [compOkB, Bool.and_eq_true, List.all_eq_true, bne_iff_ne, beq_iff_eq, Bool.or_eq_true, ne_eq] at h
  obtain ⟨⟨⟨⟨h1, h2⟩, h3⟩, h4⟩, h5⟩ := h
  exact ⟨h1, h2, h3, fun y hy hf => (h4 y hy).resolve_left fun q => q hf, fun y hy hf => (h5 y hy).resolve_left fun q => q hf⟩
noncomputable def locOf (scope : Scope) (l : Loc) : Loc := l.filter fun p => scope.names.lookup p.1 != some .local
theorem locOf_ok (scope : Scope) (l : Loc) : ∀ z v, (locOf scope l).lookup z = some v → scope.names.lookup z ≠ some .local ∧ l.lookup z = some v := by
  intro z v h
  unfold locOf at h
  induction l with
  | nil => simp at h
  | cons p r ih =>
    obtain ⟨y, u⟩ := p
    rw [List.filter_cons] at h
    by_cases hp : (scope.names.lookup y != some .local) = true
    · rw [if_pos hp] at h
      by_cases q : z = y
      · subst q; rw [lookup_cons_self] at h; cases h; exact ⟨by simpa using hp, lookup_cons_self⟩
      · rw [lookup_cons_ne q] at h ⊢; exact ih h
    · rw [if_neg hp] at h
      obtain ⟨a, b⟩ := ih h
      refine ⟨a, ?_⟩
      have q : z ≠ y := by rintro rfl; simp at hp; exact a hp
      rw [lookup_cons_ne q]; exact b
noncomputable abbrev kComp (C : Cx) (n : Nat) (env : Env) (scope : Scope) (x : Str) (ifs : List Expr) (elt : Expr) (l : Loc) (Ψ : List V → Mu → Prop) : V → Mu → Prop := fun v μ1 => ∃ xs okm, Itr C v xs okm ∧ xs.length ≤ 16777216 ∧ ∀ Cl, CompL C n (compEnvC scope (clo env.cells scope.names []) Cl env) x ifs elt (locOf scope l) Ψ okm xs [] μ1
noncomputable abbrev kLz (Φ : V → Mu → Prop) : List V → Mu → Prop := fun acc μ' => Φ (.list acc) μ'
noncomputable abbrev kAz (Φ : Fl → Loc → Mu → Prop) (y : Str) (l : Loc) : List V → Mu → Prop := fun acc μ' => Φ .next ((y, .list acc) :: l) μ'
noncomputable abbrev kAm (Φ : Fl → Loc → Mu → Prop) (y : Str) (l : Loc) : List V → Mu → Prop := fun acc μ' => ∀ D, μ' D = none → Φ .next ((y, .ref D) :: l) (fup μ' D (some (.list acc)))
theorem We.compCore {elt iter : Expr} {x : Str} {px : Pos} {ifs : List Expr} {scope : Scope} {pos : Pos} {Φ : V → Mu → Prop} {Ψ : List V → Mu → Prop}
    (ok : CompOk env scope x)
    (h : We C n env iter (kComp C n env scope x ifs elt l Ψ) l μ)
    (fin : ∀ D Z' μ' ρ' vs m acc s', Rel C Z' μ' ρ' s' → ρ' D = none → Z' D = none → μ' D = none → D ≠ sysModules → s'.heap.get? D = some (listObj vs m) → VRels C.w Z' acc vs → Ψ acc μ' →
      ∃ Z'' v μ'', ext Z' Z'' ∧ Rel C Z'' μ'' ρ' s' ∧ VRel C.w Z'' v (.ref D) ∧ Φ v μ'')
    (hs : ∀ v, foldedSetIterable iter env v = pure v := by intro _; rfl) : We C n env (.ListComp elt [⟨.Name x px, iter, ifs, 0⟩] scope pos) Φ l μ := by
  intro A hA Z ρ F s R
  have hf := free_ok F ok.free
  rw [eval_ListComp]
  refine wpAny_comprehension_free (use := none) rfl hs (closure_eq hf) ok.kind ok.names ((h A hA Z ρ F).use R fun xv s1 σ1 R1 x1 ⟨e1, v, r, xs, okm, hit, hsz, hl⟩ => ?_)
  refine (hit hA r (hl 0).ok).use R1 fun it s2 σ2 R2 x2 ⟨I, st, o, hI, em, er, hn, h0, src⟩ => ?_
  subst hI
  have F1 : Frm C env l σ1.Z σ1.ρ := by rw [e1]; exact F.mono x1
  refine comp_block (l := l) (lf := locOf scope l) (Φ := Ψ) (ok := okm) (xs := xs) (σ₁ := σ1) (σ₂ := σ2) hA F1 R2 x2 er hn h0 src ok.cell ok.kind ok.x (locOf_ok scope l) hf hsz (fun Cl => by rw [em]; exact hl Cl) ?_
  intro D Cl Z' μ' ρ' vs m acc s' R' x' hD hC hDC hDs gD eD a' hCl rv hΨ
  obtain ⟨oc, es, q, e2, e3, e4⟩ := hCl
  refine ⟨_, ⟨oc, es, q, R'.r _ _ e2, e3, e4, fun _ => rfl⟩, fun h' hs' => ?_⟩
  have R3 := R'.loose e2 hs'
  have hρ : ∀ a o, ρ a = some o → fup ρ' Cl none a = some o ∧ a ≠ D := by
    intro a o ea
    have ea1 : σ1.ρ a = some o := e1 ▸ ea
    have hne : ∀ b, σ1.ρ b = none → a ≠ b := by rintro b hb rfl; rw [ea1] at hb; cases hb
    rw [fup_ne _ _ (hne _ hC), a' a (hne _ hD) (hne _ hC) (hne _ hn)]
    exact ⟨ea1, hne _ hD⟩
  have R4 : Rel C Z' μ' ρ { s' with heap := h' } := R3.less (fun _ _ e => e) fun a o ea => (hρ a o ea).1
  have zD : Z' D = none := R'.zn eD
  have mD : μ' D = none := R'.rm D _ eD
  obtain ⟨Z'', v, μ'', x'', R5, rv5, hΦ⟩ := fin D Z' μ' ρ vs m acc _ R4 (by rw [← e1]; exact hD) zD mD hDs ((hs'.2 D hDC).trans gD) rv hΨ
  exact ⟨⟨Z'', μ'', ρ⟩, R5, (x1.trans x').trans x'', rfl, v, rv5, hΦ⟩
theorem We.comp {elt iter : Expr} {x : Str} {px : Pos} {ifs : List Expr} {scope : Scope} {pos : Pos} {Φ : V → Mu → Prop}
    (ok : compOkB env scope x = true)
    (h : We C n env iter (kComp C n env scope x ifs elt l (kLz Φ)) l μ)
    (hs : ∀ v, foldedSetIterable iter env v = pure v := by intro _; rfl) : We C n env (.ListComp elt [⟨.Name x px, iter, ifs, 0⟩] scope pos) Φ l μ :=
  We.compCore (compOk_of ok) h (fun D Z' μ' ρ' vs m acc s' R' hr hz hm hq hD rv hΨ =>
    ⟨fup Z' D (some (listObj vs m)), .list acc, μ', ext_fup hz, R'.addZ hD hz hm hr, VRel.ofList (fup_self ..) (rv.mono (ext_fup hz)), hΨ⟩) hs
theorem Wx.assignCompCore {elt iter : Expr} {x y : Str} {px py : Pos} {ifs : List Expr} {scope : Scope} {pos spos : Pos} {Φ : Fl → Loc → Mu → Prop} {Ψ : List V → Mu → Prop}
    (hsw : swapsWith (.ListComp elt [⟨.Name x px, iter, ifs, 0⟩] scope pos) (some (.Name y py)) spos.line env = pure true)
    (ok : CompOk env scope x) (hy : env.kindOf y = some .local ∨ env.kindOf y = some .cell)
    (h : We C n env iter (kComp C n env scope x ifs elt l Ψ) l μ)
    (fin : ∀ D Z' μ' ρ' vs m acc s', Rel C Z' μ' ρ' s' → ρ' D = none → Z' D = none → μ' D = none → D ≠ sysModules → s'.heap.get? D = some (listObj vs m) → VRels C.w Z' acc vs → Ψ acc μ' →
      ∃ Z'' v μ'', ext Z' Z'' ∧ Rel C Z'' μ'' ρ' s' ∧ VRel C.w Z'' v (.ref D) ∧ Φ .next ((y, v) :: l) μ'')
    (hs : ∀ v, foldedSetIterable iter env v = pure v := by intro _; rfl) : Wx C n env (.Assign [.Name y py] (.ListComp elt [⟨.Name x px, iter, ifs, 0⟩] scope pos) spos) Φ l μ := by
  intro A hA Z ρ F s R
  have hf := free_ok F ok.free
  rw [exec_Assign_Name_used _ _ _ _ hsw]
  refine wpAny_bind (wpAny_standAt (wpAny_bind ?_))
  show wpAny _ A (do let _ ← comprehension (.ListComp elt [⟨.Name x px, iter, ifs, 0⟩] scope pos) scope env _ (newList []) false (eval iter env) (some (PySem.assign (.Name y py) env))) _ _ s
  refine wpAny_bind (wpAny_mono (wpAny_comprehension_free (use := some (PySem.assign (.Name y py) env)) (Q := fun _ s' => PO C Z (PA C env ρ (Φ .next)) () s') (E := NoE) rfl hs (closure_eq hf) ok.kind ok.names
    ((h A hA Z ρ F).use R fun xv s1 σ1 R1 x1 ⟨e1, v, r, xs, okm, hit, hsz, hl⟩ => ?_)) (fun _ s' ⟨σ', R', x', l', F', o', q'⟩ => wpAny_pure (wpAny_pure ⟨σ', R', x', .next, l', .next, F', o', q'⟩)) fun _ _ e => e.elim)
  refine (hit hA r (hl 0).ok).use R1 fun it s2 σ2 R2 x2 ⟨I, st, o, hI, em, er, hn, h0, src⟩ => ?_
  subst hI
  have F1 : Frm C env l σ1.Z σ1.ρ := by rw [e1]; exact F.mono x1
  refine comp_block (l := l) (lf := locOf scope l) (Φ := Ψ) (ok := okm) (xs := xs) (σ₁ := σ1) (σ₂ := σ2) hA F1 R2 x2 er hn h0 src ok.cell ok.kind ok.x (locOf_ok scope l) hf hsz (fun Cl => by rw [em]; exact hl Cl) ?_
  intro D Cl Z' μ' ρ' vs m acc s' R' x' hD hC hDC hDs gD eD a' hCl rv hΨ
  obtain ⟨oc, es, q, e2, e3, e4⟩ := hCl
  have hne : ∀ {a o}, ρ a = some o → ∀ b, σ1.ρ b = none → a ≠ b := by
    rintro a o ea b hb rfl; rw [e1, ea] at hb; cases hb
  have nC : ¬ own env Cl := own_not_of_none F1 hC
  have nD : ¬ own env D := own_not_of_none F1 hD
  have nI : ¬ own env I := own_not_of_none F1 hn
  have zD : Z' D = none := R'.zn eD
  have mD : μ' D = none := R'.rm D _ eD
  have RD : Rel C Z' μ' (fup ρ' D none) s' := R'.less (fun _ _ e => e) fun a o ea => by
    by_cases q : a = D
    · subst q; rw [fup_self] at ea; cases ea
    · rw [fup_ne _ _ q] at ea; exact ea
  obtain ⟨Z'', v, μ'', x'', R5, rv5, hΦ⟩ := fin D Z' μ' (fup ρ' D none) vs m acc _ RD (fup_self ..) zD mD hDs gD rv hΨ
  have F5 : Frm C env l Z'' (fup ρ' D none) := (F1.mono (x'.trans x'')).offs fun a ha => by
    have hD' : a ≠ D := fun q => nD (q ▸ ha)
    have hC' : a ≠ Cl := fun q => nC (q ▸ ha)
    have hI' : a ≠ I := fun q => nI (q ▸ ha)
    rw [fup_ne _ _ hD']
    exact a' a hD' hC' hI'
  show wpAny _ A (PySem.assign (.Name y py) env (.ref D)) _ _ _
  refine wpAny_assign_Name ((F5.store (A := A) (μ := μ'') (Φ := fun _ σ' => ∃ ρ6, σ'.Z = Z'' ∧ σ'.μ = μ'' ∧ σ'.ρ = ρ6 ∧ Frm C env ((y, v) :: l) Z'' ρ6 ∧ off env (fup ρ' D none) ρ6) hy rv5 fun ρ6 F6 o6 => ⟨ρ6, rfl, rfl, rfl, F6, o6⟩).use R5 fun _ s6 σ6 R6 x6 ⟨ρ6, h1, h2, h3, F6, o6⟩ => ?_)
  have eC6 : σ6.ρ Cl = some oc := by rw [h3, o6 Cl nC, fup_ne _ _ (Ne.symm hDC)]; exact e2
  refine ⟨_, ⟨oc, es, q, R6.r _ _ eC6, e3, e4, fun _ => rfl⟩, fun h' hs' => ?_⟩
  have R7 := R6.loose eC6 hs'
  rw [h1, h2, h3] at R7
  have R8 : Rel C Z'' μ'' (fup (fup ρ6 Cl none) I none) { s6 with heap := h' } := R7.less (fun _ _ e => e) fun a o ea => by
    by_cases q : a = I
    · subst q; rw [fup_self] at ea; cases ea
    · rw [fup_ne _ _ q] at ea; exact ea
  refine ⟨⟨Z'', μ'', fup (fup ρ6 Cl none) I none⟩, R8, (x1.trans x').trans x'', (y, v) :: l, (F6.fupI nC).fupI nI, fun a ha => ?_, hΦ⟩
  show fup _ _ _ a = ρ a
  by_cases q1 : a = I
  · subst q1; rw [fup_self, ← e1, hn]
  · rw [fup_ne _ _ q1]
    by_cases q2 : a = Cl
    · subst q2; rw [fup_self, ← e1, hC]
    · rw [fup_ne _ _ q2, o6 a ha]
      by_cases q3 : a = D
      · subst q3; rw [fup_self, ← e1, hD]
      · rw [fup_ne _ _ q3, a' a q3 q2 q1, e1]
theorem Wx.assignComp {elt iter : Expr} {x y : Str} {px py : Pos} {ifs : List Expr} {scope : Scope} {pos spos : Pos} {Φ : Fl → Loc → Mu → Prop}
    (hsw : swapsWith (.ListComp elt [⟨.Name x px, iter, ifs, 0⟩] scope pos) (some (.Name y py)) spos.line env = pure true)
    (ok : compOkB env scope x = true) (hy : env.kindOf y = some .local ∨ env.kindOf y = some .cell)
    (h : We C n env iter (kComp C n env scope x ifs elt l (kAz Φ y l)) l μ)
    (hs : ∀ v, foldedSetIterable iter env v = pure v := by intro _; rfl) : Wx C n env (.Assign [.Name y py] (.ListComp elt [⟨.Name x px, iter, ifs, 0⟩] scope pos) spos) Φ l μ :=
  Wx.assignCompCore hsw (compOk_of ok) hy h (fun D Z' μ' ρ' vs m acc s' R' hr hz hm hq hD rv hΨ =>
    ⟨fup Z' D (some (listObj vs m)), .list acc, μ', ext_fup hz, R'.addZ hD hz hm hr, VRel.ofList (fup_self ..) (rv.mono (ext_fup hz)), hΨ⟩) hs
theorem Wx.assignCompM {elt iter : Expr} {x y : Str} {px py : Pos} {ifs : List Expr} {scope : Scope} {pos spos : Pos} {Φ : Fl → Loc → Mu → Prop}
    (hsw : swapsWith (.ListComp elt [⟨.Name x px, iter, ifs, 0⟩] scope pos) (some (.Name y py)) spos.line env = pure true)
    (ok : compOkB env scope x = true) (hy : env.kindOf y = some .local ∨ env.kindOf y = some .cell)
    (h : We C n env iter (kComp C n env scope x ifs elt l (kAm Φ y l)) l μ)
    (hs : ∀ v, foldedSetIterable iter env v = pure v := by intro _; rfl) : Wx C n env (.Assign [.Name y py] (.ListComp elt [⟨.Name x px, iter, ifs, 0⟩] scope pos) spos) Φ l μ :=
  Wx.assignCompCore hsw (compOk_of ok) hy h (fun D Z' μ' ρ' vs m acc s' R' hr hz hm hq hD rv hΨ =>
    ⟨Z', .ref D, fup μ' D (some (.list acc)), ext.rfl, R'.addM hD (.list rv) hz hr hq, .ref D, hΨ D hm⟩) hs
end
end SP
namespace SP
open PySem PySem.W PySem.Calls PyProof.Rows
noncomputable def CallV (C : Cx) (n : Nat) (fv : Value) (args : List V) (Φ : V → Mu → Prop) (μ : Mu) : Prop :=
  ∀ A, AOk n A → ∀ Z ρ vs, VRels C.w Z args vs → Vop C A (call fv vs) Φ Z μ ρ
theorem CallV.le {C : Cx} {n m : Nat} {fv : Value} {args : List V} {Φ : V → Mu → Prop} {μ : Mu} (h : CallV C m fv args Φ μ) (hm : m ≤ n) : CallV C n fv args Φ μ :=
  fun A hA => h A (hA.le hm)
noncomputable def CodeV (C : Cx) (n : Nat) (fv : Value) (args : List V) (Φ : V → Mu → Prop) (μ : Mu) : Prop :=
  ∀ A, AOk n A → ∀ Z ρ vs s, VRels C.w Z args vs → Rel C Z μ ρ s → codeAny (model C.prog C.w) A (.call fv ⟨vs, []⟩) (fun r s' => match r with
    | .ok (.ret v') => PO C Z (PV C Φ ρ) v' s'
    | .ok _ => False
    | .error e => NoE e s') s
theorem CodeV.call {C : Cx} {n : Nat} {fv : Value} {args : List V} {Φ : V → Mu → Prop} {μ : Mu} (h : CodeV C n fv args Φ μ) : CallV C n fv args Φ μ :=
  fun A hA Z ρ vs r s R => wpAny_call (h A hA Z ρ vs s r R)
noncomputable def retV : Fl → V
  | .ret v => v
  | _ => .none
theorem bindL_look {kindOf : Str → Option NameKind} {x : Str} (hk : kindOf x = some .local) : ∀ {b : List (Str × Value)} {m : Str → Option Value} {v : Value}, (b.map (·.1)).Nodup → b.lookup x = some v → bindL kindOf b m x = some v
  | (y, u) :: r, m, v, hn, h => by
    rw [List.map_cons, List.nodup_cons] at hn
    unfold bindL
    by_cases q : x = y
    · subst q
      simp [List.lookup] at h
      subst h
      have key : ∀ {b : List (Str × Value)} {m : Str → Option Value}, x ∉ b.map (·.1) → bindL kindOf b m x = m x := by
        intro b
        induction b with
        | nil => intro m _; rfl
        | cons p r ih =>
          obtain ⟨z, w⟩ := p
          intro m hm
          have hz : x ≠ z := fun e => hm (by simp [e])
          have hr : x ∉ r.map (·.1) := fun e => hm (by simp [e])
          unfold bindL
          rw [ih hr]
          split
          · exact if_neg hz
          · rfl
      rw [key hn.1, if_pos hk, if_pos rfl]
    · have hq : (x == y) = false := by simpa using q
      simp only [List.lookup, hq] at h
      exact bindL_look hk hn.2 h
theorem bindC_look {kindOf : Str → Option NameKind} {x : Str} (hk : kindOf x ≠ some .local) : ∀ {b : List (Str × Value)} {m : Str → Option Value} {v : Value}, (b.map (·.1)).Nodup → b.lookup x = some v → bindC kindOf b m x = some v
  | (y, u) :: r, m, v, hn, h => by
    rw [List.map_cons, List.nodup_cons] at hn
    unfold bindC
    by_cases q : x = y
    · subst q
      simp [List.lookup] at h
      subst h
      have key : ∀ {b : List (Str × Value)} {m : Str → Option Value}, x ∉ b.map (·.1) → bindC kindOf b m x = m x := by
        intro b
        induction b with
        | nil => intro m _; rfl
        | cons p r ih =>
          obtain ⟨z, w⟩ := p
          intro m hm
          have hz : x ≠ z := fun e => hm (by simp [e])
          have hr : x ∉ r.map (·.1) := fun e => hm (by simp [e])
          unfold bindC
          rw [ih hr]
          split
          · rfl
          · exact if_neg hz
      rw [key hn.1, if_neg hk, if_pos rfl]
    · have hq : (x == y) = false := by simpa using q
      simp only [List.lookup, hq] at h
      exact bindC_look hk hn.2 h
theorem cellsFrom_keep {x : Str} : ∀ {names : List (Str × NameKind)} {n : Nat} {acc : List (Str × Addr)}, (acc.lookup x).isSome = true → ((cellsFrom n names acc).lookup x).isSome = true
  | [], _, _, h => h
  | (y, k) :: r, n, acc, h => by
    unfold cellsFrom
    split
    · refine cellsFrom_keep ?_
      by_cases q : x = y
      · subst q; simp [List.lookup]
      · have hq : (x == y) = false := by simpa using q
        simp only [List.lookup, hq]; exact h
    · exact cellsFrom_keep h
theorem cellsFrom_some {x : Str} : ∀ {names : List (Str × NameKind)} {n : Nat} {acc : List (Str × Addr)}, names.lookup x = some .cell → ((cellsFrom n names acc).lookup x).isSome = true
  | (y, k) :: r, n, acc, h => by
    unfold cellsFrom
    by_cases q : x = y
    · subst q
      simp [List.lookup] at h
      subst h
      simp only [beq_self_eq_true, if_true]
      exact cellsFrom_keep (by simp [List.lookup])
    · have hq : (x == y) = false := by simpa using q
      simp only [List.lookup, hq] at h
      split <;> exact cellsFrom_some h
theorem zip_nodup {β : Type} {names : List Str} (h : names.Nodup) {vs : List β} : ((names.zip vs).map (·.1)).Nodup := by
  induction names generalizing vs with
  | nil => simp
  | cons x r ih =>
    cases vs with
    | nil => simp
    | cons v vs =>
      rw [List.nodup_cons] at h
      rw [List.zip_cons_cons, List.map_cons, List.nodup_cons]
      refine ⟨fun hm => ?_, ih h.2⟩
      obtain ⟨p, hp, e⟩ := List.mem_map.mp hm
      have e : p.1 = x := e
      exact h.1 (e ▸ (List.of_mem_zip hp).1)
theorem zip_look {names : List Str} {w : World} {Z : Fz} : ∀ {xs : List V} {vs : List Value} {x : Str} {v : V}, VRels w Z xs vs → (names.zip xs).lookup x = some v → ∃ v', (names.zip vs).lookup x = some v' ∧ VRel w Z v v' := by
  induction names with
  | nil => intro xs vs x v _ h; simp at h
  | cons y r ih =>
    intro xs vs x v hr h
    cases xs with
    | nil => simp at h
    | cons a xs =>
      obtain ⟨b, us, rfl, h1, h2⟩ := hr.cons_inv
      rw [List.zip_cons_cons] at h ⊢
      by_cases q : x = y
      · subst q
        rw [lookup_cons_self] at h; cases h
        exact ⟨b, by simp [List.lookup], h1⟩
      · rw [lookup_cons_ne q] at h
        have hq : (x == y) = false := by simpa using q
        simp only [List.lookup, hq]
        exact ih h2 h
noncomputable def defOk (K : Frag) (fd : FuncData) (names : List Str) : Bool :=
  !fd.scope.isCoroutine && !fd.scope.isGenerator && fd.scope.kind == .function && fd.closure.isEmpty && fd.globals == mainGlobals && fd.builtins == builtinsNs && codeIn K fd.code fd.qualname &&
    names.all (fun x => fd.scope.names.lookup x == some .local || fd.scope.names.lookup x == some .cell) && decide names.Nodup
theorem CodeV.def {C : Cx} {n : Nat} {f : Addr} {o : Obj} {fd : FuncData} {body : List Stmt} {names : List Str} {args dv : List V} {dv' : List Value} {Φ : V → Mu → Prop} {μ : Mu}
    (hK : C.K.lookup f = some o) (hd : o.data = .func fd) (hb : fd.body = .stmts body) (ok : defOk C.K fd names = true)
    (hdv : ∀ Z, VRels C.w Z dv dv')
    (hbind : ∀ vs, vs.length = args.length → Looks (model C.prog C.w) C.h₀ (bindArgs fd ⟨vs, []⟩) (names.zip (vs ++ dv')))
    (h : ∀ L, Ws C n (callEnvC fd L f) body (fun fl _ μ' => Φ (retV fl) μ') (names.zip (args ++ dv)) μ) : CodeV C (n + 1) (.ref f) args Φ μ := by
  intro A hA Z ρ vs s rv R
  simp only [defOk, Bool.and_eq_true, Bool.not_eq_true', beq_iff_eq, List.isEmpty_iff, List.all_eq_true, Bool.or_eq_true, decide_eq_true_eq] at ok
  obtain ⟨⟨⟨⟨⟨⟨⟨⟨o1, o2⟩, o3⟩, o4⟩, o5⟩, o6⟩, o7⟩, o8⟩, o9⟩ := ok
  have ho : s.heap.get? f = some o := R.X _ _ hK
  refine codeAny_call_function hA.room ho hd o1 o2 hb (codeRec_of R.X o7) ?_
  refine (hbind vs rv.1.symm) _ _ _ _ R.keep ?_
  rw [o4]
  have hnd : ((names.zip (vs ++ dv')).map (·.1)).Nodup := by
    exact zip_nodup o9
  have hmem : ∀ x ∈ names.zip (vs ++ dv'), x.1 ∈ names := fun x hx => (List.of_mem_zip hx).1
  refine wpAny_newFunctionEnv_cells o3 (fun x hx => ?_) fun env he s₁ X => ?_
  · rcases o8 x.1 (hmem x hx) with e | e
    · exact .inl e
    · exact .inr ⟨e, cellsFrom_some e⟩
  have he' : env = callEnvC fd s.heap.objs.size f := he
  subst he'
  have hsame := X.toInCall.same
  obtain ⟨h₁, tk, hs1⟩ := hsame
  have hk₁ : ∀ b o, s.heap.get? b = some o → s₁.heap.get? b = some o := X.toInCall.keep
  refine ⟨R.NL.keeps hk₁, codeAny_func ?_⟩
  have hA' : AOk n (A.deeper (callEnvC fd s.heap.objs.size f)) := ⟨by have := hA.d; show A.depth + 1 + 3 * n ≤ 900; omega, by have := hA.u; show A.units + 3 + 20 * n ≤ 8000; omega, hA.h⟩
  let N : Nat := s.heap.objs.size
  let ρ1 : Fz := fun a => if @LT.lt Nat _ a N then ρ a else s₁.heap.get? a
  have lo : ∀ a, @LT.lt Nat _ a N → ρ1 a = ρ a := fun a h => if_pos h
  have hi : ∀ a, ¬ @LT.lt Nat _ a N → ρ1 a = s₁.heap.get? a := fun a h => if_neg h
  have R1 : Rel C Z μ ρ1 s₁ := by
    have Rg : Rel C Z μ ρ s₁ := R.grow hk₁ (by rw [hs1]) (by rw [hs1])
    refine ⟨Rg.base, Rg.z, fun a o e => ?_, Rg.m, fun a o e => ?_, Rg.zm, fun a o e => ?_, Rg.gens, Rg.os, Rg.lo⟩
    · by_cases q : @LT.lt Nat _ a N
      · rw [lo a q] at e; exact Rg.r a o e
      · rw [hi a q] at e; exact e
    · have := R.lt_z e
      rw [lo a this]; exact R.zr a o e
    · by_cases q : @LT.lt Nat _ a N
      · rw [lo a q] at e; exact Rg.rm a o e
      · cases h : μ a with
        | none => rfl
        | some c => exact absurd (R.lt_m h) q
  have F1 : Frm C (callEnvC fd s.heap.objs.size f) (names.zip (args ++ dv)) Z ρ1 := by
    have hLN : ¬ @LT.lt Nat _ (callEnvC fd s.heap.objs.size f).locals N := Nat.lt_irrefl _
    have rvd : VRels C.w Z (args ++ dv) (vs ++ dv') := rv.append (hdv Z)
    obtain ⟨oL, es, ep, e1, e2, e3, e4⟩ := X.toInCall.ns
    have hab : ∀ x c, (callEnvC fd s.heap.objs.size f).cells.lookup x = some c → ¬ @LT.lt Nat _ c N := fun x c hc => by
      have h : @LT.lt Nat _ s.heap.objs.size c := X.above x c (mem_of_lookup hc)
      show ¬ @LT.lt Nat _ c s.heap.objs.size
      omega
    refine ⟨o3, o5, o6, ⟨oL, es, ep, (hi _ hLN).trans e1, e2, e3, fun x v hx hk => ?_⟩, fun x v hx hk => ?_, fun x c hc => ?_, fun x y c hx hy => name_of_addr X.apart (mem_of_lookup hx) (mem_of_lookup hy), fun x hk => cellsFrom_some hk⟩
    · obtain ⟨v', h1, h2⟩ := zip_look rvd hx
      exact ⟨v', (e4 x).trans (bindL_look hk hnd h1), h2⟩
    · obtain ⟨v', h1, h2⟩ := zip_look rvd hx
      obtain ⟨c, hc⟩ := Option.isSome_iff_exists.mp (cellsFrom_some (n := s.heap.objs.size + 1) (acc := []) hk)
      obtain ⟨oc, g1, g2⟩ := X.cell x c hc
      refine ⟨c, oc, v', hc, (hi _ (hab x c hc)).trans g1, ?_, h2⟩
      rw [g2, bindC_look (fun e => by rw [hk] at e; cases e) hnd h1]
    · obtain ⟨oc, g1, g2⟩ := X.cell x c hc
      exact ⟨oc, _, (hi _ (hab x c hc)).trans g1, g2⟩
  refine (h _ _ hA' Z ρ1 F1).use R1 fun fl s2 σ2 R2 x2 ⟨fl', l', rf, F2, o2', q⟩ => ?_
  have hρ : ext ρ σ2.ρ := fun a o e => by
    have ha := R.lt_r e
    rw [o2' a ?_, lo a ha]; exact e
    rintro (hL | ⟨x, hc⟩)
    · exact Nat.lt_irrefl _ (hL ▸ ha)
    · have h : @LT.lt Nat _ s.heap.objs.size a := X.above x a (mem_of_lookup hc)
      exact Nat.lt_irrefl _ (Nat.lt_trans ha h)
  refine ⟨⟨σ2.Z, σ2.μ, ρ⟩, R2.less (fun _ _ e => e) hρ, x2, rfl, retV fl', ?_, q⟩
  cases rf with
  | ret r => exact r
  | next => exact .none
  | brk => exact .none
  | cont => exact .none
theorem CallV.def {C : Cx} {n : Nat} {f : Addr} {o : Obj} {fd : FuncData} {body : List Stmt} {names : List Str} {args dv : List V} {dv' : List Value} {Φ : V → Mu → Prop} {μ : Mu}
    (hK : C.K.lookup f = some o) (hd : o.data = .func fd) (hb : fd.body = .stmts body) (ok : defOk C.K fd names = true)
    (hdv : ∀ Z, VRels C.w Z dv dv')
    (hbind : ∀ vs, vs.length = args.length → Looks (model C.prog C.w) C.h₀ (bindArgs fd ⟨vs, []⟩) (names.zip (vs ++ dv')))
    (h : ∀ L, Ws C n (callEnvC fd L f) body (fun fl _ μ' => Φ (retV fl) μ') (names.zip (args ++ dv)) μ) : CallV C (n + 1) (.ref f) args Φ μ :=
  (CodeV.def hK hd hb ok hdv hbind h).call
theorem CallV.def0 {C : Cx} {n : Nat} {f : Addr} {o : Obj} {fd : FuncData} {body : List Stmt} {names : List Str} {args : List V} {Φ : V → Mu → Prop} {μ : Mu}
    (hK : C.K.lookup f = some o) (hd : o.data = .func fd) (hb : fd.body = .stmts body) (ok : defOk C.K fd names = true)
    (hbind : ∀ vs, vs.length = args.length → bindArgs fd ⟨vs, []⟩ = pure (names.zip vs))
    (h : ∀ L, Ws C n (callEnvC fd L f) body (fun fl _ μ' => Φ (retV fl) μ') (names.zip args) μ) : CallV C (n + 1) (.ref f) args Φ μ :=
  CallV.def hK hd hb ok (dv := []) (dv' := []) (fun _ => .nil) (fun vs hv => Looks.of_pure (by rw [hbind vs hv, List.append_nil])) (by simpa using h)
end SP
namespace SP
open PySem PySem.W PySem.Calls PyProof.Rows
section
variable {C : Cx} {n : Nat} {env : Env} {l : Loc} {μ : Mu}
noncomputable def BinV (C : Cx) (n : Nat) (op : Operator) (a b : V) (Φ : V → Mu → Prop) (μ : Mu) : Prop :=
  ∀ A, AOk n A → ∀ Z ρ a' b', VRel C.w Z a a' → VRel C.w Z b b' → Vop C A (binaryOp op a' b') Φ Z μ ρ
noncomputable def CmpV (C : Cx) (n : Nat) (op : CmpOp) (a b : V) (Φ : V → Mu → Prop) (μ : Mu) : Prop :=
  ∀ A, AOk n A → ∀ Z ρ a' b', VRel C.w Z a a' → VRel C.w Z b b' → Vop C A (compareOp op a' b') Φ Z μ ρ
noncomputable def TruV (C : Cx) (n : Nat) (a : V) (Φ : Bool → Mu → Prop) (μ : Mu) : Prop :=
  ∀ A, AOk n A → ∀ Z ρ a', VRel C.w Z a a' → Op C A (truthy a') (PT Φ ρ) ⟨Z, μ, ρ⟩
noncomputable def AttV (C : Cx) (n : Nat) (a : V) (x : Str) (Φ : V → Mu → Prop) (μ : Mu) : Prop :=
  ∀ A, AOk n A → ∀ Z ρ a', VRel C.w Z a a' → Vop C A (getAttr a' x true) Φ Z μ ρ
noncomputable def SubV (C : Cx) (n : Nat) (a b : V) (Φ : V → Mu → Prop) (μ : Mu) : Prop :=
  ∀ A, AOk n A → ∀ Z ρ a' b', VRel C.w Z a a' → VRel C.w Z b b' → ∀ value slice : Expr, (∀ i, subscripted slice false a' i = operate [a', i] (getItem a' i)) → Vop C A (subscriptTail value slice a' b') Φ Z μ ρ
theorem We.name {x : Str} {p : Pos} {v : V} {Φ : V → Mu → Prop} (hx : l.lookup x = some v) (hk : env.kindOf x = some .local ∨ env.kindOf x = some .cell) (h : Φ v μ) (hd : (x == ("__debug__" : Str)) = false := by decide) :
    We C n env (.Name x p) Φ l μ := by
  intro A hA Z ρ F s R
  exact wpAny_Name ((F.load (A := A) (μ := μ) (Φ := PV C Φ ρ) hx hk fun v' r => ⟨rfl, v, r, h⟩) s R) hd
theorem We.int {i : Int} {k : Nat} {p : Pos} {Φ : V → Mu → Prop} (h : Φ (.int i) μ) : We C n env (.Constant (.int i) k p) Φ l μ :=
  fun _ _ Z ρ _ _ R => wpAny_Constant_int ⟨_, R.tok _, ext.rfl, rfl, _, .int i _, h⟩
theorem We.str {x : Str} {k : Nat} {p : Pos} {Φ : V → Mu → Prop} (h : Φ (.str x) μ) : We C n env (.Constant (.str x) k p) Φ l μ :=
  fun _ _ Z ρ _ _ R => wpAny_Constant_str ⟨_, R.tok _, ext.rfl, rfl, _, .str x _, h⟩
theorem We.bool {b : Bool} {k : Nat} {p : Pos} {Φ : V → Mu → Prop} (h : Φ (.bool b) μ) : We C n env (.Constant (.bool b) k p) Φ l μ :=
  fun _ _ Z ρ _ _ R => wpAny_Constant_bool ⟨_, R, ext.rfl, rfl, _, .bool b, h⟩
theorem We.none {k : Nat} {p : Pos} {Φ : V → Mu → Prop} (h : Φ .none μ) : We C n env (.Constant .none k p) Φ l μ :=
  fun _ _ Z ρ _ _ R => wpAny_Constant_none ⟨_, R, ext.rfl, rfl, _, .none, h⟩
theorem We.use {e : Expr} {Φ : V → Mu → Prop} (h : We C n env e Φ l μ) {A : Around} (hA : AOk n A) {Z ρ : Fz} (F : Frm C env l Z ρ) {s : Shared} (R : Rel C Z μ ρ s) {Q : Value → Shared → Prop} {E : Value → Shared → Prop}
    (k : ∀ v' s' Z' v μ', Rel C Z' μ' ρ s' → ext Z Z' → Frm C env l Z' ρ → VRel C.w Z' v v' → Φ v μ' → Q v' s') : wpAny (model C.prog C.w) A (eval e env) Q E s :=
  (h A hA Z ρ F).use R fun v' s' σ' R' x ⟨e, v, r, p⟩ => by
    obtain ⟨Z', μ', ρ'⟩ := σ'; dsimp only at *; subst e; exact k v' s' Z' v μ' R' x (F.mono x) r p
theorem Wt.use {e : Expr} {Φ : Bool → Mu → Prop} (h : Wt C n env e Φ l μ) {A : Around} (hA : AOk n A) {Z ρ : Fz} (F : Frm C env l Z ρ) {s : Shared} (R : Rel C Z μ ρ s) {Q : Bool → Shared → Prop} {E : Value → Shared → Prop}
    (k : ∀ b s' Z' μ', Rel C Z' μ' ρ s' → ext Z Z' → Frm C env l Z' ρ → Φ b μ' → Q b s') : wpAny (model C.prog C.w) A (isTrue e env (eval e env)) Q E s :=
  (h A hA Z ρ F).use R fun b s' σ' R' x ⟨e, p⟩ => by
    obtain ⟨Z', μ', ρ'⟩ := σ'; dsimp only at *; subst e; exact k b s' Z' μ' R' x (F.mono x) p
theorem Vop.end {A : Around} {t : Sem Value} {Φ : V → Mu → Prop} {Z Z₀ ρ : Fz} {s : Shared} (h : Vop C A t Φ Z μ ρ) (R : Rel C Z μ ρ s) (x : ext Z₀ Z) :
    wpAny (model C.prog C.w) A t (PO C Z₀ (PV C Φ ρ)) NoE s :=
  Op.use h R fun _ _ σ' R' x' p => ⟨σ', R', x.trans x', p⟩
noncomputable abbrev kB2 (C : Cx) (n : Nat) (op : Operator) (a : V) (Φ : V → Mu → Prop) : V → Mu → Prop := fun b μ2 => BinV C n op a b Φ μ2
noncomputable abbrev kB1 (C : Cx) (n : Nat) (env : Env) (op : Operator) (e2 : Expr) (Φ : V → Mu → Prop) (l : Loc) : V → Mu → Prop := fun a μ1 => We C n env e2 (kB2 C n op a Φ) l μ1
noncomputable abbrev kC2 (C : Cx) (n : Nat) (op : CmpOp) (a : V) (Φ : V → Mu → Prop) : V → Mu → Prop := fun b μ2 => CmpV C n op a b Φ μ2
noncomputable abbrev kC1 (C : Cx) (n : Nat) (env : Env) (op : CmpOp) (e2 : Expr) (Φ : V → Mu → Prop) (l : Loc) : V → Mu → Prop := fun a μ1 => We C n env e2 (kC2 C n op a Φ) l μ1
noncomputable abbrev kTb (Φ : Bool → Mu → Prop) : V → Mu → Prop := fun v μ' => ∃ t, v = .bool t ∧ Φ t μ'
noncomputable abbrev kNot (Φ : Bool → Mu → Prop) : Bool → Mu → Prop := fun b μ' => Φ (!b) μ'
theorem We.bin {e1 e2 : Expr} {op : Operator} {p : Pos} {Φ : V → Mu → Prop} (h : We C n env e1 (kB1 C n env op e2 Φ l) l μ) : We C n env (.BinOp e1 op e2 p) Φ l μ := by
  intro A hA Z ρ F s R
  refine wpAny_BinOp (h.use hA F R fun a' s1 Z1 a μ1 R1 x1 F1 ra h1 => h1.use hA F1 R1 fun b' s2 Z2 b μ2 R2 x2 F2 rb h2 => ?_)
  exact (h2 A hA Z2 ρ a' b' (ra.mono x2) rb).end R2 (x1.trans x2)
theorem We.cmp {e1 e2 : Expr} {op : CmpOp} {p : Pos} {Φ : V → Mu → Prop} (h : We C n env e1 (kC1 C n env op e2 Φ l) l μ)
    (hm : behindInMarks op e2 = false := by with_unfolding_all rfl) : We C n env (.Compare e1 [op] [e2] p) Φ l μ := by
  intro A hA Z ρ F s R
  refine wpAny_Compare1 (h.use hA F R fun a' s1 Z1 a μ1 R1 x1 F1 ra h1 => h1.use hA F1 R1 fun b' s2 Z2 b μ2 R2 x2 F2 rb h2 => ?_) hm
  exact (h2 A hA Z2 ρ a' b' (ra.mono x2) rb).end R2 (x1.trans x2)
theorem Wt.cmp {e1 e2 : Expr} {op : CmpOp} {p : Pos} {Φ : Bool → Mu → Prop} (h : We C n env e1 (kC1 C n env op e2 (kTb Φ) l) l μ)
    (hm : behindInMarks op e2 = false := by with_unfolding_all rfl) : Wt C n env (.Compare e1 [op] [e2] p) Φ l μ := by
  intro A hA Z ρ F s R
  refine wpAny_isTrue_Compare1 (h.use hA F R fun a' s1 Z1 a μ1 R1 x1 F1 ra h1 => h1.use hA F1 R1 fun b' s2 Z2 b μ2 R2 x2 F2 rb h2 => ?_) hm
  refine (h2 A hA Z2 ρ a' b' (ra.mono x2) rb).use R2 fun v' s3 σ3 R3 x3 ⟨e3, v, r, t, hv, q⟩ => ?_
  subst hv
  (first | obtain rfl := r.inv | obtain ⟨_, rfl⟩ := r.inv | cases r)
  exact wpAny_truthy_bool ⟨σ3, R3, (x1.trans x2).trans x3, e3, q⟩
theorem Wt.not {e : Expr} {p : Pos} {Φ : Bool → Mu → Prop} (h : Wt C n env e (kNot Φ) l μ) : Wt C n env (.UnaryOp .Not e p) Φ l μ := by
  intro A hA Z ρ F s R
  exact wpAny_isTrue_Not (h.use hA F R fun b s1 Z1 μ1 R1 x1 F1 q => ⟨⟨Z1, μ1, ρ⟩, R1, x1, rfl, q⟩)
noncomputable def Wall (C : Cx) (n : Nat) (env : Env) (op : BoolOp) (Φ : Bool → Mu → Prop) (l : Loc) : List Expr → Mu → Prop
  | [], μ => Φ (op == .And) μ
  | e :: r, μ => Wt C n env e (fun b μ' => match op, b with
    | .And, false => Φ false μ'
    | .Or, true => Φ true μ'
    | _, _ => Wall C n env op Φ l r μ') l μ
theorem Wt.boolop {op : BoolOp} {es : List Expr} {p : Pos} {Φ : Bool → Mu → Prop} (h : Wall C n env op Φ l es μ) : Wt C n env (.BoolOp op es p) Φ l μ := by
  intro A hA Z ρ F s R
  refine wpAny_isTrue_BoolOp ?_
  have key : ∀ (es : List Expr) (Z1 : Fz) (μ1 : Mu) (s1 : Shared), Wall C n env op Φ l es μ1 → Frm C env l Z1 ρ → Rel C Z1 μ1 ρ s1 → ext Z Z1 →
      wpAny (model C.prog C.w) A (allTrue op es env) (PO C Z (PT Φ ρ)) NoE s1 := by
    intro es
    induction es with
    | nil =>
      intro Z1 μ1 s1 h F R x
      exact wpAny_pure ⟨⟨Z1, μ1, ρ⟩, R, x, rfl, h⟩
    | cons e r ih =>
      intro Z1 μ1 s1 h F R x
      cases op with
      | And =>
        refine wpAny_allTrue_And_cons (Wt.use h hA F R fun b s2 Z2 μ2 R2 x2 F2 q => ?_)
        cases b with
        | false => rw [if_neg (by decide)]; exact ⟨⟨Z2, μ2, ρ⟩, R2, x.trans x2, rfl, q⟩
        | true => rw [if_pos rfl]; exact ih Z2 μ2 s2 q F2 R2 (x.trans x2)
      | Or =>
        refine wpAny_allTrue_Or_cons (Wt.use h hA F R fun b s2 Z2 μ2 R2 x2 F2 q => ?_)
        cases b with
        | true => rw [if_pos rfl]; exact ⟨⟨Z2, μ2, ρ⟩, R2, x.trans x2, rfl, q⟩
        | false => rw [if_neg (by decide)]; exact ih Z2 μ2 s2 q F2 R2 (x.trans x2)
  exact key es Z μ s h F R ext.rfl
noncomputable abbrev kTru (C : Cx) (n : Nat) (Φ : Bool → Mu → Prop) : V → Mu → Prop := fun v μ' => TruV C n v Φ μ'
noncomputable abbrev kIfE (C : Cx) (n : Nat) (env : Env) (a b : Expr) (Φ : V → Mu → Prop) (l : Loc) : Bool → Mu → Prop := fun c μ' => if c then We C n env a Φ l μ' else We C n env b Φ l μ'
noncomputable abbrev kAnd2 (C : Cx) (n : Nat) (env : Env) (y : Expr) (Φ : V → Mu → Prop) (l : Loc) (v : V) : Bool → Mu → Prop := fun t μ2 => if t then We C n env y Φ l μ2 else Φ v μ2
noncomputable abbrev kAnd1 (C : Cx) (n : Nat) (env : Env) (y : Expr) (Φ : V → Mu → Prop) (l : Loc) : V → Mu → Prop := fun v μ1 => TruV C n v (kAnd2 C n env y Φ l v) μ1
noncomputable abbrev kAtt (C : Cx) (n : Nat) (x : Str) (Φ : V → Mu → Prop) : V → Mu → Prop := fun v μ1 => AttV C n v x Φ μ1
noncomputable abbrev kSu2 (C : Cx) (n : Nat) (a : V) (Φ : V → Mu → Prop) : V → Mu → Prop := fun b μ2 => SubV C n a b Φ μ2
noncomputable abbrev kSu1 (C : Cx) (n : Nat) (env : Env) (i : Expr) (Φ : V → Mu → Prop) (l : Loc) : V → Mu → Prop := fun a μ1 => We C n env i (kSu2 C n a Φ) l μ1
theorem Wt.val {e : Expr} {Φ : Bool → Mu → Prop} (h : We C n env e (kTru C n Φ) l μ)
    (he : isTrue e env (eval e env) = (do let v ← eval e env; standAt e.pos; holding [v] (truthy v)) := by rfl) : Wt C n env e Φ l μ := by
  intro A hA Z ρ F s R
  refine wpAny_isTrue_value (h.use hA F R fun v' s1 Z1 v μ1 R1 x1 F1 r h1 => ?_) he
  exact (h1 A hA Z1 ρ v' r).use R1 fun b s2 σ2 R2 x2 p => ⟨σ2, R2, x1.trans x2, p⟩
theorem We.ifexp {t a b : Expr} {p : Pos} {Φ : V → Mu → Prop} (h : Wt C n env t (kIfE C n env a b Φ l) l μ) : We C n env (.IfExp t a b p) Φ l μ := by
  intro A hA Z ρ F s R
  refine wpAny_IfExp (Wt.use h hA F R fun c s1 Z1 μ1 R1 x1 F1 q => ?_)
  cases c with
  | true => rw [if_pos rfl]; exact We.use (e := a) q hA F1 R1 fun v' s2 Z2 v μ2 R2 x2 F2 r q => ⟨⟨Z2, μ2, ρ⟩, R2, x1.trans x2, rfl, v, r, q⟩
  | false => rw [if_neg (by decide)]; exact We.use (e := b) q hA F1 R1 fun v' s2 Z2 v μ2 R2 x2 F2 r q => ⟨⟨Z2, μ2, ρ⟩, R2, x1.trans x2, rfl, v, r, q⟩
theorem We.and2 {x y : Expr} {p : Pos} {Φ : V → Mu → Prop} (h : We C n env x (kAnd1 C n env y Φ l) l μ) : We C n env (.BoolOp .And [x, y] p) Φ l μ := by
  intro A hA Z ρ F s R
  refine wpAny_And2 (We.use h hA F R fun v' s1 Z1 v μ1 R1 x1 F1 r q => ?_)
  refine (q A hA Z1 ρ v' r).use R1 fun t s2 σ2 R2 x2 ⟨e, q2⟩ => ?_
  obtain ⟨Z2, μ2, ρ2⟩ := σ2; dsimp only at *; subst e
  cases t with
  | true => rw [if_pos rfl]; exact We.use (e := y) q2 hA (F1.mono x2) R2 fun v' s3 Z3 v μ3 R3 x3 F3 r q => ⟨⟨Z3, μ3, _⟩, R3, (x1.trans x2).trans x3, rfl, v, r, q⟩
  | false => rw [if_neg (by decide)]; exact ⟨⟨Z2, μ2, _⟩, R2, x1.trans x2, rfl, v, r.mono x2, q2⟩
theorem We.attr {e : Expr} {x : Str} {p : Pos} {Φ : V → Mu → Prop} (h : We C n env e (kAtt C n x Φ) l μ)
    (he : eval (.Attribute e x p) env = (do
      let o ← eval e env
      standAt p.atName
      let r ← holding [o] (getAttr o x true)
      letTemporaryGo e o r
      pure r) := by with_unfolding_all rfl) : We C n env (.Attribute e x p) Φ l μ := by
  intro A hA Z ρ F s R
  refine Attribute_any_ (We.use h hA F R fun v' s1 Z1 v μ1 R1 x1 F1 r q => ?_) he
  exact (q A hA Z1 ρ v' r).end R1 x1
theorem We.sub {e i : Expr} {p : Pos} {Φ : V → Mu → Prop} (h : We C n env e (kSu1 C n env i Φ l) l μ)
    (hs : ∀ o k, subscripted i false o k = operate [o, k] (getItem o k) := by with_unfolding_all intro _ _; rfl) : We C n env (.Subscript e i p) Φ l μ := by
  intro A hA Z ρ F s R
  refine Subscript_ (We.use h hA F R fun a' s1 Z1 a μ1 R1 x1 F1 ra q => We.use q hA F1 R1 fun b' s2 Z2 b μ2 R2 x2 F2 rb q2 => ?_)
  exact (q2 A hA Z2 ρ a' b' (ra.mono x2) rb e i (hs a')).end R2 (x1.trans x2)
noncomputable def Wes (C : Cx) (n : Nat) (env : Env) (Φ : List V → Mu → Prop) (l : Loc) : List Expr → Mu → Prop
  | [], μ => Φ [] μ
  | e :: r, μ => We C n env e (fun v μ1 => Wes C n env (fun vs μ2 => Φ (v :: vs) μ2) l r μ1) l μ
noncomputable def plainArgs (es : List Expr) : Bool := es.all fun | .Starred .. => false | _ => true
theorem starEach_plain {e : Expr} {r : List Expr} (h : plainArgs (e :: r) = true) : starEach (e :: r) env = (false, eval e env) :: starEach r env := by
  cases e <;> first | rfl | exact nomatch (show false = true from h)
theorem plainArgs_tail {e : Expr} {r : List Expr} (h : plainArgs (e :: r) = true) : plainArgs r = true := by
  have h : (_ && plainArgs r) = true := h
  exact (Bool.and_eq_true_iff.mp h).2
theorem Wes.use {A : Around} (hA : AOk n A) {ρ : Fz} {pos : Pos} : ∀ (es : List Expr) {Φ : List V → Mu → Prop} {μ : Mu} {Z : Fz} {s : Shared} {Q : List Value → Shared → Prop} {E : Value → Shared → Prop}, plainArgs es = true → Wes C n env Φ l es μ → Frm C env l Z ρ → Rel C Z μ ρ s →
    (∀ vs' s' Z' vs μ', Rel C Z' μ' ρ s' → ext Z Z' → Frm C env l Z' ρ → VRels C.w Z' vs vs' → Φ vs μ' → Q vs' s') → wpAny (model C.prog C.w) A (spliced (backTo pos (starEach es env))) Q E s
  | [], Φ, μ, Z, s, Q, E, _, h, F, R, k => wpAny_items_nil (k [] s Z [] μ R ext.rfl F .nil h)
  | e :: r, Φ, μ, Z, s, Q, E, hp, h, F, R, k => by
    refine wpAny_items_cons (We.use h hA F R fun v' s1 Z1 v μ1 R1 x1 F1 rv h1 => ?_) (starEach_plain hp)
    exact Wes.use hA r (plainArgs_tail hp) h1 F1 R1 fun vs' s2 Z2 vs μ2 R2 x2 F2 rvs q => k _ s2 Z2 _ μ2 R2 (x1.trans x2) F2 (.cons (rv.mono x2) rvs) q
theorem starEach_any : ∀ {es : List Expr} {pos : Pos}, plainArgs es = true → (backTo pos (starEach es env)).any (·.1) = false
  | [], _, _ => rfl
  | e :: r, pos, h => by
    rw [starEach_plain h]
    show (false || (backTo pos (starEach r env)).any (·.1)) = false
    rw [starEach_any (plainArgs_tail h)]; rfl
theorem starEach_all : ∀ {es : List Expr} {pos : Pos}, plainArgs es = true → (backTo pos (starEach es env)).all (!·.1) = true
  | [], _, _ => rfl
  | e :: r, pos, h => by
    rw [starEach_plain h]
    show (!false && (backTo pos (starEach r env)).all (!·.1)) = true
    rw [starEach_all (plainArgs_tail h)]; rfl
noncomputable abbrev kTup (Φ : V → Mu → Prop) : List V → Mu → Prop := fun vs μ' => vs.length ≤ 16777216 ∧ Φ (.tup vs) μ'
noncomputable abbrev kLst (Φ : V → Mu → Prop) : List V → Mu → Prop := fun vs μ' => vs.length ≤ 16777216 ∧ Φ (.list vs) μ'
noncomputable abbrev kLsm (Φ : V → Mu → Prop) : List V → Mu → Prop := fun vs μ' => vs.length ≤ 16777216 ∧ ∀ a, μ' a = Option.none → Φ (.ref a) (fup μ' a (some (.list vs)))
theorem We.tuple {es : List Expr} {k : Nat} {p : Pos} {Φ : V → Mu → Prop} (h : Wes C n env (kTup Φ) l es μ) (hp : plainArgs es = true := by rfl) : We C n env (.Tuple es k p) Φ l μ := by
  intro A hA Z ρ F s R
  refine wpAny_Tuple_spliced (Wes.use hA es hp h F R fun vs' s1 Z1 vs μ1 R1 x1 F1 rv q => ⟨by rw [← rv.1, sizeLine_eq]; exact q.1, ?_⟩)
  exact ⟨⟨_, _, _⟩, R1.pushZ (tupObj vs' 0) s1.toks, x1.trans (ext_fup R1.newZ), rfl, .tup vs, VRel.ofTup (fup_self ..) (rv.mono (ext_fup R1.newZ)), q.2⟩
theorem We.listZ {es : List Expr} {p : Pos} {Φ : V → Mu → Prop} (h : Wes C n env (kLst Φ) l es μ) (hp : plainArgs es = true := by rfl) : We C n env (.List es p) Φ l μ := by
  intro A hA Z ρ F s R
  refine wpAny_List_spliced (Wes.use hA es hp h F R fun vs' s1 Z1 vs μ1 R1 x1 F1 rv q => ⟨by rw [← rv.1, sizeLine_eq]; exact q.1, ?_⟩)
  exact ⟨⟨_, _, _⟩, R1.pushZ (listObj vs' 0) s1.toks, x1.trans (ext_fup R1.newZ), rfl, .list vs, VRel.ofList (fup_self ..) (rv.mono (ext_fup R1.newZ)), q.2⟩
theorem We.listM {es : List Expr} {p : Pos} {Φ : V → Mu → Prop} (h : Wes C n env (kLsm Φ) l es μ) (hp : plainArgs es = true := by rfl) : We C n env (.List es p) Φ l μ := by
  intro A hA Z ρ F s R
  refine wpAny_List_spliced (Wes.use hA es hp h F R fun vs' s1 Z1 vs μ1 R1 x1 F1 rv q => ⟨by rw [← rv.1, sizeLine_eq]; exact q.1, ?_⟩)
  exact ⟨⟨_, _, _⟩, R1.pushM (o := listObj vs' 0) (.list rv) s1.toks, x1, rfl, .ref _, .ref _, q.2 _ R1.newM⟩
theorem We.dictM {p : Pos} {Φ : V → Mu → Prop} {c : Cell} (hc : ∀ Z, CRel C.w Z c (dictObj [] 0)) (h : ∀ a, μ a = Option.none → Φ (.ref a) (fup μ a (some c))) : We C n env (.Dict [] [] p) Φ l μ := by
  intro A hA Z ρ F s R
  exact wpAny_Dict_empty ⟨⟨Z, fup μ s.heap.objs.size (some c), ρ⟩, R.pushM (o := dictObj [] 0) (hc Z) s.toks, ext.rfl, rfl, .ref _, .ref _, h _ R.newM⟩
noncomputable def globIn (K : Frag) (x : Str) : Option Value := match nsIn K mainGlobals x with
  | some (some v) => some v
  | some none => if x = "__name__" then none else bootBuiltins x
  | none => none
noncomputable def Callee (C : Cx) (f : Value) : Prop := ∀ h, C.K.In h → ∃ k, (k = Keeper.frame ∨ k = Keeper.machine ∨ k = Keeper.boundFrame) ∧ Looks (model C.prog C.w) h (keeperOf f) k
theorem Callee.ref {f : Addr} (h : keepIn C.K (.ref f) = true) : Callee C (.ref f) := fun _ X => keeps_K h _ X
theorem Callee.builtin {id : String} : Callee C (.builtin id) := fun _ _ => ⟨.machine, .inr (.inl rfl), .now⟩
theorem Callee.type {T : String} : Callee C (.type T) := fun _ _ => ⟨.machine, .inr (.inl rfl), .now⟩
theorem glob_load {A : Around} {Z ρ : Fz} {x : Str} {p : Pos} {f : Value} {Φ : Value → St → Prop} (F : Frm C env l Z ρ) (hk : env.kindOf x = some .globalImplicit) (hg : globIn C.K x = some f) (h : Φ f ⟨Z, μ, ρ⟩)
    (hd : (x == ("__debug__" : Str)) = false := by decide) : Op C A (eval (.Name x p) env) Φ ⟨Z, μ, ρ⟩ := by
  intro s R
  refine Name_function_global F.kind hk ?_ hd
  unfold loadGlobal
  rw [F.glob, F.blt]
  unfold globIn at hg
  split at hg
  · rename_i v e
    cases hg
    refine wpAny_bind ((looks_nsIn R.X e).here ?_)
    exact wpAny_pure ⟨_, R, ext.rfl, h⟩
  · rename_i e
    split at hg
    · cases hg
    · rename_i hn
      refine wpAny_bind ((looks_nsIn R.X e).here ?_)
      refine wpAny_bind (wpAny_nsGet R.Bn ?_)
      rw [C.hb x hn, hg]
      exact wpAny_pure ⟨_, R, ext.rfl, h⟩
  · cases hg
theorem callWith_W {A : Around} (hA : AOk n A) {Z ρ : Fz} {f : Value} {first : List Value} {firstV : List V} {es : List Expr} {pos : Pos} {Φ : V → Mu → Prop} {s : Shared} (hc : Callee C f) (F : Frm C env l Z ρ) (R : Rel C Z μ ρ s) (rf : VRels C.w Z firstV first) (hp : plainArgs es = true)
    (h : Wes C n env (fun vs μ' => CallV C n f (firstV ++ vs) Φ μ') l es μ) {Z₀ : Fz} (x₀ : ext Z₀ Z) :
    wpAny (model C.prog C.w) A (callWith pos f first (backTo pos (starEach es env)) []) (PO C Z₀ (PV C Φ ρ)) NoE s := by
  refine callWith_of (P := fun h => C.K.In h) (by rw [starEach_any hp]; rfl) (fun h X => hc h X) ?_
  cases es with
  | nil =>
    show wpAny _ _ (evalArgs f true [] []) _ _ _
    refine PyProof.Rows.evalArgs_none ⟨R.X, ?_⟩
    exact (h A hA Z ρ (first ++ []) (rf.append .nil)).end R x₀
  | cons e r =>
    rw [starEach_plain hp]
    refine Calls.evalArgs_plain ?_
    have := Wes.use hA (pos := pos) (e :: r) hp h F R (Q := fun vs s' => C.K.In s'.heap ∧ wpAny (model C.prog C.w) A (call f (first ++ vs)) (PO C Z₀ (PV C Φ ρ)) NoE s') (E := NoE)
      fun vs' s1 Z1 vs μ1 R1 x1 F1 rv q => ⟨R1.X, (q A hA Z1 ρ (first ++ vs') ((rf.mono x1).append rv)).end R1 (x₀.trans x1)⟩
    rw [starEach_plain hp] at this
    exact this
noncomputable abbrev kCall (C : Cx) (n : Nat) (f : Value) (Φ : V → Mu → Prop) : List V → Mu → Prop := fun vs μ' => CallV C n f vs Φ μ'
noncomputable abbrev kCal1 (C : Cx) (n : Nat) (f : Value) (ov : V) (Φ : V → Mu → Prop) : List V → Mu → Prop := fun vs μ' => CallV C n f (ov :: vs) Φ μ'
theorem We.call {x : Str} {p pos : Pos} {es : List Expr} {f : Value} {Φ : V → Mu → Prop} (hk : env.kindOf x = some .globalImplicit) (hg : globIn C.K x = some f) (hc : Callee C f)
    (h : Wes C n env (kCall C n f Φ) l es μ) (hp : plainArgs es = true := by rfl) (hd : (x == ("__debug__" : Str)) = false := by decide) : We C n env (.Call (.Name x p) es [] pos) Φ l μ := by
  intro A hA Z ρ F s R
  refine wpAny_Call_NameR ((glob_load (μ := μ) (A := A) (Φ := fun v σ' => v = f ∧ σ' = ⟨Z, μ, ρ⟩) F hk hg ⟨rfl, rfl⟩ hd).use R fun v s1 σ1 R1 x1 ⟨e1, e2⟩ => ?_)
  subst e1 e2
  exact callWith_W hA (firstV := []) hc F R1 .nil hp (by simpa using h) ext.rfl
noncomputable def GetM (C : Cx) (ov : V) (x : Str) (f : Value) (μ : Mu) : Prop :=
  ∀ A, ∀ Z ρ ov' pl, VRel C.w Z ov ov' → Op C A (getMethod ov' x pl) (fun r σ' => r = (f, [ov']) ∧ σ'.μ = μ ∧ σ'.ρ = ρ) ⟨Z, μ, ρ⟩
noncomputable abbrev kMeth (C : Cx) (n : Nat) (env : Env) (x : Str) (es : List Expr) (Φ : V → Mu → Prop) (l : Loc) : V → Mu → Prop := fun ov μ1 => ∃ f, GetM C ov x f μ1 ∧ Callee C f ∧ Wes C n env (kCal1 C n f ov Φ) l es μ1
theorem We.meth {o : Expr} {x : Str} {ap pos : Pos} {es : List Expr} {Φ : V → Mu → Prop}
    (h : We C n env o (kMeth C n env x es Φ l) l μ)
    (hbase : attributeBase o x env (eval o env) = eval o env := by rfl) (hfew : es.length < 29 := by decide) (hline : (ap.endLine == pos.line) = true := by rfl) (hp : plainArgs es = true := by rfl) :
    We C n env (.Call (.Attribute o x ap) es [] pos) Φ l μ := by
  intro A hA Z ρ F s R
  have hfew' : methodCallForm (es.length + ([] : List Keyword).length) (backTo pos (starEach es env)) [] = true := by
    unfold methodCallForm
    rw [starEach_all hp]
    simp; omega
  have e : eval (.Call (.Attribute o x ap) es [] pos) env = (do
      let ov ← attributeBase o x env (eval o env)
      standAt ap.atName
      methodCall o x ap pos env ov (es.length + ([] : List Keyword).length) (backTo pos (starEach es env)) (backToKw pos (keywordEach [] env))) := rfl
  rw [e, hbase]
  refine wpAny_bind (We.use h hA F R fun ov' s1 Z1 ov μ1 R1 x1 F1 r ⟨f, hm, hc, hw⟩ => wpAny_bind (wpAny_standAt ?_))
  unfold methodCall
  show wpAny _ _ (do
    let (f, first) ← holding [ov'] (calleeOf (methodCallForm (es.length + ([] : List Keyword).length) (backTo pos (starEach es env)) []) o env ov' x)
    let callPos ← methodCallPos (methodCallForm (es.length + ([] : List Keyword).length) (backTo pos (starEach es env)) []) o env ap pos
    callWith callPos f first (backTo pos (starEach es env)) []) _ _ _
  rw [hfew']
  refine wpAny_bind (wpAny_holding ?_)
  unfold calleeOf
  rw [if_pos rfl]
  refine (hm A Z1 ρ ov' _ r).use R1 fun fr s2 σ2 R2 x2 ⟨e1, e2, e3⟩ => ?_
  subst e1
  obtain ⟨Z2, μ2, ρ2⟩ := σ2; dsimp only at *; subst e2 e3
  unfold methodCallPos
  rw [if_pos (by rw [hline]; rfl)]
  refine wpAny_bind (wpAny_pure ?_)
  exact callWith_W hA (firstV := [ov]) hc (F1.mono x2) R2 (.one (r.mono x2)) hp hw (x1.trans x2)
end
end SP
namespace SP
open PySem PySem.W PySem.Calls PyProof.Rows
noncomputable def Ent {κ : Type} (P : κ → DictEntry → Prop) (R : V → Value → Prop) (kvs : List (κ × V)) (es : List DictEntry) : Prop :=
  kvs.length = es.length ∧ ∀ (i : Nat) k x e, kvs[i]? = some (k, x) → es[i]? = some e → P k e ∧ R x e.val
section
variable {κ : Type} {P : κ → DictEntry → Prop} {R : V → Value → Prop}
theorem Ent.nil : Ent P R [] [] := ⟨rfl, fun _ _ _ _ h => by simp at h⟩
theorem Ent.cons {k x e kvs es} (h1 : P k e) (h2 : R x e.val) (h : Ent P R kvs es) : Ent P R ((k, x) :: kvs) (e :: es) := by
  refine ⟨by simp [h.1], fun i k' x' e' a b => ?_⟩
  cases i with
  | zero => simp at a b; obtain ⟨rfl, rfl⟩ := a; subst b; exact ⟨h1, h2⟩
  | succ i => simp at a b; exact h.2 i k' x' e' a b
theorem Ent.cons_inv {k x kvs es} (h : Ent P R ((k, x) :: kvs) es) : ∃ e es', es = e :: es' ∧ P k e ∧ R x e.val ∧ Ent P R kvs es' := by
  obtain ⟨l, h⟩ := h
  cases es with
  | nil => simp at l
  | cons e es' => exact ⟨e, es', rfl, (h 0 k x e rfl rfl).1, (h 0 k x e rfl rfl).2, by simpa using l, fun i k' x' e' a b => h (i + 1) k' x' e' (by simpa using a) (by simpa using b)⟩
theorem Ent.nil_inv {es} (h : Ent P R [] es) : es = [] := by have := h.1; cases es <;> simp_all
theorem Ent.append {kvs es kvs' es'} (h : Ent P R kvs es) (h' : Ent P R kvs' es') : Ent P R (kvs ++ kvs') (es ++ es') := by
  induction kvs generalizing es with
  | nil => obtain rfl := h.nil_inv; simpa using h'
  | cons p r ih =>
    obtain ⟨k, x⟩ := p
    obtain ⟨e, es1, rfl, a, b, c⟩ := h.cons_inv
    exact Ent.cons a b (ih c)
end
theorem EntS.iff {w Z kvs es} : EntS w Z kvs es ↔ Ent (fun k e => keyS w e k) (VRel w Z) kvs es ∧ (kvs.map (·.1)).Nodup :=
  ⟨fun h => ⟨⟨h.1, fun i k x e a b => ⟨h.2.1 i k x e a b, h.2.2.1 i k x e a b⟩⟩, h.2.2.2⟩, fun h => ⟨h.1.1, fun i k x e a b => (h.1.2 i k x e a b).1, fun i k x e a b => (h.1.2 i k x e a b).2, h.2⟩⟩
theorem EntI.iff {w Z kvs es} : EntI w Z kvs es ↔ Ent (fun k e => keyI e k) (VRel w Z) kvs es ∧ (kvs.map (·.1)).Nodup :=
  ⟨fun h => ⟨⟨h.1, fun i k x e a b => ⟨h.2.1 i k x e a b, h.2.2.1 i k x e a b⟩⟩, h.2.2.2⟩, fun h => ⟨h.1.1, fun i k x e a b => (h.1.2 i k x e a b).1, fun i k x e a b => (h.1.2 i k x e a b).2, h.2⟩⟩
theorem EntP.iff {w Z kvs es} : EntP w Z kvs es ↔ Ent (fun k e => keyP Z e k) (VRel w Z) kvs es ∧ (kvs.map (·.1)).Nodup :=
  ⟨fun h => ⟨⟨h.1, fun i k x e a b => ⟨h.2.1 i k x e a b, h.2.2.1 i k x e a b⟩⟩, h.2.2.2⟩, fun h => ⟨h.1.1, fun i k x e a b => (h.1.2 i k x e a b).1, fun i k x e a b => (h.1.2 i k x e a b).2, h.2⟩⟩
theorem EntF.iff {w Z fs es} : EntF w Z fs es ↔ Ent (fun k e => ∃ t, e.key = .str k t) (VRel w Z) fs es :=
  ⟨fun h => ⟨h.1, fun i k x e a b => ⟨h.2.1 i k x e a b, h.2.2 i k x e a b⟩⟩, fun h => ⟨h.1, fun i k x e a b => (h.2 i k x e a b).1, fun i k x e a b => (h.2 i k x e a b).2⟩⟩
theorem Ent.find {w Z} {fs : List (Str × V)} {es : List DictEntry} (h : Ent (fun k e => ∃ t, e.key = .str k t) (VRel w Z) fs es) (x : Str) :
    (∀ v, fs.lookup x = some v → ∃ e, es.find? (·.key.isStr x) = some e ∧ VRel w Z v e.val) ∧ (fs.lookup x = none → es.find? (·.key.isStr x) = none) ∧ es.any (·.refKey) = false := by
  induction fs generalizing es with
  | nil => obtain rfl := h.nil_inv; exact ⟨fun v hv => by simp at hv, fun _ => rfl, rfl⟩
  | cons p r ih =>
    obtain ⟨k, y⟩ := p
    obtain ⟨e, es1, rfl, ⟨t, hk⟩, b, c⟩ := h.cons_inv
    obtain ⟨i1, i2, i3⟩ := ih c
    have hr : e.refKey = false := by unfold DictEntry.refKey; rw [hk]
    refine ⟨fun v hv => ?_, fun hv => ?_, by rw [List.any_cons, hr, i3]; rfl⟩
    · by_cases q : x = k
      · subst q
        rw [lookup_cons_self] at hv; cases hv
        exact ⟨e, by rw [List.find?_cons, hk]; simp [Value.isStr], b⟩
      · rw [lookup_cons_ne q] at hv
        obtain ⟨e', h1, h2⟩ := i1 v hv
        have hf : e.key.isStr x = false := by rw [hk]; simpa [Value.isStr] using Ne.symm q
        exact ⟨e', by rw [List.find?_cons, hf]; exact h1, h2⟩
    · by_cases q : x = k
      · subst q; rw [lookup_cons_self] at hv; cases hv
      · rw [lookup_cons_ne q] at hv
        have hf : e.key.isStr x = false := by rw [hk]; simpa [Value.isStr] using Ne.symm q
        rw [List.find?_cons, hf]; exact i2 hv
theorem handedIn_of {w Z v v'} (r : VRel w Z v v') : handedIn v' = true := by cases r <;> rfl
section
variable {C : Cx} {n : Nat} {μ : Mu}
noncomputable def attIn (K : Frag) (Cc : Addr) (x : Str) : Bool :=
  findIn K (.ref Cc) "__getattribute__" == some (some (.builtin "object.__getattribute__")) && findIn K (.ref Cc) x == some none && (clsIn K Cc).any (·.hasDict)
theorem inst_look {w Z} {fs : List (Str × V)} {es : List DictEntry} {k : Nat} {x : Str} {v : V} (h : EntF w Z fs es) (hx : fs.lookup x = some v) : ∃ v', lookIn x (dictObj es k) = some (some v') ∧ VRel w Z v v' := by
  obtain ⟨e, h1, h2⟩ := (Ent.find (EntF.iff.mp h) x).1 v hx
  refine ⟨e.val, ?_, h2⟩
  unfold lookIn dictObj
  dsimp only
  rw [h1]
theorem inst_none {w Z} {fs : List (Str × V)} {es : List DictEntry} {k : Nat} {x : Str} (h : EntF w Z fs es) (hx : fs.lookup x = none) : lookIn x (dictObj es k) = some none := by
  obtain ⟨_, h1, h2⟩ := Ent.find (EntF.iff.mp h) x
  unfold lookIn dictObj
  dsimp only
  rw [h1 hx]
  dsimp only
  rw [if_neg (by rw [h2]; decide)]
theorem findObj_val {K : Frag} {Cc : Addr} {x : Str} {o : Obj} {v' : Value} (ok : attIn K Cc x = true) (h : lookIn x o = some (some v')) : findObj K Cc (some o) x = some (.value v') := by
  simp only [attIn, Bool.and_eq_true, beq_iff_eq, Option.any_eq_true] at ok
  obtain ⟨⟨_, h2⟩, cd, h3, h4⟩ := ok
  unfold findObj
  rw [h3, h2]
  simp only [Option.bind_some]
  unfold W.ownOf
  rw [h4, if_pos rfl]
  dsimp only
  rw [h]
  rfl
theorem att_core {A : Around} {s : Shared} {a d : Addr} {Cc : Addr} {o : Obj} {x : Str} {v' : Value} {Q : Value → Shared → Prop} (X : C.K.In s.heap) (ha : s.heap.get? a = some (instObj Cc (some d))) (hd : s.heap.get? d = some o) (ok : attIn C.K Cc x = true)
    (hl : lookIn x o = some (some v')) (hh : handedIn v' = true) (h : Q v' { s with toks := s.toks + 1 }) : wpAny (model C.prog C.w) A (getAttr (.ref a) x true) Q NoE s := by
  have I : InstAt s.heap a (instObj Cc (some d)) Cc (some o) := ⟨ha, rfl, rfl, hd⟩
  have ok' := ok
  simp only [attIn, Bool.and_eq_true, beq_iff_eq] at ok'
  exact get_value X I ok'.1.1 (findObj_val ok hl) hh h
theorem AttV.inst {Cc : Addr} {fs : List (Str × V)} {x : Str} {v : V} {Φ : V → Mu → Prop} (ok : attIn C.K Cc x = true) (hx : fs.lookup x = some v) (h : Φ v μ) : AttV C n (.inst Cc fs) x Φ μ := by
  intro A hA Z ρ a' r s R
  obtain ⟨es, a, d, k, rfl, e1, e2, l, k1, k2⟩ := r.inv
  obtain ⟨v', h1, h2⟩ := inst_look (k := k) ⟨l, k1, k2⟩ hx
  exact att_core R.X (R.z _ _ e1) (R.z _ _ e2) ok h1 (handedIn_of h2) ⟨⟨Z, μ, ρ⟩, R.tok _, ext.rfl, rfl, v, h2, h⟩
theorem AttV.ref {a d Cc : Addr} {fs : List (Str × V)} {x : Str} {v : V} {Φ : V → Mu → Prop} (ha : μ a = some (.inst Cc (some d))) (hd : μ d = some (.flds fs)) (ok : attIn C.K Cc x = true) (hx : fs.lookup x = some v) (h : Φ v μ) : AttV C n (.ref a) x Φ μ := by
  intro A hA Z ρ a' r s R
  (first | obtain rfl := r.inv | obtain ⟨_, rfl⟩ := r.inv | cases r)
  obtain ⟨oa, g1, c1⟩ := R.m _ _ ha
  obtain ⟨od, g2, c2⟩ := R.m _ _ hd
  cases c1
  cases c2 with
  | @flds _ es k e =>
    obtain ⟨v', h1, h2⟩ := inst_look (k := k) e hx
    exact att_core R.X g1 g2 ok h1 (handedIn_of h2) ⟨⟨Z, μ, ρ⟩, R.tok _, ext.rfl, rfl, v, h2, h⟩
noncomputable def methIn (K : Frag) (Cc : Addr) (x : Str) (f : Addr) : Bool :=
  findIn K (.ref Cc) "__getattribute__" == some (some (.builtin "object.__getattribute__")) && findIn K (.ref Cc) "__getattr__" == some none && findIn K (.ref Cc) x == some (some (.ref f)) && typeIn K (.ref f) == some (.type "function")
theorem meth_core {A : Around} {s : Shared} {a d : Addr} {Cc f : Addr} {o : Obj} {x : Str} {pl : Sem Bool} {Q : Value × List Value → Shared → Prop} (X : C.K.In s.heap) (ha : s.heap.get? a = some (instObj Cc (some d))) (hd : s.heap.get? d = some o) (ok : methIn C.K Cc x f = true)
    (hl : lookIn x o = some none) (h : Q (.ref f, [.ref a]) s) : wpAny (model C.prog C.w) A (getMethod (.ref a) x pl) Q NoE s := by
  have I : InstAt s.heap a (instObj Cc (some d)) Cc (some o) := ⟨ha, rfl, rfl, hd⟩
  simp only [methIn, Bool.and_eq_true, beq_iff_eq] at ok
  obtain ⟨⟨⟨o1, o2⟩, o3⟩, o4⟩ := ok
  exact method_fn X I o1 o2 o3 o4 (by unfold shadowIn; simp [hl]) h
theorem GetM.inst {Cc f : Addr} {fs : List (Str × V)} {x : Str} (ok : methIn C.K Cc x f = true) (hx : fs.lookup x = none) : GetM C (.inst Cc fs) x (.ref f) μ := by
  intro A Z ρ a' pl r s R
  obtain ⟨es, a, d, k, rfl, e1, e2, l, k1, k2⟩ := r.inv
  exact meth_core R.X (R.z _ _ e1) (R.z _ _ e2) ok (inst_none ⟨l, k1, k2⟩ hx) ⟨⟨Z, μ, ρ⟩, R, ext.rfl, rfl, rfl, rfl⟩
theorem GetM.ref {a d Cc f : Addr} {fs : List (Str × V)} {x : Str} (ha : μ a = some (.inst Cc (some d))) (hd : μ d = some (.flds fs)) (ok : methIn C.K Cc x f = true) (hx : fs.lookup x = none) : GetM C (.ref a) x (.ref f) μ := by
  intro A Z ρ a' pl r s R
  (first | obtain rfl := r.inv | obtain ⟨_, rfl⟩ := r.inv | cases r)
  obtain ⟨oa, g1, c1⟩ := R.m _ _ ha
  obtain ⟨od, g2, c2⟩ := R.m _ _ hd
  cases c1
  cases c2 with
  | @flds _ es k e => exact meth_core R.X g1 g2 ok (inst_none e hx) ⟨⟨Z, μ, ρ⟩, R, ext.rfl, rfl, rfl, rfl⟩
theorem BinV.add {a b : Int} {Φ : V → Mu → Prop} (h : Φ (.int (a + b)) μ) : BinV C n .Add (.int a) (.int b) Φ μ := by
  intro A hA Z ρ a' b' ra rb s R; (first | obtain rfl := ra.inv | obtain ⟨_, rfl⟩ := ra.inv | cases ra); (first | obtain rfl := rb.inv | obtain ⟨_, rfl⟩ := rb.inv | cases rb)
  exact add_int ⟨⟨Z, μ, ρ⟩, R.tok _, ext.rfl, rfl, _, .int _ _, h⟩
theorem BinV.subi {a b : Int} {Φ : V → Mu → Prop} (h : Φ (.int (a - b)) μ) : BinV C n .Sub (.int a) (.int b) Φ μ := by
  intro A hA Z ρ a' b' ra rb s R; (first | obtain rfl := ra.inv | obtain ⟨_, rfl⟩ := ra.inv | cases ra); (first | obtain rfl := rb.inv | obtain ⟨_, rfl⟩ := rb.inv | cases rb)
  exact sub_int ⟨⟨Z, μ, ρ⟩, R.tok _, ext.rfl, rfl, _, .int _ _, h⟩
theorem BinV.mul {a b : Int} {Φ : V → Mu → Prop} (hm : (-(2 ^ 64) < a ∧ a < 2 ^ 64) ∨ (-(2 ^ 64) < b ∧ b < 2 ^ 64)) (h : Φ (.int (a * b)) μ) : BinV C n .Mult (.int a) (.int b) Φ μ := by
  intro A hA Z ρ a' b' ra rb s R; (first | obtain rfl := ra.inv | obtain ⟨_, rfl⟩ := ra.inv | cases ra); (first | obtain rfl := rb.inv | obtain ⟨_, rfl⟩ := rb.inv | cases rb)
  exact PyProof.Rows.mul_int ⟨⟨Z, μ, ρ⟩, R.tok _, ext.rfl, rfl, _, .int _ _, h⟩ (hm.elim (fun q => IntMulOk.of_left (intBits_le_64 q.1 q.2)) fun q => IntMulOk.of_right (intBits_le_64 q.1 q.2))
theorem BinV.div {a b : Int} {Φ : V → Mu → Prop} (hb : b ≠ 0) (hs : b.natAbs < 1073741824) (h : Φ (.int (a.fdiv b)) μ) : BinV C n .FloorDiv (.int a) (.int b) Φ μ := by
  intro A hA Z ρ a' b' ra rb s R; (first | obtain rfl := ra.inv | obtain ⟨_, rfl⟩ := ra.inv | cases ra); (first | obtain rfl := rb.inv | obtain ⟨_, rfl⟩ := rb.inv | cases rb)
  exact floordiv_int hb ⟨⟨Z, μ, ρ⟩, R.tok _, ext.rfl, rfl, _, .int _ _, h⟩ (.inl (PyProof.noPylong_small hs))
theorem BinV.mod {a b : Int} {Φ : V → Mu → Prop} (hb : b ≠ 0) (h : Φ (.int (a.fmod b)) μ) : BinV C n .Mod (.int a) (.int b) Φ μ := by
  intro A hA Z ρ a' b' ra rb s R; (first | obtain rfl := ra.inv | obtain ⟨_, rfl⟩ := ra.inv | cases ra); (first | obtain rfl := rb.inv | obtain ⟨_, rfl⟩ := rb.inv | cases rb)
  exact PyProof.Rows.mod_int hb ⟨⟨Z, μ, ρ⟩, R.tok _, ext.rfl, rfl, _, .int _ _, h⟩
theorem CmpV.lt {a b : Int} {Φ : V → Mu → Prop} (h : Φ (.bool (decide (a < b))) μ) : CmpV C n .Lt (.int a) (.int b) Φ μ := by
  intro A hA Z ρ a' b' ra rb s R; (first | obtain rfl := ra.inv | obtain ⟨_, rfl⟩ := ra.inv | cases ra); (first | obtain rfl := rb.inv | obtain ⟨_, rfl⟩ := rb.inv | cases rb)
  exact lt_int ⟨⟨Z, μ, ρ⟩, R, ext.rfl, rfl, _, .bool _, h⟩
theorem CmpV.gt {a b : Int} {Φ : V → Mu → Prop} (h : Φ (.bool (decide (b < a))) μ) : CmpV C n .Gt (.int a) (.int b) Φ μ := by
  intro A hA Z ρ a' b' ra rb s R; (first | obtain rfl := ra.inv | obtain ⟨_, rfl⟩ := ra.inv | cases ra); (first | obtain rfl := rb.inv | obtain ⟨_, rfl⟩ := rb.inv | cases rb)
  exact gt_int ⟨⟨Z, μ, ρ⟩, R, ext.rfl, rfl, _, .bool _, h⟩
theorem CmpV.eqI {a b : Int} {Φ : V → Mu → Prop} (h : Φ (.bool (a == b)) μ) : CmpV C n .Eq (.int a) (.int b) Φ μ := by
  intro A hA Z ρ a' b' ra rb s R; (first | obtain rfl := ra.inv | obtain ⟨_, rfl⟩ := ra.inv | cases ra); (first | obtain rfl := rb.inv | obtain ⟨_, rfl⟩ := rb.inv | cases rb)
  exact eq_int ⟨⟨Z, μ, ρ⟩, R, ext.rfl, rfl, _, .bool _, h⟩
theorem CmpV.neI {a b : Int} {Φ : V → Mu → Prop} (h : Φ (.bool (a != b)) μ) : CmpV C n .NotEq (.int a) (.int b) Φ μ := by
  intro A hA Z ρ a' b' ra rb s R; (first | obtain rfl := ra.inv | obtain ⟨_, rfl⟩ := ra.inv | cases ra); (first | obtain rfl := rb.inv | obtain ⟨_, rfl⟩ := rb.inv | cases rb)
  exact ne_int ⟨⟨Z, μ, ρ⟩, R, ext.rfl, rfl, _, .bool _, h⟩
theorem CmpV.eqS {a b : Str} {Φ : V → Mu → Prop} (h : Φ (.bool (a == b)) μ) : CmpV C n .Eq (.str a) (.str b) Φ μ := by
  intro A hA Z ρ a' b' ra rb s R; (first | obtain rfl := ra.inv | obtain ⟨_, rfl⟩ := ra.inv | cases ra); (first | obtain rfl := rb.inv | obtain ⟨_, rfl⟩ := rb.inv | cases rb)
  exact eq_str ⟨⟨Z, μ, ρ⟩, R, ext.rfl, rfl, _, .bool _, h⟩
theorem CmpV.neS {a b : Str} {Φ : V → Mu → Prop} (h : Φ (.bool (a != b)) μ) : CmpV C n .NotEq (.str a) (.str b) Φ μ := by
  intro A hA Z ρ a' b' ra rb s R; (first | obtain rfl := ra.inv | obtain ⟨_, rfl⟩ := ra.inv | cases ra); (first | obtain rfl := rb.inv | obtain ⟨_, rfl⟩ := rb.inv | cases rb)
  exact ne_str ⟨⟨Z, μ, ρ⟩, R, ext.rfl, rfl, _, .bool _, h⟩
noncomputable def V.isNone : V → Bool
  | .none => true
  | _ => false
theorem CmpV.isNone {a : V} {Φ : V → Mu → Prop} (h : Φ (.bool a.isNone) μ) : CmpV C n .Is a .none Φ μ := by
  intro A hA Z ρ a' b' ra rb s R; (first | obtain rfl := rb.inv | obtain ⟨_, rfl⟩ := rb.inv | cases rb)
  refine wpAny_is_plain (by cases ra <;> rfl) ⟨⟨Z, μ, ρ⟩, R, ext.rfl, rfl, .bool a.isNone, ?_, h⟩
  cases ra <;> exact .bool _
theorem CmpV.isNotNone {a : V} {Φ : V → Mu → Prop} (h : Φ (.bool (!a.isNone)) μ) : CmpV C n .IsNot a .none Φ μ := by
  intro A hA Z ρ a' b' ra rb s R; (first | obtain rfl := rb.inv | obtain ⟨_, rfl⟩ := rb.inv | cases rb)
  refine wpAny_isNot_plain (by cases ra <;> rfl) ⟨⟨Z, μ, ρ⟩, R, ext.rfl, rfl, .bool (!a.isNone), ?_, h⟩
  cases ra <;> exact .bool _
theorem TruV.bool {b : Bool} {Φ : Bool → Mu → Prop} (h : Φ b μ) : TruV C n (.bool b) Φ μ := by
  intro A hA Z ρ a' ra s R; (first | obtain rfl := ra.inv | obtain ⟨_, rfl⟩ := ra.inv | cases ra)
  exact wpAny_truthy_bool ⟨⟨Z, μ, ρ⟩, R, ext.rfl, rfl, h⟩
theorem TruV.cell {a : Addr} {xs : List V} {Φ : Bool → Mu → Prop} (ha : μ a = some (.list xs)) (hs : xs.length ≤ 16777216) (h : Φ (!xs.isEmpty) μ) : TruV C n (.ref a) Φ μ := by
  intro A hA Z ρ a' ra s R; (first | obtain rfl := ra.inv | obtain ⟨_, rfl⟩ := ra.inv | cases ra)
  obtain ⟨o, g, c⟩ := R.m _ _ ha
  obtain ⟨vs, k, rfl, r⟩ := c.inv
  refine wpAny_truthy_list (items := vs.toArray) ⟨_, g, rfl, k, rfl⟩ (by rw [List.size_toArray, ← r.1]; omega) ⟨⟨Z, μ, ρ⟩, R.tok _, ext.rfl, rfl, ?_⟩
  have : vs.toArray.isEmpty = xs.isEmpty := by cases vs <;> cases xs <;> first | rfl | (have := r.1; simp at this)
  rw [this]; exact h
theorem SubV.tup {xs : List V} {i : Int} {x : V} {Φ : V → Mu → Prop} (h0 : 0 ≤ i) (hi : xs[i.toNat]? = some x) (hb : i < 2 ^ 63) (h : Φ x μ) : SubV C n (.tup xs) (.int i) Φ μ := by
  intro A hA Z ρ a' b' ra rb value slice hs s R; (first | obtain rfl := rb.inv | obtain ⟨_, rfl⟩ := rb.inv | cases rb)
  obtain ⟨vs, a, k, rfl, e, l, r⟩ := ra.inv
  obtain ⟨v, hv, rv⟩ := VRels.at ⟨l, r⟩ hi
  refine item_tupleT (l := vs) (j := i.toNat) ⟨_, R.z _ _ e, rfl, k, rfl⟩ (by omega) hb ?_ hv ⟨⟨Z, μ, ρ⟩, R, ext.rfl, rfl, x, rv, h⟩ (hs _)
  have hlt : i.toNat < vs.length := (List.getElem?_eq_some_iff.mp hv).1
  have h1 : ¬ i < 0 := by omega
  have h2 : i < (vs.length : Int) := by omega
  simp [seqIndex?, h1, h0, h2]
theorem list_item {A : Around} {s : Shared} {a : Addr} {vs : List Value} {k : Nat} {i : Int} {t : Tok} {x : Value} {Q : Value → Shared → Prop} {value slice : Expr} (g : s.heap.get? a = some (listObj vs k)) (h0 : 0 ≤ i) (hb : i < 2 ^ 63) (hv : vs[i.toNat]? = some x) (h : Q x s)
    (hs : subscripted slice false (.ref a) (.int i t) = operate [.ref a, .int i t] (getItem (.ref a) (.int i t))) : wpAny (model C.prog C.w) A (subscriptTail value slice (.ref a) (.int i t)) Q NoE s := by
  have hl : s.heap.IsList a vs.toArray := ⟨_, g, rfl, k, rfl⟩
  exact tail_any hl.typeIs slot_list_getitem.lookup (wpAny_getItem_list hl h0 hb (by simpa using hv) h) hs
theorem SubV.list {xs : List V} {i : Int} {x : V} {Φ : V → Mu → Prop} (h0 : 0 ≤ i) (hi : xs[i.toNat]? = some x) (hb : i < 2 ^ 63) (h : Φ x μ) : SubV C n (.list xs) (.int i) Φ μ := by
  intro A hA Z ρ a' b' ra rb value slice hs s R; (first | obtain rfl := rb.inv | obtain ⟨_, rfl⟩ := rb.inv | cases rb)
  obtain ⟨vs, a, k, rfl, e, l, r⟩ := ra.inv
  obtain ⟨v, hv, rv⟩ := VRels.at ⟨l, r⟩ hi
  exact list_item (R.z _ _ e) h0 hb hv ⟨⟨Z, μ, ρ⟩, R, ext.rfl, rfl, x, rv, h⟩ (hs _)
theorem SubV.cell {a : Addr} {xs : List V} {i : Int} {x : V} {Φ : V → Mu → Prop} (ha : μ a = some (.list xs)) (h0 : 0 ≤ i) (hi : xs[i.toNat]? = some x) (hb : i < 2 ^ 63) (h : Φ x μ) : SubV C n (.ref a) (.int i) Φ μ := by
  intro A hA Z ρ a' b' ra rb value slice hs s R; (first | obtain rfl := rb.inv | obtain ⟨_, rfl⟩ := rb.inv | cases rb); (first | obtain rfl := ra.inv | obtain ⟨_, rfl⟩ := ra.inv | cases ra)
  obtain ⟨o, g, c⟩ := R.m _ _ ha
  obtain ⟨vs, k, rfl, r⟩ := c.inv
  obtain ⟨v, hv, rv⟩ := VRels.at r hi
  exact list_item g h0 hb hv ⟨⟨Z, μ, ρ⟩, R, ext.rfl, rfl, x, rv, h⟩ (hs _)
end
end SP
namespace SP
open PySem PySem.W PySem.Calls PyProof.Rows
section
variable {C : Cx}
theorem Rel.dropR {Z : Fz} {μ : Mu} {ρ : Fz} {s : Shared} (R : Rel C Z μ ρ s) {I : Addr} {o : Obj} (e : ρ I = some o) {h' : Heap} (hs : Heap.ExtBut I s.heap h') {t : Nat} : Rel C Z μ (fup ρ I none) { s with heap := h', toks := t } := by
  have R' : Rel C Z μ (fup ρ I none) s := R.less (fun _ _ e => e) (fun a o ea => by
    by_cases q : a = I
    · subst q; rw [fup_self] at ea; cases ea
    · rw [fup_ne _ _ q] at ea; exact ea)
  refine R'.heap (fun a o ea => ?_) (fun a o ea => ?_) (fun a c1 o ea eo => ?_) rfl rfl
  · exact hs a o (by rintro rfl; have := R.zr a o ea; rw [e] at this; cases this) (R.z a o ea)
  · have : a ≠ I := by rintro rfl; rw [fup_self] at ea; cases ea
    rw [fup_ne _ _ this] at ea
    exact hs a o this (R.r a o ea)
  · exact hs a o (by rintro rfl; have := R.rm a _ e; rw [ea] at this; cases this) eo
theorem VRels.none {w Z} {xs : List V} {vs : List Value} (r : VRels w Z xs vs) {k : Nat} (h : xs[k]? = none) : vs[k]? = none :=
  List.getElem?_eq_none_iff.mpr (r.1 ▸ List.getElem?_eq_none_iff.mp h)
theorem itr_list_core {xs : List V} {ok : Mu → Prop} {la : Addr} {Z₁ : Fz} {I : Addr}
    (hst : ∀ {Z μ ρ s}, ext Z₁ Z → ok μ → Rel C Z μ ρ s → ∃ vs, VRels C.w Z xs vs ∧ s.heap.IsList la vs.toArray) :
    ItSrc C xs ok I (fun k o => o.cls = .type "list_iterator" ∧ o.data = .fields #[.ref la, .int k 0]) Z₁ where
  self := fun {A n Z μ ρ k o} hA _ eI hs s R => wpAny_pyIter_listiter (i := k) (l := la) ⟨_, R.r _ _ eI, hs.1, hs.2⟩ ⟨_, R, ext.rfl, rfl, rfl, rfl⟩
  item := fun {A n Z μ ρ k o x} hA hx hok eI hs hxk s R => by
    obtain ⟨vs, rv, hl⟩ := hst hx hok R
    obtain ⟨v, hv, r⟩ := rv.at hxk
    refine wpAny_pyNext_list_item (items := vs.toArray) (x := v) ⟨_, R.r _ _ eI, hs.1, hs.2⟩ hl (by simpa using hv) fun h' hit hsb => ?_
    obtain ⟨o', e1, e2, e3⟩ := hit
    exact ⟨⟨Z, μ, fup ρ I (some o')⟩, R.setR (s' := { s with heap := h' }) eI hsb e1, ext.rfl, v, o', rfl, r, rfl, rfl, e2, e3⟩
  fin := fun {A n Z μ ρ k o} hA hx hok eI hs hxk s R => by
    obtain ⟨vs, rv, hl⟩ := hst hx hok R
    exact wpAny_pyNext_list_end (items := vs.toArray) hA.h ⟨_, R.r _ _ eI, hs.1, hs.2⟩ hl (by simpa using rv.none hxk) fun h' hb =>
      ⟨⟨Z, μ, fup ρ I Option.none⟩, R.dropR eI hb, ext.rfl, rfl, rfl, rfl⟩
theorem Rel.newIter {Z : Fz} {μ : Mu} {ρ : Fz} {s : Shared} (R : Rel C Z μ ρ s) {o : Obj} (hf : o.isFreed = false) : Rel C Z μ (fup ρ s.heap.objs.size (some o)) { s with heap := s.heap.push o } :=
  (R.push o s.toks).addR (Heap.get?_push_size _ hf) R.newZ R.newM
theorem Itr.list {xs : List V} : Itr C (.list xs) xs (fun _ => True) := by
  intro A n Z μ ρ v' hA r _ s R
  obtain ⟨vs, a, k, rfl, e, l, rv⟩ := r.inv
  refine wpAny_pyIter_list (items := vs.toArray) ⟨_, R.z _ _ e, rfl, k, rfl⟩ ⟨⟨Z, μ, fup ρ s.heap.objs.size (some { cls := .type "list_iterator", data := .fields #[.ref a, .int 0 0] })⟩, R.newIter rfl, ext.rfl, s.heap.objs.size, fun k o => o.cls = .type "list_iterator" ∧ o.data = .fields #[.ref a, .int k 0], _, rfl, rfl, rfl, R.newR, ⟨rfl, rfl⟩, ?_⟩
  exact itr_list_core fun hx _ R' => ⟨vs, VRels.mono hx ⟨l, rv⟩, _, R'.z _ _ (hx _ _ e), rfl, k, rfl⟩
theorem Itr.cell {a : Addr} {xs : List V} : Itr C (.ref a) xs (fun μ => μ a = some (.list xs)) := by
  intro A n Z μ ρ v' hA r hm s R
  (first | obtain rfl := r.inv | obtain ⟨_, rfl⟩ := r.inv | cases r)
  obtain ⟨o, g, c⟩ := R.m _ _ hm
  obtain ⟨vs, k, rfl, rv⟩ := c.inv
  refine wpAny_pyIter_list (items := vs.toArray) ⟨_, g, rfl, k, rfl⟩ ⟨⟨Z, μ, fup ρ s.heap.objs.size (some { cls := .type "list_iterator", data := .fields #[.ref a, .int 0 0] })⟩, R.newIter rfl, ext.rfl, s.heap.objs.size, fun k o => o.cls = .type "list_iterator" ∧ o.data = .fields #[.ref a, .int k 0], _, rfl, rfl, rfl, R.newR, ⟨rfl, rfl⟩, ?_⟩
  refine itr_list_core fun hx hm R' => ?_
  obtain ⟨o', g', c'⟩ := R'.m _ _ hm
  cases c' with
  | @list _ vs' k' rv' => exact ⟨vs', rv', _, g', rfl, k', rfl⟩
noncomputable def rngV (a b : Int) : List V := (List.range (b - a).toNat).map fun (i : Nat) => V.int (a + (i : Int))
theorem rngV_at {a b : Int} {k : Nat} {x : V} (h : (rngV a b)[k]? = some x) : x = .int (a + k) ∧ (k : Int) < b - a := by
  unfold rngV at h
  rw [List.getElem?_map] at h
  obtain ⟨i, h1, h2⟩ := Option.map_eq_some_iff.mp h
  obtain ⟨h3, h4⟩ := List.getElem?_eq_some_iff.mp h1
  rw [List.length_range] at h3
  rw [List.getElem_range] at h4
  subst h4
  exact ⟨h2.symm, by omega⟩
theorem rngV_none {a b : Int} {k : Nat} (h : (rngV a b)[k]? = none) : b - a ≤ k := by
  have := List.getElem?_eq_none_iff.mp h
  unfold rngV at this
  rw [List.length_map, List.length_range] at this
  omega
theorem rngV_length (a b : Int) : (rngV a b).length = (b - a).toNat := by simp [rngV]
theorem rng_size (a b : Int) : Builtin.Range.rangeSize a b 1 = if b > a then b - a else 0 := by
  unfold Builtin.Range.rangeSize
  by_cases h : b > a
  · simp [h]; try omega
  · simp [h]
theorem Itr.rng {a b : Int} (ha : -(2 ^ 62) < a) (hb : b < 2 ^ 62) (ha2 : a < 2 ^ 62) (hb2 : -(2 ^ 62) < b) : Itr C (.rng a b) (rngV a b) (fun _ => True) := by
  intro A n Z μ ρ v' hA r _ s R
  have hsmall : Builtin.Range.small a b 1 = true := by
    have e := rng_size a b
    unfold Builtin.Range.small Builtin.Range.rangeFitsLong
    rw [e]
    split <;> simp <;> omega
  obtain ⟨r, t, u, v, rfl, e⟩ := r.inv
  refine wpAny_pyIter_range (R.z _ _ e) hsmall ⟨⟨Z, μ, fup ρ s.heap.objs.size (some { cls := .type "range_iterator", data := .fields #[rawInt a, rawInt (Builtin.Range.rangeSize a b 1), rawInt 1] })⟩, R.newIter rfl, ext.rfl, s.heap.objs.size, fun k o => o = { cls := .type "range_iterator", dict := none, data := .fields #[rawInt (a + k), rawInt ((if b > a then b - a else 0) - k), rawInt 1], slots := #[] } ∧ (k : Int) ≤ (if b > a then b - a else 0), _, rfl, rfl, rfl, R.newR, ⟨?_, by split <;> omega⟩, ?_⟩
  · rw [rng_size]; simp
  · refine { item := fun {A n Z μ ρ k o x} hA hx hok eI hs hxk s R => ?_, self := fun {A n Z μ ρ k o} hA hx eI hs s R => ?_, fin := fun {A n Z μ ρ k o} hA hx hok eI hs hxk s R => ?_ }
    · obtain ⟨hx1, hk⟩ := rngV_at hxk
      obtain ⟨hs, hkk⟩ := hs
      subst hs hx1
      have hba : b > a := by omega
      rw [if_pos hba] at eI hkk ⊢
      refine wpAny_pyNext_range_item (R.r _ _ eI) (by omega) fun h' hit hsb => ?_
      refine ⟨⟨Z, μ, fup ρ _ (some _)⟩, R.setR (s' := { s with heap := h', toks := s.toks + 1 }) eI hsb hit, ext.rfl, _, _, rfl, .int _ _, rfl, rfl, ?_, by omega⟩
      have e1 : a + (k : Int) + 1 = a + ((k + 1 : Nat) : Int) := by omega
      have e2 : b - a - (k : Int) - 1 = b - a - ((k + 1 : Nat) : Int) := by omega
      rw [e1, e2]
    · obtain ⟨hs, _⟩ := hs
      subst hs
      exact wpAny_pyIter_rangeiter (R.r _ _ eI) ⟨_, R, ext.rfl, rfl, rfl, rfl⟩
    · have hk := rngV_none hxk
      obtain ⟨hs, hkk⟩ := hs
      subst hs
      exact wpAny_pyNext_range_end hA.h (R.r _ _ eI) (by split <;> omega) fun h' hb => ⟨⟨Z, μ, fup ρ _ Option.none⟩, R.dropR eI hb, ext.rfl, rfl, rfl, rfl⟩
noncomputable def realS (kvs : List (Str × V)) (es : List DictEntry) : List (Str × Value) := (kvs.zip es).map fun p => (p.1.1, p.2.val)
noncomputable def realI (kvs : List (Int × V)) (es : List DictEntry) : List (Int × Value) := (kvs.zip es).map fun p => (p.1.1, p.2.val)
theorem real_keys {κ : Type} {kvs : List (κ × V)} {es : List DictEntry} (h : kvs.length = es.length) : (((kvs.zip es).map fun p => (p.1.1, p.2.val)).map (·.1)) = kvs.map (·.1) := by
  induction kvs generalizing es with
  | nil => simp
  | cons p r ih =>
    cases es with
    | nil => simp at h
    | cons e es => simp at h; simp [ih h]
theorem real_pairs {prog : Program} {w : World} {κ : Type} [DecidableEq κ] {knd : KeyKind prog w κ} {P : κ → DictEntry → Prop} {R : V → Value → Prop} (hP : ∀ k e, P k e → knd.is k e.key = true ∧ e.hash = knd.hash k) :
    ∀ {kvs : List (κ × V)} {es : List DictEntry}, Ent P R kvs es → Pairs knd es ((kvs.zip es).map fun p => (p.1.1, p.2.val)) ∧ ∀ e ∈ es, ∃ k, knd.is k e.key = true ∧ e.hash = knd.hash k
  | [], es, h => by obtain rfl := h.nil_inv; exact ⟨.nil, fun e he => nomatch he⟩
  | (k, x) :: r, es, h => by
    obtain ⟨e, es1, rfl, a, b, c⟩ := h.cons_inv
    obtain ⟨i1, i2⟩ := real_pairs hP c
    refine ⟨.cons (hP k e a).1 rfl i1, fun e' he' => ?_⟩
    rcases List.mem_cons.mp he' with rfl | he'
    · exact ⟨k, hP k _ a⟩
    · exact i2 e' he'
theorem dictAt_S {Z : Fz} {h : Heap} {d : Addr} {kvs : List (Str × V)} {es : List DictEntry} {n : Nat} (E : EntS C.w Z kvs es) (g : h.get? d = some (dictObj es n)) : h.DictAt (strKind C.prog C.w) d (realS kvs es) n := by
  obtain ⟨p1, p2⟩ := real_pairs (knd := strKind C.prog C.w) (fun k e (hk : keyS C.w e k) => ⟨by obtain ⟨⟨t, e1⟩, _⟩ := hk; rw [e1]; exact strKind_is _ _ k t, hk.2⟩) (EntS.iff.mp E).1
  exact ⟨_, es.toArray, g, ⟨rfl, rfl, rfl⟩, rfl, fun e he => p2 e (by simpa using he), p1, by unfold realS; rw [real_keys E.1]; exact E.2.2.2⟩
theorem dictAt_I {Z : Fz} {h : Heap} {d : Addr} {kvs : List (Int × V)} {es : List DictEntry} {n : Nat} (E : EntI C.w Z kvs es) (g : h.get? d = some (dictObj es n)) : h.DictAt (intKind C.prog C.w) d (realI kvs es) n := by
  obtain ⟨p1, p2⟩ := real_pairs (knd := intKind C.prog C.w) (fun k e (hk : keyI e k) => ⟨by obtain ⟨⟨t, e1⟩, _⟩ := hk; rw [e1]; exact intKind_is _ _ k t, hk.2⟩) (EntI.iff.mp E).1
  exact ⟨_, es.toArray, g, ⟨rfl, rfl, rfl⟩, rfl, fun e he => p2 e (by simpa using he), p1, by unfold realI; rw [real_keys E.1]; exact E.2.2.2⟩
theorem real_at {κ : Type} {kvs : List (κ × V)} {es : List DictEntry} (h : kvs.length = es.length) {i : Nat} {k : κ} {x : V} (hx : kvs[i]? = some (k, x)) : ∃ e, es[i]? = some e ∧ ((kvs.zip es).map fun p => (p.1.1, p.2.val))[i]? = some (k, e.val) := by
  have hi : i < es.length := h ▸ (List.getElem?_eq_some_iff.mp hx).1
  refine ⟨es[i], by simp [hi], ?_⟩
  rw [List.getElem?_map, List.getElem?_zip_eq_some (z := ((k, x), es[i])) |>.mpr ⟨hx, by simp [hi]⟩]
  rfl
theorem real_none {κ : Type} {kvs : List (κ × V)} {es : List DictEntry} {i : Nat} (hx : kvs[i]? = none) : ((kvs.zip es).map fun p => (p.1.1, p.2.val))[i]? = none := by
  have := List.getElem?_eq_none_iff.mp hx
  refine List.getElem?_eq_none_iff.mpr ?_
  simp; omega
theorem itr_dict_core {κ : Type} [DecidableEq κ] (knd : KeyKind C.prog C.w κ) (mk : κ → V) (hmk : ∀ {Z k v}, knd.is k v = true → VRel C.w Z (mk k) v) {ok : Mu → Prop} {da : Addr} {kvs : List (κ × V)} {Z₁ : Fz} {I : Addr} {es : List DictEntry} {q : Nat} (hl : kvs.length = es.length)
    (hst : ∀ {Z μ ρ s}, ext Z₁ Z → ok μ → Rel C Z μ ρ s → s.heap.DictAt knd da ((kvs.zip es).map fun p => (p.1.1, p.2.val)) q) :
    ItSrc C (kvs.map fun p => mk p.1) ok I (fun k o => o.cls = .type "dict_keyiterator" ∧ o.data = .fields #[.ref da, .int k 0, .int kvs.length 0, .int q 0]) Z₁ where
  self := fun {A n Z μ ρ k o} hA _ eI hs s R => wpAny_pyIter_keyiter (i := k) (n := kvs.length) (ep := q) (d := da) ⟨_, R.r _ _ eI, hs.1, hs.2⟩ ⟨_, R, ext.rfl, rfl, rfl, rfl⟩
  item := fun {A n Z μ ρ k o x} hA hx hok eI hs hxk s R => by
    rw [List.getElem?_map] at hxk
    obtain ⟨⟨key, y⟩, h1, rfl⟩ := Option.map_eq_some_iff.mp hxk
    obtain ⟨e, _, h2⟩ := real_at hl h1
    have hlen : ((kvs.zip es).map fun p => (p.1.1, p.2.val)).length = kvs.length := by simp [hl]
    refine wpAny_pyNext_dict_item (knd := knd) (ep := q) (by rw [hlen]; exact ⟨_, R.r _ _ eI, hs.1, hs.2⟩) (hst hx hok R) h2 fun kv h' hkv hit hsb => ?_
    rw [hlen] at hit
    obtain ⟨o', e1, e2, e3⟩ := hit
    exact ⟨⟨Z, μ, fup ρ I (some o')⟩, R.setR (s' := { s with heap := h' }) eI hsb e1, ext.rfl, kv, o', rfl, hmk hkv, rfl, rfl, e2, e3⟩
  fin := fun {A n Z μ ρ k o} hA hx hok eI hs hxk s R => by
    rw [List.getElem?_map] at hxk
    have h1 := Option.map_eq_none_iff.mp hxk
    have hlen : ((kvs.zip es).map fun p => (p.1.1, p.2.val)).length = kvs.length := by simp [hl]
    exact wpAny_pyNext_dict_end (knd := knd) (ep := q) hA.h (by rw [hlen]; exact ⟨_, R.r _ _ eI, hs.1, hs.2⟩) (hst hx hok R) (real_none h1) fun h' hb =>
      ⟨⟨Z, μ, fup ρ I Option.none⟩, R.dropR eI hb, ext.rfl, rfl, rfl, rfl⟩
theorem is_str {Z : Fz} {k : Str} {v : Value} (h : (strKind C.prog C.w).is k v = true) : VRel C.w Z (.str k) v := by
  obtain ⟨t, rfl⟩ := Value.isStrOf_shape h; exact .str k t
theorem is_int {Z : Fz} {k : Int} {v : Value} (h : (intKind C.prog C.w).is k v = true) : VRel C.w Z (.int k) v := by
  obtain ⟨t, rfl⟩ := Value.isInt_shape h; exact .int k t
theorem beq_false_of_ne' {a b : Addr} (h : a ≠ b) : (a == b) = false := beq_false_of_ne h
theorem Itr.dS {kvs : List (Str × V)} : Itr C (.dS kvs) (kvs.map fun p => V.str p.1) (fun _ => True) := by
  intro A n Z μ ρ v' hA r _ s R
  cases r with
  | @dS _ es a k q e l h1 h2 h3 =>
    have E : EntS C.w Z kvs es := ⟨l, h1, h2, h3⟩
    have hlen : (realS kvs es).length = kvs.length := by simp [realS, l]
    refine wpAny_pyIter_dict (beq_false_of_ne' q) (dictAt_S E (R.z _ _ e)) ?_
    rw [hlen]
    exact ⟨⟨Z, μ, fup ρ s.heap.objs.size (some { cls := .type "dict_keyiterator", data := .fields #[.ref a, .int 0 0, .int kvs.length 0, .int k 0] })⟩, R.newIter rfl, ext.rfl, s.heap.objs.size, fun i o => o.cls = .type "dict_keyiterator" ∧ o.data = .fields #[.ref a, .int i 0, .int kvs.length 0, .int k 0], _, rfl, rfl, rfl, R.newR, ⟨rfl, rfl⟩, itr_dict_core (strKind C.prog C.w) V.str is_str l fun hx _ R' => dictAt_S (E.mono hx) (R'.z _ _ (hx _ _ e))⟩
theorem Itr.dI {kvs : List (Int × V)} : Itr C (.dI kvs) (kvs.map fun p => V.int p.1) (fun _ => True) := by
  intro A n Z μ ρ v' hA r _ s R
  cases r with
  | @dI _ es a k q e l h1 h2 h3 =>
    have E : EntI C.w Z kvs es := ⟨l, h1, h2, h3⟩
    have hlen : (realI kvs es).length = kvs.length := by simp [realI, l]
    refine wpAny_pyIter_dict (beq_false_of_ne' q) (dictAt_I E (R.z _ _ e)) ?_
    rw [hlen]
    exact ⟨⟨Z, μ, fup ρ s.heap.objs.size (some { cls := .type "dict_keyiterator", data := .fields #[.ref a, .int 0 0, .int kvs.length 0, .int k 0] })⟩, R.newIter rfl, ext.rfl, s.heap.objs.size, fun i o => o.cls = .type "dict_keyiterator" ∧ o.data = .fields #[.ref a, .int i 0, .int kvs.length 0, .int k 0], _, rfl, rfl, rfl, R.newR, ⟨rfl, rfl⟩, itr_dict_core (intKind C.prog C.w) V.int is_int l fun hx _ R' => dictAt_I (E.mono hx) (R'.z _ _ (hx _ _ e))⟩
end
end SP
namespace SP
open PySem PySem.W PySem.Calls PyProof.Rows
noncomputable def lk {κ : Type} [DecidableEq κ] (kvs : List (κ × V)) (k : κ) : Option V := (kvs.find? fun p => decide (p.1 = k)).map (·.2)
noncomputable def putK {κ : Type} [DecidableEq κ] (kvs : List (κ × V)) (k : κ) (x : V) : List (κ × V) :=
  if kvs.any (fun p => decide (p.1 = k)) then kvs.map (fun p => if p.1 = k then (p.1, x) else p) else kvs ++ [(k, x)]
section
variable {κ : Type} [DecidableEq κ]
theorem lk_nil {k : κ} : lk [] k = none := rfl
theorem lk_cons {k k' : κ} {x : V} {r : List (κ × V)} : lk ((k', x) :: r) k = if k' = k then some x else lk r k := by
  unfold lk; rw [List.find?_cons]; by_cases h : k' = k <;> simp [h]
theorem lk_isSome_any {kvs : List (κ × V)} {k : κ} : (lk kvs k).isSome = kvs.any (fun p => decide (p.1 = k)) := by
  induction kvs with
  | nil => rfl
  | cons p r ih => obtain ⟨k', x⟩ := p; rw [lk_cons, List.any_cons]; by_cases h : k' = k <;> simp [h, ih]
theorem putK_keys {kvs : List (κ × V)} {k : κ} {x : V} : (putK kvs k x).map (·.1) = if (lk kvs k).isSome then kvs.map (·.1) else kvs.map (·.1) ++ [k] := by
  rw [lk_isSome_any]
  unfold putK
  split
  · rw [List.map_map]
    congr 1
    funext p
    simp only [Function.comp]
    split <;> rfl
  · simp
theorem lk_none {kvs : List (κ × V)} {k : κ} : lk kvs k = none ↔ k ∉ kvs.map (·.1) := by
  induction kvs with
  | nil => simp [lk_nil]
  | cons p r ih =>
    obtain ⟨a, y⟩ := p
    rw [lk_cons, List.map_cons, List.mem_cons]
    by_cases q : a = k
    · subst q; simp
    · rw [if_neg q, ih]
      constructor
      · rintro h (e | e)
        · exact q e.symm
        · exact h e
      · intro h e; exact h (.inr e)
theorem putK_nodup {kvs : List (κ × V)} {k : κ} {x : V} (h : (kvs.map (·.1)).Nodup) : ((putK kvs k x).map (·.1)).Nodup := by
  rw [putK_keys]
  split
  · exact h
  · rename_i q
    have : lk kvs k = none := by cases e : lk kvs k with | none => rfl | some y => rw [e] at q; exact absurd rfl q
    rw [List.nodup_append]
    exact ⟨h, by simp, fun a ha b hb e => by simp at hb; subst hb e; exact lk_none.mp this ha⟩
theorem putK_length {kvs : List (κ × V)} {k : κ} {x : V} : (putK kvs k x).length ≤ kvs.length + 1 := by
  unfold putK; split <;> simp
theorem real_lk {P : κ → DictEntry → Prop} {R : V → Value → Prop} {kvs : List (κ × V)} {es : List DictEntry} (h : Ent P R kvs es) (k : κ) :
    (∀ x, lk kvs k = some x → ∃ v, valueAt ((kvs.zip es).map fun p => (p.1.1, p.2.val)) k = some v ∧ R x v) ∧ (valueAt ((kvs.zip es).map fun p => (p.1.1, p.2.val)) k).isSome = (lk kvs k).isSome := by
  induction kvs generalizing es with
  | nil => obtain rfl := h.nil_inv; exact ⟨fun x e => (nomatch e), rfl⟩
  | cons p r ih =>
    obtain ⟨a, y⟩ := p
    obtain ⟨e, es1, rfl, h1, h2, h3⟩ := h.cons_inv
    obtain ⟨i1, i2⟩ := ih h3
    have key : valueAt ((((a, y) :: r).zip (e :: es1)).map fun p => (p.1.1, p.2.val)) k = if a = k then some e.val else valueAt ((r.zip es1).map fun p => (p.1.1, p.2.val)) k := by
      unfold valueAt
      rw [List.zip_cons_cons, List.map_cons, List.find?_cons]
      by_cases q : a = k <;> simp [q]
    rw [key, lk_cons]
    by_cases q : a = k
    · subst q; rw [if_pos rfl, if_pos rfl]; exact ⟨fun x hx => by cases hx; exact ⟨_, rfl, h2⟩, rfl⟩
    · rw [if_neg q, if_neg q]; exact ⟨i1, i2⟩
theorem ent_stored {prog : Program} {w : World} {knd : KeyKind prog w κ} {P : κ → DictEntry → Prop} {R : V → Value → Prop} (hP : ∀ k e, knd.is k e.key = true → e.hash = knd.hash k → P k e) {kvs : List (κ × V)} {es es' : List DictEntry} {k : κ} {x : V} {v : Value}
    (h : Ent P R kvs es) (rx : R x v) (hp : Pairs knd es' (stored ((kvs.zip es).map fun p => (p.1.1, p.2.val)) k v)) (hk : ∀ e ∈ es', ∃ k, knd.is k e.key = true ∧ e.hash = knd.hash k) : Ent P R (putK kvs k x) es' := by
  have go : ∀ {rk : List (κ × Value)} {kv : List (κ × V)} {es' : List DictEntry}, (kv.length = rk.length ∧ ∀ (i : Nat) k x, kv[i]? = some (k, x) → ∃ v, rk[i]? = some (k, v) ∧ R x v) → Pairs knd es' rk → (∀ e ∈ es', ∃ k, knd.is k e.key = true ∧ e.hash = knd.hash k) → Ent P R kv es' := by
    intro rk
    induction rk with
    | nil =>
      intro kv es' hr hp _
      cases hp
      have : kv = [] := List.length_eq_zero_iff.mp hr.1
      subst this; exact Ent.nil
    | cons p r ih =>
      intro kv es' hr hp hk
      cases hp with
      | @cons e kv' es1 kvs1 h1 h2 h3 =>
      cases kv with
      | nil => have := hr.1; simp at this
      | cons q kv =>
        obtain ⟨k0, x0⟩ := q
        obtain ⟨v0, e0, r0⟩ := hr.2 0 k0 x0 rfl
        simp at e0
        subst e0
        obtain ⟨k', hk', hh⟩ := hk e (.head _)
        have : k' = k0 := knd.inj _ _ _ hk' h1
        subst this
        refine Ent.cons (hP _ _ h1 hh) (h2 ▸ r0) (ih ⟨by have := hr.1; simpa using this, fun i k1 x1 e1 => ?_⟩ h3 fun e he => hk e (.tail _ he))
        have := hr.2 (i + 1) k1 x1 (by simpa using e1)
        simpa using this
  refine go ?_ hp hk
  have hlen : ((kvs.zip es).map fun p => (p.1.1, p.2.val)).length = kvs.length := by simp [h.1]
  have hany : ((kvs.zip es).map fun p => (p.1.1, p.2.val)).any (fun kv => decide (kv.1 = k)) = kvs.any (fun p => decide (p.1 = k)) := by
    have e := real_keys h.1
    have : ∀ {β : Type} (l : List (κ × β)), l.any (fun kv => decide (kv.1 = k)) = (l.map (·.1)).any (fun a => decide (a = k)) := fun l => by rw [List.any_map]; rfl
    rw [this, this, e]
  unfold putK stored
  rw [hany]
  by_cases hq : kvs.any (fun p => decide (p.1 = k)) = true
  · rw [if_pos hq, if_pos hq]
    refine ⟨by rw [List.length_map, List.length_map, hlen], fun i k1 x1 e1 => ?_⟩
    rw [List.getElem?_map] at e1
    obtain ⟨⟨k2, x2⟩, h1, h2⟩ := Option.map_eq_some_iff.mp e1
    obtain ⟨e, h3, h4⟩ := real_at h.1 h1
    rw [List.getElem?_map, h4]
    have hR := (h.2 i k2 x2 e h1 h3).2
    dsimp only at h2
    by_cases h5 : k2 = k
    · rw [if_pos h5] at h2; cases h2; exact ⟨v, by simp [h5], rx⟩
    · rw [if_neg h5] at h2; cases h2; exact ⟨e.val, by simp [h5], hR⟩
  · rw [if_neg hq, if_neg hq]
    refine ⟨by simp [h.1], fun i k1 x1 e1 => ?_⟩
    rcases Nat.lt_or_ge i kvs.length with hi | hi
    · rw [List.getElem?_append_left hi] at e1
      obtain ⟨e, h3, h4⟩ := real_at h.1 e1
      rw [List.getElem?_append_left (hlen ▸ hi), h4]
      exact ⟨e.val, rfl, (h.2 i k1 x1 e e1 h3).2⟩
    · rw [List.getElem?_append_right hi] at e1
      rw [List.getElem?_append_right (hlen ▸ hi), hlen]
      generalize i - kvs.length = j at e1 ⊢
      cases j with
      | zero => simp at e1; obtain ⟨rfl, rfl⟩ := e1; exact ⟨v, rfl, rx⟩
      | succ j => simp at e1
end
section
variable {C : Cx} {n : Nat} {μ : Mu}
noncomputable def SeeS (C : Cx) (v : V) (kvs : List (Str × V)) (μ : Mu) : Prop := ∀ {Z ρ s v'}, Rel C Z μ ρ s → VRel C.w Z v v' → ∃ a es q, v' = .ref a ∧ a ≠ sysModules ∧ s.heap.get? a = some (dictObj es q) ∧ EntS C.w Z kvs es
noncomputable def SeeI (C : Cx) (v : V) (kvs : List (Int × V)) (μ : Mu) : Prop := ∀ {Z ρ s v'}, Rel C Z μ ρ s → VRel C.w Z v v' → ∃ a es q, v' = .ref a ∧ a ≠ sysModules ∧ s.heap.get? a = some (dictObj es q) ∧ EntI C.w Z kvs es
noncomputable def SeeP (C : Cx) (v : V) (kvs : List (List Int × V)) (μ : Mu) : Prop := ∀ {Z ρ s v'}, Rel C Z μ ρ s → VRel C.w Z v v' → ∃ a es q, v' = .ref a ∧ a ≠ sysModules ∧ s.heap.get? a = some (dictObj es q) ∧ EntP C.w Z kvs es
noncomputable def SeeL (C : Cx) (v : V) (xs : List V) (μ : Mu) : Prop := ∀ {Z ρ s v'}, Rel C Z μ ρ s → VRel C.w Z v v' → ∃ a vs q, v' = .ref a ∧ s.heap.get? a = some (listObj vs q) ∧ VRels C.w Z xs vs
theorem SeeS.z {kvs} : SeeS C (.dS kvs) kvs μ := by intro Z ρ s v' R r; cases r with | dS q e l h1 h2 h3 => exact ⟨_, _, _, rfl, q, R.z _ _ e, l, h1, h2, h3⟩
theorem SeeI.z {kvs} : SeeI C (.dI kvs) kvs μ := by intro Z ρ s v' R r; cases r with | dI q e l h1 h2 h3 => exact ⟨_, _, _, rfl, q, R.z _ _ e, l, h1, h2, h3⟩
theorem SeeL.z {xs} : SeeL C (.list xs) xs μ := by intro Z ρ s v' R r; cases r with | list e l h1 => exact ⟨_, _, _, rfl, R.z _ _ e, l, h1⟩
theorem SeeI.m {a kvs} (h : μ a = some (.dI kvs)) : SeeI C (.ref a) kvs μ := by intro Z ρ s v' R r; (first | obtain rfl := r.inv | obtain ⟨_, rfl⟩ := r.inv | cases r); obtain ⟨o, g, c⟩ := R.m _ _ h; obtain ⟨_, _, rfl, E⟩ := c.inv; exact ⟨_, _, _, rfl, R.lo _ _ h, g, E⟩
theorem SeeP.m {a kvs} (h : μ a = some (.dP kvs)) : SeeP C (.ref a) kvs μ := by intro Z ρ s v' R r; (first | obtain rfl := r.inv | obtain ⟨_, rfl⟩ := r.inv | cases r); obtain ⟨o, g, c⟩ := R.m _ _ h; obtain ⟨_, _, rfl, E⟩ := c.inv; exact ⟨_, _, _, rfl, R.lo _ _ h, g, E⟩
theorem SeeL.m {a xs} (h : μ a = some (.list xs)) : SeeL C (.ref a) xs μ := by intro Z ρ s v' R r; (first | obtain rfl := r.inv | obtain ⟨_, rfl⟩ := r.inv | cases r); obtain ⟨o, g, c⟩ := R.m _ _ h; obtain ⟨_, _, rfl, E⟩ := c.inv; exact ⟨_, _, _, rfl, g, E⟩
theorem SubV.dS {v : V} {kvs : List (Str × V)} {k : Str} {x : V} {Φ : V → Mu → Prop} (hv : SeeS C v kvs μ) (hx : lk kvs k = some x) (h : Φ x μ) : SubV C n v (.str k) Φ μ := by
  intro A hA Z ρ a' b' ra rb value slice hs s R
  obtain ⟨a, es, q, rfl, ha, g, E⟩ := hv R ra
  (first | obtain rfl := rb.inv | obtain ⟨_, rfl⟩ := rb.inv | cases rb)
  obtain ⟨v', h1, h2⟩ := (real_lk (EntS.iff.mp E).1 k).1 x hx
  have D := (dictAt_S (C := C) E g).dictOf.mapOf
  exact tail_any D.typeIs slot_dict_getitem.lookup (wpAny_getItem_of (strKind_is _ _ _ _) D h1 ⟨⟨Z, μ, ρ⟩, R.tok _, ext.rfl, rfl, x, h2, h⟩) (hs _)
theorem SubV.dI {v : V} {kvs : List (Int × V)} {k : Int} {x : V} {Φ : V → Mu → Prop} (hv : SeeI C v kvs μ) (hx : lk kvs k = some x) (h : Φ x μ) : SubV C n v (.int k) Φ μ := by
  intro A hA Z ρ a' b' ra rb value slice hs s R
  obtain ⟨a, es, q, rfl, ha, g, E⟩ := hv R ra
  (first | obtain rfl := rb.inv | obtain ⟨_, rfl⟩ := rb.inv | cases rb)
  obtain ⟨v', h1, h2⟩ := (real_lk (EntI.iff.mp E).1 k).1 x hx
  have D := (dictAt_I (C := C) E g).dictOf.mapOf
  exact tail_any D.typeIs slot_dict_getitem.lookup (wpAny_getItem_of (intKind_is _ _ _ _) D h1 ⟨⟨Z, μ, ρ⟩, R.tok _, ext.rfl, rfl, x, h2, h⟩) (hs _)
theorem CmpV.inS {v : V} {kvs : List (Str × V)} {k : Str} {Φ : V → Mu → Prop} (hv : SeeS C v kvs μ) (h : Φ (.bool (lk kvs k).isSome) μ) : CmpV C n .In (.str k) v Φ μ := by
  intro A hA Z ρ a' b' ra rb s R
  obtain ⟨a, es, q, rfl, ha, g, E⟩ := hv R rb
  (first | obtain rfl := ra.inv | obtain ⟨_, rfl⟩ := ra.inv | cases ra)
  refine wpAny_in_of (strKind_is _ _ _ _) (beq_false_of_ne' ha) (dictAt_S (C := C) E g).dictOf.mapOf ⟨⟨Z, μ, ρ⟩, R.tok _, ext.rfl, rfl, _, .bool _, ?_⟩
  unfold realS; rw [(real_lk (EntS.iff.mp E).1 k).2]; exact h
theorem CmpV.inI {v : V} {kvs : List (Int × V)} {k : Int} {Φ : V → Mu → Prop} (hv : SeeI C v kvs μ) (h : Φ (.bool (lk kvs k).isSome) μ) : CmpV C n .In (.int k) v Φ μ := by
  intro A hA Z ρ a' b' ra rb s R
  obtain ⟨a, es, q, rfl, ha, g, E⟩ := hv R rb
  (first | obtain rfl := ra.inv | obtain ⟨_, rfl⟩ := ra.inv | cases ra)
  refine wpAny_in_of (intKind_is _ _ _ _) (beq_false_of_ne' ha) (dictAt_I (C := C) E g).dictOf.mapOf ⟨⟨Z, μ, ρ⟩, R.tok _, ext.rfl, rfl, _, .bool _, ?_⟩
  unfold realI; rw [(real_lk (EntI.iff.mp E).1 k).2]; exact h
theorem CmpV.notInI {v : V} {kvs : List (Int × V)} {k : Int} {Φ : V → Mu → Prop} (hv : SeeI C v kvs μ) (h : Φ (.bool (!(lk kvs k).isSome)) μ) : CmpV C n .NotIn (.int k) v Φ μ := by
  intro A hA Z ρ a' b' ra rb s R
  obtain ⟨a, es, q, rfl, ha, g, E⟩ := hv R rb
  (first | obtain rfl := ra.inv | obtain ⟨_, rfl⟩ := ra.inv | cases ra)
  refine wpAny_notIn_of (intKind_is _ _ _ _) (beq_false_of_ne' ha) (dictAt_I (C := C) E g).dictOf.mapOf ⟨⟨Z, μ, ρ⟩, R.tok _, ext.rfl, rfl, _, .bool _, ?_⟩
  unfold realI; rw [(real_lk (EntI.iff.mp E).1 k).2]; exact h
noncomputable abbrev pk (C : Cx) : HeapKind C.prog C.w (List Int) := tupleKind (intKind C.prog C.w)
theorem intsV_items {ks vs} (h : IntsV ks vs) : ItemsAre (intKind C.prog C.w) ks vs := by
  induction h with
  | nil => exact .nil
  | cons t _ ih => exact .cons (intKind_is _ _ _ t) ih
noncomputable def intsT (k : List Int) : V := .tup (k.map V.int)
theorem intsT_rel {Z : Fz} {k : List Int} {v' : Value} (r : VRel C.w Z (intsT k) v') : ∃ a vs q, v' = .ref a ∧ Z a = some (tupObj vs q) ∧ IntsV k vs := by
  unfold intsT at r
  obtain ⟨vs, a, q, rfl, e, l, h⟩ := r.inv
  refine ⟨a, vs, q, rfl, e, ?_⟩
  have rv : VRels C.w Z (k.map V.int) vs := ⟨l, h⟩
  clear l h e r
  induction k generalizing vs with
  | nil => obtain rfl := rv.nil_inv; exact .nil
  | cons i ks ih =>
    obtain ⟨v, us, rfl, r1, r2⟩ := rv.cons_inv
    cases r1 with
    | int _ t => exact .cons t (ih _ r2)
theorem key_is {Z : Fz} {μ : Mu} {ρ : Fz} {s : Shared} (R : Rel C Z μ ρ s) {a : Addr} {vs : List Value} {q : Nat} {k : List Int} (e : Z a = some (tupObj vs q)) (h : IntsV k vs) : (pk C).is s.heap k a :=
  ⟨_, vs.toArray, q, R.z _ _ e, rfl, rfl, by simpa using intsV_items h⟩
theorem pk_hash {k : List Int} : (pk C).hash k = reduceHash (Builtin.Tuple.tupleHashOf (k.map hashInt)) := rfl
theorem real_P {Z : Fz} {μ : Mu} {ρ : Fz} {s : Shared} (R : Rel C Z μ ρ s) {RV : V → Value → Prop} : ∀ {kvs : List (List Int × V)} {es : List DictEntry}, Ent (fun k e => keyP Z e k) RV kvs es →
    ∃ xs : List (List Int × Addr × Value), es = xs.map (entryOfKey (pk C)) ∧ (∀ x ∈ xs, (pk C).is s.heap x.1 x.2.1 ∧ ∃ vs q, Z x.2.1 = some (tupObj vs q) ∧ IntsV x.1 vs) ∧ xs.map (·.1) = kvs.map (·.1) ∧
      (∀ k x, lk kvs k = some x → ∃ p, atKey xs k = some p ∧ RV x p.2) ∧ (∀ k, (atKey xs k).isSome = (lk kvs k).isSome) ∧ (∀ (i : Nat) k x, kvs[i]? = some (k, x) → ∃ a v, xs[i]? = some (k, a, v) ∧ RV x v)
  | [], es, h => by
    obtain rfl := h.nil_inv
    exact ⟨[], rfl, (fun _ h => nomatch h), rfl, (fun _ _ h => nomatch h), fun _ => rfl, fun _ _ _ h => by simp at h⟩
  | (k, y) :: r, es, h => by
    obtain ⟨e, es1, rfl, ⟨⟨a, q, vs, h1, h2, h3⟩, h4⟩, h5, h6⟩ := h.cons_inv
    obtain ⟨xs, i1, i2, i3, i4, i5, i6⟩ := real_P R h6
    have ha : ∀ k', atKey ((k, a, e.val) :: xs) k' = if k = k' then some (a, e.val) else atKey xs k' := fun k' => by
      unfold atKey; rw [List.find?_cons]; by_cases q : k = k' <;> simp [q]
    refine ⟨(k, a, e.val) :: xs, ?_, ?_, by simp [i3], ?_, ?_, ?_⟩
    · rw [List.map_cons, ← i1]
      congr 1
      unfold entryOfKey
      rw [pk_hash, ← h4, ← h1]
    · intro x hx
      rcases List.mem_cons.mp hx with rfl | hx
      · exact ⟨key_is R h2 h3, vs, q, h2, h3⟩
      · exact i2 x hx
    · intro k' x hx
      rw [lk_cons] at hx
      rw [ha]
      by_cases q : k = k'
      · rw [if_pos q] at hx ⊢; cases hx; exact ⟨_, rfl, h5⟩
      · rw [if_neg q] at hx ⊢; exact i4 k' x hx
    · intro k'
      rw [ha, lk_cons]
      by_cases q : k = k'
      · rw [if_pos q, if_pos q]; rfl
      · rw [if_neg q, if_neg q]; exact i5 k'
    · intro i k' x hx
      cases i with
      | zero => simp at hx; obtain ⟨rfl, rfl⟩ := hx; exact ⟨a, e.val, rfl, h5⟩
      | succ i => simp at hx; simpa using i6 i k' x hx
theorem dictOfH_of {Z : Fz} {s : Shared} {a : Addr} {kvs : List (List Int × V)} {es : List DictEntry} {q : Nat} {xs : List (List Int × Addr × Value)} (g : s.heap.get? a = some (dictObj es q)) (E : EntP C.w Z kvs es)
    (h1 : es = xs.map (entryOfKey (pk C))) (h2 : ∀ x ∈ xs, (pk C).is s.heap x.1 x.2.1) (h3 : xs.map (·.1) = kvs.map (·.1)) : s.heap.DictOfH (pk C) a xs :=
  ⟨_, es.toArray, q, g, ⟨rfl, rfl, rfl⟩, rfl, by simpa using h1, h2, by rw [h3]; exact E.2.2.2⟩
theorem AOk.room2 {n : Nat} {A : Around} (h : AOk n A) : (pk C).room A.in1 := by show A.units + 1 < cLine; have := h.u; show _ < 9900; omega
theorem SubV.dP {v : V} {kvs : List (List Int × V)} {k : List Int} {x : V} {Φ : V → Mu → Prop} (hv : SeeP C v kvs μ) (hx : lk kvs k = some x) (h : Φ x μ) : SubV C n v (intsT k) Φ μ := by
  intro A hA Z ρ a' b' ra rb value slice hs s R
  obtain ⟨a, es, q, rfl, ha, g, E⟩ := hv R ra
  obtain ⟨b, vs, q2, rfl, e2, h2⟩ := intsT_rel rb
  obtain ⟨xs, i1, i2, i3, i4, i5, _⟩ := real_P R (EntP.iff.mp E).1
  obtain ⟨p, hp, rp⟩ := i4 k x hx
  have D := dictOfH_of g E i1 (fun x hx => (i2 x hx).1) i3
  exact tail_any D.typeIs slot_dict_getitem.lookup (wpAny_getItem_heap hA.room2 (key_is R e2 h2) D hp ⟨⟨Z, μ, ρ⟩, R.tok _, ext.rfl, rfl, x, rp, h⟩) (hs _)
theorem CmpV.inP {v : V} {kvs : List (List Int × V)} {k : List Int} {Φ : V → Mu → Prop} (hv : SeeP C v kvs μ) (h : Φ (.bool (lk kvs k).isSome) μ) : CmpV C n .In (intsT k) v Φ μ := by
  intro A hA Z ρ a' b' ra rb s R
  obtain ⟨a, es, q, rfl, ha, g, E⟩ := hv R rb
  obtain ⟨b, vs, q2, rfl, e2, h2⟩ := intsT_rel ra
  obtain ⟨xs, i1, i2, i3, i4, i5, _⟩ := real_P R (EntP.iff.mp E).1
  refine wpAny_in_heap hA.room2 (key_is R e2 h2) (beq_false_of_ne' ha) (dictOfH_of g E i1 (fun x hx => (i2 x hx).1) i3) ⟨⟨Z, μ, ρ⟩, R.tok _, ext.rfl, rfl, _, .bool _, ?_⟩
  rw [i5]; exact h
theorem CmpV.notInP {v : V} {kvs : List (List Int × V)} {k : List Int} {Φ : V → Mu → Prop} (hv : SeeP C v kvs μ) (h : Φ (.bool (!(lk kvs k).isSome)) μ) : CmpV C n .NotIn (intsT k) v Φ μ := by
  intro A hA Z ρ a' b' ra rb s R
  obtain ⟨a, es, q, rfl, ha, g, E⟩ := hv R rb
  obtain ⟨b, vs, q2, rfl, e2, h2⟩ := intsT_rel ra
  obtain ⟨xs, i1, i2, i3, i4, i5, _⟩ := real_P R (EntP.iff.mp E).1
  refine wpAny_notIn_heap hA.room2 (key_is R e2 h2) (beq_false_of_ne' ha) (dictOfH_of g E i1 (fun x hx => (i2 x hx).1) i3) ⟨⟨Z, μ, ρ⟩, R.tok _, ext.rfl, rfl, _, .bool _, ?_⟩
  rw [i5]; exact h
end
end SP
namespace SP
open PySem PySem.W PySem.Calls PyProof.Rows
noncomputable def putF : List (Str × V) → Str → V → List (Str × V)
  | [], x, v => [(x, v)]
  | (k, y) :: r, x, v => if k = x then (k, v) :: r else (k, y) :: putF r x v
theorem putL_len (name : Str) (hsh : Int) (key v : Value) : ∀ es : List DictEntry, (putL name hsh key v es).length ≤ es.length + 1
  | [] => by simp [putL]
  | e :: r => by
    unfold putL
    split
    · simp
    · simp [putL_len name hsh key v r]
theorem EntF.put {w Z} {fs : List (Str × V)} {es : List DictEntry} {x : Str} {v : V} {v' : Value} {hsh : Int} {t : Tok} (h : EntF w Z fs es) (r : VRel w Z v v') : EntF w Z (putF fs x v) (putL x hsh (.str x t) v' es) := by
  rw [EntF.iff] at h ⊢
  induction fs generalizing es with
  | nil => obtain rfl := h.nil_inv; exact Ent.cons ⟨t, rfl⟩ r Ent.nil
  | cons p rest ih =>
    obtain ⟨k, y⟩ := p
    obtain ⟨e, es1, rfl, ⟨t1, hk⟩, b, c⟩ := h.cons_inv
    rw [show putF ((k, y) :: rest) x v = if k = x then (k, v) :: rest else (k, y) :: putF rest x v from rfl]; unfold putL
    rw [hk]
    show Ent _ _ _ (if (k == x) = true then _ else _)
    by_cases q : k = x
    · subst q
      rw [if_pos rfl, if_pos (by simp)]
      exact Ent.cons ⟨t1, rfl⟩ r c
    · rw [if_neg q, if_neg (by simpa using q)]
      exact Ent.cons ⟨t1, hk⟩ b (ih c)
section
variable {C : Cx} {n : Nat} {env : Env} {l : Loc} {μ : Mu}
noncomputable def SetA (C : Cx) (n : Nat) (a : V) (x : Str) (v : V) (Φ : Mu → Prop) (μ : Mu) : Prop :=
  ∀ A, AOk n A → ∀ Z ρ a' v', VRel C.w Z a a' → VRel C.w Z v v' → Op C A (setAttr a' x v') (PU Φ ρ) ⟨Z, μ, ρ⟩
noncomputable def SetI (C : Cx) (n : Nat) (a i v : V) (Φ : Mu → Prop) (μ : Mu) : Prop :=
  ∀ A, AOk n A → ∀ Z ρ a' i' v', VRel C.w Z a a' → VRel C.w Z i i' → VRel C.w Z v v' → Op C A (setItem a' i' v') (PU Φ ρ) ⟨Z, μ, ρ⟩
noncomputable abbrev kStA (C : Cx) (n : Nat) (x : Str) (v : V) (Φ : Loc → Mu → Prop) (l : Loc) : V → Mu → Prop := fun ov μ1 => SetA C n ov x v (Φ l) μ1
noncomputable abbrev kSt2 (C : Cx) (n : Nat) (ov v : V) (Φ : Loc → Mu → Prop) (l : Loc) : V → Mu → Prop := fun iv μ2 => SetI C n ov iv v (Φ l) μ2
noncomputable abbrev kSt1 (C : Cx) (n : Nat) (env : Env) (i : Expr) (v : V) (Φ : Loc → Mu → Prop) (l : Loc) : V → Mu → Prop := fun ov μ1 => We C n env i (kSt2 C n ov v Φ l) l μ1
theorem Wa.attr {o : Expr} {x : Str} {pos : Pos} {v : V} {Φ : Loc → Mu → Prop} (h : We C n env o (kStA C n x v Φ l) l μ) : Wa C n env (.Attribute o x pos) v Φ l μ := by
  intro A hA Z ρ v' r F s R
  refine kas_attr (h.use hA F R fun o' s1 Z1 ov μ1 R1 x1 F1 ro h1 => ?_)
  refine (h1 A hA Z1 ρ o' v' ro (r.mono x1)).use R1 fun _ s2 σ2 R2 x2 ⟨e2, q⟩ => ?_
  exact ⟨σ2, R2, x1.trans x2, l, by rw [e2]; exact F1.mono x2, by rw [e2]; exact off.rfl, q⟩
theorem Wa.sub {o i : Expr} {pos : Pos} {v : V} {Φ : Loc → Mu → Prop} (h : We C n env o (kSt1 C n env i v Φ l) l μ) : Wa C n env (.Subscript o i pos) v Φ l μ := by
  intro A hA Z ρ v' r F s R
  refine kas_sub (h.use hA F R fun o' s1 Z1 ov μ1 R1 x1 F1 ro h1 => h1.use hA F1 R1 fun i' s2 Z2 iv μ2 R2 x2 F2 ri h2 => ?_)
  refine (h2 A hA Z2 ρ o' i' v' (ro.mono x2) ri ((r.mono x1).mono x2)).use R2 fun _ s3 σ3 R3 x3 ⟨e3, q⟩ => ?_
  exact ⟨σ3, R3, (x1.trans x2).trans x3, l, by rw [e3]; exact F2.mono x3, by rw [e3]; exact off.rfl, q⟩
noncomputable def WaL (C : Cx) (n : Nat) (env : Env) (Φ : Loc → Mu → Prop) : List Expr → List V → Loc → Mu → Prop
  | [], [], l, μ => Φ l μ
  | t :: ts, v :: vs, l, μ => Wa C n env t v (fun l' μ' => WaL C n env Φ ts vs l' μ') l μ
  | _, _, _, _ => False
theorem WaL.use {A : Around} (hA : AOk n A) {Φ : Loc → Mu → Prop} : ∀ {ts : List Expr} {vs : List V} {vs' : List Value} {l : Loc} {μ : Mu} {Z ρ : Fz} {s : Shared} {Q : Unit → Shared → Prop}, WaL C n env Φ ts vs l μ → VRels C.w Z vs vs' → Frm C env l Z ρ → Rel C Z μ ρ s →
    (∀ s' (σ' : St) l', Rel C σ'.Z σ'.μ σ'.ρ s' → ext Z σ'.Z → Frm C env l' σ'.Z σ'.ρ → off env ρ σ'.ρ → Φ l' σ'.μ → Q () s') → wpAny (model C.prog C.w) A (assignInOrder (ts.map fun t => assign t env) vs') Q NoE s
  | [], [], vs', l, μ, Z, ρ, s, Q, h, r, F, R, k => by
    obtain rfl := r.nil_inv
    exact assignInOrder_nil (k s ⟨Z, μ, ρ⟩ l R ext.rfl F off.rfl h)
  | t :: ts, v :: vs, vs', l, μ, Z, ρ, s, Q, h, r, F, R, k => by
    obtain ⟨v', us, rfl, r1, r2⟩ := r.cons_inv
    refine assignInOrder_cons ((h A hA Z ρ v' r1 F).use R fun _ s1 σ1 R1 x1 ⟨l', F1, o1, h1⟩ => ?_)
    exact WaL.use hA h1 (r2.mono x1) F1 R1 fun s' σ' l' R' x' F' o' q => k s' σ' l' R' (x1.trans x') F' (o1.trans o') q
  | [], _ :: _, _, _, _, _, _, _, _, h, _, _, _, _ => h.elim
  | _ :: _, [], _, _, _, _, _, _, _, h, _, _, _, _ => h.elim
noncomputable def plainTgts (ts : List Expr) : Bool := ts.all fun | .Name .. => true | _ => false
theorem assignEach_names : ∀ {ts : List Expr}, plainTgts ts = true → assignEach ts env = ts.map fun t => (false, assign t env)
  | [], _ => rfl
  | t :: ts, h => by
    have h2 : (_ && plainTgts ts) = true := h
    have ih := assignEach_names (ts := ts) (Bool.and_eq_true_iff.mp h2).2
    cases t <;> first | exact nomatch (show false = true from h) | (rw [List.map_cons, ← ih]; rfl)
theorem Wa.tuple {ts : List Expr} {k : Nat} {pos : Pos} {vs : List V} {Φ : Loc → Mu → Prop} (hp : plainTgts ts = true) (hl : ts.length = vs.length) (h : WaL C n env Φ ts vs l μ) : Wa C n env (.Tuple ts k pos) (.tup vs) Φ l μ := by
  intro A hA Z ρ v' r F s R
  obtain ⟨us, a, q, rfl, e, hlen, hr⟩ := r.inv
  have rv : VRels C.w Z vs us := ⟨hlen, hr⟩
  have e1 := assignEach_names (env := env) hp
  refine wpAny_assign_Tuple (items := us.toArray) hA.h ⟨_, R.z _ _ e, rfl, q, rfl⟩ (by rw [e1, List.length_map, List.size_toArray, ← hlen, hl]) ?_ fun h' hx => ?_
  · rw [e1, List.findIdx?_map]
    clear e1 h hl hp
    induction ts with
    | nil => rfl
    | cons t ts ih => rw [List.findIdx?_cons]; simp only [Function.comp]; rw [if_neg (by decide), ih]; rfl
  · rw [e1, List.map_map]
    have R' : Rel C Z μ ρ { s with heap := h' } := R.grow (fun b o eb => hx b o (Nat.ne_of_lt (Heap.lt_size eb)) eb) rfl rfl
    exact WaL.use hA h rv F R' fun s' σ' l' R2 x2 F2 o2 q => ⟨σ', R2, x2, l', F2, o2, q⟩
theorem dictOf_open {prog : Program} {w : World} {κ : Type} [DecidableEq κ] {knd : KeyKind prog w κ} {h : Heap} {a : Addr} {kvs : List (κ × Value)} (hd : h.DictOf knd a kvs) :
    ∃ es q, h.get? a = some (dictObj es q) ∧ (∀ e ∈ es, ∃ k, knd.is k e.key = true ∧ e.hash = knd.hash k) ∧ Pairs knd es kvs := by
  obtain ⟨⟨c, d, dt, sl⟩, es, q, g, hx, hd, hk, hp, hn⟩ := hd
  obtain ⟨h1, h2, h3⟩ := hx
  dsimp only at h1 h2 h3 hd
  subst h1 h2 h3 hd
  exact ⟨es.toList, q, by simpa [dictObj] using g, fun e he => hk e (by simpa using he), hp⟩
noncomputable def setIn (K : Frag) (Cc : Addr) (x : Str) : Bool :=
  findIn K (.ref Cc) "__setattr__" == some (some (.builtin "object.__setattr__")) && plainOver K Cc && takerIn K Cc x == some none && (clsIn K Cc).any (·.hasDict)
theorem SetA.cell {a d Cc : Addr} {fs : List (Str × V)} {x : Str} {v : V} {Φ : Mu → Prop} (ha : μ a = some (.inst Cc (some d))) (hd : μ d = some (.flds fs)) (ok : setIn C.K Cc x = true) (hz : fs.length < 1000)
    (h : Φ (fup μ d (some (.flds (putF fs x v))))) : SetA C n (.ref a) x v Φ μ := by
  intro A hA Z ρ a' v' ra rv s R
  (first | obtain rfl := ra.inv | obtain ⟨_, rfl⟩ := ra.inv | cases ra)
  obtain ⟨oa, g1, c1⟩ := R.m _ _ ha
  obtain ⟨od, g2, c2⟩ := R.m _ _ hd
  cases c1
  cases c2 with
  | @flds _ es k e =>
  simp only [setIn, Bool.and_eq_true, beq_iff_eq] at ok
  obtain ⟨⟨⟨o1, o2⟩, o3⟩, o4⟩ := ok
  have I : InstAt s.heap a (instObj Cc (some d)) Cc (some (dictObj es k)) := ⟨g1, rfl, rfl, g2⟩
  refine set_plain R.X I o1 (osa_open (s := { s with toks := s.toks + 1 }) R.X I o2 o3 fun b => ?_)
  obtain ⟨cd, hc, hd'⟩ := any_some o4
  refine wpAny_bind (wpAny_pure (wpAny_bind (wpAny_bind (wpAny_loadPart g1 (wpAny_bind (looks_clsIn R.X hc _ _ _ _ (fun _ _ e => e) ?_))))))
  rw [hd']
  refine wpAny_pure (a := some d) (wpAny_bind (wpAny_pure (wpAny_bind ?_)))
  unfold nsSet
  refine wpAny_bind (wpAny_bind (wpAny_askSetting (wpAny_pure (wpAny_bind (wpAny_mkText (wpAny_bind (wpAny_loadPart g2 ?_)))))))
  dsimp only [dictObj]
  have hr := (Ent.find (EntF.iff.mp e) x).2.2
  have c : (!es.toArray.any (·.key.isStr x) && es.toArray.any (·.refKey)) = false := by
    rw [← Array.any_toList, ← Array.any_toList, hr, Bool.and_false]
  rw [aRefKeyMayBeTheName_at, c]
  have eput : Obj.putName x (PyData.keyHash C.w.params x) (.str x (s.toks + 1)) v' (dictObj es k) = dictObj (putL x (PyData.keyHash C.w.params x) (.str x (s.toks + 1)) v' es) (putN x es k) := putName_dict ..
  refine wpAny_updatePart g2 ?_
  have D' := Heap.get?_update_self (h := s.heap) (a := d) (Obj.putName x (PyData.keyHash C.w.params x) (.str x (s.toks + 1)) v') g2 (by rw [eput]; rfl)
  rw [eput] at D'
  refine wpAny_bind (wpAny_lookBehind D' (pastItsLine_dict (by rw [List.size_toArray, sizeLine_eq]; have := putL_len x (PyData.keyHash C.w.params x) (.str x (s.toks + 1)) v' es; have := e.1; omega)) ?_)
  refine wpAny_pure ⟨⟨Z, fup μ d (some (.flds (putF fs x v))), ρ⟩, ?_, ext.rfl, rfl, h⟩
  exact R.setM (c := .flds fs) (c' := .flds (putF fs x v)) hd (Heap.SameBut.update ..) D' (.flds (e.put rv))
theorem SetI.list {a : Addr} {xs : List V} {i : Int} {v : V} {Φ : Mu → Prop} (ha : μ a = some (.list xs)) (h0 : 0 ≤ i) (hi : i < xs.length) (hb : i < 2 ^ 63) (h : Φ (fup μ a (some (.list (xs.set i.toNat v))))) : SetI C n (.ref a) (.int i) v Φ μ := by
  intro A hA Z ρ a' i' v' ra ri rv s R
  (first | obtain rfl := ra.inv | obtain ⟨_, rfl⟩ := ra.inv | cases ra); (first | obtain rfl := ri.inv | obtain ⟨_, rfl⟩ := ri.inv | cases ri)
  obtain ⟨o, g, c⟩ := R.m _ _ ha
  obtain ⟨vs, q, rfl, r⟩ := c.inv
  refine ki_setAt (items := vs.toArray) (n := q) g h0 hb (by rw [List.size_toArray, ← r.1]; exact hi) ?_
  have q' := PySem.IsL.update g (·.setIfInBounds i.toNat v')
  refine ⟨⟨Z, fup μ a (some (.list (xs.set i.toNat v))), ρ⟩, R.setM ha (Heap.SameBut.update ..) (o' := listObj (vs.set i.toNat v') q) ?_ (.list ⟨by simp [r.1], fun j x u h1 h2 => ?_⟩), ext.rfl, rfl, h⟩
  · simp only [List.setIfInBounds_toArray, List.size_toArray, List.length_set, beq_self_eq_true, if_true] at q'; exact q'
  · rw [List.getElem?_set] at h1 h2
    by_cases e : i.toNat = j
    · rw [if_pos e] at h1 h2
      have l1 : i.toNat < xs.length := by omega
      rw [if_pos l1] at h1
      rw [if_pos (r.1 ▸ l1)] at h2
      cases h1; cases h2; exact rv
    · rw [if_neg e] at h1 h2; exact r.2 j x u h1 h2
theorem SetI.dS {a : Addr} {kvs : List (Str × V)} {k : Str} {v : V} {Φ : Mu → Prop} (ha : μ a = some (.dS kvs)) (hz : kvs.length ≤ 16777216) (h : Φ (fup μ a (some (.dS (putK kvs k v))))) : SetI C n (.ref a) (.str k) v Φ μ := by
  intro A hA Z ρ a' i' v' ra ri rv s R
  (first | obtain rfl := ra.inv | obtain ⟨_, rfl⟩ := ra.inv | cases ra); (first | obtain rfl := ri.inv | obtain ⟨_, rfl⟩ := ri.inv | cases ri)
  obtain ⟨o, g, c⟩ := R.m _ _ ha
  obtain ⟨es, q, rfl, E⟩ := c.inv
  refine wpAny_setItem_pairs (knd := strKind C.prog C.w) (strKind_is _ _ k _) (dictAt_S E g).dictOf (fun h' hd hs => ?_) (by simp only [realS, List.length_map, List.length_zip]; rw [sizeLine_eq]; omega)
  obtain ⟨es', q', g', hk, hp⟩ := dictOf_open hd
  have EP := ent_stored (P := fun k e => keyS C.w e k) (fun k e h1 h2 => by obtain ⟨t, h1⟩ := Value.isStrOf_shape h1; exact ⟨⟨t, h1⟩, h2⟩) (EntS.iff.mp E).1 rv hp hk
  exact ⟨⟨Z, fup μ a (some (.dS (putK kvs k v))), ρ⟩, R.setM (s' := { s with heap := h', toks := s.toks + 1 }) ha hs g' (.dS (EntS.iff.mpr ⟨EP, putK_nodup E.2.2.2⟩)), ext.rfl, rfl, h⟩
theorem SetI.dI {a : Addr} {kvs : List (Int × V)} {k : Int} {v : V} {Φ : Mu → Prop} (ha : μ a = some (.dI kvs)) (hz : kvs.length ≤ 16777216) (h : Φ (fup μ a (some (.dI (putK kvs k v))))) : SetI C n (.ref a) (.int k) v Φ μ := by
  intro A hA Z ρ a' i' v' ra ri rv s R
  (first | obtain rfl := ra.inv | obtain ⟨_, rfl⟩ := ra.inv | cases ra); (first | obtain rfl := ri.inv | obtain ⟨_, rfl⟩ := ri.inv | cases ri)
  obtain ⟨o, g, c⟩ := R.m _ _ ha
  obtain ⟨es, q, rfl, E⟩ := c.inv
  refine wpAny_setItem_pairs (knd := intKind C.prog C.w) (intKind_is _ _ k _) (dictAt_I E g).dictOf (fun h' hd hs => ?_) (by simp only [realI, List.length_map, List.length_zip]; rw [sizeLine_eq]; omega)
  obtain ⟨es', q', g', hk, hp⟩ := dictOf_open hd
  have EP := ent_stored (P := fun k e => keyI e k) (fun k e h1 h2 => by obtain ⟨t, h1⟩ := Value.isInt_shape h1; exact ⟨⟨t, h1⟩, h2⟩) (EntI.iff.mp E).1 rv hp hk
  exact ⟨⟨Z, fup μ a (some (.dI (putK kvs k v))), ρ⟩, R.setM (s' := { s with heap := h', toks := s.toks + 1 }) ha hs g' (.dI (EntI.iff.mpr ⟨EP, putK_nodup E.2.2.2⟩)), ext.rfl, rfl, h⟩
theorem storedH_ent {Z : Fz} {μ : Mu} {ρ : Fz} {s : Shared} (R : Rel C Z μ ρ s) {kvs : List (List Int × V)} {xs : List (List Int × Addr × Value)} {k : List Int} {b : Addr} {v : V} {v' : Value} (rv : VRel C.w Z v v')
    (i2 : ∀ x ∈ xs, ∃ vs q, Z x.2.1 = some (tupObj vs q) ∧ IntsV x.1 vs) (i3 : xs.map (·.1) = kvs.map (·.1)) (i6 : ∀ (i : Nat) k x, kvs[i]? = some (k, x) → ∃ a v, xs[i]? = some (k, a, v) ∧ VRel C.w Z x v)
    (i5 : ∀ k, (atKey xs k).isSome = (lk kvs k).isSome) (hb : ∃ vs q, Z b = some (tupObj vs q) ∧ IntsV k vs) : Ent (fun k e => keyP Z e k) (VRel C.w Z) (putK kvs k v) ((storedH xs k b v').map (entryOfKey (pk C))) := by
  have hlen : xs.length = kvs.length := by have := congrArg List.length i3; simpa using this
  have kk : ∀ {j : Nat} {k1 : List Int} {a1 : Addr} {u : Value}, (∃ vs q, Z a1 = some (tupObj vs q) ∧ IntsV k1 vs) → keyP Z (entryOfKey (pk C) (k1, a1, u)) k1 := fun {j k1 a1 u} ⟨vs, q, e1, e2⟩ => ⟨⟨a1, q, vs, rfl, e1, e2⟩, rfl⟩
  unfold putK storedH
  rw [i5, lk_isSome_any]
  by_cases hq : kvs.any (fun p => decide (p.1 = k)) = true
  · rw [if_pos hq, if_pos hq]
    refine ⟨by simp [hlen], fun i k1 x1 e h1 h2 => ?_⟩
    rw [List.getElem?_map] at h1 h2
    obtain ⟨⟨k2, x2⟩, h3, h4⟩ := Option.map_eq_some_iff.mp h1
    obtain ⟨a2, u2, h5, h6⟩ := i6 i k2 x2 h3
    rw [List.getElem?_map, h5] at h2
    have hm := i2 _ (List.mem_of_getElem? h5)
    dsimp only at h4 hm
    simp only [Option.map_some, Option.some.injEq, putAt] at h2
    by_cases h7 : k2 = k
    · subst h7
      rw [if_pos rfl] at h4; cases h4
      simp at h2
      subst h2
      exact ⟨kk (j := 0) hm, rv⟩
    · rw [if_neg h7] at h4; cases h4
      simp [h7] at h2
      subst h2
      exact ⟨kk (j := 0) hm, h6⟩
  · rw [if_neg hq, if_neg hq]
    rw [List.map_append]
    refine Ent.append ⟨by simp [hlen], fun i k1 x1 e h1 h2 => ?_⟩ (Ent.cons (kk (j := 0) hb) rv Ent.nil)
    obtain ⟨a2, u2, h5, h6⟩ := i6 i k1 x1 h1
    rw [List.getElem?_map, h5] at h2
    have hm := i2 _ (List.mem_of_getElem? h5)
    simp at h2
    subst h2
    exact ⟨kk (j := 0) hm, h6⟩
theorem SetI.dP {a : Addr} {kvs : List (List Int × V)} {k : List Int} {v : V} {Φ : Mu → Prop} (ha : μ a = some (.dP kvs)) (hz : kvs.length ≤ 16777216) (h : Φ (fup μ a (some (.dP (putK kvs k v))))) : SetI C n (.ref a) (intsT k) v Φ μ := by
  intro A hA Z ρ a' i' v' ra ri rv s R
  (first | obtain rfl := ra.inv | obtain ⟨_, rfl⟩ := ra.inv | cases ra)
  obtain ⟨b, vs, q2, rfl, e2, h2⟩ := intsT_rel ri
  obtain ⟨o, g, c⟩ := R.m _ _ ha
  obtain ⟨es, q, rfl, E⟩ := c.inv
  obtain ⟨xs, i1, i2, i3, i4, i5, i6⟩ := real_P R (EntP.iff.mp E).1
  have hlen : xs.length = kvs.length := by have := congrArg List.length i3; simpa using this
  refine wpAny_setItem_heap (knd := pk C) hA.room2 (key_is R e2 h2) (dictOfH_of g E i1 (fun x hx => (i2 x hx).1) i3) (fun h' hd hs => ?_) (by rw [hlen, sizeLine_eq]; omega)
  obtain ⟨⟨oc, od, odt, osl⟩, es', q', g', hx', hd', he', hk', hn'⟩ := hd
  obtain ⟨h1, h3, h4⟩ := hx'
  dsimp only at h1 h3 h4 hd'
  subst h1 h3 h4 hd'
  have EP := storedH_ent R rv (fun x hx => (i2 x hx).2) i3 i6 i5 ⟨vs, q2, e2, h2⟩ (b := b)
  rw [← he'] at EP
  exact ⟨⟨Z, fup μ a (some (.dP (putK kvs k v))), ρ⟩, R.setM (s' := { s with heap := h', toks := s.toks + (pk C).draws k }) ha hs g' (by have := CRel.dP (w := C.w) (n := q') (EntP.iff.mpr ⟨EP, putK_nodup E.2.2.2⟩); simpa [dictObj] using this), ext.rfl, rfl, h⟩
end
end SP
namespace SP
open PySem PySem.W PySem.Calls PyProof.Rows
section
variable {C : Cx} {n : Nat} {env : Env} {l : Loc} {μ : Mu}
noncomputable def Gh (C : Cx) (v : V) (μ : Mu) (v2 : V) (μ2 : Mu) : Prop := ∀ Z ρ s v', Rel C Z μ ρ s → VRel C.w Z v v' → ∃ Z', ext Z Z' ∧ Rel C Z' μ2 ρ s ∧ VRel C.w Z' v2 v'
theorem Gh.trans {v v2 v3 : V} {μ2 μ3 : Mu} (h : Gh C v μ v2 μ2) (k : Gh C v2 μ2 v3 μ3) : Gh C v μ v3 μ3 := fun Z ρ s v' R r =>
  let ⟨Z1, x1, R1, r1⟩ := h Z ρ s v' R r
  let ⟨Z2, x2, R2, r2⟩ := k Z1 ρ s v' R1 r1
  ⟨Z2, x1.trans x2, R2, r2⟩
theorem Gh.drop {v : V} {μ2 : Mu} (h : ∀ a c, μ2 a = some c → μ a = some c) : Gh C v μ v μ2 := fun Z _ _ _ R r => ⟨Z, ext.rfl, R.less h ext.rfl, r⟩
inductive Froz : Cell → V → Prop
  | list {xs} : Froz (.list xs) (.list xs)
  | dS {kvs} : Froz (.dS kvs) (.dS kvs)
  | dI {kvs} : Froz (.dI kvs) (.dI kvs)
  | dP {kvs} : Froz (.dP kvs) (.dP kvs)
theorem Froz.rel {c : Cell} {v : V} (h : Froz c v) {w : World} {Z Z' : Fz} {o : Obj} {a : Addr} (r : CRel w Z c o) (x : ext Z Z') (hz : Z' a = some o) (hs : a ≠ sysModules) : VRel w Z' v (.ref a) := by
  cases h with
  | list => cases r with | list r => exact VRel.ofList hz (r.mono x)
  | dS => cases r with | dS r => have r := r.mono x; exact .dS hs hz r.1 r.2.1 r.2.2.1 r.2.2.2
  | dI => cases r with | dI r => have r := r.mono x; exact .dI hs hz r.1 r.2.1 r.2.2.1 r.2.2.2
  | dP => cases r with | dP r => have r := r.mono x; exact .dP hs hz r.1 r.2.1 r.2.2.1 r.2.2.2
theorem Gh.cell {a : Addr} {c : Cell} {v : V} (hc : μ a = some c) (hf : Froz c v) : Gh C (.ref a) μ v (fup μ a none) := by
  intro Z ρ s v' R r
  cases r
  obtain ⟨o, h1, h2, R'⟩ := R.freeze hc
  exact ⟨_, ext_fup h2, R', hf.rel h1 (ext_fup h2) (fup_self ..) (R.lo _ _ hc)⟩
theorem Gh.inst {a d Cc : Addr} {fs : List (Str × V)} (ha : μ a = some (.inst Cc (some d))) (hd : μ d = some (.flds fs)) : Gh C (.ref a) μ (.inst Cc fs) (fup (fup μ d none) a none) := by
  intro Z ρ s v' R r
  cases r
  have hne : a ≠ d := by rintro rfl; rw [ha] at hd; cases hd
  obtain ⟨o, h1, h2, R'⟩ := R.freeze hd
  obtain ⟨o2, h3, h4, R2⟩ := R'.freeze (a := a) (c := .inst Cc (some d)) ((fup_ne _ _ hne).trans ha)
  refine ⟨_, (ext_fup h2).trans (ext_fup h4), R2, ?_⟩
  cases h1 with
  | @flds _ es k e =>
  cases h3
  have e := e.mono ((ext_fup (o := dictObj es k) h2).trans (ext_fup (o := instObj Cc (some d)) h4))
  exact .inst (fup_self ..) ((fup_ne _ _ hne.symm).trans (fup_self ..)) e.1 e.2.1 e.2.2
theorem Gh.fld {v : V} {d t : Addr} {fs : List (Str × V)} {i : Nat} {k : Str} {c : Cell} {cv : V} (hd : μ d = some (.flds fs)) (hi : fs[i]? = some (k, .ref t)) (ht : μ t = some c) (hf : Froz c cv) :
    Gh C v μ v (fup (fup μ t none) d (some (.flds (fs.set i (k, cv))))) := by
  intro Z ρ s v' R r
  have hne : d ≠ t := by rintro rfl; rw [hd] at ht; cases ht; cases hf
  obtain ⟨o, h1, h2, R'⟩ := R.freeze ht
  have rt := hf.rel h1 (ext_fup h2) (fup_self ..) (R.lo _ _ ht)
  refine ⟨fup Z t (some o), ext_fup h2, ?_, r.mono (ext_fup h2)⟩
  have hd' : fup μ t none d = some (.flds fs) := (fup_ne _ _ hne).trans hd
  obtain ⟨od, g, cd⟩ := R'.m _ _ hd'
  refine R'.setM hd' ⟨rfl, fun _ _ => rfl⟩ g ?_
  cases cd with
  | @flds _ es q e =>
    refine .flds ⟨by simp [e.1], fun j k1 x1 e1 a b => ?_, fun j k1 x1 e1 a b => ?_⟩
    · rw [List.getElem?_set] at a
      split at a
      · rename_i q; subst q; split at a
        · cases a; exact e.2.1 _ _ _ _ hi b
        · cases a
      · exact e.2.1 _ _ _ _ a b
    · rw [List.getElem?_set] at a
      split at a
      · rename_i q; subst q; split at a
        · cases a; have := e.2.2 _ _ _ _ hi b; generalize e1.val = ev at this; cases this; exact rt
        · cases a
      · exact e.2.2 _ _ _ _ a b
theorem We.ghost {e : Expr} {Φ Ψ : V → Mu → Prop} (h : We C n env e Φ l μ) (k : ∀ v μ', Φ v μ' → ∃ v2 μ2, Gh C v μ' v2 μ2 ∧ Ψ v2 μ2) : We C n env e Ψ l μ := by
  intro A hA Z ρ F s R
  refine h.use hA F R fun v' s1 Z1 v μ1 R1 x1 F1 r q => ?_
  obtain ⟨v2, μ2, g, q2⟩ := k v μ1 q
  obtain ⟨Z2, x2, R2, r2⟩ := g Z1 ρ s1 v' R1 r
  exact ⟨⟨Z2, μ2, ρ⟩, R2, x1.trans x2, rfl, v2, r2, q2⟩
theorem CallV.ghost {f : Value} {args : List V} {Φ Ψ : V → Mu → Prop} (h : CallV C n f args Φ μ) (k : ∀ v μ', Φ v μ' → ∃ v2 μ2, Gh C v μ' v2 μ2 ∧ Ψ v2 μ2) : CallV C n f args Ψ μ := by
  intro A hA Z ρ vs r s R
  refine (h A hA Z ρ vs r).use R fun v' s1 σ1 R1 x1 ⟨e1, v, rv, q⟩ => ?_
  obtain ⟨Z1, μ1, ρ1⟩ := σ1; dsimp only at *
  obtain ⟨v2, μ2, g, q2⟩ := k v μ1 q
  obtain ⟨Z2, x2, R2, r2⟩ := g Z1 ρ1 s1 v' R1 rv
  exact ⟨⟨Z2, μ2, ρ1⟩, R2, x1.trans x2, e1, v2, r2, q2⟩
noncomputable def clsOk (K : Frag) (Cc fI : Addr) : Bool := makesIn K Cc && findIn K (.ref Cc) "__init__" == some (some (.ref fI)) && typeIn K (.ref fI) == some (.type "function")
theorem CodeV.cls {Cc fI : Addr} {args : List V} {Φ : V → Mu → Prop} (ok : clsOk C.K Cc fI = true)
    (h : ∀ a d, μ a = none → μ d = none → a ≠ d → CodeV C n (.ref fI) (.ref a :: args) (fun v μ' => v = .none ∧ Φ (.ref a) μ') (fup (fup μ d (some (.flds []))) a (some (.inst Cc (some d))))) : CodeV C (n + 1) (.ref Cc) args Φ μ := by
  intro A hA Z ρ vs s r R
  simp only [clsOk, Bool.and_eq_true, beq_iff_eq] at ok
  obtain ⟨⟨o1, o2⟩, o3⟩ := ok
  have R1 := R.pushM (o := dictObj [] 0) (c := .flds []) (.flds ⟨rfl, fun _ _ _ _ h => by simp at h, fun _ _ _ _ h => by simp at h⟩) s.toks
  have R2 := R1.pushM (o := instObj Cc (some s.heap.objs.size)) (c := .inst Cc (some s.heap.objs.size)) .inst s.toks
  have hs : (s.heap.push (dictObj [] 0)).objs.size = s.heap.objs.size + 1 := size_push ..
  have hX := R.X
  have n1 := R.newM
  have n2 := R1.newM
  obtain ⟨hh, g, d, t, os⟩ := s
  dsimp only at *
  rw [hs] at R2 n2
  have hne : hh.objs.size + 1 ≠ hh.objs.size := by omega
  rw [fup_ne _ _ hne] at n2
  have hA' : AOk n (A.under (.builtin "type.__call__" ⟨.ref Cc :: vs, []⟩)) := by
    have hw : Code.weight (.builtin "type.__call__" ⟨.ref Cc :: vs, []⟩) ≤ 1 := Nat.le_of_eq (by kernel_rfl)
    have hf : Code.frames (.builtin "type.__call__" ⟨.ref Cc :: vs, []⟩) ≤ 1 := by unfold Code.weight at hw; omega
    have h1 : (A.under (.builtin "type.__call__" ⟨.ref Cc :: vs, []⟩)).depth ≤ A.depth + 1 := Nat.add_le_add_left hw _
    have h2 : (A.under (.builtin "type.__call__" ⟨.ref Cc :: vs, []⟩)).units ≤ A.units + 4 := by
      show A.units + (1 + 3 * Code.frames (.builtin "type.__call__" ⟨.ref Cc :: vs, []⟩)) ≤ _
      omega
    exact ⟨by have := hA.d; omega, by have := hA.u; omega, hA.h⟩
  refine make_core (makes_of hX o1) (looks_findIn hX o2) (fun self => bind_fn hX self o3) (.inl rfl) ?_
  refine codeAny_mono (h (hh.objs.size + 1) hh.objs.size n2 n1 hne _ hA' Z ρ (.ref (hh.objs.size + 1) :: vs) _ (.cons (.ref _) r) R2) fun rr s' q => ?_
  rcases rr with e | f
  · exact q
  cases f <;> first | exact q | skip
  rename_i v'
  obtain ⟨σ', R', x', e', v, rv, hv, q⟩ := q
  subst hv
  (first | obtain rfl := rv.inv | obtain ⟨_, rfl⟩ := rv.inv | cases rv)
  exact ⟨rfl, σ', R', x', e', .ref _, .ref _, q⟩
end
end SP
namespace SP
open PySem PySem.W PySem.Calls PyProof.Rows
section
variable {C : Cx} {n : Nat} {env : Env} {l : Loc} {μ : Mu}
theorem Rel.inZ {Z : Fz} {ρ : Fz} {s : Shared} (R : Rel C Z μ ρ s) : ∀ a o, C.K.lookup a = some o → Z a = some o := fun a o e => R.base a o (C.X a o e)
theorem We.glob {x : Str} {p : Pos} {f : Value} {v : V} {Φ : V → Mu → Prop} (hk : env.kindOf x = some .globalImplicit) (hg : globIn C.K x = some f) (hv : ∀ Z, (∀ a o, C.K.lookup a = some o → Z a = some o) → VRel C.w Z v f) (h : Φ v μ)
    (hd : (x == ("__debug__" : Str)) = false := by decide) : We C n env (.Name x p) Φ l μ := by
  intro A hA Z ρ F s R
  exact (glob_load (μ := μ) (A := A) (Φ := PV C Φ ρ) F hk hg ⟨rfl, v, hv Z R.inZ, h⟩ hd) s R
theorem We.globR {x : Str} {p : Pos} {a : Addr} {Φ : V → Mu → Prop} (hk : env.kindOf x = some .globalImplicit) (hg : globIn C.K x = some (.ref a)) (h : Φ (.ref a) μ)
    (hd : (x == ("__debug__" : Str)) = false := by decide) : We C n env (.Name x p) Φ l μ := We.glob hk hg (fun _ _ => .ref a) h hd
theorem We.globT {x : Str} {p : Pos} {T : String} {Φ : V → Mu → Prop} (hk : env.kindOf x = some .globalImplicit) (hg : globIn C.K x = some (.type T)) (h : Φ (.typ T) μ)
    (hd : (x == ("__debug__" : Str)) = false := by decide) : We C n env (.Name x p) Φ l μ := We.glob hk hg (fun _ _ => .typ T) h hd
noncomputable def tyV : V → Option Value
  | .none => some (.type "NoneType")
  | .bool _ => some (.type "bool")
  | .int _ => some (.type "int")
  | .str _ => some (.type "str")
  | .tup _ => some (.type "tuple")
  | .list _ => some (.type "list")
  | .dS _ => some (.type "dict")
  | .dI _ => some (.type "dict")
  | .dP _ => some (.type "dict")
  | .inst C _ => some (.ref C)
  | _ => none
noncomputable def clV : V → Option Value
  | .ref a => some (.ref a)
  | .typ T => some (.type T)
  | _ => none
noncomputable def ownIsi (K : Frag) (D : Addr) : Bool := plainGet K D "__class__" && hasDictIn K D && findIn K (.ref D) "__class__" == some (some (.builtin "object.__class__")) &&
  specialIn K (.builtin "object.__class__") "__get__" == some (some (.builtin "getset_descriptor.__get__")) && takesIn K (.builtin "object.__class__") == some true && mroIn K D (.type "object") == some true
noncomputable def isiOk (K : Frag) : V → Bool
  | .inst C _ => ownIsi K C
  | _ => true
theorem CallV.isi {v c : V} {t c' : Value} {b : Bool} {Φ : V → Mu → Prop} (ht : tyV v = some t) (hc : clV c = some c') (ok : isiOk C.K v = true) (e : kitOne C.K t c' = some b) (h : Φ (.bool b) μ) : CallV C n (.builtin "isinstance") [v, c] Φ μ := by
  intro A hA Z ρ vs r s R
  obtain ⟨v', us, rfl, r1, r2⟩ := r.cons_inv
  obtain ⟨c1, us, rfl, r3, r4⟩ := r2.cons_inv
  obtain rfl := r4.nil_inv
  have hc1 : c1 = c' := by
    cases c with
    | ref => exact (r3.inv : c1 = _).trans (Option.some.inj hc)
    | typ => exact (r3.inv : c1 = _).trans (Option.some.inj hc)
    | _ => exact (nomatch hc)
  subst hc1
  have fin : ∀ tk, PO C Z (PV C Φ ρ) (.bool b) { s with toks := tk } := fun tk => ⟨⟨Z, μ, ρ⟩, R.tok tk, ext.rfl, rfl, .bool b, .bool b, h⟩
  clear h r2 r3 r4 hc
  cases r1 with
  | none => obtain rfl := Option.some.inj ht; exact kia_one kitx_none R.X trivial e (by intro q; cases q) fin
  | bool => obtain rfl := Option.some.inj ht; exact kia_one kitx_bool R.X trivial e (by intro q; cases q) fin
  | int => obtain rfl := Option.some.inj ht; exact kia_one kitx_int R.X trivial e (by intro q; cases q) fin
  | str => obtain rfl := Option.some.inj ht; exact kia_one kitx_str R.X trivial e (by intro q; cases q) fin
  | tup g _ _ => obtain rfl := Option.some.inj ht; exact kia_one kitx_tuple R.X ⟨_, R.z _ _ g, rfl⟩ e (by intro q; cases q) fin
  | list g _ _ => obtain rfl := Option.some.inj ht; exact kia_one kitx_list R.X ⟨_, R.z _ _ g, rfl⟩ e (by intro q; cases q) fin
  | dS _ g _ _ _ => obtain rfl := Option.some.inj ht; exact kia_one kitx_dict R.X ⟨_, R.z _ _ g, rfl⟩ e (by intro q; cases q) fin
  | dI _ g _ _ _ => obtain rfl := Option.some.inj ht; exact kia_one kitx_dict R.X ⟨_, R.z _ _ g, rfl⟩ e (by intro q; cases q) fin
  | dP _ g _ _ _ => obtain rfl := Option.some.inj ht; exact kia_one kitx_dict R.X ⟨_, R.z _ _ g, rfl⟩ e (by intro q; cases q) fin
  | inst g g2 _ _ _ =>
    obtain rfl := Option.some.inj ht
    have ok : ownIsi C.K _ = true := ok
    simp only [ownIsi, Bool.and_eq_true, beq_iff_eq] at ok
    obtain ⟨⟨⟨⟨⟨o1, o2⟩, o3⟩, o4⟩, o5⟩, o6⟩ := ok
    exact kia_one (kitx_own o1 o2 o3 o4 o5 o6) R.X ⟨R.z _ _ g, rfl, rfl, R.z _ _ g2⟩ e (by intro q; cases q) fin
  | _ => exact (nomatch ht)
theorem CallV.lenL {v : V} {xs : List V} {Φ : V → Mu → Prop} (hv : SeeL C v xs μ) (hz : xs.length ≤ 16777216) (h : Φ (.int xs.length) μ) : CallV C n (.builtin "len") [v] Φ μ := by
  intro A hA Z ρ vs r s R
  obtain ⟨v', us, rfl, r1, r2⟩ := r.cons_inv
  obtain rfl := r2.nil_inv
  obtain ⟨a, ws, q, rfl, g, rv⟩ := hv R r1
  have e : ws.toArray.size = xs.length := by rw [List.size_toArray, rv.1]
  refine call_len_list (items := ws.toArray) ⟨_, g, rfl, q, rfl⟩ (by rw [e]; omega) ?_
  rw [e]
  exact ⟨⟨Z, μ, ρ⟩, R.tok _, ext.rfl, rfl, _, .int _ _, h⟩
theorem CallV.lenI {v : V} {kvs : List (Int × V)} {Φ : V → Mu → Prop} (hv : SeeI C v kvs μ) (hz : kvs.length ≤ 16777216) (h : Φ (.int kvs.length) μ) : CallV C n (.builtin "len") [v] Φ μ := by
  intro A hA Z ρ vs r s R
  obtain ⟨v', us, rfl, r1, r2⟩ := r.cons_inv
  obtain rfl := r2.nil_inv
  obtain ⟨a, es, q, rfl, ha, g, E⟩ := hv R r1
  have hlen : (realI kvs es).length = kvs.length := by simp [realI, E.1]
  refine call_len_dict (beq_false_of_ne' ha) (dictAt_I (C := C) E g).dictOf (by rw [hlen]; omega) ?_
  rw [hlen]
  exact ⟨⟨Z, μ, ρ⟩, R.tok _, ext.rfl, rfl, _, .int _ _, h⟩
theorem CallV.abs {a : Int} {Φ : V → Mu → Prop} (h : Φ (.int (if a < 0 then -a else a)) μ) : CallV C n (.builtin "abs") [.int a] Φ μ := by
  intro A hA Z ρ vs r s R
  obtain ⟨v', us, rfl, r1, r2⟩ := r.cons_inv
  obtain rfl := r2.nil_inv
  (first | obtain rfl := r1.inv | obtain ⟨_, rfl⟩ := r1.inv | cases r1)
  exact call_abs_int fun u tk => ⟨⟨Z, μ, ρ⟩, R.tok _, ext.rfl, rfl, _, .int _ _, h⟩
theorem CallV.range1 {a : Int} {Φ : V → Mu → Prop} (h : Φ (.rng 0 a) μ) : CallV C n (.type "range") [.int a] Φ μ := by
  intro A hA Z ρ vs r s R
  obtain ⟨v', us, rfl, r1, r2⟩ := r.cons_inv
  obtain rfl := r2.nil_inv
  (first | obtain rfl := r1.inv | obtain ⟨_, rfl⟩ := r1.inv | cases r1)
  exact call_range_1 ⟨⟨_, μ, ρ⟩, R.pushZ _ _, ext_fup R.newZ, rfl, _, .rng (fup_self ..), h⟩
theorem CallV.range2 {a b : Int} {Φ : V → Mu → Prop} (h : Φ (.rng a b) μ) : CallV C n (.type "range") [.int a, .int b] Φ μ := by
  intro A hA Z ρ vs r s R
  obtain ⟨v', us, rfl, r1, r2⟩ := r.cons_inv
  obtain ⟨c1, us, rfl, r3, r4⟩ := r2.cons_inv
  obtain rfl := r4.nil_inv
  (first | obtain rfl := r1.inv | obtain ⟨_, rfl⟩ := r1.inv | cases r1); (first | obtain rfl := r3.inv | obtain ⟨_, rfl⟩ := r3.inv | cases r3)
  exact call_range_2 ⟨⟨_, μ, ρ⟩, R.pushZ _ _, ext_fup R.newZ, rfl, _, .rng (fup_self ..), h⟩
theorem Rel.freshZ {Z : Fz} {ρ : Fz} {s s' : Shared} (R : Rel C Z μ ρ s) {a : Addr} (ha : s.heap.get? a = Option.none) {o : Obj} (ho : s'.heap.get? a = some o) (hk : ∀ b o, s.heap.get? b = some o → s'.heap.get? b = some o) (hg : s'.gens = s.gens := by rfl) (hos : s'.os = s.os := by rfl) :
    Z a = Option.none ∧ μ a = Option.none ∧ Rel C (fup Z a (some o)) μ ρ s' := by
  have hz : Z a = Option.none := by cases e : Z a with | none => rfl | some o' => rw [R.z _ _ e] at ha; cases ha
  have hr : ρ a = Option.none := by cases e : ρ a with | none => rfl | some o' => rw [R.r _ _ e] at ha; cases ha
  have hm : μ a = Option.none := by cases e : μ a with | none => rfl | some o' => obtain ⟨_, e', _⟩ := R.m _ _ e; rw [e'] at ha; cases ha
  exact ⟨hz, hm, (R.grow hk hg hos).addZ ho hz hm hr⟩
theorem Rel.freshM {Z : Fz} {ρ : Fz} {s s' : Shared} (R : Rel C Z μ ρ s) {a : Addr} (ha : s.heap.get? a = Option.none) {o : Obj} {c : Cell} (ho : s'.heap.get? a = some o) (hc : CRel C.w Z c o) (hl : a ≠ sysModules) (hk : ∀ b o, s.heap.get? b = some o → s'.heap.get? b = some o) (hg : s'.gens = s.gens := by rfl) (hos : s'.os = s.os := by rfl) :
    μ a = Option.none ∧ Rel C Z (fup μ a (some c)) ρ s' := by
  obtain ⟨hz, hm, _⟩ := R.freshZ ha ho hk hg hos
  have hr : ρ a = Option.none := by cases e : ρ a with | none => rfl | some o' => rw [R.r _ _ e] at ha; cases ha
  exact ⟨hm, (R.grow hk hg hos).addM ho hc hz hr hl⟩
theorem none_at {h : Heap} {a : Addr} (ha : @LE.le Nat _ h.objs.size a) : h.get? a = Option.none := by
  cases e : h.get? a with
  | none => rfl
  | some o => exact absurd (Heap.lt_size e) (Nat.not_lt.mpr ha)
theorem Rel.big {Z : Fz} {ρ : Fz} {s : Shared} (R : Rel C Z μ ρ s) {a : Addr} (ha : @LE.le Nat _ s.heap.objs.size a) : a ≠ sysModules := by
  have := R.size3; have h2 : @LT.lt Nat _ 2 a := Nat.lt_of_lt_of_le this ha; intro e; subst e; exact absurd h2 (by decide)
theorem CallV.tupleL {v : V} {xs : List V} {Φ : V → Mu → Prop} (hv : SeeL C v xs μ) (hz : xs.length ≤ 16777216) (h : Φ (.tup xs) μ) : CallV C n (.type "tuple") [v] Φ μ := by
  intro A hA Z ρ vs r s R
  obtain ⟨v', us, rfl, r1, r2⟩ := r.cons_inv
  obtain rfl := r2.nil_inv
  obtain ⟨a, ws, q, rfl, g, rv⟩ := hv R r1
  refine call_tuple_list (items := ws.toArray) ⟨_, g, rfl, q, rfl⟩ (fun h' hk => ?_) (by rw [List.size_toArray, ← rv.1, sizeLine_eq]; exact hz)
  have R' : Rel C Z μ ρ { s with heap := h' } := R.grow hk rfl rfl
  exact ⟨⟨_, μ, ρ⟩, R'.pushZ (tupObj ws 0) s.toks, ext_fup R'.newZ, rfl, _, VRel.ofTup (fup_self ..) (rv.mono (ext_fup R'.newZ)), h⟩
theorem CallV.listL {v : V} {xs : List V} {Φ : V → Mu → Prop} (hv : SeeL C v xs μ) (hz : xs.length ≤ 16777216) (h : Φ (.list xs) μ) : CallV C n (.type "list") [v] Φ μ := by
  intro A hA Z ρ vs r s R
  obtain ⟨v', us, rfl, r1, r2⟩ := r.cons_inv
  obtain rfl := r2.nil_inv
  obtain ⟨a, ws, q, rfl, g, rv⟩ := hv R r1
  refine call_list_seq (hsz := by rw [List.size_toArray, ← rv.1, sizeLine_eq]; exact hz) a (.inl rfl) g rfl rfl fun h' c' hk hD => ?_
  obtain ⟨z1, z2, R'⟩ := R.freshZ (s' := { s with heap := h' }) (none_at (Nat.le_refl _)) hD hk
  exact ⟨⟨_, μ, ρ⟩, R', ext_fup z1, rfl, _, VRel.ofList (vs := ws) (n := c') (fup_self ..) (rv.mono (ext_fup z1)), h⟩
theorem itemsOf_rng {w : World} {Z : Fz} {a b : Int} {k : Nat} {acc : Array Value} (hk : (b - a).toNat = k) (h : ItemsOf (fun (i : Nat) v => ∃ t, v = .int (a + (i : Int) * 1) t) acc k) : VRels w Z (rngV a b) acc.toList := by
  refine ⟨by rw [rngV_length, Array.length_toList, h.1, hk], fun i x v h1 h2 => ?_⟩
  obtain ⟨rfl, _⟩ := rngV_at h1
  obtain ⟨t, rfl⟩ := h.2 i v (by rw [← Array.getElem?_toList]; exact h2)
  rw [Int.mul_one]
  exact .int _ t
theorem list_range_core {A : Around} {Z ρ : Fz} {s : Shared} {a b : Int} {r' : Value} {Q : Value → Shared → Prop} (hh : A.handled = Option.none) (ha : -(2 ^ 62) < a) (ha' : a < 2 ^ 62) (hb : -(2 ^ 62) < b) (hb' : b < 2 ^ 62) (hz : b - a ≤ 16777216) (R : Rel C Z μ ρ s) (r : VRel C.w Z (.rng a b) r')
    (h : ∀ h' tk ws q, (∀ b o, s.heap.get? b = some o → h'.get? b = some o) → h'.get? s.heap.objs.size = some (listObj ws q) → (∀ Z', VRels C.w Z' (rngV a b) ws) → Q (.ref s.heap.objs.size) { s with heap := h', toks := tk }) :
    wpAny (model C.prog C.w) A (call (.type "list") [r']) Q NoE s := by
  have hsmall := small_one (Int.le_of_lt ha) ha' (Int.le_of_lt hb) hb'
  obtain ⟨_, _, _, _, rfl, e⟩ := r.inv
  refine call_list_range (n := (b - a).toNat) hh (R.z _ _ e) hsmall (by rw [rangeSize_one]; split <;> omega) (by omega) fun h' tk acc' c' hk hD hacc => ?_
  exact h h' tk acc'.toList c' hk (by simpa [listObj] using hD) fun Z' => itemsOf_rng rfl hacc
theorem CallV.listR {a b : Int} {Φ : V → Mu → Prop} (ha : -(2 ^ 62) < a) (ha' : a < 2 ^ 62) (hb : -(2 ^ 62) < b) (hb' : b < 2 ^ 62) (hz : b - a ≤ 16777216) (h : Φ (.list (rngV a b)) μ) : CallV C n (.type "list") [.rng a b] Φ μ := by
  intro A hA Z ρ vs r s R
  obtain ⟨v', us, rfl, r1, r2⟩ := r.cons_inv
  obtain rfl := r2.nil_inv
  refine list_range_core hA.h ha ha' hb hb' hz R r1 fun h' tk ws q hk hD rv => ?_
  obtain ⟨z1, z2, R'⟩ := R.freshZ (s' := { s with heap := h', toks := tk }) (none_at (Nat.le_refl _)) hD hk
  exact ⟨⟨_, μ, ρ⟩, R', ext_fup z1, rfl, _, VRel.ofList (fup_self ..) (rv _), h⟩
theorem CallV.listRM {a b : Int} {Φ : V → Mu → Prop} (ha : -(2 ^ 62) < a) (ha' : a < 2 ^ 62) (hb : -(2 ^ 62) < b) (hb' : b < 2 ^ 62) (hz : b - a ≤ 16777216) (h : ∀ d, μ d = Option.none → Φ (.ref d) (fup μ d (some (.list (rngV a b))))) : CallV C n (.type "list") [.rng a b] Φ μ := by
  intro A hA Z ρ vs r s R
  obtain ⟨v', us, rfl, r1, r2⟩ := r.cons_inv
  obtain rfl := r2.nil_inv
  refine list_range_core hA.h ha ha' hb hb' hz R r1 fun h' tk ws q hk hD rv => ?_
  obtain ⟨z2, R'⟩ := R.freshM (s' := { s with heap := h', toks := tk }) (c := .list (rngV a b)) (none_at (Nat.le_refl _)) hD (.list (rv _)) (R.big (Nat.le_refl _)) hk
  exact ⟨⟨Z, fup μ s.heap.objs.size (some (.list (rngV a b))), ρ⟩, R', ext.rfl, rfl, .ref _, .ref _, h _ z2⟩
end
end SP
namespace SP
open PySem PySem.W PySem.Calls PyProof.Rows
noncomputable def leS (a b : Str) : Bool := decide (¬ b.cps.toList < a.cps.toList)
theorem leS_trans (a b c : Str) (h1 : leS a b = true) (h2 : leS b c = true) : leS a c = true := by
  simp only [leS, decide_eq_true_eq] at *
  exact List.le_trans (α := Nat) h1 h2
theorem leS_total (a b : Str) : (leS a b || leS b a) = true := by
  simp only [leS, Bool.or_eq_true, decide_eq_true_eq]
  exact List.le_total (α := Nat) a.cps.toList b.cps.toList
theorem leS_antisymm {a b : Str} (h1 : leS a b = true) (h2 : leS b a = true) : a = b := by
  simp only [leS, decide_eq_true_eq] at *
  have := List.le_antisymm (α := Nat) h1 h2
  cases a; cases b
  congr
  exact Array.toList_inj.mp this
noncomputable def sortS (ss : List Str) : List Str := ss.mergeSort leS
theorem sortS_perm (ss : List Str) : (sortS ss).Perm ss := List.mergeSort_perm ..
theorem sortS_sorted (ss : List Str) : (sortS ss).Pairwise (fun a b => leS a b = true) := List.pairwise_mergeSort leS_trans leS_total ss
theorem sorted_eqS {a b : List Str} (hp : a.Perm b) (ha : a.Pairwise (fun a b => leS a b = true)) (hb : b.Pairwise (fun a b => leS a b = true)) : a = b :=
  hp.eq_of_pairwise (fun _ _ _ _ h1 h2 => leS_antisymm h1 h2) ha hb
theorem rising_pairwise : ∀ (l : List Str) (p : Str), risingS p l = true → (p :: l).Pairwise (fun a b => leS a b = true)
  | [], p, _ => by simp
  | x :: r, p, h => by
    simp only [risingS, Bool.and_eq_true, Bool.not_eq_true'] at h
    have h1 : leS p x = true := by unfold leS; rw [ltCps_eq] at h; simpa using h.1
    have ih := rising_pairwise r x h.2
    refine List.Pairwise.cons (fun y hy => ?_) ih
    rcases List.mem_cons.mp hy with rfl | hy
    · exact h1
    · exact leS_trans _ _ _ h1 (List.rel_of_pairwise_cons ih hy)
theorem sortedS_pairwise {l : List Str} (h : sortedS l = true) : l.Pairwise (fun a b => leS a b = true) := by
  cases l with
  | nil => exact .nil
  | cons x r => exact rising_pairwise r x h
noncomputable def leI (a b : Int) : Bool := decide (a ≤ b)
noncomputable def sortI (ns : List Int) : List Int := ns.mergeSort leI
theorem sortI_perm (ns : List Int) : (sortI ns).Perm ns := List.mergeSort_perm ..
theorem sortI_sorted (ns : List Int) : (sortI ns).Pairwise (· ≤ ·) := by
  have := List.pairwise_mergeSort (le := leI) (fun a b c h1 h2 => by simp only [leI, decide_eq_true_eq] at *; omega) (fun a b => by simp only [leI, Bool.or_eq_true, decide_eq_true_eq]; omega) ns
  exact this.imp fun h => by simpa [leI] using h
theorem sorted_eqI {a b : List Int} (hp : a.Perm b) (ha : a.Pairwise (· ≤ ·)) (hb : b.Pairwise (· ≤ ·)) : a = b :=
  hp.eq_of_pairwise (fun _ _ _ _ h1 h2 => Int.le_antisymm h1 h2) ha hb
theorem intsAre_of {w Z} {ks : List Int} {vs : List Value} (r : VRels w Z (ks.map V.int) vs) : IntsAre vs ks := by
  induction ks generalizing vs with
  | nil => obtain rfl := r.nil_inv; exact .nil
  | cons k ks ih => obtain ⟨v, us, rfl, r1, r2⟩ := r.cons_inv; (first | obtain rfl := r1.inv | obtain ⟨_, rfl⟩ := r1.inv | cases r1); exact .cons _ _ (ih r2)
theorem of_intsAre {w Z} {ks : List Int} {vs : List Value} (h : IntsAre vs ks) : VRels w Z (ks.map V.int) vs := by
  induction h with
  | nil => exact .nil
  | cons n t _ ih => exact .cons (.int n t) ih
theorem of_strsAre {w Z} {ks : List Str} {vs : List Value} (h : StrsAre vs ks) : VRels w Z (ks.map V.str) vs := by
  induction h with
  | nil => exact .nil
  | cons n t _ ih => exact .cons (.str n t) ih
section
variable {C : Cx} {n : Nat} {env : Env} {l : Loc} {μ : Mu}
theorem sorted_dict_core {A : Around} {s : Shared} {a : Addr} {κ : Type} [DecidableEq κ] {knd : PySem.KeyKind C.prog C.w κ} {kvs : List (κ × Value)} {ep : Nat} {Q : Value → Shared → Prop} (hh : A.handled = none) (lo : (a == sysModules) = false)
    (hd : s.heap.DictAt knd a kvs ep) (hz : kvs.length < 64)
    (h : ∀ (vs : List Value) (s' : Shared), (∀ b o, s.heap.get? b = some o → s'.heap.get? b = some o) → s'.gens = s.gens → s'.os = s.os → vs.length = kvs.length → (∀ (j : Nat) v, vs[j]? = some v → ∃ k x, kvs[j]? = some (k, x) ∧ knd.is k v = true) → s'.heap.get? s'.heap.objs.size = none →
      wpAny (model C.prog C.w) A.in1.in1 (Builtin.«list.sort» ⟨[.ref s'.heap.objs.size], []⟩) (fun fin s2 => fin = .done (.ret .none) ∧ Q (.ref s'.heap.objs.size) s2) NoE { s' with heap := s'.heap.push (listObj vs 0) }) :
    wpAny (model C.prog C.w) A (call (.builtin "sorted") [.ref a]) Q NoE s := by
  refine call_function_entry kind_sorted plain_sorted entry_sorted (args_sorted1 _) ?_
  unfold Builtin.«sorted»
  refine wpAny_bind (m := checkCount "sorted" 1 1 _) (wpAny_pure ?_)
  refine wpAny_bind (kdu_collect (A := A.in1) (kdl_dict (knd := knd) (kvs := kvs) (ep := ep) lo) hh hd (by rw [sizeLine_eq]; omega) fun h' tk acc hk hacc => ?_)
  have hl : acc.toList.length = kvs.length := by rw [Array.length_toList]; exact hacc.1
  refine wpAny_bind (wpAny_newList ?_ (by rw [hl, sizeLine_eq]; omega))
  have hg := h acc.toList { s with heap := h', toks := tk } hk rfl rfl hl (fun j v e => hacc.2 j v (by rw [← Array.getElem?_toList]; exact e)) (none_at (Nat.le_refl _))
  have hoL : (h'.push (listObj acc.toList 0)).get? h'.objs.size = some (listObj acc.toList 0) := Heap.get?_push_size _ rfl
  refine wpAny_bind (wpAny_holding (wpAny_call_entry slot_list_sort ⟨_, hoL, rfl⟩ entry_list_sort (wpAny_mono hg (fun fin s2 ⟨e, q⟩ => ?_) fun _ _ e => e.elim) (args_list_sort _)))
  subst e
  exact ⟨_, rfl, wpAny_pure ⟨_, rfl, q⟩⟩
theorem sorted_end {Z ρ : Fz} {s s' : Shared} {vs : List Value} {out : Array Value} {xs : List V} (R : Rel C Z μ ρ s) (hk : ∀ b o, s.heap.get? b = some o → s'.heap.get? b = some o) (hg : s'.gens = s.gens) (ho : s'.os = s.os)
    (rv : ∀ Z', VRels C.w Z' xs out.toList) {Φ : V → Mu → Prop} (h : Φ (.list xs) μ) :
    PO C Z (PV C Φ ρ) (.ref s'.heap.objs.size) { s' with heap := sortedHeap (s'.heap.push (listObj vs 0)) s'.heap.objs.size vs out } := by
  have R' : Rel C Z μ ρ s' := R.grow hk hg ho
  have hoL : (s'.heap.push (listObj vs 0)).get? s'.heap.objs.size = some (listObj vs 0) := Heap.get?_push_size _ rfl
  have hkeep : ∀ b o, s'.heap.get? b = some o → (sortedHeap (s'.heap.push (listObj vs 0)) s'.heap.objs.size vs out).get? b = some o := fun b o eb => by
    have hb := Heap.lt_size eb
    exact (sortedHeap_old (Nat.ne_of_lt hb) (by rw [size_push']; exact Nat.lt_succ_of_lt hb)).trans (Heap.get?_push_of_some _ eb)
  have hat : ∃ e, (sortedHeap (s'.heap.push (listObj vs 0)) s'.heap.objs.size vs out).get? s'.heap.objs.size = some (seqObj "list" out e) := sortedHeap_at (n := 0) hoL
  generalize sortedHeap (s'.heap.push (listObj vs 0)) s'.heap.objs.size vs out = H at hkeep hat ⊢
  obtain ⟨e, he⟩ := hat
  have he' : H.get? s'.heap.objs.size = some (listObj out.toList e) := by rw [he]; simp [listObj, seqObj]
  obtain ⟨z1, z2, R2⟩ := R'.freshZ (s' := { s' with heap := H }) (none_at (Nat.le_refl _)) he' hkeep
  exact ⟨⟨_, μ, ρ⟩, R2, ext_fup z1, rfl, _, VRel.ofList (fup_self ..) (rv _), h⟩
theorem strs_of {vs : List Value} {κs : List (Str × Value)} (hl : vs.length = κs.length) (h : ∀ (j : Nat) v, vs[j]? = some v → ∃ k x, κs[j]? = some (k, x) ∧ (PySem.strKind C.prog C.w).is k v = true) : StrsAre vs (κs.map (·.1)) := by
  induction vs generalizing κs with
  | nil => cases κs with | nil => exact .nil | cons => simp at hl
  | cons v vs ih =>
    cases κs with
    | nil => simp at hl
    | cons p κs =>
      obtain ⟨k, x, h1, h2⟩ := h 0 v rfl
      simp at h1; subst h1
      obtain ⟨t, rfl⟩ := Value.isStrOf_shape h2
      exact .cons k t (ih (by simpa using hl) fun j v hv => by simpa using h (j + 1) v (by simpa using hv))
theorem ints_of {vs : List Value} {κs : List (Int × Value)} (hl : vs.length = κs.length) (h : ∀ (j : Nat) v, vs[j]? = some v → ∃ k x, κs[j]? = some (k, x) ∧ (PySem.intKind C.prog C.w).is k v = true) : IntsAre vs (κs.map (·.1)) := by
  induction vs generalizing κs with
  | nil => cases κs with | nil => exact .nil | cons => simp at hl
  | cons v vs ih =>
    cases κs with
    | nil => simp at hl
    | cons p κs =>
      obtain ⟨k, x, h1, h2⟩ := h 0 v rfl
      simp at h1; subst h1
      obtain ⟨t, rfl⟩ := Value.isInt_shape h2
      exact .cons k t (ih (by simpa using hl) fun j v hv => by simpa using h (j + 1) v (by simpa using hv))
theorem CallV.sortedS {v : V} {kvs : List (Str × V)} {Φ : V → Mu → Prop} (hv : SeeS C v kvs μ) (hz : kvs.length < 64) (h : Φ (.list ((sortS (kvs.map (·.1))).map V.str)) μ) : CallV C n (.builtin "sorted") [v] Φ μ := by
  intro A hA Z ρ vs r s R
  obtain ⟨v', us, rfl, r1, r2⟩ := r.cons_inv
  obtain rfl := r2.nil_inv
  obtain ⟨a, es, q, rfl, ha, g, E⟩ := hv R r1
  have hlen : (realS kvs es).length = kvs.length := by simp [realS, E.1]
  refine sorted_dict_core hA.h (beq_false_of_ne' ha) (dictAt_S (C := C) E g) (by rw [hlen]; exact hz) fun vs s' hk hg ho hl hvs hn => ?_
  have hS := strs_of hl hvs
  have hkeys : (realS kvs es).map (·.1) = kvs.map (·.1) := real_keys E.1
  rw [hkeys] at hS
  refine list_sort_treeK (κ := PyProof.Rows.strKind) strKind_oneLt (n := 0) (vs := vs) (Heap.get?_push_size _ rfl) hS.keysOf (fun v₁ v₂ rest e => keyKind_strs (by rw [← e]; exact hS)) (by omega) fun st' hp hs => ⟨rfl, ?_⟩
  obtain ⟨ss', h1, h2, h3⟩ := sorted_out_str hS hp hs
  have e := sorted_eqS (h2.trans (sortS_perm _).symm) (sortedS_pairwise h3) (sortS_sorted (kvs.map (·.1)))
  subst e
  exact sorted_end R hk hg ho (fun Z' => of_strsAre h1) h
theorem CallV.sortedI {v : V} {kvs : List (Int × V)} {Φ : V → Mu → Prop} (hv : SeeI C v kvs μ) (hz : kvs.length < 64) (h : Φ (.list ((sortI (kvs.map (·.1))).map V.int)) μ) : CallV C n (.builtin "sorted") [v] Φ μ := by
  intro A hA Z ρ vs r s R
  obtain ⟨v', us, rfl, r1, r2⟩ := r.cons_inv
  obtain rfl := r2.nil_inv
  obtain ⟨a, es, q, rfl, ha, g, E⟩ := hv R r1
  have hlen : (realI kvs es).length = kvs.length := by simp [realI, E.1]
  refine sorted_dict_core hA.h (beq_false_of_ne' ha) (dictAt_I (C := C) E g) (by rw [hlen]; exact hz) fun vs s' hk hg ho hl hvs hn => ?_
  have hS := ints_of hl hvs
  have hkeys : (realI kvs es).map (·.1) = kvs.map (·.1) := real_keys E.1
  rw [hkeys] at hS
  refine list_sort_tree (n := 0) (vs := vs) (Heap.get?_push_size _ rfl) hS (by omega) fun out ns' h1 h2 h3 => ⟨rfl, ?_⟩
  have e := sorted_eqI (h2.trans (sortI_perm _).symm) h3 (sortI_sorted (kvs.map (·.1)))
  subst e
  exact sorted_end R hk hg ho (fun Z' => of_intsAre h1) h
theorem CallV.sortedL {v : V} {ks : List Int} {Φ : V → Mu → Prop} (hv : SeeL C v (ks.map V.int) μ) (hz : ks.length < 64) (h : Φ (.list ((sortI ks).map V.int)) μ) : CallV C n (.builtin "sorted") [v] Φ μ := by
  intro A hA Z ρ vs r s R
  obtain ⟨v', us, rfl, r1, r2⟩ := r.cons_inv
  obtain rfl := r2.nil_inv
  obtain ⟨a, ws, q, rfl, g, rv⟩ := hv R r1
  have hl : ws.length = ks.length := by rw [← rv.1, List.length_map]
  refine sorted_ints (vs := ws) ⟨_, g, rfl, q, rfl⟩ (intsAre_of rv) (by omega) fun out ns' h1 h2 h3 => ?_
  have e := sorted_eqI (h2.trans (sortI_perm _).symm) h3 (sortI_sorted ks)
  subst e
  obtain ⟨e, he⟩ := sortedAll_at s.heap ws out
  have he' : (sortedAll s.heap ws out).get? (s.heap.objs.size + 1) = some (listObj out.toList e) := by simpa [listObj, seqObj] using he
  obtain ⟨z1, z2, R2⟩ := R.freshZ (s' := { s with heap := sortedAll s.heap ws out }) (none_at (Nat.le_succ _)) he' fun b o eb => sortedAll_old eb
  exact ⟨⟨_, μ, ρ⟩, R2, ext_fup z1, rfl, _, VRel.ofList (fup_self ..) (of_intsAre h1), h⟩
end
end SP
namespace SP
open PySem PySem.W PySem.Calls PyProof.Rows
section
variable {C : Cx} {n : Nat} {env : Env} {l : Loc} {μ : Mu}
theorem GetM.lst {a : Addr} {xs : List V} {name : Str} {id : String} (ha : μ a = some (.list xs)) (slot : Slot "list" name id) (hty : typeOf (.builtin id) = pure (.type "method_descriptor")) : GetM C (.ref a) name (.builtin id) μ := by
  intro A Z ρ a' pl r s R
  (first | obtain rfl := r.inv | obtain ⟨_, rfl⟩ := r.inv | cases r)
  obtain ⟨o, g, c⟩ := R.m _ _ ha
  obtain ⟨_, _, rfl, rv⟩ := c.inv
  exact getMethod_builtin ⟨_, g, rfl⟩ PySem.F.plainAttrs_list slot hty (fun b e => by cases e; exact ⟨_, g, rfl⟩) ⟨⟨Z, μ, ρ⟩, R, ext.rfl, rfl, rfl, rfl⟩
theorem GetM.dct {v : V} {kvs : List (List Int × V)} {name : Str} {id : String} (hv : SeeP C v kvs μ) (slot : Slot "dict" name id) (hty : typeOf (.builtin id) = pure (.type "method_descriptor")) : GetM C v name (.builtin id) μ := by
  intro A Z ρ a' pl r s R
  obtain ⟨a, es, q, rfl, ha, g, E⟩ := hv R r
  exact getMethod_builtin ⟨_, g, rfl⟩ PySem.F.plainAttrs_dict slot hty (fun b e => by cases e; exact ⟨_, g, rfl⟩) ⟨⟨Z, μ, ρ⟩, R, ext.rfl, rfl, rfl, rfl⟩
theorem CallV.append {a : Addr} {xs : List V} {x : V} {Φ : V → Mu → Prop} (ha : μ a = some (.list xs)) (hz : xs.length ≤ 16777216) (h : Φ .none (fup μ a (some (.list (xs ++ [x]))))) : CallV C n (.builtin "list.append") [.ref a, x] Φ μ := by
  intro A hA Z ρ vs r s R
  obtain ⟨v', us, rfl, r1, r2⟩ := r.cons_inv
  obtain ⟨x', us, rfl, r3, r4⟩ := r2.cons_inv
  obtain rfl := r4.nil_inv
  (first | obtain rfl := r1.inv | obtain ⟨_, rfl⟩ := r1.inv | cases r1)
  obtain ⟨o, g, c⟩ := R.m _ _ ha
  obtain ⟨ws, q, rfl, rv⟩ := c.inv
  refine wpAny_list_append_plain (items := ws.toArray) ⟨q, g⟩ (fun h' hp hs => ?_) (by rw [List.size_toArray, ← rv.1, sizeLine_eq]; exact hz)
  obtain ⟨q', hq'⟩ := hp
  exact ⟨⟨Z, fup μ a (some (.list (xs ++ [x]))), ρ⟩, R.setM (s' := { s with heap := h' }) ha hs (o' := listObj (ws ++ [x']) q') (by simpa [listObj] using hq') (.list (rv.append (.one r3))), ext.rfl, rfl, .none, .none, h⟩
theorem list_update {h : Heap} {a : Addr} {vs ws : List Value} {q : Nat} (g : h.get? a = some (listObj vs q)) (f : Array Value → Array Value) (e : f vs.toArray = ws.toArray) : ∃ q', (h.update a (Obj.mapSeq f)).get? a = some (listObj ws q') := by
  have h1 := PySem.IsL.update g f
  rw [e] at h1
  exact ⟨_, h1⟩
theorem CallV.pop {a : Addr} {xs : List V} {x : V} {Φ : V → Mu → Prop} (ha : μ a = some (.list (xs ++ [x]))) (hz : (xs ++ [x]).length ≤ 16777216) (h : Φ x (fup μ a (some (.list xs)))) : CallV C n (.builtin "list.pop") [.ref a] Φ μ := by
  intro A hA Z ρ vs r s R
  obtain ⟨v', us, rfl, r1, r2⟩ := r.cons_inv
  obtain rfl := r2.nil_inv
  (first | obtain rfl := r1.inv | obtain ⟨_, rfl⟩ := r1.inv | cases r1)
  obtain ⟨o, g, c⟩ := R.m _ _ ha
  obtain ⟨ws, q, rfl, rv⟩ := c.inv
  obtain ⟨ws', y, rfl⟩ : ∃ ws' y, ws = ws' ++ [y] := by
    have hne : ws ≠ [] := by rintro rfl; have := rv.1; simp at this
    exact ⟨ws.dropLast, ws.getLast hne, (List.dropLast_concat_getLast hne).symm⟩
  have hl : xs.length = ws'.length := by have := rv.1; simpa using this
  have rx : VRel C.w Z x y := rv.2 xs.length x y (by simp) (by simp [hl])
  have rxs : VRels C.w Z xs ws' := ⟨hl, fun i z u h1 h2 => rv.2 i z u (by rw [List.getElem?_append_left (List.getElem?_eq_some_iff.mp h1).1]; exact h1) (by rw [List.getElem?_append_left (List.getElem?_eq_some_iff.mp h2).1]; exact h2)⟩
  refine call_meets PySem.F.slot_list_pop ⟨_, g, rfl⟩ PySem.F.entry_list_pop (PySem.F.args_list_pop_1 _) (PySem.MeetsSeq.list_pop_last a (ws' ++ [y]).toArray q y (by simp) (by rw [List.size_toArray, ← rv.1, sizeLine_eq]; exact hz)) ⟨g, ?_⟩
  obtain ⟨q', hq'⟩ := list_update g (fun xs => xs.eraseIdxIfInBounds ((ws' ++ [y]).toArray.size - 1)) (ws := ws') (by
    have h1 : (ws' ++ [y]).toArray.size - 1 = ws'.length := by simp
    rw [h1]
    apply Array.toList_inj.mp
    unfold Array.eraseIdxIfInBounds
    simp
    rw [List.eraseIdx_append_of_length_le (Nat.le_refl _)]
    simp)
  exact ⟨⟨Z, fup μ a (some (.list xs)), ρ⟩, R.setM (s' := { s with heap := s.heap.update a _ }) ha (Heap.SameBut.update ..) hq' (.list rxs), ext.rfl, rfl, x, rx, h⟩
theorem CallV.popAt {a : Addr} {xs : List V} {i : Int} {x : V} {Φ : V → Mu → Prop} (ha : μ a = some (.list xs)) (h0 : 0 ≤ i) (hx : xs[i.toNat]? = some x) (hz : xs.length ≤ 16777216) (h : Φ x (fup μ a (some (.list (xs.eraseIdx i.toNat))))) : CallV C n (.builtin "list.pop") [.ref a, .int i] Φ μ := by
  intro A hA Z ρ vs r s R
  obtain ⟨v', us, rfl, r1, r2⟩ := r.cons_inv
  obtain ⟨i', us, rfl, r3, r4⟩ := r2.cons_inv
  obtain rfl := r4.nil_inv
  (first | obtain rfl := r1.inv | obtain ⟨_, rfl⟩ := r1.inv | cases r1); (first | obtain rfl := r3.inv | obtain ⟨_, rfl⟩ := r3.inv | cases r3)
  obtain ⟨o, g, c⟩ := R.m _ _ ha
  obtain ⟨ws, q, rfl, rv⟩ := c.inv
  obtain ⟨y, hy, ry⟩ := rv.at hx
  have hlt : i.toNat < ws.length := (List.getElem?_eq_some_iff.mp hy).1
  have hlen := rv.1
  refine call_meets PySem.F.slot_list_pop ⟨_, g, rfl⟩ PySem.F.entry_list_pop (PySem.F.args_list_pop_2 _ _) (PySem.MeetsSeq.list_pop_at a ws.toArray q i _ i.toNat y (fitsIndex_of h0 (by omega)) (by
    have h2 : i < (ws.length : Int) := by omega
    have h1 : ¬ i < 0 := by omega
    simp [seqIndex?, h1, h0, h2]) (by simpa using hy) (by rw [List.size_toArray, ← rv.1, sizeLine_eq]; exact hz)) ⟨g, ?_⟩
  obtain ⟨q', hq'⟩ := list_update g (fun xs => xs.eraseIdxIfInBounds i.toNat) (ws := ws.eraseIdx i.toNat) (by
    apply Array.toList_inj.mp
    unfold Array.eraseIdxIfInBounds
    simp [hlt])
  refine ⟨⟨Z, fup μ a (some (.list (xs.eraseIdx i.toNat))), ρ⟩, R.setM (s' := { s with heap := s.heap.update a _ }) ha (Heap.SameBut.update ..) hq' (.list ⟨?_, fun j z u h1 h2 => ?_⟩), ext.rfl, rfl, x, ry, h⟩
  · rw [List.length_eraseIdx, List.length_eraseIdx, hlen]
  · rw [List.getElem?_eraseIdx] at h1 h2
    split at h1 <;> rename_i hj
    · rw [if_pos hj] at h2; exact rv.2 _ z u h1 h2
    · rw [if_neg hj] at h2; exact rv.2 _ z u h1 h2
theorem CallV.extendL {a : Addr} {xs ys : List V} {Φ : V → Mu → Prop} (ha : μ a = some (.list xs)) (hz : xs.length + ys.length ≤ 16777216) (h : Φ .none (fup μ a (some (.list (xs ++ ys))))) : CallV C n (.builtin "list.extend") [.ref a, .list ys] Φ μ := by
  intro A hA Z ρ vs r s R
  obtain ⟨v', us, rfl, r1, r2⟩ := r.cons_inv
  obtain ⟨y', us, rfl, r3, r4⟩ := r2.cons_inv
  obtain rfl := r4.nil_inv
  (first | obtain rfl := r1.inv | obtain ⟨_, rfl⟩ := r1.inv | cases r1)
  obtain ⟨b, us, q2, rfl, g2, rv2⟩ := SeeL.z R r3
  obtain ⟨o, g, c⟩ := R.m _ _ ha
  obtain ⟨ws, q, rfl, rv⟩ := c.inv
  have hsz : ws.toArray.size + us.toArray.size ≤ sizeLine := by rw [List.size_toArray, List.size_toArray, ← rv.1, ← rv2.1, sizeLine_eq]; exact hz
  refine call_meets PySem.F.slot_list_extend ⟨_, g, rfl⟩ PySem.F.entry_list_extend (PySem.F.args_list_extend_2 _ _) (AutoSeq1.list_extend_list_list_0 a ws.toArray q b us.toArray q2 (extend_door hsz) (Nat.le_trans (Nat.le_add_right _ _) hsz) (Nat.le_succ_of_le hsz)) ⟨g, g2, ?_⟩
  obtain ⟨q', hq'⟩ := list_update g (fun x => x ++ us.toArray) (ws := ws ++ us) (by simp)
  exact ⟨⟨Z, fup μ a (some (.list (xs ++ ys))), ρ⟩, R.setM (s' := { s with heap := s.heap.update a _, toks := s.toks }) ha (Heap.SameBut.update ..) hq' (.list (rv.append rv2)), ext.rfl, rfl, .none, .none, h⟩
theorem CallV.dictGet {v : V} {kvs : List (List Int × V)} {k : List Int} {Φ : V → Mu → Prop} (hv : SeeP C v kvs μ) (h : Φ ((lk kvs k).getD .none) μ) : CallV C n (.builtin "dict.get") [v, intsT k] Φ μ := by
  intro A hA Z ρ vs r s R
  obtain ⟨v', us, rfl, r1, r2⟩ := r.cons_inv
  obtain ⟨k', us, rfl, r3, r4⟩ := r2.cons_inv
  obtain rfl := r4.nil_inv
  obtain ⟨a, es, q, rfl, ha, g, E⟩ := hv R r1
  obtain ⟨b, ks, q2, rfl, e2, h2⟩ := intsT_rel r3
  obtain ⟨xs, i1, i2, i3, i4, i5, _⟩ := real_P R (EntP.iff.mp E).1
  have D := dictOfH_of g E i1 (fun x hx => (i2 x hx).1) i3
  refine call_meetsIn PySem.F.slot_dict_get D.typeIs PySem.F.entry_dict_get (PySem.F.args_dict_get_2 _ _) (meetsH_dict_get (pk C) a b (beq_false_of_ne' ha)) ⟨hA.room2, k, xs, key_is R e2 h2, D, ?_⟩
  refine ⟨⟨Z, μ, ρ⟩, R.tok _, ext.rfl, rfl, _, ?_, h⟩
  cases hk : lk kvs k with
  | none =>
    have := i5 k
    rw [hk] at this
    have h3 : atKey xs k = none := by cases e : atKey xs k with | none => rfl | some p => rw [e] at this; cases this
    rw [h3]; exact .none
  | some y => obtain ⟨p, hp, rp⟩ := i4 k y hk; rw [hp]; exact rp
end
end SP
namespace SP
open PySem PySem.W PySem.Calls PyProof.Rows
section
variable {C : Cx} {n : Nat} {env : Env} {l : Loc} {μ : Mu}
theorem We.meth1raw {o e : Expr} {x : Str} {ap pos : Pos} {Φ : V → Mu → Prop}
    (h : We C n env o (fun ov μ1 => ∃ f, GetM C ov x f μ1 ∧ Callee C f ∧ ∀ A, AOk n A → ∀ Z ρ ov' s, Frm C env l Z ρ → Rel C Z μ1 ρ s → VRel C.w Z ov ov' →
      wpAny (model C.prog C.w) A (eval e env) (fun a' s' => C.K.In s'.heap ∧ wpAny (model C.prog C.w) A (PySem.call f [ov', a']) (PO C Z (PV C Φ ρ)) NoE s') NoE s) l μ)
    (hbase : attributeBase o x env (eval o env) = eval o env := by rfl) (hline : (ap.endLine == pos.line) = true := by rfl) (hp : plainArgs [e] = true := by rfl) :
    We C n env (.Call (.Attribute o x ap) [e] [] pos) Φ l μ := by
  intro A hA Z ρ F s R
  have hfew' : methodCallForm ([e].length + ([] : List Keyword).length) (backTo pos (starEach [e] env)) [] = true := by
    unfold methodCallForm
    rw [starEach_all hp]
    simp
  have ee : eval (.Call (.Attribute o x ap) [e] [] pos) env = (do
      let ov ← attributeBase o x env (eval o env)
      standAt ap.atName
      methodCall o x ap pos env ov ([e].length + ([] : List Keyword).length) (backTo pos (starEach [e] env)) (backToKw pos (keywordEach [] env))) := rfl
  rw [ee, hbase]
  refine wpAny_bind (We.use h hA F R fun ov' s1 Z1 ov μ1 R1 x1 F1 r ⟨f, hm, hc, hw⟩ => wpAny_bind (wpAny_standAt ?_))
  unfold methodCall
  show wpAny _ _ (do
    let (f, first) ← holding [ov'] (calleeOf (methodCallForm ([e].length + ([] : List Keyword).length) (backTo pos (starEach [e] env)) []) o env ov' x)
    let callPos ← methodCallPos (methodCallForm ([e].length + ([] : List Keyword).length) (backTo pos (starEach [e] env)) []) o env ap pos
    callWith callPos f first (backTo pos (starEach [e] env)) []) _ _ _
  rw [hfew']
  refine wpAny_bind (wpAny_holding ?_)
  unfold calleeOf
  rw [if_pos rfl]
  refine (hm A Z1 ρ ov' _ r).use R1 fun fr s2 σ2 R2 x2 ⟨e1, e2, e3⟩ => ?_
  subst e1
  obtain ⟨Z2, μ2, ρ2⟩ := σ2; dsimp only at *; subst e2 e3
  unfold methodCallPos
  rw [if_pos (by rw [hline]; rfl)]
  refine wpAny_bind (wpAny_pure ?_)
  refine callWith_of (P := fun h => C.K.In h) (by rw [starEach_any hp]; rfl) (fun h X => hc h X) ?_
  rw [starEach_plain hp]
  refine Calls.evalArgs_plain ?_
  have := wpAny_items_cons (pos := pos) (Q := fun vs s' => C.K.In s'.heap ∧ wpAny (model C.prog C.w) A (PySem.call f ([ov'] ++ vs)) (PO C Z (PV C Φ _)) NoE s') (E := NoE)
    (wpAny_mono (hw A hA Z2 _ ov' s2 (F1.mono x2) R2 (r.mono x2)) (fun a' s' ⟨X', q⟩ => wpAny_items_nil ⟨X', wpAny_mono q (fun v' s3 ⟨σ', R', x', e', v, rv, q⟩ => ⟨σ', R', (x1.trans x2).trans x', e', v, rv, q⟩) fun _ _ e => e.elim⟩) fun _ _ e => e.elim) (starEach_plain hp)
  rw [starEach_plain hp] at this
  exact this
theorem callName_raw {A : Around} (hA : AOk n A) {Z ρ : Fz} {s : Shared} {x : Str} {p pos : Pos} {es : List Expr} {f : Value} {Ψ : List V → Mu → Prop} {Q : Value → Shared → Prop} (hk : env.kindOf x = some .globalImplicit) (hg : globIn C.K x = some f) (hc : Callee C f)
    (F : Frm C env l Z ρ) (R : Rel C Z μ ρ s) (h : Wes C n env Ψ l es μ) (hp : plainArgs es = true) (hne : es ≠ []) (hd : (x == ("__debug__" : Str)) = false)
    (k : ∀ vs' s' Z' vs μ', Rel C Z' μ' ρ s' → ext Z Z' → VRels C.w Z' vs vs' → Ψ vs μ' → wpAny (model C.prog C.w) A (call f vs') Q NoE s') : wpAny (model C.prog C.w) A (eval (.Call (.Name x p) es [] pos) env) Q NoE s := by
  refine wpAny_Call_NameR ((glob_load (μ := μ) (A := A) (Φ := fun v σ' => v = f ∧ σ' = ⟨Z, μ, ρ⟩) F hk hg ⟨rfl, rfl⟩ hd).use R fun v s1 σ1 R1 x1 ⟨e1, e2⟩ => ?_)
  subst e1 e2
  refine callWith_of (P := fun h => C.K.In h) (by rw [starEach_any hp]; rfl) (fun h X => hc h X) ?_
  cases es with
  | nil => exact absurd rfl hne
  | cons e r =>
    rw [starEach_plain hp]
    refine Calls.evalArgs_plain ?_
    have := Wes.use hA (pos := pos) (e :: r) hp h F R1 (Q := fun vs s' => C.K.In s'.heap ∧ wpAny (model C.prog C.w) A (call v ([] ++ vs)) Q NoE s') (E := NoE)
      fun vs' s1 Z1 vs μ1 R1 x1 F1 rv q => ⟨R1.X, k vs' s1 Z1 vs μ1 R1 x1 rv q⟩
    rw [starEach_plain hp] at this
    exact this
noncomputable def Apart (Z ρ : Fz) (μ : Mu) (wr : List Addr) : Prop := ∀ a ∈ wr, Z a = none ∧ ρ a = none ∧ μ a = none
theorem Rel.moved {Z ρ : Fz} {s s' : Shared} {wr : List Addr} (R : Rel C Z μ ρ s) (hw : Apart Z ρ μ wr) (hk : ∀ b o, b ∉ wr → s.heap.get? b = some o → s'.heap.get? b = some o) (hg : s'.gens = s.gens := by rfl) (hos : s'.os = s.os := by rfl) : Rel C Z μ ρ s' :=
  R.heap (fun a o e => hk a o (fun hm => by have := (hw a hm).1; rw [e] at this; cases this) (R.z a o e)) (fun a o e => hk a o (fun hm => by have := (hw a hm).2.1; rw [e] at this; cases this) (R.r a o e))
    (fun a c o e eo => hk a o (fun hm => by have := (hw a hm).2.2; rw [e] at this; cases this) eo) hg hos
theorem ext_loop {Z ρ : Fz} {S I : Addr} {res : Value} {xs ys : List V} {It : Nat → Heap → Prop} {wr : List Addr} {A : Around} {R : Result → Shared → Prop}
    (frame : ∀ k h h', It k h → (∀ b o, b ≠ S → h.get? b = some o → h'.get? b = some o) → It k h') (hz : xs.length + ys.length ≤ 16777216)
    (item : ∀ k y Z' μ' (s : Shared), ext Z Z' → Rel C Z' μ' ρ s → Apart Z' ρ μ' wr → It k s.heap → ys[k]? = some y →
      wpAny (model C.prog C.w) A.in1 (pyNext (.ref I)) (fun r s' => ∃ v Z'', r = some v ∧ ext Z' Z'' ∧ Rel C Z'' μ' ρ s' ∧ Apart Z'' ρ μ' wr ∧ VRel C.w Z'' y v ∧ It (k + 1) s'.heap) NoE s)
    (fin : ∀ Z' μ' (s : Shared), ext Z Z' → Rel C Z' μ' ρ s → Apart Z' ρ μ' wr → It ys.length s.heap →
      wpAny (model C.prog C.w) A.in1 (pyNext (.ref I)) (fun r s' => r = none ∧ Rel C Z' μ' ρ s') NoE s) (hSw : S ∉ wr)
    (hR : ∀ Z' s', ext Z Z' → Rel C Z' (fup μ S (some (.list (xs ++ ys)))) ρ s' → R (.ok (.ret res)) s') :
    ∀ (j k : Nat) (Z' : Fz) (s : Shared), ys.length - k = j → k ≤ ys.length → ext Z Z' → Rel C Z' (fup μ S (some (.list (xs ++ ys.take k)))) ρ s → Apart Z' ρ (fup μ S (some (.list (xs ++ ys.take k)))) wr → It k s.heap →
      codeAny (model C.prog C.w) A (.builtin "list.extend.loop" ⟨[.ref S, .ref I, res], []⟩) (fun r s' => match r with | .error e => NoE e s' | r => R r s') s := by
  intro j
  induction j with
  | zero =>
    intro k Z' s hj hk x R' ap it
    have : k = ys.length := by omega
    subst this
    refine codeAny_builtin PySem.F.entry_extend_loop ?_
    rw [Around.under_plainId PySem.F.plain_extend_loop _]
    show wpAny _ A.in1 (pyNext (.ref I) >>= _) _ _ s
    refine wpAny_bind (wpAny_mono (fin Z' _ s x R' ap it) (fun r s' ⟨e, R2⟩ => ?_) fun _ _ e => e.elim)
    subst e
    rw [List.take_length] at R2
    exact wpAny_pure (hR Z' s' x R2)
  | succ j ih =>
    intro k Z' s hj hk x R' ap it
    have hlt : k < ys.length := by omega
    have hy : ys[k]? = some ys[k] := by simp [hlt]
    refine codeAny_builtin PySem.F.entry_extend_loop ?_
    rw [Around.under_plainId PySem.F.plain_extend_loop _]
    show wpAny _ A.in1 (pyNext (.ref I) >>= _) _ _ s
    refine wpAny_bind (wpAny_mono (item k _ Z' _ s x R' ap it hy) (fun r s' ⟨v, Z'', e, x2, R2, ap2, rv, it2⟩ => ?_) fun _ _ e => e.elim)
    subst e
    show wpAny _ A.in1 (updateSeq S (·.push v) >>= _) _ _ _
    have hS : fup μ S (some (.list (xs ++ ys.take k))) S = some (.list (xs ++ ys.take k)) := fup_self ..
    obtain ⟨o, g, c⟩ := R2.m _ _ hS
    obtain ⟨ws, q, rfl, rws⟩ := c.inv
    have hlen : ws.length ≤ 16777216 := by have h1 := rws.1; rw [List.length_append] at h1; have h2 := List.length_take_le k ys; omega
    obtain ⟨q', hq'⟩ := list_update g (fun x => x.push v) (ws := ws ++ [v]) (by simp)
    have hwl : ws.toArray.size ≤ sizeLine := by rw [List.size_toArray, sizeLine_eq]; exact hlen
    refine wpAny_bind (wpAny_updateSeq g rfl ?_ hwl (by rw [Array.size_push]; omega))
    have et : ys.take (k + 1) = ys.take k ++ [ys[k]] := by rw [List.take_add_one]; simp [hlt]
    have R3 := R2.setM (s' := { s' with heap := s'.heap.update S (Obj.mapSeq fun x => x.push v) }) hS (Heap.SameBut.update ..) hq' (.list (rws.append (.one rv)))
    have emu : fup (fup μ S (some (.list (xs ++ ys.take k)))) S (some (.list (xs ++ ys.take k ++ [ys[k]]))) = fup μ S (some (.list (xs ++ ys.take (k + 1)))) := by
      funext b
      by_cases hb : b = S
      · subst hb; rw [fup_self, fup_self, et, List.append_assoc]
      · rw [fup_ne _ _ hb, fup_ne _ _ hb, fup_ne _ _ hb]
    rw [emu] at R3
    refine wpAny_pure ⟨plainId_quiet PySem.F.plain_extend_loop _, ih (k + 1) Z'' _ (by omega) hlt (x.trans x2) R3 (fun a ha => ?_) (frame _ _ _ it2 fun b o hb e => (Heap.get?_update_other _ _ (Ne.symm hb)).trans e)⟩
    have hne : a ≠ S := fun e => hSw (e ▸ ha)
    obtain ⟨a1, a2, a3⟩ := ap2 a ha
    rw [fup_ne _ _ hne] at a3 ⊢
    exact ⟨a1, a2, a3⟩
theorem ext_call {Z ρ : Fz} {S I : Addr} {T : String} {xs ys : List V} {It : Nat → Heap → Prop} {wr : List Addr} {A : Around} {s : Shared} {Q : Value → Shared → Prop}
    (hS : μ S = some (.list xs)) (R0 : Rel C Z μ ρ s) (ap : Apart Z ρ μ wr) (it0 : It 0 s.heap) (hIS : S ≠ I)
    (hT : s.TypeIs (.ref I) T) (hT1 : (Value.type T == Value.type "list") = false) (hT2 : (Value.type T == Value.type "tuple") = false)
    (self : ∀ {A : Around} (s : Shared) (Q : Value → Shared → Prop), It 0 s.heap → Q (.ref I) s → wpAny (model C.prog C.w) A (pyIter (.ref I)) Q NoE s)
    (hint : ∀ {A : Around} (s : Shared) (Q : Bool → Shared → Prop), It 0 s.heap → (∀ b, Q b s) → wpAny (model C.prog C.w) A (Builtin.List.listLengthHint (.ref I)) Q NoE s)
    (frame : ∀ k h h', It k h → (∀ b o, b ≠ S → h.get? b = some o → h'.get? b = some o) → It k h') (hz : xs.length + ys.length < 16777216)
    (item : ∀ k y Z' μ' (s : Shared), ext Z Z' → Rel C Z' μ' ρ s → Apart Z' ρ μ' wr → It k s.heap → ys[k]? = some y →
      wpAny (model C.prog C.w) A.in1 (pyNext (.ref I)) (fun r s' => ∃ v Z'', r = some v ∧ ext Z' Z'' ∧ Rel C Z'' μ' ρ s' ∧ Apart Z'' ρ μ' wr ∧ VRel C.w Z'' y v ∧ It (k + 1) s'.heap) NoE s)
    (fin : ∀ Z' μ' (s : Shared), ext Z Z' → Rel C Z' μ' ρ s → Apart Z' ρ μ' wr → It ys.length s.heap →
      wpAny (model C.prog C.w) A.in1 (pyNext (.ref I)) (fun r s' => r = none ∧ Rel C Z' μ' ρ s') NoE s) (hSw : S ∉ wr)
    (hR : ∀ Z' s', ext Z Z' → Rel C Z' (fup μ S (some (.list (xs ++ ys)))) ρ s' → Q .none s') : wpAny (model C.prog C.w) A (call (.builtin "list.extend") [.ref S, .ref I]) Q NoE s := by
  obtain ⟨o, g, c⟩ := R0.m _ _ hS
  obtain ⟨ws, q, rfl, rws⟩ := c.inv
  have hlen : ws.length + ys.length < 16777216 := by have := rws.1; omega
  have e0 : fup μ S (some (.list (xs ++ ys.take 0))) = μ := by funext b; unfold fup; by_cases hb : b = S <;> simp [hb, hS]
  have loop := ext_loop (A := A) (μ := μ) (R := fun r s' => match r with | .ok (.ret v) => Q v s' | .ok _ => False | .error e => NoE e s') (res := .none) frame (Nat.le_of_lt hz) item fin hSw (fun Z' s' x R' => hR Z' s' x R')
  have key : ∀ (h : Heap) (q' : Nat), (∀ b o, b ≠ S → s.heap.get? b = some o → h.get? b = some o) → h.get? S = some (listObj ws q') →
      codeAny (model C.prog C.w) A (.builtin "list.extend.loop" ⟨[.ref S, .ref I, .none], []⟩) (fun r s' => match r with | .ok (.ret v) => Q v s' | .ok _ => False | .error e => NoE e s') { s with heap := h } := by
    intro h q' hk hg
    have R1 : Rel C Z μ ρ { s with heap := h } := by
      have hz' : ∀ a o, Z a = some o → a ≠ S := fun a o e => by rintro rfl; have := R0.zm _ _ e; rw [hS] at this; cases this
      have hr' : ∀ a o, ρ a = some o → a ≠ S := fun a o e => by rintro rfl; have := R0.rm _ _ e; rw [hS] at this; cases this
      refine ⟨R0.base, fun a o e => hk a o (hz' a o e) (R0.z a o e), fun a o e => hk a o (hr' a o e) (R0.r a o e), fun a c e => ?_, R0.zr, R0.zm, R0.rm, R0.gens, R0.os, R0.lo⟩
      by_cases ha : a = S
      · subst ha; rw [hS] at e; cases e; exact ⟨_, hg, .list rws⟩
      · obtain ⟨o1, h1, h2⟩ := R0.m a c e; exact ⟨o1, hk a o1 ha h1, h2⟩
    refine codeAny_mono (loop ys.length 0 Z { s with heap := h } (by omega) (Nat.zero_le _) ext.rfl (by rw [e0]; exact R1) (by rw [e0]; exact ap) (frame _ _ _ it0 hk)) fun r s' hr => ?_
    cases r with
    | error e => exact hr
    | ok f => exact hr
  refine wpAny_call (codeAny_call_builtin PySem.F.slot_list_extend.plain PySem.F.entry_list_extend (PySem.F.slot_list_extend.check _ _ _ _ _ _ _ _ ⟨_, g, rfl⟩ (PySem.F.args_list_extend_2 _ _) ?_))
  show wpAny _ A.in1 (Builtin.List.listExtendWith (.ref S) (.ref I) .none) _ _ s
  unfold Builtin.List.listExtendWith
  refine wpAny_bind (wpAny_typeOf hT ?_)
  have h1 : Builtin.List.listSameRef (.ref S) (.ref I) = false := by simp [Builtin.List.listSameRef, hIS]
  simp only [h1, hT1, hT2, Bool.or_false, Bool.false_eq_true, if_false]
  refine wpAny_bind (self s _ it0 ?_)
  refine wpAny_bind (wpAny_holding (hint s _ it0 fun b => ?_))
  have direct := key s.heap q (fun _ _ _ e => e) g
  refine wpAny_ite_split (fun _ => ?_) (fun _ => wpAny_pure ⟨plainId_quiet PySem.F.plain_extend_loop _, direct⟩)
  refine wpAny_bind (wpAny_rule ?_)
  refine wpAny_bind ?_
  show wpAny _ _ (updateSeq S (·.push .none) >>= fun _ => updateSeq S (·.pop)) _ _ _
  refine wpAny_bind (wpAny_updateSeq g rfl ?_ (by rw [List.size_toArray, sizeLine_eq]; omega) (by rw [Array.size_push, List.size_toArray, sizeLine_eq]; omega))
  obtain ⟨q1, g1⟩ := list_update g (fun x => x.push Value.none) (ws := ws ++ [Value.none]) (by simp)
  refine wpAny_updateSeq g1 rfl ?_ (by rw [List.size_toArray, List.length_append, sizeLine_eq]; have : [Value.none].length = 1 := rfl; omega) (by rw [Array.size_pop, List.size_toArray, List.length_append, sizeLine_eq]; have : [Value.none].length = 1 := rfl; omega)
  obtain ⟨q2, g2⟩ := list_update g1 (fun x => x.pop) (ws := ws) (by simp)
  exact wpAny_pure ⟨plainId_quiet PySem.F.plain_extend_loop _, key _ q2 (fun b o hb e => (Heap.get?_update_other _ _ (Ne.symm hb)).trans ((Heap.get?_update_other _ _ (Ne.symm hb)).trans e)) g2⟩
end
end SP
namespace SP
open PySem PySem.W PySem.Calls PyProof.Rows
theorem wpAny_alive {M : Model} {A : Around} {E : Value → Shared → Prop} {s : Shared} {a : Addr} {Q : Option Obj → Shared → Prop} (h : Q (s.heap.get? a) s) : wpAny M A (loadIfAlive a) Q E s := fun _ _ _ => h
noncomputable abbrev zipObj (f0 f1 : Value) (TI TO : Addr) : Obj := { cls := .type "zip", dict := none, data := .fields #[f0, f1, .bool false, .ref TI, .ref TO], slots := #[] }
section
variable {prog : Program} {w : World} {A : Around} {E : Value → Shared → Prop} {s : Shared}
theorem zip_taken {z TI TO T : Addr} {f1 : Value} {Q : Bool → Shared → Prop} (hz : s.heap.get? z = some (zipObj (rawInt T) f1 TI TO)) (hT : (s.heap.get? T).isSome = true)
    (h : ∀ h' : Heap, h'.get? z = some (zipObj (rawInt T) (.bool true) TI TO) → Heap.SameBut z s.heap h' → Q false { s with heap := h' }) (hf : f1 = .bool true ∨ f1 = .bool false) : wpAny (model prog w) A (Builtin.SmallTypes.ownedTupleIsFree (.ref z)) Q E s := by
  unfold Builtin.SmallTypes.ownedTupleIsFree
  refine wpAny_bind (wpAny_field hz rfl (x := rawInt T) rfl ?_)
  show wpAny _ _ (loadIfAlive ((T : Int)).toNat >>= _) _ _ _
  refine wpAny_bind (wpAny_alive ?_)
  obtain ⟨oT, hoT⟩ := Option.isSome_iff_exists.mp hT
  rw [show ((T : Int)).toNat = T from rfl, hoT]
  show wpAny _ _ (field (.ref z) 1 >>= _) _ _ _
  refine wpAny_bind (wpAny_field hz rfl (x := f1) rfl ?_)
  rcases hf with rfl | rfl
  · exact wpAny_pure (h _ hz ⟨rfl, fun _ _ => rfl⟩)
  · show wpAny _ _ (setField (.ref z) 1 (.bool true) >>= _) _ _ _
    refine wpAny_bind (wpAny_setField_rec hz (by simp) fun h₁ hz₁ hs₁ => ?_)
    exact wpAny_pure (h h₁ hz₁ hs₁)
theorem zip_more {z TI TO i1 i2 l1 l2 T : Addr} {k1 k2 : Nat} {xs ys : Array Value} {x y f1 : Value} {Q : Value → Shared → Prop} (D : ZipApart z TI TO i1 i2 l1 l2)
    (hz : s.heap.get? z = some (zipObj (rawInt T) f1 TI TO)) (hf : f1 = .bool true ∨ f1 = .bool false) (hT : (s.heap.get? T).isSome = true) (hTI : IsPair s.heap TI (.ref i1) (.ref i2))
    (h1 : s.heap.IsListIter i1 l1 k1) (h2 : s.heap.IsListIter i2 l2 k2) (hl1 : s.heap.IsList l1 xs) (hl2 : s.heap.IsList l2 ys) (hx : xs[k1]? = some x) (hy : ys[k2]? = some y)
    (hQ : ∀ h' : Heap, h'.get? z = some (zipObj (rawInt T) (.bool true) TI TO) → h'.IsListIter i1 l1 (k1 + 1) → h'.IsListIter i2 l2 (k2 + 1) → h'.objs.size = s.heap.objs.size →
      (∀ c o, c ≠ z → c ≠ i1 → c ≠ i2 → s.heap.get? c = some o → h'.get? c = some o) → Q (.ref s.heap.objs.size) { s with heap := h'.push (tupObj [x, y] 0) }) :
    wpAny (model prog w) A (Builtin.«zip.__next__» ⟨[.ref z], []⟩) (fun fin s' => ∃ v, fin = .done (.ret v) ∧ Q v s') E s := by
  show wpAny _ _ (field (.ref z) 2 >>= _) _ _ _
  refine wpAny_bind (wpAny_field hz rfl (x := .bool false) rfl ?_)
  show wpAny _ _ (field (.ref z) 3 >>= _) _ _ _
  refine wpAny_bind (wpAny_field hz rfl (x := .ref TI) rfl ?_)
  refine wpAny_bind (wpAny_seqItems hTI rfl ?_)
  show wpAny _ _ (Builtin.SmallTypes.ownedTupleIsFree (.ref z) >>= _) _ _ _
  refine wpAny_bind (zip_taken hz hT (fun h₁ hz₁ hs₁ => ?_) hf)
  simp only [Bool.false_eq_true, if_false]
  rw [← Array.forIn_toList]
  simp only [List.forIn_cons, List.forIn_nil]
  refine wpAny_bind (wpAny_bind (wpAny_bind (wpAny_holding ?_)))
  show wpAny _ _ (Builtin.SmallTypes.nextOf (.ref i1) >>= _) _ _ _
  refine wpAny_bind (wpAny_nextOf_list_item (h1.extBut hs₁.extBut D.i1z) (hl1.extBut hs₁.extBut D.l1z) hx fun h₂ h1₂ hs₂ => wpAny_pure ?_)
  refine wpAny_pure (wpAny_bind (wpAny_bind (wpAny_holding ?_)))
  show wpAny _ _ (Builtin.SmallTypes.nextOf (.ref i2) >>= _) _ _ _
  refine wpAny_bind (wpAny_nextOf_list_item ((h2.extBut hs₁.extBut D.i2z).extBut hs₂.extBut D.i12.symm) ((hl2.extBut hs₁.extBut D.l2z).extBut hs₂.extBut D.l2i1) hy fun h₄ h2₄ hs₄ => wpAny_pure ?_)
  refine wpAny_pure (wpAny_pure ?_)
  dsimp only
  refine wpAny_bind (wpAny_newTuple ?_ (by rw [sizeLine_eq]; show (2 : Nat) ≤ 16777216; omega))
  have hsz : h₄.objs.size = s.heap.objs.size := by rw [hs₄.1, hs₂.1, hs₁.1]
  refine wpAny_pure ⟨_, rfl, ?_⟩
  show Q (.ref h₄.objs.size) _
  rw [hsz]
  exact hQ h₄ (hs₄.extBut _ _ D.i2z.symm (hs₂.extBut _ _ D.i1z.symm hz₁)) (h1₂.extBut hs₄.extBut D.i12) h2₄ hsz fun c o c1 c3 c4 e => hs₄.extBut _ _ c4 (hs₂.extBut _ _ c3 (hs₁.extBut _ _ c1 e))
theorem zip_stop {z TI TO i1 i2 l1 l2 T : Addr} {k1 k2 : Nat} {xs ys : Array Value} {f1 : Value} {Q : Fin → Shared → Prop} (hh : A.handled = none) (D : ZipApart z TI TO i1 i2 l1 l2)
    (hz : s.heap.get? z = some (zipObj (rawInt T) f1 TI TO)) (hf : f1 = .bool true ∨ f1 = .bool false) (hT : (s.heap.get? T).isSome = true) (hTI : IsPair s.heap TI (.ref i1) (.ref i2))
    (h1 : s.heap.IsListIter i1 l1 k1) (h2 : s.heap.IsListIter i2 l2 k2) (hl1 : s.heap.IsList l1 xs) (hl2 : s.heap.IsList l2 ys) (hend : xs[k1]? = none ∨ ys[k2]? = none)
    (hE : ∀ h' e, (∀ c o, c ≠ z → c ≠ i1 → c ≠ i2 → s.heap.get? c = some o → h'.get? c = some o) → (∃ o, h'.get? e = some o ∧ o.cls = .type "StopIteration") → E (.ref e) { s with heap := h' }) :
    wpAny (model prog w) A (Builtin.«zip.__next__» ⟨[.ref z], []⟩) Q E s := by
  show wpAny _ _ (field (.ref z) 2 >>= _) _ _ _
  refine wpAny_bind (wpAny_field hz rfl (x := .bool false) rfl ?_)
  show wpAny _ _ (field (.ref z) 3 >>= _) _ _ _
  refine wpAny_bind (wpAny_field hz rfl (x := .ref TI) rfl ?_)
  refine wpAny_bind (wpAny_seqItems hTI rfl ?_)
  show wpAny _ _ (Builtin.SmallTypes.ownedTupleIsFree (.ref z) >>= _) _ _ _
  refine wpAny_bind (zip_taken hz hT (fun h₁ hz₁ hs₁ => ?_) hf)
  simp only [Bool.false_eq_true, if_false]
  rw [← Array.forIn_toList]
  simp only [List.forIn_cons, List.forIn_nil]
  refine wpAny_bind (wpAny_bind (wpAny_bind (wpAny_holding ?_)))
  show wpAny _ _ (Builtin.SmallTypes.nextOf (.ref i1) >>= _) _ _ _
  cases hx : xs[k1]? with
  | none => exact wpAny_bind (wpAny_nextOf_list_end hh (h1.extBut hs₁.extBut D.i1z) (hl1.extBut hs₁.extBut D.l1z) hx fun h₂ e hs₂ he => hE h₂ e (fun c o c1 c3 c4 x => hs₂ _ _ c3 (hs₁.extBut _ _ c1 x)) he)
  | some x =>
    have hy : ys[k2]? = none := by rcases hend with h | h; rw [hx] at h; cases h; exact h
    refine wpAny_bind (wpAny_nextOf_list_item (h1.extBut hs₁.extBut D.i1z) (hl1.extBut hs₁.extBut D.l1z) hx fun h₂ h1₂ hs₂ => wpAny_pure ?_)
    refine wpAny_pure (wpAny_bind (wpAny_bind (wpAny_holding ?_)))
    show wpAny _ _ (Builtin.SmallTypes.nextOf (.ref i2) >>= _) _ _ _
    exact wpAny_bind (wpAny_nextOf_list_end hh ((h2.extBut hs₁.extBut D.i2z).extBut hs₂.extBut D.i12.symm) ((hl2.extBut hs₁.extBut D.l2z).extBut hs₂.extBut D.l2i1) hy fun h₃ e hs₃ he => hE h₃ e (fun c o c1 c3 c4 x => hs₃ _ _ c4 (hs₂.extBut _ _ c3 (hs₁.extBut _ _ c1 x))) he)
theorem zip_pyNext_more {z TI TO i1 i2 l1 l2 T : Addr} {k1 k2 : Nat} {xs ys : Array Value} {x y f1 : Value} {Q : Option Value → Shared → Prop} (D : ZipApart z TI TO i1 i2 l1 l2)
    (hz : s.heap.get? z = some (zipObj (rawInt T) f1 TI TO)) (hf : f1 = .bool true ∨ f1 = .bool false) (hT : (s.heap.get? T).isSome = true) (hTI : IsPair s.heap TI (.ref i1) (.ref i2))
    (h1 : s.heap.IsListIter i1 l1 k1) (h2 : s.heap.IsListIter i2 l2 k2) (hl1 : s.heap.IsList l1 xs) (hl2 : s.heap.IsList l2 ys) (hx : xs[k1]? = some x) (hy : ys[k2]? = some y)
    (hQ : ∀ h' : Heap, h'.get? z = some (zipObj (rawInt T) (.bool true) TI TO) → h'.IsListIter i1 l1 (k1 + 1) → h'.IsListIter i2 l2 (k2 + 1) → h'.objs.size = s.heap.objs.size →
      (∀ c o, c ≠ z → c ≠ i1 → c ≠ i2 → s.heap.get? c = some o → h'.get? c = some o) → Q (some (.ref s.heap.objs.size)) { s with heap := h'.push (tupObj [x, y] 0) }) :
    wpAny (model prog w) A (pyNext (.ref z)) Q E s := by
  have hTy : s.TypeIs (.ref z) "zip" := ⟨_, hz, rfl⟩
  unfold pyNext
  exact wpAny_bind (wpAny_attempt (wpAny_callSpecial?_slot (name := Str.ofString "__next__") hTy PySem.F.slot_zip_next
    (wpAny_call_entry PySem.F.slot_zip_next hTy PySem.F.entry_zip_next
      (zip_more D hz hf hT hTI h1 h2 hl1 hl2 hx hy fun h' a1 a2 a3 a4 a5 => wpAny_pure (hQ h' a1 a2 a3 a4 a5)) (PySem.F.args_zip_next_1 _))))
theorem zip_pyNext_stop {z TI TO i1 i2 l1 l2 T : Addr} {k1 k2 : Nat} {xs ys : Array Value} {f1 : Value} {Q : Option Value → Shared → Prop} (hh : A.handled = none) (D : ZipApart z TI TO i1 i2 l1 l2)
    (hz : s.heap.get? z = some (zipObj (rawInt T) f1 TI TO)) (hf : f1 = .bool true ∨ f1 = .bool false) (hT : (s.heap.get? T).isSome = true) (hTI : IsPair s.heap TI (.ref i1) (.ref i2))
    (h1 : s.heap.IsListIter i1 l1 k1) (h2 : s.heap.IsListIter i2 l2 k2) (hl1 : s.heap.IsList l1 xs) (hl2 : s.heap.IsList l2 ys) (hend : xs[k1]? = none ∨ ys[k2]? = none)
    (hQ : ∀ h', (∀ c o, c ≠ z → c ≠ i1 → c ≠ i2 → s.heap.get? c = some o → h'.get? c = some o) → Q none { s with heap := h' }) : wpAny (model prog w) A (pyNext (.ref z)) Q E s := by
  have hTy : s.TypeIs (.ref z) "zip" := ⟨_, hz, rfl⟩
  unfold pyNext
  refine wpAny_bind (wpAny_attempt (wpAny_callSpecial?_slot (name := Str.ofString "__next__") hTy PySem.F.slot_zip_next
    (wpAny_call_entry PySem.F.slot_zip_next hTy PySem.F.entry_zip_next (zip_stop hh D hz hf hT hTI h1 h2 hl1 hl2 hend fun h' e hk he => ?_) (PySem.F.args_zip_next_1 _))))
  obtain ⟨o, ho, hc⟩ := he
  refine wpAny_bind (wpAny_isInstance (T := "StopIteration") (b := true) ⟨o, ho, hc⟩ isSubtype_stop ?_)
  exact wpAny_pure (hQ _ hk)
theorem zip_no_len : typeLookup (.type "zip") "__len__" = pure none := by rw [typeLookup_type, builtinLookup_eq_fast]; kernel_rfl
theorem zip_no_hint : typeLookup (.type "zip") "__length_hint__" = pure none := by rw [typeLookup_type, builtinLookup_eq_fast]; kernel_rfl
theorem lri_no_len : typeLookup (.type "list_reverseiterator") "__len__" = pure none := by rw [typeLookup_type, builtinLookup_eq_fast]; kernel_rfl
theorem lri_hint : typeLookup (.type "list_reverseiterator") "__length_hint__" = pure (some (.builtin "list_reverseiterator.__length_hint__")) := by rw [typeLookup_type, builtinLookup_eq_fast]; kernel_rfl
theorem hint_zip {r : Addr} {Q : Bool → Shared → Prop} (hT : s.TypeIs (.ref r) "zip") (h : Q true s) : wpAny (model prog w) A (Builtin.List.listLengthHint (.ref r)) Q E s := by
  unfold Builtin.List.listLengthHint
  refine wpAny_bind (wpAny_specialOf hT zip_no_len ?_)
  show wpAny _ _ (specialOf (Value.ref r) (Str.ofString "__length_hint__") >>= _) _ _ _
  refine wpAny_bind (wpAny_specialOf hT zip_no_hint ?_)
  exact wpAny_pure h
theorem hint_rev {r : Addr} {Q : Bool → Shared → Prop} (hT : s.TypeIs (.ref r) "list_reverseiterator") (h : Q false s) : wpAny (model prog w) A (Builtin.List.listLengthHint (.ref r)) Q E s := by
  unfold Builtin.List.listLengthHint
  refine wpAny_bind (wpAny_specialOf hT lri_no_len ?_)
  show wpAny _ _ (specialOf (Value.ref r) (Str.ofString "__length_hint__") >>= _) _ _ _
  refine wpAny_bind (wpAny_specialOf hT lri_hint ?_)
  generalize hid : ("list_reverseiterator.__length_hint__" : String) = id0
  dsimp only
  rw [show splitId id0 = some ("list_reverseiterator", "__length_hint__") from by subst hid; decide +kernel]
  subst hid
  refine wpAny_bind (wpAny_isInstance (T := "list_reverseiterator") (b := true) hT (by rw [isSubtype_type]; kernel_rfl) ?_)
  refine wpAny_ite_split (fun hab => absurd hab (by decide)) (fun _ => ?_)
  refine wpAny_ite_split (fun _ => ?_) (fun hab => absurd (by decide +kernel) hab)
  refine wpAny_ite_split (fun hab => absurd hab (by decide)) (fun _ => ?_)
  exact wpAny_pure h
end
end SP
namespace SP
open PySem PySem.W PySem.Calls PyProof.Rows
section
variable {C : Cx} {n : Nat} {env : Env} {l : Loc} {μ : Mu}
theorem Rel.none_of {Z ρ : Fz} {s : Shared} (R : Rel C Z μ ρ s) {a : Addr} (ha : s.heap.get? a = none) : Z a = none ∧ ρ a = none ∧ μ a = none := by
  refine ⟨?_, ?_, ?_⟩
  · cases e : Z a with | none => rfl | some o' => rw [R.z _ _ e] at ha; cases ha
  · cases e : ρ a with | none => rfl | some o' => rw [R.r _ _ e] at ha; cases ha
  · cases e : μ a with | none => rfl | some o' => obtain ⟨_, e', _⟩ := R.m _ _ e; rw [e'] at ha; cases ha
theorem ane {N i j : Nat} (h : i ≠ j) : @Ne Addr (N + i : Nat) (N + j : Nat) := fun e => h (Nat.add_left_cancel e)
theorem We.extendRev {o e1 : Expr} {p ap pos1 pos : Pos} {Φ : V → Mu → Prop} (hk : env.kindOf "reversed" = some .globalImplicit) (hg : globIn C.K "reversed" = some (.type "reversed"))
    (h : We C n env o (fun ov μ1 => ∃ S xs, ov = .ref S ∧ μ1 S = some (.list xs) ∧ We C n env e1 (fun v μ2 => ∃ ys, v = .list ys ∧ μ2 S = some (.list xs) ∧ xs.length + ys.length < 16777216 ∧ Φ .none (fup μ2 S (some (.list (xs ++ ys.reverse))))) l μ1) l μ)
    (hbase : attributeBase o "extend" env (eval o env) = eval o env := by rfl) (hline : (ap.endLine == pos.line) = true := by rfl) (hp1 : plainArgs [e1] = true := by rfl) :
    We C n env (.Call (.Attribute o "extend" ap) [.Call (.Name "reversed" p) [e1] [] pos1] [] pos) Φ l μ := by
  refine We.meth1raw (h.mono fun ov μ1 ⟨S, xs, e, hS, hw⟩ => ?_) hbase hline rfl
  subst e
  refine ⟨.builtin "list.extend", GetM.lst hS PySem.F.slot_list_extend PySem.F.type_list_extend, Callee.builtin, fun A hA Z ρ ov' s F R r => ?_⟩
  (first | obtain rfl := r.inv | obtain ⟨_, rfl⟩ := r.inv | cases r)
  refine callName_raw hA (Ψ := fun vs μ2 => ∃ ys, vs = [.list ys] ∧ μ2 S = some (.list xs) ∧ xs.length + ys.length < 16777216 ∧ Φ .none (fup μ2 S (some (.list (xs ++ ys.reverse))))) hk hg Callee.type F R
    (hw.mono fun v μ2 ⟨ys, e, q⟩ => ⟨ys, by rw [e], q⟩) hp1 (by simp) (by decide) fun vs' s' Z' vs μ2 R' x' rv ⟨ys, e, hS2, hz, hΦ⟩ => ?_
  subst e
  obtain ⟨v', us, rfl, r1, r2⟩ := rv.cons_inv
  obtain rfl := r2.nil_inv
  obtain ⟨ws, la, q, rfl, el, hl, hr⟩ := r1.inv
  have rws : VRels C.w Z' ys ws := ⟨hl, hr⟩
  have hlist : s'.heap.IsList la ws.toArray := ⟨_, R'.z _ _ el, rfl, q, rfl⟩
  refine call_reversed_list hlist ⟨(R'.push _ s'.toks).X, ?_⟩
  have hI : s'.heap.get? s'.heap.objs.size = Option.none := none_at (Nat.le_refl _)
  obtain ⟨z1, z2, z3⟩ := R'.none_of hI
  have R2 := R'.push (revObj la ((ws.toArray.size : Int) - 1)) s'.toks
  have hSI : S ≠ s'.heap.objs.size := by rintro rfl; rw [hS2] at z3; cases z3
  have hlaI : la ≠ s'.heap.objs.size := by rintro rfl; rw [el] at z1; cases z1
  have hSla : la ≠ S := by rintro rfl; have := R'.zm _ _ el; rw [hS2] at this; cases this
  have hlen : ws.length = ys.length := hl.symm
  refine ext_call (T := "list_reverseiterator") (xs := xs) (ys := ys.reverse) (It := fun k h => k ≤ ys.length ∧ h.IsRevIter s'.heap.objs.size la ((ys.length : Int) - 1 - (k : Int))) (wr := [s'.heap.objs.size]) hS2 R2
    (fun a ha => by rw [List.mem_singleton.mp ha]; exact ⟨z1, z2, z3⟩) ⟨Nat.zero_le _, _, Heap.get?_push_size _ rfl, rfl, by show Data.fields #[Value.ref la, rawInt ((ws.toArray.size : Int) - 1)] = _; simp [hlen]⟩ hSI ⟨_, Heap.get?_push_size _ rfl, rfl⟩ (by decide) (by decide)
    (fun s Q it hq => wpAny_pyIter_revIter it.2 hq) (fun s Q it hq => hint_rev it.2.typeIs (hq _))
    (fun k h h' it hk => ⟨it.1, it.2.at fun o e => hk _ o (Ne.symm hSI) e⟩) (by rw [List.length_reverse]; exact hz)
    (fun k y Z2 μ' s2 x2 R2 ap it hy => ?_) (fun Z2 μ' s2 x2 R2 ap it => ?_) (by simpa using hSI) fun Z2 s2 x2 R2 => ⟨⟨Z2, _, ρ⟩, R2, x'.trans x2, rfl, .none, .none, hΦ⟩
  · have hkl : k < ys.length := by have := (List.getElem?_eq_some_iff.mp hy).1; simpa using this
    rw [List.getElem?_reverse hkl] at hy
    obtain ⟨v, hv, rv⟩ := (rws.mono x2).at hy
    have hit := it.2
    have e : (ys.length : Int) - 1 - (k : Int) = ((ys.length - 1 - k : Nat) : Int) := by omega
    rw [e] at hit
    refine wpAny_pyNext_rev_item hit (items := ws.toArray) ⟨_, R2.z _ _ (x2 _ _ el), rfl, q, rfl⟩ (x := v) (by simpa using hv) fun h' hit' hs => ?_
    have e2 : ((ys.length - 1 - k : Nat) : Int) - 1 = (ys.length : Int) - 1 - ((k + 1 : Nat) : Int) := by omega
    rw [e2] at hit'
    exact ⟨v, Z2, rfl, ext.rfl, R2.moved (s' := { s2 with heap := h' }) ap fun b o hb eb => (hs.2 b (by simpa using hb)).trans eb, ap, rv, hkl, hit'⟩
  · have hit := it.2
    have e : (ys.length : Int) - 1 - ((ys.reverse.length : Nat) : Int) = -1 := by rw [List.length_reverse]; omega
    rw [e] at hit
    exact wpAny_pyNext_rev_end hA.h hit fun h' hb => ⟨rfl, R2.moved (s' := { s2 with heap := h' }) ap fun b o hb' eb => hb b o (by simpa using hb') eb⟩
noncomputable def zipV : List V → List V → List V := List.zipWith fun a b => .tup [a, b]
inductive ZipIz (N k : Nat) (h : Heap) : Prop
  | inl (e : k = 0) (hz : IsZip h (N + 4) (N + 2) (N + 3) .none)
  | inr (T : Nat) (f1 : Value) (hz : h.get? (N + 4) = some (zipObj (rawInt T) f1 (N + 2) (N + 3))) (hf : f1 = .bool true ∨ f1 = .bool false) (hT : (h.get? T).isSome = true) (hS : @LE.le Nat _ (N + 5) T)
inductive ZipIt (N la lb m k : Nat) (h : Heap) : Prop
  | mk (i0 : k ≤ m) (i5 : N + 5 ≤ h.objs.size) (i1 : IsPair h (N + 2) (.ref (N + 0)) (.ref (N + 1))) (a b : Value) (i2 : IsPair h (N + 3) a b) (i3 : h.IsListIter (N + 0) la k) (i4 : h.IsListIter (N + 1) lb k) (iz : ZipIz N k h)
section
variable {α : Type} {x a b c d e : α}
theorem m50 (h : x = a) : x ∈ [a, b, c, d, e] := h ▸ .head _
theorem m51 (h : x = b) : x ∈ [a, b, c, d, e] := h ▸ .tail _ (.head _)
theorem m52 (h : x = c) : x ∈ [a, b, c, d, e] := h ▸ .tail _ (.tail _ (.head _))
theorem m53 (h : x = d) : x ∈ [a, b, c, d, e] := h ▸ .tail _ (.tail _ (.tail _ (.head _)))
end
theorem We.extendZip {o e1 e2 : Expr} {p ap pos1 pos : Pos} {Φ : V → Mu → Prop} (hk : env.kindOf "zip" = some .globalImplicit) (hg : globIn C.K "zip" = some (.type "zip"))
    (h : We C n env o (fun ov μ1 => ∃ S xs, ov = .ref S ∧ μ1 S = some (.list xs) ∧ Wes C n env (fun vs μ2 => ∃ as bs, vs = [.list as, .list bs] ∧ μ2 S = some (.list xs) ∧ xs.length + as.length < 16777216 ∧ Φ .none (fup μ2 S (some (.list (xs ++ zipV as bs))))) l [e1, e2] μ1) l μ)
    (hbase : attributeBase o "extend" env (eval o env) = eval o env := by rfl) (hline : (ap.endLine == pos.line) = true := by rfl) (hp1 : plainArgs [e1, e2] = true := by rfl) :
    We C n env (.Call (.Attribute o "extend" ap) [.Call (.Name "zip" p) [e1, e2] [] pos1] [] pos) Φ l μ := by
  refine We.meth1raw (h.mono fun ov μ1 ⟨S, xs, e, hS, hw⟩ => ?_) hbase hline rfl
  subst e
  refine ⟨.builtin "list.extend", GetM.lst hS PySem.F.slot_list_extend PySem.F.type_list_extend, Callee.builtin, fun A hA Z ρ ov' s F R r => ?_⟩
  (first | obtain rfl := r.inv | obtain ⟨_, rfl⟩ := r.inv | cases r)
  refine callName_raw hA hk hg Callee.type F R hw hp1 (by simp) (by decide) fun vs' s' Z' vs μ2 R' x' rv ⟨as, bs, e, hS2, hz, hΦ⟩ => ?_
  subst e
  obtain ⟨a', us, rfl, r1, r2⟩ := rv.cons_inv
  obtain ⟨b', us, rfl, r3, r4⟩ := r2.cons_inv
  obtain rfl := r4.nil_inv
  obtain ⟨was, la, qa, rfl, ela, hla, hra⟩ := r1.inv
  obtain ⟨wbs, lb, qb, rfl, elb, hlb, hrb⟩ := r3.inv
  have rwa : VRels C.w Z' as was := ⟨hla, hra⟩
  have rwb : VRels C.w Z' bs wbs := ⟨hlb, hrb⟩
  have hA1 : s'.heap.IsList la was.toArray := ⟨_, R'.z _ _ ela, rfl, qa, rfl⟩
  have hB1 : s'.heap.IsList lb wbs.toArray := ⟨_, R'.z _ _ elb, rfl, qb, rfl⟩
  generalize hN : s'.heap.objs.size = N
  have hzl : xs.length + (zipV as bs).length < 16777216 := by
    have : (zipV as bs).length ≤ as.length := by unfold zipV; rw [List.length_zipWith]; exact Nat.min_le_left ..
    omega
  have hSN : @LT.lt Nat _ S N := hN ▸ R'.lt_m hS2
  have fresh : ∀ j : Nat, Z' (N + j) = Option.none ∧ ρ (N + j) = Option.none ∧ μ2 (N + j) = Option.none := fun j => R'.none_of (none_at (by rw [hN]; exact Nat.le_add_right _ _))
  have ltZ : ∀ {a o}, Z' a = some o → ∀ j : Nat, a ≠ N + j := fun e j h => by subst h; rw [(fresh j).1] at e; cases e
  have hSne : ∀ j : Nat, S ≠ N + j := fun j h => by subst h; rw [(fresh j).2.2] at hS2; cases hS2
  have hSla : la ≠ S := by rintro rfl; have := R'.zm _ _ ela; rw [hS2] at this; cases this
  have hSlb : lb ≠ S := by rintro rfl; have := R'.zm _ _ elb; rw [hS2] at this; cases this
  have D : ZipApart (N + 4) (N + 2) (N + 3) (N + 0) (N + 1) la lb := ⟨ane (by decide), ane (by decide), ane (by decide), ane (by decide), ane (by decide), ane (by decide), ane (by decide), ane (by decide), ane (by decide), ane (by decide), ltZ ela 4, ltZ ela 3, ltZ ela 0, ltZ ela 1, ltZ elb 4, ltZ elb 3, ltZ elb 0, ltZ elb 1⟩
  refine call_zip_2 hA1 hB1 fun h' hz1 hTI hTO hi1 hi2 hsz hkeep => ?_
  rw [hN] at hz1 hTI hTO hi1 hi2 hsz ⊢
  have R2 : Rel C Z' μ2 ρ { s' with heap := h' } := R'.grow hkeep rfl rfl
  refine ⟨R2.X, ?_⟩
  have apw : Apart Z' ρ μ2 [N + 4, N + 3, N + 0, N + 1, N + 2] := fun a ha => by
    simp at ha
    rcases ha with rfl | rfl | rfl | rfl | rfl
    · exact fresh 4
    · exact fresh 3
    · exact fresh 0
    · exact fresh 1
    · exact fresh 2
  refine ext_call (T := "zip") (xs := xs) (ys := zipV as bs) (I := N + 4)
    (It := ZipIt N la lb (zipV as bs).length)
    (wr := [N + 4, N + 3, N + 0, N + 1, N + 2]) hS2 R2
    apw ⟨Nat.zero_le _, by rw [hsz]; exact Nat.le_refl _, hTI, _, _, hTO, hi1, hi2, .inl rfl hz1⟩ (hSne 4) ⟨_, hz1, rfl⟩ (by decide) (by decide)
    (fun s Q it hq => ?_) (fun s Q it hq => ?_) (fun k h h'' it hk => ?_) hzl
    (fun k y Z2 μ' s2 x2 R2 ap it hy => ?_) (fun Z2 μ' s2 x2 R2 ap it => ?_) (by simp; exact ⟨hSne 4, hSne 3, hSne 0, hSne 1, hSne 2⟩) fun Z2 s2 x2 R2 => ⟨⟨Z2, _, ρ⟩, R2, x'.trans x2, rfl, .none, .none, hΦ⟩
  · obtain ⟨_, _, _, _, _, _, _, _, ⟨_, hz0⟩ | ⟨T, f1, hz0, hf, hT, _⟩⟩ := it
    · exact wpAny_pyIter_zip hz0 hq
    · have hTy : s.TypeIs (.ref (N + 4)) "zip" := ⟨_, hz0, rfl⟩
      refine wpAny_pyIter_slot hTy PySem.F.slot_zip_iter (wpAny_call_entry PySem.F.slot_zip_iter hTy PySem.F.entry_zip_iter ?_ (PySem.F.args_zip_iter_1 _))
      show wpAny _ _ (ret (.ref (N + 4))) _ _ s
      exact wpAny_pure ⟨_, rfl, "zip", _, hTy, PySem.F.slot_zip_next.lookup, hq⟩
  · obtain ⟨_, _, _, _, _, _, _, _, ⟨_, hz0⟩ | ⟨T, f1, hz0, hf, hT, _⟩⟩ := it
    · exact hint_zip ⟨_, hz0, rfl⟩ (hq _)
    · exact hint_zip ⟨_, hz0, rfl⟩ (hq _)
  · obtain ⟨i0, i5, i1, a, b, i2, i3, i4, iz⟩ := it
    refine ⟨i0, ?_, hk _ _ (Ne.symm (hSne 2)) i1, a, b, hk _ _ (Ne.symm (hSne 3)) i2, i3.at fun o e => hk _ o (Ne.symm (hSne 0)) e, i4.at fun o e => hk _ o (Ne.symm (hSne 1)) e, ?_⟩
    · rcases iz with ⟨_, hz0⟩ | ⟨T, f1, hz0, _, _, _⟩
      · exact Heap.lt_size (hk _ _ (Ne.symm (hSne 4)) hz0)
      · exact Heap.lt_size (hk _ _ (Ne.symm (hSne 4)) hz0)
    · rcases iz with ⟨e0, hz0⟩ | ⟨T, f1, hz0, hf, hT, hTS⟩
      · exact .inl e0 (hk _ _ (Ne.symm (hSne 4)) hz0)
      · obtain ⟨oT, hoT⟩ := Option.isSome_iff_exists.mp hT
        have hTS' : T ≠ S := fun e => by subst e; exact absurd (Nat.lt_of_lt_of_le (Nat.lt_of_le_of_lt (Nat.le_add_right N 5) (Nat.lt_succ_of_le hTS)) (Nat.succ_le_of_lt hSN)) (Nat.lt_irrefl _)
        exact .inr T f1 (hk _ _ (Ne.symm (hSne 4)) hz0) hf (by rw [hk _ _ hTS' hoT]; rfl) hTS
  · obtain ⟨i0, i5, i1, a, b, i2, i3, i4, iz⟩ := it
    unfold zipV at hy
    rw [List.getElem?_zipWith] at hy
    cases hxa : as[k]? with
    | none => rw [hxa] at hy; cases hy
    | some xa =>
    cases hxb : bs[k]? with
    | none => rw [hxa, hxb] at hy; cases hy
    | some xb =>
    rw [hxa, hxb] at hy
    simp at hy
    subst hy
    obtain ⟨va, hva, rva⟩ := (rwa.mono x2).at hxa
    obtain ⟨vb, hvb, rvb⟩ := (rwb.mono x2).at hxb
    have hkl : k + 1 ≤ (zipV as bs).length := by
      unfold zipV; rw [List.length_zipWith]
      have := (List.getElem?_eq_some_iff.mp hxa).1; have := (List.getElem?_eq_some_iff.mp hxb).1; omega
    have hlA : s2.heap.IsList la was.toArray := ⟨_, R2.z _ _ (x2 _ _ ela), rfl, qa, rfl⟩
    have hlB : s2.heap.IsList lb wbs.toArray := ⟨_, R2.z _ _ (x2 _ _ elb), rfl, qb, rfl⟩
    have fin : ∀ (h2 : Heap), h2.get? s2.heap.objs.size = some (tupObj [va, vb] 0) → (∀ c o, c ∉ [N + 4, N + 3, N + 0, N + 1, N + 2] → s2.heap.get? c = some o → h2.get? c = some o) →
        ∃ Z'', ext Z2 Z'' ∧ Rel C Z'' μ' ρ { s2 with heap := h2 } ∧ Apart Z'' ρ μ' [N + 4, N + 3, N + 0, N + 1, N + 2] ∧ VRel C.w Z'' (.tup [xa, xb]) (.ref s2.heap.objs.size) := by
      intro h2 hT hk2
      have Rm := R2.moved (s' := { s2 with heap := h2 }) ap hk2
      have hn2 : s2.heap.get? s2.heap.objs.size = Option.none := none_at (Nat.le_refl _)
      obtain ⟨y1, y2, y3⟩ := R2.none_of hn2
      have R3 := Rm.addZ hT y1 y3 y2
      refine ⟨_, ext_fup y1, R3, fun a ha => ?_, VRel.ofTup (fup_self ..) (.cons (rva.mono (ext_fup y1)) (.one (rvb.mono (ext_fup y1))))⟩
      have hlt : a ≠ s2.heap.objs.size := by
        have : @LT.lt Nat _ a s2.heap.objs.size := by
          simp at ha
          have : @LT.lt Nat _ a (N + 5) := by
            have key : ∀ j : Nat, j < 5 → @LT.lt Nat _ (N + j) (N + 5) := fun j h => Nat.add_lt_add_left h N
            rcases ha with rfl | rfl | rfl | rfl | rfl
            · exact key 4 (by decide)
            · exact key 3 (by decide)
            · exact key 0 (by decide)
            · exact key 1 (by decide)
            · exact key 2 (by decide)
          exact Nat.lt_of_lt_of_le this i5
        exact Nat.ne_of_lt this
      rw [fup_ne _ _ hlt]
      exact ap a ha
    rcases iz with ⟨e0, hz0⟩ | ⟨T, f1, hz0, hf, hT, hTS'⟩
    · refine wpAny_pyNext_zip_item D hz0 i1 i2 i3 i4 hlA hlB (by simpa using hva) (by simpa using hvb) fun h2 b1 b2 b3 b4 b5 b6 b7 => ?_
      obtain ⟨Z'', c1, c2, c3, c4⟩ := fin h2 (by simpa [tupObj] using b5) fun c o hc eo => b7 c o (fun e => hc (by first | exact m50 e | exact m51 e | exact m52 e | exact m53 e | exact m54 e)) (fun e => hc (by first | exact m50 e | exact m51 e | exact m52 e | exact m53 e | exact m54 e)) (fun e => hc (by first | exact m50 e | exact m51 e | exact m52 e | exact m53 e | exact m54 e)) (fun e => hc (by first | exact m50 e | exact m51 e | exact m52 e | exact m53 e | exact m54 e)) eo
      refine ⟨_, Z'', rfl, c1, c2, c3, c4, hkl, by rw [b6]; omega, ?_, _, _, b2, b3, b4, .inr _ (.bool false) b1 (.inr rfl) (by rw [b5]; rfl) i5⟩
      exact b7 _ _ (ane (by decide)) (ane (by decide)) (ane (by decide)) (ane (by decide)) i1
    · refine zip_pyNext_more D hz0 hf hT i1 i3 i4 hlA hlB (by simpa using hva) (by simpa using hvb) fun h2 b1 b3 b4 b6 b7 => ?_
      have hsz2 : (h2.push (tupObj [va, vb] 0)).get? s2.heap.objs.size = some (tupObj [va, vb] 0) := by rw [← b6]; exact Heap.get?_push_size _ rfl
      have up : ∀ c o, h2.get? c = some o → (h2.push (tupObj [va, vb] 0)).get? c = some o := fun c o e => Heap.get?_push_of_some _ e
      obtain ⟨Z'', c1, c2, c3, c4⟩ := fin (h2.push (tupObj [va, vb] 0)) hsz2 fun c o hc eo => up _ _ (b7 c o (fun e => hc (by first | exact m50 e | exact m51 e | exact m52 e | exact m53 e | exact m54 e)) (fun e => hc (by first | exact m50 e | exact m51 e | exact m52 e | exact m53 e | exact m54 e)) (fun e => hc (by first | exact m50 e | exact m51 e | exact m52 e | exact m53 e | exact m54 e)) eo)
      refine ⟨_, Z'', rfl, c1, c2, c3, c4, hkl, by show N + 5 ≤ (h2.push _).objs.size; rw [size_push, b6]; omega, up _ _ (b7 _ _ (ane (by decide)) (ane (by decide)) (ane (by decide)) i1), a, b, up _ _ (b7 _ _ (ane (by decide)) (ane (by decide)) (ane (by decide)) i2), b3.at fun o e => up _ o e, b4.at fun o e => up _ o e, .inr T (.bool true) (up _ _ b1) (.inl rfl) ?_ hTS'⟩
      obtain ⟨oT, hoT⟩ := Option.isSome_iff_exists.mp hT
      have hTj : ∀ j : Nat, j < 5 → T ≠ N + j := fun j hj e => by subst e; exact absurd hTS' (Nat.not_le.mpr (Nat.add_lt_add_left hj N : (N + j : Nat) < N + 5))
      rw [up _ _ (b7 _ _ (hTj 4 (by decide)) (hTj 0 (by decide)) (hTj 1 (by decide)) hoT)]; rfl
  · obtain ⟨i0, i5, i1, a, b, i2, i3, i4, iz⟩ := it
    have hlA : s2.heap.IsList la was.toArray := ⟨_, R2.z _ _ (x2 _ _ ela), rfl, qa, rfl⟩
    have hlB : s2.heap.IsList lb wbs.toArray := ⟨_, R2.z _ _ (x2 _ _ elb), rfl, qb, rfl⟩
    have hend : was.toArray[(zipV as bs).length]? = Option.none ∨ wbs.toArray[(zipV as bs).length]? = Option.none := by
      have e : (zipV as bs).length = min was.length wbs.length := by unfold zipV; rw [List.length_zipWith, hla, hlb]
      rw [e]
      rcases Nat.le_total was.length wbs.length with h | h
      · exact .inl (by rw [Nat.min_eq_left h]; simp)
      · exact .inr (by rw [Nat.min_eq_right h]; simp)
    rcases iz with ⟨e0, hz0⟩ | ⟨T, f1, hz0, hf, hT, hTS'⟩
    · exact wpAny_pyNext_zip_end hA.h D hz0 i1 i2 i3 i4 hlA hlB hend fun h2 b7 => ⟨rfl, R2.moved (s' := { s2 with heap := h2 }) ap fun c o hc eo => b7 c o (fun e => hc (by first | exact m50 e | exact m51 e | exact m52 e | exact m53 e | exact m54 e)) (fun e => hc (by first | exact m50 e | exact m51 e | exact m52 e | exact m53 e | exact m54 e)) (fun e => hc (by first | exact m50 e | exact m51 e | exact m52 e | exact m53 e | exact m54 e)) (fun e => hc (by first | exact m50 e | exact m51 e | exact m52 e | exact m53 e | exact m54 e)) eo⟩
    · exact zip_pyNext_stop hA.h D hz0 hf hT i1 i3 i4 hlA hlB hend fun h2 b7 => ⟨rfl, R2.moved (s' := { s2 with heap := h2 }) ap fun c o hc eo => b7 c o (fun e => hc (by first | exact m50 e | exact m51 e | exact m52 e | exact m53 e | exact m54 e)) (fun e => hc (by first | exact m50 e | exact m51 e | exact m52 e | exact m53 e | exact m54 e)) (fun e => hc (by first | exact m50 e | exact m51 e | exact m52 e | exact m53 e | exact m54 e)) eo⟩
end
end SP
namespace SP
set_option maxRecDepth 100000
open PySem PySem.W PySem.Calls PyProof.Rows
theorem list_no_keys : typeLookup (.type "list") "keys" = pure none := by rw [typeLookup_type, builtinLookup_eq_fast]; kernel_rfl
theorem attr_keys_list {prog : Program} {w : World} {A : Around} {E : Value → Shared → Prop} {s : Shared} {a : Addr} {vs : List Value} {k : Nat} {Q : Option Value → Shared → Prop}
    (hx : s.heap.get? a = some (listObj vs k)) (hA : A.handled = none) (h : ∀ h' tk, (∀ b o, s.heap.get? b = some o → h'.get? b = some o) → Q none { s with heap := h', toks := tk }) :
    wpAny (model prog w) A (getAttr? (.ref a) "keys") Q E s := by
  obtain ⟨hp, g, d, tk, os⟩ := s
  unfold listObj at hx
  have hT : ∀ tk', (⟨hp, g, d, tk', os⟩ : Shared).TypeIs (.ref a) "list" := fun _ => ⟨_, hx, rfl⟩
  have f1 := sub_AttributeError
  have f3 := PySem.F.slot_list_getattribute.lookup
  have f4 := PySem.F.slot_list_getattribute.bind (.ref a)
  have f5 := am_list_getattr_none
  unfold getAttr? getAttrBy? getAttrBy
  repeat (any_goals (first | assumption | exact hT _ | ((with_reducible show wpAny _ _ (PySem.call (Value.builtin "list.__getattribute__") _ _) _ _ _); refine call_meets PySem.F.slot_list_getattribute (hT _) am_entry_list_getattribute (PySem.F.args_list_getattribute_2 _ _) (meets_getattribute_miss_list a vs.toArray k #[] "keys" _ list_no_keys (by decide +kernel) (by rw [sizeLine_eq]; decide +kernel)) ⟨hx, hA, fun h' tk' e hx' => ?_⟩) | wp_step))
  obtain ⟨t', u', he⟩ := hx'.there
  have hk := hx'.of.keeps
  show wpAny _ _ (getattributeRaised _ _ _ _ _ _ _) _ _ _
  unfold getattributeRaised
  repeat (any_goals (first | assumption | wp_step))
  exact h _ _ hk
theorem entry_dict_update_loop : entryFor table "dict.update.loop" = some Builtin.«dict.update.loop» := entryFor_of_tree (by kernel_rfl)
theorem plain_dict_update_loop : plainId "dict.update.loop" = true := by decide +kernel
noncomputable def dictOfL {κ : Type} [DecidableEq κ] (ps : List (κ × V)) : List (κ × V) := ps.foldl (fun acc p => putK acc p.1 p.2) []
theorem foldl_putK_len {κ : Type} [DecidableEq κ] (ps : List (κ × V)) : ∀ acc : List (κ × V), (ps.foldl (fun acc p => putK acc p.1 p.2) acc).length ≤ acc.length + ps.length := by
  induction ps with
  | nil => intro acc; simp
  | cons p r ih => intro acc; rw [List.foldl_cons, List.length_cons]; have := ih (putK acc p.1 p.2); have := putK_length (kvs := acc) (k := p.1) (x := p.2); omega
section
variable {C : Cx} {n : Nat} {env : Env} {l : Loc} {μ : Mu}
structure DKind (C : Cx) (κ : Type) [DecidableEq κ] (mk : κ → V) (cell : List (κ × V) → Cell) : Prop where
  empty : ∀ Z, CRel C.w Z (cell []) (dictObj [] 0)
  set : ∀ {A : Around} {Z ρ : Fz} {μ : Mu} {s : Shared} {D : Addr} {kvs : List (κ × V)} {k : κ} {x : V} {k' x' : Value} {Q : Unit → Shared → Prop}, A.units + 2 < 9900 → μ D = some (cell kvs) → kvs.length ≤ 16777216 → Rel C Z μ ρ s → VRel C.w Z (mk k) k' → VRel C.w Z x x' →
    (∀ s', Rel C Z (fup μ D (some (cell (putK kvs k x)))) ρ s' → Q () s') → wpAny (model C.prog C.w) A (dictSet D k' x') Q NoE s
theorem dkS : DKind C Str V.str Cell.dS where
  empty := fun Z => .dS ⟨rfl, fun _ _ _ _ h => by simp at h, fun _ _ _ _ h => by simp at h, by simp⟩
  set := fun {A Z ρ μ s D kvs k x k' x' Q} _ hD hz R rk rx hQ => by
    (first | obtain rfl := rk.inv | obtain ⟨_, rfl⟩ := rk.inv | cases rk)
    obtain ⟨o, g, c⟩ := R.m _ _ hD
    obtain ⟨es, q, rfl, E⟩ := c.inv
    refine wpAny_dictSet_pairs (knd := PySem.strKind C.prog C.w) (strKind_is _ _ k _) (dictAt_S E g).dictOf (fun h' hd hs => ?_) (by simp only [realS, List.length_map, List.length_zip]; rw [sizeLine_eq]; omega)
    obtain ⟨es', q', g', hk, hp⟩ := dictOf_open hd
    have EP := ent_stored (P := fun k e => keyS C.w e k) (fun k e h1 h2 => by obtain ⟨t, h1⟩ := Value.isStrOf_shape h1; exact ⟨⟨t, h1⟩, h2⟩) (EntS.iff.mp E).1 rx hp hk
    exact hQ _ (R.setM (s' := { s with heap := h', toks := s.toks + 1 }) hD hs g' (.dS (EntS.iff.mpr ⟨EP, putK_nodup E.2.2.2⟩)))
theorem dkI : DKind C Int V.int Cell.dI where
  empty := fun Z => .dI ⟨rfl, fun _ _ _ _ h => by simp at h, fun _ _ _ _ h => by simp at h, by simp⟩
  set := fun {A Z ρ μ s D kvs k x k' x' Q} _ hD hz R rk rx hQ => by
    (first | obtain rfl := rk.inv | obtain ⟨_, rfl⟩ := rk.inv | cases rk)
    obtain ⟨o, g, c⟩ := R.m _ _ hD
    obtain ⟨es, q, rfl, E⟩ := c.inv
    refine wpAny_dictSet_pairs (knd := PySem.intKind C.prog C.w) (intKind_is _ _ k _) (dictAt_I E g).dictOf (fun h' hd hs => ?_) (by simp only [realI, List.length_map, List.length_zip]; rw [sizeLine_eq]; omega)
    obtain ⟨es', q', g', hk, hp⟩ := dictOf_open hd
    have EP := ent_stored (P := fun k e => keyI e k) (fun k e h1 h2 => by obtain ⟨t, h1⟩ := Value.isInt_shape h1; exact ⟨⟨t, h1⟩, h2⟩) (EntI.iff.mp E).1 rx hp hk
    exact hQ _ (R.setM (s' := { s with heap := h', toks := s.toks + 1 }) hD hs g' (.dI (EntI.iff.mpr ⟨EP, putK_nodup E.2.2.2⟩)))
theorem dkP : DKind C (List Int) intsT Cell.dP where
  empty := fun Z => .dP ⟨rfl, fun _ _ _ _ h => by simp at h, fun _ _ _ _ h => by simp at h, by simp⟩
  set := fun {A Z ρ μ s D kvs k x k' x' Q} hu hD hz R rk rx hQ => by
    obtain ⟨b, vs, q2, rfl, e2, h2⟩ := intsT_rel rk
    obtain ⟨o, g, c⟩ := R.m _ _ hD
    obtain ⟨es, q, rfl, E⟩ := c.inv
    obtain ⟨xs, i1, i2, i3, i4, i5, i6⟩ := real_P R (EntP.iff.mp E).1
    have hlen : xs.length = kvs.length := by have := congrArg List.length i3; simpa using this
    refine wpAny_dictSet_heap (knd := pk C) (show A.units < 9900 by omega) (key_is R e2 h2) (dictOfH_of g E i1 (fun x hx => (i2 x hx).1) i3) (fun h' hd hs => ?_) (by rw [hlen, sizeLine_eq]; omega)
    obtain ⟨⟨oc, od, odt, osl⟩, es', q', g', hx', hd', he', hk', hn'⟩ := hd
    obtain ⟨h1, h3, h4⟩ := hx'
    dsimp only at h1 h3 h4 hd'
    subst h1 h3 h4 hd'
    have EP := storedH_ent R rx (fun x hx => (i2 x hx).2) i3 i6 i5 ⟨vs, q2, e2, h2⟩ (b := b)
    rw [← he'] at EP
    exact hQ _ (R.setM (s' := { s with heap := h', toks := s.toks + (pk C).draws k }) hD hs g' (by have := CRel.dP (w := C.w) (n := q') (EntP.iff.mpr ⟨EP, putK_nodup E.2.2.2⟩); simpa [dictObj] using this))
variable {κ : Type} [DecidableEq κ] {mk : κ → V} {cell : List (κ × V) → Cell}
theorem fup_two {α : Type} {f : Addr → Option α} {a : Addr} {x y : Option α} : fup (fup f a x) a y = fup f a y := by
  funext b; unfold fup; by_cases h : b = a
  · rw [if_pos h, if_pos h]
  · rw [if_neg h, if_neg h, if_neg h]
theorem fup_undo {α : Type} {f : Addr → Option α} {a : Addr} {x : Option α} (h : f a = none) : fup (fup f a x) a none = f := by
  rw [fup_two]; funext b; unfold fup; by_cases e : b = a
  · rw [if_pos e, e, h]
  · rw [if_neg e]
theorem upd_loop (K : DKind C κ mk cell) {ps : List (κ × V)} {I D : Addr} {st : Nat → Obj → Prop} {Z₀ : Fz} (src : ItSrc C (ps.map fun p => V.tup [mk p.1, p.2]) (fun _ => True) I st Z₀) (hz : ps.length ≤ 16777216)
    {A : Around} (hA : AOk n A.in1) {ρ : Fz} (hI : ρ I = none) {R : Result → Shared → Prop} {res : Value}
    (hR : ∀ Z' s', ext Z₀ Z' → Rel C Z' (fup μ D (some (cell (dictOfL ps)))) ρ s' → R (.ok (.ret res)) s') :
    ∀ (j k : Nat) (i : Int) (t : Tok) (Z' : Fz) (o : Obj) (s : Shared), ps.length - k = j → k ≤ ps.length → ext Z₀ Z' → st k o → Rel C Z' (fup μ D (some (cell (dictOfL (ps.take k))))) (fup ρ I (some o)) s →
      codeAny (model C.prog C.w) A (.builtin "dict.update.loop" ⟨[.ref D, .ref I, .int i t, res], []⟩) (fun r s' => match r with | .error e => NoE e s' | r => R r s') s := by
  intro j
  induction j with
  | zero =>
    intro k i t Z' o s hj hk x hst R'
    have : k = ps.length := by omega
    subst this
    refine codeAny_builtin entry_dict_update_loop ?_
    rw [Around.under_plainId plain_dict_update_loop _]
    show wpAny _ A.in1 (pyNext (.ref I) >>= _) _ _ s
    have hfin := src.fin (k := ps.length) (o := o) hA x trivial (fup_self ρ I (some o)) hst (by simp) s R'
    refine wpAny_bind (wpAny_mono hfin (fun r s' ⟨⟨Z2, μ2, ρ2⟩, R2, x2, e1, e2, e3⟩ => ?_) fun _ _ e => e.elim)
    have R2 : Rel C Z2 μ2 ρ2 s' := R2
    subst e1
    rw [show μ2 = fup μ D (some (cell (dictOfL (ps.take ps.length)))) from e2, show ρ2 = ρ from e3.trans (fup_undo hI), List.take_length] at R2
    show wpAny _ A.in1 (Builtin.Dict.addKeywords D [] >>= _) _ _ _
    exact wpAny_bind (wpAny_pure (wpAny_pure (hR Z2 s' (x.trans x2) R2)))
  | succ j ih =>
    intro k i t Z' o s hj hk x hst R'
    have hlt : k < ps.length := by omega
    obtain ⟨pk, hpk⟩ : ∃ pk, ps[k]? = some pk := ⟨_, List.getElem?_eq_getElem hlt⟩
    have hy : (ps.map fun p => V.tup [mk p.1, p.2])[k]? = some (V.tup [mk pk.1, pk.2]) := by rw [List.getElem?_map, hpk]; rfl
    refine codeAny_builtin entry_dict_update_loop ?_
    rw [Around.under_plainId plain_dict_update_loop _]
    show wpAny _ A.in1 (pyNext (.ref I) >>= _) _ _ s
    have hit := src.item (k := k) (o := o) hA x trivial (fup_self ρ I (some o)) hst hy s R'
    refine wpAny_bind (wpAny_mono hit (fun r s' ⟨⟨Z2, μ2, ρ2⟩, R2, x2, v', o', e1, rv, e2, e3, hst'⟩ => ?_) fun _ _ e => e.elim)
    have R2 : Rel C Z2 μ2 ρ2 s' := R2
    have rv : VRel C.w Z2 (V.tup [mk pk.1, pk.2]) v' := rv
    subst e1
    rw [show μ2 = fup μ D (some (cell (dictOfL (ps.take k)))) from e2, show ρ2 = fup ρ I (some o') from e3.trans fup_two] at R2
    obtain ⟨ws, b, q, rfl, eb, hlen, hr⟩ := rv.inv
    have rws : VRels C.w Z2 [mk pk.1, pk.2] ws := ⟨hlen, hr⟩
    obtain ⟨k', us, rfl, r1, r2⟩ := rws.cons_inv
    obtain ⟨x', us, rfl, r3, r4⟩ := r2.cons_inv
    obtain rfl := r4.nil_inv
    have gb := R2.z _ _ eb
    refine wpAny_bind (wpAny_holding (wpAny_bind (wpAny_tryCatch ?_)))
    unfold Builtin.Dict.pairItems
    refine wpAny_bind (wpAny_typeOf (T := "tuple") ⟨_, gb, rfl⟩ ?_)
    rw [if_pos (by decide)]
    refine wpAny_bind (wpAny_seqItems gb rfl (wpAny_pure ?_))
    show wpAny _ _ (holding [k', x'] (dictSet D k' x')) _ _ _
    refine wpAny_holding ?_
    have hD : fup μ D (some (cell (dictOfL (ps.take k)))) D = some (cell (dictOfL (ps.take k))) := fup_self ..
    have hsz : (dictOfL (ps.take k)).length ≤ 16777216 := by
      have h1 := foldl_putK_len (ps.take k) []
      have h2 := List.length_take_le k ps
      have h3 : (dictOfL (ps.take k)).length ≤ ([] : List (κ × V)).length + (ps.take k).length := h1
      have h4 : ([] : List (κ × V)).length = 0 := rfl
      omega
    refine K.set (by have := hA.u; omega) hD hsz R2 r1 r3 fun s2 R3 => ?_
    have et : dictOfL (ps.take (k + 1)) = putK (dictOfL (ps.take k)) pk.1 pk.2 := by
      unfold dictOfL; rw [List.take_add_one, hpk, List.foldl_append]; rfl
    rw [fup_two, ← et] at R3
    exact wpAny_pure ⟨plainId_quiet plain_dict_update_loop _, ih (k + 1) _ _ Z2 o' s2 (by omega) hlt (x.trans x2) hst' R3⟩
theorem CallV.dictL (K : DKind C κ mk cell) {ps : List (κ × V)} {Φ : V → Mu → Prop} (hz : ps.length ≤ 16777216) (h : ∀ d, μ d = none → Φ (.ref d) (fup μ d (some (cell (dictOfL ps))))) :
    CallV C (n + 1) (.type "dict") [.list (ps.map fun p => V.tup [mk p.1, p.2])] Φ μ := by
  intro A hA Z ρ vs r s R
  obtain ⟨v', us, rfl, r1, r2⟩ := r.cons_inv
  obtain rfl := r2.nil_inv
  have r1' := r1
  obtain ⟨ws, a, q, rfl, el, hlen, hr⟩ := r1.inv
  have hA2 : AOk n A.in1.in1 := ⟨by have := hA.d; show A.depth + 3 * n ≤ 900; omega, by have := hA.u; show A.units + 1 + 1 + 20 * n ≤ 8000; omega, hA.h⟩
  refine callType_codes (Q₁ := fun obj s₁ => obj = .ref s.heap.objs.size ∧ s₁ = { s with heap := s.heap.push { cls := .type "dict", data := .dict #[] } }) PySem.F.kt_called_dict (PySem.F.kt_typeCall_dict_1 _) PySem.F.entry_dict_init (kt_code_dict_new _ ⟨rfl, rfl⟩) ?_
  rintro obj s₁ ⟨rfl, rfl⟩
  have hDn := R.newM
  have R1 := R.pushM (o := dictObj [] 0) (K.empty Z) s.toks
  have hnew : (s.heap.push (dictObj [] 0)).get? s.heap.objs.size = some (dictObj [] 0) := Heap.get?_push_size _ rfl
  refine ⟨⟨_, hnew, rfl⟩, PySem.F.args_dict_init_2 _ _, ?_⟩
  unfold Builtin.«dict.__init__»
  refine wpAny_bind ?_
  unfold Builtin.Dict.selfAndRest
  refine wpAny_bind (wpAny_notOrdered_dict ⟨_, hnew, rfl⟩ ?_)
  show wpAny _ _ (pure (s.heap.objs.size, [Value.ref a])) _ _ _
  refine wpAny_pure ?_
  show wpAny _ _ (Builtin.Dict.updateFrom "dict.__init__" s.heap.objs.size (.ref a) [] .none) _ _ _
  unfold Builtin.Dict.updateFrom
  have ga : (s.heap.push (dictObj [] 0)).get? a = some (listObj ws q) := R1.z _ _ el
  refine wpAny_bind (wpAny_typeOf (T := "list") ⟨_, ga, rfl⟩ ?_)
  rw [if_pos (by decide)]
  refine wpAny_bind (attr_keys_list ga hA.h fun h' tk hk => ?_)
  have R2 : Rel C Z (fup μ s.heap.objs.size (some (cell []))) ρ { s with heap := h', toks := tk } := R1.grow hk rfl rfl
  show wpAny _ _ (rule _ >>= fun _ => pyIter (.ref a) >>= fun it => again (.builtin "dict.update.loop" ⟨[.ref s.heap.objs.size, it, rawInt 0, .none], []⟩)) _ _ _
  refine wpAny_bind (wpAny_rule ?_)
  refine wpAny_bind ((Itr.list hA2 r1' trivial).use (σ := ⟨Z, _, ρ⟩) R2 fun it s3 σ3 R3 x3 ⟨I, st, o, hI, em, er, hn, h0, src⟩ => ?_)
  subst hI
  obtain ⟨Z3, μ3, ρ3⟩ := σ3; dsimp only at *
  subst em er
  refine wpAny_pure ⟨plainId_quiet plain_dict_update_loop _, ?_⟩
  refine codeAny_mono (upd_loop (n := n) K (μ := μ) (D := s.heap.objs.size) src hz (A := A.in1) ⟨by have := hA.d; show A.depth + 3 * n ≤ 900; omega, by have := hA.u; show A.units + 1 + 1 + 20 * n ≤ 8000; omega, hA.h⟩ hn
    (R := wants (fun r s₂ => r = .none ∧ PO C Z (PV C Φ ρ) (.ref s.heap.objs.size) s₂) NoE) (res := .none)
    (fun Z' s' x' R' => ⟨rfl, ⟨Z', _, ρ⟩, R', x3.trans x', rfl, .ref _, .ref _, h _ hDn⟩) ps.length 0 0 _ Z3 o s3 (by omega) (Nat.zero_le _) ext.rfl h0 R3) fun r s' q => ?_
  cases r with
  | error e => exact q.elim
  | ok f => exact q
end
end SP
namespace SP
set_option maxRecDepth 100000
open PySem PySem.W PySem.Calls PyProof.Rows PySem.SeqAt
theorem slot_bytes_eq : Slot "bytes" (cmpInfo .Eq).2.1 "bytes.__eq__" :=
  .of (owner := "bytes") (n := "__eq__") (by rw [typeLookup_type, builtinLookup_eq_fast]; kernel_rfl) (by decide +kernel) (by decide +kernel) (by decide +kernel)
    (by first | exact .inl (by decide +kernel) | exact .inr (by decide +kernel)) (by rw [isSubtype_type]; kernel_rfl)
theorem slot_bytes_eq_refl : Slot "bytes" (cmpInfo .Eq).2.2 "bytes.__eq__" := slot_bytes_eq
theorem entry_bytes_eq : entryFor table "bytes.__eq__" = some Builtin.«bytes.__eq__» := entryFor_of_tree (by kernel_rfl)
theorem args_bytes_eq (a b : Value) : argsOk "bytes.__eq__" ⟨[a, b], []⟩ := by unfold argsOk; kernel_rfl
theorem sub_int_bytes : isSubtype (.type "int") (.type "bytes") = pure false := by rw [isSubtype_type]; kernel_rfl
theorem sub_bytes_int : isSubtype (.type "bytes") (.type "int") = pure false := by rw [isSubtype_type]; kernel_rfl
theorem sub_str_bytes : isSubtype (.type "str") (.type "bytes") = pure false := by rw [isSubtype_type]; kernel_rfl
theorem sub_bytes_str : isSubtype (.type "bytes") (.type "str") = pure false := by rw [isSubtype_type]; kernel_rfl
theorem sub_tuple_bytes : isSubtype (.type "tuple") (.type "bytes") = pure false := by rw [isSubtype_type]; kernel_rfl
theorem sub_bytes_tuple : isSubtype (.type "bytes") (.type "tuple") = pure false := by rw [isSubtype_type]; kernel_rfl
theorem sub_bytes_bytes : isSubtype (.type "bytes") (.type "bytes") = pure true := by rw [isSubtype_type]; kernel_rfl
theorem order_eq : ∀ xs ys : List UInt8, (Builtin.Bytes.order xs ys == .eq) = decide (xs = ys)
  | [], [] => rfl
  | [], _ :: _ => rfl
  | _ :: _, [] => rfl
  | x :: xs, y :: ys => by
    unfold Builtin.Bytes.order
    by_cases h1 : x < y
    · rw [if_pos h1]
      have : x ≠ y := by rintro rfl; exact absurd h1 (UInt8.lt_irrefl x)
      simp [this]
    · rw [if_neg h1]
      by_cases h2 : x > y
      · rw [if_pos h2]
        have : x ≠ y := by rintro rfl; exact absurd h2 (UInt8.lt_irrefl x)
        simp [this]
      · rw [if_neg h2, order_eq xs ys]
        have : x = y := UInt8.le_antisymm (UInt8.not_lt.mp h2) (UInt8.not_lt.mp h1)
        subst this
        simp
section
variable {prog : Program} {w : World} {A : Around} {E : Value → Shared → Prop} {s : Shared}
theorem bytes_eq_declines {b : Array UInt8} {t : Tok} {x : Value} {T : String} {Q : Value → Shared → Prop} (hT : s.TypeIs x T) (hsub : isSubtype (.type T) (.type "bytes") = pure false) (h : Q .notImplemented s) :
    wpAny (model prog w) A (PySem.call (.builtin "bytes.__eq__") [.bytes b t, x]) Q E s := by
  refine wpAny_call_entry slot_bytes_eq (PySem.W.typeIs_bytes s b t) entry_bytes_eq ?_ (args_bytes_eq _ _)
  show wpAny _ _ (isInstance x (.type "bytes") >>= _) _ _ _
  refine wpAny_bind (wpAny_isInstance hT hsub ?_)
  exact wpAny_bind (wpAny_rule (wpAny_pure ⟨_, rfl, h⟩))
theorem bytes_eq_gen {b c : Array UInt8} {t u : Tok} {x : Value} {Q : Value → Shared → Prop} (hx : x = .bytes c u) (hT : s.TypeIs x "bytes") (h : Q (.bool (b == c)) s) :
    wpAny (model prog w) A (PySem.call (.builtin "bytes.__eq__") [.bytes b t, x]) Q E s := by
  refine wpAny_call_entry slot_bytes_eq (PySem.W.typeIs_bytes s b t) entry_bytes_eq ?_ (args_bytes_eq _ _)
  show wpAny _ _ (isInstance x (.type "bytes") >>= _) _ _ _
  refine wpAny_bind (wpAny_isInstance hT sub_bytes_bytes ?_)
  subst hx
  have e : (Builtin.Bytes.holds "__eq__" (Builtin.Bytes.order b.toList c.toList)) = (b == c) := by
    show (Builtin.Bytes.order b.toList c.toList == .eq) = _
    rw [order_eq, Bool.eq_iff_iff]
    simp
  show wpAny _ _ (ret (.bool (Builtin.Bytes.holds "__eq__" (Builtin.Bytes.order b.toList c.toList)))) _ _ _
  rw [e]
  exact wpAny_pure ⟨_, rfl, h⟩
theorem bytes_eq_bytes {b c : Array UInt8} {t u : Tok} {Q : Value → Shared → Prop} (h : Q (.bool (b == c)) s) :
    wpAny (model prog w) A (PySem.call (.builtin "bytes.__eq__") [.bytes b t, .bytes c u]) Q E s := bytes_eq_gen rfl (PySem.W.typeIs_bytes s c u) h
end
section
variable {A : Around} {s : Shared}
theorem rcAt_bytes (b : Array UInt8) (t : Tok) (c : Array UInt8) (u : Tok) : RcAt A s (.bytes b t) (.bytes c u) (b == c) := fun prog w E Q h => by
  rcases hi : cmpInfo CmpOp.Eq with ⟨sym, f, r⟩
  have h1 := slot_bytes_eq
  rw [hi] at h1
  have hT := PySem.W.typeIs_bytes s b t
  have hT2 := PySem.W.typeIs_bytes s c u
  simp only [richCompare, hi, hT.oneThing_none]
  try with_reducible refine wpAny_holding ?_
  refine wpAny_bind (wpAny_cRoomFor_or (.inl rfl) ?_)
  refine wpAny_bind (wpAny_typeOf hT (wpAny_bind (wpAny_typeOf hT2 ?_)))
  simp only [bne_self_eq_false, Bool.false_eq_true, if_false]
  refine wpAny_bind (wpAny_pure ?_)
  simp only [Bool.false_eq_true, if_false]
  exact wpAny_bind (wpAny_tryCompare_slot hT h1 (bytes_eq_bytes ⟨(fun e => nomatch e), wpAny_pure h⟩))
noncomputable def noFl : Value → Bool
  | .float .. => false
  | _ => true
theorem eqAt_of {v u : Value} {k : Bool} (hf : noFl v = true) (hne : (v == u) = true → k = true) (h : RcAt A s v u k) : EqAt A s v u k := fun prog w E Q hq => by
  unfold eqBool
  refine wpAny_holding ?_
  refine wpAny_ite_split (fun hab => ?_) (fun _ => ?_)
  · rw [hne hab] at hq; exact wpAny_bind (wpAny_rule (wpAny_pure hq))
  · cases v <;> first | exact wpAny_bind (h prog w E _ (wpAny_truthy_bool hq)) | cases hf
theorem rcAt_int_bytes (i : Int) (t : Tok) (b : Array UInt8) (u : Tok) : RcAt A s (.int i t) (.bytes b u) false := fun prog w E Q h =>
  rc_eq_decline_or (k := false) (typeIs_int s i t) (PySem.W.typeIs_bytes s b u) (by decide) sub_bytes_int PySem.F.slot_int_eq slot_bytes_eq_refl
    (fun _ hq => wpAny_call_entry PySem.F.slot_int_eq (typeIs_int s i t) PySem.F.entry_int_eq (by obtain ⟨hp, g, d, tk, os⟩ := s; wp_walk; exact ⟨_, rfl, hq⟩) (PySem.F.args_int_eq_2 _ _))
    (fun _ hq => bytes_eq_declines (typeIs_int s i t) sub_int_bytes hq)
    (fun _ hq => wpAny_of_eq (rfl : isSame (.int i t) (.bytes b u) = pure false) hq) (.inl rfl) h
theorem rcAt_bytes_int (b : Array UInt8) (u : Tok) (i : Int) (t : Tok) : RcAt A s (.bytes b u) (.int i t) false := fun prog w E Q h =>
  rc_eq_decline_or (k := false) (PySem.W.typeIs_bytes s b u) (typeIs_int s i t) (by decide) sub_int_bytes slot_bytes_eq PySem.F.slot_int_eq_refl
    (fun _ hq => bytes_eq_declines (typeIs_int s i t) sub_int_bytes hq)
    (fun _ hq => wpAny_call_entry PySem.F.slot_int_eq (typeIs_int s i t) PySem.F.entry_int_eq (by obtain ⟨hp, g, d, tk, os⟩ := s; wp_walk; exact ⟨_, rfl, hq⟩) (PySem.F.args_int_eq_2 _ _))
    (fun _ hq => wpAny_of_eq (rfl : isSame (.bytes b u) (.int i t) = pure false) hq) (.inl rfl) h
theorem rcAt_str_bytes (i : Str) (t : Tok) (b : Array UInt8) (u : Tok) : RcAt A s (.str i t) (.bytes b u) false := fun prog w E Q h =>
  rc_eq_decline_or (k := false) (typeIs_str s i t) (PySem.W.typeIs_bytes s b u) (by decide) sub_bytes_str PySem.F.slot_str_eq slot_bytes_eq_refl
    (fun _ hq => wpAny_call_entry PySem.F.slot_str_eq (typeIs_str s i t) PySem.F.entry_str_eq (by obtain ⟨hp, g, d, tk, os⟩ := s; wp_walk; exact ⟨_, rfl, hq⟩) (PySem.F.args_str_eq_2 _ _))
    (fun _ hq => bytes_eq_declines (typeIs_str s i t) sub_str_bytes hq)
    (fun _ hq => wpAny_of_eq (rfl : isSame (.str i t) (.bytes b u) = pure false) hq) (.inl rfl) h
theorem rcAt_bytes_str (b : Array UInt8) (u : Tok) (i : Str) (t : Tok) : RcAt A s (.bytes b u) (.str i t) false := fun prog w E Q h =>
  rc_eq_decline_or (k := false) (PySem.W.typeIs_bytes s b u) (typeIs_str s i t) (by decide) sub_str_bytes slot_bytes_eq PySem.F.slot_str_eq_refl
    (fun _ hq => bytes_eq_declines (typeIs_str s i t) sub_str_bytes hq)
    (fun _ hq => wpAny_call_entry PySem.F.slot_str_eq (typeIs_str s i t) PySem.F.entry_str_eq (by obtain ⟨hp, g, d, tk, os⟩ := s; wp_walk; exact ⟨_, rfl, hq⟩) (PySem.F.args_str_eq_2 _ _))
    (fun _ hq => wpAny_of_eq (rfl : isSame (.bytes b u) (.str i t) = pure false) hq) (.inl rfl) h
theorem tuple_eq_declines_bytes {prog : Program} {w : World} {A : Around} {E : Value → Shared → Prop} {l : Addr} {vs : List Value} {q : Nat} (g : s.heap.get? l = some (tupObj vs q)) {b : Array UInt8} {u : Tok} {Q : Value → Shared → Prop} (h : Q .notImplemented s) :
    wpAny (model prog w) A (PySem.call (.builtin "tuple.__eq__") [.ref l, .bytes b u]) Q E s := by
  refine wpAny_call_entry PySem.F.slot_tuple_eq ⟨_, g, rfl⟩ PySem.F.entry_tuple_eq ?_ (PySem.F.args_tuple_eq_2 _ _)
  have f1 := sub_bytes_tuple
  unfold tupObj at g
  obtain ⟨hp, gg, d, tk, os⟩ := s
  wp_walk using AutoSeq1.wpAny_loadPart' g
  exact ⟨_, rfl, h⟩
theorem rcAt_tuple_bytes {l : Addr} {vs : List Value} {q : Nat} (g : s.heap.get? l = some (tupObj vs q)) (hu : A.units < cLine) (b : Array UInt8) (u : Tok) : RcAt A s (.ref l) (.bytes b u) false := fun prog w E Q h =>
  rc_eq_decline_or (k := false) (Ta := "tuple") ⟨_, g, rfl⟩ (PySem.W.typeIs_bytes s b u) (by decide) sub_bytes_tuple PySem.F.slot_tuple_eq slot_bytes_eq_refl
    (fun _ hq => tuple_eq_declines_bytes g hq)
    (fun _ hq => bytes_eq_declines (T := "tuple") ⟨_, g, rfl⟩ sub_tuple_bytes hq)
    (fun _ hq => wpAny_of_eq (rfl : isSame (.ref l) (.bytes b u) = pure false) hq) (.inr hu) h
theorem rcAt_bytes_tuple {l : Addr} {vs : List Value} {q : Nat} (g : s.heap.get? l = some (tupObj vs q)) (hu : A.units < cLine) (b : Array UInt8) (u : Tok) : RcAt A s (.bytes b u) (.ref l) false := fun prog w E Q h =>
  rc_eq_decline_or (k := false) (Tb := "tuple") (PySem.W.typeIs_bytes s b u) ⟨_, g, rfl⟩ (by decide) sub_tuple_bytes slot_bytes_eq PySem.F.slot_tuple_eq_refl
    (fun _ hq => bytes_eq_declines (T := "tuple") ⟨_, g, rfl⟩ sub_tuple_bytes hq)
    (fun _ hq => tuple_eq_declines_bytes g hq)
    (fun _ hq => wpAny_of_eq (rfl : isSame (.bytes b u) (.ref l) = pure false) hq) (.inr hu) h
end
end SP
namespace SP
set_option maxRecDepth 100000
open PySem PySem.W PySem.Calls PyProof.Rows PySem.SeqAt
mutual
noncomputable def veq : V → V → Bool
  | .none, .none => true
  | .int i, .int j => i == j
  | .str x, .str y => x == y
  | .bytes b, .bytes c => b == c
  | .tup xs, .tup ys => veqs xs ys
  | .list xs, .list ys => veqs xs ys
  | _, _ => false
noncomputable def veqs : List V → List V → Bool
  | [], [] => true
  | x :: xs, y :: ys => veq x y && veqs xs ys
  | _, _ => false
end
theorem veqsE {x y : V} {xs ys : List V} : veqs (x :: xs) (y :: ys) = (veq x y && veqs xs ys) := rfl
theorem veqs_eq : ∀ (xs ys : List V), veqs xs ys = ((List.range (min xs.length ys.length)).all (fun j => veq (xs.getD j .none) (ys.getD j .none)) && xs.length == ys.length)
  | [], [] => by show true = _; simp
  | [], y :: ys => by show false = _; simp
  | x :: xs, [] => by show false = _; simp
  | x :: xs, y :: ys => by
    rw [veqsE, veqs_eq xs ys]
    have e : min (x :: xs).length (y :: ys).length = min xs.length ys.length + 1 := by simp
    rw [e, List.range_succ_eq_map, List.all_cons, List.all_map]
    have e2 : ((x :: xs).length == (y :: ys).length) = (xs.length == ys.length) := by simp
    rw [e2, Bool.and_assoc]
    rfl
theorem veqs_len {xs ys : List V} (h : xs.length ≠ ys.length) : veqs xs ys = false := by
  rw [veqs_eq]; simp [h]
noncomputable def isAt : V → Bool
  | .int _ => true
  | .str _ => true
  | .bytes _ => true
  | _ => false
inductive Cmp : Nat → V → V → Prop
  | none {n} : Cmp n .none .none
  | nt {n ys} : Cmp n .none (.tup ys)
  | aa {n x y} : isAt x = true → isAt y = true → Cmp n x y
  | ta {n xs y} : isAt y = true → Cmp n (.tup xs) y
  | av {n x ys} : isAt x = true → Cmp n x (.tup ys)
  | tup {n xs ys} : (∀ (i : Nat) x y, xs[i]? = some x → ys[i]? = some y → Cmp n x y) → Cmp (n + 1) (.tup xs) (.tup ys)
  | list {n xs ys} : (∀ (i : Nat) x y, xs[i]? = some x → ys[i]? = some y → Cmp n x y) → Cmp (n + 1) (.list xs) (.list ys)
theorem veqs_same {xs ys : List V} {vs : List Value} {w : World} {Z : Fz} (h : ∀ (i : Nat) x y v, xs[i]? = some x → ys[i]? = some y → VRel w Z x v → VRel w Z y v → veq x y = true) (hx : VRels w Z xs vs) (hy : VRels w Z ys vs) : veqs xs ys = true := by
  induction xs generalizing ys vs with
  | nil => obtain rfl := hx.nil_inv; cases ys with | nil => rfl | cons => have := hy.1; simp at this
  | cons x xs ih =>
    obtain ⟨v, us, rfl, r1, r2⟩ := hx.cons_inv
    cases ys with
    | nil => have := hy.1; simp at this
    | cons y ys =>
      obtain ⟨v2, us2, e, r3, r4⟩ := hy.cons_inv
      cases e
      rw [veqsE, h 0 x y v rfl rfl r1 r3, Bool.true_and]
      exact ih (fun i x y v a b => h (i + 1) x y v (by simpa using a) (by simpa using b)) r2 r4
theorem tupObj_inj {vs us : List Value} {q q2 : Nat} (h : tupObj vs q = tupObj us q2) : vs = us := by
  unfold tupObj at h
  injection h with _ _ h3 _
  injection h3 with h4
  simpa using h4
theorem listObj_inj {vs us : List Value} {q q2 : Nat} (h : listObj vs q = listObj us q2) : vs = us := by
  unfold listObj at h
  injection h with _ _ h3 _
  injection h3 with h4
  simpa using h4
noncomputable def unV : Value → V
  | .int i _ => .int i
  | .str x _ => .str x
  | .bytes b _ => .bytes b
  | _ => .none
noncomputable def isRf : Value → Bool
  | .ref _ => true
  | _ => false
theorem VRel.un_tup {w : World} {Z : Fz} {xs : List V} {v : Value} (r : VRel w Z (.tup xs) v) : isRf v = true := by cases r; rfl
theorem VRel.un_none {w : World} {Z : Fz} {v : Value} (r : VRel w Z .none v) : isRf v = false := by cases r; rfl
inductive AtI : V → Value → Prop
  | int (i t) : AtI (.int i) (.int i t)
  | str (x t) : AtI (.str x) (.str x t)
  | bytes (b t) : AtI (.bytes b) (.bytes b t)
theorem VRel.atI {w : World} {Z : Fz} {x : V} {v : Value} (r : VRel w Z x v) (h : isAt x = true) : AtI x v := by
  cases r <;> first | exact .int _ _ | exact .str _ _ | exact .bytes _ _ | cases h
theorem AtI.un {x : V} {v : Value} (a : AtI x v) : x = unV v ∧ isRf v = false := by cases a <;> exact ⟨rfl, rfl⟩
theorem VRel.no_ta {w : World} {Z : Fz} {xs : List V} {y : V} {v : Value} (hy : isAt y = true) (a : VRel w Z (.tup xs) v) (b : VRel w Z y v) : False := by
  have := a.un_tup; rw [(b.atI hy).un.2] at this; cases this
theorem veq_at {x : V} (h : isAt x = true) : veq x x = true := by
  cases x <;> first | (cases h; done) | rfl | exact beq_self_eq_true _
theorem VRel.tupI {w : World} {Z : Fz} {xs : List V} {v : Value} (r : VRel w Z (.tup xs) v) : ∃ vs a q, v = .ref a ∧ Z a = some (tupObj vs q) ∧ VRels w Z xs vs := by
  cases r with | tup e l r => exact ⟨_, _, _, rfl, e, l, r⟩
theorem VRel.listI {w : World} {Z : Fz} {xs : List V} {v : Value} (r : VRel w Z (.list xs) v) : ∃ vs a q, v = .ref a ∧ Z a = some (listObj vs q) ∧ VRels w Z xs vs := by
  cases r with | list e l r => exact ⟨_, _, _, rfl, e, l, r⟩
theorem VRel.noneI {w : World} {Z : Fz} {v : Value} (r : VRel w Z .none v) : v = .none := by cases r; rfl
theorem same_veq {n x y} (h : Cmp n x y) {w : World} {Z : Fz} {v : Value} : VRel w Z x v → VRel w Z y v → veq x y = true := by
  induction h generalizing v with
  | none => intro _ _; rfl
  | nt => intro a b; have := b.un_tup; rw [a.un_none] at this; cases this
  | @aa n x y hx hy =>
    intro a b
    rw [(a.atI hx).un.1, ← (b.atI hy).un.1]; exact veq_at hy
  | @ta n xs y hy => intro a b; exact (a.no_ta hy b).elim
  | @av n x ys hx => intro a b; exact (b.no_ta hx a).elim
  | @tup n xs ys h ih =>
    intro a b
    obtain ⟨vs, la, q, rfl, e, l, r⟩ := a.tupI
    obtain ⟨us, lb, q2, eb, e2, l2, r2⟩ := b.tupI
    cases eb
    rw [e] at e2
    have : vs = us := tupObj_inj (Option.some.inj e2)
    subst this
    exact veqs_same (fun i x y v a b => ih i x y a b (v := v)) ⟨l, r⟩ ⟨l2, r2⟩
  | @list n xs ys h ih =>
    intro a b
    obtain ⟨vs, la, q, rfl, e, l, r⟩ := a.listI
    obtain ⟨us, lb, q2, eb, e2, l2, r2⟩ := b.listI
    cases eb
    rw [e] at e2
    have : vs = us := listObj_inj (Option.some.inj e2)
    subst this
    exact veqs_same (fun i x y v a b => ih i x y a b (v := v)) ⟨l, r⟩ ⟨l2, r2⟩
theorem noFl_of {w Z x v} (r : VRel w Z x v) : noFl v = true := by cases r <;> rfl
theorem getD_of {xs : List V} {i : Nat} {x : V} (h : xs[i]? = some x) : xs.getD i .none = x := by rw [List.getD_eq_getElem?_getD, h]; rfl
theorem all_iff {xs ys : List V} {vs us : List Value} (hl : xs.length = vs.length) (hl2 : ys.length = us.length) :
    ((List.range (min vs.toArray.size us.toArray.size)).all (fun j => veq (xs.getD j .none) (ys.getD j .none)) && vs.toArray.size == us.toArray.size) = veqs xs ys := by
  rw [veqs_eq, List.size_toArray, List.size_toArray, ← hl, ← hl2]
theorem AtI.rc {x y : V} {v u : Value} (a : AtI x v) (b : AtI y u) {A : Around} {s : Shared} : RcAt A s v u (veq x y) := by
  cases a with
  | int => cases b with
    | int => exact RcAt.int_int _ _ _ _
    | str => exact RcAt.int_str _ _ _ _
    | bytes => exact rcAt_int_bytes _ _ _ _
  | str => cases b with
    | int => exact RcAt.str_int _ _ _ _
    | str => exact RcAt.str_str _ _ _ _
    | bytes => exact rcAt_str_bytes _ _ _ _
  | bytes => cases b with
    | int => exact rcAt_bytes_int _ _ _ _
    | str => exact rcAt_bytes_str _ _ _ _
    | bytes => exact rcAt_bytes _ _ _ _
theorem rcAt_V {n x y} (h : Cmp n x y) {w : World} {Z : Fz} {A : Around} {s : Shared} (hs : ∀ a o, Z a = some o → s.heap.get? a = some o) : ∀ {v u : Value}, A.units + n < cLine → VRel w Z x v → VRel w Z y u → RcAt A s v u (veq x y) := by
  induction h generalizing A with
  | none => intro v u hu a b; rw [a.noneI, b.noneI]; exact RcAt.none_none
  | nt => intro v u hu a b; obtain ⟨us, p, q, rfl, e, r⟩ := b.tupI; rw [a.noneI]; exact RcAt.none_tuple ⟨_, hs _ _ e, rfl, _, rfl⟩ (by omega)
  | @aa n x y hx hy => intro v u hu a b; exact (a.atI hx).rc (b.atI hy)
  | @ta n xs y hy =>
    intro v u hu a b
    obtain ⟨us, p, q, rfl, e, r⟩ := a.tupI
    cases b.atI hy with
    | int => exact RcAt.tuple_int _ _ ⟨_, hs _ _ e, rfl, _, rfl⟩ (by omega)
    | str => exact RcAt.tuple_str _ _ ⟨_, hs _ _ e, rfl, _, rfl⟩ (by omega)
    | bytes => exact rcAt_tuple_bytes (hs _ _ e) (by omega) _ _
  | @av n x ys hx =>
    intro v u hu a b
    obtain ⟨us, p, q, rfl, e, r⟩ := b.tupI
    cases a.atI hx with
    | int => exact RcAt.int_tuple _ _ ⟨_, hs _ _ e, rfl, _, rfl⟩ (by omega)
    | str => exact RcAt.str_tuple _ _ ⟨_, hs _ _ e, rfl, _, rfl⟩ (by omega)
    | bytes => exact rcAt_bytes_tuple (hs _ _ e) (by omega) _ _
  | @tup n xs ys hc ih =>
    intro v u hu a b
    obtain ⟨vs, la, q, rfl, e, l, r⟩ := a.tupI
    obtain ⟨us, lb, q2, rfl, e2, l2, r2⟩ := b.tupI
    have key := RcAt.tuples (A := A) (s := s) (l := la) (b := lb) (items := vs.toArray) (items2 := us.toArray) (e := fun j => veq (xs.getD j .none) (ys.getD j .none)) ⟨_, hs _ _ e, rfl, _, rfl⟩ ⟨_, hs _ _ e2, rfl, _, rfl⟩ (by omega) (fun j h1 h2 => ?_)
    · rw [all_iff l l2] at key
      exact key
    · have hj1 : j < xs.length := by rw [l]; simpa using h1
      have hj2 : j < ys.length := by rw [l2]; simpa using h2
      have x1 : xs[j]? = some xs[j] := by simp [hj1]
      have y1 : ys[j]? = some ys[j] := by simp [hj2]
      have rx := r j _ vs[j] x1 (by simp)
      have ry := r2 j _ us[j] y1 (by simp)
      rw [getD_of x1, getD_of y1]
      simp only [List.getElem_toArray]
      exact eqAt_of (noFl_of rx) (fun q => by rw [eq_of_beq q] at rx; exact same_veq (hc j _ _ x1 y1) rx ry) (ih j _ _ x1 y1 (show A.units + 1 + n < cLine by omega) rx ry)
  | @list n xs ys hc ih =>
    intro v u hu a b
    obtain ⟨vs, la, q, rfl, e, l, r⟩ := a.listI
    obtain ⟨us, lb, q2, rfl, e2, l2, r2⟩ := b.listI
    by_cases hsz : vs.length = us.length
    · have key := RcAt.lists (A := A) (s := s) (l := la) (b := lb) (items := vs.toArray) (items2 := us.toArray) (e := fun j => veq (xs.getD j .none) (ys.getD j .none)) ⟨_, hs _ _ e, rfl, _, rfl⟩ ⟨_, hs _ _ e2, rfl, _, rfl⟩ (by simpa using hsz) (by omega) (fun j h1 h2 => ?_)
      · have e3 : veq (.list xs) (.list ys) = (List.range vs.toArray.size).all (fun j => veq (xs.getD j .none) (ys.getD j .none)) := by
          show veqs xs ys = _
          rw [← all_iff l l2, List.size_toArray, List.size_toArray, hsz]; simp
        rw [e3]; exact key
      · have hj1 : j < xs.length := by rw [l]; simpa using h1
        have hj2 : j < ys.length := by rw [l2]; simpa using h2
        have x1 : xs[j]? = some xs[j] := by simp [hj1]
        have y1 : ys[j]? = some ys[j] := by simp [hj2]
        have rx := r j _ vs[j] x1 (by simp)
        have ry := r2 j _ us[j] y1 (by simp)
        rw [getD_of x1, getD_of y1]
        simp only [List.getElem_toArray]
        exact eqAt_of (noFl_of rx) (fun q => by rw [eq_of_beq q] at rx; exact same_veq (hc j _ _ x1 y1) rx ry) (ih j _ _ x1 y1 (show A.units + 1 + n < cLine by omega) rx ry)
    · have e3 : veq (.list xs) (.list ys) = false := veqs_len (by rw [l, l2]; exact hsz)
      rw [e3]
      exact RcAt.lists_lengths ⟨_, hs _ _ e, rfl, _, rfl⟩ ⟨_, hs _ _ e2, rfl, _, rfl⟩ (by simpa using hsz) (by omega)
theorem eqAt_V {n x y} (h : Cmp n x y) {w : World} {Z : Fz} {A : Around} {s : Shared} (hs : ∀ a o, Z a = some o → s.heap.get? a = some o) {v u : Value} (hu : A.units + n < cLine) (a : VRel w Z x v) (b : VRel w Z y u) : EqAt A s v u (veq x y) :=
  eqAt_of (noFl_of a) (fun q => by rw [eq_of_beq q] at a; exact same_veq h a b) (rcAt_V h hs hu a b)
end SP
namespace SP
set_option maxRecDepth 100000
open PySem PySem.W PySem.Calls PyProof.Rows PySem.SeqAt
section
variable {C : Cx} {n : Nat} {env : Env} {l : Loc} {μ : Mu}
theorem CmpV.eqD {k : Nat} {x y : V} {Φ : V → Mu → Prop} (h : Cmp k x y) (hk : k ≤ 1000) (hq : Φ (.bool (veq x y)) μ) : CmpV C n .Eq x y Φ μ := by
  intro A hA Z ρ a' b' ra rb s R
  exact rcAt_V h R.z (by have := hA.u; show _ < 9900; omega) ra rb C.prog C.w _ _ ⟨⟨Z, μ, ρ⟩, R, ext.rfl, rfl, _, .bool _, hq⟩
theorem all_cmp {k : Nat} {xs ys : List V} {vs us : List Value} {w : World} {Z : Fz} {A : Around} {s : Shared} (hs : ∀ a o, Z a = some o → s.heap.get? a = some o) (rv : VRels w Z xs vs) (ru : VRels w Z ys us)
    (h : ∀ (i : Nat) x y, xs[i]? = some x → ys[i]? = some y → Cmp k x y) (hu : A.units + 1 + k < cLine) :
    ∀ j (h1 : j < vs.toArray.size) (h2 : j < us.toArray.size), EqAt A.in1 s vs.toArray[j] us.toArray[j] (veq (xs.getD j .none) (ys.getD j .none)) := by
  intro j h1 h2
  have hj1 : j < xs.length := by rw [rv.1]; simpa using h1
  have hj2 : j < ys.length := by rw [ru.1]; simpa using h2
  have x1 : xs[j]? = some xs[j] := by simp [hj1]
  have y1 : ys[j]? = some ys[j] := by simp [hj2]
  have rx := rv.2 j _ vs[j] x1 (by simp)
  have ry := ru.2 j _ us[j] y1 (by simp)
  rw [getD_of x1, getD_of y1]
  simp only [List.getElem_toArray]
  exact eqAt_V (h j _ _ x1 y1) hs (A := A.in1) (by show A.units + 1 + k < cLine; exact hu) rx ry
theorem CmpV.neT {k : Nat} {xs ys : List V} {Φ : V → Mu → Prop} (h : ∀ (i : Nat) x y, xs[i]? = some x → ys[i]? = some y → Cmp k x y) (hk : k ≤ 1000) (hq : Φ (.bool (!veqs xs ys)) μ) : CmpV C n .NotEq (.tup xs) (.tup ys) Φ μ := by
  intro A hA Z ρ a' b' ra rb s R
  obtain ⟨vs, a, q, rfl, e, l1, r⟩ := ra.inv
  obtain ⟨us, b, q2, rfl, e2, l2, r2⟩ := rb.inv
  have hu : A.units + 1 + k < cLine := by have := hA.u; show _ < 9900; omega
  have key := RcNeAt.tuples (A := A) (s := s) (l := a) (b := b) (items := vs.toArray) (items2 := us.toArray) (e := fun j => veq (xs.getD j .none) (ys.getD j .none)) ⟨_, R.z _ _ e, rfl, _, rfl⟩ ⟨_, R.z _ _ e2, rfl, _, rfl⟩ (by omega) (all_cmp R.z ⟨l1, r⟩ ⟨l2, r2⟩ h hu)
  rw [all_iff l1 l2] at key
  exact key C.prog C.w _ _ ⟨⟨Z, μ, ρ⟩, R, ext.rfl, rfl, _, .bool _, hq⟩
theorem CmpV.neL {k : Nat} {x y : V} {xs ys : List V} {Φ : V → Mu → Prop} (hx : SeeL C x xs μ) (hy : SeeL C y ys μ) (h : ∀ (i : Nat) x y, xs[i]? = some x → ys[i]? = some y → Cmp k x y) (hk : k ≤ 1000) (hq : Φ (.bool (!veqs xs ys)) μ) : CmpV C n .NotEq x y Φ μ := by
  intro A hA Z ρ a' b' ra rb s R
  obtain ⟨a, vs, q, rfl, g, rv⟩ := hx R ra
  obtain ⟨b, us, q2, rfl, g2, ru⟩ := hy R rb
  have hu : A.units + 1 + k < cLine := by have := hA.u; show _ < 9900; omega
  by_cases hsz : vs.length = us.length
  · have key := RcNeAt.lists (A := A) (s := s) (l := a) (b := b) (items := vs.toArray) (items2 := us.toArray) (e := fun j => veq (xs.getD j .none) (ys.getD j .none)) ⟨_, g, rfl, _, rfl⟩ ⟨_, g2, rfl, _, rfl⟩ (by simpa using hsz) (by omega) (all_cmp R.z rv ru h hu)
    have e3 : veqs xs ys = (List.range vs.toArray.size).all (fun j => veq (xs.getD j .none) (ys.getD j .none)) := by
      rw [← all_iff rv.1 ru.1, List.size_toArray, List.size_toArray, hsz]; simp
    rw [← e3] at key
    exact key C.prog C.w _ _ ⟨⟨Z, μ, ρ⟩, R, ext.rfl, rfl, _, .bool _, hq⟩
  · have e3 : veqs xs ys = false := veqs_len (by rw [rv.1, ru.1]; exact hsz)
    rw [e3] at hq
    exact RcNeAt.lists_lengths (A := A) (s := s) (l := a) (b := b) (items := vs.toArray) (items2 := us.toArray) ⟨_, g, rfl, _, rfl⟩ ⟨_, g2, rfl, _, rfl⟩ (by simpa using hsz) (by omega) C.prog C.w _ _ ⟨⟨Z, μ, ρ⟩, R, ext.rfl, rfl, _, .bool _, hq⟩
theorem CmpV.neB {a b : Bool} {Φ : V → Mu → Prop} (h : Φ (.bool (!(a == b))) μ) : CmpV C n .NotEq (.bool a) (.bool b) Φ μ := by
  intro A hA Z ρ a' b' ra rb s R; (first | obtain rfl := ra.inv | obtain ⟨_, rfl⟩ := ra.inv | cases ra); (first | obtain rfl := rb.inv | obtain ⟨_, rfl⟩ := rb.inv | cases rb)
  exact RcNeAt.bool_bool (A := A) (s := s) a b C.prog C.w _ _ ⟨⟨Z, μ, ρ⟩, R, ext.rfl, rfl, _, .bool _, h⟩
theorem CmpV.eqY {a b : Array UInt8} {Φ : V → Mu → Prop} (h : Φ (.bool (a == b)) μ) : CmpV C n .Eq (.bytes a) (.bytes b) Φ μ := by
  intro A hA Z ρ a' b' ra rb s R; (first | obtain rfl := ra.inv | obtain ⟨_, rfl⟩ := ra.inv | cases ra); (first | obtain rfl := rb.inv | obtain ⟨_, rfl⟩ := rb.inv | cases rb)
  exact rcAt_bytes (A := A) (s := s) _ _ _ _ C.prog C.w _ _ ⟨⟨Z, μ, ρ⟩, R, ext.rfl, rfl, _, .bool _, h⟩
theorem CmpV.notInL {v : V} {k : Int} {ks : List Int} {Φ : V → Mu → Prop} (hv : SeeL C v (ks.map V.int) μ) (h : Φ (.bool (!(ks.any (· == k)))) μ) : CmpV C n .NotIn (.int k) v Φ μ := by
  intro A hA Z ρ a' b' ra rb s R
  obtain ⟨a, vs, q, rfl, g, rv⟩ := hv R rb
  (first | obtain rfl := ra.inv | obtain ⟨_, rfl⟩ := ra.inv | cases ra)
  exact notin_list_ints (vs := vs) ⟨_, g, rfl, q, rfl⟩ (intsAre_of rv) ⟨⟨Z, μ, ρ⟩, R, ext.rfl, rfl, _, .bool _, h⟩
theorem strsAre_of {w Z} {ks : List Str} {vs : List Value} (r : VRels w Z (ks.map V.str) vs) : StrsAre vs ks := by
  induction ks generalizing vs with
  | nil => obtain rfl := r.nil_inv; exact .nil
  | cons k ks ih => obtain ⟨v, us, rfl, r1, r2⟩ := r.cons_inv; (first | obtain rfl := r1.inv | obtain ⟨_, rfl⟩ := r1.inv | cases r1); exact .cons _ _ (ih r2)
theorem CmpV.notInT {k : Str} {ks : List Str} {Φ : V → Mu → Prop} (h : Φ (.bool (!(ks.any (· == k)))) μ) : CmpV C n .NotIn (.str k) (.tup (ks.map V.str)) Φ μ := by
  intro A hA Z ρ a' b' ra rb s R
  (first | obtain rfl := ra.inv | obtain ⟨_, rfl⟩ := ra.inv | cases ra)
  obtain ⟨vs, a, q, rfl, e, l, r⟩ := rb.inv
  exact notin_tuple_strs (items := vs.toArray) ⟨_, R.z _ _ e, rfl, q, rfl⟩ (by simpa using strsAre_of ⟨l, r⟩) ⟨⟨Z, μ, ρ⟩, R, ext.rfl, rfl, _, .bool _, h⟩
theorem BinV.addT {x : V} {xs ys : List V} {Φ : V → Mu → Prop} (hz : (x :: xs).length + ys.length ≤ 16777216) (h : Φ (.tup ((x :: xs) ++ ys)) μ) : BinV C n .Add (.tup (x :: xs)) (.tup ys) Φ μ := by
  intro A hA Z ρ a' b' ra rb s R
  obtain ⟨vs, a, q, rfl, e, l1, r⟩ := ra.inv
  obtain ⟨us, b, q2, rfl, e2, l2, r2⟩ := rb.inv
  have rv : VRels C.w Z (x :: xs) vs := ⟨l1, r⟩
  have ru : VRels C.w Z ys us := ⟨l2, r2⟩
  have hv : vs ≠ [] := by rintro rfl; have := rv.1; simp at this
  by_cases hw : us = []
  · subst hw
    have : ys = [] := by have := ru.1; simpa using this
    subst this
    refine concat_meets ⟨_, R.z _ _ e, rfl⟩ ⟨_, R.z _ _ e2, rfl⟩ noFill_tuple_add seq_tuple_add PySem.F.slot_tuple_add PySem.F.entry_tuple_add (PySem.F.args_tuple_add_2 _ _)
      (tuple_addW1 a b vs.toArray #[] q q2 none none #[] #[] (by simpa using hv) rfl) ⟨R.z _ _ e, R.z _ _ e2, ?_⟩
    exact ⟨⟨Z, μ, ρ⟩, R, ext.rfl, rfl, _, VRel.ofTup e rv, by simpa using h⟩
  · refine concat_meets ⟨_, R.z _ _ e, rfl⟩ ⟨_, R.z _ _ e2, rfl⟩ noFill_tuple_add seq_tuple_add PySem.F.slot_tuple_add PySem.F.entry_tuple_add (PySem.F.args_tuple_add_2 _ _)
      (tuple_addW2 a b vs.toArray us.toArray q q2 none none #[] #[] (by simpa using hv) (by simpa using hw) (by rw [List.size_toArray, List.size_toArray, ← rv.1, ← ru.1, sizeLine_eq]; exact hz)) ⟨R.z _ _ e, R.z _ _ e2, ?_⟩
    have e3 : vs.toArray ++ us.toArray = (vs ++ us).toArray := by simp
    rw [e3]
    exact ⟨⟨_, μ, ρ⟩, R.pushZ (tupObj (vs ++ us) 0) s.toks, ext_fup R.newZ, rfl, _, VRel.ofTup (fup_self ..) ((rv.append ru).mono (ext_fup R.newZ)), h⟩
theorem CallV.bytesL {ks : List Int} {Φ : V → Mu → Prop} (hr : ∀ n ∈ ks, 0 ≤ n ∧ n < 256) (hz : ks.length ≤ 16777216) (h : Φ (.bytes (byteArr ks)) μ) : CallV C n (.type "bytes") [.list (ks.map V.int)] Φ μ := by
  intro A hA Z ρ vs r s R
  obtain ⟨v', us, rfl, r1, r2⟩ := r.cons_inv
  obtain rfl := r2.nil_inv
  obtain ⟨a, ws, q, rfl, g, rv⟩ := SeeL.z R r1
  exact call_bytes_ints (vs := ws) ⟨_, g, rfl, q, rfl⟩ (intsAre_of rv) hr (by rw [← rv.1, List.length_map, sizeLine_eq]; exact hz) hA.h fun h' t k hk => ⟨⟨Z, μ, ρ⟩, R.grow hk rfl rfl, ext.rfl, rfl, _, .bytes _ t, h⟩
end
end SP
namespace SP
set_option maxRecDepth 100000
open PySem PySem.W PySem.Calls PyProof.Rows PySem.SeqAt
theorem bytes_dunder : typeLookup (.type "bytes") "__bytes__" = pure (some (.builtin "bytes.__bytes__")) := by rw [typeLookup_type, builtinLookup_eq_fast]; kernel_rfl
section
variable {C : Cx} {n : Nat} {env : Env} {l : Loc} {μ : Mu}
theorem bytes_new_bytes {A : Around} {prog : Program} {w : World} {E : Value → Shared → Prop} {s : Shared} {b : Array UInt8} {t : Tok} {Q : Value → Shared → Prop} (hQ : Q (.bytes b t) s) :
    codeAny (model prog w) A (.call (.builtin "bytes.__new__") ⟨[.type "bytes", .bytes b t], []⟩) (wants Q E) s := by
  refine codeAny_of_tree ?_
  show wpAny _ A.in1 (do checkBuiltinCall "bytes.__new__" ⟨[.type "bytes", .bytes b t], []⟩; again (.builtin "bytes.__new__" ⟨[.type "bytes", .bytes b t], []⟩)) _ _ s
  refine wpAny_bind (wpAny_of_eq (F.bm_newCall _) (wpAny_pure ⟨plainId_quiet F.bm_plain _, codeAny_builtin F.bm_entry ?_⟩))
  rw [Around.under_plainId F.bm_plain _]
  have hT : s.TypeIs (.bytes b t) "bytes" := PySem.W.typeIs_bytes s b t
  unfold Builtin.«bytes.__new__»
  refine wpAny_bind (wpAny_of_eq (a := true) rfl ?_)
  refine bm_if_false rfl ?_
  refine wpAny_bind (wpAny_of_eq F.bm_sub ?_)
  refine bm_if_false rfl ?_
  refine wpAny_bind (wpAny_of_eq (F.bm_bind _) ?_)
  refine wpAny_bind (wpAny_of_eq (a := ()) rfl ?_)
  refine wpAny_bind (wpAny_of_eq (a := ()) rfl ?_)
  refine bm_if_false rfl ?_
  refine wpAny_bind (wpAny_specialOf hT bytes_dunder ?_)
  refine wpAny_bind (wpAny_rule ?_)
  refine wpAny_bind (wpAny_typeOf hT ?_)
  refine bm_if_true (by decide) ?_
  exact wpAny_pure hQ
theorem CallV.bytesB {b : Array UInt8} {Φ : V → Mu → Prop} (h : Φ (.bytes b) μ) : CallV C n (.type "bytes") [.bytes b] Φ μ := by
  intro A hA Z ρ vs r s R
  obtain ⟨v', us, rfl, r1, r2⟩ := r.cons_inv
  obtain rfl := r2.nil_inv
  obtain ⟨t, rfl⟩ := r1.inv
  refine callType_codes (Q₁ := fun obj s₁ => s₁.TypeIs obj "bytes" ∧ obj = .bytes b t ∧ s₁ = s) F.bm_called (F.bm_typeCall _) F.entry_object_init
    (bytes_new_bytes ⟨PySem.W.typeIs_bytes _ _ _, rfl, rfl⟩) fun obj s₁ h₁ => ?_
  obtain ⟨hT, rfl, rfl⟩ := h₁
  exact ⟨hT, F.args_object_init_2 _ _, object_init_meets F.bm_called.init.lookup F.bm_called.made (by decide) C.prog C.w A.in1 _ s₁ ⟨hT, rfl, ⟨⟨Z, μ, ρ⟩, R, ext.rfl, rfl, _, .bytes _ t, h⟩⟩⟩
theorem We.upto {e i : Expr} {p pos : Pos} {Φ : V → Mu → Prop} (h : We C n env e (fun a μ1 => We C n env i (fun b μ2 => ∃ (ks : List Int) (k : Int), b = .int k ∧ 0 ≤ k ∧ SeeL C a (ks.map V.int) μ2 ∧ ks.length ≤ 16777216 ∧ Φ (.list ((ks.take k.toNat).map V.int)) μ2) l μ1) l μ)
    (ht : ∀ o r, letTemporaryGo e o r = pure () := by intro _ _; rfl) : We C n env (.Subscript e (.Slice Option.none (some i) Option.none p) pos) Φ l μ := by
  intro A hA Z ρ F s R
  refine wpAny_Subscript_list_slice (We.use h hA F R fun a' s1 Z1 a μ1 R1 x1 F1 ra q => ?_) ht
  refine wpAny_pure (We.use q hA F1 R1 fun b' s2 Z2 b μ2 R2 x2 F2 rb ⟨ks, k, e1, h0, hs, hz, hq⟩ => ?_)
  subst e1
  obtain ⟨t, rfl⟩ := rb.inv
  obtain ⟨la, vs, q, rfl, g, rv⟩ := hs R2 (ra.mono x2)
  have hi := intsAre_of rv
  have hl : vs.length = ks.length := by rw [← rv.1, List.length_map]
  refine ⟨la, vs.toArray, Option.none, some k, rfl, ⟨_, g, rfl, q, rfl⟩, by rw [List.size_toArray, hl, sizeLine_eq]; exact hz, .none, .int k t, ?_⟩
  have hS := slice_ints_uptoW hi h0
  generalize hpk : slicePick vs.toArray Option.none (some k) Option.none = picked at hS
  have hpush1 : s2.heap.get? s2.heap.objs.size = Option.none := none_at (Nat.le_refl _)
  have R3 := R2.push { cls := .type "slice", data := .fields #[.none, .int k t, .none] } s2.toks
  have R4 := R3.pushZ (listObj picked.toList 0) s2.toks
  have hsz : (s2.heap.push { cls := .type "slice", data := .fields #[.none, .int k t, .none] }).objs.size = s2.heap.objs.size + 1 := size_push ..
  rw [hsz] at R4
  refine ⟨⟨fup Z2 (s2.heap.objs.size + 1) (some (listObj picked.toList 0)), μ2, ρ⟩, ?_, (x1.trans x2).trans (ext_fup (hsz ▸ R3.newZ)), rfl, _, VRel.ofList (fup_self ..) ((of_intsAre hS).mono (ext_fup (hsz ▸ R3.newZ))), hq⟩
  have e5 : listObj picked.toList 0 = { cls := .type "list", data := .seq picked } := by simp [listObj]
  rw [e5] at R4 ⊢
  exact R4
variable {κ : Type} [DecidableEq κ] {mk : κ → V} {cell : List (κ × V) → Cell}
noncomputable def Wkv (C : Cx) (n : Nat) (env : Env) (mk : κ → V) (Φ : List (κ × V) → Mu → Prop) (l : Loc) : List (Option Expr) → List Expr → Mu → Prop
  | some k :: ks, v :: vs, μ => We C n env k (fun kv μ1 => ∃ key, kv = mk key ∧ We C n env v (fun x μ2 => Wkv C n env mk (fun rest μ3 => Φ ((key, x) :: rest) μ3) l ks vs μ2) l μ1) l μ
  | [], [], μ => Φ [] μ
  | _, _, _ => False
noncomputable def KVs (w : World) (Z : Fz) (mk : κ → V) : List (κ × V) → List (Value × Value) → Prop
  | [], [] => True
  | (k, x) :: r, (k', x') :: r' => VRel w Z (mk k) k' ∧ VRel w Z x x' ∧ KVs w Z mk r r'
  | _, _ => False
theorem Wkv.use {A : Around} (hA : AOk n A) {ρ : Fz} {pos : Pos} : ∀ (ks : List (Option Expr)) (vs : List Expr) {Φ : List (κ × V) → Mu → Prop} {μ : Mu} {Z : Fz} {s : Shared} {Q : List (Value × Value) → Shared → Prop}, Wkv C n env mk Φ l ks vs μ → Frm C env l Z ρ → Rel C Z μ ρ s →
    (∀ ps' s' Z' ps μ', Rel C Z' μ' ρ s' → ext Z Z' → Frm C env l Z' ρ → KVs C.w Z' mk ps ps' → Φ ps μ' → Q ps' s') → wpAny (model C.prog C.w) A (evalPairs (pairTrees ks vs env pos)) Q NoE s
  | [], [], Φ, μ, Z, s, Q, h, F, R, k => wpAny_pure (k [] s Z [] μ R ext.rfl F trivial h)
  | some ke :: ks, ve :: vs, Φ, μ, Z, s, Q, h, F, R, k => by
    show wpAny _ _ (eval ke env >>= _) _ _ _
    refine wpAny_bind (We.use h hA F R fun k' s1 Z1 kv μ1 R1 x1 F1 rk ⟨key, e1, h1⟩ => ?_)
    subst e1
    refine wpAny_bind (wpAny_holding (wpAny_bind (We.use h1 hA F1 R1 fun x' s2 Z2 x μ2 R2 x2 F2 rx h2 => wpAny_bind (wpAny_standAt (wpAny_pure ?_)))))
    refine wpAny_bind (wpAny_holding (Wkv.use hA ks vs h2 F2 R2 fun ps' s3 Z3 ps μ3 R3 x3 F3 rp h3 => wpAny_pure ?_))
    exact k _ s3 Z3 ((key, x) :: ps) μ3 R3 ((x1.trans x2).trans x3) F3 ⟨(rk.mono x2).mono x3, rx.mono x3, rp⟩ h3
  | [], _ :: _, _, _, _, _, _, h, _, _, _ => h.elim
  | some _ :: _, [], _, _, _, _, _, h, _, _, _ => h.elim
  | none :: _, [], _, _, _, _, _, h, _, _, _ => h.elim
  | none :: _, _ :: _, _, _, _, _, _, h, _, _, _ => h.elim
theorem storeAll_use (K : DKind C κ mk cell) {A : Around} (hu : A.units + 2 < 9900) {Z ρ : Fz} {D : Addr} {Q : PUnit → Shared → Prop} {μ : Mu} : ∀ (ps : List (κ × V)) (ps' : List (Value × Value)) (acc : List (κ × V)) (s : Shared), KVs C.w Z mk ps ps' → acc.length + ps.length ≤ 16777216 →
    Rel C Z (fup μ D (some (cell acc))) ρ s → (∀ s', Rel C Z (fup μ D (some (cell (ps.foldl (fun a p => putK a p.1 p.2) acc)))) ρ s' → Q () s') → wpAny (model C.prog C.w) A (storeAll D ps') Q NoE s
  | [], [], acc, s, _, _, R, k => wpAny_pure (k s R)
  | (key, x) :: r, (k', x') :: r', acc, s, h, hz, R, k => by
    unfold storeAll
    rw [List.forIn_cons]
    have hz' : acc.length + (r.length + 1) ≤ 16777216 := hz
    refine wpAny_bind (wpAny_bind (K.set hu (fup_self ..) (by omega) R h.1 h.2.1 fun s1 R1 => wpAny_pure ?_))
    have e : fup (fup μ D (some (cell acc))) D (some (cell (putK acc key x))) = fup μ D (some (cell (putK acc key x))) := by
      funext b; by_cases hb : b = D <;> simp [fup, hb]
    rw [e] at R1
    have := putK_length (kvs := acc) (k := key) (x := x)
    exact storeAll_use K hu r r' _ s1 h.2.2 (by omega) R1 k
  | [], _ :: _, _, _, h, _, _, _ => h.elim
  | (_, _) :: _, [], _, _, h, _, _, _ => h.elim
theorem We.dictD (K : DKind C κ mk cell) {keys : List (Option Expr)} {values : List Expr} {pos : Pos} {Φ : V → Mu → Prop}
    (h : Wkv C n env mk (fun ps μ' => ps.length ≤ 16777216 ∧ ∀ d, μ' d = Option.none → Φ (.ref d) (fup μ' d (some (cell (dictOfL ps))))) l keys values μ)
    (hall : keys.all (·.isSome) = true := by rfl) (hl : keys.length = values.length := by rfl) (h0 : keys ≠ [] := by simp) (hlen : keys.length ≤ 15 := by decide) : We C n env (.Dict keys values pos) Φ l μ := by
  intro A hA Z ρ F s R
  refine wpAny_Dict_any hall hl h0 hlen ?_
  have hn := R.newR
  have hnZ := R.newZ
  have hnM := R.newM
  have hbig := R.big (Nat.le_refl _)
  generalize hD : s.heap.objs.size = D at *
  have ho : (s.heap.push (dictObj [] 0)).get? D = some (dictObj [] 0) := by rw [← hD]; exact Heap.get?_push_size _ rfl
  have R1 : Rel C Z μ (fup ρ D (some (dictObj [] 0))) { s with heap := s.heap.push (dictObj [] 0) } := (R.push (dictObj [] 0) s.toks).addR ho hnZ hnM
  have F1 : Frm C env l Z (fup ρ D (some (dictObj [] 0))) := F.agree (fup_ext_none hn)
  refine Wkv.use hA keys values h F1 R1 fun ps' s2 Z2 ps μ2 R2 x2 F2 rp ⟨hz, hq⟩ => ?_
  have g2 := R2.r D _ (fup_self ..)
  have z2 : Z2 D = Option.none := R2.zn (fup_self ..)
  have m2 : μ2 D = Option.none := R2.rm D _ (fup_self ..)
  have R3 : Rel C Z2 μ2 ρ s2 := R2.less (fun _ _ e => e) (fup_ext_none hn)
  have R4 := R3.addM g2 (K.empty Z2) z2 hn hbig
  refine storeAll_use K (by have := hA.u; omega) ps ps' [] s2 rp (by simpa using hz) R4 fun s3 R5 => ?_
  exact ⟨⟨Z2, _, ρ⟩, R5, x2, rfl, .ref D, .ref D, hq D m2⟩
end
end SP
namespace SP
open PySem PySem.W PySem.Calls PyProof.Rows
inductive Tr (α : Type) where
  | nul | int (i : Int) | name (s : Str) | ref (a : α) | arr (xs : List (Tr α)) | dict (kvs : List (Str × Tr α)) | stm (kvs : List (Str × Tr α)) (b : Array UInt8)
noncomputable abbrev PP := Int × Int
noncomputable abbrev Val := Tr PP
noncomputable def Tr.isNul {α : Type} : Tr α → Bool
  | .nul => true
  | _ => false
theorem Tr.isNul_iff {α : Type} {t : Tr α} : t.isNul = true ↔ t = .nul := by cases t <;> simp [Tr.isNul]
noncomputable def sortK {β : Type} (kvs : List (Str × β)) : List (Str × β) := kvs.mergeSort fun a b => leS a.1 b.1
noncomputable abbrev pairV (p : PP) : V := .tup [.int p.1, .int p.2]
noncomputable def S (s : String) : V := .str (Str.ofString s)
noncomputable abbrev aName : Addr := 171
noncomputable abbrev aRef : Addr := 242
noncomputable abbrev aStm : Addr := 214
noncomputable abbrev aShelf : Addr := 373
noncomputable abbrev aTwin : Addr := 467
mutual
noncomputable def enc : Val → V
  | .nul => .none
  | .int i => .int i
  | .name s => .inst aName [(Str.ofString "text", .str s)]
  | .ref p => .inst aRef [(Str.ofString "number", .int p.1), (Str.ofString "generation", .int p.2)]
  | .arr xs => .list (encs xs)
  | .dict kvs => .dS (enck kvs)
  | .stm kvs b => .inst aStm [(Str.ofString "head", .dS (enck kvs)), (Str.ofString "octets", .bytes b)]
noncomputable def encs : List Val → List V
  | [] => []
  | x :: r => enc x :: encs r
noncomputable def enck : List (Str × Val) → List (Str × V)
  | [] => []
  | (k, x) :: r => (k, enc x) :: enck r
end
mutual
noncomputable def told : Val → V
  | .nul => .tup [S "null"]
  | .int i => .tup [S "int", .int i]
  | .name s => .tup [S "name", .str s]
  | .ref p => .tup [S "ref", .int p.1, .int p.2]
  | .arr xs => .tup (S "array" :: tolds xs)
  | .dict kvs => .tup (S "dict" :: (sortK (toldk kvs)).map fun p => .tup [.str p.1, p.2])
  | .stm kvs b => .tup [S "stream", .tup (S "dict" :: (sortK (toldk kvs)).map fun p => .tup [.str p.1, p.2]), .bytes b]
noncomputable def tolds : List Val → List V
  | [] => []
  | x :: r => told x :: tolds r
noncomputable def toldk : List (Str × Val) → List (Str × V)
  | [] => []
  | (k, x) :: r => if x.isNul then toldk r else (k, told x) :: toldk r
end
section
variable {α β : Type}
mutual
noncomputable def lvs : Tr α → List α
  | .nul => []
  | .int _ => []
  | .name _ => []
  | .ref p => [p]
  | .arr xs => (lvss xs).flatten
  | .dict kvs => ((sortK (lvsk kvs)).map (·.2)).flatten
  | .stm kvs _ => ((sortK (lvsk kvs)).map (·.2)).flatten
noncomputable def lvss : List (Tr α) → List (List α)
  | [] => []
  | x :: r => lvs x :: lvss r
noncomputable def lvsk : List (Str × Tr α) → List (Str × List α)
  | [] => []
  | (k, x) :: r => (k, lvs x) :: lvsk r
end
mutual
noncomputable def nf (L : α → Bool) : Tr α → Tr α
  | .nul => .nul
  | .int i => .int i
  | .name s => .name s
  | .ref p => if L p then .ref p else .nul
  | .arr xs => .arr (nfs L xs)
  | .dict kvs => .dict (sortK (nfk L kvs))
  | .stm kvs b => .stm (sortK (nfk L kvs)) b
noncomputable def nfs (L : α → Bool) : List (Tr α) → List (Tr α)
  | [] => []
  | x :: r => nf L x :: nfs L r
noncomputable def nfk (L : α → Bool) : List (Str × Tr α) → List (Str × Tr α)
  | [] => []
  | (k, x) :: r => if (nf L x).isNul then nfk L r else (k, nf L x) :: nfk L r
end
mutual
noncomputable def ren (tab : α → Option β) : Tr α → Tr β
  | .nul => .nul
  | .int i => .int i
  | .name s => .name s
  | .ref p => match tab p with | some q => .ref q | none => .nul
  | .arr xs => .arr (rens tab xs)
  | .dict kvs => .dict (renk tab kvs)
  | .stm kvs b => .stm (renk tab kvs) b
noncomputable def rens (tab : α → Option β) : List (Tr α) → List (Tr β)
  | [] => []
  | x :: r => ren tab x :: rens tab r
noncomputable def renk (tab : α → Option β) : List (Str × Tr α) → List (Str × Tr β)
  | [] => []
  | (k, x) :: r => if (ren tab x).isNul then renk tab r else (k, ren tab x) :: renk tab r
end
mutual
noncomputable def Tr.map (f : α → β) : Tr α → Tr β
  | .nul => .nul
  | .int i => .int i
  | .name s => .name s
  | .ref p => .ref (f p)
  | .arr xs => .arr (Tr.maps f xs)
  | .dict kvs => .dict (Tr.mapk f kvs)
  | .stm kvs b => .stm (Tr.mapk f kvs) b
noncomputable def Tr.maps (f : α → β) : List (Tr α) → List (Tr β)
  | [] => []
  | x :: r => Tr.map f x :: Tr.maps f r
noncomputable def Tr.mapk (f : α → β) : List (Str × Tr α) → List (Str × Tr β)
  | [] => []
  | (k, x) :: r => (k, Tr.map f x) :: Tr.mapk f r
end
mutual
noncomputable def sz : Tr α → Nat
  | .nul => 1
  | .int _ => 1
  | .name _ => 1
  | .ref _ => 1
  | .arr xs => 1 + szs xs
  | .dict kvs => 1 + szk kvs
  | .stm kvs _ => 1 + szk kvs
noncomputable def szs : List (Tr α) → Nat
  | [] => 0
  | x :: r => sz x + szs r
noncomputable def szk : List (Str × Tr α) → Nat
  | [] => 0
  | (_, x) :: r => sz x + szk r
end
noncomputable def ok : Nat → Tr α → Prop
  | d + 1, .arr xs => xs.length ≤ 8 ∧ ∀ x ∈ xs, ok d x
  | d + 1, .dict kvs => kvs.length ≤ 8 ∧ (kvs.map (·.1)).Nodup ∧ ∀ p ∈ kvs, ok d p.2
  | d + 1, .stm kvs _ => kvs.length ≤ 8 ∧ (kvs.map (·.1)).Nodup ∧ ∀ p ∈ kvs, ok d p.2
  | 0, .arr _ => False
  | 0, .dict _ => False
  | 0, .stm _ _ => False
  | _, _ => True
end
theorem nfE1 : ∀ {α : Type} (L : α → Bool), nf L Tr.nul = Tr.nul := @fun _ _ => rfl
theorem nfE2 : ∀ {α : Type} (L : α → Bool) (i : Int), nf L (Tr.int i) = Tr.int i := @fun _ _ _ => rfl
theorem nfE3 : ∀ {α : Type} (L : α → Bool) (s : Str), nf L (Tr.name s) = Tr.name s := @fun _ _ _ => rfl
theorem nfE4 : ∀ {α : Type} (L : α → Bool) (p : α), nf L (Tr.ref p) = if L p = true then Tr.ref p else Tr.nul := @fun _ _ _ => rfl
theorem nfE5 : ∀ {α : Type} (L : α → Bool) (xs : List (Tr α)), nf L (Tr.arr xs) = Tr.arr (nfs L xs) := @fun _ _ _ => rfl
theorem nfE6 : ∀ {α : Type} (L : α → Bool) (kvs : List (Str × Tr α)), nf L (Tr.dict kvs) = Tr.dict (sortK (nfk L kvs)) := @fun _ _ _ => rfl
theorem nfE7 : ∀ {α : Type} (L : α → Bool) (kvs : List (Str × Tr α)) (b : Array UInt8), nf L (Tr.stm kvs b) = Tr.stm (sortK (nfk L kvs)) b := @fun _ _ _ _ => rfl
theorem nfkE2 : ∀ {α : Type} (L : α → Bool) (k : Str) (x_1 : Tr α) (r : List (Str × Tr α)), nfk L ((k, x_1) :: r) = if Tr.isNul (nf L x_1) = true then nfk L r else (k, nf L x_1) :: nfk L r := @fun _ _ _ _ _ => rfl
theorem nfsE2 : ∀ {α : Type} (L : α → Bool) (x_1 : Tr α) (r : List (Tr α)), nfs L (x_1 :: r) = nf L x_1 :: nfs L r := @fun _ _ _ _ => rfl
theorem trmapE1 : ∀ {α β : Type} (f : α → β), Tr.map f Tr.nul = Tr.nul := @fun _ _ _ => rfl
theorem trmapE2 : ∀ {α β : Type} (f : α → β) (i : Int), Tr.map f (Tr.int i) = Tr.int i := @fun _ _ _ _ => rfl
theorem trmapE3 : ∀ {α β : Type} (f : α → β) (s : Str), Tr.map f (Tr.name s) = Tr.name s := @fun _ _ _ _ => rfl
theorem trmapE4 : ∀ {α β : Type} (f : α → β) (p : α), Tr.map f (Tr.ref p) = Tr.ref (f p) := @fun _ _ _ _ => rfl
theorem trmapE5 : ∀ {α β : Type} (f : α → β) (xs : List (Tr α)), Tr.map f (Tr.arr xs) = Tr.arr (Tr.maps f xs) := @fun _ _ _ _ => rfl
theorem trmapE6 : ∀ {α β : Type} (f : α → β) (kvs : List (Str × Tr α)), Tr.map f (Tr.dict kvs) = Tr.dict (Tr.mapk f kvs) := @fun _ _ _ _ => rfl
theorem trmapE7 : ∀ {α β : Type} (f : α → β) (kvs : List (Str × Tr α)) (b : Array UInt8), Tr.map f (Tr.stm kvs b) = Tr.stm (Tr.mapk f kvs) b := @fun _ _ _ _ _ => rfl
theorem trmapkE2 : ∀ {α β : Type} (f : α → β) (k : Str) (x_1 : Tr α) (r : List (Str × Tr α)), Tr.mapk f ((k, x_1) :: r) = (k, Tr.map f x_1) :: Tr.mapk f r := @fun _ _ _ _ _ _ => rfl
theorem trmapsE2 : ∀ {α β : Type} (f : α → β) (x_1 : Tr α) (r : List (Tr α)), Tr.maps f (x_1 :: r) = Tr.map f x_1 :: Tr.maps f r := @fun _ _ _ _ _ => rfl
theorem renE1 : ∀ {α β : Type} (tab : α → Option β), ren tab Tr.nul = Tr.nul := @fun _ _ _ => rfl
theorem renE2 : ∀ {α β : Type} (tab : α → Option β) (i : Int), ren tab (Tr.int i) = Tr.int i := @fun _ _ _ _ => rfl
theorem renE3 : ∀ {α β : Type} (tab : α → Option β) (s : Str), ren tab (Tr.name s) = Tr.name s := @fun _ _ _ _ => rfl
theorem renE4 : ∀ {α β : Type} (tab : α → Option β) (p : α), ren tab (Tr.ref p) = match tab p with | some q => Tr.ref q | none => Tr.nul := @fun _ _ _ _ => rfl
theorem renE5 : ∀ {α β : Type} (tab : α → Option β) (xs : List (Tr α)), ren tab (Tr.arr xs) = Tr.arr (rens tab xs) := @fun _ _ _ _ => rfl
theorem renE6 : ∀ {α β : Type} (tab : α → Option β) (kvs : List (Str × Tr α)), ren tab (Tr.dict kvs) = Tr.dict (renk tab kvs) := @fun _ _ _ _ => rfl
theorem renE7 : ∀ {α β : Type} (tab : α → Option β) (kvs : List (Str × Tr α)) (b : Array UInt8), ren tab (Tr.stm kvs b) = Tr.stm (renk tab kvs) b := @fun _ _ _ _ _ => rfl
theorem renkE2 : ∀ {α β : Type} (tab : α → Option β) (k : Str) (x_1 : Tr α) (r : List (Str × Tr α)), renk tab ((k, x_1) :: r) = if Tr.isNul (ren tab x_1) = true then renk tab r else (k, ren tab x_1) :: renk tab r := @fun _ _ _ _ _ _ => rfl
theorem rensE2 : ∀ {α β : Type} (tab : α → Option β) (x_1 : Tr α) (r : List (Tr α)), rens tab (x_1 :: r) = ren tab x_1 :: rens tab r := @fun _ _ _ _ _ => rfl
theorem lvsE1 : ∀ {α : Type}, lvs (Tr.nul : Tr α) = [] := @fun _ => rfl
theorem lvsE2 : ∀ {α : Type} (i : Int), lvs (Tr.int i : Tr α) = [] := @fun _ _ => rfl
theorem lvsE3 : ∀ {α : Type} (s : Str), lvs (Tr.name s : Tr α) = [] := @fun _ _ => rfl
theorem lvsE4 : ∀ {α : Type} (p : α), lvs (Tr.ref p) = [p] := @fun _ _ => rfl
theorem lvsE5 : ∀ {α : Type} (xs : List (Tr α)), lvs (Tr.arr xs) = List.flatten (lvss xs) := @fun _ _ => rfl
theorem lvsE6 : ∀ {α : Type} (kvs : List (Str × Tr α)), lvs (Tr.dict kvs) = List.flatten (List.map (fun x ↦ Prod.snd x) (sortK (lvsk kvs))) := @fun _ _ => rfl
theorem lvsE7 : ∀ {α : Type} (kvs : List (Str × Tr α)) (b : Array UInt8), lvs (Tr.stm kvs b) = List.flatten (List.map (fun x ↦ Prod.snd x) (sortK (lvsk kvs))) := @fun _ _ _ => rfl
theorem lvskE2 : ∀ {α : Type} (k : Str) (x_1 : Tr α) (r : List (Str × Tr α)), lvsk ((k, x_1) :: r) = (k, lvs x_1) :: lvsk r := @fun _ _ _ _ => rfl
theorem lvssE2 : ∀ {α : Type} (x_1 : Tr α) (r : List (Tr α)), lvss (x_1 :: r) = lvs x_1 :: lvss r := @fun _ _ _ => rfl
theorem toldE1 : told Tr.nul = V.tup [S "null"] := rfl
theorem toldE2 : ∀ (i : Int), told (Tr.int i) = V.tup [S "int", V.int i] := @fun _ => rfl
theorem toldE3 : ∀ (s : Str), told (Tr.name s) = V.tup [S "name", V.str s] := @fun _ => rfl
theorem toldE4 : ∀ (p : PP), told (Tr.ref p) = V.tup [S "ref", V.int (Prod.fst p), V.int (Prod.snd p)] := @fun _ => rfl
theorem toldE5 : ∀ (xs : List (Tr PP)), told (Tr.arr xs) = V.tup (S "array" :: tolds xs) := @fun _ => rfl
theorem toldE6 : ∀ (kvs : List (Str × Tr PP)), told (Tr.dict kvs) = V.tup (S "dict" :: List.map (fun p ↦ V.tup [V.str (Prod.fst p), Prod.snd p]) (sortK (toldk kvs))) := @fun _ => rfl
theorem toldE7 : ∀ (kvs : List (Str × Tr PP)) (b : Array UInt8), told (Tr.stm kvs b) = V.tup [S "stream", V.tup (S "dict" :: List.map (fun p ↦ V.tup [V.str (Prod.fst p), Prod.snd p]) (sortK (toldk kvs))), V.bytes b] := @fun _ _ => rfl
theorem toldkE2 : ∀ (k : Str) (x_1 : Val) (r : List (Str × Val)), toldk ((k, x_1) :: r) = if Tr.isNul x_1 = true then toldk r else (k, told x_1) :: toldk r := @fun _ _ _ => rfl
theorem toldsE2 : ∀ (x_1 : Val) (r : List Val), tolds (x_1 :: r) = told x_1 :: tolds r := @fun _ _ => rfl
theorem szE1 : ∀ {α : Type}, sz (Tr.nul : Tr α) = 1 := @fun _ => rfl
theorem szE2 : ∀ {α : Type} (i : Int), sz (Tr.int i : Tr α) = 1 := @fun _ _ => rfl
theorem szE3 : ∀ {α : Type} (s : Str), sz (Tr.name s : Tr α) = 1 := @fun _ _ => rfl
theorem szE4 : ∀ {α : Type} (p : α), sz (Tr.ref p) = 1 := @fun _ _ => rfl
theorem szE5 : ∀ {α : Type} (xs : List (Tr α)), sz (Tr.arr xs) = 1 + szs xs := @fun _ _ => rfl
theorem szE6 : ∀ {α : Type} (kvs : List (Str × Tr α)), sz (Tr.dict kvs) = 1 + szk kvs := @fun _ _ => rfl
theorem szE7 : ∀ {α : Type} (kvs : List (Str × Tr α)) (b : Array UInt8), sz (Tr.stm kvs b) = 1 + szk kvs := @fun _ _ _ => rfl
theorem szkE2 : ∀ {α : Type} (k : Str) (x_1 : Tr α) (r : List (Str × Tr α)), szk ((k, x_1) :: r) = sz x_1 + szk r := @fun _ _ _ _ => rfl
theorem szsE2 : ∀ {α : Type} (x_1 : Tr α) (r : List (Tr α)), szs (x_1 :: r) = sz x_1 + szs r := @fun _ _ _ => rfl
theorem encE3 : ∀ (s : Str), enc (Tr.name s) = V.inst aName [(Str.ofString "text", V.str s)] := @fun _ => rfl
theorem encE4 : ∀ (p : PP), enc (Tr.ref p) = V.inst aRef [(Str.ofString "number", V.int (Prod.fst p)), (Str.ofString "generation", V.int (Prod.snd p))] := @fun _ => rfl
theorem encE5 : ∀ (xs : List (Tr PP)), enc (Tr.arr xs) = V.list (encs xs) := @fun _ => rfl
theorem encE6 : ∀ (kvs : List (Str × Tr PP)), enc (Tr.dict kvs) = V.dS (enck kvs) := @fun _ => rfl
theorem encE7 : ∀ (kvs : List (Str × Tr PP)) (b : Array UInt8), enc (Tr.stm kvs b) = V.inst aStm [(Str.ofString "head", V.dS (enck kvs)), (Str.ofString "octets", V.bytes b)] := @fun _ _ => rfl
theorem encsE2 : ∀ (x_1 : Val) (r : List Val), encs (x_1 :: r) = enc x_1 :: encs r := @fun _ _ => rfl
theorem enckE2 : ∀ (k : Str) (x_1 : Val) (r : List (Str × Val)), enck ((k, x_1) :: r) = (k, enc x_1) :: enck r := @fun _ _ _ => rfl
theorem encs_eq (xs : List Val) : encs xs = xs.map enc := by induction xs with | nil => rfl | cons x r ih => rw [encsE2, ih]; rfl
theorem enck_eq (kvs : List (Str × Val)) : enck kvs = kvs.map fun p => (p.1, enc p.2) := by induction kvs with | nil => rfl | cons x r ih => rw [enckE2, ih]; rfl
theorem tolds_eq (xs : List Val) : tolds xs = xs.map told := by induction xs with | nil => rfl | cons x r ih => rw [toldsE2, ih]; rfl
theorem toldk_eq (kvs : List (Str × Val)) : toldk kvs = (kvs.filter fun p => !p.2.isNul).map fun p => (p.1, told p.2) := by
  induction kvs with | nil => rfl | cons x r ih => rw [toldkE2, ih, List.filter_cons]; cases h : x.2.isNul <;> simp
section
variable {α β γ : Type}
theorem lvss_eq (xs : List (Tr α)) : lvss xs = xs.map lvs := by induction xs with | nil => rfl | cons x r ih => rw [lvssE2, ih]; rfl
theorem lvsk_eq (kvs : List (Str × Tr α)) : lvsk kvs = kvs.map fun p => (p.1, lvs p.2) := by induction kvs with | nil => rfl | cons x r ih => rw [lvskE2, ih]; rfl
theorem nfs_eq (L : α → Bool) (xs : List (Tr α)) : nfs L xs = xs.map (nf L) := by induction xs with | nil => rfl | cons x r ih => rw [nfsE2, ih]; rfl
theorem nfk_eq (L : α → Bool) (kvs : List (Str × Tr α)) : nfk L kvs = (kvs.map fun p => (p.1, nf L p.2)).filter fun p => !p.2.isNul := by
  induction kvs with | nil => rfl | cons x r ih => rw [nfkE2, ih, List.map_cons, List.filter_cons]; cases h : (nf L x.2).isNul <;> simp
theorem rens_eq (tab : α → Option β) (xs : List (Tr α)) : rens tab xs = xs.map (ren tab) := by induction xs with | nil => rfl | cons x r ih => rw [rensE2, ih]; rfl
theorem renk_eq (tab : α → Option β) (kvs : List (Str × Tr α)) : renk tab kvs = (kvs.map fun p => (p.1, ren tab p.2)).filter fun p => !p.2.isNul := by
  induction kvs with | nil => rfl | cons x r ih => rw [renkE2, ih, List.map_cons, List.filter_cons]; cases h : (ren tab x.2).isNul <;> simp
theorem maps_eq (f : α → β) (xs : List (Tr α)) : Tr.maps f xs = xs.map (Tr.map f) := by induction xs with | nil => rfl | cons x r ih => rw [trmapsE2, ih]; rfl
theorem mapk_eq (f : α → β) (kvs : List (Str × Tr α)) : Tr.mapk f kvs = kvs.map fun p => (p.1, Tr.map f p.2) := by induction kvs with | nil => rfl | cons x r ih => rw [trmapkE2, ih]; rfl
theorem szs_eq (xs : List (Tr α)) : szs xs = (xs.map sz).sum := by induction xs with | nil => rfl | cons x r ih => rw [szsE2, ih]; rfl
theorem szk_eq (kvs : List (Str × Tr α)) : szk kvs = (kvs.map fun p => sz p.2).sum := by induction kvs with | nil => rfl | cons x r ih => rw [szkE2, ih]; rfl
theorem sortK_perm (kvs : List (Str × β)) : (sortK kvs).Perm kvs := List.mergeSort_perm ..
theorem sortK_sorted (kvs : List (Str × β)) : (sortK kvs).Pairwise (fun a b => leS a.1 b.1 = true) := List.pairwise_mergeSort (fun a b c => leS_trans a.1 b.1 c.1) (fun a b => leS_total a.1 b.1) kvs
theorem nodup_inj {kvs : List (Str × β)} (h : (kvs.map (·.1)).Nodup) {a b : Str × β} (ha : a ∈ kvs) (hb : b ∈ kvs) (e : a.1 = b.1) : a = b := by
  induction kvs with
  | nil => cases ha
  | cons p r ih =>
    rw [List.map_cons, List.nodup_cons] at h
    rcases List.mem_cons.mp ha with h1 | h1 <;> rcases List.mem_cons.mp hb with h2 | h2
    · rw [h1, h2]
    · exact absurd (List.mem_map.mpr ⟨b, h2, by rw [← e, h1]⟩) h.1
    · exact absurd (List.mem_map.mpr ⟨a, h1, by rw [e, h2]⟩) h.1
    · exact ih h.2 h1 h2
theorem sortK_uniq {l kvs : List (Str × β)} (h : (kvs.map (·.1)).Nodup) (hp : l.Perm kvs) (hs : l.Pairwise (fun a b => leS a.1 b.1 = true)) : l = sortK kvs :=
  (hp.trans (sortK_perm kvs).symm).eq_of_pairwise (fun a b ha hb h1 h2 => nodup_inj h (hp.mem_iff.mp ha) ((sortK_perm kvs).mem_iff.mp hb) (leS_antisymm h1 h2)) hs (sortK_sorted kvs)
theorem sortK_keys (kvs : List (Str × β)) : (sortK kvs).map (·.1) = sortS (kvs.map (·.1)) :=
  sorted_eqS (((sortK_perm kvs).map _).trans (sortS_perm _).symm) (List.pairwise_map.mpr (sortK_sorted kvs)) (sortS_sorted _)
theorem sortK_filter {kvs : List (Str × β)} (h : (kvs.map (·.1)).Nodup) (q : Str × β → Bool) : sortK (kvs.filter q) = (sortK kvs).filter q :=
  (sortK_uniq (h.sublist (List.filter_sublist.map _)) ((sortK_perm kvs).filter q) ((sortK_sorted kvs).filter q)).symm
theorem sortK_map {kvs : List (Str × β)} (f : β → γ) : sortK (kvs.map fun p => (p.1, f p.2)) = (sortK kvs).map fun p => (p.1, f p.2) :=
  (List.map_mergeSort (r := fun a b : Str × β => leS a.1 b.1) (s := fun a b : Str × γ => leS a.1 b.1) (f := fun p : Str × β => (p.1, f p.2)) (fun _ _ _ _ => rfl)).symm
theorem sortK_idem {kvs : List (Str × β)} (h : (kvs.map (·.1)).Nodup) : sortK (sortK kvs) = sortK kvs :=
  (sortK_uniq (h.perm ((sortK_perm kvs).map _).symm) (List.Perm.refl _) (sortK_sorted kvs)).symm
theorem sortK_nodup {kvs : List (Str × β)} (h : (kvs.map (·.1)).Nodup) : ((sortK kvs).map (·.1)).Nodup := h.perm ((sortK_perm kvs).map _).symm
end
end SP
namespace SP
set_option linter.unusedVariables false
open PySem PySem.W PySem.Calls PyProof.Rows
section
variable {α β γ : Type}
theorem ok_leaf {d : Nat} {t : Tr α} (h : ∀ xs, t ≠ .arr xs) (h2 : ∀ kvs, t ≠ .dict kvs) (h3 : ∀ kvs b, t ≠ .stm kvs b) : ok d t := by
  cases t <;> cases d <;> first | trivial | (exact absurd rfl (h _)) | (exact absurd rfl (h2 _)) | (exact absurd rfl (h3 _ _))
theorem ok_ind {P : Tr α → Prop} (hn : P .nul) (hi : ∀ i, P (.int i)) (hm : ∀ s, P (.name s)) (hr : ∀ p, P (.ref p)) (ha : ∀ xs, xs.length ≤ 8 → (∀ x ∈ xs, P x) → P (.arr xs))
    (hd : ∀ kvs, kvs.length ≤ 8 → (kvs.map (·.1)).Nodup → (∀ p ∈ kvs, P p.2) → P (.dict kvs)) (hs : ∀ kvs b, kvs.length ≤ 8 → (kvs.map (·.1)).Nodup → (∀ p ∈ kvs, P p.2) → P (.stm kvs b)) :
    ∀ {d : Nat} {t : Tr α}, ok d t → P t := by
  intro d
  induction d with
  | zero => intro t h; cases t <;> first | exact hn | exact hi _ | exact hm _ | exact hr _ | exact h.elim
  | succ d ih =>
    intro t h
    cases t with
    | nul => exact hn
    | int i => exact hi i
    | name s => exact hm s
    | ref p => exact hr p
    | arr xs => exact ha xs h.1 fun x hx => ih (h.2 x hx)
    | dict kvs => exact hd kvs h.1 h.2.1 fun p hp => ih (h.2.2 p hp)
    | stm kvs b => exact hs kvs b h.1 h.2.1 fun p hp => ih (h.2.2 p hp)
theorem ok_mono {d : Nat} {t : Tr α} (h : ok d t) : ok (d + 1) t := by
  induction d generalizing t with
  | zero => cases t <;> first | trivial | exact h.elim
  | succ d ih =>
    cases t with
    | arr xs => exact ⟨h.1, fun x hx => ih (h.2 x hx)⟩
    | dict kvs => exact ⟨h.1, h.2.1, fun p hp => ih (h.2.2 p hp)⟩
    | stm kvs b => exact ⟨h.1, h.2.1, fun p hp => ih (h.2.2 p hp)⟩
    | _ => trivial
theorem ok_le {d e : Nat} {t : Tr α} (h : ok d t) (hl : d ≤ e) : ok e t := by
  induction hl with
  | refl => exact h
  | step _ ih => exact ok_mono ih
theorem filt_nodup {kvs : List (Str × β)} (h : (kvs.map (·.1)).Nodup) (q : Str × β → Bool) : ((kvs.filter q).map (·.1)).Nodup := h.sublist (List.filter_sublist.map _)
theorem mapk_keys (kvs : List (Str × α)) (f : α → β) : (kvs.map fun p => (p.1, f p.2)).map (·.1) = kvs.map (·.1) := by rw [List.map_map]; rfl
theorem nfk_nodup {L : α → Bool} {kvs : List (Str × Tr α)} (h : (kvs.map (·.1)).Nodup) : ((nfk L kvs).map (·.1)).Nodup := by
  rw [nfk_eq]; exact filt_nodup (by rw [mapk_keys]; exact h) _
theorem renk_nodup {tab : α → Option β} {kvs : List (Str × Tr α)} (h : (kvs.map (·.1)).Nodup) : ((renk tab kvs).map (·.1)).Nodup := by
  rw [renk_eq]; exact filt_nodup (by rw [mapk_keys]; exact h) _
theorem renk_len {tab : α → Option β} (kvs : List (Str × Tr α)) : (renk tab kvs).length ≤ kvs.length := by
  rw [renk_eq]; exact Nat.le_trans (List.length_filter_le _ _) (by simp)
theorem nfk_len {L : α → Bool} (kvs : List (Str × Tr α)) : (nfk L kvs).length ≤ kvs.length := by
  rw [nfk_eq]; exact Nat.le_trans (List.length_filter_le _ _) (by simp)
theorem mem_renk {tab : α → Option β} {kvs : List (Str × Tr α)} {p} (h : p ∈ renk tab kvs) : ∃ q ∈ kvs, p = (q.1, ren tab q.2) := by
  rw [renk_eq] at h
  obtain ⟨q, h1, h2⟩ := List.mem_map.mp (List.mem_filter.mp h).1
  exact ⟨q, h1, h2.symm⟩
theorem mem_nfk {L : α → Bool} {kvs : List (Str × Tr α)} {p} (h : p ∈ nfk L kvs) : ∃ q ∈ kvs, p = (q.1, nf L q.2) := by
  rw [nfk_eq] at h
  obtain ⟨q, h1, h2⟩ := List.mem_map.mp (List.mem_filter.mp h).1
  exact ⟨q, h1, h2.symm⟩
theorem ok_ren {d : Nat} {t : Tr α} {tab : α → Option β} (h : ok d t) : ok d (ren tab t) := by
  induction d generalizing t with
  | zero => cases t <;> first | (((first | rw [renE1] | rw [renE2] | rw [renE3] | rw [renE4] | rw [renE5] | rw [renE6] | rw [renE7])); split <;> trivial) | (((first | rw [renE1] | rw [renE2] | rw [renE3] | rw [renE5] | rw [renE6] | rw [renE7])); trivial) | exact h.elim
  | succ d ih =>
    cases t with
    | arr xs => rw [renE5, rens_eq]; exact ⟨by simpa using h.1, fun x hx => by obtain ⟨y, hy, rfl⟩ := List.mem_map.mp hx; exact ih (h.2 y hy)⟩
    | dict kvs => rw [renE6]; exact ⟨Nat.le_trans (renk_len kvs) h.1, renk_nodup h.2.1, fun p hp => by obtain ⟨q, hq, rfl⟩ := mem_renk hp; exact ih (h.2.2 q hq)⟩
    | stm kvs b => rw [renE7]; exact ⟨Nat.le_trans (renk_len kvs) h.1, renk_nodup h.2.1, fun p hp => by obtain ⟨q, hq, rfl⟩ := mem_renk hp; exact ih (h.2.2 q hq)⟩
    | ref p => rw [renE4]; split <;> trivial
    | _ => ((first | rw [renE1] | rw [renE2] | rw [renE3])); trivial
theorem ok_nf {d : Nat} {t : Tr α} {L : α → Bool} (h : ok d t) : ok d (nf L t) := by
  induction d generalizing t with
  | zero => cases t <;> first | (((first | rw [nfE1] | rw [nfE2] | rw [nfE3] | rw [nfE4] | rw [nfE5] | rw [nfE6] | rw [nfE7])); split <;> trivial) | (((first | rw [nfE1] | rw [nfE2] | rw [nfE3] | rw [nfE5] | rw [nfE6] | rw [nfE7])); trivial) | exact h.elim
  | succ d ih =>
    cases t with
    | arr xs => rw [nfE5, nfs_eq]; exact ⟨by simpa using h.1, fun x hx => by obtain ⟨y, hy, rfl⟩ := List.mem_map.mp hx; exact ih (h.2 y hy)⟩
    | dict kvs => rw [nfE6]; exact ⟨by rw [(sortK_perm _).length_eq]; exact Nat.le_trans (nfk_len kvs) h.1, sortK_nodup (nfk_nodup h.2.1), fun p hp => by obtain ⟨q, hq, rfl⟩ := mem_nfk ((sortK_perm _).mem_iff.mp hp); exact ih (h.2.2 q hq)⟩
    | stm kvs b => rw [nfE7]; exact ⟨by rw [(sortK_perm _).length_eq]; exact Nat.le_trans (nfk_len kvs) h.1, sortK_nodup (nfk_nodup h.2.1), fun p hp => by obtain ⟨q, hq, rfl⟩ := mem_nfk ((sortK_perm _).mem_iff.mp hp); exact ih (h.2.2 q hq)⟩
    | ref p => rw [nfE4]; split <;> trivial
    | _ => ((first | rw [nfE1] | rw [nfE2] | rw [nfE3])); trivial
theorem map_nul {f : α → β} {t : Tr α} : (t.map f).isNul = t.isNul := by cases t <;> simp [trmapE1, trmapE2, trmapE3, trmapE4, trmapE5, trmapE6, trmapE7, Tr.isNul]
theorem map_map' {f : α → β} {g : β → γ} {d : Nat} {t : Tr α} (h : ok d t) : (t.map f).map g = t.map (g ∘ f) := by
  refine ok_ind (P := fun t => (t.map f).map g = t.map (g ∘ f)) ?_ ?_ ?_ ?_ ?_ ?_ ?_ h
  · rfl
  · intro i; rfl
  · intro i; rfl
  · intro i; rfl
  · intro xs _ ih; rw [trmapE5, trmapE5, trmapE5, maps_eq, maps_eq, maps_eq, List.map_map]; congr 1; exact List.map_congr_left ih
  · intro xs _ _ ih; rw [trmapE6, trmapE6, trmapE6, mapk_eq, mapk_eq, mapk_eq, List.map_map]; congr 1; exact List.map_congr_left fun p hp => by simp [ih p hp]
  · intro xs b _ _ ih; rw [trmapE7, trmapE7, trmapE7, mapk_eq, mapk_eq, mapk_eq, List.map_map]; congr 1; exact List.map_congr_left fun p hp => by simp [ih p hp]
theorem mem_lvs_arr {xs : List (Tr α)} {p : α} : p ∈ lvs (.arr xs) ↔ ∃ x ∈ xs, p ∈ lvs x := by
  rw [lvsE5, lvss_eq, List.mem_flatten]
  constructor
  · rintro ⟨l, hl, hp⟩; obtain ⟨x, hx, rfl⟩ := List.mem_map.mp hl; exact ⟨x, hx, hp⟩
  · rintro ⟨x, hx, hp⟩; exact ⟨_, List.mem_map.mpr ⟨x, hx, rfl⟩, hp⟩
theorem mem_flatk {kvs : List (Str × Tr α)} {p : α} : p ∈ ((sortK (lvsk kvs)).map (·.2)).flatten ↔ ∃ q ∈ kvs, p ∈ lvs q.2 := by
  rw [List.mem_flatten]
  constructor
  · rintro ⟨l, hl, hp⟩
    obtain ⟨r, hr, rfl⟩ := List.mem_map.mp hl
    have := (sortK_perm _).mem_iff.mp hr
    rw [lvsk_eq] at this
    obtain ⟨q, hq, rfl⟩ := List.mem_map.mp this
    exact ⟨q, hq, hp⟩
  · rintro ⟨q, hq, hp⟩
    exact ⟨_, List.mem_map.mpr ⟨(q.1, lvs q.2), (sortK_perm _).mem_iff.mpr (by rw [lvsk_eq]; exact List.mem_map.mpr ⟨q, hq, rfl⟩), rfl⟩, hp⟩
theorem mem_lvs_dict {kvs : List (Str × Tr α)} {p : α} : p ∈ lvs (.dict kvs) ↔ ∃ q ∈ kvs, p ∈ lvs q.2 := by rw [lvsE6]; exact mem_flatk
theorem mem_lvs_stm {kvs : List (Str × Tr α)} {b} {p : α} : p ∈ lvs (.stm kvs b) ↔ ∃ q ∈ kvs, p ∈ lvs q.2 := by rw [lvsE7]; exact mem_flatk
theorem map_congr' {f g : α → β} {d : Nat} {t : Tr α} (h : ok d t) : (∀ p ∈ lvs t, f p = g p) → t.map f = t.map g := by
  refine ok_ind (P := fun t => (∀ p ∈ lvs t, f p = g p) → t.map f = t.map g) ?_ ?_ ?_ ?_ ?_ ?_ ?_ h
  · intro _; rfl
  · intro i _; rfl
  · intro i _; rfl
  · intro p h; rw [trmapE4, trmapE4, h p (by rw [lvsE4]; simp)]
  · intro xs _ ih h; rw [trmapE5, trmapE5, maps_eq, maps_eq]; congr 1; exact List.map_congr_left fun x hx => ih x hx fun p hp => h p (mem_lvs_arr.mpr ⟨x, hx, hp⟩)
  · intro xs _ _ ih h; rw [trmapE6, trmapE6, mapk_eq, mapk_eq]; congr 1; exact List.map_congr_left fun x hx => by rw [ih x hx fun p hp => h p (mem_lvs_dict.mpr ⟨x, hx, hp⟩)]
  · intro xs b _ _ ih h; rw [trmapE7, trmapE7, mapk_eq, mapk_eq]; congr 1; exact List.map_congr_left fun x hx => by rw [ih x hx fun p hp => h p (mem_lvs_stm.mpr ⟨x, hx, hp⟩)]
theorem flatk_map {f : α → β} {kvs : List (Str × Tr α)} (ih : ∀ p ∈ kvs, lvs (p.2.map f) = (lvs p.2).map f) :
    ((sortK (lvsk (Tr.mapk f kvs))).map (·.2)).flatten = (((sortK (lvsk kvs)).map (·.2)).flatten).map f := by
  rw [lvsk_eq, lvsk_eq, mapk_eq, List.map_map]
  have : (kvs.map ((fun p : Str × Tr β => (p.1, lvs p.2)) ∘ fun p => (p.1, Tr.map f p.2))) = (kvs.map fun p => (p.1, lvs p.2)).map fun p => (p.1, p.2.map f) := by
    rw [List.map_map]; exact List.map_congr_left fun p hp => by simp [ih p hp]
  rw [this, sortK_map, List.map_map, List.map_flatten, List.map_map]; rfl
theorem lvs_map {f : α → β} {d : Nat} {t : Tr α} (h : ok d t) : lvs (t.map f) = (lvs t).map f := by
  refine ok_ind (P := fun t => lvs (t.map f) = (lvs t).map f) ?_ ?_ ?_ ?_ ?_ ?_ ?_ h
  · rfl
  · intro i; rfl
  · intro i; rfl
  · intro i; rfl
  · intro xs _ ih; rw [trmapE5, lvsE5, lvsE5, lvss_eq, lvss_eq, maps_eq, List.map_map, List.map_flatten, List.map_map]; congr 1; exact List.map_congr_left ih
  · intro xs _ _ ih; rw [trmapE6, lvsE6, lvsE6]; exact flatk_map ih
  · intro xs b _ _ ih; rw [trmapE7, lvsE7, lvsE7]; exact flatk_map ih
theorem nul_flat {L : α → Bool} {t : Tr α} (h : (lvs (nf L t)) = (lvs t).filter L) (hn : (nf L t).isNul = true) : (lvs t).filter L = [] := by
  rw [← h, Tr.isNul_iff.mp hn]; rfl
theorem flatk_nf {L : α → Bool} {kvs : List (Str × Tr α)} (hnd : (kvs.map (·.1)).Nodup) (ih : ∀ p ∈ kvs, lvs (nf L p.2) = (lvs p.2).filter L) :
    ((sortK (lvsk (sortK (nfk L kvs)))).map (·.2)).flatten = (((sortK (lvsk kvs)).map (·.2)).flatten).filter L := by
  have hn := nfk_nodup (L := L) hnd
  rw [lvsk_eq, lvsk_eq, sortK_map, sortK_idem hn, sortK_map, List.map_map, List.map_map, List.filter_flatten, List.map_map, nfk_eq, sortK_filter (by rw [mapk_keys]; exact hnd), sortK_map]
  have ih' : ∀ p ∈ sortK kvs, lvs (nf L p.2) = (lvs p.2).filter L := fun p hp => ih p ((sortK_perm kvs).mem_iff.mp hp)
  generalize sortK kvs = l at ih'
  induction l with
  | nil => rfl
  | cons p r ihr =>
    rw [List.map_cons, List.filter_cons]
    have e := ih' p (.head _)
    have rr := ihr fun q hq => ih' q (.tail _ hq)
    rw [List.map_cons, List.flatten_cons]
    by_cases hz : (nf L p.2).isNul = true
    · rw [if_neg (by simp [hz]), rr]
      show _ = (lvs p.2).filter L ++ _
      rw [nul_flat e hz]; rfl
    · rw [if_pos (by simp [hz]), List.map_cons, List.flatten_cons, rr]
      show lvs (nf L p.2) ++ _ = (lvs p.2).filter L ++ _
      rw [e]
theorem lvs_nf {L : α → Bool} {d : Nat} {t : Tr α} (h : ok d t) : lvs (nf L t) = (lvs t).filter L := by
  refine ok_ind (P := fun t => lvs (nf L t) = (lvs t).filter L) ?_ ?_ ?_ ?_ ?_ ?_ ?_ h
  · rfl
  · intro i; rfl
  · intro i; rfl
  · intro p; rw [nfE4, lvsE4]; by_cases hp : L p = true <;> simp [hp, lvsE1, lvsE4]
  · intro xs _ ih; rw [nfE5, lvsE5, lvsE5, lvss_eq, lvss_eq, nfs_eq, List.map_map, List.filter_flatten, List.map_map]; congr 1; exact List.map_congr_left ih
  · intro xs _ hnd ih; rw [nfE6, lvsE6, lvsE6]; exact flatk_nf hnd ih
  · intro xs b _ hnd ih; rw [nfE7, lvsE7, lvsE7]; exact flatk_nf hnd ih
theorem nfk_ren {tab : α → Option β} {f : α → β} {L : α → Bool} {L' : β → Bool} {kvs : List (Str × Tr α)} (hnd : (kvs.map (·.1)).Nodup) (ih : ∀ p ∈ kvs, nf L' (ren tab p.2) = (nf L p.2).map f) :
    sortK (nfk L' (renk tab kvs)) = Tr.mapk f (sortK (nfk L kvs)) := by
  rw [mapk_eq, ← sortK_map, nfk_eq, renk_eq, nfk_eq]
  congr 1
  clear hnd
  induction kvs with
  | nil => rfl
  | cons p r ihr =>
    have e := ih p (.head _)
    have rr := ihr fun q hq => ih q (.tail _ hq)
    rw [List.map_cons, List.map_cons, List.filter_cons, List.filter_cons]
    by_cases h1 : (ren tab p.2).isNul = true
    · have h2 : (nf L p.2).isNul = true := by
        rw [← map_nul (f := f), ← e, Tr.isNul_iff.mp h1]; rfl
      rw [if_neg (by simp [h1]), if_neg (by simp [h2])]
      exact rr
    · rw [if_pos (by simp [h1]), List.map_cons, List.filter_cons]
      have h3 : (nf L' (ren tab p.2)).isNul = (nf L p.2).isNul := by rw [e, map_nul]
      by_cases h2 : (nf L p.2).isNul = true
      · rw [if_neg (by simp [h3, h2]), if_neg (by simp [h2])]; exact rr
      · rw [if_pos (by simp [h3, h2]), if_pos (by simp [h2]), List.map_cons, rr, e]
theorem nf_ren {tab : α → Option β} {f : α → β} {L : α → Bool} {L' : β → Bool} {d : Nat} {t : Tr α} (h : ok d t) :
    (∀ p ∈ lvs t, (L p = true → tab p = some (f p) ∧ L' (f p) = true) ∧ (L p = false → tab p = none)) → nf L' (ren tab t) = (nf L t).map f := by
  refine ok_ind (P := fun t => (∀ p ∈ lvs t, (L p = true → tab p = some (f p) ∧ L' (f p) = true) ∧ (L p = false → tab p = none)) → nf L' (ren tab t) = (nf L t).map f) ?_ ?_ ?_ ?_ ?_ ?_ ?_ h
  · intro _; rfl
  · intro i _; rfl
  · intro i _; rfl
  · intro p hp
    have hp := hp p (by rw [lvsE4]; simp)
    rw [renE4, nfE4]
    cases hL : L p with
    | true => obtain ⟨e1, e2⟩ := hp.1 hL; rw [e1]; simp [nfE4, e2, trmapE4]
    | false => rw [hp.2 hL]; simp [nfE1, trmapE1]
  · intro xs _ ih hp
    rw [renE5, nfE5, nfE5, trmapE5, rens_eq, nfs_eq, nfs_eq, maps_eq, List.map_map, List.map_map]; congr 1
    exact List.map_congr_left fun x hx => ih x hx fun p h => hp p (mem_lvs_arr.mpr ⟨x, hx, h⟩)
  · intro kvs _ hnd ih hp
    rw [renE6, nfE6, nfE6, trmapE6, nfk_ren hnd fun q hq => ih q hq fun p h => hp p (mem_lvs_dict.mpr ⟨q, hq, h⟩)]
  · intro kvs b _ hnd ih hp
    rw [renE7, nfE7, nfE7, trmapE7, nfk_ren hnd fun q hq => ih q hq fun p h => hp p (mem_lvs_stm.mpr ⟨q, hq, h⟩)]
end
end SP
namespace SP
set_option linter.unusedVariables false
open PySem PySem.W PySem.Calls PyProof.Rows
section
variable {α β γ : Type}
noncomputable abbrev all1 : α → Bool := fun _ => true
theorem sortK_congr {l l' : List (Str × β)} (hn : (l'.map (·.1)).Nodup) (h : l.Perm l') : sortK l = sortK l' := sortK_uniq hn ((sortK_perm l).trans h) (sortK_sorted l)
theorem nf1_nul {t : Tr α} : (nf all1 t).isNul = t.isNul := by cases t <;> simp [nfE1, nfE2, nfE3, nfE4, nfE5, nfE6, nfE7, Tr.isNul]
theorem nfk1_eq (kvs : List (Str × Tr α)) : nfk all1 kvs = (kvs.filter fun p => !p.2.isNul).map fun p => (p.1, nf all1 p.2) := by
  rw [nfk_eq, List.filter_map]
  congr 1
  exact List.filter_congr fun p _ => by simp [Function.comp, nf1_nul]
theorem toldk_nodup {kvs : List (Str × Val)} (h : (kvs.map (·.1)).Nodup) : ((toldk kvs).map (·.1)).Nodup := by
  rw [toldk_eq, mapk_keys]; exact filt_nodup h _
theorem toldk_nf {kvs : List (Str × Val)} (hn : (kvs.map (·.1)).Nodup) (ih : ∀ p ∈ kvs, told (nf all1 p.2) = told p.2) : sortK (toldk (sortK (nfk all1 kvs))) = sortK (toldk kvs) := by
  have e : toldk (nfk all1 kvs) = toldk kvs := by
    rw [toldk_eq, toldk_eq, nfk1_eq, List.filter_map, List.map_map, List.filter_filter]
    have : (kvs.filter fun p => (fun p : Str × Val => !p.2.isNul) p && ((fun p : Str × Val => !p.2.isNul) ∘ fun p : Str × Val => (p.1, nf all1 p.2)) p) = kvs.filter fun p => !p.2.isNul :=
      List.filter_congr fun p _ => by simp [Function.comp, nf1_nul]
    rw [show (kvs.filter fun a => ((fun p : Str × Val => !p.2.isNul) ∘ fun p : Str × Val => (p.1, nf all1 p.2)) a && !a.2.isNul) = kvs.filter fun p => !p.2.isNul from List.filter_congr fun p _ => by simp [Function.comp, nf1_nul]]
    exact List.map_congr_left fun p hp => by simp [ih p (List.mem_filter.mp hp).1]
  refine sortK_congr (toldk_nodup hn) ?_
  have hp : (toldk (sortK (nfk all1 kvs))).Perm (toldk (nfk all1 kvs)) := by
    rw [toldk_eq, toldk_eq]; exact ((sortK_perm _).filter _).map _
  rw [← e]; exact hp
theorem told_nf {d : Nat} {t : Val} (h : ok d t) : told (nf all1 t) = told t := by
  refine ok_ind (P := fun t => told (nf all1 t) = told t) ?_ ?_ ?_ ?_ ?_ ?_ ?_ h
  · rfl
  · intro i; rfl
  · intro i; rfl
  · intro p; rw [nfE4, if_pos rfl]
  · intro xs _ ih; rw [nfE5, toldE5, toldE5, tolds_eq, tolds_eq, nfs_eq, List.map_map]; congr 2; exact List.map_congr_left ih
  · intro kvs _ hn ih; rw [nfE6, toldE6, toldE6, toldk_nf hn ih]
  · intro kvs b _ hn ih; rw [nfE7, toldE7, toldE7, toldk_nf hn ih]
noncomputable def tagN : Tr α → Fin 7
  | .nul => 0
  | .int _ => 1
  | .name _ => 2
  | .ref _ => 3
  | .arr _ => 4
  | .dict _ => 5
  | .stm _ _ => 6
noncomputable def tagS (i : Fin 7) : Str := Str.ofString (#["null", "int", "name", "ref", "array", "dict", "stream"][i])
theorem tagS_inj : ∀ i j : Fin 7, tagS i = tagS j → i = j := by decide +kernel
theorem told_head (t : Val) : ∃ r, told t = .tup (.str (tagS (tagN t)) :: r) := by
  cases t <;> exact ⟨_, rfl⟩
theorem told_tag {t u : Val} (h : told t = told u) : tagN t = tagN u := by
  obtain ⟨r, h1⟩ := told_head t
  obtain ⟨r', h2⟩ := told_head u
  rw [h1, h2] at h
  simp only [V.tup.injEq, List.cons.injEq, V.str.injEq] at h
  exact tagS_inj _ _ h.1
theorem map_inj_on {γ δ : Type} {f : α → γ} {g : β → γ} {f' : α → δ} {g' : β → δ} : ∀ {xs : List α} {ys : List β}, (∀ x ∈ xs, ∀ y ∈ ys, f x = g y → f' x = g' y) → xs.map f = ys.map g → xs.map f' = ys.map g'
  | [], [], _, _ => rfl
  | [], y :: ys, _, h => by simp at h
  | x :: xs, [], _, h => by simp at h
  | x :: xs, y :: ys, hq, h => by
    simp only [List.map_cons, List.cons.injEq] at h ⊢
    exact ⟨hq x (.head _) y (.head _) h.1, map_inj_on (fun x hx y hy => hq x (.tail _ hx) y (.tail _ hy)) h.2⟩
theorem toldk_inj {kvs kws : List (Str × Val)} (ih : ∀ p ∈ kvs, ∀ q ∈ kws, told p.2 = told q.2 → nf all1 p.2 = nf all1 q.2)
    (h : ((sortK (toldk kvs)).map fun p => V.tup [.str p.1, p.2]) = (sortK (toldk kws)).map fun p => V.tup [.str p.1, p.2]) : sortK (nfk all1 kvs) = sortK (nfk all1 kws) := by
  rw [nfk1_eq, nfk1_eq, sortK_map, sortK_map]
  rw [toldk_eq, toldk_eq, sortK_map, sortK_map, List.map_map, List.map_map] at h
  refine map_inj_on (fun p hp q hq e => ?_) h
  simp only [Function.comp, V.tup.injEq, List.cons.injEq, V.str.injEq, and_true] at e
  have hp' := (List.mem_filter.mp ((sortK_perm _).mem_iff.mp hp)).1
  have hq' := (List.mem_filter.mp ((sortK_perm _).mem_iff.mp hq)).1
  rw [e.1, ih p hp' q hq' e.2]
theorem told_inj {d e : Nat} {t u : Val} (h : ok d t) (hu : ok e u) (ht : told t = told u) : nf all1 t = nf all1 u := by
  refine ok_ind (P := fun t => ∀ e u, ok e u → told t = told u → nf all1 t = nf all1 u) ?_ ?_ ?_ ?_ ?_ ?_ ?_ h e u hu ht
  · intro e u hu ht
    have hg := told_tag ht
    cases u <;> first | rfl | (simp [tagN] at hg)
  · intro i e u hu ht
    have hg := told_tag ht
    cases u <;> first | (simp [tagN] at hg; done) | skip
    simp only [toldE2, V.tup.injEq, List.cons.injEq, V.int.injEq, and_true, true_and] at ht
    rw [ht]
  · intro i e u hu ht
    have hg := told_tag ht
    cases u <;> first | (simp [tagN] at hg; done) | skip
    simp only [toldE3, V.tup.injEq, List.cons.injEq, V.str.injEq, and_true, true_and] at ht
    rw [ht]
  · intro p e u hu ht
    have hg := told_tag ht
    cases u <;> first | (simp [tagN] at hg; done) | skip
    simp only [toldE4, V.tup.injEq, List.cons.injEq, V.int.injEq, and_true, true_and] at ht
    rw [Prod.ext ht.1 ht.2]
  · intro xs _ ih e u hu ht
    have hg := told_tag ht
    cases u <;> first | (simp [tagN] at hg; done) | skip
    rename_i ys
    simp only [toldE5, tolds_eq, V.tup.injEq, List.cons.injEq, true_and] at ht
    rw [nfE5, nfE5, nfs_eq, nfs_eq]
    cases e with
    | zero => exact hu.elim
    | succ e => rw [map_inj_on (fun x hx y hy q => ih x hx e y (hu.2 y hy) q) ht]
  · intro kvs _ hn ih e u hu ht
    have hg := told_tag ht
    cases u <;> first | (simp [tagN] at hg; done) | skip
    rename_i kws
    simp only [toldE6, V.tup.injEq, List.cons.injEq, true_and] at ht
    rw [nfE6, nfE6]
    cases e with
    | zero => exact hu.elim
    | succ e => rw [toldk_inj (fun p hp q hq r => ih p hp e q.2 (hu.2.2 q hq) r) ht]
  · intro kvs b _ hn ih e u hu ht
    have hg := told_tag ht
    cases u <;> first | (simp [tagN] at hg; done) | skip
    rename_i kws c
    simp only [toldE7, V.tup.injEq, List.cons.injEq, true_and, V.bytes.injEq, and_true] at ht
    rw [nfE7, nfE7, ht.2]
    cases e with
    | zero => exact hu.elim
    | succ e => rw [toldk_inj (fun p hp q hq r => ih p hp e q.2 (hu.2.2 q hq) r) ht.1]
theorem ok_of_map {f : α → β} {d : Nat} {t : Tr α} (h : ok d (t.map f)) : ok d t := by
  induction d generalizing t with
  | zero => cases t <;> first | trivial | exact h.elim
  | succ d ih =>
    cases t with
    | arr xs => rw [trmapE5, maps_eq] at h; exact ⟨by simpa using h.1, fun x hx => ih (h.2 _ (List.mem_map.mpr ⟨x, hx, rfl⟩))⟩
    | dict kvs => rw [trmapE6, mapk_eq] at h; exact ⟨by simpa using h.1, by have := h.2.1; rwa [mapk_keys] at this, fun p hp => ih (h.2.2 _ (List.mem_map.mpr ⟨p, hp, rfl⟩))⟩
    | stm kvs b => rw [trmapE7, mapk_eq] at h; exact ⟨by simpa using h.1, by have := h.2.1; rwa [mapk_keys] at this, fun p hp => ih (h.2.2 _ (List.mem_map.mpr ⟨p, hp, rfl⟩))⟩
    | _ => trivial
noncomputable def Zip (R : α → β → Prop) (t : Tr α) (u : Tr β) : Prop := ∃ z : Tr (α × β), z.map (·.1) = t ∧ z.map (·.2) = u ∧ ∀ r ∈ lvs z, R r.1 r.2
theorem Zip.mono {R R' : α → β → Prop} {t : Tr α} {u : Tr β} (h : Zip R t u) (k : ∀ a b, R a b → R' a b) : Zip R' t u := let ⟨z, a, b, c⟩ := h; ⟨z, a, b, fun r hr => k _ _ (c r hr)⟩
theorem Zip.nul {R : α → β → Prop} : Zip R .nul .nul := ⟨.nul, rfl, rfl, fun r hr => by rw [lvsE1] at hr; cases hr⟩
theorem Zip.int {R : α → β → Prop} {i : Int} : Zip R (.int i) (.int i) := ⟨.int i, rfl, rfl, fun r hr => by rw [lvsE2] at hr; cases hr⟩
theorem Zip.name {R : α → β → Prop} {i : Str} : Zip R (.name i) (.name i) := ⟨.name i, rfl, rfl, fun r hr => by rw [lvsE3] at hr; cases hr⟩
theorem Zip.ref {R : α → β → Prop} {a : α} {b : β} (h : R a b) : Zip R (.ref a) (.ref b) := ⟨.ref (a, b), rfl, rfl, fun r hr => by rw [lvsE4] at hr; rw [List.mem_singleton.mp hr]; exact h⟩
theorem Zip.arrs {R : α → β → Prop} : ∀ {xs : List (Tr α)} {ys : List (Tr β)}, xs.length = ys.length → (∀ p ∈ xs.zip ys, Zip R p.1 p.2) → ∃ zs : List (Tr (α × β)), zs.map (Tr.map (·.1)) = xs ∧ zs.map (Tr.map (·.2)) = ys ∧ ∀ z ∈ zs, ∀ r ∈ lvs z, R r.1 r.2
  | [], [], _, _ => ⟨[], rfl, rfl, fun _ h => nomatch h⟩
  | [], _ :: _, h, _ => by simp at h
  | _ :: _, [], h, _ => by simp at h
  | x :: xs, y :: ys, h, k => by
    obtain ⟨z, a, b, c⟩ := k (x, y) (by rw [List.zip_cons_cons]; exact .head _)
    obtain ⟨zs, a', b', c'⟩ := Zip.arrs (xs := xs) (ys := ys) (by simpa using h) fun p hp => k p (by rw [List.zip_cons_cons]; exact .tail _ hp)
    refine ⟨z :: zs, by rw [List.map_cons, a, a'], by rw [List.map_cons, b, b'], fun w hw => ?_⟩
    rcases List.mem_cons.mp hw with rfl | hw
    · exact c
    · exact c' w hw
theorem Zip.arr {R : α → β → Prop} {xs : List (Tr α)} {ys : List (Tr β)} (h : xs.length = ys.length) (k : ∀ p ∈ xs.zip ys, Zip R p.1 p.2) : Zip R (.arr xs) (.arr ys) := by
  obtain ⟨zs, a, b, c⟩ := Zip.arrs h k
  refine ⟨.arr zs, by rw [trmapE5, maps_eq, a], by rw [trmapE5, maps_eq, b], fun r hr => ?_⟩
  obtain ⟨z, hz, hr⟩ := mem_lvs_arr.mp hr
  exact c z hz r hr
theorem Zip.dicts {R : α → β → Prop} : ∀ {kvs : List (Str × Tr α)} {kws : List (Str × Tr β)}, kvs.map (·.1) = kws.map (·.1) → (∀ p ∈ kvs.zip kws, Zip R p.1.2 p.2.2) → ∃ zs : List (Str × Tr (α × β)), Tr.mapk (·.1) zs = kvs ∧ Tr.mapk (·.2) zs = kws ∧ ∀ z ∈ zs, ∀ r ∈ lvs z.2, R r.1 r.2
  | [], [], _, _ => ⟨[], rfl, rfl, fun _ h => nomatch h⟩
  | [], _ :: _, h, _ => by simp at h
  | _ :: _, [], h, _ => by simp at h
  | (k1, x) :: kvs, (k2, y) :: kws, h, k => by
    obtain ⟨z, a, b, c⟩ := k ((k1, x), (k2, y)) (by rw [List.zip_cons_cons]; exact .head _)
    simp only [List.map_cons, List.cons.injEq] at h
    obtain ⟨zs, a', b', c'⟩ := Zip.dicts (kvs := kvs) (kws := kws) h.2 fun p hp => k p (by rw [List.zip_cons_cons]; exact .tail _ hp)
    refine ⟨(k1, z) :: zs, by rw [trmapkE2, a, a'], by rw [trmapkE2, b, b', h.1], fun w hw => ?_⟩
    rcases List.mem_cons.mp hw with rfl | hw
    · exact c
    · exact c' w hw
theorem Zip.dict {R : α → β → Prop} {kvs : List (Str × Tr α)} {kws : List (Str × Tr β)} (h : kvs.map (·.1) = kws.map (·.1)) (k : ∀ p ∈ kvs.zip kws, Zip R p.1.2 p.2.2) : Zip R (.dict kvs) (.dict kws) := by
  obtain ⟨zs, a, b, c⟩ := Zip.dicts h k
  exact ⟨.dict zs, by rw [trmapE6, a], by rw [trmapE6, b], fun r hr => let ⟨z, hz, hr⟩ := mem_lvs_dict.mp hr; c z hz r hr⟩
theorem Zip.stm {R : α → β → Prop} {kvs : List (Str × Tr α)} {kws : List (Str × Tr β)} {c : Array UInt8} (h : kvs.map (·.1) = kws.map (·.1)) (k : ∀ p ∈ kvs.zip kws, Zip R p.1.2 p.2.2) : Zip R (.stm kvs c) (.stm kws c) := by
  obtain ⟨zs, a, b, c⟩ := Zip.dicts h k
  exact ⟨.stm zs _, by rw [trmapE7, a], by rw [trmapE7, b], fun r hr => let ⟨z, hz, hr⟩ := mem_lvs_stm.mp hr; c z hz r hr⟩
theorem Zip.tag {R : α → β → Prop} {t : Tr α} {u : Tr β} (h : Zip R t u) : tagN t = tagN u := by
  obtain ⟨z, rfl, rfl, _⟩ := h; cases z <;> rfl
theorem Zip.int_inv {R : α → β → Prop} {i j : Int} (h : Zip R (.int i) (.int j)) : i = j := by
  obtain ⟨z, a, b, _⟩ := h; cases z <;> simp [trmapE1, trmapE2, trmapE3, trmapE4, trmapE5, trmapE6, trmapE7] at a b; rw [← a, ← b]
theorem Zip.name_inv {R : α → β → Prop} {i j : Str} (h : Zip R (.name i) (.name j)) : i = j := by
  obtain ⟨z, a, b, _⟩ := h; cases z <;> simp [trmapE1, trmapE2, trmapE3, trmapE4, trmapE5, trmapE6, trmapE7] at a b; rw [← a, ← b]
theorem Zip.ref_inv {R : α → β → Prop} {a : α} {b : β} (h : Zip R (.ref a) (.ref b)) : R a b := by
  obtain ⟨z, ha, hb, c⟩ := h
  cases z <;> simp [trmapE1, trmapE2, trmapE3, trmapE4, trmapE5, trmapE6, trmapE7] at ha hb
  rename_i p
  rw [← ha, ← hb]; exact c p (by rw [lvsE4]; simp)
theorem mem_zip_map {γ : Type} {f : γ → α} {g : γ → β} {zs : List γ} {p : α × β} (h : p ∈ (zs.map f).zip (zs.map g)) : ∃ z ∈ zs, p = (f z, g z) := by
  rw [List.zip_map'] at h
  obtain ⟨z, hz, rfl⟩ := List.mem_map.mp h
  exact ⟨z, hz, rfl⟩
theorem Zip.arr_inv {R : α → β → Prop} {xs : List (Tr α)} {ys : List (Tr β)} (h : Zip R (.arr xs) (.arr ys)) : xs.length = ys.length ∧ ∀ p ∈ xs.zip ys, Zip R p.1 p.2 := by
  obtain ⟨z, a, b, c⟩ := h
  cases z <;> simp only [trmapE1, trmapE2, trmapE3, trmapE4, trmapE5, trmapE6, trmapE7, reduceCtorEq, Tr.arr.injEq, maps_eq] at a b
  rename_i zs
  subst a b
  refine ⟨by simp, fun p hp => ?_⟩
  obtain ⟨z, hz, rfl⟩ := mem_zip_map hp
  exact ⟨z, rfl, rfl, fun r hr => c r (mem_lvs_arr.mpr ⟨z, hz, hr⟩)⟩
theorem Zip.dict_inv {R : α → β → Prop} {xs : List (Str × Tr α)} {ys : List (Str × Tr β)} (h : Zip R (.dict xs) (.dict ys)) : xs.map (·.1) = ys.map (·.1) ∧ ∀ p ∈ xs.zip ys, Zip R p.1.2 p.2.2 := by
  obtain ⟨z, a, b, c⟩ := h
  cases z <;> simp only [trmapE1, trmapE2, trmapE3, trmapE4, trmapE5, trmapE6, trmapE7, reduceCtorEq, Tr.dict.injEq, mapk_eq] at a b
  rename_i zs
  subst a b
  refine ⟨by rw [mapk_keys, mapk_keys], fun p hp => ?_⟩
  obtain ⟨z, hz, rfl⟩ := mem_zip_map hp
  exact ⟨z.2, rfl, rfl, fun r hr => c r (mem_lvs_dict.mpr ⟨z, hz, hr⟩)⟩
theorem Zip.stm_inv {R : α → β → Prop} {xs : List (Str × Tr α)} {ys : List (Str × Tr β)} {c d : Array UInt8} (h : Zip R (.stm xs c) (.stm ys d)) : c = d ∧ xs.map (·.1) = ys.map (·.1) ∧ ∀ p ∈ xs.zip ys, Zip R p.1.2 p.2.2 := by
  obtain ⟨z, a, b, c⟩ := h
  cases z <;> simp only [trmapE1, trmapE2, trmapE3, trmapE4, trmapE5, trmapE6, trmapE7, reduceCtorEq, Tr.stm.injEq, mapk_eq] at a b
  rename_i zs _
  obtain ⟨rfl, rfl⟩ := a
  obtain ⟨rfl, rfl⟩ := b
  refine ⟨rfl, by rw [mapk_keys, mapk_keys], fun p hp => ?_⟩
  obtain ⟨z, hz, rfl⟩ := mem_zip_map hp
  exact ⟨z.2, rfl, rfl, fun r hr => c r (mem_lvs_stm.mpr ⟨z, hz, hr⟩)⟩
theorem zip_of_map {f : α → γ} {g : β → γ} {d : Nat} {t : Tr α} (h : ok d t) : ∀ {u : Tr β}, t.map f = u.map g → Zip (fun a b => a ∈ lvs t ∧ b ∈ lvs u ∧ f a = g b) t u := by
  refine ok_ind (P := fun t => ∀ {u : Tr β}, t.map f = u.map g → Zip (fun a b => a ∈ lvs t ∧ b ∈ lvs u ∧ f a = g b) t u) ?_ ?_ ?_ ?_ ?_ ?_ ?_ h
  · intro u e; cases u <;> simp [trmapE1, trmapE2, trmapE3, trmapE4, trmapE5, trmapE6, trmapE7] at e; exact Zip.nul
  · intro i u e; cases u <;> simp [trmapE1, trmapE2, trmapE3, trmapE4, trmapE5, trmapE6, trmapE7] at e; rw [e]; exact Zip.int
  · intro i u e; cases u <;> simp [trmapE1, trmapE2, trmapE3, trmapE4, trmapE5, trmapE6, trmapE7] at e; rw [e]; exact Zip.name
  · intro p u e; cases u <;> simp [trmapE1, trmapE2, trmapE3, trmapE4, trmapE5, trmapE6, trmapE7] at e; exact Zip.ref ⟨by simp [lvsE4], by simp [lvsE4], e⟩
  · intro xs _ ih u e
    cases u <;> simp only [trmapE1, trmapE2, trmapE3, trmapE4, trmapE5, trmapE6, trmapE7, reduceCtorEq, Tr.arr.injEq, maps_eq] at e
    rename_i ys
    refine Zip.arr (by simpa using congrArg List.length e) fun p hp => ?_
    obtain ⟨i, hi⟩ := List.mem_iff_getElem?.mp hp
    rw [List.getElem?_zip_eq_some] at hi
    have hx := List.mem_of_getElem? hi.1
    have hy := List.mem_of_getElem? hi.2
    have ee : p.1.map f = p.2.map g := by
      have := congrArg (fun l => l[i]?) e
      simpa [hi.1, hi.2] using this
    exact (ih p.1 hx ee).mono fun a b ⟨a1, a2, a3⟩ => ⟨mem_lvs_arr.mpr ⟨_, hx, a1⟩, mem_lvs_arr.mpr ⟨_, hy, a2⟩, a3⟩
  · intro xs _ _ ih u e
    cases u <;> simp only [trmapE1, trmapE2, trmapE3, trmapE4, trmapE5, trmapE6, trmapE7, reduceCtorEq, Tr.dict.injEq, mapk_eq] at e
    rename_i ys
    refine Zip.dict (by have := congrArg (List.map (·.1)) e; rwa [mapk_keys, mapk_keys] at this) fun p hp => ?_
    obtain ⟨i, hi⟩ := List.mem_iff_getElem?.mp hp
    rw [List.getElem?_zip_eq_some] at hi
    have hx := List.mem_of_getElem? hi.1
    have hy := List.mem_of_getElem? hi.2
    have ee : p.1.2.map f = p.2.2.map g := by
      have := congrArg (fun l => l[i]?) e
      simp [hi.1, hi.2] at this; exact this.2
    exact (ih p.1 hx ee).mono fun a b ⟨a1, a2, a3⟩ => ⟨mem_lvs_dict.mpr ⟨_, hx, a1⟩, mem_lvs_dict.mpr ⟨_, hy, a2⟩, a3⟩
  · intro xs b _ _ ih u e
    cases u <;> simp only [trmapE1, trmapE2, trmapE3, trmapE4, trmapE5, trmapE6, trmapE7, reduceCtorEq, Tr.stm.injEq, mapk_eq] at e
    rename_i ys c
    obtain ⟨e, rfl⟩ := e
    refine Zip.stm (by have := congrArg (List.map (·.1)) e; rwa [mapk_keys, mapk_keys] at this) fun p hp => ?_
    obtain ⟨i, hi⟩ := List.mem_iff_getElem?.mp hp
    rw [List.getElem?_zip_eq_some] at hi
    have hx := List.mem_of_getElem? hi.1
    have hy := List.mem_of_getElem? hi.2
    have ee : p.1.2.map f = p.2.2.map g := by
      have := congrArg (fun l => l[i]?) e
      simp [hi.1, hi.2] at this; exact this.2
    exact (ih p.1 hx ee).mono fun a b ⟨a1, a2, a3⟩ => ⟨mem_lvs_stm.mpr ⟨_, hx, a1⟩, mem_lvs_stm.mpr ⟨_, hy, a2⟩, a3⟩
end
end SP
namespace SP
set_option linter.unusedVariables false
open PySem PySem.W PySem.Calls PyProof.Rows
section
variable {α β : Type} [DecidableEq α] [DecidableEq β]
noncomputable def add1 (acc : List α) (p : α) : List α := if p ∈ acc then acc else acc ++ [p]
noncomputable def addL (acc ps : List α) : List α := ps.foldl add1 acc
theorem addL_nil {acc : List α} : addL acc [] = acc := rfl
theorem addL_cons {acc ps : List α} {p : α} : addL acc (p :: ps) = addL (add1 acc p) ps := rfl
theorem addL_append {acc ps qs : List α} : addL acc (ps ++ qs) = addL (addL acc ps) qs := List.foldl_append
theorem mem_add1 {acc : List α} {p q : α} : q ∈ add1 acc p ↔ q ∈ acc ∨ q = p := by
  unfold add1
  split
  · rename_i h
    exact ⟨.inl, fun h' => h'.elim id fun e => e ▸ h⟩
  · simp
theorem mem_addL {acc ps : List α} {q : α} : q ∈ addL acc ps ↔ q ∈ acc ∨ q ∈ ps := by
  induction ps generalizing acc with
  | nil => simp [addL]
  | cons p r ih => rw [addL_cons, ih, mem_add1, List.mem_cons, or_assoc]
theorem add1_of_mem {acc : List α} {p : α} (h : p ∈ acc) : add1 acc p = acc := if_pos h
theorem add1_new {acc : List α} {p : α} (h : p ∉ acc) : add1 acc p = acc ++ [p] := if_neg h
theorem addL_prefix {acc ps : List α} : ∃ t, addL acc ps = acc ++ t := by
  induction ps generalizing acc with
  | nil => exact ⟨[], by simp [addL]⟩
  | cons p r ih =>
    obtain ⟨t, h⟩ := ih (acc := add1 acc p)
    rw [addL_cons, h]
    unfold add1
    split
    · exact ⟨t, rfl⟩
    · exact ⟨p :: t, by simp⟩
theorem add1_nodup {acc : List α} {p : α} (h : acc.Nodup) : (add1 acc p).Nodup := by
  unfold add1
  split
  · exact h
  · rename_i q
    rw [List.nodup_append]
    exact ⟨h, by simp, fun a ha b hb e => by rw [List.mem_singleton.mp hb] at e; exact q (e ▸ ha)⟩
theorem addL_nodup {acc ps : List α} (h : acc.Nodup) : (addL acc ps).Nodup := by
  induction ps generalizing acc with
  | nil => exact h
  | cons p r ih => rw [addL_cons]; exact ih (add1_nodup h)
theorem addL_dedup {acc pre ps : List α} : addL acc (addL pre ps) = addL (addL acc pre) ps := by
  induction ps generalizing pre with
  | nil => rfl
  | cons p r ih =>
    rw [addL_cons, ih, addL_cons]
    congr 1
    unfold add1
    split
    · rename_i h
      rw [if_pos (mem_addL.mpr (.inr h))]
    · rw [addL_append]; rfl
theorem addL_filter {L : α → Bool} {acc ps : List α} : (addL acc ps).filter L = addL (acc.filter L) (ps.filter L) := by
  induction ps generalizing acc with
  | nil => rfl
  | cons p r ih =>
    rw [addL_cons, ih, List.filter_cons]
    by_cases hp : L p = true
    · rw [if_pos hp, addL_cons]
      congr 1
      unfold add1
      by_cases h : p ∈ acc
      · rw [if_pos h, if_pos (List.mem_filter.mpr ⟨h, hp⟩)]
      · rw [if_neg h, if_neg fun q => h (List.mem_filter.mp q).1, List.filter_append]; simp [hp]
    · rw [if_neg hp]
      congr 1
      unfold add1
      split
      · rfl
      · rw [List.filter_append]; simp [hp]
theorem addL_map {f : α → β} {acc ps : List α} (hf : ∀ a ∈ acc ++ ps, ∀ b ∈ acc ++ ps, f a = f b → a = b) : (addL acc ps).map f = addL (acc.map f) (ps.map f) := by
  induction ps generalizing acc with
  | nil => rfl
  | cons p r ih =>
    have hm : ∀ a, a ∈ add1 acc p ++ r → a ∈ acc ++ p :: r := fun a ha => by
      rcases List.mem_append.mp ha with h | h
      · rcases mem_add1.mp h with h | h
        · exact List.mem_append.mpr (.inl h)
        · exact List.mem_append.mpr (.inr (h ▸ .head _))
      · exact List.mem_append.mpr (.inr (.tail _ h))
    rw [addL_cons, ih fun a ha b hb => hf a (hm a ha) b (hm b hb), List.map_cons, addL_cons]
    congr 1
    unfold add1
    by_cases h : p ∈ acc
    · rw [if_pos h, if_pos (List.mem_map.mpr ⟨p, h, rfl⟩)]
    · rw [if_neg h, if_neg, List.map_append]
      · rfl
      · intro q
        obtain ⟨a, ha, e⟩ := List.mem_map.mp q
        exact h (hf a (List.mem_append.mpr (.inl ha)) p (List.mem_append.mpr (.inr (.head _))) e ▸ ha)
noncomputable def bfs (nx : α → List α) : Nat → Nat → List α → List α
  | 0, _, found => found
  | k + 1, at', found => match found[at']? with
    | none => found
    | some p => bfs nx k (at' + 1) (addL found (nx p))
theorem bfsE1 {nx : α → List α} {i : Nat} {fd : List α} : bfs nx 0 i fd = fd := rfl
theorem bfsE2 {nx : α → List α} {i k : Nat} {fd : List α} : bfs nx (k + 1) i fd = match fd[i]? with | none => fd | some p => bfs nx k (i + 1) (addL fd (nx p)) := rfl
theorem bfs_stop {nx : α → List α} {k at' : Nat} {found : List α} (h : found.length ≤ at') : bfs nx k at' found = found := by
  cases k with
  | zero => rfl
  | succ k => rw [bfsE2, List.getElem?_eq_none_iff.mpr h]
theorem bfs_step {nx : α → List α} {k at' : Nat} {found : List α} {p : α} (h : found[at']? = some p) : bfs nx (k + 1) at' found = bfs nx k (at' + 1) (addL found (nx p)) := by rw [bfsE2, h]
theorem bfs_prefix {nx : α → List α} {k at' : Nat} {found : List α} : ∃ t, bfs nx k at' found = found ++ t := by
  induction k generalizing at' found with
  | zero => exact ⟨[], by simp [bfsE1]⟩
  | succ k ih =>
    rw [bfsE2]
    split
    · exact ⟨[], by simp⟩
    · rename_i p _
      obtain ⟨t, h⟩ := ih (at' := at' + 1) (found := addL found (nx p))
      obtain ⟨t', h'⟩ := addL_prefix (acc := found) (ps := nx p)
      exact ⟨t' ++ t, by rw [h, h', List.append_assoc]⟩
theorem bfs_nodup {nx : α → List α} {k at' : Nat} {found : List α} (h : found.Nodup) : (bfs nx k at' found).Nodup := by
  induction k generalizing at' found with
  | zero => exact h
  | succ k ih => rw [bfsE2]; split; · exact h
                 · exact ih (addL_nodup h)
theorem bfs_sub {nx : α → List α} {C : α → Prop} (hC : ∀ p, C p → ∀ q ∈ nx p, C q) {k at' : Nat} {found : List α} (h : ∀ p ∈ found, C p) : ∀ p ∈ bfs nx k at' found, C p := by
  induction k generalizing at' found with
  | zero => exact h
  | succ k ih =>
    rw [bfsE2]
    split
    · exact h
    · rename_i p hp
      refine ih fun q hq => ?_
      rcases mem_addL.mp hq with hq | hq
      · exact h q hq
      · exact hC p (h p (List.mem_of_getElem? hp)) q hq
theorem bfs_map {f : α → β} {nx : α → List α} {nx' : β → List β} {C : α → Prop} (hC : ∀ p, C p → ∀ q ∈ nx p, C q) (hf : ∀ a, C a → ∀ b, C b → f a = f b → a = b) (hn : ∀ p, C p → nx' (f p) = (nx p).map f) {k at' : Nat} {found : List α}
    (h : ∀ p ∈ found, C p) : bfs nx' k at' (found.map f) = (bfs nx k at' found).map f := by
  induction k generalizing at' found with
  | zero => rfl
  | succ k ih =>
    rw [bfsE2, bfsE2, List.getElem?_map]
    cases hp : found[at']? with
    | none => rfl
    | some p =>
      have cp := h p (List.mem_of_getElem? hp)
      have hm : ∀ a ∈ found ++ nx p, C a := fun a ha => (List.mem_append.mp ha).elim (h a) (hC p cp a)
      show bfs nx' k (at' + 1) (addL (found.map f) (nx' (f p))) = _
      rw [hn p cp, ← addL_map fun a ha b hb => hf a (hm a ha) b (hm b hb)]
      exact ih fun q hq => by
        rcases mem_addL.mp hq with hq | hq
        · exact h q hq
        · exact hC p cp q hq
theorem nodup_len {l D : List α} (h : l.Nodup) (hs : ∀ p ∈ l, p ∈ D) : l.length ≤ D.length := by
  induction l generalizing D with
  | nil => exact Nat.zero_le _
  | cons a r ih =>
    rw [List.nodup_cons] at h
    have ha := hs a (.head _)
    have := ih (D := D.erase a) h.2 fun p hp => (List.mem_erase_of_ne (fun e => h.1 (by rw [← e]; exact hp))).mpr (hs p (.tail _ hp))
    rw [List.length_erase_of_mem ha] at this
    have := List.length_pos_of_mem ha
    rw [List.length_cons]; omega
theorem bfs_closed {nx : α → List α} {D : List α} (hD : ∀ p ∈ D, ∀ q ∈ nx p, q ∈ D) {k at' : Nat} {found : List α} (hn : found.Nodup) (hs : ∀ p ∈ found, p ∈ D) (hk : D.length ≤ at' + k)
    (ha : ∀ i p, i < at' → found[i]? = some p → ∀ q ∈ nx p, q ∈ found) : ∀ p ∈ bfs nx k at' found, ∀ q ∈ nx p, q ∈ bfs nx k at' found := by
  induction k generalizing at' found with
  | zero =>
    intro p hp q hq
    obtain ⟨i, hi⟩ := List.mem_iff_getElem?.mp (show p ∈ found from hp)
    have := nodup_len hn hs
    have hl := (List.getElem?_eq_some_iff.mp hi).1
    exact ha i p (by omega) hi q hq
  | succ k ih =>
    rw [bfsE2]
    split
    · rename_i h
      have hl := List.getElem?_eq_none_iff.mp h
      intro p hp q hq
      obtain ⟨i, hi⟩ := List.mem_iff_getElem?.mp hp
      have := (List.getElem?_eq_some_iff.mp hi).1
      exact ha i p (by omega) hi q hq
    · rename_i p0 hp0
      refine ih (addL_nodup hn) (fun p hp => (mem_addL.mp hp).elim (hs p) (hD p0 (hs p0 (List.mem_of_getElem? hp0)) p)) (by omega) fun i p hi hp q hq => ?_
      obtain ⟨t, ht⟩ := addL_prefix (acc := found) (ps := nx p0)
      have hlt := (List.getElem?_eq_some_iff.mp hp0).1
      rw [ht, List.getElem?_append_left (by omega)] at hp
      by_cases e : i = at'
      · subst e
        rw [hp0] at hp; cases hp
        exact mem_addL.mpr (.inr hq)
      · exact mem_addL.mpr (.inl (ha i p (by omega) hp q hq))
theorem bfs_room {D found : List α} (hn : found.Nodup) (hs : ∀ p ∈ found, p ∈ D) {k at' : Nat} (hk : D.length ≤ at' + k) {p : α} (hp : found[at']? = some p) : ∃ k', k = k' + 1 := by
  have := nodup_len hn hs
  have hl := (List.getElem?_eq_some_iff.mp hp).1
  cases k with
  | zero => omega
  | succ k => exact ⟨k, rfl⟩
end
end SP
namespace SP
set_option linter.unusedVariables false
open PySem PySem.W PySem.Calls PyProof.Rows
structure Shf where
  tab : List (Int × Int × Val)
  tr : List (Str × Val)
noncomputable def places : List Str := [Str.ofString "Size", Str.ofString "Prev", Str.ofString "XRefStm"]
noncomputable def there (S : Shf) (p : PP) : Bool := match S.tab.lookup p.1 with | some r => r.1 == p.2 | none => false
noncomputable def cont (S : Shf) (p : PP) : Val := match S.tab.lookup p.1 with | some r => r.2 | none => .nul
noncomputable def plain (S : Shf) : List (Str × Val) := S.tr.filter fun p => !places.any (· == p.1)
noncomputable def nfc (S : Shf) (p : PP) : Val := nf (there S) (cont S p)
noncomputable def trn (S : Shf) : Val := nf (there S) (.dict (plain S))
noncomputable def nx (S : Shf) (p : PP) : List PP := lvs (nfc S p)
noncomputable def walkP (S : Shf) (v : Val) : List PP := bfs (nx S) 64 0 (addL [] (lvs (nf (there S) v)))
noncomputable def ordP (S : Shf) : List PP := walkP S (.dict (plain S))
noncomputable def fr (S : Shf) (p : PP) : PP := (((ordP S).idxOf p : Int) + 1, 0)
noncomputable def tabO (S : Shf) (p : PP) : Option PP := if p ∈ ordP S then some (fr S p) else none
noncomputable def compact (S : Shf) : Shf := ⟨(ordP S).map fun p => ((fr S p).1, 0, ren (tabO S) (cont S p)), renk (tabO S) (plain S)⟩
noncomputable def rowV (S : Shf) (n : Int) : V := match S.tab.lookup n with | some r => .tup [.int n, .int r.1, told r.2] | none => .none
noncomputable def numsP (S : Shf) : List Int := sortI (S.tab.map (·.1))
noncomputable def toldS (S : Shf) : V := .tup [.tup ((numsP S).map (rowV S)), told (.dict S.tr)]
structure ShOk (S : Shf) : Prop where
  keys : (S.tab.map (·.1)).Nodup
  len : S.tab.length ≤ 9
  vals : ∀ r ∈ S.tab, ok 2 r.2.2
  tr : ok 3 (.dict S.tr)
theorem look_mem {β : Type} {l : List (Int × β)} {n : Int} {r : β} (h : l.lookup n = some r) : (n, r) ∈ l := by
  induction l with
  | nil => cases h
  | cons p t ih =>
    obtain ⟨m, s⟩ := p
    by_cases e : n = m
    · subst e; simp [List.lookup] at h; rw [h]; exact .head _
    · have : (n == m) = false := by simpa using e
      simp only [List.lookup, this] at h
      exact .tail _ (ih h)
theorem look_of_mem {β : Type} {l : List (Int × β)} (hn : (l.map (·.1)).Nodup) {n : Int} {r : β} (h : (n, r) ∈ l) : l.lookup n = some r := by
  induction l with
  | nil => cases h
  | cons p t ih =>
    obtain ⟨m, s⟩ := p
    rw [List.map_cons, List.nodup_cons] at hn
    rcases List.mem_cons.mp h with e | h
    · cases e; simp [List.lookup]
    · have : n ≠ m := fun e => hn.1 (List.mem_map.mpr ⟨_, h, e⟩)
      have : (n == m) = false := by simpa using this
      simp only [List.lookup, this]
      exact ih hn.2 h
theorem look_none {β : Type} {l : List (Int × β)} {n : Int} (h : n ∉ l.map (·.1)) : l.lookup n = none := by
  cases e : l.lookup n with
  | none => rfl
  | some r => exact absurd (List.mem_map.mpr ⟨_, look_mem e, rfl⟩) h
section
variable {S T : Shf}
theorem there_iff {p : PP} : there S p = true ↔ ∃ v, S.tab.lookup p.1 = some (p.2, v) := by
  unfold there
  split
  · rename_i r e
    rw [e]
    simp only [beq_iff_eq, Option.some.injEq]
    constructor
    · intro h; exact ⟨r.2, by rw [← h]⟩
    · rintro ⟨v, h⟩; rw [h]
  · rename_i e; rw [e]; simp
theorem there_num {p q : PP} (hp : there S p = true) (hq : there S q = true) (e : p.1 = q.1) : p = q := by
  obtain ⟨v, h1⟩ := there_iff.mp hp
  obtain ⟨w, h2⟩ := there_iff.mp hq
  rw [e, h2] at h1
  simp only [Option.some.injEq, Prod.mk.injEq] at h1
  exact Prod.ext e h1.1.symm
noncomputable def domP (S : Shf) : List PP := S.tab.map fun r => (r.1, r.2.1)
theorem dom_of_there {p : PP} (h : there S p = true) : p ∈ domP S := by
  obtain ⟨v, h⟩ := there_iff.mp h
  exact List.mem_map.mpr ⟨_, look_mem h, rfl⟩
theorem dom_len (h : ShOk S) : (domP S).length ≤ 9 := by unfold domP; rw [List.length_map]; exact h.len
theorem ok_cont (h : ShOk S) (p : PP) : ok 2 (cont S p) := by
  unfold cont
  split
  · rename_i r e; exact h.vals _ (look_mem e)
  · trivial
theorem ok_plain (h : ShOk S) : ok 3 (.dict (plain S)) := ⟨Nat.le_trans (List.length_filter_le _ _) h.tr.1, filt_nodup h.tr.2.1 _, fun p hp => h.tr.2.2 p (List.mem_filter.mp hp).1⟩
theorem ok_nfc (h : ShOk S) (p : PP) : ok 2 (nfc S p) := ok_nf (ok_cont h p)
theorem ok_trn (h : ShOk S) : ok 3 (trn S) := ok_nf (ok_plain h)
theorem nf_there {d : Nat} {v : Val} (h : ok d v) : ∀ p ∈ lvs (nf (there S) v), there S p = true := fun p hp => by
  rw [lvs_nf h] at hp; exact (List.mem_filter.mp hp).2
theorem nx_there (h : ShOk S) (p : PP) : ∀ q ∈ nx S p, there S q = true := nf_there (ok_cont h p)
theorem addL_nil_mem {l : List PP} {p : PP} : p ∈ addL [] l ↔ p ∈ l := by rw [mem_addL]; simp
theorem walk_there (h : ShOk S) {d : Nat} {v : Val} (hv : ok d v) : ∀ p ∈ walkP S v, there S p = true :=
  bfs_sub (C := fun p => there S p = true) (fun p _ => nx_there h p) fun p hp => nf_there hv p (addL_nil_mem.mp hp)
theorem walk_nodup {v : Val} : (walkP S v).Nodup := bfs_nodup (addL_nodup List.nodup_nil)
theorem walk_start {v : Val} : ∀ p ∈ lvs (nf (there S) v), p ∈ walkP S v := fun p hp => by
  obtain ⟨t, ht⟩ := bfs_prefix (nx := nx S) (k := 64) (at' := 0) (found := addL [] (lvs (nf (there S) v)))
  show p ∈ bfs _ _ _ _
  rw [ht]; exact List.mem_append.mpr (.inl (addL_nil_mem.mpr hp))
theorem walk_closed (h : ShOk S) {d : Nat} {v : Val} (hv : ok d v) : ∀ p ∈ walkP S v, ∀ q ∈ nx S p, q ∈ walkP S v :=
  bfs_closed (D := domP S) (fun p _ q hq => dom_of_there (nx_there h p q hq)) (addL_nodup List.nodup_nil) (fun p hp => dom_of_there (nf_there hv p (addL_nil_mem.mp hp))) (by have := dom_len h; omega) fun i p hi => absurd hi (Nat.not_lt_zero _)
theorem ord_there (h : ShOk S) : ∀ p ∈ ordP S, there S p = true := walk_there h (ok_plain h)
theorem ord_nodup : (ordP S).Nodup := walk_nodup
theorem ord_start : ∀ p ∈ lvs (trn S), p ∈ ordP S := walk_start
theorem ord_closed (h : ShOk S) : ∀ p ∈ ordP S, ∀ q ∈ nx S p, q ∈ ordP S := walk_closed h (ok_plain h)
theorem ord_len (h : ShOk S) : (ordP S).length ≤ 9 := Nat.le_trans (nodup_len ord_nodup fun p hp => dom_of_there (ord_there h p hp)) (dom_len h)
theorem fr_at {i : Nat} (hi : i < (ordP S).length) : fr S (ordP S)[i] = ((i : Int) + 1, 0) := by
  unfold fr
  rw [(ord_nodup (S := S)).idxOf_getElem i hi]
theorem fr_get {i : Nat} {p : PP} (hi : (ordP S)[i]? = some p) : fr S p = ((i : Int) + 1, 0) := by
  obtain ⟨h1, h2⟩ := List.getElem?_eq_some_iff.mp hi
  rw [← h2]; exact fr_at h1
theorem fr_inj {p q : PP} (hp : p ∈ ordP S) (hq : q ∈ ordP S) (e : fr S p = fr S q) : p = q := by
  obtain ⟨i, hi⟩ := List.mem_iff_getElem?.mp hp
  obtain ⟨j, hj⟩ := List.mem_iff_getElem?.mp hq
  rw [fr_get hi, fr_get hj] at e
  simp only [Prod.mk.injEq, and_true] at e
  have : i = j := by omega
  subst this
  rw [hi] at hj; cases hj; rfl
theorem fr_nums : (ordP S).map (fun p => (fr S p).1) = (List.range (ordP S).length).map fun i : Nat => (i : Int) + 1 := by
  refine List.ext_getElem (by simp) fun i h1 h2 => ?_
  rw [List.getElem_map, List.getElem_map, List.getElem_range, fr_at]
theorem range_sorted (k : Nat) : ((List.range k).map fun i : Nat => (i : Int) + 1).Pairwise (· < ·) := by
  rw [List.pairwise_map]
  exact List.pairwise_lt_range.imp fun h => by omega
theorem sortI_of_sorted {l : List Int} (h : l.Pairwise (· ≤ ·)) : sortI l = l := sorted_eqI (sortI_perm l) (sortI_sorted l) h
theorem compact_keys : (compact S).tab.map (·.1) = (List.range (ordP S).length).map fun i : Nat => (i : Int) + 1 := by
  rw [← fr_nums]; unfold compact; simp [Function.comp]
theorem compact_nums : numsP (compact S) = (List.range (ordP S).length).map fun i : Nat => (i : Int) + 1 := by
  unfold numsP
  rw [compact_keys]
  exact sortI_of_sorted ((range_sorted _).imp fun h => Int.le_of_lt h)
theorem compact_nodup : ((compact S).tab.map (·.1)).Nodup := by
  rw [compact_keys]; exact (range_sorted _).imp fun h => Int.ne_of_lt h
theorem compact_ok (h : ShOk S) : ShOk (compact S) where
  keys := compact_nodup
  len := by unfold compact; simpa using ord_len h
  vals := fun r hr => by
    unfold compact at hr
    obtain ⟨p, _, rfl⟩ := List.mem_map.mp hr
    exact ok_ren (ok_cont h p)
  tr := by have := ok_ren (tab := tabO S) (ok_plain h); rwa [renE6] at this
theorem compact_look {p : PP} (hp : p ∈ ordP S) : (compact S).tab.lookup (fr S p).1 = some (0, ren (tabO S) (cont S p)) :=
  look_of_mem compact_nodup (List.mem_map.mpr ⟨p, hp, rfl⟩)
theorem tabO_ok (h : ShOk S) {d : Nat} {v : Val} (hv : ok d v) (hc : ∀ p ∈ lvs (nf (there S) v), p ∈ ordP S) {L' : PP → Bool} (hL : ∀ p ∈ ordP S, L' (fr S p) = true) : nf L' (ren (tabO S) v) = (nf (there S) v).map (fr S) := by
  refine nf_ren hv fun p hp => ⟨fun ht => ?_, fun ht => ?_⟩
  · have hm := hc p (by rw [lvs_nf hv]; exact List.mem_filter.mpr ⟨hp, ht⟩)
    exact ⟨if_pos hm, hL p hm⟩
  · refine if_neg fun hm => ?_
    have := ord_there h p hm
    rw [ht] at this; cases this
theorem told_row (h : ShOk S) {p : PP} (hp : p ∈ ordP S) : nf all1 (ren (tabO S) (cont S p)) = (nfc S p).map (fr S) :=
  tabO_ok h (ok_cont h p) (ord_closed h p hp) fun _ _ => rfl
theorem told_trn (h : ShOk S) : nf all1 (.dict (compact S).tr) = (trn S).map (fr S) := by
  have := tabO_ok h (ok_plain h) ord_start (L' := all1) fun _ _ => rfl
  rwa [renE6] at this
theorem compact_there (h : ShOk S) {p : PP} (hp : p ∈ ordP S) : there (compact S) (fr S p) = true := there_iff.mpr ⟨_, compact_look hp⟩
theorem compact_cont {p : PP} (hp : p ∈ ordP S) : cont (compact S) (fr S p) = ren (tabO S) (cont S p) := by unfold cont; rw [compact_look hp]; rfl
theorem compact_plain : plain (compact S) = (compact S).tr := by
  unfold plain
  refine List.filter_eq_self.mpr fun p hp => ?_
  obtain ⟨q, hq, rfl⟩ := mem_renk hp
  exact (List.mem_filter.mp hq).2
theorem compact_nfc (h : ShOk S) {p : PP} (hp : p ∈ ordP S) : nfc (compact S) (fr S p) = (nfc S p).map (fr S) := by
  unfold nfc
  rw [compact_cont hp]
  exact tabO_ok h (ok_cont h p) (ord_closed h p hp) fun q hq => compact_there h hq
theorem compact_trn (h : ShOk S) : trn (compact S) = (trn S).map (fr S) := by
  unfold trn
  rw [compact_plain]
  have := tabO_ok h (ok_plain h) ord_start (L' := there (compact S)) fun q hq => compact_there h hq
  rwa [renE6] at this
theorem compact_ord (h : ShOk S) : ordP (compact S) = (ordP S).map (fr S) := by
  have hs : lvs (trn (compact S)) = (lvs (trn S)).map (fr S) := by rw [compact_trn h, lvs_map (ok_trn h)]
  have key := bfs_map (f := fr S) (nx := nx S) (nx' := nx (compact S)) (C := fun p => p ∈ ordP S) (ord_closed h) (fun a ha b hb => fr_inj ha hb) (fun p hp => by
    unfold nx; rw [compact_nfc h hp, lvs_map (ok_nfc h p)]) (k := 64) (at' := 0) (found := addL [] (lvs (trn S))) fun p hp => ord_start p (addL_nil_mem.mp hp)
  rw [addL_map fun a ha b hb => fr_inj (ord_start a (by simpa using ha)) (ord_start b (by simpa using hb))] at key
  show bfs _ _ _ (addL [] (lvs (trn (compact S)))) = _
  rw [hs]
  exact key
theorem rowV_compact {p : PP} (hp : p ∈ ordP S) : rowV (compact S) (fr S p).1 = .tup [.int (fr S p).1, .int 0, told (ren (tabO S) (cont S p))] := by unfold rowV; rw [compact_look hp]
theorem toldS_compact : toldS (compact S) = .tup [.tup ((ordP S).map fun p => .tup [.int (fr S p).1, .int 0, told (ren (tabO S) (cont S p))]), told (.dict (compact S).tr)] := by
  unfold toldS
  rw [compact_nums, ← fr_nums, List.map_map]
  congr 3
  exact List.map_congr_left fun p hp => rowV_compact hp
end
end SP
namespace SP
set_option linter.unusedVariables false
open PySem PySem.W PySem.Calls PyProof.Rows
structure Bis (S T : Shf) (R : PP → PP → Prop) : Prop where
  thS : ∀ p q, R p q → there S p = true
  thT : ∀ p q, R p q → there T q = true
  fn : ∀ p q q', R p q → R p q' → q = q'
  inj : ∀ p p' q, R p q → R p' q → p = p'
  top : Zip R (trn S) (trn T)
  all : ∀ p q, R p q → Zip R (nfc S p) (nfc T q)
section
variable {S T : Shf} {R : PP → PP → Prop}
open Classical in
theorem Bis.joint (hS : ShOk S) (hT : ShOk T) (B : Bis S T R) : ∃ (O : List (PP × PP)) (zt : Tr (PP × PP)) (cz : PP × PP → Tr (PP × PP)), ordP S = O.map (·.1) ∧ ordP T = O.map (·.2) ∧ O.Nodup ∧ (∀ r ∈ O, R r.1 r.2) ∧
    zt.map (·.1) = trn S ∧ zt.map (·.2) = trn T ∧ (∀ r ∈ lvs zt, r ∈ O) ∧ ∀ r ∈ O, (cz r).map (·.1) = nfc S r.1 ∧ (cz r).map (·.2) = nfc T r.2 ∧ ∀ s ∈ lvs (cz r), s ∈ O := by
  obtain ⟨zt, t1, t2, t3⟩ := B.top
  have hcz : ∀ r : PP × PP, ∃ z : Tr (PP × PP), R r.1 r.2 → z.map (·.1) = nfc S r.1 ∧ z.map (·.2) = nfc T r.2 ∧ ∀ s ∈ lvs z, R s.1 s.2 := fun r => by
    by_cases hr : R r.1 r.2
    · obtain ⟨z, a, b, c⟩ := B.all _ _ hr; exact ⟨z, fun _ => ⟨a, b, c⟩⟩
    · exact ⟨.nul, fun h => absurd h hr⟩
  let cz := fun r => (hcz r).choose
  have hc : ∀ r : PP × PP, R r.1 r.2 → (cz r).map (·.1) = nfc S r.1 ∧ (cz r).map (·.2) = nfc T r.2 ∧ ∀ s ∈ lvs (cz r), R s.1 s.2 := fun r => (hcz r).choose_spec
  have okt : ok 3 zt := ok_of_map (f := (·.1)) (by rw [t1]; exact ok_trn hS)
  have okc : ∀ r : PP × PP, R r.1 r.2 → ok 2 (cz r) := fun r hr => ok_of_map (f := (·.1)) (by rw [(hc r hr).1]; exact ok_nfc hS _)
  have n1 : ∀ r : PP × PP, R r.1 r.2 → nx S r.1 = (lvs (cz r)).map (·.1) := fun r hr => by unfold nx; rw [← (hc r hr).1, lvs_map (okc r hr)]
  have n2 : ∀ r : PP × PP, R r.1 r.2 → nx T r.2 = (lvs (cz r)).map (·.2) := fun r hr => by unfold nx; rw [← (hc r hr).2.1, lvs_map (okc r hr)]
  have i1 : ∀ a : PP × PP, R a.1 a.2 → ∀ b : PP × PP, R b.1 b.2 → a.1 = b.1 → a = b := fun a ha b hb e => Prod.ext e (B.fn _ _ _ ha (e ▸ hb))
  have i2 : ∀ a : PP × PP, R a.1 a.2 → ∀ b : PP × PP, R b.1 b.2 → a.2 = b.2 → a = b := fun a ha b hb e => Prod.ext (B.inj _ _ _ ha (e ▸ hb)) e
  have st : ∀ p ∈ addL [] (lvs zt), R p.1 p.2 := fun p hp => t3 p (by rw [mem_addL] at hp; simpa using hp)
  have b1 := bfs_map (f := fun r : PP × PP => r.1) (nx := fun r => lvs (cz r)) (nx' := nx S) (C := fun r => R r.1 r.2) (fun p hp => (hc p hp).2.2) i1 n1 (k := 64) (at' := 0) st
  have b2 := bfs_map (f := fun r : PP × PP => r.2) (nx := fun r => lvs (cz r)) (nx' := nx T) (C := fun r => R r.1 r.2) (fun p hp => (hc p hp).2.2) i2 n2 (k := 64) (at' := 0) st
  rw [addL_map fun a ha b hb => i1 a (t3 a (by simpa using ha)) b (t3 b (by simpa using hb)), ← lvs_map okt, t1] at b1
  rw [addL_map fun a ha b hb => i2 a (t3 a (by simpa using ha)) b (t3 b (by simpa using hb)), ← lvs_map okt, t2] at b2
  have sub := bfs_sub (nx := fun r => lvs (cz r)) (C := fun r : PP × PP => R r.1 r.2) (fun p hp => (hc p hp).2.2) (k := 64) (at' := 0) st
  have nd := bfs_nodup (nx := fun r => lvs (cz r)) (k := 64) (at' := 0) (addL_nodup (ps := lvs zt) List.nodup_nil)
  generalize hO : bfs (fun r => lvs (cz r)) 64 0 (addL [] (lvs zt)) = O at b1 b2 sub nd
  have e1 : ordP S = O.map (·.1) := b1
  have e2 : ordP T = O.map (·.2) := b2
  have back : ∀ s : PP × PP, R s.1 s.2 → s.1 ∈ ordP S → s ∈ O := fun s hs hm => by
    rw [e1] at hm
    obtain ⟨s', h1, h2⟩ := List.mem_map.mp hm
    rw [← i1 s' (sub s' h1) s hs h2]; exact h1
  refine ⟨O, zt, cz, e1, e2, nd, sub, t1, t2, fun r hr => back r (t3 r hr) ?_, fun r hr => ⟨(hc r (sub r hr)).1, (hc r (sub r hr)).2.1, fun s hs => back s ((hc r (sub r hr)).2.2 s hs) ?_⟩⟩
  · refine ord_start _ ?_
    rw [← t1, lvs_map okt]; exact List.mem_map.mpr ⟨r, hr, rfl⟩
  · refine ord_closed hS r.1 ?_ s.1 ?_
    · rw [e1]; exact List.mem_map.mpr ⟨r, hr, rfl⟩
    · rw [n1 r (sub r hr)]; exact List.mem_map.mpr ⟨s, hs, rfl⟩
theorem Bis.told (hS : ShOk S) (hT : ShOk T) (B : Bis S T R) : toldS (compact S) = toldS (compact T) := by
  obtain ⟨O, zt, cz, e1, e2, nd, sub, t1, t2, t3, hc⟩ := B.joint hS hT
  have okt : ok 3 zt := ok_of_map (f := (·.1)) (by rw [t1]; exact ok_trn hS)
  have okc : ∀ r ∈ O, ok 2 (cz r) := fun r hr => ok_of_map (f := (·.1)) (by rw [(hc r hr).1]; exact ok_nfc hS _)
  have hfr : ∀ r ∈ O, fr S r.1 = fr T r.2 := fun r hr => by
    obtain ⟨i, hi⟩ := List.mem_iff_getElem?.mp hr
    have a1 : (ordP S)[i]? = some r.1 := by rw [e1, List.getElem?_map, hi]; rfl
    have a2 : (ordP T)[i]? = some r.2 := by rw [e2, List.getElem?_map, hi]; rfl
    rw [fr_get a1, fr_get a2]
  rw [toldS_compact, toldS_compact]
  have rows : ((ordP S).map fun p => V.tup [.int (fr S p).1, .int 0, SP.told (ren (tabO S) (cont S p))]) = (ordP T).map fun p => V.tup [.int (fr T p).1, .int 0, SP.told (ren (tabO T) (cont T p))] := by
    rw [e1, e2, List.map_map, List.map_map]
    refine List.map_congr_left fun r hr => ?_
    have m1 : r.1 ∈ ordP S := by rw [e1]; exact List.mem_map.mpr ⟨r, hr, rfl⟩
    have m2 : r.2 ∈ ordP T := by rw [e2]; exact List.mem_map.mpr ⟨r, hr, rfl⟩
    show V.tup [.int (fr S r.1).1, .int 0, SP.told (ren (tabO S) (cont S r.1))] = V.tup [.int (fr T r.2).1, .int 0, SP.told (ren (tabO T) (cont T r.2))]
    rw [hfr r hr, ← told_nf (ok_ren (ok_cont hS r.1)), ← told_nf (ok_ren (ok_cont hT r.2)), told_row hS m1, told_row hT m2, ← (hc r hr).1, ← (hc r hr).2.1, map_map' (okc r hr), map_map' (okc r hr),
      map_congr' (okc r hr) (f := fr S ∘ fun x : PP × PP => x.1) (g := fr T ∘ fun x : PP × PP => x.2) fun s hs => hfr s ((hc r hr).2.2 s hs)]
  have tops : SP.told (.dict (compact S).tr) = SP.told (.dict (compact T).tr) := by
    rw [← told_nf (compact_ok hS).tr, ← told_nf (compact_ok hT).tr, told_trn hS, told_trn hT, ← t1, ← t2, map_map' okt, map_map' okt,
      map_congr' okt (f := fr S ∘ fun x : PP × PP => x.1) (g := fr T ∘ fun x : PP × PP => x.2) fun s hs => hfr s (t3 s hs)]
  rw [rows, tops]
theorem Bis.of_told (hS : ShOk S) (hT : ShOk T) (h : toldS (compact S) = toldS (compact T)) : ∃ R, Bis S T R := by
  rw [toldS_compact, toldS_compact] at h
  simp only [V.tup.injEq, List.cons.injEq, and_true] at h
  obtain ⟨h1, h2⟩ := h
  have hlen : (ordP S).length = (ordP T).length := by simpa using congrArg List.length h1
  have row : ∀ (i : Nat) p q, (ordP S)[i]? = some p → (ordP T)[i]? = some q → (nfc S p).map (fr S) = (nfc T q).map (fr T) := fun i p q hp hq => by
    have := congrArg (fun l => l[i]?) h1
    simp [hp, hq] at this
    have key := told_inj (ok_ren (ok_cont hS p)) (ok_ren (ok_cont hT q)) this.2
    rw [told_row hS (List.mem_of_getElem? hp), told_row hT (List.mem_of_getElem? hq)] at key
    exact key
  have top : (trn S).map (fr S) = (trn T).map (fr T) := by
    have key := told_inj (compact_ok hS).tr (compact_ok hT).tr h2
    rw [told_trn hS, told_trn hT] at key
    exact key
  refine ⟨fun a b => a ∈ ordP S ∧ b ∈ ordP T ∧ fr S a = fr T b, fun p q h => ord_there hS p h.1, fun p q h => ord_there hT q h.2.1, fun p q q' h h' => fr_inj h.2.1 h'.2.1 (h.2.2.symm.trans h'.2.2), fun p p' q h h' => fr_inj h.1 h'.1 (h.2.2.trans h'.2.2.symm), ?_, ?_⟩
  · exact (zip_of_map (ok_trn hS) top).mono fun a b ⟨a1, a2, a3⟩ => ⟨ord_start a a1, ord_start b a2, a3⟩
  · rintro p q ⟨hp, hq, e⟩
    obtain ⟨i, hi⟩ := List.mem_iff_getElem?.mp hp
    obtain ⟨j, hj⟩ := List.mem_iff_getElem?.mp hq
    rw [fr_get hi, fr_get hj] at e
    simp only [Prod.mk.injEq, and_true] at e
    have : i = j := by omega
    subst this
    exact (zip_of_map (ok_nfc hS p) (row i p q hi hj)).mono fun a b ⟨a1, a2, a3⟩ => ⟨ord_closed hS p hp a a1, ord_closed hT q hq b a2, a3⟩
theorem zip_graph {α β : Type} {f : α → β} {d : Nat} {t : Tr α} (h : ok d t) {D : α → Prop} (hD : ∀ p ∈ lvs t, D p) : Zip (fun a b => D a ∧ b = f a) t (t.map f) := by
  refine ⟨t.map fun a => (a, f a), ?_, ?_, fun r hr => ?_⟩
  · rw [map_map' h]
    have : t.map ((fun x : α × β => x.1) ∘ fun a => (a, f a)) = t.map id := rfl
    rw [this]
    clear hD this
    refine ok_ind (P := fun t => t.map id = t) rfl (fun _ => rfl) (fun _ => rfl) (fun _ => rfl) (fun xs _ ih => ?_) (fun xs _ _ ih => ?_) (fun xs b _ _ ih => ?_) h
    · rw [trmapE5, maps_eq]; congr 1; exact (List.map_congr_left ih).trans (List.map_id' _)
    · rw [trmapE6, mapk_eq]; congr 1; exact (List.map_congr_left fun p hp => by rw [ih p hp]).trans (List.map_id' _)
    · rw [trmapE7, mapk_eq]; congr 1; exact (List.map_congr_left fun p hp => by rw [ih p hp]).trans (List.map_id' _)
  · rw [map_map' h]; rfl
  · rw [lvs_map h] at hr
    obtain ⟨a, ha, rfl⟩ := List.mem_map.mp hr
    exact ⟨hD a ha, rfl⟩
theorem Bis.graph (hS : ShOk S) {φ : PP → PP} {D : PP → Prop} (h0 : ∀ p, D p → there S p = true) (h1 : ∀ p ∈ lvs (trn S), D p) (h2 : ∀ p, D p → ∀ q ∈ nx S p, D q) (hi : ∀ p, D p → ∀ q, D q → φ p = φ q → p = q)
    (h3 : ∀ p, D p → there T (φ p) = true) (h4 : ∀ p, D p → nfc T (φ p) = (nfc S p).map φ) (h5 : trn T = (trn S).map φ) : Bis S T fun a b => D a ∧ b = φ a where
  thS := fun p q h => h0 p h.1
  thT := fun p q h => h.2 ▸ h3 p h.1
  fn := fun p q q' h h' => h.2.trans h'.2.symm
  inj := fun p p' q h h' => hi p h.1 p' h'.1 (h.2.symm.trans h'.2)
  top := by rw [h5]; exact zip_graph (ok_trn hS) h1
  all := fun p q h => by rw [h.2, h4 p h.1]; exact zip_graph (ok_nfc hS p) (h2 p h.1)
theorem bis_compact (hS : ShOk S) : Bis S (compact S) fun a b => a ∈ ordP S ∧ b = fr S a :=
  Bis.graph hS (ord_there hS) ord_start (ord_closed hS) (fun p hp q hq => fr_inj hp hq) (fun p hp => compact_there hS hp) (fun p hp => compact_nfc hS hp) (compact_trn hS)
theorem toldS_twice (hS : ShOk S) : toldS (compact (compact S)) = toldS (compact S) := ((bis_compact hS).told hS (compact_ok hS)).symm
end
end SP
namespace SP
set_option linter.unusedVariables false
open PySem PySem.W PySem.Calls PyProof.Rows
noncomputable def seen (S : Shf) : Val → Val
  | .ref p => if there S p then .ref p else .nul
  | x => x
noncomputable def getK (kvs : List (Str × Val)) (k : Str) : Val := (kvs.lookup k).getD .nul
noncomputable def solid (S : Shf) (kvs : List (Str × Val)) : List Str := (sortS (kvs.map (·.1))).filter fun k => !(seen S (getK kvs k)).isNul
noncomputable def meetD (S T : Shf) (kvs kws : List (Str × Val)) : Option (List (Val × Val)) :=
  if solid S kvs = solid T kws then some ((solid S kvs).map fun k => (getK kvs k, getK kws k)) else none
noncomputable abbrev Tab := List (PP × PP)
noncomputable def meetR (S T : Shf) (th bk : Tab) (p q : PP) : Option (Tab × Tab × List (Val × Val)) :=
  if (th.lookup p).isSome || (bk.lookup q).isSome then (if th.lookup p = some q ∧ bk.lookup q = some p then some (th, bk, []) else none)
  else some (th ++ [(p, q)], bk ++ [(q, p)], [(cont S p, cont T q)])
noncomputable def meetP (S T : Shf) (th bk : Tab) (x y : Val) : Option (Tab × Tab × List (Val × Val)) :=
  match seen S x, seen T y with
  | .nul, .nul => some (th, bk, [])
  | .int i, .int j => if i = j then some (th, bk, []) else none
  | .name s, .name t => if s = t then some (th, bk, []) else none
  | .ref p, .ref q => meetR S T th bk p q
  | .arr xs, .arr ys => if xs.length = ys.length then some (th, bk, xs.zip ys) else none
  | .dict kvs, .dict kws => (meetD S T kvs kws).map fun ps => (th, bk, ps)
  | .stm kvs b, .stm kws c => if b = c then (meetD S T kvs kws).map fun ps => (th, bk, ps) else none
  | _, _ => none
noncomputable def runP (S T : Shf) : Nat → Tab → Tab → List (Val × Val) → Bool
  | 0, _, _, _ => false
  | k + 1, th, bk, line => match line.getLast? with
    | none => true
    | some xy => match meetP S T th bk xy.1 xy.2 with
      | none => false
      | some r => runP S T k r.1 r.2.1 (line.dropLast ++ r.2.2)
theorem runPE2 {S T : Shf} {k : Nat} {th bk : Tab} {line : List (Val × Val)} : runP S T (k + 1) th bk line = match line.getLast? with
    | none => true
    | some xy => match meetP S T th bk xy.1 xy.2 with
      | none => false
      | some r => runP S T k r.1 r.2.1 (line.dropLast ++ r.2.2) := rfl
noncomputable def alikeP (S T : Shf) : Bool := runP S T 2000 [] [] [(.dict (plain S), .dict (plain T))]
section
variable {S T : Shf} {R : PP → PP → Prop}
theorem runP_nil {k : Nat} {th bk : Tab} : runP S T (k + 1) th bk [] = true := rfl
theorem runP_none {k : Nat} {th bk : Tab} {line : List (Val × Val)} {x y : Val} (h : meetP S T th bk x y = none) : runP S T (k + 1) th bk (line ++ [(x, y)]) = false := by
  rw [runPE2, List.getLast?_concat]; dsimp only; rw [h]
theorem runP_some {k : Nat} {th bk : Tab} {line : List (Val × Val)} {x y : Val} {r} (h : meetP S T th bk x y = some r) : runP S T (k + 1) th bk (line ++ [(x, y)]) = runP S T k r.1 r.2.1 (line ++ r.2.2) := by
  rw [runPE2, List.getLast?_concat]; dsimp only; rw [h, List.dropLast_concat]
theorem seen_refE {p : PP} : seen S (.ref p) = if there S p then .ref p else .nul := rfl
theorem nf_seen {x : Val} : nf (there S) (seen S x) = nf (there S) x := by
  cases x <;> first | rfl | skip
  rename_i p
  unfold seen
  by_cases h : there S p = true
  · simp [h]
  · simp [h, nfE1, nfE4]
theorem seen_nul {x : Val} : (seen S x).isNul = (nf (there S) x).isNul := by
  cases x <;> rfl
theorem ok_seen {d : Nat} {x : Val} (h : ok d x) : ok d (seen S x) := by
  cases x <;> first | exact h | skip
  rw [seen_refE]; split <;> exact ok_leaf (by simp) (by simp) (by simp)
theorem sz_pos {x : Val} : 1 ≤ sz x := by cases x <;> simp [szE1, szE2, szE3, szE4, szE5, szE6, szE7]
theorem sz_seen {x : Val} : sz (seen S x) = sz x := by
  cases x <;> first | rfl | skip
  rw [seen_refE]; split <;> rfl
theorem seen_ref {x : Val} {p : PP} (h : seen S x = .ref p) : there S p = true := by
  cases x <;> first | (cases h; done) | skip
  rename_i q
  rw [seen_refE] at h
  split at h
  · cases h; assumption
  · cases h
theorem nf_tag {x : Val} : tagN (nf (there S) x) = tagN (seen S x) := by
  cases x <;> rfl
theorem lookS_of_mem {β : Type} {l : List (Str × β)} (hn : (l.map (·.1)).Nodup) {k : Str} {r : β} (h : (k, r) ∈ l) : l.lookup k = some r := by
  induction l with
  | nil => cases h
  | cons p t ih =>
    obtain ⟨m, s⟩ := p
    rw [List.map_cons, List.nodup_cons] at hn
    rcases List.mem_cons.mp h with e | h
    · cases e; simp [List.lookup]
    · have : k ≠ m := fun e => hn.1 (List.mem_map.mpr ⟨_, h, e⟩)
      have : (k == m) = false := by simpa using this
      simp only [List.lookup, this]
      exact ih hn.2 h
theorem getK_of_mem {kvs : List (Str × Val)} (hn : (kvs.map (·.1)).Nodup) {p : Str × Val} (h : p ∈ kvs) : getK kvs p.1 = p.2 := by
  unfold getK; rw [lookS_of_mem hn h]; rfl
theorem getK_mem {kvs : List (Str × Val)} {k : Str} (h : k ∈ kvs.map (·.1)) : ∃ x, (k, x) ∈ kvs := by
  obtain ⟨p, hp, rfl⟩ := List.mem_map.mp h; exact ⟨p.2, hp⟩
theorem sortK_get {kvs : List (Str × Val)} (hn : (kvs.map (·.1)).Nodup) : sortK kvs = (sortS (kvs.map (·.1))).map fun k => (k, getK kvs k) := by
  rw [← sortK_keys, List.map_map]
  have : ∀ p ∈ sortK kvs, ((fun k => (k, getK kvs k)) ∘ fun x : Str × Val => x.1) p = p := fun p hp => by
    show (p.1, getK kvs p.1) = p
    rw [getK_of_mem hn ((sortK_perm kvs).mem_iff.mp hp)]
  exact ((List.map_congr_left this).trans (List.map_id' _)).symm
theorem solid_nf {kvs : List (Str × Val)} (hn : (kvs.map (·.1)).Nodup) : sortK (nfk (there S) kvs) = (solid S kvs).map fun k => (k, nf (there S) (getK kvs k)) := by
  rw [nfk_eq, sortK_filter (by rw [mapk_keys]; exact hn), sortK_map, sortK_get hn, List.map_map, List.filter_map]
  unfold solid
  congr 1
  exact List.filter_congr fun k _ => by simp [Function.comp, seen_nul]
theorem solid_sub {kvs : List (Str × Val)} {k : Str} (h : k ∈ solid S kvs) : ∃ x, (k, x) ∈ kvs := getK_mem ((sortS_perm _).mem_iff.mp (List.mem_filter.mp h).1)
theorem zipD {R' : PP → PP → Prop} {kvs kws : List (Str × Val)} (h1 : (kvs.map (·.1)).Nodup) (h2 : (kws.map (·.1)).Nodup) {ps} (hm : meetD S T kvs kws = some ps) (hz : ∀ xy ∈ ps, Zip R' (nf (there S) xy.1) (nf (there T) xy.2)) :
    (sortK (nfk (there S) kvs)).map (·.1) = (sortK (nfk (there T) kws)).map (·.1) ∧ ∀ p ∈ (sortK (nfk (there S) kvs)).zip (sortK (nfk (there T) kws)), Zip R' p.1.2 p.2.2 := by
  unfold meetD at hm
  split at hm
  · rename_i e
    cases hm
    rw [solid_nf h1, solid_nf h2, ← e]
    refine ⟨by rw [List.map_map, List.map_map]; rfl, fun p hp => ?_⟩
    obtain ⟨k, hk, rfl⟩ := mem_zip_map hp
    exact hz (getK kvs k, getK kws k) (List.mem_map.mpr ⟨k, hk, rfl⟩)
  · cases hm
inductive MeetI (S T : Shf) (th bk : Tab) : Val → Val → Tab × Tab × List (Val × Val) → Prop
  | nul : MeetI S T th bk .nul .nul (th, bk, [])
  | int (i : Int) : MeetI S T th bk (.int i) (.int i) (th, bk, [])
  | name (s : Str) : MeetI S T th bk (.name s) (.name s) (th, bk, [])
  | refo (p q : PP) (a : th.lookup p = some q) : MeetI S T th bk (.ref p) (.ref q) (th, bk, [])
  | refn (p q : PP) (a : th.lookup p = none) (b : bk.lookup q = none) : MeetI S T th bk (.ref p) (.ref q) (th ++ [(p, q)], bk ++ [(q, p)], [(cont S p, cont T q)])
  | arr (xs ys : List Val) (e : xs.length = ys.length) : MeetI S T th bk (.arr xs) (.arr ys) (th, bk, xs.zip ys)
  | dict (kvs kws : List (Str × Val)) (ps : List (Val × Val)) (h : meetD S T kvs kws = some ps) : MeetI S T th bk (.dict kvs) (.dict kws) (th, bk, ps)
  | stm (kvs kws : List (Str × Val)) (b : Array UInt8) (ps : List (Val × Val)) (h : meetD S T kvs kws = some ps) : MeetI S T th bk (.stm kvs b) (.stm kws b) (th, bk, ps)
theorem meetP_inv {S T : Shf} {th bk : Tab} {x y : Val} {r} (h : meetP S T th bk x y = some r) : MeetI S T th bk (seen S x) (seen T y) r := by
  unfold meetP at h
  generalize seen S x = x' at h ⊢
  generalize seen T y = y' at h ⊢
  split at h
  · cases h; exact .nul
  · split at h
    · rename_i e; subst e; cases h; exact .int _
    · cases h
  · split at h
    · rename_i e; subst e; cases h; exact .name _
    · cases h
  · simp only [meetR] at h
    split at h
    · split at h
      · rename_i e; cases h; exact .refo _ _ e.1
      · cases h
    · rename_i hn
      cases h
      simp only [Bool.or_eq_true, not_or, Bool.not_eq_true, Option.isSome_eq_false_iff, Option.isNone_iff_eq_none] at hn
      exact .refn _ _ hn.1 hn.2
  · split at h
    · rename_i e; cases h; exact .arr _ _ e
    · cases h
  · obtain ⟨ps, h1, rfl⟩ := Option.map_eq_some_iff.mp h; exact .dict _ _ _ h1
  · split at h
    · rename_i e; subst e; obtain ⟨ps, h1, rfl⟩ := Option.map_eq_some_iff.mp h; exact .stm _ _ _ _ h1
    · cases h
  · cases h
theorem meetP_sound {d : Nat} {th bk : Tab} {x y : Val} {r} (hx : ok d x) (hy : ok d y) (h : meetP S T th bk x y = some r) {R' : PP → PP → Prop} (hR : ∀ p q, r.1.lookup p = some q → R' p q) (hz : ∀ xy ∈ r.2.2, Zip R' (nf (there S) xy.1) (nf (there T) xy.2)) :
    Zip R' (nf (there S) x) (nf (there T) y) := by
  have hx := ok_seen (S := S) hx
  have hy := ok_seen (S := T) hy
  rw [← nf_seen (x := x), ← nf_seen (S := T) (x := y)]
  have hi := meetP_inv h
  clear h
  have tx : ∀ p, seen S x = .ref p → there S p = true := fun p e => seen_ref e
  have ty : ∀ q, seen T y = .ref q → there T q = true := fun q e => seen_ref e
  generalize seen S x = x' at hi hx tx ⊢
  generalize seen T y = y' at hi hy ty ⊢
  cases hi with
  | nul => exact Zip.nul
  | int => exact Zip.int
  | name => exact Zip.name
  | refo p q e => simp only [nfE4, tx p rfl, ty q rfl, if_true]; exact Zip.ref (hR p q e)
  | refn p q e _ =>
    simp only [nfE4, tx p rfl, ty q rfl, if_true]
    exact Zip.ref (hR p q (by rw [List.lookup_append, e]; simp [List.lookup]))
  | arr xs ys e =>
    rw [nfE5, nfE5, nfs_eq, nfs_eq]
    refine Zip.arr (by simpa using e) fun p hp => ?_
    rw [List.zip_map] at hp
    obtain ⟨xy, hm, rfl⟩ := List.mem_map.mp hp
    exact hz xy hm
  | dict kvs kws ps h1 =>
    cases d with
    | zero => exact hx.elim
    | succ d =>
    obtain ⟨a, b⟩ := zipD hx.2.1 hy.2.1 h1 hz
    rw [nfE6, nfE6]
    exact Zip.dict a b
  | stm kvs kws b ps h1 =>
    cases d with
    | zero => exact hx.elim
    | succ d =>
    obtain ⟨a, b⟩ := zipD hx.2.1 hy.2.1 h1 hz
    rw [nfE7, nfE7]
    exact Zip.stm a b
theorem meetP_state {d : Nat} {th bk : Tab} {x y : Val} {r} (hS : ShOk S) (hT : ShOk T) (hd : 2 ≤ d) (hx : ok d x) (hy : ok d y) (h : meetP S T th bk x y = some r) :
    ((r.1 = th ∧ r.2.1 = bk) ∨ ∃ p q, there S p = true ∧ there T q = true ∧ th.lookup p = none ∧ bk.lookup q = none ∧ r = (th ++ [(p, q)], bk ++ [(q, p)], [(cont S p, cont T q)])) ∧ ∀ xy ∈ r.2.2, ok d xy.1 ∧ ok d xy.2 := by
  have hx := ok_seen (S := S) hx
  have hy := ok_seen (S := T) hy
  have hi := meetP_inv h
  clear h
  have tx : ∀ p, seen S x = .ref p → there S p = true := fun p e => seen_ref e
  have ty : ∀ q, seen T y = .ref q → there T q = true := fun q e => seen_ref e
  generalize seen S x = x' at hi hx tx
  generalize seen T y = y' at hi hy ty
  have dd : ∀ {kvs kws : List (Str × Val)} {ps}, (∀ p ∈ kvs, ok d p.2) → (∀ p ∈ kws, ok d p.2) → (kvs.map (·.1)).Nodup → (kws.map (·.1)).Nodup → meetD S T kvs kws = some ps → ∀ xy ∈ ps, ok d xy.1 ∧ ok d xy.2 := by
    intro kvs kws ps a1 a2 n1 n2 hm xy hxy
    unfold meetD at hm
    split at hm
    · rename_i e
      cases hm
      obtain ⟨k, hk, rfl⟩ := List.mem_map.mp hxy
      obtain ⟨u, hu⟩ := solid_sub hk
      obtain ⟨v, hv⟩ := solid_sub (e ▸ hk)
      exact ⟨by rw [getK_of_mem n1 hu]; exact a1 _ hu, by rw [getK_of_mem n2 hv]; exact a2 _ hv⟩
    · cases hm
  cases hi with
  | nul => exact ⟨.inl ⟨rfl, rfl⟩, fun _ h => nomatch h⟩
  | int => exact ⟨.inl ⟨rfl, rfl⟩, fun _ h => nomatch h⟩
  | name => exact ⟨.inl ⟨rfl, rfl⟩, fun _ h => nomatch h⟩
  | refo => exact ⟨.inl ⟨rfl, rfl⟩, fun _ h => nomatch h⟩
  | refn p q e1 e2 =>
    refine ⟨.inr ⟨p, q, tx p rfl, ty q rfl, e1, e2, rfl⟩, fun xy hxy => ?_⟩
    rw [List.mem_singleton.mp hxy]
    exact ⟨ok_le (ok_cont hS p) hd, ok_le (ok_cont hT q) hd⟩
  | arr xs ys e =>
    cases d with
    | zero => exact hx.elim
    | succ d => exact ⟨.inl ⟨rfl, rfl⟩, fun xy hxy => ⟨ok_mono (hx.2 _ (List.of_mem_zip hxy).1), ok_mono (hy.2 _ (List.of_mem_zip hxy).2)⟩⟩
  | dict kvs kws ps h1 =>
    cases d with
    | zero => exact hx.elim
    | succ d => exact ⟨.inl ⟨rfl, rfl⟩, dd (fun p hp => ok_mono (hx.2.2 p hp)) (fun p hp => ok_mono (hy.2.2 p hp)) hx.2.1 hy.2.1 h1⟩
  | stm kvs kws b ps h1 =>
    cases d with
    | zero => exact hx.elim
    | succ d => exact ⟨.inl ⟨rfl, rfl⟩, dd (fun p hp => ok_mono (hx.2.2 p hp)) (fun p hp => ok_mono (hy.2.2 p hp)) hx.2.1 hy.2.1 h1⟩
noncomputable def left (S : Shf) (th : Tab) : Nat := (S.tab.map fun r => if (th.lookup (r.1, r.2.1)).isSome then 0 else sz r.2.2).sum
noncomputable def lineSz (line : List (Val × Val)) : Nat := (line.map fun xy => sz xy.1).sum
theorem left_le {th th' : Tab} (hm : ∀ p, (th.lookup p).isSome = true → (th'.lookup p).isSome = true) (l : List (Int × Int × Val)) :
    (l.map fun r => if (th'.lookup (r.1, r.2.1)).isSome then 0 else sz r.2.2).sum ≤ (l.map fun r => if (th.lookup (r.1, r.2.1)).isSome then 0 else sz r.2.2).sum := by
  induction l with
  | nil => exact Nat.le_refl _
  | cons r t ih =>
    rw [List.map_cons, List.sum_cons, List.map_cons, List.sum_cons]
    have := hm (r.1, r.2.1)
    cases h1 : (th.lookup (r.1, r.2.1)).isSome with
    | true => rw [this h1]; simpa using ih
    | false => split <;> simp <;> omega
theorem left_drop {th th' : Tab} (hm : ∀ p, (th.lookup p).isSome = true → (th'.lookup p).isSome = true) {l : List (Int × Int × Val)} {r0 : Int × Int × Val} (h0 : r0 ∈ l) (h1 : (th.lookup (r0.1, r0.2.1)).isSome = false) (h2 : (th'.lookup (r0.1, r0.2.1)).isSome = true) :
    (l.map fun r => if (th'.lookup (r.1, r.2.1)).isSome then 0 else sz r.2.2).sum + sz r0.2.2 ≤ (l.map fun r => if (th.lookup (r.1, r.2.1)).isSome then 0 else sz r.2.2).sum := by
  induction l with
  | nil => cases h0
  | cons r t ih =>
    rw [List.map_cons, List.sum_cons, List.map_cons, List.sum_cons]
    rcases List.mem_cons.mp h0 with rfl | h0
    · have := left_le hm t
      rw [h1, h2]; simp; omega
    · have := ih h0
      have := hm (r.1, r.2.1)
      cases h3 : (th.lookup (r.1, r.2.1)).isSome with
      | true => rw [this h3]; simp; omega
      | false => split <;> simp <;> omega
theorem sum_zip {xs ys : List Val} : lineSz (xs.zip ys) ≤ szs xs := by
  unfold lineSz
  induction xs generalizing ys with
  | nil => simp
  | cons x r ih =>
    cases ys with
    | nil => simp
    | cons y t => rw [List.zip_cons_cons, List.map_cons, List.sum_cons, szsE2]; have := ih (ys := t); show sz x + _ ≤ _; omega
theorem sum_perm_le {l l' : List Nat} (h : l.Perm l') : l.sum = l'.sum := h.sum_nat
theorem sum_sublist {l l' : List Nat} (h : l.Sublist l') : l.sum ≤ l'.sum := by
  induction h with
  | slnil => exact Nat.le_refl _
  | cons a _ ih => rw [List.sum_cons]; omega
  | cons_cons a _ ih => rw [List.sum_cons, List.sum_cons]; omega
theorem meetD_sz {kvs kws : List (Str × Val)} {ps} (hn : (kvs.map (·.1)).Nodup) (h : meetD S T kvs kws = some ps) : lineSz ps ≤ szk kvs := by
  unfold meetD at h
  split at h
  · cases h
    unfold lineSz
    rw [List.map_map, szk_eq]
    have h1 : ((solid S kvs).map ((fun xy : Val × Val => sz xy.1) ∘ fun k => (getK kvs k, getK kws k))).Sublist ((sortS (kvs.map (·.1))).map fun k => sz (getK kvs k)) := List.filter_sublist.map _
    refine Nat.le_trans (sum_sublist h1) (Nat.le_of_eq ?_)
    have h2 : ((sortS (kvs.map (·.1))).map fun k => sz (getK kvs k)) = (sortK kvs).map fun p => sz p.2 := by rw [sortK_get hn, List.map_map]; rfl
    rw [h2]
    exact sum_perm_le ((sortK_perm kvs).map _)
  · cases h
theorem meetP_less {d : Nat} {th bk : Tab} {x y : Val} {r} (hx : ok d x) (h : meetP S T th bk x y = some r) : left S r.1 + lineSz r.2.2 + 1 ≤ left S th + sz x := by
  have hx := ok_seen (S := S) hx
  rw [← sz_seen (S := S) (x := x)]
  have hi := meetP_inv h
  clear h
  have tx : ∀ p, seen S x = .ref p → there S p = true := fun p e => seen_ref e
  generalize seen S x = x' at hi hx tx ⊢
  generalize seen T y = y' at hi
  cases hi with
  | nul => exact Nat.le_refl _
  | int => exact Nat.le_refl _
  | name => exact Nat.le_refl _
  | refo => exact Nat.le_refl _
  | refn p q hn _ =>
    obtain ⟨v, hv⟩ := there_iff.mp (tx p rfl)
    have hc : cont S p = v := by unfold cont; rw [hv]
    have := left_drop (th := th) (th' := th ++ [(p, q)]) (fun p' h' => by rw [List.lookup_append]; obtain ⟨a, ha⟩ := Option.isSome_iff_exists.mp h'; rw [ha]; rfl) (l := S.tab) (look_mem hv) (by rw [hn]; rfl) (by rw [List.lookup_append, hn]; simp [List.lookup])
    show left S (th ++ [(p, q)]) + (sz (cont S p) + 0) + 1 ≤ left S th + 1
    rw [hc]
    unfold left
    dsimp only at this
    omega
  | arr xs ys e =>
    have := sum_zip (xs := xs) (ys := ys)
    rw [szE5]; dsimp only; omega
  | dict kvs kws ps h1 =>
    cases d with
    | zero => exact hx.elim
    | succ d =>
    have := meetD_sz hx.2.1 h1
    rw [szE6]; dsimp only; omega
  | stm kvs kws b ps h1 =>
    cases d with
    | zero => exact hx.elim
    | succ d =>
    have := meetD_sz hx.2.1 h1
    show left S th + lineSz ps + 1 ≤ left S th + (1 + szk kvs)
    omega
end
end SP
namespace SP
set_option linter.unusedVariables false
open PySem PySem.W PySem.Calls PyProof.Rows
section
variable {S T : Shf} {R : PP → PP → Prop}
structure TwI (S T : Shf) (th bk : Tab) : Prop where
  iff : ∀ p q, th.lookup p = some q ↔ bk.lookup q = some p
  th : ∀ p q, th.lookup p = some q → there S p = true ∧ there T q = true
theorem TwI.nil : TwI S T [] [] := ⟨fun p q => by simp, fun p q h => by simp at h⟩
theorem lookup_snoc {l : Tab} {p q p' q' : PP} (h : l.lookup p = none) : (l ++ [(p, q)]).lookup p' = some q' ↔ l.lookup p' = some q' ∨ (p' = p ∧ q' = q) := by
  rw [List.lookup_append]
  by_cases e : p' = p
  · subst e
    rw [h]; simp [List.lookup, eq_comm]
  · have : (p' == p) = false := by simpa using e
    cases h1 : l.lookup p' with
    | none => simp [List.lookup, this, e]
    | some r => simp [e]
theorem TwI.snoc {th bk : Tab} (I : TwI S T th bk) {p q : PP} (h1 : th.lookup p = none) (h2 : bk.lookup q = none) (h3 : there S p = true) (h4 : there T q = true) : TwI S T (th ++ [(p, q)]) (bk ++ [(q, p)]) where
  iff := fun p' q' => by rw [lookup_snoc h1, lookup_snoc h2, I.iff]; exact or_congr Iff.rfl And.comm
  th := fun p' q' h => by
    rcases (lookup_snoc h1).mp h with h | ⟨rfl, rfl⟩
    · exact I.th _ _ h
    · exact ⟨h3, h4⟩
theorem TwI.step {d : Nat} {th bk : Tab} {x y : Val} {r} (I : TwI S T th bk) (hS : ShOk S) (hT : ShOk T) (hd : 2 ≤ d) (hx : ok d x) (hy : ok d y) (h : meetP S T th bk x y = some r) : TwI S T r.1 r.2.1 := by
  rcases (meetP_state hS hT hd hx hy h).1 with ⟨a, b⟩ | ⟨p, q, a, b, c, d, e⟩
  · rw [a, b]; exact I
  · rw [e]; exact I.snoc c d a b
theorem runP_sound (hS : ShOk S) (hT : ShOk T) : ∀ (k : Nat) (th bk : Tab) (line : List (Val × Val)), TwI S T th bk → (∀ xy ∈ line, ok 3 xy.1 ∧ ok 3 xy.2) →
    (∀ R' : PP → PP → Prop, (∀ p q, th.lookup p = some q → R' p q) → (∀ xy ∈ line, Zip R' (nf (there S) xy.1) (nf (there T) xy.2)) → Zip R' (trn S) (trn T) ∧ ∀ p q, th.lookup p = some q → Zip R' (nfc S p) (nfc T q)) →
    runP S T k th bk line = true → ∃ R, Bis S T R := by
  intro k
  induction k with
  | zero => intro th bk line _ _ _ h; cases h
  | succ k ih =>
    intro th bk line I hok G h
    rcases List.eq_nil_or_concat line with rfl | ⟨rest, xy, rfl⟩
    · obtain ⟨g1, g2⟩ := G (fun p q => th.lookup p = some q) (fun _ _ h => h) (fun _ h => nomatch h)
      exact ⟨_, fun p q h => (I.th p q h).1, fun p q h => (I.th p q h).2, fun p q q' h h' => by rw [h] at h'; exact Option.some.inj h', fun p p' q h h' => by
        have a := (I.iff _ _).mp h
        have b := (I.iff _ _).mp h'
        rw [a] at b; exact Option.some.inj b, g1, g2⟩
    · obtain ⟨x, y⟩ := xy
      cases hm : meetP S T th bk x y with
      | none => rw [List.concat_eq_append, runP_none hm] at h; cases h
      | some r =>
        rw [List.concat_eq_append] at h hok G
        rw [runP_some hm] at h
        obtain ⟨ox, oy⟩ := hok (x, y) (by simp)
        obtain ⟨st, ops⟩ := meetP_state hS hT (by decide) ox oy hm
        refine ih r.1 r.2.1 _ (I.step hS hT (by decide) ox oy hm) (fun xy hxy => ?_) (fun R' hR hz => ?_) h
        · rcases List.mem_append.mp hxy with hxy | hxy
          · exact hok xy (List.mem_append.mpr (.inl hxy))
          · exact ops xy hxy
        · have zxy := meetP_sound ox oy hm hR fun xy hxy => hz xy (List.mem_append.mpr (.inr hxy))
          have sub : ∀ p q, th.lookup p = some q → R' p q := fun p q hpq => by
            rcases st with ⟨a, b⟩ | ⟨p', q', a, b, c, d, e⟩
            · exact hR p q (by rw [a]; exact hpq)
            · exact hR p q (by rw [e]; exact (lookup_snoc c).mpr (.inl hpq))
          obtain ⟨g1, g2⟩ := G R' sub fun xy hxy => by
            rcases List.mem_append.mp hxy with hxy | hxy
            · exact hz xy (List.mem_append.mpr (.inl hxy))
            · rw [List.mem_singleton.mp hxy]; exact zxy
          refine ⟨g1, fun p q hpq => ?_⟩
          rcases st with ⟨a, b⟩ | ⟨p', q', a, b, c, d, e⟩
          · rw [a] at hpq; exact g2 p q hpq
          · rw [e] at hpq hz
            rcases (lookup_snoc c).mp hpq with hpq | ⟨rfl, rfl⟩
            · exact g2 p q hpq
            · exact hz (cont S p, cont T q) (List.mem_append.mpr (.inr (by simp)))
theorem solid_keys {kvs : List (Str × Val)} (hn : (kvs.map (·.1)).Nodup) : (sortK (nfk (there S) kvs)).map (·.1) = solid S kvs := by
  rw [solid_nf hn, List.map_map]; exact List.map_id' _
theorem meetD_complete {kvs kws : List (Str × Val)} (h1 : (kvs.map (·.1)).Nodup) (h2 : (kws.map (·.1)).Nodup) (e : (sortK (nfk (there S) kvs)).map (·.1) = (sortK (nfk (there T) kws)).map (·.1))
    (hz : ∀ p ∈ (sortK (nfk (there S) kvs)).zip (sortK (nfk (there T) kws)), Zip R p.1.2 p.2.2) : ∃ ps, meetD S T kvs kws = some ps ∧ ∀ xy ∈ ps, Zip R (nf (there S) xy.1) (nf (there T) xy.2) := by
  rw [solid_keys h1, solid_keys h2] at e
  refine ⟨_, if_pos e, fun xy hxy => ?_⟩
  obtain ⟨k, hk, rfl⟩ := List.mem_map.mp hxy
  rw [solid_nf h1, solid_nf h2, ← e, List.zip_map'] at hz
  exact hz _ (List.mem_map.mpr ⟨k, hk, rfl⟩)
theorem meetP_complete {d : Nat} {th bk : Tab} {x y : Val} (B : Bis S T R) (I : TwI S T th bk) (hth : ∀ p q, th.lookup p = some q → R p q) (hx : ok d x) (hy : ok d y) (hz : Zip R (nf (there S) x) (nf (there T) y)) :
    ∃ r, meetP S T th bk x y = some r ∧ (∀ p q, r.1.lookup p = some q → R p q) ∧ ∀ xy ∈ r.2.2, Zip R (nf (there S) xy.1) (nf (there T) xy.2) := by
  have hx := ok_seen (S := S) hx
  have hy := ok_seen (S := T) hy
  have ht := hz.tag
  rw [nf_tag, nf_tag] at ht
  rw [← nf_seen (x := x), ← nf_seen (S := T) (x := y)] at hz
  unfold meetP
  generalize hsx : seen S x = x' at hz hx ht ⊢
  generalize hsy : seen T y = y' at hz hy ht ⊢
  cases x' <;> cases y' <;> first | (simp [tagN] at ht; done) | skip
  · exact ⟨_, rfl, hth, fun _ h => nomatch h⟩
  · exact ⟨_, if_pos hz.int_inv, hth, fun _ h => nomatch h⟩
  · exact ⟨_, if_pos hz.name_inv, hth, fun _ h => nomatch h⟩
  · rename_i p q
    have t1 := seen_ref hsx
    have t2 := seen_ref hsy
    simp only [nfE4, t1, t2, if_true] at hz
    have hr := hz.ref_inv
    dsimp only
    unfold meetR
    by_cases h0 : (th.lookup p).isSome || (bk.lookup q).isSome
    · rw [if_pos h0]
      have key : th.lookup p = some q := by
        rcases Bool.or_eq_true _ _ |>.mp h0 with h | h
        · obtain ⟨q', hq⟩ := Option.isSome_iff_exists.mp h
          rw [hq, B.fn _ _ _ (hth _ _ hq) hr]
        · obtain ⟨p', hp⟩ := Option.isSome_iff_exists.mp h
          have := (I.iff _ _).mpr hp
          rw [← B.inj _ _ _ (hth _ _ this) hr]; exact this
      exact ⟨_, if_pos ⟨key, (I.iff _ _).mp key⟩, hth, fun _ h => nomatch h⟩
    · rw [if_neg h0]
      simp only [Bool.or_eq_true, not_or, Bool.not_eq_true, Option.isSome_eq_false_iff, Option.isNone_iff_eq_none] at h0
      refine ⟨_, rfl, fun p' q' h => ?_, fun xy hxy => ?_⟩
      · rcases (lookup_snoc h0.1).mp h with h | ⟨rfl, rfl⟩
        · exact hth _ _ h
        · exact hr
      · rw [List.mem_singleton.mp hxy]; exact B.all p q hr
  · rename_i xs ys
    rw [nfE5, nfE5, nfs_eq, nfs_eq] at hz
    obtain ⟨e, hz⟩ := hz.arr_inv
    rw [List.zip_map] at hz
    exact ⟨_, if_pos (by simpa using e), hth, fun xy hxy => hz _ (List.mem_map.mpr ⟨xy, hxy, rfl⟩)⟩
  · rename_i kvs kws
    cases d with
    | zero => exact hx.elim
    | succ d =>
    rw [nfE6, nfE6] at hz
    obtain ⟨e, hz⟩ := hz.dict_inv
    obtain ⟨ps, h1, h2⟩ := meetD_complete hx.2.1 hy.2.1 e hz
    exact ⟨_, by dsimp only; rw [h1]; rfl, hth, h2⟩
  · rename_i kvs b kws c
    cases d with
    | zero => exact hx.elim
    | succ d =>
    rw [nfE7, nfE7] at hz
    obtain ⟨e0, e, hz⟩ := hz.stm_inv
    obtain ⟨ps, h1, h2⟩ := meetD_complete hx.2.1 hy.2.1 e hz
    exact ⟨_, by dsimp only; rw [if_pos e0, h1]; rfl, hth, h2⟩
theorem lineSz_append {a b : List (Val × Val)} : lineSz (a ++ b) = lineSz a + lineSz b := by unfold lineSz; rw [List.map_append, List.sum_append_nat]
theorem runP_complete (hS : ShOk S) (hT : ShOk T) (B : Bis S T R) : ∀ (k : Nat) (th bk : Tab) (line : List (Val × Val)), TwI S T th bk → (∀ p q, th.lookup p = some q → R p q) → (∀ xy ∈ line, ok 3 xy.1 ∧ ok 3 xy.2) →
    (∀ xy ∈ line, Zip R (nf (there S) xy.1) (nf (there T) xy.2)) → left S th + lineSz line < k → runP S T k th bk line = true := by
  intro k
  induction k with
  | zero => intro th bk line _ _ _ _ h; exact absurd h (Nat.not_lt_zero _)
  | succ k ih =>
    intro th bk line I hth hok hz hk
    rcases List.eq_nil_or_concat line with rfl | ⟨rest, xy, rfl⟩
    · rfl
    · obtain ⟨x, y⟩ := xy
      rw [List.concat_eq_append] at *
      obtain ⟨ox, oy⟩ := hok (x, y) (by simp)
      obtain ⟨r, hm, h1, h2⟩ := meetP_complete B I hth ox oy (hz (x, y) (by simp))
      rw [runP_some hm]
      have hl := meetP_less ox hm
      dsimp only at hl
      obtain ⟨st, ops⟩ := meetP_state hS hT (by decide) ox oy hm
      rw [lineSz_append] at hk
      have hxy : lineSz [(x, y)] = sz x := by simp [lineSz]
      refine ih r.1 r.2.1 _ (I.step hS hT (by decide) ox oy hm) h1 (fun xy hxy => ?_) (fun xy hxy => ?_) (by rw [lineSz_append]; omega)
      · rcases List.mem_append.mp hxy with hxy | hxy
        · exact hok xy (List.mem_append.mpr (.inl hxy))
        · exact ops xy hxy
      · rcases List.mem_append.mp hxy with hxy | hxy
        · exact hz xy (List.mem_append.mpr (.inl hxy))
        · exact h2 xy hxy
theorem sum_le_mul {l : List Nat} {B : Nat} (h : ∀ x ∈ l, x ≤ B) : l.sum ≤ l.length * B := by
  induction l with
  | nil => simp
  | cons a r ih =>
    rw [List.sum_cons, List.length_cons, Nat.succ_mul]
    have := h a (.head _)
    have := ih fun x hx => h x (.tail _ hx)
    omega
theorem sz_le {d : Nat} {t : Val} (h : ok d t) : sz t ≤ 9 ^ d := by
  induction d generalizing t with
  | zero => cases t <;> first | (simp [szE1, szE2, szE3, szE4, szE5, szE6, szE7]; done) | exact h.elim
  | succ d ih =>
    have h9 : 1 ≤ 9 ^ d := Nat.one_le_pow _ _ (by decide)
    have h8 : ∀ {n s : Nat}, n ≤ 8 → s ≤ n * 9 ^ d → 1 + s ≤ 9 ^ (d + 1) := fun {n s} a b => by
      rw [Nat.pow_succ]
      have : n * 9 ^ d ≤ 8 * 9 ^ d := Nat.mul_le_mul_right _ a
      omega
    cases t with
    | arr xs =>
      rw [szE5, szs_eq]
      exact h8 h.1 (by have := sum_le_mul (l := xs.map sz) (B := 9 ^ d) fun x hx => by obtain ⟨y, hy, rfl⟩ := List.mem_map.mp hx; exact ih (h.2 y hy)
                       rwa [List.length_map] at this)
    | dict kvs =>
      rw [szE6, szk_eq]
      exact h8 h.1 (by have := sum_le_mul (l := kvs.map fun p => sz p.2) (B := 9 ^ d) fun x hx => by obtain ⟨y, hy, rfl⟩ := List.mem_map.mp hx; exact ih (h.2.2 y hy)
                       rwa [List.length_map] at this)
    | stm kvs b =>
      rw [szE7, szk_eq]
      exact h8 h.1 (by have := sum_le_mul (l := kvs.map fun p => sz p.2) (B := 9 ^ d) fun x hx => by obtain ⟨y, hy, rfl⟩ := List.mem_map.mp hx; exact ih (h.2.2 y hy)
                       rwa [List.length_map] at this)
    | _ => ((first | rw [szE1] | rw [szE2] | rw [szE3] | rw [szE4])); rw [Nat.pow_succ]; omega
theorem left_bound (hS : ShOk S) (th : Tab) : left S th ≤ 729 := by
  unfold left
  have h1 := sum_le_mul (l := S.tab.map fun r => if (th.lookup (r.1, r.2.1)).isSome then 0 else sz r.2.2) (B := 81) fun x hx => by
    obtain ⟨r, hr, rfl⟩ := List.mem_map.mp hx
    have := sz_le (hS.vals r hr)
    split
    · omega
    · simpa using this
  rw [List.length_map] at h1
  have := hS.len
  omega
theorem start_size (hS : ShOk S) : left S [] + lineSz [(Tr.dict (plain S), Tr.dict (plain T))] < 2000 := by
  have h1 := left_bound hS []
  have h2 := sz_le (ok_plain hS)
  have h3 : lineSz [(Tr.dict (plain S), Tr.dict (plain T))] = sz (Tr.dict (plain S)) := by simp [lineSz]
  rw [h3]
  omega
theorem alikeP_iff (hS : ShOk S) (hT : ShOk T) : alikeP S T = true ↔ ∃ R, Bis S T R := by
  constructor
  · intro h
    refine runP_sound hS hT 2000 [] [] _ TwI.nil (fun xy hxy => ?_) (fun R' _ hz => ⟨hz (.dict (plain S), .dict (plain T)) (List.mem_singleton.mpr rfl), fun p q h => by simp at h⟩) h
    rw [List.mem_singleton.mp hxy]; exact ⟨ok_plain hS, ok_plain hT⟩
  · rintro ⟨R, B⟩
    refine runP_complete hS hT B 2000 [] [] _ TwI.nil (fun p q h => by simp at h) (fun xy hxy => ?_) (fun xy hxy => ?_) (start_size hS)
    · rw [List.mem_singleton.mp hxy]; exact ⟨ok_plain hS, ok_plain hT⟩
    · rw [List.mem_singleton.mp hxy]; exact B.top
theorem alikeP_told (hS : ShOk S) (hT : ShOk T) : alikeP S T = true ↔ toldS (compact S) = toldS (compact T) := by
  rw [alikeP_iff hS hT]
  exact ⟨fun ⟨R, B⟩ => B.told hS hT, Bis.of_told hS hT⟩
end
end SP
namespace SP
set_option linter.unusedVariables false
open PySem PySem.W PySem.Calls PyProof.Rows
section
variable {S T : Shf}
noncomputable def refsIn (v : Val) : List PP := addL [] (lvs v)
structure FlI (S : Shf) (R : List PP) (j : Nat) (X line : List PP) : Prop where
  th : ∀ p ∈ X, there S p = true
  nd : X.Nodup
  jn : j + X.length = 64
  run : bfs (nx S) j X.length (addL X (line.filter (there S))) = R
theorem refsIn_live {d : Nat} {v : Val} (h : ok d v) {X : List PP} : addL X ((refsIn v).filter (there S)) = addL X (lvs (nf (there S) v)) := by
  unfold refsIn
  rw [addL_filter, ← lvs_nf h, List.filter_nil, addL_dedup, addL_nil]
theorem FlI.start (h : ShOk S) {d : Nat} {v : Val} (hv : ok d v) : FlI S (walkP S v) 64 [] (refsIn v) where
  th := fun _ h => nomatch h
  nd := List.nodup_nil
  jn := rfl
  run := by rw [refsIn_live hv]; rfl
theorem FlI.fin {R : List PP} {j : Nat} {X : List PP} (I : FlI S R j X []) : X = R := by
  have := I.run
  rw [List.filter_nil, addL_nil, bfs_stop (Nat.le_refl _)] at this
  exact this
theorem FlI.skip {R : List PP} {j : Nat} {X Q : List PP} {p : PP} (I : FlI S R j X (p :: Q)) (h : there S p = false ∨ p.1 ∈ X.map (·.1)) : FlI S R j X Q where
  th := I.th
  nd := I.nd
  jn := I.jn
  run := by
    have := I.run
    rw [List.filter_cons] at this
    cases ht : there S p with
    | false => rw [ht] at this; simpa using this
    | true =>
      rw [ht, if_pos rfl, addL_cons] at this
      have hm : p ∈ X := by
        rcases h with h | h
        · rw [ht] at h; cases h
        · obtain ⟨q, hq, e⟩ := List.mem_map.mp h
          rw [← there_num (I.th q hq) ht e]; exact hq
      rw [add1_of_mem hm] at this; exact this
theorem FlI.take {R : List PP} {j : Nat} {X Q : List PP} {p : PP} (h : ShOk S) (I : FlI S R j X (p :: Q)) (ht : there S p = true) (hn : p.1 ∉ X.map (·.1)) : ∃ j', j = j' + 1 ∧ FlI S R j' (X ++ [p]) (Q ++ refsIn (cont S p)) := by
  have hp : p ∉ X := fun hm => hn (List.mem_map.mpr ⟨p, hm, rfl⟩)
  have nd : (X ++ [p]).Nodup := by rw [← add1_new hp]; exact add1_nodup I.nd
  have th : ∀ q ∈ X ++ [p], there S q = true := fun q hq => by
    rcases List.mem_append.mp hq with hq | hq
    · exact I.th q hq
    · rw [List.mem_singleton.mp hq]; exact ht
  have hl := nodup_len nd fun q hq => dom_of_there (th q hq)
  have hd := dom_len h
  have hj := I.jn
  rw [List.length_append] at hl
  have h1 : [p].length = 1 := rfl
  cases j with
  | zero => omega
  | succ j =>
    refine ⟨j, rfl, th, nd, by rw [List.length_append]; omega, ?_⟩
    have run := I.run
    rw [List.filter_cons, if_pos ht, addL_cons, add1_new hp] at run
    obtain ⟨t, e⟩ := addL_prefix (acc := X ++ [p]) (ps := Q.filter (there S))
    have hat : (addL (X ++ [p]) (Q.filter (there S)))[X.length]? = some p := by rw [e]; simp
    rw [bfs_step hat] at run
    rw [List.filter_append, addL_append, refsIn_live (ok_cont h p), List.length_append, h1]
    exact run
noncomputable def nullV : V := .tup [SP.S "null"]
noncomputable def nz : V → Bool
  | .tup xs => !veqs xs [SP.S "null"]
  | _ => true
noncomputable def sizeKeys : List Str := [Str.ofString "Size", Str.ofString "Prev"]
noncomputable def inSizes (k : Str) : Bool := sizeKeys.any (· == k)
noncomputable def udict (l : List (Str × V)) : V := .tup [SP.S "dict", .list ((((sortK l).filter fun p => !inSizes p.1).filter fun p => nz p.2).map fun p => .tup [.str p.1, p.2])]
mutual
noncomputable def Ur (rf : PP → V) : Val → V
  | .nul => nullV
  | .int i => .tup [SP.S "int", .int i]
  | .name s => .tup [SP.S "name", .str s]
  | .ref p => rf p
  | .arr xs => .tup [SP.S "array", .list (Urs rf xs)]
  | .dict kvs => udict (Urk rf kvs)
  | .stm kvs b => .tup [SP.S "stream", .bytes b, udict (Urk rf kvs)]
noncomputable def Urs (rf : PP → V) : List Val → List V
  | [] => []
  | x :: r => Ur rf x :: Urs rf r
noncomputable def Urk (rf : PP → V) : List (Str × Val) → List (Str × V)
  | [] => []
  | (k, x) :: r => (k, Ur rf x) :: Urk rf r
end
noncomputable def rfP (S : Shf) : Nat → PP → V
  | 0, p => if there S p then .tup [SP.S "far"] else nullV
  | d + 1, p => if there S p then .tup [SP.S "to", Ur (rfP S d) (cont S p)] else nullV
theorem rfPE1 {S : Shf} {p : PP} : rfP S 0 p = if there S p then .tup [SP.S "far"] else nullV := rfl
theorem rfPE2 {S : Shf} {d : Nat} {p : PP} : rfP S (d + 1) p = if there S p then .tup [SP.S "to", Ur (rfP S d) (cont S p)] else nullV := rfl
noncomputable def unfP (S : Shf) (d : Nat) (v : Val) : V := Ur (rfP S d) v
theorem UrE1 : ∀ (rf : PP → V), Ur rf Tr.nul = nullV := @fun _ => rfl
theorem UrE2 : ∀ (rf : PP → V) (i : Int), Ur rf (Tr.int i) = V.tup [SP.S "int", V.int i] := @fun _ _ => rfl
theorem UrE3 : ∀ (rf : PP → V) (s : Str), Ur rf (Tr.name s) = V.tup [SP.S "name", V.str s] := @fun _ _ => rfl
theorem UrE4 : ∀ (rf : PP → V) (p : PP), Ur rf (Tr.ref p) = rf p := @fun _ _ => rfl
theorem UrE5 : ∀ (rf : PP → V) (xs : List (Tr PP)), Ur rf (Tr.arr xs) = V.tup [SP.S "array", V.list (Urs rf xs)] := @fun _ _ => rfl
theorem UrE6 : ∀ (rf : PP → V) (kvs : List (Str × Tr PP)), Ur rf (Tr.dict kvs) = udict (Urk rf kvs) := @fun _ _ => rfl
theorem UrE7 : ∀ (rf : PP → V) (kvs : List (Str × Tr PP)) (b : Array UInt8), Ur rf (Tr.stm kvs b) = V.tup [SP.S "stream", V.bytes b, udict (Urk rf kvs)] := @fun _ _ _ => rfl
theorem UrkE2 : ∀ (rf : PP → V) (k : Str) (x_1 : Val) (r : List (Str × Val)), Urk rf ((k, x_1) :: r) = (k, Ur rf x_1) :: Urk rf r := @fun _ _ _ _ => rfl
theorem UrsE2 : ∀ (rf : PP → V) (x_1 : Val) (r : List Val), Urs rf (x_1 :: r) = Ur rf x_1 :: Urs rf r := @fun _ _ _ => rfl
theorem Urs_eq (rf : PP → V) (xs : List Val) : Urs rf xs = xs.map (Ur rf) := by induction xs with | nil => rfl | cons x r ih => rw [UrsE2, ih]; rfl
theorem Urk_eq (rf : PP → V) (kvs : List (Str × Val)) : Urk rf kvs = kvs.map fun p => (p.1, Ur rf p.2) := by induction kvs with | nil => rfl | cons x r ih => rw [UrkE2, ih]; rfl
theorem nz_null : nz nullV = false := by
  show (!((Str.ofString "null" == Str.ofString "null") && true)) = false
  rw [beq_self_eq_true]; rfl
theorem udict_eq (l : List (Str × V)) (hn : (l.map (·.1)).Nodup) : udict l = .tup [SP.S "dict", .list ((sortK (l.filter fun p => !inSizes p.1 && nz p.2)).map fun p => .tup [.str p.1, p.2])] := by
  unfold udict
  rw [List.filter_filter, sortK_filter hn]
  congr 6
  funext p; exact Bool.and_comm ..
theorem Ur_ren {tab : PP → Option PP} {rf rf' : PP → V} {d : Nat} {t : Val} (h : ok d t) : (∀ p ∈ lvs t, (∀ q, tab p = some q → rf' q = rf p) ∧ (tab p = none → rf p = nullV)) → Ur rf' (ren tab t) = Ur rf t := by
  have dd : ∀ kvs : List (Str × Val), (kvs.map (·.1)).Nodup → (∀ p ∈ kvs, Ur rf' (ren tab p.2) = Ur rf p.2) → udict (Urk rf' (renk tab kvs)) = udict (Urk rf kvs) := fun kvs hn ih => by
    rw [udict_eq _ (by rw [Urk_eq, mapk_keys]; exact renk_nodup hn), udict_eq _ (by rw [Urk_eq, mapk_keys]; exact hn)]
    refine congrArg (fun l => V.tup [SP.S "dict", .list ((sortK l).map fun p => V.tup [.str p.1, p.2])]) ?_
    rw [Urk_eq, Urk_eq, renk_eq]
    clear hn
    induction kvs with
    | nil => rfl
    | cons p r ihr =>
      have e := ih p (.head _)
      have rr := ihr fun q hq => ih q (.tail _ hq)
      rw [List.map_cons, List.filter_cons, List.map_cons, List.filter_cons]
      by_cases hz : (ren tab p.2).isNul = true
      · have hu : nz (Ur rf p.2) = false := by rw [← e, Tr.isNul_iff.mp hz]; exact nz_null
        rw [if_neg (by simp [hz]), if_neg (by simp [hu])]; exact rr
      · rw [if_pos (by simp [hz]), List.map_cons, List.filter_cons, e]
        split
        · rw [rr]
        · exact rr
  refine ok_ind (P := fun t => (∀ p ∈ lvs t, (∀ q, tab p = some q → rf' q = rf p) ∧ (tab p = none → rf p = nullV)) → Ur rf' (ren tab t) = Ur rf t) ?_ ?_ ?_ ?_ ?_ ?_ ?_ h
  · intro _; rfl
  · intro i _; rfl
  · intro i _; rfl
  · intro p hp
    obtain ⟨a, b⟩ := hp p (by rw [lvsE4]; simp)
    rw [renE4]
    cases ht : tab p with
    | none => show nullV = rf p; rw [b ht]
    | some q => exact a q ht
  · intro xs _ ih hp
    rw [renE5, UrE5, UrE5, rens_eq, Urs_eq, Urs_eq, List.map_map]
    congr 4
    exact List.map_congr_left fun x hx => ih x hx fun p h => hp p (mem_lvs_arr.mpr ⟨x, hx, h⟩)
  · intro kvs _ hn ih hp
    rw [renE6, UrE6, UrE6]
    exact dd kvs hn fun q hq => ih q hq fun p h => hp p (mem_lvs_dict.mpr ⟨q, hq, h⟩)
  · intro kvs b _ hn ih hp
    rw [renE7, UrE7, UrE7, dd kvs hn fun q hq => ih q hq fun p h => hp p (mem_lvs_stm.mpr ⟨q, hq, h⟩)]
theorem tabO_unf (h : ShOk S) : ∀ (e : Nat) {d : Nat} {v : Val}, ok d v → (∀ p ∈ lvs (nf (there S) v), p ∈ ordP S) → unfP (compact S) e (ren (tabO S) v) = unfP S e v := by
  intro e
  induction e with
  | zero =>
    intro d v hv hc
    refine Ur_ren hv fun p hp => ⟨fun q hq => ?_, fun hq => ?_⟩
    · unfold tabO at hq
      split at hq
      · rename_i hm; cases hq
        show (if there (compact S) (fr S p) then _ else _) = if there S p then _ else _
        rw [compact_there h hm, ord_there h p hm]
      · cases hq
    · unfold tabO at hq
      split at hq
      · cases hq
      · rename_i hm
        show (if there S p then _ else _) = _
        refine if_neg fun ht => hm (hc p ?_)
        rw [lvs_nf hv]; exact List.mem_filter.mpr ⟨hp, ht⟩
  | succ e ih =>
    intro d v hv hc
    refine Ur_ren hv fun p hp => ⟨fun q hq => ?_, fun hq => ?_⟩
    · unfold tabO at hq
      split at hq
      · rename_i hm; cases hq
        show (if there (compact S) (fr S p) then _ else _) = if there S p then _ else _
        rw [compact_there h hm, ord_there h p hm, if_pos rfl, if_pos rfl, compact_cont hm]
        have := ih (ok_cont h p) (ord_closed h p hm)
        unfold unfP at this
        rw [this]
      · cases hq
    · unfold tabO at hq
      split at hq
      · cases hq
      · rename_i hm
        show (if there S p then _ else _) = _
        refine if_neg fun ht => hm (hc p ?_)
        rw [lvs_nf hv]; exact List.mem_filter.mpr ⟨hp, ht⟩
theorem unf_row (h : ShOk S) {e : Nat} {p : PP} (hp : p ∈ ordP S) : unfP (compact S) e (cont (compact S) (fr S p)) = unfP S e (cont S p) := by
  rw [compact_cont hp]; exact tabO_unf h e (ok_cont h p) (ord_closed h p hp)
theorem unf_plain {e : Nat} (hk : ∀ p ∈ S.tr, p.1 ≠ Str.ofString "XRefStm") (hn : (S.tr.map (·.1)).Nodup) : unfP S e (.dict (plain S)) = unfP S e (.dict S.tr) := by
  unfold unfP
  rw [UrE6, UrE6, udict_eq _ (by rw [Urk_eq, mapk_keys]; exact filt_nodup hn _), udict_eq _ (by rw [Urk_eq, mapk_keys]; exact hn)]
  refine congrArg (fun l => V.tup [SP.S "dict", .list ((sortK l).map fun p => V.tup [.str p.1, p.2])]) ?_
  unfold plain
  rw [Urk_eq, Urk_eq, List.filter_map, List.filter_map, List.filter_filter]
  refine congrArg (List.map _) ?_
  refine List.filter_congr fun p hp => ?_
  have hx := hk p hp
  have : (places.any (· == p.1)) = inSizes p.1 := by
    unfold places inSizes sizeKeys
    simp only [List.any_cons, List.any_nil, Bool.or_false]
    have : (Str.ofString "XRefStm" == p.1) = false := by simpa using fun e => hx e.symm
    rw [this, Bool.or_false]
  simp only [Function.comp, this]
  cases inSizes p.1 <;> simp
theorem unf_trailer (h : ShOk S) (hk : ∀ p ∈ S.tr, p.1 ≠ Str.ofString "XRefStm") {e : Nat} : unfP S e (.dict S.tr) = unfP (compact S) e (.dict (compact S).tr) := by
  rw [← unf_plain hk h.tr.2.1]
  have := tabO_unf h e (ok_plain h) ord_start
  rw [renE6] at this
  exact this.symm
noncomputable def prs (S : Shf) : List PP := (numsP S).map fun n => (n, match S.tab.lookup n with | some r => r.1 | none => 0)
noncomputable def tabT (S : Shf) (τ : PP → PP) (p : PP) : Option PP := if there S p then some (τ p) else none
noncomputable def turned (S : Shf) (τ : PP → PP) : Shf := ⟨(prs S).map fun p => ((τ p).1, (τ p).2, ren (tabT S τ) (cont S p)), renk (tabT S τ) S.tr⟩
theorem nums_mem {n : Int} : n ∈ numsP S ↔ n ∈ S.tab.map (·.1) := (sortI_perm _).mem_iff
theorem look_some {β : Type} {l : List (Int × β)} {n : Int} (h : n ∈ l.map (·.1)) : ∃ r, l.lookup n = some r := by
  cases e : l.lookup n with
  | some r => exact ⟨r, rfl⟩
  | none =>
    exfalso
    induction l with
    | nil => cases h
    | cons p t ih =>
      obtain ⟨m, s⟩ := p
      by_cases q : n = m
      · subst q; simp [List.lookup] at e
      · have : (n == m) = false := by simpa using q
        simp only [List.lookup, this] at e
        rcases List.mem_cons.mp h with h | h
        · exact q h
        · exact ih h e
theorem prs_there {p : PP} : p ∈ prs S ↔ there S p = true := by
  unfold prs
  rw [List.mem_map]
  constructor
  · rintro ⟨n, hn, rfl⟩
    obtain ⟨r, hr⟩ := look_some (nums_mem.mp hn)
    exact there_iff.mpr ⟨r.2, by rw [hr]⟩
  · intro h
    obtain ⟨v, hv⟩ := there_iff.mp h
    exact ⟨p.1, nums_mem.mpr (List.mem_map.mpr ⟨_, look_mem hv, rfl⟩), by rw [hv]⟩
theorem prs_len : (prs S).length = S.tab.length := by unfold prs numsP; rw [List.length_map, (sortI_perm _).length_eq, List.length_map]
theorem turned_keys {τ : PP → PP} : (turned S τ).tab.map (·.1) = (prs S).map fun p => (τ p).1 := by unfold turned; simp [Function.comp]
theorem turned_ok (h : ShOk S) {τ : PP → PP} (hτ : ((prs S).map fun p => (τ p).1).Nodup) : ShOk (turned S τ) where
  keys := by rw [turned_keys]; exact hτ
  len := by unfold turned; rw [List.length_map, prs_len]; exact h.len
  vals := fun r hr => by
    obtain ⟨p, _, rfl⟩ := List.mem_map.mp hr
    exact ok_ren (ok_cont h p)
  tr := by have := ok_ren (tab := tabT S τ) h.tr; rwa [renE6] at this
theorem map_nodup_inj {α β : Type} {f : α → β} {l : List α} (h : (l.map f).Nodup) {a b : α} (ha : a ∈ l) (hb : b ∈ l) (e : f a = f b) : a = b := by
  induction l with
  | nil => cases ha
  | cons p r ih =>
    rw [List.map_cons, List.nodup_cons] at h
    rcases List.mem_cons.mp ha with h1 | h1 <;> rcases List.mem_cons.mp hb with h2 | h2
    · rw [h1, h2]
    · exact absurd (List.mem_map.mpr ⟨b, h2, by rw [← e, h1]⟩) h.1
    · exact absurd (List.mem_map.mpr ⟨a, h1, by rw [e, h2]⟩) h.1
    · exact ih h.2 h1 h2
theorem turned_look {τ : PP → PP} (hτ : ((prs S).map fun p => (τ p).1).Nodup) {p : PP} (hp : there S p = true) : (turned S τ).tab.lookup (τ p).1 = some ((τ p).2, ren (tabT S τ) (cont S p)) :=
  look_of_mem (by rw [turned_keys]; exact hτ) (List.mem_map.mpr ⟨p, prs_there.mpr hp, rfl⟩)
theorem turned_plain {τ : PP → PP} : plain (turned S τ) = renk (tabT S τ) (plain S) := by
  unfold plain turned
  rw [renk_eq, renk_eq, List.filter_filter, List.filter_map, List.filter_map, List.filter_filter]
  congr 1
  exact List.filter_congr fun p _ => by simp [Function.comp, Bool.and_comm]
theorem bis_turned (h : ShOk S) {τ : PP → PP} (hτ : ((prs S).map fun p => (τ p).1).Nodup) : Bis S (turned S τ) fun a b => there S a = true ∧ b = τ a := by
  have hth : ∀ p, there S p = true → there (turned S τ) (τ p) = true := fun p hp => there_iff.mpr ⟨_, turned_look hτ hp⟩
  have key : ∀ {d : Nat} {v : Val}, ok d v → nf (there (turned S τ)) (ren (tabT S τ) v) = (nf (there S) v).map τ := fun hv => nf_ren hv fun p _ => ⟨fun ht => ⟨if_pos ht, hth p ht⟩, fun ht => if_neg (by rw [ht]; decide)⟩
  refine Bis.graph h (fun _ hp => hp) (nf_there (ok_plain h)) (fun p _ => nx_there h p) (fun p hp q hq e => map_nodup_inj hτ (prs_there.mpr hp) (prs_there.mpr hq) (by rw [e])) hth (fun p hp => ?_) ?_
  · show nf _ (cont (turned S τ) (τ p)) = _
    have : cont (turned S τ) (τ p) = ren (tabT S τ) (cont S p) := by unfold cont; rw [turned_look hτ hp]; rfl
    rw [this]; exact key (ok_cont h p)
  · show nf _ (.dict (plain (turned S τ))) = _
    rw [turned_plain]
    have := key (ok_plain h)
    rwa [renE6] at this
end
end SP
namespace SP
set_option linter.unusedVariables false
open PySem PySem.W PySem.Calls PyProof.Rows
inductive UA : Nat → V → Prop
  | atom {n x} : isAt x = true → UA n x
  | tup {n xs} : (∀ x ∈ xs, UA n x) → UA (n + 1) (.tup xs)
  | list {n xs} : (∀ x ∈ xs, UA n x) → UA (n + 1) (.list xs)
theorem UA.cmp {n : Nat} {x : V} (h : UA n x) : Cmp n x x := by
  induction h with
  | atom h => exact .aa h h
  | tup _ ih => exact .tup fun i a b ha hb => by rw [ha] at hb; cases hb; exact ih a (List.mem_of_getElem? ha)
  | list _ ih => exact .list fun i a b ha hb => by rw [ha] at hb; cases hb; exact ih a (List.mem_of_getElem? ha)
theorem veqs_self : ∀ {xs : List V}, (∀ x ∈ xs, veq x x = true) → veqs xs xs = true
  | [], _ => rfl
  | x :: xs, h => by rw [veqsE, h x (.head _), veqs_self fun a ha => h a (.tail _ ha)]; rfl
theorem UA.veq {n : Nat} {x : V} (h : UA n x) : SP.veq x x = true := by
  induction h with
  | @atom n x hx =>
    cases x <;> first | cases hx | skip
    all_goals first | rfl | exact beq_self_eq_true _
  | tup _ ih => exact veqs_self ih
  | list _ ih => exact veqs_self ih
theorem UA.mono {n : Nat} {x : V} (h : UA n x) : UA (n + 1) x := by
  induction h with
  | atom h => exact .atom h
  | tup _ ih => exact .tup ih
  | list _ ih => exact .list ih
theorem UA.le {n m : Nat} {x : V} (h : UA n x) (hl : n ≤ m) : UA m x := by
  induction hl with
  | refl => exact h
  | step _ ih => exact ih.mono
theorem UA.s {n : Nat} {i : String} : UA n (SP.S i) := .atom rfl
theorem UA.two {n : Nat} {a b : V} (ha : UA n a) (hb : UA n b) : UA (n + 1) (.tup [a, b]) := .tup fun x hx => by
  simp only [List.mem_cons, List.not_mem_nil, or_false] at hx
  rcases hx with rfl | rfl
  · exact ha
  · exact hb
theorem UA.one {n : Nat} {a : V} (ha : UA n a) : UA (n + 1) (.tup [a]) := .tup fun x hx => by rw [List.mem_singleton.mp hx]; exact ha
theorem UA.three {n : Nat} {a b c : V} (ha : UA n a) (hb : UA n b) (hc : UA n c) : UA (n + 1) (.tup [a, b, c]) := .tup fun x hx => by
  simp only [List.mem_cons, List.not_mem_nil, or_false] at hx
  rcases hx with rfl | rfl | rfl
  · exact ha
  · exact hb
  · exact hc
theorem udict_UA {n : Nat} {l : List (Str × V)} (h : ∀ p ∈ l, UA n p.2) : UA (n + 3) (udict l) := by
  refine UA.two .s (.list fun x hx => ?_)
  obtain ⟨p, hp, rfl⟩ := List.mem_map.mp hx
  have h1 := (sortK_perm l).mem_iff.mp (List.mem_filter.mp (List.mem_filter.mp hp).1).1
  exact UA.two (.atom rfl) (h p h1)
theorem Ur_UA {rf : PP → V} {b : Nat} (hrf : ∀ p, UA b (rf p)) : ∀ (d : Nat) {v : Val}, ok d v → UA (4 * d + b + 1) (Ur rf v) := by
  have hleaf : ∀ {v : Val}, (∀ xs, v ≠ .arr xs) → (∀ xs, v ≠ .dict xs) → (∀ xs b, v ≠ .stm xs b) → UA (b + 1) (Ur rf v) := by
    intro v h1 h2 h3
    cases v with
    | arr xs => exact absurd rfl (h1 xs)
    | dict xs => exact absurd rfl (h2 xs)
    | stm xs b => exact absurd rfl (h3 xs b)
    | nul => exact .one .s
    | int => exact .two .s (.atom rfl)
    | name => exact .two .s (.atom rfl)
    | ref p => exact (hrf p).mono
  intro d
  induction d with
  | zero =>
    intro v hv
    exact (hleaf (by rintro xs rfl; exact hv) (by rintro xs rfl; exact hv) (by rintro xs b rfl; exact hv)).le (by omega)
  | succ d ih =>
    intro v hv
    cases v with
    | arr xs =>
      rw [UrE5, Urs_eq]
      refine (UA.two (n := 4 * d + b + 2) .s (.list fun x hx => ?_)).le (by omega)
      obtain ⟨y, hy, rfl⟩ := List.mem_map.mp hx
      exact ih (hv.2 y hy)
    | dict kvs =>
      rw [UrE6]
      refine (udict_UA (n := 4 * d + b + 1) fun p hp => ?_).le (by omega)
      rw [Urk_eq] at hp
      obtain ⟨q, hq, rfl⟩ := List.mem_map.mp hp
      exact ih (hv.2.2 q hq)
    | stm kvs o =>
      rw [UrE7]
      refine (UA.three (n := 4 * d + b + 4) .s (.atom rfl) (udict_UA (n := 4 * d + b + 1) fun p hp => ?_)).le (by omega)
      rw [Urk_eq] at hp
      obtain ⟨q, hq, rfl⟩ := List.mem_map.mp hp
      exact ih (hv.2.2 q hq)
    | _ => exact (hleaf (by simp) (by simp) (by simp)).le (by omega)
theorem rfP_UA {S : Shf} (h : ShOk S) : ∀ (e : Nat) (p : PP), UA (20 * e + 1) (rfP S e p)
  | 0, p => by
    rw [rfPE1]; split
    · exact .one .s
    · exact .one .s
  | e + 1, p => by
    rw [rfPE2]; split
    · exact (UA.two (n := 20 * e + 20) .s ((Ur_UA (rfP_UA h e) 2 (ok_cont h p)).le (by omega))).le (by omega)
    · exact (UA.one .s : UA 1 _).le (by omega)
theorem unfP_UA {S : Shf} (h : ShOk S) {e d : Nat} {v : Val} (hv : ok d v) : UA (20 * e + 4 * d + 2) (unfP S e v) := (Ur_UA (rfP_UA h e) d hv).le (by omega)
theorem rfP_tup {S : Shf} (e : Nat) (p : PP) : ∃ s r, rfP S e p = .tup (.str s :: r) := by
  cases e with
  | zero => rw [rfPE1]; split <;> exact ⟨_, _, rfl⟩
  | succ e => rw [rfPE2]; split <;> exact ⟨_, _, rfl⟩
theorem unfP_tup {S : Shf} (e : Nat) (v : Val) : ∃ s r, unfP S e v = .tup (.str s :: r) := by
  unfold unfP
  cases v with
  | ref p => rw [UrE4]; exact rfP_tup e p
  | _ => ((first | rw [UrE1] | rw [UrE2] | rw [UrE3] | rw [UrE5] | rw [UrE6] | rw [UrE7])); exact ⟨_, _, rfl⟩
theorem udict_get {rf : PP → V} {kvs : List (Str × Val)} (hn : (kvs.map (·.1)).Nodup) :
    udict (Urk rf kvs) = .tup [SP.S "dict", .list (((((sortS (kvs.map (·.1))).filter fun k => !inSizes k).map fun k => (k, Ur rf (getK kvs k))).filter fun p => nz p.2).map fun p => V.tup [.str p.1, p.2])] := by
  unfold udict
  rw [Urk_eq, sortK_map, sortK_get hn, List.map_map, List.filter_map]
  rfl
end SP
namespace SP
set_option maxRecDepth 100000
set_option linter.unusedVariables false
set_option maxHeartbeats 4000000
open PySem PySem.W PySem.Calls PyProof.Rows
section
open PySem PySem.W PySem.Calls PyProof.Rows
variable {C : Cx}
theorem facts0 (P : Params) : globIn (hd.heap_39 P) "sign_text" = some (.ref 154) ∧
  globIn (hd.heap_39 P) "kind_of" = some (.ref 253) ∧
  globIn (hd.heap_39 P) "told_plain" = some (.ref 260) ∧
  globIn (hd.heap_39 P) "told" = some (.ref 265) ∧
  globIn (hd.heap_39 P) "told_objects" = some (.ref 265) ∧
  globIn (hd.heap_39 P) "copied" = some (.ref 270) ∧
  globIn (hd.heap_39 P) "parts_of" = some (.ref 275) ∧
  globIn (hd.heap_39 P) "references_in" = some (.ref 282) ∧
  globIn (hd.heap_39 P) "renumbered" = some (.ref 287) ∧
  globIn (hd.heap_39 P) "shelf_copied" = some (.ref 382) ∧
  globIn (hd.heap_39 P) "is_there" = some (.ref 390) ∧
  globIn (hd.heap_39 P) "plain_trailer" = some (.ref 395) ∧
  globIn (hd.heap_39 P) "walk" = some (.ref 400) ∧
  globIn (hd.heap_39 P) "reached" = some (.ref 405) ∧
  globIn (hd.heap_39 P) "unreached" = some (.ref 410) ∧
  globIn (hd.heap_39 P) "compacted" = some (.ref 417) ∧
  globIn (hd.heap_39 P) "seen_as" = some (.ref 424) ∧
  globIn (hd.heap_39 P) "solid_keys" = some (.ref 429) ∧
  globIn (hd.heap_39 P) "alike" = some (.ref 478) ∧
  globIn (hd.heap_39 P) "_law_pen" = some (.ref 485) ∧
  globIn (hd.heap_39 P) "_law_draw" = some (.ref 492) ∧
  globIn (hd.heap_39 P) "_law_value" = some (.ref 497) ∧
  globIn (hd.heap_39 P) "_law_shelf" = some (.ref 504) ∧
  globIn (hd.heap_39 P) "_law_unfolded" = some (.ref 509) := by
  refine ⟨?_, ?_, ?_, ?_, ?_, ?_, ?_, ?_, ?_, ?_, ?_, ?_, ?_, ?_, ?_, ?_, ?_, ?_, ?_, ?_, ?_, ?_, ?_, ?_⟩ <;> kernel_rfl
theorem glkindof (hK : C.K = hd.heap_39 C.w.params) : globIn C.K "kind_of" = some (.ref 253) := by rw [hK]; exact (facts0 _).2.1
theorem gltoldplain (hK : C.K = hd.heap_39 C.w.params) : globIn C.K "told_plain" = some (.ref 260) := by rw [hK]; exact (facts0 _).2.2.1
theorem gltoldobjects (hK : C.K = hd.heap_39 C.w.params) : globIn C.K "told_objects" = some (.ref 265) := by rw [hK]; exact (facts0 _).2.2.2.2.1
theorem glcopied (hK : C.K = hd.heap_39 C.w.params) : globIn C.K "copied" = some (.ref 270) := by rw [hK]; exact (facts0 _).2.2.2.2.2.1
theorem glpartsof (hK : C.K = hd.heap_39 C.w.params) : globIn C.K "parts_of" = some (.ref 275) := by rw [hK]; exact (facts0 _).2.2.2.2.2.2.1
theorem glreferencesin (hK : C.K = hd.heap_39 C.w.params) : globIn C.K "references_in" = some (.ref 282) := by rw [hK]; exact (facts0 _).2.2.2.2.2.2.2.1
theorem glrenumbered (hK : C.K = hd.heap_39 C.w.params) : globIn C.K "renumbered" = some (.ref 287) := by rw [hK]; exact (facts0 _).2.2.2.2.2.2.2.2.1
theorem glshelfcopied (hK : C.K = hd.heap_39 C.w.params) : globIn C.K "shelf_copied" = some (.ref 382) := by rw [hK]; exact (facts0 _).2.2.2.2.2.2.2.2.2.1
theorem glisthere (hK : C.K = hd.heap_39 C.w.params) : globIn C.K "is_there" = some (.ref 390) := by rw [hK]; exact (facts0 _).2.2.2.2.2.2.2.2.2.2.1
theorem glplaintrailer (hK : C.K = hd.heap_39 C.w.params) : globIn C.K "plain_trailer" = some (.ref 395) := by rw [hK]; exact (facts0 _).2.2.2.2.2.2.2.2.2.2.2.1
theorem glwalk (hK : C.K = hd.heap_39 C.w.params) : globIn C.K "walk" = some (.ref 400) := by rw [hK]; exact (facts0 _).2.2.2.2.2.2.2.2.2.2.2.2.1
theorem glreached (hK : C.K = hd.heap_39 C.w.params) : globIn C.K "reached" = some (.ref 405) := by rw [hK]; exact (facts0 _).2.2.2.2.2.2.2.2.2.2.2.2.2.1
theorem glunreached (hK : C.K = hd.heap_39 C.w.params) : globIn C.K "unreached" = some (.ref 410) := by rw [hK]; exact (facts0 _).2.2.2.2.2.2.2.2.2.2.2.2.2.2.1
theorem glcompacted (hK : C.K = hd.heap_39 C.w.params) : globIn C.K "compacted" = some (.ref 417) := by rw [hK]; exact (facts0 _).2.2.2.2.2.2.2.2.2.2.2.2.2.2.2.1
theorem glseenas (hK : C.K = hd.heap_39 C.w.params) : globIn C.K "seen_as" = some (.ref 424) := by rw [hK]; exact (facts0 _).2.2.2.2.2.2.2.2.2.2.2.2.2.2.2.2.1
theorem glsolidkeys (hK : C.K = hd.heap_39 C.w.params) : globIn C.K "solid_keys" = some (.ref 429) := by rw [hK]; exact (facts0 _).2.2.2.2.2.2.2.2.2.2.2.2.2.2.2.2.2.1
theorem glalike (hK : C.K = hd.heap_39 C.w.params) : globIn C.K "alike" = some (.ref 478) := by rw [hK]; exact (facts0 _).2.2.2.2.2.2.2.2.2.2.2.2.2.2.2.2.2.2.1
theorem gllawpen (hK : C.K = hd.heap_39 C.w.params) : globIn C.K "_law_pen" = some (.ref 485) := by rw [hK]; exact (facts0 _).2.2.2.2.2.2.2.2.2.2.2.2.2.2.2.2.2.2.2.1
theorem gllawdraw (hK : C.K = hd.heap_39 C.w.params) : globIn C.K "_law_draw" = some (.ref 492) := by rw [hK]; exact (facts0 _).2.2.2.2.2.2.2.2.2.2.2.2.2.2.2.2.2.2.2.2.1
theorem gllawvalue (hK : C.K = hd.heap_39 C.w.params) : globIn C.K "_law_value" = some (.ref 497) := by rw [hK]; exact (facts0 _).2.2.2.2.2.2.2.2.2.2.2.2.2.2.2.2.2.2.2.2.2.1
theorem gllawshelf (hK : C.K = hd.heap_39 C.w.params) : globIn C.K "_law_shelf" = some (.ref 504) := by rw [hK]; exact (facts0 _).2.2.2.2.2.2.2.2.2.2.2.2.2.2.2.2.2.2.2.2.2.2.1
theorem gllawunfolded (hK : C.K = hd.heap_39 C.w.params) : globIn C.K "_law_unfolded" = some (.ref 509) := by rw [hK]; exact (facts0 _).2.2.2.2.2.2.2.2.2.2.2.2.2.2.2.2.2.2.2.2.2.2.2
theorem facts1 (P : Params) : globIn (hd.heap_39 P) "_law_flood" = some (.ref 514) ∧
  globIn (hd.heap_39 P) "_law_turned" = some (.ref 521) ∧
  globIn (hd.heap_39 P) "_law_second" = some (.ref 528) ∧
  globIn (hd.heap_39 P) "PaperError" = some (.ref 46) ∧
  globIn (hd.heap_39 P) "Decimal" = some (.ref 143) ∧
  globIn (hd.heap_39 P) "Name" = some (.ref 171) ∧
  globIn (hd.heap_39 P) "String" = some (.ref 193) ∧
  globIn (hd.heap_39 P) "Stream" = some (.ref 214) ∧
  globIn (hd.heap_39 P) "Reference" = some (.ref 242) ∧
  globIn (hd.heap_39 P) "Shelf" = some (.ref 373) ∧
  globIn (hd.heap_39 P) "Twin" = some (.ref 467) ∧
  globIn (hd.heap_39 P) "isinstance" = some (.builtin "isinstance") ∧
  globIn (hd.heap_39 P) "sorted" = some (.builtin "sorted") ∧
  globIn (hd.heap_39 P) "len" = some (.builtin "len") ∧
  globIn (hd.heap_39 P) "abs" = some (.builtin "abs") ∧
  globIn (hd.heap_39 P) "tuple" = some (.type "tuple") ∧
  globIn (hd.heap_39 P) "list" = some (.type "list") ∧
  globIn (hd.heap_39 P) "dict" = some (.type "dict") ∧
  globIn (hd.heap_39 P) "bytes" = some (.type "bytes") ∧
  globIn (hd.heap_39 P) "range" = some (.type "range") ∧
  globIn (hd.heap_39 P) "bool" = some (.type "bool") ∧
  globIn (hd.heap_39 P) "int" = some (.type "int") ∧
  globIn (hd.heap_39 P) "reversed" = some (.type "reversed") ∧
  globIn (hd.heap_39 P) "zip" = some (.type "zip") := by
  refine ⟨?_, ?_, ?_, ?_, ?_, ?_, ?_, ?_, ?_, ?_, ?_, ?_, ?_, ?_, ?_, ?_, ?_, ?_, ?_, ?_, ?_, ?_, ?_, ?_⟩ <;> kernel_rfl
theorem gllawflood (hK : C.K = hd.heap_39 C.w.params) : globIn C.K "_law_flood" = some (.ref 514) := by rw [hK]; exact (facts1 _).1
theorem gllawturned (hK : C.K = hd.heap_39 C.w.params) : globIn C.K "_law_turned" = some (.ref 521) := by rw [hK]; exact (facts1 _).2.1
theorem gllawsecond (hK : C.K = hd.heap_39 C.w.params) : globIn C.K "_law_second" = some (.ref 528) := by rw [hK]; exact (facts1 _).2.2.1
theorem glDecimal (hK : C.K = hd.heap_39 C.w.params) : globIn C.K "Decimal" = some (.ref 143) := by rw [hK]; exact (facts1 _).2.2.2.2.1
theorem glName (hK : C.K = hd.heap_39 C.w.params) : globIn C.K "Name" = some (.ref 171) := by rw [hK]; exact (facts1 _).2.2.2.2.2.1
theorem glString (hK : C.K = hd.heap_39 C.w.params) : globIn C.K "String" = some (.ref 193) := by rw [hK]; exact (facts1 _).2.2.2.2.2.2.1
theorem glStream (hK : C.K = hd.heap_39 C.w.params) : globIn C.K "Stream" = some (.ref 214) := by rw [hK]; exact (facts1 _).2.2.2.2.2.2.2.1
theorem glReference (hK : C.K = hd.heap_39 C.w.params) : globIn C.K "Reference" = some (.ref 242) := by rw [hK]; exact (facts1 _).2.2.2.2.2.2.2.2.1
theorem glShelf (hK : C.K = hd.heap_39 C.w.params) : globIn C.K "Shelf" = some (.ref 373) := by rw [hK]; exact (facts1 _).2.2.2.2.2.2.2.2.2.1
theorem glTwin (hK : C.K = hd.heap_39 C.w.params) : globIn C.K "Twin" = some (.ref 467) := by rw [hK]; exact (facts1 _).2.2.2.2.2.2.2.2.2.2.1
theorem glisinstance (hK : C.K = hd.heap_39 C.w.params) : globIn C.K "isinstance" = some (.builtin "isinstance") := by rw [hK]; exact (facts1 _).2.2.2.2.2.2.2.2.2.2.2.1
theorem glsorted (hK : C.K = hd.heap_39 C.w.params) : globIn C.K "sorted" = some (.builtin "sorted") := by rw [hK]; exact (facts1 _).2.2.2.2.2.2.2.2.2.2.2.2.1
theorem gllen (hK : C.K = hd.heap_39 C.w.params) : globIn C.K "len" = some (.builtin "len") := by rw [hK]; exact (facts1 _).2.2.2.2.2.2.2.2.2.2.2.2.2.1
theorem glabs (hK : C.K = hd.heap_39 C.w.params) : globIn C.K "abs" = some (.builtin "abs") := by rw [hK]; exact (facts1 _).2.2.2.2.2.2.2.2.2.2.2.2.2.2.1
theorem gltuple (hK : C.K = hd.heap_39 C.w.params) : globIn C.K "tuple" = some (.type "tuple") := by rw [hK]; exact (facts1 _).2.2.2.2.2.2.2.2.2.2.2.2.2.2.2.1
theorem gllist (hK : C.K = hd.heap_39 C.w.params) : globIn C.K "list" = some (.type "list") := by rw [hK]; exact (facts1 _).2.2.2.2.2.2.2.2.2.2.2.2.2.2.2.2.1
theorem gldict (hK : C.K = hd.heap_39 C.w.params) : globIn C.K "dict" = some (.type "dict") := by rw [hK]; exact (facts1 _).2.2.2.2.2.2.2.2.2.2.2.2.2.2.2.2.2.1
theorem glbytes (hK : C.K = hd.heap_39 C.w.params) : globIn C.K "bytes" = some (.type "bytes") := by rw [hK]; exact (facts1 _).2.2.2.2.2.2.2.2.2.2.2.2.2.2.2.2.2.2.1
theorem glrange (hK : C.K = hd.heap_39 C.w.params) : globIn C.K "range" = some (.type "range") := by rw [hK]; exact (facts1 _).2.2.2.2.2.2.2.2.2.2.2.2.2.2.2.2.2.2.2.1
theorem glbool (hK : C.K = hd.heap_39 C.w.params) : globIn C.K "bool" = some (.type "bool") := by rw [hK]; exact (facts1 _).2.2.2.2.2.2.2.2.2.2.2.2.2.2.2.2.2.2.2.2.1
theorem glint (hK : C.K = hd.heap_39 C.w.params) : globIn C.K "int" = some (.type "int") := by rw [hK]; exact (facts1 _).2.2.2.2.2.2.2.2.2.2.2.2.2.2.2.2.2.2.2.2.2.1
theorem glreversed (hK : C.K = hd.heap_39 C.w.params) : globIn C.K "reversed" = some (.type "reversed") := by rw [hK]; exact (facts1 _).2.2.2.2.2.2.2.2.2.2.2.2.2.2.2.2.2.2.2.2.2.2.1
theorem glzip (hK : C.K = hd.heap_39 C.w.params) : globIn C.K "zip" = some (.type "zip") := by rw [hK]; exact (facts1 _).2.2.2.2.2.2.2.2.2.2.2.2.2.2.2.2.2.2.2.2.2.2.2
theorem facts2 (P : Params) : keepIn (hd.heap_39 P) (.ref 46) = true ∧
  keepIn (hd.heap_39 P) (.ref 143) = true ∧
  keepIn (hd.heap_39 P) (.ref 154) = true ∧
  keepIn (hd.heap_39 P) (.ref 171) = true ∧
  keepIn (hd.heap_39 P) (.ref 193) = true ∧
  keepIn (hd.heap_39 P) (.ref 214) = true ∧
  keepIn (hd.heap_39 P) (.ref 242) = true ∧
  keepIn (hd.heap_39 P) (.ref 253) = true ∧
  keepIn (hd.heap_39 P) (.ref 260) = true ∧
  keepIn (hd.heap_39 P) (.ref 265) = true ∧
  keepIn (hd.heap_39 P) (.ref 270) = true ∧
  keepIn (hd.heap_39 P) (.ref 275) = true ∧
  keepIn (hd.heap_39 P) (.ref 282) = true ∧
  keepIn (hd.heap_39 P) (.ref 287) = true ∧
  keepIn (hd.heap_39 P) (.ref 373) = true ∧
  keepIn (hd.heap_39 P) (.ref 382) = true ∧
  keepIn (hd.heap_39 P) (.ref 390) = true ∧
  keepIn (hd.heap_39 P) (.ref 395) = true ∧
  keepIn (hd.heap_39 P) (.ref 400) = true ∧
  keepIn (hd.heap_39 P) (.ref 405) = true ∧
  keepIn (hd.heap_39 P) (.ref 410) = true ∧
  keepIn (hd.heap_39 P) (.ref 417) = true ∧
  keepIn (hd.heap_39 P) (.ref 424) = true ∧
  keepIn (hd.heap_39 P) (.ref 429) = true := by
  refine ⟨?_, ?_, ?_, ?_, ?_, ?_, ?_, ?_, ?_, ?_, ?_, ?_, ?_, ?_, ?_, ?_, ?_, ?_, ?_, ?_, ?_, ?_, ?_, ?_⟩ <;> kernel_rfl
theorem ce171 (hK : C.K = hd.heap_39 C.w.params) : Callee C (.ref 171) := Callee.ref (by rw [hK]; exact (facts2 _).2.2.2.1)
theorem ce214 (hK : C.K = hd.heap_39 C.w.params) : Callee C (.ref 214) := Callee.ref (by rw [hK]; exact (facts2 _).2.2.2.2.2.1)
theorem ce242 (hK : C.K = hd.heap_39 C.w.params) : Callee C (.ref 242) := Callee.ref (by rw [hK]; exact (facts2 _).2.2.2.2.2.2.1)
theorem ce253 (hK : C.K = hd.heap_39 C.w.params) : Callee C (.ref 253) := Callee.ref (by rw [hK]; exact (facts2 _).2.2.2.2.2.2.2.1)
theorem ce260 (hK : C.K = hd.heap_39 C.w.params) : Callee C (.ref 260) := Callee.ref (by rw [hK]; exact (facts2 _).2.2.2.2.2.2.2.2.1)
theorem ce265 (hK : C.K = hd.heap_39 C.w.params) : Callee C (.ref 265) := Callee.ref (by rw [hK]; exact (facts2 _).2.2.2.2.2.2.2.2.2.1)
theorem ce270 (hK : C.K = hd.heap_39 C.w.params) : Callee C (.ref 270) := Callee.ref (by rw [hK]; exact (facts2 _).2.2.2.2.2.2.2.2.2.2.1)
theorem ce275 (hK : C.K = hd.heap_39 C.w.params) : Callee C (.ref 275) := Callee.ref (by rw [hK]; exact (facts2 _).2.2.2.2.2.2.2.2.2.2.2.1)
theorem ce282 (hK : C.K = hd.heap_39 C.w.params) : Callee C (.ref 282) := Callee.ref (by rw [hK]; exact (facts2 _).2.2.2.2.2.2.2.2.2.2.2.2.1)
theorem ce287 (hK : C.K = hd.heap_39 C.w.params) : Callee C (.ref 287) := Callee.ref (by rw [hK]; exact (facts2 _).2.2.2.2.2.2.2.2.2.2.2.2.2.1)
theorem ce373 (hK : C.K = hd.heap_39 C.w.params) : Callee C (.ref 373) := Callee.ref (by rw [hK]; exact (facts2 _).2.2.2.2.2.2.2.2.2.2.2.2.2.2.1)
theorem ce382 (hK : C.K = hd.heap_39 C.w.params) : Callee C (.ref 382) := Callee.ref (by rw [hK]; exact (facts2 _).2.2.2.2.2.2.2.2.2.2.2.2.2.2.2.1)
theorem ce390 (hK : C.K = hd.heap_39 C.w.params) : Callee C (.ref 390) := Callee.ref (by rw [hK]; exact (facts2 _).2.2.2.2.2.2.2.2.2.2.2.2.2.2.2.2.1)
theorem ce395 (hK : C.K = hd.heap_39 C.w.params) : Callee C (.ref 395) := Callee.ref (by rw [hK]; exact (facts2 _).2.2.2.2.2.2.2.2.2.2.2.2.2.2.2.2.2.1)
theorem ce400 (hK : C.K = hd.heap_39 C.w.params) : Callee C (.ref 400) := Callee.ref (by rw [hK]; exact (facts2 _).2.2.2.2.2.2.2.2.2.2.2.2.2.2.2.2.2.2.1)
theorem ce405 (hK : C.K = hd.heap_39 C.w.params) : Callee C (.ref 405) := Callee.ref (by rw [hK]; exact (facts2 _).2.2.2.2.2.2.2.2.2.2.2.2.2.2.2.2.2.2.2.1)
theorem ce410 (hK : C.K = hd.heap_39 C.w.params) : Callee C (.ref 410) := Callee.ref (by rw [hK]; exact (facts2 _).2.2.2.2.2.2.2.2.2.2.2.2.2.2.2.2.2.2.2.2.1)
theorem ce417 (hK : C.K = hd.heap_39 C.w.params) : Callee C (.ref 417) := Callee.ref (by rw [hK]; exact (facts2 _).2.2.2.2.2.2.2.2.2.2.2.2.2.2.2.2.2.2.2.2.2.1)
theorem ce424 (hK : C.K = hd.heap_39 C.w.params) : Callee C (.ref 424) := Callee.ref (by rw [hK]; exact (facts2 _).2.2.2.2.2.2.2.2.2.2.2.2.2.2.2.2.2.2.2.2.2.2.1)
theorem ce429 (hK : C.K = hd.heap_39 C.w.params) : Callee C (.ref 429) := Callee.ref (by rw [hK]; exact (facts2 _).2.2.2.2.2.2.2.2.2.2.2.2.2.2.2.2.2.2.2.2.2.2.2)
theorem facts3 (P : Params) : keepIn (hd.heap_39 P) (.ref 467) = true ∧
  keepIn (hd.heap_39 P) (.ref 478) = true ∧
  keepIn (hd.heap_39 P) (.ref 485) = true ∧
  keepIn (hd.heap_39 P) (.ref 492) = true ∧
  keepIn (hd.heap_39 P) (.ref 497) = true ∧
  keepIn (hd.heap_39 P) (.ref 504) = true ∧
  keepIn (hd.heap_39 P) (.ref 509) = true ∧
  keepIn (hd.heap_39 P) (.ref 514) = true ∧
  keepIn (hd.heap_39 P) (.ref 521) = true ∧
  keepIn (hd.heap_39 P) (.ref 528) = true ∧
  keepIn (hd.heap_39 P) (.ref 239) = true ∧
  keepIn (hd.heap_39 P) (.ref 337) = true ∧
  keepIn (hd.heap_39 P) (.ref 358) = true ∧
  keepIn (hd.heap_39 P) (.ref 370) = true ∧
  keepIn (hd.heap_39 P) (.ref 450) = true ∧
  keepIn (hd.heap_39 P) (.ref 457) = true ∧
  keepIn (hd.heap_39 P) (.ref 464) = true ∧
  attIn (hd.heap_39 P) 171 "text" = true ∧
  setIn (hd.heap_39 P) 171 "text" = true ∧
  attIn (hd.heap_39 P) 242 "number" = true ∧
  setIn (hd.heap_39 P) 242 "number" = true ∧
  attIn (hd.heap_39 P) 242 "generation" = true ∧
  setIn (hd.heap_39 P) 242 "generation" = true ∧
  attIn (hd.heap_39 P) 214 "head" = true := by
  refine ⟨?_, ?_, ?_, ?_, ?_, ?_, ?_, ?_, ?_, ?_, ?_, ?_, ?_, ?_, ?_, ?_, ?_, ?_, ?_, ?_, ?_, ?_, ?_, ?_⟩ <;> kernel_rfl
theorem ce467 (hK : C.K = hd.heap_39 C.w.params) : Callee C (.ref 467) := Callee.ref (by rw [hK]; exact (facts3 _).1)
theorem ce478 (hK : C.K = hd.heap_39 C.w.params) : Callee C (.ref 478) := Callee.ref (by rw [hK]; exact (facts3 _).2.1)
theorem ce485 (hK : C.K = hd.heap_39 C.w.params) : Callee C (.ref 485) := Callee.ref (by rw [hK]; exact (facts3 _).2.2.1)
theorem ce492 (hK : C.K = hd.heap_39 C.w.params) : Callee C (.ref 492) := Callee.ref (by rw [hK]; exact (facts3 _).2.2.2.1)
theorem ce497 (hK : C.K = hd.heap_39 C.w.params) : Callee C (.ref 497) := Callee.ref (by rw [hK]; exact (facts3 _).2.2.2.2.1)
theorem ce504 (hK : C.K = hd.heap_39 C.w.params) : Callee C (.ref 504) := Callee.ref (by rw [hK]; exact (facts3 _).2.2.2.2.2.1)
theorem ce509 (hK : C.K = hd.heap_39 C.w.params) : Callee C (.ref 509) := Callee.ref (by rw [hK]; exact (facts3 _).2.2.2.2.2.2.1)
theorem ce514 (hK : C.K = hd.heap_39 C.w.params) : Callee C (.ref 514) := Callee.ref (by rw [hK]; exact (facts3 _).2.2.2.2.2.2.2.1)
theorem ce521 (hK : C.K = hd.heap_39 C.w.params) : Callee C (.ref 521) := Callee.ref (by rw [hK]; exact (facts3 _).2.2.2.2.2.2.2.2.1)
theorem ce528 (hK : C.K = hd.heap_39 C.w.params) : Callee C (.ref 528) := Callee.ref (by rw [hK]; exact (facts3 _).2.2.2.2.2.2.2.2.2.1)
theorem ce239 (hK : C.K = hd.heap_39 C.w.params) : Callee C (.ref 239) := Callee.ref (by rw [hK]; exact (facts3 _).2.2.2.2.2.2.2.2.2.2.1)
theorem ce337 (hK : C.K = hd.heap_39 C.w.params) : Callee C (.ref 337) := Callee.ref (by rw [hK]; exact (facts3 _).2.2.2.2.2.2.2.2.2.2.2.1)
theorem ce358 (hK : C.K = hd.heap_39 C.w.params) : Callee C (.ref 358) := Callee.ref (by rw [hK]; exact (facts3 _).2.2.2.2.2.2.2.2.2.2.2.2.1)
theorem ce370 (hK : C.K = hd.heap_39 C.w.params) : Callee C (.ref 370) := Callee.ref (by rw [hK]; exact (facts3 _).2.2.2.2.2.2.2.2.2.2.2.2.2.1)
theorem ce450 (hK : C.K = hd.heap_39 C.w.params) : Callee C (.ref 450) := Callee.ref (by rw [hK]; exact (facts3 _).2.2.2.2.2.2.2.2.2.2.2.2.2.2.1)
theorem ce457 (hK : C.K = hd.heap_39 C.w.params) : Callee C (.ref 457) := Callee.ref (by rw [hK]; exact (facts3 _).2.2.2.2.2.2.2.2.2.2.2.2.2.2.2.1)
theorem ce464 (hK : C.K = hd.heap_39 C.w.params) : Callee C (.ref 464) := Callee.ref (by rw [hK]; exact (facts3 _).2.2.2.2.2.2.2.2.2.2.2.2.2.2.2.2.1)
theorem at171text (hK : C.K = hd.heap_39 C.w.params) : attIn C.K 171 "text" = true := by rw [hK]; exact (facts3 _).2.2.2.2.2.2.2.2.2.2.2.2.2.2.2.2.2.1
theorem se171text (hK : C.K = hd.heap_39 C.w.params) : setIn C.K 171 "text" = true := by rw [hK]; exact (facts3 _).2.2.2.2.2.2.2.2.2.2.2.2.2.2.2.2.2.2.1
theorem at242number (hK : C.K = hd.heap_39 C.w.params) : attIn C.K 242 "number" = true := by rw [hK]; exact (facts3 _).2.2.2.2.2.2.2.2.2.2.2.2.2.2.2.2.2.2.2.1
theorem se242number (hK : C.K = hd.heap_39 C.w.params) : setIn C.K 242 "number" = true := by rw [hK]; exact (facts3 _).2.2.2.2.2.2.2.2.2.2.2.2.2.2.2.2.2.2.2.2.1
theorem at242generation (hK : C.K = hd.heap_39 C.w.params) : attIn C.K 242 "generation" = true := by rw [hK]; exact (facts3 _).2.2.2.2.2.2.2.2.2.2.2.2.2.2.2.2.2.2.2.2.2.1
theorem se242generation (hK : C.K = hd.heap_39 C.w.params) : setIn C.K 242 "generation" = true := by rw [hK]; exact (facts3 _).2.2.2.2.2.2.2.2.2.2.2.2.2.2.2.2.2.2.2.2.2.2.1
theorem at214head (hK : C.K = hd.heap_39 C.w.params) : attIn C.K 214 "head" = true := by rw [hK]; exact (facts3 _).2.2.2.2.2.2.2.2.2.2.2.2.2.2.2.2.2.2.2.2.2.2.2
theorem facts4 (P : Params) : setIn (hd.heap_39 P) 214 "head" = true ∧
  attIn (hd.heap_39 P) 214 "octets" = true ∧
  setIn (hd.heap_39 P) 214 "octets" = true ∧
  attIn (hd.heap_39 P) 373 "table" = true ∧
  setIn (hd.heap_39 P) 373 "table" = true ∧
  attIn (hd.heap_39 P) 373 "trailer" = true ∧
  setIn (hd.heap_39 P) 373 "trailer" = true ∧
  attIn (hd.heap_39 P) 467 "one" = true ∧
  setIn (hd.heap_39 P) 467 "one" = true ∧
  attIn (hd.heap_39 P) 467 "other" = true ∧
  setIn (hd.heap_39 P) 467 "other" = true ∧
  attIn (hd.heap_39 P) 467 "there" = true ∧
  setIn (hd.heap_39 P) 467 "there" = true ∧
  attIn (hd.heap_39 P) 467 "back" = true ∧
  setIn (hd.heap_39 P) 467 "back" = true ∧
  attIn (hd.heap_39 P) 467 "line" = true ∧
  setIn (hd.heap_39 P) 467 "line" = true ∧
  methIn (hd.heap_39 P) 242 "pair" 239 = true ∧
  methIn (hd.heap_39 P) 373 "put" 337 = true ∧
  methIn (hd.heap_39 P) 373 "numbers" 358 = true ∧
  methIn (hd.heap_39 P) 373 "told" 370 = true ∧
  methIn (hd.heap_39 P) 467 "meet" 450 = true ∧
  methIn (hd.heap_39 P) 467 "meet_dicts" 457 = true ∧
  methIn (hd.heap_39 P) 467 "meet_references" 464 = true := by
  refine ⟨?_, ?_, ?_, ?_, ?_, ?_, ?_, ?_, ?_, ?_, ?_, ?_, ?_, ?_, ?_, ?_, ?_, ?_, ?_, ?_, ?_, ?_, ?_, ?_⟩ <;> kernel_rfl
theorem se214head (hK : C.K = hd.heap_39 C.w.params) : setIn C.K 214 "head" = true := by rw [hK]; exact (facts4 _).1
theorem at214octets (hK : C.K = hd.heap_39 C.w.params) : attIn C.K 214 "octets" = true := by rw [hK]; exact (facts4 _).2.1
theorem se214octets (hK : C.K = hd.heap_39 C.w.params) : setIn C.K 214 "octets" = true := by rw [hK]; exact (facts4 _).2.2.1
theorem at373table (hK : C.K = hd.heap_39 C.w.params) : attIn C.K 373 "table" = true := by rw [hK]; exact (facts4 _).2.2.2.1
theorem se373table (hK : C.K = hd.heap_39 C.w.params) : setIn C.K 373 "table" = true := by rw [hK]; exact (facts4 _).2.2.2.2.1
theorem at373trailer (hK : C.K = hd.heap_39 C.w.params) : attIn C.K 373 "trailer" = true := by rw [hK]; exact (facts4 _).2.2.2.2.2.1
theorem se373trailer (hK : C.K = hd.heap_39 C.w.params) : setIn C.K 373 "trailer" = true := by rw [hK]; exact (facts4 _).2.2.2.2.2.2.1
theorem at467one (hK : C.K = hd.heap_39 C.w.params) : attIn C.K 467 "one" = true := by rw [hK]; exact (facts4 _).2.2.2.2.2.2.2.1
theorem se467one (hK : C.K = hd.heap_39 C.w.params) : setIn C.K 467 "one" = true := by rw [hK]; exact (facts4 _).2.2.2.2.2.2.2.2.1
theorem at467other (hK : C.K = hd.heap_39 C.w.params) : attIn C.K 467 "other" = true := by rw [hK]; exact (facts4 _).2.2.2.2.2.2.2.2.2.1
theorem se467other (hK : C.K = hd.heap_39 C.w.params) : setIn C.K 467 "other" = true := by rw [hK]; exact (facts4 _).2.2.2.2.2.2.2.2.2.2.1
theorem at467there (hK : C.K = hd.heap_39 C.w.params) : attIn C.K 467 "there" = true := by rw [hK]; exact (facts4 _).2.2.2.2.2.2.2.2.2.2.2.1
theorem se467there (hK : C.K = hd.heap_39 C.w.params) : setIn C.K 467 "there" = true := by rw [hK]; exact (facts4 _).2.2.2.2.2.2.2.2.2.2.2.2.1
theorem at467back (hK : C.K = hd.heap_39 C.w.params) : attIn C.K 467 "back" = true := by rw [hK]; exact (facts4 _).2.2.2.2.2.2.2.2.2.2.2.2.2.1
theorem se467back (hK : C.K = hd.heap_39 C.w.params) : setIn C.K 467 "back" = true := by rw [hK]; exact (facts4 _).2.2.2.2.2.2.2.2.2.2.2.2.2.2.1
theorem at467line (hK : C.K = hd.heap_39 C.w.params) : attIn C.K 467 "line" = true := by rw [hK]; exact (facts4 _).2.2.2.2.2.2.2.2.2.2.2.2.2.2.2.1
theorem se467line (hK : C.K = hd.heap_39 C.w.params) : setIn C.K 467 "line" = true := by rw [hK]; exact (facts4 _).2.2.2.2.2.2.2.2.2.2.2.2.2.2.2.2.1
theorem me242pair (hK : C.K = hd.heap_39 C.w.params) : methIn C.K 242 "pair" 239 = true := by rw [hK]; exact (facts4 _).2.2.2.2.2.2.2.2.2.2.2.2.2.2.2.2.2.1
theorem me373put (hK : C.K = hd.heap_39 C.w.params) : methIn C.K 373 "put" 337 = true := by rw [hK]; exact (facts4 _).2.2.2.2.2.2.2.2.2.2.2.2.2.2.2.2.2.2.1
theorem me373numbers (hK : C.K = hd.heap_39 C.w.params) : methIn C.K 373 "numbers" 358 = true := by rw [hK]; exact (facts4 _).2.2.2.2.2.2.2.2.2.2.2.2.2.2.2.2.2.2.2.1
theorem me373told (hK : C.K = hd.heap_39 C.w.params) : methIn C.K 373 "told" 370 = true := by rw [hK]; exact (facts4 _).2.2.2.2.2.2.2.2.2.2.2.2.2.2.2.2.2.2.2.2.1
theorem me467meet (hK : C.K = hd.heap_39 C.w.params) : methIn C.K 467 "meet" 450 = true := by rw [hK]; exact (facts4 _).2.2.2.2.2.2.2.2.2.2.2.2.2.2.2.2.2.2.2.2.2.1
theorem me467meetdicts (hK : C.K = hd.heap_39 C.w.params) : methIn C.K 467 "meet_dicts" 457 = true := by rw [hK]; exact (facts4 _).2.2.2.2.2.2.2.2.2.2.2.2.2.2.2.2.2.2.2.2.2.2.1
theorem me467meetreferences (hK : C.K = hd.heap_39 C.w.params) : methIn C.K 467 "meet_references" 464 = true := by rw [hK]; exact (facts4 _).2.2.2.2.2.2.2.2.2.2.2.2.2.2.2.2.2.2.2.2.2.2.2
theorem facts5 (P : Params) : clsOk (hd.heap_39 P) 171 168 = true ∧
  clsOk (hd.heap_39 P) 214 211 = true ∧
  clsOk (hd.heap_39 P) 242 232 = true ∧
  clsOk (hd.heap_39 P) 373 302 = true ∧
  clsOk (hd.heap_39 P) 467 443 = true ∧
  ownIsi (hd.heap_39 P) 171 = true ∧
  ownIsi (hd.heap_39 P) 214 = true ∧
  ownIsi (hd.heap_39 P) 242 = true := by
  refine ⟨?_, ?_, ?_, ?_, ?_, ?_, ?_, ?_⟩ <;> kernel_rfl
theorem cl171 (hK : C.K = hd.heap_39 C.w.params) : clsOk C.K 171 168 = true := by rw [hK]; exact (facts5 _).1
theorem cl214 (hK : C.K = hd.heap_39 C.w.params) : clsOk C.K 214 211 = true := by rw [hK]; exact (facts5 _).2.1
theorem cl242 (hK : C.K = hd.heap_39 C.w.params) : clsOk C.K 242 232 = true := by rw [hK]; exact (facts5 _).2.2.1
theorem cl373 (hK : C.K = hd.heap_39 C.w.params) : clsOk C.K 373 302 = true := by rw [hK]; exact (facts5 _).2.2.2.1
theorem cl467 (hK : C.K = hd.heap_39 C.w.params) : clsOk C.K 467 443 = true := by rw [hK]; exact (facts5 _).2.2.2.2.1
theorem oi171 (hK : C.K = hd.heap_39 C.w.params) : ownIsi C.K 171 = true := by rw [hK]; exact (facts5 _).2.2.2.2.2.1
theorem oi214 (hK : C.K = hd.heap_39 C.w.params) : ownIsi C.K 214 = true := by rw [hK]; exact (facts5 _).2.2.2.2.2.2.1
theorem oi242 (hK : C.K = hd.heap_39 C.w.params) : ownIsi C.K 242 = true := by rw [hK]; exact (facts5 _).2.2.2.2.2.2.2
end
section
open PySem PySem.W PySem.Calls PyProof.Rows
variable {C : Cx}
noncomputable def tyN : Fin 7 → Value := fun i => #[Value.type "NoneType", Value.type "int", Value.ref 171, Value.ref 242, Value.type "list", Value.type "dict", Value.ref 214][i]
noncomputable def clN : Fin 9 → Value := fun i => #[Value.type "bool", Value.type "int", Value.ref 143, Value.ref 171, Value.ref 193, Value.type "list", Value.type "dict", Value.ref 214, Value.ref 242][i]
noncomputable def isB : Fin 7 → Fin 9 → Bool := fun i j => [100, 1, 3, 8, 5, 6, 7].getD i.val 0 == j.val
theorem isiT_all (P : Params) : ((List.finRange 7).all fun i => (List.finRange 9).all fun j => kitOne (hd.heap_39 P) (tyN i) (clN j) == some (isB i j)) = true := by kernel_rfl
theorem isiT (hK : C.K = hd.heap_39 C.w.params) (i : Fin 7) (j : Fin 9) : kitOne C.K (tyN i) (clN j) = some (isB i j) := by
  rw [hK]
  exact eq_of_beq (List.all_eq_true.mp (List.all_eq_true.mp (isiT_all _) i (List.mem_finRange i)) j (List.mem_finRange j))
theorem CallV.isiE (hK : C.K = hd.heap_39 C.w.params) {n : Nat} {μ : Mu} {v : Val} {cv : V} {j : Fin 9} {Φ : V → Mu → Prop} (hc : clV cv = some (clN j)) (h : Φ (.bool (isB (tagN v) j)) μ) : CallV C n (.builtin "isinstance") [enc v, cv] Φ μ := by
  have ht : tyV (enc v) = some (tyN (tagN v)) := by cases v <;> rfl
  refine CallV.isi ht hc ?_ (isiT hK _ _) h
  cases v with
  | name => exact oi171 hK
  | ref => exact oi242 hK
  | stm => exact oi214 hK
  | _ => rfl
end
section
open PySem PySem.W PySem.Calls PyProof.Rows
section
variable {C : Cx} {n : Nat} {env : Env} {l : Loc} {μ : Mu}
noncomputable abbrev kW2 (Φ : List V → Mu → Prop) (v : V) : List V → Mu → Prop := fun vs μ2 => Φ (v :: vs) μ2
noncomputable abbrev kW1 (C : Cx) (n : Nat) (env : Env) (Φ : List V → Mu → Prop) (l : Loc) (r : List Expr) : V → Mu → Prop := fun v μ1 => Wes C n env (kW2 Φ v) l r μ1
noncomputable abbrev kWl (C : Cx) (n : Nat) (env : Env) (Φ : Loc → Mu → Prop) (ts : List Expr) (vs : List V) : Loc → Mu → Prop := fun l' μ' => WaL C n env Φ ts vs l' μ'
noncomputable abbrev kAll (C : Cx) (n : Nat) (env : Env) (op : BoolOp) (Φ : Bool → Mu → Prop) (l : Loc) (r : List Expr) : Bool → Mu → Prop := fun b μ' => match op, b with
    | .And, false => Φ false μ'
    | .Or, true => Φ true μ'
    | _, _ => Wall C n env op Φ l r μ'
noncomputable abbrev kFin (Φ : V → Mu → Prop) : Fl → Loc → Mu → Prop := fun fl _ μ' => Φ (retV fl) μ'
theorem Wes.cons' {Φ : List V → Mu → Prop} {e : Expr} {r : List Expr} (h : We C n env e (kW1 C n env Φ l r) l μ) : Wes C n env Φ l (e :: r) μ := h
theorem Wes.nil' {Φ : List V → Mu → Prop} (h : Φ [] μ) : Wes C n env Φ l [] μ := h
theorem WaL.cons' {Φ : Loc → Mu → Prop} {t : Expr} {ts : List Expr} {v : V} {vs : List V} (h : Wa C n env t v (kWl C n env Φ ts vs) l μ) : WaL C n env Φ (t :: ts) (v :: vs) l μ := h
theorem WaL.nil' {Φ : Loc → Mu → Prop} (h : Φ l μ) : WaL C n env Φ [] [] l μ := h
theorem Wall.cons' {op : BoolOp} {Φ : Bool → Mu → Prop} {e : Expr} {r : List Expr} (h : Wt C n env e (kAll C n env op Φ l r) l μ) : Wall C n env op Φ l (e :: r) μ := h
theorem bind1 {P : List Value → Prop} (h : ∀ a, P [a]) : ∀ vs : List Value, vs.length = 1 → P vs
  | [a], _ => h a
theorem bind2 {P : List Value → Prop} (h : ∀ a b, P [a, b]) : ∀ vs : List Value, vs.length = 2 → P vs
  | a :: vs, e => bind1 (P := fun vs => P (a :: vs)) (h a) vs (Nat.succ.inj e)
theorem bind3 {P : List Value → Prop} (h : ∀ a b c, P [a, b, c]) : ∀ vs : List Value, vs.length = 3 → P vs
  | a :: vs, e => bind2 (P := fun vs => P (a :: vs)) (h a) vs (Nat.succ.inj e)
theorem bind4 {P : List Value → Prop} (h : ∀ a b c d, P [a, b, c, d]) : ∀ vs : List Value, vs.length = 4 → P vs
  | a :: vs, e => bind3 (P := fun vs => P (a :: vs)) (h a) vs (Nat.succ.inj e)
theorem nil_or_snoc {α : Type} (l : List α) : l = [] ∨ ∃ r x, l = r ++ [x] := by
  rcases List.eq_nil_or_concat l with h | ⟨r, x, h⟩
  · exact .inl h
  · exact .inr ⟨r, x, by rw [h, List.concat_eq_append]⟩
theorem lb {a b : Nat} (h : Nat.ble a b = true) : a ≤ b := Nat.le_of_ble_eq_true h
theorem We.nl {C : Cx} {n : Nat} {env : Env} {l : Loc} {μ : Mu} {x : Str} {p : Pos} {v : V} {Φ : V → Mu → Prop} (hx : l.lookup x = some v) (hk : env.kindOf x = some .local) (h : Φ v μ) (hd : (x == ("__debug__" : Str)) = false := by decide) : We C n env (.Name x p) Φ l μ := We.name hx (.inl hk) h hd
theorem We.nc {C : Cx} {n : Nat} {env : Env} {l : Loc} {μ : Mu} {x : Str} {p : Pos} {v : V} {Φ : V → Mu → Prop} (hx : l.lookup x = some v) (hk : env.kindOf x = some .cell) (h : Φ v μ) (hd : (x == ("__debug__" : Str)) = false := by decide) : We C n env (.Name x p) Φ l μ := We.name hx (.inr hk) h hd
theorem Wa.nl {C : Cx} {n : Nat} {env : Env} {l : Loc} {μ : Mu} {x : Str} {p : Pos} {v : V} {Φ : Loc → Mu → Prop} (hk : env.kindOf x = some .local) (h : Φ ((x, v) :: l) μ) : Wa C n env (.Name x p) v Φ l μ := Wa.name (.inl hk) h
theorem Wa.nc {C : Cx} {n : Nat} {env : Env} {l : Loc} {μ : Mu} {x : Str} {p : Pos} {v : V} {Φ : Loc → Mu → Prop} (hk : env.kindOf x = some .cell) (h : Φ ((x, v) :: l) μ) : Wa C n env (.Name x p) v Φ l μ := Wa.name (.inr hk) h
theorem ite_t {c : Bool} {A B : Prop} (h : c = true) (x : A) : if c = true then A else B := by rw [if_pos h]; exact x
theorem ite_f {c : Bool} {A B : Prop} (h : c = false) (x : B) : if c = true then A else B := by rw [if_neg (by rw [h]; decide)]; exact x
theorem CallV.defK {C : Cx} {K : Frag} {n m : Nat} {f : Addr} {o : Obj} {fd : FuncData} {body : List Stmt} {names : List Str} {args : List V} {Φ : V → Mu → Prop} {μ : Mu} (e : C.K = K)
    (hK : K.lookup f = some o) (hd : o.data = .func fd) (hb : fd.body = .stmts body) (ok : defOk K fd names = true)
    (hbind : ∀ vs, vs.length = args.length → bindArgs fd ⟨vs, []⟩ = pure (names.zip vs)) (hn : m + 1 ≤ n)
    (h : ∀ L, Ws C m (callEnvC fd L f) body (kFin Φ) (names.zip args) μ) : CallV C n (.ref f) args Φ μ :=
  (CallV.def0 (by rw [e]; exact hK) hd hb (by rw [e]; exact ok) hbind h).le hn
end
noncomputable def encT (tab : List (Int × Int × Val)) : List (Int × V) := tab.map fun r => (r.1, .tup [.int r.2.1, enc r.2.2])
noncomputable def encS (S : Shf) : V := .inst aShelf [(Str.ofString "table", .dI (encT S.tab)), (Str.ofString "trailer", .dS (enck S.tr))]
theorem lk_encT {tab : List (Int × Int × Val)} {k : Int} : lk (encT tab) k = (tab.lookup k).map fun r => V.tup [.int r.1, enc r.2] := by
  unfold encT
  induction tab with
  | nil => rfl
  | cons p r ih =>
    rw [List.map_cons, lk_cons]
    by_cases h : p.1 = k
    · rw [if_pos h]; subst h; simp [List.lookup]
    · rw [if_neg h, ih]; have : (k == p.1) = false := by simpa using fun e => h e.symm
      simp [List.lookup, this]
theorem lk_enck {kvs : List (Str × Val)} {k : Str} : lk (enck kvs) k = (kvs.lookup k).map enc := by
  rw [enck_eq]
  induction kvs with
  | nil => rfl
  | cons p r ih =>
    rw [List.map_cons, lk_cons]
    by_cases h : p.1 = k
    · rw [if_pos h]; subst h; simp [List.lookup]
    · rw [if_neg h, ih]; have : (k == p.1) = false := by simpa using fun e => h e.symm
      simp [List.lookup, this]
noncomputable def kindS : Val → Str
  | .nul => Str.ofString "null"
  | .int _ => Str.ofString "int"
  | .name _ => Str.ofString "name"
  | .ref _ => Str.ofString "ref"
  | .arr _ => Str.ofString "array"
  | .dict _ => Str.ofString "dict"
  | .stm _ _ => Str.ofString "stream"
end
section
open PySem PySem.W PySem.Calls PyProof.Rows
section
variable {C : Cx} {n : Nat} {env : Env} {l : Loc} {μ : Mu}
theorem CompL.map {β : Type} {cenv : Env} {x : Str} {elt : Expr} {lf : Loc} {Φ : List V → Mu → Prop} {ok : Mu → Prop} {e f : β → V} {xs : List β} {acc : List V} (hok : ok μ)
    (h : ∀ b ∈ xs, ∀ Ψ : V → Mu → Prop, Ψ (f b) μ → We C n cenv elt Ψ ((x, e b) :: lf) μ) (hΦ : Φ (acc ++ xs.map f) μ) : CompL C n cenv x [] elt lf Φ ok (xs.map e) acc μ := by
  induction xs generalizing acc with
  | nil => exact ⟨hok, by simpa using hΦ⟩
  | cons b r ih =>
    exact ⟨hok, h b (.head _) _ (ih (fun b hb => h b (.tail _ hb)) (by simpa using hΦ))⟩
theorem CompL.filt {β : Type} {cenv : Env} {x : Str} {elt c : Expr} {lf : Loc} {Φ : List V → Mu → Prop} {ok : Mu → Prop} {e f : β → V} {p : β → Bool} {xs : List β} {acc : List V} (hok : ok μ)
    (ht : ∀ b ∈ xs, ∀ Ψ : Bool → Mu → Prop, Ψ (p b) μ → Wt C n cenv c Ψ ((x, e b) :: lf) μ)
    (h : ∀ b ∈ xs, p b = true → ∀ Ψ : V → Mu → Prop, Ψ (f b) μ → We C n cenv elt Ψ ((x, e b) :: lf) μ) (hΦ : Φ (acc ++ (xs.filter p).map f) μ) : CompL C n cenv x [c] elt lf Φ ok (xs.map e) acc μ := by
  induction xs generalizing acc with
  | nil => exact ⟨hok, by simpa using hΦ⟩
  | cons b r ih =>
    refine ⟨hok, ht b (.head _) _ ?_⟩
    cases hp : p b with
    | false =>
      refine ite_f rfl (ih (fun b hb => ht b (.tail _ hb)) (fun b hb => h b (.tail _ hb)) ?_)
      rw [List.filter_cons, if_neg (by simp [hp])] at hΦ; exact hΦ
    | true =>
      refine ite_t rfl (h b (.head _) hp _ (ih (fun b hb => ht b (.tail _ hb)) (fun b hb => h b (.tail _ hb)) ?_))
      rw [List.filter_cons, if_pos hp] at hΦ; simpa using hΦ
end
theorem toldk_get {kvs : List (Str × Val)} (hn : (kvs.map (·.1)).Nodup) : ((sortK (toldk kvs)).map fun p => V.tup [.str p.1, p.2]) = ((sortS (kvs.map (·.1))).filter fun k => !(getK kvs k).isNul).map fun k => V.tup [.str k, told (getK kvs k)] := by
  rw [toldk_eq, sortK_map, sortK_filter hn, sortK_get hn, List.filter_map, List.map_map, List.map_map]; rfl
theorem lk_getK {kvs : List (Str × Val)} {k : Str} (h : k ∈ kvs.map (·.1)) : lk (enck kvs) k = some (enc (getK kvs k)) := by
  rw [lk_enck]
  obtain ⟨x, hx⟩ := getK_mem h
  cases e : kvs.lookup k with
  | none =>
    exfalso
    clear hx
    induction kvs with
    | nil => cases h
    | cons p r ih =>
      obtain ⟨m, s⟩ := p
      by_cases q : k = m
      · subst q; simp [List.lookup] at e
      · have : (k == m) = false := by simpa using q
        simp only [List.lookup, this] at e
        rcases List.mem_cons.mp h with h | h
        · exact q h
        · exact ih h e
  | some y => unfold getK; rw [e]; rfl
theorem enck_keys {kvs : List (Str × Val)} : (enck kvs).map (·.1) = kvs.map (·.1) := by rw [enck_eq, mapk_keys]
theorem enck_len {kvs : List (Str × Val)} : (enck kvs).length = kvs.length := by rw [enck_eq, List.length_map]
theorem enc_none {v : Val} : (enc v).isNone = v.isNul := by cases v <;> rfl
theorem encT_len {tab : List (Int × Int × Val)} : (encT tab).length = tab.length := by unfold encT; rw [List.length_map]
theorem encT_keys {tab : List (Int × Int × Val)} : (encT tab).map (·.1) = tab.map (·.1) := by unfold encT; rw [List.map_map]; rfl
end
section
open PySem PySem.W PySem.Calls PyProof.Rows
noncomputable def Sub (l' l : Loc) : Prop := ∀ x v, l'.lookup x = some v → l.lookup x = some v
theorem Sub.nil {l : Loc} : Sub [] l := fun x v h => by simp at h
theorem Sub.cons {l r : Loc} {x : Str} {v : V} (h : l.lookup x = some v) (k : Sub r l) : Sub ((x, v) :: r) l := fun y u e => by
  by_cases q : y = x
  · subst q; rw [lookup_cons_self] at e; cases e; exact h
  · rw [lookup_cons_ne q] at e; exact k y u e
section
variable {C : Cx} {n : Nat} {env : Env} {l l' : Loc} {μ : Mu}
theorem Frm.sub {Z ρ : Fz} (F : Frm C env l Z ρ) (h : Sub l' l) : Frm C env l' Z ρ :=
  ⟨F.kind, F.glob, F.blt, let ⟨o, es, n, a, b, c, d⟩ := F.ns; ⟨o, es, n, a, b, c, fun x v e k => d x v (h x v e) k⟩, fun x v e k => F.cl x v (h x v e) k, F.cells, F.apart, F.cellAt⟩
theorem Ws.weak {sts : List Stmt} {Φ : Fl → Loc → Mu → Prop} (h : Sub l' l) (k : Ws C n env sts Φ l' μ) : Ws C n env sts Φ l μ := fun A hA Z ρ F => k A hA Z ρ (F.sub h)
theorem Wa.weak {t : Expr} {v : V} {Φ : Loc → Mu → Prop} (h : Sub l' l) (k : Wa C n env t v Φ l' μ) : Wa C n env t v Φ l μ := fun A hA Z ρ v' r F => k A hA Z ρ v' r (F.sub h)
noncomputable abbrev kWb2 {β : Type} (L : β → Loc) (M : β → Mu → Prop) (k : β → Nat) (Φ : Fl → Loc → Mu → Prop) (b : β) : Fl → Loc → Mu → Prop := fun f l2 μ2 => match f with
      | .next | .cont => ∃ b', k b' < k b ∧ Sub (L b') l2 ∧ M b' μ2
      | .brk => Φ .next l2 μ2
      | .ret v => Φ (.ret v) l2 μ2
noncomputable abbrev kWb1 {β : Type} (C : Cx) (n : Nat) (env : Env) (body : List Stmt) (L : β → Loc) (M : β → Mu → Prop) (k : β → Nat) (Φ : Fl → Loc → Mu → Prop) (b : β) : Bool → Mu → Prop := fun t μ' => if t then Ws C n env body (kWb2 L M k Φ b) (L b) μ' else Φ .next (L b) μ'
noncomputable abbrev kFb2 {β γ : Type} (L : β → Loc) (M : β → List γ → Mu → Prop) (Φ : Fl → Loc → Mu → Prop) (r : List γ) : Fl → Loc → Mu → Prop := fun f l2 μ2 => match f with
      | .next | .cont => ∃ b', Sub (L b') l2 ∧ M b' r μ2
      | .brk => Φ .next l2 μ2
      | .ret v => Φ (.ret v) l2 μ2
noncomputable abbrev kFb1 {β γ : Type} (C : Cx) (n : Nat) (env : Env) (body : List Stmt) (L : β → Loc) (M : β → List γ → Mu → Prop) (Φ : Fl → Loc → Mu → Prop) (r : List γ) : Loc → Mu → Prop := fun l1 μ1 => Ws C n env body (kFb2 L M Φ r) l1 μ1
theorem Wx.whileB {β : Type} {test : Expr} {body : List Stmt} {pos : Pos} {Φ : Fl → Loc → Mu → Prop} (L : β → Loc) (M : β → Mu → Prop) (k : β → Nat)
    (turn : ∀ b μ, M b μ → Wt C n env test (kWb1 C n env body L M k Φ b) (L b) μ)
    (b : β) (h0 : Sub (L b) l) (h : M b μ) : Wx C n env (.While test body [] pos) Φ l μ := by
  intro A hA Z ρ F s R
  have F := F.sub h0
  clear h0
  refine wpAny_While (codeAny_whileLoop (fun j s => ∃ (σ : St) (b : β), j = k b ∧ Rel C σ.Z σ.μ σ.ρ s ∧ ext Z σ.Z ∧ Frm C env (L b) σ.Z σ.ρ ∧ off env ρ σ.ρ ∧ M b σ.μ) (fun j s ⟨σ, b, hj, R, x, F, o, hI⟩ => ?_) (k b) ⟨⟨Z, μ, ρ⟩, b, rfl, R, ext.rfl, F, off.rfl, h⟩)
  subst hj
  refine (turn b σ.μ hI A hA σ.Z σ.ρ F).use R fun t s1 σ1 R1 x1 ⟨e1, p⟩ => ?_
  have F1 := F.mono x1
  rw [← e1] at F1
  cases t with
  | false => exact wpAny_execs_nil ⟨σ1, R1, x.trans x1, .next, L b, .next, F1, e1 ▸ o, p⟩
  | true =>
    refine (p A hA _ _ F1).use R1 fun f s2 σ2 R2 x2 ⟨f', l2, r, F2, o2, q⟩ => ?_
    have xx : ext Z σ2.Z := (x.trans x1).trans x2
    have oo : off env ρ σ2.ρ := o.trans (e1 ▸ o2)
    cases r with
    | next => obtain ⟨b', hm, hs, q⟩ := q; exact ⟨k b', hm, σ2, b', rfl, R2, xx, F2.sub hs, oo, q⟩
    | cont => obtain ⟨b', hm, hs, q⟩ := q; exact ⟨k b', hm, σ2, b', rfl, R2, xx, F2.sub hs, oo, q⟩
    | brk => exact ⟨σ2, R2, xx, .next, l2, .next, F2, oo, q⟩
    | ret r => exact ⟨σ2, R2, xx, .ret _, l2, .ret r, F2, oo, q⟩
theorem ForL.invB {β γ : Type} {target : Expr} {body : List Stmt} {Φ : Fl → Loc → Mu → Prop} {okm : Mu → Prop} {e : γ → V} (L : β → Loc) (M : β → List γ → Mu → Prop) {xs : List γ}
    (hok : ∀ b r μ, M b r μ → okm μ)
    (turn : ∀ b c r μ, M b (c :: r) μ → Wa C n env target (e c) (kFb1 C n env body L M Φ r) (L b) μ)
    (fin : ∀ b l2 μ, Sub (L b) l2 → M b [] μ → Φ .next l2 μ) (b : β) (h0 : Sub (L b) l) (h : M b xs μ) : ForL C n env target body Φ okm (xs.map e) l μ := by
  induction xs generalizing l μ b with
  | nil => exact ⟨hok _ _ _ h, fin b l μ h0 h⟩
  | cons c r ih =>
    refine ⟨hok _ _ _ h, Wa.weak h0 ?_⟩
    intro A hA Z ρ v' r' F
    refine (turn b c r μ h A hA Z ρ v' r' F).mono fun _ σ' x ⟨l', F', o', q⟩ => ⟨l', F', o', q.mono fun f l2 μ2 q2 => ?_⟩
    cases f with
    | next => obtain ⟨b', h1, h2⟩ := q2; exact ih b' h1 h2
    | cont => obtain ⟨b', h1, h2⟩ := q2; exact ih b' h1 h2
    | brk => exact q2
    | ret v => exact q2
theorem Gh.fin {μ' : Mu} {f : Addr} {c : Cell} {v : V} (hf : μ' f = some c) (hc : Froz c v) (h : ∀ a c, μ a = some c → a ≠ f ∧ μ' a = some c) : Gh C (.ref f) μ' v μ :=
  (Gh.cell hf hc).trans (Gh.drop fun a c e => by obtain ⟨h1, h2⟩ := h a c e; rw [fup_ne _ _ h1]; exact h2)
theorem CallV.fin {f : Value} {args : List V} {Φ : V → Mu → Prop} {c : Cell} {v : V} (hc : Froz c v) (hΦ : Φ v μ)
    (h : CallV C n f args (fun r μ' => ∃ a, r = .ref a ∧ μ' a = some c ∧ ∀ b c, μ b = some c → b ≠ a ∧ μ' b = some c) μ) : CallV C n f args Φ μ :=
  h.ghost fun r μ' ⟨a, e, h1, h2⟩ => ⟨v, μ, e ▸ Gh.fin h1 hc h2, hΦ⟩
theorem CallV.drop {f : Value} {args : List V} {Φ : V → Mu → Prop} (h : CallV C n f args (fun r μ' => Φ r μ ∧ ∀ b c, μ b = some c → μ' b = some c) μ) : CallV C n f args Φ μ :=
  h.ghost fun r μ' ⟨q, h2⟩ => ⟨r, μ, Gh.drop h2, q⟩
end
end
section
open PySem PySem.W PySem.Calls PyProof.Rows
theorem c_is_there {C : Cx} (hK : C.K = hd.heap_39 C.w.params) {n : Nat} {S : Shf} {p : PP} {Φ : V → Mu → Prop} {μ : Mu} (hn : 1 ≤ n) (h : Φ (.bool (there S p)) μ) : CallV C n (.ref 390) [encS S, pairV p] Φ μ := by
  refine' CallV.defK (m := 0) (names := ["shelf", "pair"]) hK ?h1 ?h2 ?h3 ?h4 ?h5 hn ?h6
  case h1 => with_unfolding_all rfl
  case h2 => rfl
  case h3 => rfl
  case h4 => with_unfolding_all rfl
  case h5 => exact bind2 fun _ _ => (by with_unfolding_all rfl)
  case h6 =>
    intro L
    unfold pairV encS
    refine Ws.cons <| Wx.assign <| We.nl rfl rfl <| Wa.tuple rfl rfl <| WaL.cons' <| Wa.nl rfl <| WaL.cons' <| Wa.nl rfl <| WaL.nil' <| Ws.cons <| Wx.ret <| We.and2 <| We.cmp <| We.nl rfl rfl <| We.attr <| We.nl rfl rfl <| AttV.inst (at373table hK) rfl <| CmpV.inI SeeI.z <| TruV.bool ?_
    rw [lk_encT]
    unfold there at h
    cases e : S.tab.lookup p.1 with
    | none =>
      rw [e] at h
      exact h
    | some r =>
      rw [e] at h
      refine ite_t rfl ?_
      refine We.cmp <| We.sub <| We.sub <| We.attr <| We.nl rfl rfl <| AttV.inst (at373table hK) rfl <| We.nl rfl rfl ?_
      refine SubV.dI SeeI.z (x := .tup [.int r.1, enc r.2]) (by rw [lk_encT, e]; rfl) ?_
      refine We.int <| SubV.tup (by decide) rfl (by decide) <| We.nl rfl rfl <| CmpV.eqI ?_
      exact h
theorem c_pair {C : Cx} (hK : C.K = hd.heap_39 C.w.params) {n : Nat} {p : PP} {Φ : V → Mu → Prop} {μ : Mu} (hn : 1 ≤ n) (h : Φ (pairV p) μ) : CallV C n (.ref 239) [enc (.ref p)] Φ μ := by
  refine' CallV.defK (m := 0) (names := ["self"]) hK ?h1 ?h2 ?h3 ?h4 ?h5 hn ?h6
  case h1 => with_unfolding_all rfl
  case h2 => rfl
  case h3 => rfl
  case h4 => with_unfolding_all rfl
  case h5 => exact bind1 fun _ => (by with_unfolding_all rfl)
  case h6 =>
    intro L
    show Ws _ _ _ _ _ ([Str.ofString "self"].zip [V.inst aRef [(Str.ofString "number", .int p.1), (Str.ofString "generation", .int p.2)]]) _
    refine Ws.cons <| Wx.ret <| We.tuple <| Wes.cons' <| We.attr <| We.nl rfl rfl <| AttV.inst (at242number hK) rfl <| Wes.cons' <| We.attr <| We.nl rfl rfl <| AttV.inst (at242generation hK) rfl <| Wes.nil' ⟨lb rfl, ?_⟩
    exact h
noncomputable def kindT : Fin 7 → Str := fun i => match i with
  | 0 => Str.ofString "null"
  | 1 => Str.ofString "int"
  | 2 => Str.ofString "name"
  | 3 => Str.ofString "ref"
  | 4 => Str.ofString "array"
  | 5 => Str.ofString "dict"
  | 6 => Str.ofString "stream"
noncomputable def kindJ : Fin 9 → Str := fun j => match j with
  | 1 => Str.ofString "int"
  | 3 => Str.ofString "name"
  | 8 => Str.ofString "ref"
  | 5 => Str.ofString "array"
  | 6 => Str.ofString "dict"
  | 7 => Str.ofString "stream"
  | 0 => Str.ofString "truth"
  | 2 => Str.ofString "real"
  | 4 => Str.ofString "string"
theorem kind_tag (v : Val) : kindS v = kindT (tagN v) := by cases v <;> rfl
theorem isB_kindT : ∀ (i : Fin 7) (j : Fin 9), isB i j = true → kindT i = kindJ j := by decide +kernel
theorem isB_kind {v : Val} {j : Fin 9} (h : isB (tagN v) j = true) : kindS v = kindJ j := (kind_tag v).trans (isB_kindT _ _ h)
theorem isB_some : ∀ i : Fin 7, i = 0 ∨ ∃ j : Fin 9, isB i j = true := by decide +kernel
theorem ite_c {c : Bool} {A B : Prop} (x : c = true → A) (y : c = false → B) : if c = true then A else B := by
  cases c with
  | true => exact x rfl
  | false => exact y rfl
theorem c_kind_of {C : Cx} (hK : C.K = hd.heap_39 C.w.params) {n : Nat} {v : Val} {Φ : V → Mu → Prop} {μ : Mu} (hn : 1 ≤ n) (h : Φ (.str (kindS v)) μ) : CallV C n (.ref 253) [enc v] Φ μ := by
  refine' CallV.defK (m := 0) (names := ["value"]) hK ?h1 ?h2 ?h3 ?h4 ?h5 hn ?h6
  case h1 => with_unfolding_all rfl
  case h2 => rfl
  case h3 => rfl
  case h4 => with_unfolding_all rfl
  case h5 => exact bind1 fun _ => (by with_unfolding_all rfl)
  case h6 =>
    intro L
    have hΦ : ∀ j, isB (tagN v) j = true → Φ (.str (kindJ j)) μ := fun j e => isB_kind e ▸ h
    refine Ws.cons <| Wx.ite <| Wt.cmp <| We.nl rfl rfl <| We.none <| CmpV.isNone <| ⟨_, rfl, ite_c (fun e => ?_) fun e => ?_⟩
    · have e2 : v = .nul := by cases v <;> first | rfl | cases e
      subst e2
      exact Ws.cons <| Wx.ret <| We.str h
    · refine Ws.nil ?_
      refine Ws.cons <| Wx.ite <| Wt.val <| We.call rfl (glisinstance hK) Callee.builtin <| Wes.cons' <| We.nl rfl rfl <| Wes.cons' <| We.globT rfl (glbool hK) <| Wes.nil' <| CallV.isiE (j := 0) hK rfl <| TruV.bool <| ite_c (fun e => Ws.cons <| Wx.ret <| We.str <| hΦ 0 e) fun n0 => Ws.nil ?_
      refine Ws.cons <| Wx.ite <| Wt.val <| We.call rfl (glisinstance hK) Callee.builtin <| Wes.cons' <| We.nl rfl rfl <| Wes.cons' <| We.globT rfl (glint hK) <| Wes.nil' <| CallV.isiE (j := 1) hK rfl <| TruV.bool <| ite_c (fun e => Ws.cons <| Wx.ret <| We.str <| hΦ 1 e) fun n1 => Ws.nil ?_
      refine Ws.cons <| Wx.ite <| Wt.val <| We.call rfl (glisinstance hK) Callee.builtin <| Wes.cons' <| We.nl rfl rfl <| Wes.cons' <| We.globR rfl (glDecimal hK) <| Wes.nil' <| CallV.isiE (j := 2) hK rfl <| TruV.bool <| ite_c (fun e => Ws.cons <| Wx.ret <| We.str <| hΦ 2 e) fun n2 => Ws.nil ?_
      refine Ws.cons <| Wx.ite <| Wt.val <| We.call rfl (glisinstance hK) Callee.builtin <| Wes.cons' <| We.nl rfl rfl <| Wes.cons' <| We.globR rfl (glName hK) <| Wes.nil' <| CallV.isiE (j := 3) hK rfl <| TruV.bool <| ite_c (fun e => Ws.cons <| Wx.ret <| We.str <| hΦ 3 e) fun n3 => Ws.nil ?_
      refine Ws.cons <| Wx.ite <| Wt.val <| We.call rfl (glisinstance hK) Callee.builtin <| Wes.cons' <| We.nl rfl rfl <| Wes.cons' <| We.globR rfl (glString hK) <| Wes.nil' <| CallV.isiE (j := 4) hK rfl <| TruV.bool <| ite_c (fun e => Ws.cons <| Wx.ret <| We.str <| hΦ 4 e) fun n4 => Ws.nil ?_
      refine Ws.cons <| Wx.ite <| Wt.val <| We.call rfl (glisinstance hK) Callee.builtin <| Wes.cons' <| We.nl rfl rfl <| Wes.cons' <| We.globT rfl (gllist hK) <| Wes.nil' <| CallV.isiE (j := 5) hK rfl <| TruV.bool <| ite_c (fun e => Ws.cons <| Wx.ret <| We.str <| hΦ 5 e) fun n5 => Ws.nil ?_
      refine Ws.cons <| Wx.ite <| Wt.val <| We.call rfl (glisinstance hK) Callee.builtin <| Wes.cons' <| We.nl rfl rfl <| Wes.cons' <| We.globT rfl (gldict hK) <| Wes.nil' <| CallV.isiE (j := 6) hK rfl <| TruV.bool <| ite_c (fun e => Ws.cons <| Wx.ret <| We.str <| hΦ 6 e) fun n6 => Ws.nil ?_
      refine Ws.cons <| Wx.ite <| Wt.val <| We.call rfl (glisinstance hK) Callee.builtin <| Wes.cons' <| We.nl rfl rfl <| Wes.cons' <| We.globR rfl (glStream hK) <| Wes.nil' <| CallV.isiE (j := 7) hK rfl <| TruV.bool <| ite_c (fun e => Ws.cons <| Wx.ret <| We.str <| hΦ 7 e) fun n7 => Ws.nil ?_
      refine Ws.cons <| Wx.ite <| Wt.val <| We.call rfl (glisinstance hK) Callee.builtin <| Wes.cons' <| We.nl rfl rfl <| Wes.cons' <| We.globR rfl (glReference hK) <| Wes.nil' <| CallV.isiE (j := 8) hK rfl <| TruV.bool <| ite_c (fun e => Ws.cons <| Wx.ret <| We.str <| hΦ 8 e) fun n8 => Ws.nil ?_
      have hz := isB_some (tagN v)
      rcases hz with hz | ⟨j, hj⟩
      · cases v <;> first | (cases e; done) | (simp [tagN] at hz)
      · exfalso
        have hall : ∀ j : Fin 9, isB (tagN v) j = false := fun j => match j with
          | 0 => n0
          | 1 => n1
          | 2 => n2
          | 3 => n3
          | 4 => n4
          | 5 => n5
          | 6 => n6
          | 7 => n7
          | 8 => n8
        rw [hall j] at hj
        cases hj
end
section
open PySem PySem.W PySem.Calls PyProof.Rows
theorem c_told_plain {C : Cx} (hK : C.K = hd.heap_39 C.w.params) {n : Nat} {v : Val} {Φ : V → Mu → Prop} {μ : Mu} (hn : 1 ≤ n) (hv : 2 ≤ 3 ∧ (∀ xs, v ≠ .arr xs) ∧ (∀ xs, v ≠ .dict xs) ∧ ∀ xs b, v ≠ .stm xs b) (h : Φ (told v) μ) : CallV C n (.ref 260) [.str (kindS v), enc v] Φ μ := by
  refine' CallV.defK (m := 0) (names := ["kind", "value"]) hK ?h1 ?h2 ?h3 ?h4 ?h5 (by omega) ?h6
  case h1 => with_unfolding_all rfl
  case h2 => rfl
  case h3 => rfl
  case h4 => with_unfolding_all rfl
  case h5 => exact bind2 fun _ _ => (by with_unfolding_all rfl)
  case h6 =>
    intro L
    cases v with
    | arr xs => exact absurd rfl (hv.2.1 xs)
    | dict xs => exact absurd rfl (hv.2.2.1 xs)
    | stm xs b => exact absurd rfl (hv.2.2.2 xs b)
    | nul => refine Ws.cons <| Wx.ite <| Wt.cmp <| We.nl rfl rfl <| We.str <| CmpV.eqS ⟨_, rfl, ite_t rfl <| Ws.cons <| Wx.ret <| We.tuple <| Wes.cons' <| We.str <| Wes.nil' ⟨lb rfl, ?_⟩⟩
             exact h
    | int => refine Ws.cons <| Wx.ite <| Wt.cmp <| We.nl rfl rfl <| We.str <| CmpV.eqS ⟨_, rfl, ite_f rfl <| Ws.nil <| Ws.cons <| Wx.ite <| Wt.cmp <| We.nl rfl rfl <| We.str <| CmpV.eqS ⟨_, rfl, ite_f rfl <| Ws.nil <| Ws.cons <| Wx.ite <| Wt.cmp <| We.nl rfl rfl <| We.str <| CmpV.eqS ⟨_, rfl, ite_t rfl <| Ws.cons <| Wx.ret <| We.tuple <| Wes.cons' <| We.str <| Wes.cons' <| We.nl rfl rfl <| Wes.nil' ⟨lb rfl, ?_⟩⟩⟩⟩
             exact h
    | name => refine Ws.cons <| Wx.ite <| Wt.cmp <| We.nl rfl rfl <| We.str <| CmpV.eqS ⟨_, rfl, ite_f rfl <| Ws.nil <| Ws.cons <| Wx.ite <| Wt.cmp <| We.nl rfl rfl <| We.str <| CmpV.eqS ⟨_, rfl, ite_f rfl <| Ws.nil <| Ws.cons <| Wx.ite <| Wt.cmp <| We.nl rfl rfl <| We.str <| CmpV.eqS ⟨_, rfl, ite_f rfl <| Ws.nil <| Ws.cons <| Wx.ite <| Wt.cmp <| We.nl rfl rfl <| We.str <| CmpV.eqS ⟨_, rfl, ite_f rfl <| Ws.nil <| Ws.cons <| Wx.ite <| Wt.cmp <| We.nl rfl rfl <| We.str <| CmpV.eqS ⟨_, rfl, ite_t rfl <| Ws.cons <| Wx.ret <| We.tuple <| Wes.cons' <| We.str <| Wes.cons' <| We.attr <| We.nl rfl rfl <| AttV.inst (at171text hK) rfl <| Wes.nil' ⟨lb rfl, ?_⟩⟩⟩⟩⟩⟩
              exact h
    | ref => refine Ws.cons <| Wx.ite <| Wt.cmp <| We.nl rfl rfl <| We.str <| CmpV.eqS ⟨_, rfl, ite_f rfl <| Ws.nil <| Ws.cons <| Wx.ite <| Wt.cmp <| We.nl rfl rfl <| We.str <| CmpV.eqS ⟨_, rfl, ite_f rfl <| Ws.nil <| Ws.cons <| Wx.ite <| Wt.cmp <| We.nl rfl rfl <| We.str <| CmpV.eqS ⟨_, rfl, ite_f rfl <| Ws.nil <| Ws.cons <| Wx.ite <| Wt.cmp <| We.nl rfl rfl <| We.str <| CmpV.eqS ⟨_, rfl, ite_f rfl <| Ws.nil <| Ws.cons <| Wx.ite <| Wt.cmp <| We.nl rfl rfl <| We.str <| CmpV.eqS ⟨_, rfl, ite_f rfl <| Ws.nil <| Ws.cons <| Wx.ite <| Wt.cmp <| We.nl rfl rfl <| We.str <| CmpV.eqS ⟨_, rfl, ite_f rfl <| Ws.nil <| Ws.cons <| Wx.ret <| We.tuple <| Wes.cons' <| We.str <| Wes.cons' <| We.attr <| We.nl rfl rfl <| AttV.inst (at242number hK) rfl <| Wes.cons' <| We.attr <| We.nl rfl rfl <| AttV.inst (at242generation hK) rfl <| Wes.nil' ⟨lb rfl, ?_⟩⟩⟩⟩⟩⟩⟩
             exact h
theorem c_told_leaf {C : Cx} (hK : C.K = hd.heap_39 C.w.params) {n : Nat} {v : Val} {Φ : V → Mu → Prop} {μ : Mu} (hn : 2 ≤ n) (hv : 2 ≤ 3 ∧ (∀ xs, v ≠ .arr xs) ∧ (∀ xs, v ≠ .dict xs) ∧ ∀ xs b, v ≠ .stm xs b) (h : Φ (told v) μ) : CallV C n (.ref 265) [enc v] Φ μ := by
  refine' CallV.defK (m := 1) (names := ["value"]) hK ?h1 ?h2 ?h3 ?h4 ?h5 (by omega) ?h6
  case h1 => with_unfolding_all rfl
  case h2 => rfl
  case h3 => rfl
  case h4 => with_unfolding_all rfl
  case h5 => exact bind1 fun _ => (by with_unfolding_all rfl)
  case h6 =>
    intro L
    cases v with
    | arr xs => exact absurd rfl (hv.2.1 xs)
    | dict xs => exact absurd rfl (hv.2.2.1 xs)
    | stm xs b => exact absurd rfl (hv.2.2.2 xs b)
    | nul => refine Ws.cons <| Wx.assign <| We.call rfl (glkindof hK) (ce253 hK) <| Wes.cons' <| We.nc rfl rfl <| Wes.nil' <| c_kind_of hK (lb rfl) <| Wa.nl rfl <| Ws.cons <| Wx.ite <| Wt.cmp <| We.nl rfl rfl <| We.str <| CmpV.eqS ⟨_, rfl, ite_f rfl <| Ws.nil <| Ws.cons <| Wx.ite <| Wt.cmp <| We.nl rfl rfl <| We.str <| CmpV.eqS ⟨_, rfl, ite_f rfl <| Ws.nil <| Ws.cons <| Wx.ite <| Wt.cmp <| We.nl rfl rfl <| We.str <| CmpV.eqS ⟨_, rfl, ite_f rfl <| Ws.nil <| Ws.cons <| Wx.ret <| We.call rfl (gltoldplain hK) (ce260 hK) <| Wes.cons' <| We.nl rfl rfl <| Wes.cons' <| We.nc rfl rfl <| Wes.nil' ?_⟩⟩⟩
             exact c_told_plain hK (by omega) hv h
    | int => refine Ws.cons <| Wx.assign <| We.call rfl (glkindof hK) (ce253 hK) <| Wes.cons' <| We.nc rfl rfl <| Wes.nil' <| c_kind_of hK (lb rfl) <| Wa.nl rfl <| Ws.cons <| Wx.ite <| Wt.cmp <| We.nl rfl rfl <| We.str <| CmpV.eqS ⟨_, rfl, ite_f rfl <| Ws.nil <| Ws.cons <| Wx.ite <| Wt.cmp <| We.nl rfl rfl <| We.str <| CmpV.eqS ⟨_, rfl, ite_f rfl <| Ws.nil <| Ws.cons <| Wx.ite <| Wt.cmp <| We.nl rfl rfl <| We.str <| CmpV.eqS ⟨_, rfl, ite_f rfl <| Ws.nil <| Ws.cons <| Wx.ret <| We.call rfl (gltoldplain hK) (ce260 hK) <| Wes.cons' <| We.nl rfl rfl <| Wes.cons' <| We.nc rfl rfl <| Wes.nil' ?_⟩⟩⟩
             exact c_told_plain hK (by omega) hv h
    | name => refine Ws.cons <| Wx.assign <| We.call rfl (glkindof hK) (ce253 hK) <| Wes.cons' <| We.nc rfl rfl <| Wes.nil' <| c_kind_of hK (lb rfl) <| Wa.nl rfl <| Ws.cons <| Wx.ite <| Wt.cmp <| We.nl rfl rfl <| We.str <| CmpV.eqS ⟨_, rfl, ite_f rfl <| Ws.nil <| Ws.cons <| Wx.ite <| Wt.cmp <| We.nl rfl rfl <| We.str <| CmpV.eqS ⟨_, rfl, ite_f rfl <| Ws.nil <| Ws.cons <| Wx.ite <| Wt.cmp <| We.nl rfl rfl <| We.str <| CmpV.eqS ⟨_, rfl, ite_f rfl <| Ws.nil <| Ws.cons <| Wx.ret <| We.call rfl (gltoldplain hK) (ce260 hK) <| Wes.cons' <| We.nl rfl rfl <| Wes.cons' <| We.nc rfl rfl <| Wes.nil' ?_⟩⟩⟩
              exact c_told_plain hK (by omega) hv h
    | ref => refine Ws.cons <| Wx.assign <| We.call rfl (glkindof hK) (ce253 hK) <| Wes.cons' <| We.nc rfl rfl <| Wes.nil' <| c_kind_of hK (lb rfl) <| Wa.nl rfl <| Ws.cons <| Wx.ite <| Wt.cmp <| We.nl rfl rfl <| We.str <| CmpV.eqS ⟨_, rfl, ite_f rfl <| Ws.nil <| Ws.cons <| Wx.ite <| Wt.cmp <| We.nl rfl rfl <| We.str <| CmpV.eqS ⟨_, rfl, ite_f rfl <| Ws.nil <| Ws.cons <| Wx.ite <| Wt.cmp <| We.nl rfl rfl <| We.str <| CmpV.eqS ⟨_, rfl, ite_f rfl <| Ws.nil <| Ws.cons <| Wx.ret <| We.call rfl (gltoldplain hK) (ce260 hK) <| Wes.cons' <| We.nl rfl rfl <| Wes.cons' <| We.nc rfl rfl <| Wes.nil' ?_⟩⟩⟩
             exact c_told_plain hK (by omega) hv h
theorem c_told {C : Cx} (hK : C.K = hd.heap_39 C.w.params) : ∀ (d : Nat) {v : Val}, ok d v → ∀ {n : Nat} {Φ : V → Mu → Prop} {μ : Mu}, 2 * d + 2 ≤ n → Φ (told v) μ → CallV C n (.ref 265) [enc v] Φ μ := by
  intro d
  induction d with
  | zero =>
    intro v hv n Φ μ hn h
    refine c_told_leaf hK hn ⟨by omega, ?_, ?_, ?_⟩ h
    · rintro xs rfl; exact hv
    · rintro xs rfl; exact hv
    · rintro xs b rfl; exact hv
  | succ d ih =>
    have hdict : ∀ {kvs : List (Str × Val)}, ok (d + 1) (.dict kvs) → ∀ {n : Nat} {Φ : V → Mu → Prop} {μ : Mu}, 2 * d + 3 ≤ n → Φ (told (.dict kvs)) μ → CallV C n (.ref 265) [enc (.dict kvs)] Φ μ := by
      intro kvs hv n Φ μ hn h
      refine' CallV.defK (m := 2 * d + 2) (names := ["value"]) hK ?h1 ?h2 ?h3 ?h4 ?h5 (by omega) ?h6
      case h1 => with_unfolding_all rfl
      case h2 => rfl
      case h3 => rfl
      case h4 => with_unfolding_all rfl
      case h5 => exact bind1 fun _ => (by with_unfolding_all rfl)
      case h6 =>
        intro L
        refine Ws.cons <| Wx.assign <| We.call rfl (glkindof hK) (ce253 hK) <| Wes.cons' <| We.nc rfl rfl <| Wes.nil' <| c_kind_of hK (lb rfl) <| Wa.nl rfl <| Ws.cons <| Wx.ite <| Wt.cmp <| We.nl rfl rfl <| We.str <| CmpV.eqS ⟨_, rfl, ite_f rfl <| Ws.nil <| Ws.cons <| Wx.ite <| Wt.cmp <| We.nl rfl rfl <| We.str <| CmpV.eqS ⟨_, rfl, ite_t rfl <| Ws.cons <| Wx.ret <| We.bin <| We.tuple <| Wes.cons' <| We.str <| Wes.nil' ⟨lb rfl, We.call rfl (gltuple hK) Callee.type <| Wes.cons' <| We.comp (by with_unfolding_all rfl) ?_⟩⟩⟩; refine We.call rfl (glsorted hK) Callee.builtin <| Wes.cons' <| We.nc rfl rfl <| Wes.nil' ?_
        refine CallV.sortedS (kvs := enck kvs) SeeS.z (by rw [enck_len]; have := hv.1; omega) ?_
        have hlen : (sortS (kvs.map (·.1))).length = kvs.length := by rw [(sortS_perm _).length_eq, List.length_map]
        refine ⟨(sortS (kvs.map (·.1))).map V.str, fun _ => True, by rw [enck_keys]; exact Itr.list, by rw [List.length_map, hlen]; have := hv.1; omega,
          fun Cl => CompL.filt (p := fun k => !(getK kvs k).isNul) (f := fun k => .tup [.str k, told (getK kvs k)]) trivial (fun k hk Ψ hΨ => ?_) (fun k hk hp Ψ hΨ => ?_) ?_⟩
        · have hm := (sortS_perm _).mem_iff.mp hk
          refine Wt.cmp <| We.sub <| We.nc rfl rfl <| We.nl rfl rfl ?_
          refine SubV.dS (kvs := enck kvs) SeeS.z (lk_getK hm) ?_
          refine We.none <| CmpV.isNotNone ⟨_, rfl, ?_⟩
          rw [enc_none]
          exact hΨ
        · have hm := (sortS_perm _).mem_iff.mp hk
          refine We.tuple <| Wes.cons' <| We.nl rfl rfl <| Wes.cons' <| We.call rfl (gltoldobjects hK) (ce265 hK) <| Wes.cons' <| We.sub <| We.nc rfl rfl <| We.nl rfl rfl ?_
          refine SubV.dS (kvs := enck kvs) SeeS.z (lk_getK hm) ?_
          refine Wes.nil' ?_
          obtain ⟨x, hx⟩ := getK_mem hm
          refine ih (by rw [getK_of_mem hv.2.1 hx]; exact hv.2.2 _ hx) (by omega) ?_
          refine Wes.nil' ⟨lb rfl, ?_⟩
          exact hΨ
        · have hl2 : (((sortS (kvs.map (·.1))).filter fun k => !(getK kvs k).isNul).map fun k => V.tup [.str k, told (getK kvs k)]).length ≤ 8 := by
            rw [List.length_map]; refine Nat.le_trans (List.length_filter_le _ _) ?_; rw [hlen]; exact hv.1
          refine CallV.tupleL SeeL.z (by rw [List.nil_append]; omega) ?_
          refine BinV.addT (by rw [List.nil_append]; simp only [List.length_cons, List.length_nil]; omega) ?_
          rw [toldE6, toldk_get hv.2.1] at h
          exact h
    intro v hv n Φ μ hn h
    cases v with
    | arr xs =>
      refine' CallV.defK (m := 2 * d + 2) (names := ["value"]) hK ?h1 ?h2 ?h3 ?h4 ?h5 (by omega) ?h6
      case h1 => with_unfolding_all rfl
      case h2 => rfl
      case h3 => rfl
      case h4 => with_unfolding_all rfl
      case h5 => exact bind1 fun _ => (by with_unfolding_all rfl)
      case h6 =>
        intro L
        refine Ws.cons <| Wx.assign <| We.call rfl (glkindof hK) (ce253 hK) <| Wes.cons' <| We.nc rfl rfl <| Wes.nil' <| c_kind_of hK (lb rfl) <| Wa.nl rfl <| Ws.cons <| Wx.ite <| Wt.cmp <| We.nl rfl rfl <| We.str <| CmpV.eqS ⟨_, rfl, ite_t rfl <| Ws.cons <| Wx.ret <| We.bin <| We.tuple <| Wes.cons' <| We.str <| Wes.nil' ⟨lb rfl, We.call rfl (gltuple hK) Callee.type <| Wes.cons' <| We.comp (by with_unfolding_all rfl) ?_⟩⟩; refine We.nc rfl rfl ?_
        refine ⟨xs.map enc, fun _ => True, by rw [encE5, encs_eq]; exact Itr.list, by rw [List.length_map]; have := hv.1; omega, fun Cl => CompL.map (f := told) trivial (fun b hb Ψ hΨ => ?_) ?_⟩
        · refine We.call rfl (gltoldobjects hK) (ce265 hK) <| Wes.cons' <| We.nl rfl rfl <| Wes.nil' ?_
          exact ih (hv.2 b hb) (by omega) hΨ
        · refine CallV.tupleL SeeL.z (by rw [List.nil_append, List.length_map]; have := hv.1; omega) ?_
          refine BinV.addT (by rw [List.nil_append, List.length_map]; have := hv.1; simp; omega) ?_
          rw [toldE5, tolds_eq] at h
          exact h
    | dict kvs => exact hdict hv (by omega) h
    | stm kvs b =>
      refine' CallV.defK (m := 2 * d + 3) (names := ["value"]) hK ?h1 ?h2 ?h3 ?h4 ?h5 (by omega) ?h6
      case h1 => with_unfolding_all rfl
      case h2 => rfl
      case h3 => rfl
      case h4 => with_unfolding_all rfl
      case h5 => exact bind1 fun _ => (by with_unfolding_all rfl)
      case h6 =>
        intro L
        refine Ws.cons <| Wx.assign <| We.call rfl (glkindof hK) (ce253 hK) <| Wes.cons' <| We.nc rfl rfl <| Wes.nil' <| c_kind_of hK (lb rfl) <| Wa.nl rfl <| Ws.cons <| Wx.ite <| Wt.cmp <| We.nl rfl rfl <| We.str <| CmpV.eqS ⟨_, rfl, ite_f rfl <| Ws.nil <| Ws.cons <| Wx.ite <| Wt.cmp <| We.nl rfl rfl <| We.str <| CmpV.eqS ⟨_, rfl, ite_f rfl <| Ws.nil <| Ws.cons <| Wx.ite <| Wt.cmp <| We.nl rfl rfl <| We.str <| CmpV.eqS ⟨_, rfl, ite_t rfl <| Ws.cons <| Wx.ret <| We.tuple <| Wes.cons' <| We.str <| Wes.cons' <| We.call rfl (gltoldobjects hK) (ce265 hK) <| Wes.cons' <| We.attr <| We.nc rfl rfl <| AttV.inst (at214head hK) rfl <| Wes.nil' ?_⟩⟩⟩
        refine hdict (kvs := kvs) hv (by omega) ?_
        refine Wes.cons' <| We.call rfl (glbytes hK) Callee.type <| Wes.cons' <| We.attr <| We.nc rfl rfl <| AttV.inst (at214octets hK) rfl <| Wes.nil' <| CallV.bytesB <| Wes.nil' ⟨lb rfl, ?_⟩
        exact h
    | _ => exact c_told_leaf hK (by omega) ⟨by omega, by simp, by simp, by simp⟩ h
end
section
open PySem PySem.W PySem.Calls PyProof.Rows
noncomputable def parts : Val → List Val
  | .arr xs => xs
  | .dict kvs => (sortS (kvs.map (·.1))).map (getK kvs)
  | .stm kvs _ => (sortS (kvs.map (·.1))).map (getK kvs)
  | _ => []
theorem partsE {kvs : List (Str × Val)} : parts (.dict kvs) = (sortS (kvs.map (·.1))).map (getK kvs) := rfl
theorem partsS {kvs : List (Str × Val)} {b : Array UInt8} : parts (.stm kvs b) = (sortS (kvs.map (·.1))).map (getK kvs) := rfl
theorem sortS_len {kvs : List (Str × Val)} : (sortS (kvs.map (·.1))).length = kvs.length := by rw [(sortS_perm _).length_eq, List.length_map]
theorem c_parts_of {C : Cx} (hK : C.K = hd.heap_39 C.w.params) {d : Nat} {v : Val} (hv : ok d v) {n : Nat} {Φ : V → Mu → Prop} {μ : Mu} (hn : 3 ≤ n) (h : Φ (.list ((parts v).map enc)) μ) : CallV C n (.ref 275) [enc v] Φ μ := by
  have hdict : ∀ {d : Nat} {kvs : List (Str × Val)}, ok d (.dict kvs) → ∀ {n : Nat} {Φ : V → Mu → Prop} {μ : Mu}, 2 ≤ n → Φ (.list ((parts (.dict kvs)).map enc)) μ → CallV C n (.ref 275) [enc (.dict kvs)] Φ μ := by
    intro d kvs hv n Φ μ hn h
    cases d with
    | zero => exact hv.elim
    | succ d =>
    refine' CallV.defK (m := 1) (names := ["value"]) hK ?h1 ?h2 ?h3 ?h4 ?h5 (by omega) ?h6
    case h1 => with_unfolding_all rfl
    case h2 => rfl
    case h3 => rfl
    case h4 => with_unfolding_all rfl
    case h5 => exact bind1 fun _ => (by with_unfolding_all rfl)
    case h6 =>
      intro L
      refine Ws.cons <| Wx.assign <| We.call rfl (glkindof hK) (ce253 hK) <| Wes.cons' <| We.nc rfl rfl <| Wes.nil' <| c_kind_of hK (lb rfl) <| Wa.nl rfl <| Ws.cons <| Wx.ite <| Wt.cmp <| We.nl rfl rfl <| We.str <| CmpV.eqS ⟨_, rfl, ite_f rfl <| Ws.nil <| Ws.cons <| Wx.ite <| Wt.cmp <| We.nl rfl rfl <| We.str <| CmpV.eqS ⟨_, rfl, ite_t rfl <| Ws.cons <| Wx.ret <| We.comp (by with_unfolding_all rfl) ?_⟩⟩; refine We.call rfl (glsorted hK) Callee.builtin <| Wes.cons' <| We.nc rfl rfl <| Wes.nil' ?_
      refine CallV.sortedS (kvs := enck kvs) SeeS.z (by rw [enck_len]; have := hv.1; omega) ?_
      refine ⟨(sortS (kvs.map (·.1))).map V.str, fun _ => True, by rw [enck_keys]; exact Itr.list, by rw [List.length_map, sortS_len]; have := hv.1; omega,
          fun Cl => CompL.map (f := fun k => enc (getK kvs k)) trivial (fun k hk Ψ hΨ => ?_) ?_⟩
      · have hm := (sortS_perm _).mem_iff.mp hk
        refine We.sub <| We.nc rfl rfl <| We.nl rfl rfl ?_
        refine SubV.dS (kvs := enck kvs) SeeS.z (lk_getK hm) ?_
        exact hΨ
      · rw [partsE, List.map_map] at h
        exact h
  cases v with
  | arr xs =>
    cases d with
    | zero => exact hv.elim
    | succ d =>
    refine' CallV.defK (m := 1) (names := ["value"]) hK ?h1 ?h2 ?h3 ?h4 ?h5 (by omega) ?h6
    case h1 => with_unfolding_all rfl
    case h2 => rfl
    case h3 => rfl
    case h4 => with_unfolding_all rfl
    case h5 => exact bind1 fun _ => (by with_unfolding_all rfl)
    case h6 =>
      intro L
      refine Ws.cons <| Wx.assign <| We.call rfl (glkindof hK) (ce253 hK) <| Wes.cons' <| We.nc rfl rfl <| Wes.nil' <| c_kind_of hK (lb rfl) <| Wa.nl rfl <| Ws.cons <| Wx.ite <| Wt.cmp <| We.nl rfl rfl <| We.str <| CmpV.eqS ⟨_, rfl, ite_t rfl <| Ws.cons <| Wx.ret <| We.call rfl (gllist hK) Callee.type <| Wes.cons' <| We.nc rfl rfl <| Wes.nil' ?_⟩
      refine CallV.listL (xs := xs.map enc) (by rw [encE5, encs_eq]; exact SeeL.z) (by rw [List.length_map]; have := hv.1; omega) ?_
      exact h
  | dict kvs => exact hdict hv (by omega) h
  | stm kvs b =>
    cases d with
    | zero => exact hv.elim
    | succ d =>
    refine' CallV.defK (m := 2) (names := ["value"]) hK ?h1 ?h2 ?h3 ?h4 ?h5 (by omega) ?h6
    case h1 => with_unfolding_all rfl
    case h2 => rfl
    case h3 => rfl
    case h4 => with_unfolding_all rfl
    case h5 => exact bind1 fun _ => (by with_unfolding_all rfl)
    case h6 =>
      intro L
      refine Ws.cons <| Wx.assign <| We.call rfl (glkindof hK) (ce253 hK) <| Wes.cons' <| We.nc rfl rfl <| Wes.nil' <| c_kind_of hK (lb rfl) <| Wa.nl rfl <| Ws.cons <| Wx.ite <| Wt.cmp <| We.nl rfl rfl <| We.str <| CmpV.eqS ⟨_, rfl, ite_f rfl <| Ws.nil <| Ws.cons <| Wx.ite <| Wt.cmp <| We.nl rfl rfl <| We.str <| CmpV.eqS ⟨_, rfl, ite_f rfl <| Ws.nil <| Ws.cons <| Wx.ite <| Wt.cmp <| We.nl rfl rfl <| We.str <| CmpV.eqS ⟨_, rfl, ite_t rfl <| Ws.cons <| Wx.ret <| We.call rfl (glpartsof hK) (ce275 hK) <| Wes.cons' <| We.attr <| We.nc rfl rfl <| AttV.inst (at214head hK) rfl <| Wes.nil' ?_⟩⟩⟩
      refine hdict (kvs := kvs) (d := d + 1) hv (by omega) ?_
      exact h
  | nul =>
    refine' CallV.defK (m := 1) (names := ["value"]) hK ?h1 ?h2 ?h3 ?h4 ?h5 (by omega) ?h6
    case h1 => with_unfolding_all rfl
    case h2 => rfl
    case h3 => rfl
    case h4 => with_unfolding_all rfl
    case h5 => exact bind1 fun _ => (by with_unfolding_all rfl)
    case h6 =>
      intro L
      refine Ws.cons <| Wx.assign <| We.call rfl (glkindof hK) (ce253 hK) <| Wes.cons' <| We.nc rfl rfl <| Wes.nil' <| c_kind_of hK (lb rfl) <| Wa.nl rfl <| Ws.cons <| Wx.ite <| Wt.cmp <| We.nl rfl rfl <| We.str <| CmpV.eqS ⟨_, rfl, ite_f rfl <| Ws.nil <| Ws.cons <| Wx.ite <| Wt.cmp <| We.nl rfl rfl <| We.str <| CmpV.eqS ⟨_, rfl, ite_f rfl <| Ws.nil <| Ws.cons <| Wx.ite <| Wt.cmp <| We.nl rfl rfl <| We.str <| CmpV.eqS ⟨_, rfl, ite_f rfl <| Ws.nil <| Ws.cons <| Wx.ret ?_⟩⟩⟩
      refine We.listZ ?_
      refine Wes.nil' ⟨lb rfl, ?_⟩
      exact h
  | int =>
    refine' CallV.defK (m := 1) (names := ["value"]) hK ?h1 ?h2 ?h3 ?h4 ?h5 (by omega) ?h6
    case h1 => with_unfolding_all rfl
    case h2 => rfl
    case h3 => rfl
    case h4 => with_unfolding_all rfl
    case h5 => exact bind1 fun _ => (by with_unfolding_all rfl)
    case h6 =>
      intro L
      refine Ws.cons <| Wx.assign <| We.call rfl (glkindof hK) (ce253 hK) <| Wes.cons' <| We.nc rfl rfl <| Wes.nil' <| c_kind_of hK (lb rfl) <| Wa.nl rfl <| Ws.cons <| Wx.ite <| Wt.cmp <| We.nl rfl rfl <| We.str <| CmpV.eqS ⟨_, rfl, ite_f rfl <| Ws.nil <| Ws.cons <| Wx.ite <| Wt.cmp <| We.nl rfl rfl <| We.str <| CmpV.eqS ⟨_, rfl, ite_f rfl <| Ws.nil <| Ws.cons <| Wx.ite <| Wt.cmp <| We.nl rfl rfl <| We.str <| CmpV.eqS ⟨_, rfl, ite_f rfl <| Ws.nil <| Ws.cons <| Wx.ret ?_⟩⟩⟩
      refine We.listZ ?_
      refine Wes.nil' ⟨lb rfl, ?_⟩
      exact h
  | name =>
    refine' CallV.defK (m := 1) (names := ["value"]) hK ?h1 ?h2 ?h3 ?h4 ?h5 (by omega) ?h6
    case h1 => with_unfolding_all rfl
    case h2 => rfl
    case h3 => rfl
    case h4 => with_unfolding_all rfl
    case h5 => exact bind1 fun _ => (by with_unfolding_all rfl)
    case h6 =>
      intro L
      refine Ws.cons <| Wx.assign <| We.call rfl (glkindof hK) (ce253 hK) <| Wes.cons' <| We.nc rfl rfl <| Wes.nil' <| c_kind_of hK (lb rfl) <| Wa.nl rfl <| Ws.cons <| Wx.ite <| Wt.cmp <| We.nl rfl rfl <| We.str <| CmpV.eqS ⟨_, rfl, ite_f rfl <| Ws.nil <| Ws.cons <| Wx.ite <| Wt.cmp <| We.nl rfl rfl <| We.str <| CmpV.eqS ⟨_, rfl, ite_f rfl <| Ws.nil <| Ws.cons <| Wx.ite <| Wt.cmp <| We.nl rfl rfl <| We.str <| CmpV.eqS ⟨_, rfl, ite_f rfl <| Ws.nil <| Ws.cons <| Wx.ret ?_⟩⟩⟩
      refine We.listZ ?_
      refine Wes.nil' ⟨lb rfl, ?_⟩
      exact h
  | ref =>
    refine' CallV.defK (m := 1) (names := ["value"]) hK ?h1 ?h2 ?h3 ?h4 ?h5 (by omega) ?h6
    case h1 => with_unfolding_all rfl
    case h2 => rfl
    case h3 => rfl
    case h4 => with_unfolding_all rfl
    case h5 => exact bind1 fun _ => (by with_unfolding_all rfl)
    case h6 =>
      intro L
      refine Ws.cons <| Wx.assign <| We.call rfl (glkindof hK) (ce253 hK) <| Wes.cons' <| We.nc rfl rfl <| Wes.nil' <| c_kind_of hK (lb rfl) <| Wa.nl rfl <| Ws.cons <| Wx.ite <| Wt.cmp <| We.nl rfl rfl <| We.str <| CmpV.eqS ⟨_, rfl, ite_f rfl <| Ws.nil <| Ws.cons <| Wx.ite <| Wt.cmp <| We.nl rfl rfl <| We.str <| CmpV.eqS ⟨_, rfl, ite_f rfl <| Ws.nil <| Ws.cons <| Wx.ite <| Wt.cmp <| We.nl rfl rfl <| We.str <| CmpV.eqS ⟨_, rfl, ite_f rfl <| Ws.nil <| Ws.cons <| Wx.ret ?_⟩⟩⟩
      refine We.listZ ?_
      refine Wes.nil' ⟨lb rfl, ?_⟩
      exact h
end
section
open PySem PySem.W PySem.Calls PyProof.Rows
theorem lvs_parts {d : Nat} {v : Val} (hv : ok d v) (h : ∀ p, v ≠ .ref p) : lvs v = ((parts v).map lvs).flatten := by
  have dd : ∀ {kvs : List (Str × Val)}, (kvs.map (·.1)).Nodup → ((sortK (lvsk kvs)).map (·.2)).flatten = (((sortS (kvs.map (·.1))).map (getK kvs)).map lvs).flatten := fun hn => by
    rw [lvsk_eq, sortK_map, sortK_get hn, List.map_map, List.map_map, List.map_map]; rfl
  cases v with
  | ref p => exact absurd rfl (h p)
  | arr xs => rw [lvsE5, lvss_eq]; rfl
  | dict kvs => cases d with | zero => exact hv.elim | succ d => rw [lvsE6]; exact dd hv.2.1
  | stm kvs b => cases d with | zero => exact hv.elim | succ d => rw [lvsE7]; exact dd hv.2.1
  | _ => rfl
theorem parts_ok {d : Nat} {v : Val} (hv : ok d v) : ∀ x ∈ parts v, ok d x := by
  have dd : ∀ {d : Nat} {kvs : List (Str × Val)}, (kvs.map (·.1)).Nodup → (∀ p ∈ kvs, ok d p.2) → ∀ x ∈ (sortS (kvs.map (·.1))).map (getK kvs), ok (d + 1) x := fun hn ha x hx => by
    obtain ⟨k, hk, rfl⟩ := List.mem_map.mp hx
    obtain ⟨y, hy⟩ := getK_mem ((sortS_perm _).mem_iff.mp hk)
    rw [getK_of_mem hn hy]; exact ok_mono (ha _ hy)
  cases v with
  | arr xs => cases d with | zero => exact hv.elim | succ d => exact fun x hx => ok_mono (hv.2 x hx)
  | dict kvs => cases d with | zero => exact hv.elim | succ d => exact dd hv.2.1 hv.2.2
  | stm kvs b => cases d with | zero => exact hv.elim | succ d => exact dd hv.2.1 hv.2.2
  | _ => exact fun x hx => nomatch hx
theorem parts_sz {d : Nat} {v : Val} (hv : ok d v) : ((parts v).map sz).sum + 1 ≤ sz v := by
  have dd : ∀ {kvs : List (Str × Val)}, (kvs.map (·.1)).Nodup → (((sortS (kvs.map (·.1))).map (getK kvs)).map sz).sum = szk kvs := fun {kvs} hn => by
    rw [szk_eq, List.map_map]
    have h2 : ((sortS (kvs.map (·.1))).map (sz ∘ getK kvs)) = (sortK kvs).map fun p => sz p.2 := by rw [sortK_get hn, List.map_map]; rfl
    rw [h2]
    exact sum_perm_le ((sortK_perm _).map _)
  cases v with
  | arr xs => rw [szE5, szs_eq]; show (xs.map sz).sum + 1 ≤ _; omega
  | dict kvs => cases d with | zero => exact hv.elim | succ d => rw [szE6, partsE, dd hv.2.1]; omega
  | stm kvs b => cases d with | zero => exact hv.elim | succ d => rw [szE7, partsS, dd hv.2.1]; omega
  | _ => exact Nat.le_refl _
theorem parts_len {d : Nat} {v : Val} (hv : ok d v) : (parts v).length ≤ 8 := by
  cases v with
  | arr xs => cases d with | zero => exact hv.elim | succ d => exact hv.1
  | dict kvs => cases d with | zero => exact hv.elim | succ d => rw [partsE, List.length_map, sortS_len]; exact hv.1
  | stm kvs b => cases d with | zero => exact hv.elim | succ d => rw [partsS, List.length_map, sortS_len]; exact hv.1
  | _ => exact Nat.zero_le _
noncomputable def pkey (p : PP) : List Int := [p.1, p.2]
theorem pkey_inj {p q : PP} (h : pkey p = pkey q) : p = q := by
  simp only [pkey, List.cons.injEq, and_true] at h; exact Prod.ext h.1 h.2
theorem lk_pkey {β : Type} {X : List β} {f : β → PP} {g : β → V} {p : PP} : (lk (X.map fun b => (pkey (f b), g b)) (pkey p)).isSome = decide (p ∈ X.map f) := by
  rw [lk_isSome_any, List.any_map, Bool.eq_iff_iff, List.any_eq_true, decide_eq_true_eq, List.mem_map]
  constructor
  · rintro ⟨b, hb, e⟩; exact ⟨b, hb, pkey_inj (of_decide_eq_true e)⟩
  · rintro ⟨b, hb, rfl⟩; exact ⟨b, hb, decide_eq_true rfl⟩
theorem putK_new {κ : Type} [DecidableEq κ] {kvs : List (κ × V)} {k : κ} {x : V} (h : (lk kvs k).isSome = false) : putK kvs k x = kvs ++ [(k, x)] := by
  unfold putK; rw [← lk_isSome_any, h]; rfl
theorem lvs_len {d : Nat} {v : Val} (h : ok d v) : (lvs v).length ≤ sz v := by
  have fl : ∀ (l : List (List PP)), l.flatten.length = (l.map List.length).sum := fun l => List.length_flatten
  have sm : ∀ {β : Type} (l : List β) (f g : β → Nat), (∀ b ∈ l, f b ≤ g b) → (l.map f).sum ≤ (l.map g).sum := fun {β} l f g hh => by
    induction l with
    | nil => exact Nat.le_refl _
    | cons b r ih => rw [List.map_cons, List.sum_cons, List.map_cons, List.sum_cons]; have := hh b (.head _); have := ih fun b hb => hh b (.tail _ hb); omega
  have dd : ∀ kvs : List (Str × Val), (∀ p ∈ kvs, (lvs p.2).length ≤ sz p.2) → (((sortK (lvsk kvs)).map (·.2)).flatten).length ≤ szk kvs := fun kvs ih => by
    rw [fl, lvsk_eq, sortK_map, List.map_map, List.map_map, szk_eq, ← sum_perm_le ((sortK_perm kvs).map fun p => sz p.2)]
    exact sm _ _ _ fun p hp => ih p ((sortK_perm kvs).mem_iff.mp hp)
  refine ok_ind (P := fun v => (lvs v).length ≤ sz v) ?_ ?_ ?_ ?_ ?_ ?_ ?_ h
  · simp [lvsE1, szE1]
  · intro i; simp [lvsE2, szE2]
  · intro i; simp [lvsE3, szE3]
  · intro i; simp [lvsE4, szE4]
  · intro xs _ ih
    rw [lvsE5, szE5, fl, lvss_eq, List.map_map, szs_eq]
    have := sm xs (List.length ∘ lvs) sz ih
    omega
  · intro kvs _ _ ih; rw [lvsE6, szE6]; have := dd kvs ih; omega
  · intro kvs b _ _ ih; rw [lvsE7, szE7]; have := dd kvs ih; omega
theorem addL_len {α : Type} [DecidableEq α] (acc ps : List α) : (addL acc ps).length ≤ acc.length + ps.length := by
  induction ps generalizing acc with
  | nil => simp [addL]
  | cons p r ih =>
    rw [addL_cons, List.length_cons]
    have h1 := ih (add1 acc p)
    have h2 : (add1 acc p).length ≤ acc.length + 1 := by unfold add1; split <;> simp
    omega
theorem refsIn_len {d : Nat} {v : Val} (h : ok d v) : (refsIn v).length ≤ sz v := by
  unfold refsIn
  have := addL_len [] (lvs v)
  have := lvs_len h
  simp at *; omega
theorem len_le_sz (l : List Val) : l.length ≤ (l.map sz).sum := by
  induction l with
  | nil => exact Nat.le_refl _
  | cons a r ih => rw [List.length_cons, List.map_cons, List.sum_cons]; have := sz_pos (x := a); omega
theorem fup_none {μ : Mu} {a b : Addr} {c : Cell} (h : fup μ a (some c) b = none) : b ≠ a ∧ μ b = none := by
  by_cases q : b = a
  · subst q; rw [fup_self] at h; cases h
  · rw [fup_ne _ _ q] at h; exact ⟨q, h⟩
theorem ne_of_some {μ : Mu} {a b : Addr} {c : Cell} (h : μ a = none) (k : μ b = some c) : b ≠ a := by rintro rfl; rw [h] at k; cases k
theorem map_snoc {α β : Type} {f : α → β} {l : List α} {x : α} : (l ++ [x]).map f = l.map f ++ [f x] := by simp
theorem not_empty_snoc {α β : Type} {f : α → β} {l : List α} {x : α} : (!((l ++ [x]).map f).isEmpty) = true := by simp
end
section
open PySem PySem.W PySem.Calls PyProof.Rows
structure RefI (v : Val) (d : Nat) (B : Nat) (X : List PP) (stk : List Val) : Prop where
  run : addL X ((stk.reverse.map lvs).flatten) = refsIn v
  ok : ∀ x ∈ stk, SP.ok d x
  sz : X.length + (stk.map SP.sz).sum ≤ B
theorem c_references_in {C : Cx} (hK : C.K = hd.heap_39 C.w.params) {d : Nat} {v : Val} (hv : ok d v) (hd3 : d ≤ 3) {n : Nat} {Φ : V → Mu → Prop} {μ : Mu} (hn : 4 ≤ n) (h : Φ (.list ((refsIn v).map pairV)) μ) : CallV C n (.ref 282) [enc v] Φ μ := by
  have hB : sz v ≤ 729 := Nat.le_trans (sz_le hv) (Nat.pow_le_pow_right (by decide) hd3 : 9 ^ d ≤ 9 ^ 3)
  refine CallV.fin (c := .list ((refsIn v).map pairV)) .list h ?_
  refine' CallV.defK (m := 3) (names := ["value"]) hK ?h1 ?h2 ?h3 ?h4 ?h5 (by omega) ?h6
  case h1 => with_unfolding_all rfl
  case h2 => rfl
  case h3 => rfl
  case h4 => with_unfolding_all rfl
  case h5 => exact bind1 fun _ => (by with_unfolding_all rfl)
  case h6 =>
    intro L
    refine Ws.cons (Wx.assign (We.listM ?_))
    refine Wes.nil' ⟨lb rfl, ?_⟩
    intro f hf
    refine Wa.nl rfl <| Ws.cons <| Wx.assign ?_
    refine We.dictM (c := .dP []) (fun Z => dkP.empty Z) ?_
    intro s hs
    refine Wa.nl rfl <| Ws.cons <| Wx.assign ?_
    refine We.listM ?_
    refine Wes.cons' <| We.nl rfl rfl <| Wes.nil' ⟨lb rfl, ?_⟩
    intro ln hl
    refine Wa.nl rfl <| Ws.cons ?_
    obtain ⟨nsf, hs'⟩ := fup_none hs
    obtain ⟨nls, hl'⟩ := fup_none hl
    obtain ⟨nlf, hl''⟩ := fup_none hl'
    refine Wx.whileB (β := List PP × List Val) (fun _ => [("line", .ref ln), ("seen", .ref s), ("found", .ref f)])
      (fun b μ' => μ' f = some (.list (b.1.map pairV)) ∧ μ' s = some (.dP (b.1.map fun p => (pkey p, .bool true))) ∧ μ' ln = some (.list (b.2.map enc)) ∧ (∀ a, a ≠ f → a ≠ s → a ≠ ln → μ' a = μ a) ∧ RefI v d 729 b.1 b.2)
      (fun b => (b.2.map sz).sum) ?_ ([], [v]) ?_ ?_
    · rintro ⟨X, stk⟩ μ' ⟨h1, h2, h3, h4, I⟩
      have hlen := len_le_sz stk
      have hsz := I.sz
      dsimp only at hsz
      refine Wt.val <| We.nl rfl rfl ?_
      refine TruV.cell h3 (by rw [List.length_map]; dsimp only; omega) ?_
      rcases nil_or_snoc stk with rfl | ⟨rest, x, rfl⟩
      · refine ite_f rfl ?_
        refine Ws.cons <| Wx.ret <| We.nl rfl rfl ⟨_, rfl, ?_⟩
        have := I.run
        simp only [List.reverse_nil, List.map_nil, List.flatten_nil, addL_nil] at this
        exact ⟨by rw [h1, this], fun b c hb => ⟨ne_of_some hf hb, by rw [h4 b (ne_of_some hf hb) (ne_of_some hs' hb) (ne_of_some hl'' hb)]; exact hb⟩⟩
      · rw [List.map_append, List.sum_append_nat] at hsz hlen
        rw [List.length_append] at hlen
        have e1 : ([x].map sz).sum = sz x := by simp
        have e2 : [x].length = 1 := rfl
        rw [e1] at hsz hlen
        have hx := I.ok x (by simp)
        have hrest : ∀ y ∈ rest, ok d y := fun y hy => I.ok y (by simp [hy])
        have hrun := I.run
        rw [List.reverse_append, List.reverse_singleton, List.singleton_append, List.map_cons, List.flatten_cons, addL_append] at hrun
        refine ite_t not_empty_snoc ?_
        refine Ws.cons <| Wx.assign <| We.meth <| We.nl rfl rfl ?_
        dsimp only at h3
        rw [map_snoc] at h3
        refine ⟨.builtin "list.pop", GetM.lst h3 PySem.F.slot_list_pop PySem.F.type_list_pop, Callee.builtin, ?_⟩
        refine Wes.nil' ?_
        refine CallV.pop h3 (by simp; omega) ?_
        refine Wa.nl rfl <| Ws.cons <| Wx.ite <| Wt.val <| We.call rfl (glisinstance hK) Callee.builtin <| Wes.cons' <| We.nl rfl rfl <| Wes.cons' <| We.globR rfl (glReference hK) <| Wes.nil' <| CallV.isiE (j := 8) (by assumption) rfl ?_; refine TruV.bool ?_
        have hpz := sz_pos (x := x)
        by_cases hr : ∃ p, x = .ref p
        · obtain ⟨p, rfl⟩ := hr
          refine ite_t rfl <| Ws.cons <| Wx.ite <| Wt.cmp <| We.meth <| We.nl rfl rfl ?_
          refine ⟨.ref 239, GetM.inst (me242pair hK) rfl, ce239 hK, ?_⟩
          refine Wes.nil' <| c_pair hK (lb rfl) <| We.nl rfl rfl ?_
          refine CmpV.notInP (k := pkey p) (SeeP.m (kvs := X.map fun p => (pkey p, .bool true)) ((fup_ne _ _ nls.symm).trans h2)) ?_
          refine ⟨_, rfl, ?_⟩
          rw [lk_pkey (f := fun p => p), List.map_id']
          rw [lvsE4, addL_cons, addL_nil] at hrun
          by_cases hm : p ∈ X
          · refine ite_f (by simp [hm]) ?_
            rw [add1_of_mem hm] at hrun
            refine Ws.nil <| Ws.nil <| Ws.nil ?_
            refine ⟨(X, rest), by simp; omega, ?_, ?_⟩
            · exact Sub.cons rfl <| Sub.cons rfl <| Sub.cons rfl <| Sub.nil
            · refine ⟨(fup_ne _ _ nlf.symm).trans h1, (fup_ne _ _ nls.symm).trans h2, fup_self .., fun a a1 a2 a3 => (fup_ne _ _ a3).trans (h4 a a1 a2 a3), hrun, hrest, by dsimp only; omega⟩
          · refine ite_t (by simp [hm]) ?_
            rw [add1_new hm] at hrun
            refine Ws.cons <| Wx.assign <| We.bool <| Wa.sub <| We.nl rfl rfl <| We.meth <| We.nl rfl rfl ?_
            refine ⟨.ref 239, GetM.inst (me242pair hK) rfl, ce239 hK, ?_⟩
            refine Wes.nil' <| c_pair hK (lb rfl) ?_
            refine SetI.dP (k := pkey p) (kvs := X.map fun p => (pkey p, .bool true)) ((fup_ne _ _ nls.symm).trans h2) (by rw [List.length_map]; omega) ?_
            refine Ws.cons <| Wx.expr <| We.meth <| We.nl rfl rfl ?_
            refine ⟨.builtin "list.append", GetM.lst (xs := X.map pairV) ((fup_ne _ _ nsf.symm).trans ((fup_ne _ _ nlf.symm).trans h1)) PySem.F.slot_list_append PySem.F.type_list_append, Callee.builtin, ?_⟩
            refine Wes.cons' <| We.meth <| We.nl rfl rfl ?_
            refine ⟨.ref 239, GetM.inst (me242pair hK) rfl, ce239 hK, ?_⟩
            refine Wes.nil' <| c_pair hK (lb rfl) <| Wes.nil' ?_
            refine CallV.append (xs := X.map pairV) ((fup_ne _ _ nsf.symm).trans ((fup_ne _ _ nlf.symm).trans h1)) (by rw [List.length_map]; omega) ?_
            refine Ws.nil <| Ws.nil <| Ws.nil ?_
            refine ⟨(X ++ [p], rest), by simp; omega, ?_, ?_⟩
            · exact Sub.cons rfl <| Sub.cons rfl <| Sub.cons rfl <| Sub.nil
            · refine ⟨by rw [fup_self, map_snoc], ?_, by rw [fup_ne _ _ nlf, fup_ne _ _ nls, fup_self], fun a a1 a2 a3 => (fup_ne _ _ a1).trans ((fup_ne _ _ a2).trans ((fup_ne _ _ a3).trans (h4 a a1 a2 a3))), hrun, hrest, by rw [List.length_append]; have e3 : [p].length = 1 := rfl; dsimp only; omega⟩
              rw [fup_ne _ _ nsf, fup_self, map_snoc]
              rw [putK_new (by rw [lk_pkey (f := fun p => p), List.map_id']; simp [hm])]
        · have hr' : ∀ p, x ≠ .ref p := fun p e => hr ⟨p, e⟩
          have hb : isB (tagN x) 8 = false := by cases x <;> first | rfl | exact absurd rfl (hr' _)
          refine ite_f hb ?_
          refine Ws.cons (Wx.expr (We.extendRev rfl (glreversed hK) ?_))
          refine We.nl rfl rfl ?_
          refine ⟨ln, rest.map enc, rfl, fup_self .., ?_⟩
          refine We.call rfl (glpartsof hK) (ce275 hK) <| Wes.cons' <| We.nl rfl rfl <| Wes.nil' ?_
          refine c_parts_of hK hx (by omega) ?_
          have hpl := parts_len hx
          have hps := parts_sz hx
          refine ⟨(parts x).map enc, rfl, fup_self .., by rw [List.length_map, List.length_map]; omega, ?_⟩
          refine Ws.nil <| Ws.nil ?_
          have e5 : ((rest ++ (parts x).reverse).map sz).sum + 1 ≤ (rest.map sz).sum + sz x := by
            rw [List.map_append, List.sum_append_nat, List.map_reverse, List.sum_reverse]; omega
          refine ⟨(X, rest ++ (parts x).reverse), by simp only [List.map_append, List.sum_append_nat, e1] at e5 ⊢; omega, ?_⟩
          refine ⟨by exact Sub.cons rfl <| Sub.cons rfl <| Sub.cons rfl <| Sub.nil, (fup_ne _ _ nlf.symm).trans ((fup_ne _ _ nlf.symm).trans h1), (fup_ne _ _ nls.symm).trans ((fup_ne _ _ nls.symm).trans h2), by rw [fup_self]; simp, fun a a1 a2 a3 => (fup_ne _ _ a3).trans ((fup_ne _ _ a3).trans (h4 a a1 a2 a3)), ?_, ?_, by dsimp only; omega⟩
          · dsimp only
            rw [List.reverse_append, List.reverse_reverse, List.map_append, List.flatten_append, addL_append, ← lvs_parts hx hr']
            exact hrun
          · intro y hy
            rcases List.mem_append.mp hy with hy | hy
            · exact hrest y hy
            · exact parts_ok hx y (List.mem_reverse.mp hy)
    · exact Sub.cons rfl <| Sub.cons rfl <| Sub.cons rfl <| Sub.nil
    · refine ⟨by rw [fup_ne _ _ nlf.symm, fup_ne _ _ nsf.symm, fup_self]; rfl, by rw [fup_ne _ _ nls.symm, fup_self]; rfl, fup_self .., fun a a1 a2 a3 => by rw [fup_ne _ _ a3, fup_ne _ _ a2, fup_ne _ _ a1], ?_, ?_, ?_⟩
      · simp [refsIn]
      · intro y hy; rw [List.mem_singleton.mp hy]; exact hv
      · simp; exact hB
end
section
open PySem PySem.W PySem.Calls PyProof.Rows
section
variable {C : Cx} {n : Nat} {μ : Mu}
theorem CodeV.le {n m : Nat} {fv : Value} {args : List V} {Φ : V → Mu → Prop} {μ : Mu} (h : CodeV C m fv args Φ μ) (hm : m ≤ n) : CodeV C n fv args Φ μ := fun A hA => h A (hA.le hm)
theorem CodeV.defK {K : Frag} {n m : Nat} {f : Addr} {o : Obj} {fd : FuncData} {body : List Stmt} {names : List Str} {args : List V} {Φ : V → Mu → Prop} {μ : Mu} (e : C.K = K)
    (hK : K.lookup f = some o) (hd : o.data = .func fd) (hb : fd.body = .stmts body) (ok : defOk K fd names = true)
    (hbind : ∀ vs, vs.length = args.length → bindArgs fd ⟨vs, []⟩ = pure (names.zip vs)) (hn : m + 1 ≤ n)
    (h : ∀ L, Ws C m (callEnvC fd L f) body (kFin Φ) (names.zip args) μ) : CodeV C n (.ref f) args Φ μ :=
  (CodeV.def (by rw [e]; exact hK) hd hb (by rw [e]; exact ok) (dv := []) (dv' := []) (fun _ => .nil) (fun vs hv => Looks.of_pure (by rw [hbind vs hv, List.append_nil])) (by simpa using h)).le hn
theorem Gh.finInst {μ' : Mu} {a d Cc : Addr} {fs : List (Str × V)} (ha : μ' a = some (.inst Cc (some d))) (hd : μ' d = some (.flds fs)) (h : ∀ b c, μ b = some c → b ≠ a ∧ b ≠ d ∧ μ' b = some c) : Gh C (.ref a) μ' (.inst Cc fs) μ :=
  (Gh.inst ha hd).trans (Gh.drop fun b c e => by obtain ⟨h1, h2, h3⟩ := h b c e; rw [fup_ne _ _ h1, fup_ne _ _ h2]; exact h3)
theorem CallV.clsZ {Cc fI : Addr} {args : List V} {fs : List (Str × V)} {Φ : V → Mu → Prop} {m : Nat} (ok : clsOk C.K Cc fI = true) (hn : m + 1 ≤ n) (hΦ : Φ (.inst Cc fs) μ)
    (h : ∀ a d, μ a = none → μ d = none → a ≠ d → CodeV C m (.ref fI) (.ref a :: args) (fun v μ' => v = .none ∧ μ' a = some (.inst Cc (some d)) ∧ μ' d = some (.flds fs) ∧ ∀ b c, μ b = some c → μ' b = some c) (fup (fup μ d (some (.flds []))) a (some (.inst Cc (some d))))) : CallV C n (.ref Cc) args Φ μ := by
  refine CallV.ghost (Φ := fun v μ' => ∃ a d, v = .ref a ∧ μ a = none ∧ μ d = none ∧ μ' a = some (.inst Cc (some d)) ∧ μ' d = some (.flds fs) ∧ ∀ b c, μ b = some c → μ' b = some c) ?_ fun v μ' ⟨a, d, e, h0, h0', h1, h2, h3⟩ => ?_
  · refine ((CodeV.cls ok fun a d h1 h2 h3 => ?_).le hn).call
    intro A hA Z ρ vs s r R
    refine codeAny_mono (h a d h1 h2 h3 A hA Z ρ vs s r R) fun rr s' q => ?_
    rcases rr with e | f
    · exact q
    cases f <;> first | exact q | skip
    obtain ⟨σ', R', x', e', v, rv, ⟨hv, q1, q2, q3⟩⟩ := q
    exact ⟨σ', R', x', e', v, rv, hv, a, d, rfl, h1, h2, q1, q2, q3⟩
  · subst e
    exact ⟨_, μ, Gh.finInst h1 h2 fun b c hb => ⟨ne_of_some h0 hb, ne_of_some h0' hb, h3 b c hb⟩, hΦ⟩
theorem CallV.clsM {Cc fI : Addr} {args : List V} {Φ : V → Mu → Prop} {m : Nat} (ok : clsOk C.K Cc fI = true) (hn : m + 1 ≤ n)
    (h : ∀ a d, μ a = none → μ d = none → a ≠ d → CodeV C m (.ref fI) (.ref a :: args) (fun v μ' => v = .none ∧ Φ (.ref a) μ') (fup (fup μ d (some (.flds []))) a (some (.inst Cc (some d))))) : CallV C n (.ref Cc) args Φ μ :=
  ((CodeV.cls ok h).le hn).call
end
end
section
open PySem PySem.W PySem.Calls PyProof.Rows
theorem c_Reference {C : Cx} (hK : C.K = hd.heap_39 C.w.params) {n : Nat} {p : PP} {Φ : V → Mu → Prop} {μ : Mu} (hn : 2 ≤ n) (h : Φ (enc (.ref p)) μ) : CallV C n (.ref 242) [.int p.1, .int p.2] Φ μ := by
  rw [encE4] at h
  refine CallV.clsZ (m := 1) (cl242 hK) (by omega) h fun a d ha hd hne => ?_
  refine' CodeV.defK (m := 0) (names := ["self", "number", "generation"]) hK ?h1 ?h2 ?h3 ?h4 ?h5 (by omega) ?h6
  case h1 => with_unfolding_all rfl
  case h2 => rfl
  case h3 => rfl
  case h4 => with_unfolding_all rfl
  case h5 => exact bind3 fun _ _ _ => (by with_unfolding_all rfl)
  case h6 =>
    intro L
    refine Ws.cons <| Wx.assign <| We.nl rfl rfl <| Wa.attr <| We.nl rfl rfl ?_
    refine SetA.cell (d := d) (by simp [fup, hne]) (by simp [fup, hne.symm]; rfl) (se242number hK) (by first | exact (by decide : 0 < 1000) | exact (by decide : 1 < 1000)) ?_
    refine Ws.cons <| Wx.assign <| We.nl rfl rfl <| Wa.attr <| We.nl rfl rfl ?_
    refine SetA.cell (d := d) (by simp [fup, hne]) (by simp [fup, hne.symm]; rfl) (se242generation hK) (by first | exact (by decide : 0 < 1000) | exact (by decide : 1 < 1000)) ?_
    refine Ws.nil ?_
    refine ⟨rfl, by simp [fup, hne], by simp [fup]; rfl, fun b c hb => ?_⟩
    have h1 := ne_of_some ha hb
    have h2 := ne_of_some hd hb
    simp [fup, h1, h2, hb]
theorem c_Name {C : Cx} (hK : C.K = hd.heap_39 C.w.params) {n : Nat} {x : Str} {Φ : V → Mu → Prop} {μ : Mu} (hn : 2 ≤ n) (h : Φ (enc (.name x)) μ) : CallV C n (.ref 171) [.str x] Φ μ := by
  rw [encE3] at h
  refine CallV.clsZ (m := 1) (cl171 hK) (by omega) h fun a d ha hd hne => ?_
  refine' CodeV.defK (m := 0) (names := ["self", "text"]) hK ?h1 ?h2 ?h3 ?h4 ?h5 (by omega) ?h6
  case h1 => with_unfolding_all rfl
  case h2 => rfl
  case h3 => rfl
  case h4 => with_unfolding_all rfl
  case h5 => exact bind2 fun _ _ => (by with_unfolding_all rfl)
  case h6 =>
    intro L
    refine Ws.cons <| Wx.assign <| We.nl rfl rfl <| Wa.attr <| We.nl rfl rfl ?_
    refine SetA.cell (d := d) (by simp [fup, hne]) (by simp [fup, hne.symm]; rfl) (se171text hK) (by first | exact (by decide : 0 < 1000) | exact (by decide : 1 < 1000)) ?_
    refine Ws.nil ?_
    refine ⟨rfl, by simp [fup, hne], by simp [fup]; rfl, fun b c hb => ?_⟩
    have h1 := ne_of_some ha hb
    have h2 := ne_of_some hd hb
    simp [fup, h1, h2, hb]
theorem c_Stream {C : Cx} (hK : C.K = hd.heap_39 C.w.params) {n : Nat} {kvs : List (Str × Val)} {b : Array UInt8} {Φ : V → Mu → Prop} {μ : Mu} (hn : 2 ≤ n) (h : Φ (enc (.stm kvs b)) μ) : CallV C n (.ref 214) [.dS (enck kvs), .bytes b] Φ μ := by
  rw [encE7] at h
  refine CallV.clsZ (m := 1) (cl214 hK) (by omega) h fun a d ha hd hne => ?_
  refine' CodeV.defK (m := 0) (names := ["self", "head", "octets"]) hK ?h1 ?h2 ?h3 ?h4 ?h5 (by omega) ?h6
  case h1 => with_unfolding_all rfl
  case h2 => rfl
  case h3 => rfl
  case h4 => with_unfolding_all rfl
  case h5 => exact bind3 fun _ _ _ => (by with_unfolding_all rfl)
  case h6 =>
    intro L
    refine Ws.cons <| Wx.assign <| We.nl rfl rfl <| Wa.attr <| We.nl rfl rfl ?_
    refine SetA.cell (d := d) (by simp [fup, hne]) (by simp [fup, hne.symm]; rfl) (se214head hK) (by first | exact (by decide : 0 < 1000) | exact (by decide : 1 < 1000)) ?_
    refine Ws.cons <| Wx.assign <| We.nl rfl rfl <| Wa.attr <| We.nl rfl rfl ?_
    refine SetA.cell (d := d) (by simp [fup, hne]) (by simp [fup, hne.symm]; rfl) (se214octets hK) (by first | exact (by decide : 0 < 1000) | exact (by decide : 1 < 1000)) ?_
    refine Ws.nil ?_
    refine ⟨rfl, by simp [fup, hne], by simp [fup]; rfl, fun b c hb => ?_⟩
    have h1 := ne_of_some ha hb
    have h2 := ne_of_some hd hb
    simp [fup, h1, h2, hb]
end
section
open PySem PySem.W PySem.Calls PyProof.Rows
theorem Itr.encD {C : Cx} {kvs : List (Str × Val)} : Itr C (.dS (enck kvs)) (kvs.map fun p => V.str p.1) (fun _ => True) := by
  have e : (enck kvs).map (fun p => V.str p.1) = kvs.map fun p => V.str p.1 := by rw [enck_eq, List.map_map]; rfl
  rw [← e]; exact @Itr.dS C (enck kvs)
theorem Itr.encT {C : Cx} {tab : List (Int × Int × Val)} : Itr C (.dI (encT tab)) (tab.map fun r => V.int r.1) (fun _ => True) := by
  have e : (SP.encT tab).map (fun p => V.int p.1) = tab.map fun r => V.int r.1 := by unfold SP.encT; rw [List.map_map]; rfl
  rw [← e]; exact @Itr.dI C (SP.encT tab)
theorem dictOfL_aux {κ : Type} [DecidableEq κ] : ∀ (ps acc : List (κ × V)), ((acc ++ ps).map (·.1)).Nodup → ps.foldl (fun acc p => putK acc p.1 p.2) acc = acc ++ ps
  | [], acc, _ => by simp
  | p :: r, acc, h => by
    rw [List.foldl_cons]
    have hn : lk acc p.1 = none := by
      rw [lk_none]
      intro hm
      rw [List.map_append, List.nodup_append] at h
      exact h.2.2 _ hm _ (by simp) rfl
    rw [putK_new (by rw [hn]; rfl), dictOfL_aux r _ (by rw [List.append_assoc]; exact h), List.append_assoc]; rfl
theorem dictOfL_nodup {κ : Type} [DecidableEq κ] {ps : List (κ × V)} (h : (ps.map (·.1)).Nodup) : dictOfL ps = ps := by
  unfold dictOfL; rw [dictOfL_aux ps [] (by simpa using h)]; simp
theorem renk_enc {tab : PP → Option PP} (kvs : List (Str × Val)) : ((kvs.filter fun p => !(enc (ren tab p.2)).isNone).map fun p => V.tup [.str p.1, enc (ren tab p.2)]) = (enck (renk tab kvs)).map fun p => V.tup [.str p.1, p.2] := by
  rw [enck_eq, renk_eq, List.map_map, List.filter_map, List.map_map]
  congr 1
  exact List.filter_congr fun p _ => by simp [Function.comp, enc_none]
theorem c_renumbered {C : Cx} (hK : C.K = hd.heap_39 C.w.params) {tv : V} {kws : List (List Int × V)} {tab : PP → Option PP} (hT : ∀ p, lk kws (pkey p) = (tab p).map pairV) {μ : Mu} (hs : SeeP C tv kws μ) :
    ∀ (d : Nat) {v : Val}, ok d v → (∀ {n : Nat} {Φ : V → Mu → Prop}, 2 * d + 3 ≤ n → Φ (enc (ren tab v)) μ → CallV C n (.ref 287) [enc v, tv] Φ μ) ∧
      ∀ {kvs : List (Str × Val)}, v = .dict kvs → ∀ {n : Nat} {Φ : V → Mu → Prop}, 2 * d + 2 ≤ n → (∀ a, μ a = none → Φ (.ref a) (fup μ a (some (.dS (enck (renk tab kvs)))))) → CallV C n (.ref 287) [enc v, tv] Φ μ := by
  have leaf : ∀ {v : Val}, (∀ xs, v ≠ .arr xs) → (∀ xs, v ≠ .dict xs) → (∀ xs b, v ≠ .stm xs b) → ∀ {n : Nat} {Φ : V → Mu → Prop}, 3 ≤ n → Φ (enc (ren tab v)) μ → CallV C n (.ref 287) [enc v, tv] Φ μ := by
    intro v a1 a2 a3 n Φ hn h
    refine' CallV.defK (m := 2) (names := ["value", "table"]) hK ?h1 ?h2 ?h3 ?h4 ?h5 (by omega) ?h6
    case h1 => with_unfolding_all rfl
    case h2 => rfl
    case h3 => rfl
    case h4 => with_unfolding_all rfl
    case h5 => exact bind2 fun _ _ => (by with_unfolding_all rfl)
    case h6 =>
      intro L
      cases v with
      | arr xs => exact absurd rfl (a1 xs)
      | dict xs => exact absurd rfl (a2 xs)
      | stm xs b => exact absurd rfl (a3 xs b)
      | nul =>
        refine Ws.cons <| Wx.assign <| We.call rfl (glkindof hK) (ce253 hK) <| Wes.cons' <| We.nc rfl rfl <| Wes.nil' <| c_kind_of hK (lb rfl) <| Wa.nl rfl <| Ws.cons <| Wx.ite <| Wt.cmp <| We.nl rfl rfl <| We.str <| CmpV.eqS ⟨_, rfl, ite_f rfl <| Ws.nil <| Ws.cons <| Wx.ite <| Wt.cmp <| We.nl rfl rfl <| We.str <| CmpV.eqS ⟨_, rfl, ite_f rfl <| Ws.nil <| Ws.cons <| Wx.ite <| Wt.cmp <| We.nl rfl rfl <| We.str <| CmpV.eqS ⟨_, rfl, ite_f rfl <| Ws.nil <| Ws.cons <| Wx.ite <| Wt.cmp <| We.nl rfl rfl <| We.str <| CmpV.eqS ⟨_, rfl, ite_f rfl <| Ws.nil <| Ws.cons <| Wx.ret <| We.nc rfl rfl ?_⟩⟩⟩⟩
        exact h
      | int i =>
        refine Ws.cons <| Wx.assign <| We.call rfl (glkindof hK) (ce253 hK) <| Wes.cons' <| We.nc rfl rfl <| Wes.nil' <| c_kind_of hK (lb rfl) <| Wa.nl rfl <| Ws.cons <| Wx.ite <| Wt.cmp <| We.nl rfl rfl <| We.str <| CmpV.eqS ⟨_, rfl, ite_f rfl <| Ws.nil <| Ws.cons <| Wx.ite <| Wt.cmp <| We.nl rfl rfl <| We.str <| CmpV.eqS ⟨_, rfl, ite_f rfl <| Ws.nil <| Ws.cons <| Wx.ite <| Wt.cmp <| We.nl rfl rfl <| We.str <| CmpV.eqS ⟨_, rfl, ite_f rfl <| Ws.nil <| Ws.cons <| Wx.ite <| Wt.cmp <| We.nl rfl rfl <| We.str <| CmpV.eqS ⟨_, rfl, ite_f rfl <| Ws.nil <| Ws.cons <| Wx.ret <| We.nc rfl rfl ?_⟩⟩⟩⟩
        exact h
      | name s =>
        refine Ws.cons <| Wx.assign <| We.call rfl (glkindof hK) (ce253 hK) <| Wes.cons' <| We.nc rfl rfl <| Wes.nil' <| c_kind_of hK (lb rfl) <| Wa.nl rfl <| Ws.cons <| Wx.ite <| Wt.cmp <| We.nl rfl rfl <| We.str <| CmpV.eqS ⟨_, rfl, ite_f rfl <| Ws.nil <| Ws.cons <| Wx.ite <| Wt.cmp <| We.nl rfl rfl <| We.str <| CmpV.eqS ⟨_, rfl, ite_f rfl <| Ws.nil <| Ws.cons <| Wx.ite <| Wt.cmp <| We.nl rfl rfl <| We.str <| CmpV.eqS ⟨_, rfl, ite_f rfl <| Ws.nil <| Ws.cons <| Wx.ite <| Wt.cmp <| We.nl rfl rfl <| We.str <| CmpV.eqS ⟨_, rfl, ite_f rfl <| Ws.nil <| Ws.cons <| Wx.ret <| We.nc rfl rfl ?_⟩⟩⟩⟩
        exact h
      | ref p =>
        refine Ws.cons <| Wx.assign <| We.call rfl (glkindof hK) (ce253 hK) <| Wes.cons' <| We.nc rfl rfl <| Wes.nil' <| c_kind_of hK (lb rfl) <| Wa.nl rfl <| Ws.cons <| Wx.ite <| Wt.cmp <| We.nl rfl rfl <| We.str <| CmpV.eqS ⟨_, rfl, ite_t rfl <| Ws.cons <| Wx.ite <| Wt.cmp <| We.meth <| We.nc rfl rfl ?_⟩
        refine ⟨.ref 239, GetM.inst (me242pair hK) rfl, ce239 hK, ?_⟩
        refine Wes.nil' <| c_pair hK (lb rfl) <| We.nc rfl rfl ?_
        refine CmpV.notInP (k := pkey p) hs ?_
        refine ⟨_, rfl, ?_⟩
        rw [renE4] at h
        rw [hT p]
        cases e : tab p with
        | none =>
          rw [e] at h
          refine ite_t rfl ?_
          refine Ws.cons <| Wx.ret <| We.none ?_
          exact h
        | some q =>
          rw [e] at h
          refine ite_f rfl ?_
          refine Ws.nil <| Ws.cons <| Wx.assign <| We.sub <| We.nc rfl rfl <| We.meth <| We.nc rfl rfl ?_
          refine ⟨.ref 239, GetM.inst (me242pair hK) rfl, ce239 hK, ?_⟩
          refine Wes.nil' <| c_pair hK (lb rfl) ?_
          refine SubV.dP (k := pkey p) (x := pairV q) hs (by rw [hT p, e]; rfl) ?_
          refine Wa.tuple rfl rfl <| WaL.cons' <| Wa.nl rfl <| WaL.cons' <| Wa.nl rfl <| WaL.nil' <| Ws.cons <| Wx.ret <| We.call rfl (glReference hK) (ce242 hK) <| Wes.cons' <| We.nl rfl rfl <| Wes.cons' <| We.nl rfl rfl <| Wes.nil' <| c_Reference hK (lb rfl) ?_
          exact h
  intro d
  induction d with
  | zero =>
    intro v hv
    refine ⟨fun hn h => leaf (by rintro xs rfl; exact hv) (by rintro xs rfl; exact hv) (by rintro xs b rfl; exact hv) (by omega) h, ?_⟩
    rintro kvs rfl; exact hv.elim
  | succ d ih =>
    intro v hv
    have hdict : ∀ {kvs : List (Str × Val)}, ok (d + 1) (.dict kvs) → ∀ {n : Nat} {Φ : V → Mu → Prop}, 2 * d + 4 ≤ n → (∀ a, μ a = none → Φ (.ref a) (fup μ a (some (.dS (enck (renk tab kvs)))))) → CallV C n (.ref 287) [enc (.dict kvs), tv] Φ μ := by
      intro kvs hv n Φ hn h
      refine' CallV.defK (m := 2 * d + 3) (names := ["value", "table"]) hK ?h1 ?h2 ?h3 ?h4 ?h5 (by omega) ?h6
      case h1 => with_unfolding_all rfl
      case h2 => rfl
      case h3 => rfl
      case h4 => with_unfolding_all rfl
      case h5 => exact bind2 fun _ _ => (by with_unfolding_all rfl)
      case h6 =>
        intro L
        refine Ws.cons <| Wx.assign <| We.call rfl (glkindof hK) (ce253 hK) <| Wes.cons' <| We.nc rfl rfl <| Wes.nil' <| c_kind_of hK (lb rfl) <| Wa.nl rfl <| Ws.cons <| Wx.ite <| Wt.cmp <| We.nl rfl rfl <| We.str <| CmpV.eqS ⟨_, rfl, ite_f rfl <| Ws.nil <| Ws.cons <| Wx.ite <| Wt.cmp <| We.nl rfl rfl <| We.str <| CmpV.eqS ⟨_, rfl, ite_f rfl <| Ws.nil <| Ws.cons <| Wx.ite <| Wt.cmp <| We.nl rfl rfl <| We.str <| CmpV.eqS ⟨_, rfl, ite_t rfl <| Ws.cons ?_⟩⟩⟩
        have hlk : ∀ p ∈ kvs, lk (enck kvs) p.1 = some (enc p.2) := fun p hp => by rw [lk_getK (List.mem_map.mpr ⟨p, hp, rfl⟩), getK_of_mem hv.2.1 hp]
        refine Wx.assignComp (by with_unfolding_all rfl) (by with_unfolding_all rfl) (by left; rfl) ?_
        refine We.nc rfl rfl ?_
        refine ⟨kvs.map fun p => V.str p.1, fun _ => True, by rw [encE6]; exact Itr.encD, by rw [List.length_map]; have := hv.1; omega,
          fun Cl => CompL.map (f := fun p => V.tup [.str p.1, enc (ren tab p.2)]) trivial (fun p hp Ψ hΨ => ?_) ?_⟩
        · refine We.tuple <| Wes.cons' <| We.nl rfl rfl <| Wes.cons' <| We.call rfl (glrenumbered hK) (ce287 hK) <| Wes.cons' <| We.sub <| We.nc rfl rfl <| We.nl rfl rfl ?_
          refine SubV.dS (kvs := enck kvs) SeeS.z (hlk p hp) ?_
          refine Wes.cons' <| We.nc rfl rfl <| Wes.nil' ?_
          refine (ih (hv.2.2 p hp)).1 (by omega) ?_
          refine Wes.nil' ⟨lb rfl, ?_⟩
          exact hΨ
        · rw [List.nil_append]
          refine Ws.cons <| Wx.ret <| We.call rfl (gldict hK) Callee.type <| Wes.cons' <| We.comp (by with_unfolding_all rfl) ?_; refine We.nl rfl rfl ?_
          refine ⟨kvs.map fun p => V.tup [.str p.1, enc (ren tab p.2)], fun _ => True, Itr.list, by rw [List.length_map]; have := hv.1; omega,
            fun Cl => CompL.filt (p := fun p => !(enc (ren tab p.2)).isNone) (f := fun p => V.tup [.str p.1, enc (ren tab p.2)]) trivial (fun p hp Ψ hΨ => ?_) (fun p hp hq Ψ hΨ => ?_) ?_⟩
          · refine Wt.cmp <| We.sub <| We.nl rfl rfl <| We.int <| SubV.tup (by decide) rfl (by decide) <| We.none <| CmpV.isNotNone ⟨_, rfl, ?_⟩
            exact hΨ
          · refine We.nl rfl rfl ?_
            exact hΨ
          · rw [List.nil_append, renk_enc]
            refine Wes.nil' ?_
            refine CallV.dictL dkS (n := 2 * d + 2) (by rw [enck_len]; have := renk_len (tab := tab) kvs; have := hv.1; omega) fun a ha => ?_
            rw [dictOfL_nodup (by rw [enck_keys]; exact renk_nodup hv.2.1)]
            exact h a ha
    refine ⟨fun {n Φ} hn h => ?_, ?_⟩
    · cases v with
      | arr xs =>
        refine' CallV.defK (m := 2 * d + 3) (names := ["value", "table"]) hK ?h1 ?h2 ?h3 ?h4 ?h5 (by omega) ?h6
        case h1 => with_unfolding_all rfl
        case h2 => rfl
        case h3 => rfl
        case h4 => with_unfolding_all rfl
        case h5 => exact bind2 fun _ _ => (by with_unfolding_all rfl)
        case h6 =>
          intro L
          refine Ws.cons <| Wx.assign <| We.call rfl (glkindof hK) (ce253 hK) <| Wes.cons' <| We.nc rfl rfl <| Wes.nil' <| c_kind_of hK (lb rfl) <| Wa.nl rfl <| Ws.cons <| Wx.ite <| Wt.cmp <| We.nl rfl rfl <| We.str <| CmpV.eqS ⟨_, rfl, ite_f rfl <| Ws.nil <| Ws.cons <| Wx.ite <| Wt.cmp <| We.nl rfl rfl <| We.str <| CmpV.eqS ⟨_, rfl, ite_t rfl <| Ws.cons <| Wx.ret <| We.comp (by with_unfolding_all rfl) ?_⟩⟩; refine We.nc rfl rfl ?_
          refine ⟨xs.map enc, fun _ => True, by rw [encE5, encs_eq]; exact Itr.list, by rw [List.length_map]; have := hv.1; omega, fun Cl => CompL.map (f := fun x => enc (ren tab x)) trivial (fun b hb Ψ hΨ => ?_) ?_⟩
          · refine We.call rfl (glrenumbered hK) (ce287 hK) <| Wes.cons' <| We.nl rfl rfl <| Wes.cons' <| We.nc rfl rfl <| Wes.nil' ?_
            exact (ih (hv.2 b hb)).1 (by omega) hΨ
          · rw [renE5, encE5, encs_eq, rens_eq, List.map_map] at h
            exact h
      | dict kvs =>
        refine CallV.fin .dS (by rw [renE6, encE6] at h; exact h) (hdict hv (by omega) fun a ha => ⟨a, rfl, fup_self .., fun b c hb => ?_⟩)
        have := ne_of_some ha hb
        exact ⟨this, (fup_ne _ _ this).trans hb⟩
      | stm kvs b =>
        refine' CallV.defK (m := 2 * d + 4) (names := ["value", "table"]) hK ?h1 ?h2 ?h3 ?h4 ?h5 (by omega) ?h6
        case h1 => with_unfolding_all rfl
        case h2 => rfl
        case h3 => rfl
        case h4 => with_unfolding_all rfl
        case h5 => exact bind2 fun _ _ => (by with_unfolding_all rfl)
        case h6 =>
          intro L
          refine Ws.cons <| Wx.assign <| We.call rfl (glkindof hK) (ce253 hK) <| Wes.cons' <| We.nc rfl rfl <| Wes.nil' <| c_kind_of hK (lb rfl) <| Wa.nl rfl <| Ws.cons <| Wx.ite <| Wt.cmp <| We.nl rfl rfl <| We.str <| CmpV.eqS ⟨_, rfl, ite_f rfl <| Ws.nil <| Ws.cons <| Wx.ite <| Wt.cmp <| We.nl rfl rfl <| We.str <| CmpV.eqS ⟨_, rfl, ite_f rfl <| Ws.nil <| Ws.cons <| Wx.ite <| Wt.cmp <| We.nl rfl rfl <| We.str <| CmpV.eqS ⟨_, rfl, ite_f rfl <| Ws.nil <| Ws.cons <| Wx.ite <| Wt.cmp <| We.nl rfl rfl <| We.str <| CmpV.eqS ⟨_, rfl, ite_t rfl <| Ws.cons <| Wx.ret <| We.call rfl (glStream hK) (ce214 hK) <| Wes.cons' <| We.call rfl (glrenumbered hK) (ce287 hK) <| Wes.cons' <| We.attr <| We.nc rfl rfl <| AttV.inst (at214head hK) rfl <| Wes.cons' <| We.nc rfl rfl <| Wes.nil' ?_⟩⟩⟩⟩
          refine CallV.fin (v := .dS (enck (renk tab kvs))) .dS ?_ (hdict (kvs := kvs) hv (by omega) fun a ha => ⟨a, rfl, fup_self .., fun b c hb => ?_⟩)
          · refine Wes.cons' <| We.attr <| We.nc rfl rfl <| AttV.inst (at214octets hK) rfl <| Wes.nil' <| c_Stream hK (lb rfl) ?_
            exact h
          · have := ne_of_some ha hb
            exact ⟨this, (fup_ne _ _ this).trans hb⟩
      | _ => exact leaf (by simp) (by simp) (by simp) (by omega) h
    · rintro kvs rfl n Φ hn h
      exact hdict hv (by omega) h
end
section
open PySem PySem.W PySem.Calls PyProof.Rows
theorem c_copied {C : Cx} (hK : C.K = hd.heap_39 C.w.params) : ∀ (d : Nat) {v : Val}, ok d v → ∀ {n : Nat} {Φ : V → Mu → Prop} {μ : Mu}, 2 * d + 3 ≤ n → Φ (enc v) μ → CallV C n (.ref 270) [enc v] Φ μ := by
  have leaf : ∀ {v : Val}, (∀ xs, v ≠ .arr xs) → (∀ xs, v ≠ .dict xs) → (∀ xs b, v ≠ .stm xs b) → ∀ {n : Nat} {Φ : V → Mu → Prop} {μ : Mu}, 3 ≤ n → Φ (enc v) μ → CallV C n (.ref 270) [enc v] Φ μ := by
    intro v a1 a2 a3 n Φ μ hn h
    refine' CallV.defK (m := 2) (names := ["value"]) hK ?h1 ?h2 ?h3 ?h4 ?h5 (by omega) ?h6
    case h1 => with_unfolding_all rfl
    case h2 => rfl
    case h3 => rfl
    case h4 => with_unfolding_all rfl
    case h5 => exact bind1 fun _ => (by with_unfolding_all rfl)
    case h6 =>
      intro L
      cases v with
      | arr xs => exact absurd rfl (a1 xs)
      | dict xs => exact absurd rfl (a2 xs)
      | stm xs b => exact absurd rfl (a3 xs b)
      | _ =>
        refine Ws.cons <| Wx.assign <| We.call rfl (glkindof hK) (ce253 hK) <| Wes.cons' <| We.nc rfl rfl <| Wes.nil' <| c_kind_of hK (lb rfl) <| Wa.nl rfl <| Ws.cons <| Wx.ite <| Wt.cmp <| We.nl rfl rfl <| We.str <| CmpV.eqS ⟨_, rfl, ite_f rfl <| Ws.nil <| Ws.cons <| Wx.ite <| Wt.cmp <| We.nl rfl rfl <| We.str <| CmpV.eqS ⟨_, rfl, ite_f rfl <| Ws.nil <| Ws.cons <| Wx.ite <| Wt.cmp <| We.nl rfl rfl <| We.str <| CmpV.eqS ⟨_, rfl, ite_f rfl <| Ws.nil <| Ws.cons <| Wx.ret <| We.nc rfl rfl ?_⟩⟩⟩
        exact h
  intro d
  induction d with
  | zero =>
    intro v hv n Φ μ hn h
    exact leaf (by rintro xs rfl; exact hv) (by rintro xs rfl; exact hv) (by rintro xs b rfl; exact hv) (by omega) h
  | succ d ih =>
    have hdict : ∀ {kvs : List (Str × Val)}, ok (d + 1) (.dict kvs) → ∀ {n : Nat} {Φ : V → Mu → Prop} {μ : Mu}, 2 * d + 4 ≤ n → Φ (enc (.dict kvs)) μ → CallV C n (.ref 270) [enc (.dict kvs)] Φ μ := by
      intro kvs hv n Φ μ hn h
      refine CallV.fin (c := .dS (enck kvs)) .dS (by rw [encE6] at h; exact h) ?_
      refine' CallV.defK (m := 2 * d + 3) (names := ["value"]) hK ?h1 ?h2 ?h3 ?h4 ?h5 (by omega) ?h6
      case h1 => with_unfolding_all rfl
      case h2 => rfl
      case h3 => rfl
      case h4 => with_unfolding_all rfl
      case h5 => exact bind1 fun _ => (by with_unfolding_all rfl)
      case h6 =>
        intro L
        refine Ws.cons <| Wx.assign <| We.call rfl (glkindof hK) (ce253 hK) <| Wes.cons' <| We.nc rfl rfl <| Wes.nil' <| c_kind_of hK (lb rfl) <| Wa.nl rfl <| Ws.cons <| Wx.ite <| Wt.cmp <| We.nl rfl rfl <| We.str <| CmpV.eqS ⟨_, rfl, ite_f rfl <| Ws.nil <| Ws.cons <| Wx.ite <| Wt.cmp <| We.nl rfl rfl <| We.str <| CmpV.eqS ⟨_, rfl, ite_t rfl <| Ws.cons <| Wx.ret <| We.call rfl (gldict hK) Callee.type <| Wes.cons' <| We.comp (by with_unfolding_all rfl) ?_⟩⟩; refine We.nc rfl rfl ?_
        have hlk : ∀ p ∈ kvs, lk (enck kvs) p.1 = some (enc p.2) := fun p hp => by rw [lk_getK (List.mem_map.mpr ⟨p, hp, rfl⟩), getK_of_mem hv.2.1 hp]
        refine ⟨kvs.map fun p => V.str p.1, fun _ => True, by rw [encE6]; exact Itr.encD, by rw [List.length_map]; have := hv.1; omega,
          fun Cl => CompL.map (f := fun p => V.tup [.str p.1, enc p.2]) trivial (fun p hp Ψ hΨ => ?_) ?_⟩
        · refine We.tuple <| Wes.cons' <| We.nl rfl rfl <| Wes.cons' <| We.call rfl (glcopied hK) (ce270 hK) <| Wes.cons' <| We.sub <| We.nc rfl rfl <| We.nl rfl rfl ?_
          refine SubV.dS (kvs := enck kvs) SeeS.z (hlk p hp) ?_
          refine Wes.nil' ?_
          refine ih (hv.2.2 p hp) (by omega) ?_
          refine Wes.nil' ⟨lb rfl, ?_⟩
          exact hΨ
        · have e : (kvs.map fun p => V.tup [.str p.1, enc p.2]) = (enck kvs).map fun p => V.tup [.str p.1, p.2] := by rw [enck_eq, List.map_map]; rfl
          rw [List.nil_append, e]
          refine Wes.nil' ?_
          refine CallV.dictL dkS (n := 2 * d + 2) (by rw [enck_len]; have := hv.1; omega) fun a ha => ?_
          rw [dictOfL_nodup (by rw [enck_keys]; exact hv.2.1)]
          exact ⟨a, rfl, fup_self .., fun b c hb => ⟨ne_of_some ha hb, by rw [fup_ne _ _ (ne_of_some ha hb)]; exact hb⟩⟩
    intro v hv n Φ μ hn h
    cases v with
    | arr xs =>
      refine' CallV.defK (m := 2 * d + 3) (names := ["value"]) hK ?h1 ?h2 ?h3 ?h4 ?h5 (by omega) ?h6
      case h1 => with_unfolding_all rfl
      case h2 => rfl
      case h3 => rfl
      case h4 => with_unfolding_all rfl
      case h5 => exact bind1 fun _ => (by with_unfolding_all rfl)
      case h6 =>
        intro L
        refine Ws.cons <| Wx.assign <| We.call rfl (glkindof hK) (ce253 hK) <| Wes.cons' <| We.nc rfl rfl <| Wes.nil' <| c_kind_of hK (lb rfl) <| Wa.nl rfl <| Ws.cons <| Wx.ite <| Wt.cmp <| We.nl rfl rfl <| We.str <| CmpV.eqS ⟨_, rfl, ite_t rfl <| Ws.cons <| Wx.ret <| We.comp (by with_unfolding_all rfl) ?_⟩; refine We.nc rfl rfl ?_
        refine ⟨xs.map enc, fun _ => True, by rw [encE5, encs_eq]; exact Itr.list, by rw [List.length_map]; have := hv.1; omega, fun Cl => CompL.map (f := enc) trivial (fun b hb Ψ hΨ => ?_) ?_⟩
        · refine We.call rfl (glcopied hK) (ce270 hK) <| Wes.cons' <| We.nl rfl rfl <| Wes.nil' ?_
          exact ih (hv.2 b hb) (by omega) hΨ
        · rw [encE5, encs_eq] at h
          exact h
    | dict kvs => exact hdict hv (by omega) h
    | stm kvs b =>
      refine' CallV.defK (m := 2 * d + 4) (names := ["value"]) hK ?h1 ?h2 ?h3 ?h4 ?h5 (by omega) ?h6
      case h1 => with_unfolding_all rfl
      case h2 => rfl
      case h3 => rfl
      case h4 => with_unfolding_all rfl
      case h5 => exact bind1 fun _ => (by with_unfolding_all rfl)
      case h6 =>
        intro L
        refine Ws.cons <| Wx.assign <| We.call rfl (glkindof hK) (ce253 hK) <| Wes.cons' <| We.nc rfl rfl <| Wes.nil' <| c_kind_of hK (lb rfl) <| Wa.nl rfl <| Ws.cons <| Wx.ite <| Wt.cmp <| We.nl rfl rfl <| We.str <| CmpV.eqS ⟨_, rfl, ite_f rfl <| Ws.nil <| Ws.cons <| Wx.ite <| Wt.cmp <| We.nl rfl rfl <| We.str <| CmpV.eqS ⟨_, rfl, ite_f rfl <| Ws.nil <| Ws.cons <| Wx.ite <| Wt.cmp <| We.nl rfl rfl <| We.str <| CmpV.eqS ⟨_, rfl, ite_t rfl <| Ws.cons <| Wx.ret <| We.call rfl (glStream hK) (ce214 hK) <| Wes.cons' <| We.call rfl (glcopied hK) (ce270 hK) <| Wes.cons' <| We.attr <| We.nc rfl rfl <| AttV.inst (at214head hK) rfl <| Wes.nil' ?_⟩⟩⟩
        refine hdict (kvs := kvs) hv (by omega) ?_
        refine Wes.cons' <| We.attr <| We.nc rfl rfl <| AttV.inst (at214octets hK) rfl <| Wes.nil' <| c_Stream hK (lb rfl) ?_
        exact h
    | _ => exact leaf (by simp) (by simp) (by simp) (by omega) h
theorem K_places (C : Cx) (hK : C.K = hd.heap_39 C.w.params) : ∃ a o, globIn C.K "PLACES_OF_FILES" = some (.ref a) ∧ C.K.lookup a = some o ∧ ∃ t1 t2 t3 q, o = tupObj [.str (Str.ofString "Size") t1, .str (Str.ofString "Prev") t2, .str (Str.ofString "XRefStm") t3] q := by
  rw [hK]
  refine ⟨_, _, by with_unfolding_all rfl, by with_unfolding_all rfl, _, _, _, _, by with_unfolding_all rfl⟩
end
section
open PySem PySem.W PySem.Calls PyProof.Rows
theorem plain_len {S : Shf} : (plain S).length ≤ S.tr.length := List.length_filter_le _ _
theorem c_plain_trailer {C : Cx} (hK : C.K = hd.heap_39 C.w.params) {S : Shf} (hS : ShOk S) {n : Nat} {Φ : V → Mu → Prop} {μ : Mu} (hn : 2 ≤ n) (h : Φ (enc (.dict (plain S))) μ) : CallV C n (.ref 395) [encS S] Φ μ := by
  rw [encE6] at h
  refine CallV.fin (c := .dS (enck (plain S))) .dS h ?_
  refine' CallV.defK (m := 1) (names := ["shelf"]) hK ?h1 ?h2 ?h3 ?h4 ?h5 (by omega) ?h6
  case h1 => with_unfolding_all rfl
  case h2 => rfl
  case h3 => rfl
  case h4 => with_unfolding_all rfl
  case h5 => exact bind1 fun _ => (by with_unfolding_all rfl)
  case h6 =>
    intro L
    obtain ⟨pa, po, p1, p2, t1, t2, t3, q, p3⟩ := K_places C hK
    unfold encS
    refine Ws.cons <| Wx.ret <| We.call rfl (gldict hK) Callee.type <| Wes.cons' <| We.comp (by with_unfolding_all rfl) ?_; refine We.attr <| We.nc rfl rfl <| AttV.inst (at373trailer hK) rfl ?_
    have hlk : ∀ p ∈ S.tr, lk (enck S.tr) p.1 = some (enc p.2) := fun p hp => by rw [lk_getK (List.mem_map.mpr ⟨p, hp, rfl⟩), getK_of_mem hS.tr.2.1 hp]
    refine ⟨S.tr.map fun p => V.str p.1, fun _ => True, Itr.encD, by rw [List.length_map]; have := hS.tr.1; omega,
          fun Cl => CompL.filt (p := fun p => !places.any (· == p.1)) (f := fun p => V.tup [.str p.1, enc p.2]) trivial (fun p hp Ψ hΨ => ?_) (fun p hp hq Ψ hΨ => ?_) ?_⟩
    · refine Wt.cmp <| We.nl rfl rfl ?_
      refine We.glob (v := .tup ([Str.ofString "Size", Str.ofString "Prev", Str.ofString "XRefStm"].map V.str)) rfl p1 (fun Z hZ => ?_) ?_
      · subst p3
        exact VRel.ofTup (hZ _ _ p2) (.cons (.str _ _) (.cons (.str _ _) (.one (.str _ _))))
      · refine CmpV.notInT ⟨_, rfl, ?_⟩
        exact hΨ
    · refine We.tuple <| Wes.cons' <| We.nl rfl rfl <| Wes.cons' <| We.sub <| We.attr <| We.nc rfl rfl <| AttV.inst (at373trailer hK) rfl <| We.nl rfl rfl ?_
      refine SubV.dS (kvs := enck S.tr) SeeS.z (hlk p hp) ?_
      refine Wes.nil' ⟨lb rfl, ?_⟩
      exact hΨ
    · have e : ((S.tr.filter fun p => !places.any (· == p.1)).map fun p => V.tup [.str p.1, enc p.2]) = (enck (plain S)).map fun p => V.tup [.str p.1, p.2] := by rw [enck_eq, List.map_map]; rfl
      rw [List.nil_append, e]
      refine Wes.nil' ?_
      refine CallV.dictL dkS (n := 0) (by rw [enck_len]; have := plain_len (S := S); have := hS.tr.1; omega) fun a ha => ?_
      rw [dictOfL_nodup (by rw [enck_keys]; exact (ok_plain hS).2.1)]
      exact ⟨a, rfl, fup_self .., fun b c hb => ⟨ne_of_some ha hb, by rw [fup_ne _ _ (ne_of_some ha hb)]; exact hb⟩⟩
theorem c_numbers {C : Cx} (hK : C.K = hd.heap_39 C.w.params) {sv : V} {kvs : List (Int × V)} {n : Nat} {Φ : V → Mu → Prop} {μ : Mu} (hatt : ∀ (m : Nat) (Ψ : V → Mu → Prop), (∀ tv, SeeI C tv kvs μ → Ψ tv μ) → AttV C m sv "table" Ψ μ) (hz : kvs.length < 64) (hn : 1 ≤ n)
    (h : Φ (.list ((sortI (kvs.map (·.1))).map V.int)) μ) : CallV C n (.ref 358) [sv] Φ μ := by
  refine' CallV.defK (m := 0) (names := ["self"]) hK ?h1 ?h2 ?h3 ?h4 ?h5 (by omega) ?h6
  case h1 => with_unfolding_all rfl
  case h2 => rfl
  case h3 => rfl
  case h4 => with_unfolding_all rfl
  case h5 => exact bind1 fun _ => (by with_unfolding_all rfl)
  case h6 =>
    intro L
    refine Ws.cons (Wx.ret ?_)
    refine We.call rfl (glsorted hK) Callee.builtin ?_
    refine Wes.cons' (We.attr ?_)
    refine We.nl rfl rfl ?_
    refine hatt _ _ fun tv hv => ?_
    refine Wes.nil' ?_
    refine CallV.sortedI hv hz ?_
    exact h
theorem att_table {C : Cx} (hK : C.K = hd.heap_39 C.w.params) {S : Shf} {μ : Mu} (m : Nat) (Ψ : V → Mu → Prop) (h : ∀ tv, SeeI C tv (encT S.tab) μ → Ψ tv μ) : AttV C m (encS S) "table" Ψ μ :=
  AttV.inst (at373table hK) rfl (h _ SeeI.z)
theorem c_numbersS {C : Cx} (hK : C.K = hd.heap_39 C.w.params) {S : Shf} (hS : ShOk S) {n : Nat} {Φ : V → Mu → Prop} {μ : Mu} (hn : 1 ≤ n) (h : Φ (.list ((numsP S).map V.int)) μ) : CallV C n (.ref 358) [encS S] Φ μ :=
  c_numbers hK (fun m Ψ h => att_table hK m Ψ h) (by rw [encT_len]; have := hS.len; omega) hn (by rw [encT_keys]; exact h)
theorem c_put {C : Cx} (hK : C.K = hd.heap_39 C.w.params) {a d t : Addr} {fs : List (Str × V)} {kvs : List (Int × V)} {i g : Int} {v : V} {n : Nat} {Φ : V → Mu → Prop} {μ : Mu} (ha : μ a = some (.inst aShelf (some d))) (hd : μ d = some (.flds fs)) (hf : fs.lookup (Str.ofString "table") = some (V.ref t)) (ht : μ t = some (.dI kvs)) (hz : kvs.length ≤ 1000) (hn : 1 ≤ n)
    (h : Φ .none (fup μ t (some (.dI (putK kvs i (.tup [.int g, v])))))) : CallV C n (.ref 337) [.ref a, .int i, .int g, v] Φ μ := by
  refine' CallV.defK (m := 0) (names := ["self", "number", "generation", "value"]) hK ?h1 ?h2 ?h3 ?h4 ?h5 (by omega) ?h6
  case h1 => with_unfolding_all rfl
  case h2 => rfl
  case h3 => rfl
  case h4 => with_unfolding_all rfl
  case h5 => exact bind4 fun _ _ _ _ => (by with_unfolding_all rfl)
  case h6 =>
    intro L
    refine Ws.cons <| Wx.assign <| We.tuple <| Wes.cons' <| We.nl rfl rfl <| Wes.cons' <| We.nl rfl rfl <| Wes.nil' ⟨lb rfl, Wa.sub <| We.attr <| We.nl rfl rfl ?_⟩
    refine AttV.ref ha hd (at373table hK) hf ?_
    refine We.nl rfl rfl ?_
    refine SetI.dI ht (by omega) ?_
    refine Ws.nil ?_
    exact h
theorem rowV_lk {S : Shf} {k : Int} (h : k ∈ numsP S) : ∃ r, lk (encT S.tab) k = some (.tup [.int r.1, enc r.2]) ∧ rowV S k = .tup [.int k, .int r.1, told r.2] ∧ (k, r) ∈ S.tab := by
  obtain ⟨r, hr⟩ := look_some (nums_mem.mp h)
  exact ⟨r, by rw [lk_encT, hr]; rfl, by unfold rowV; rw [hr], look_mem hr⟩
theorem numsP_len {S : Shf} : (numsP S).length = S.tab.length := by unfold numsP; rw [(sortI_perm _).length_eq, List.length_map]
theorem c_toldS {C : Cx} (hK : C.K = hd.heap_39 C.w.params) {S : Shf} (hS : ShOk S) {n : Nat} {Φ : V → Mu → Prop} {μ : Mu} (hn : 10 ≤ n) (h : Φ (toldS S) μ) : CallV C n (.ref 370) [encS S] Φ μ := by
  refine' CallV.defK (m := 9) (names := ["self"]) hK ?h1 ?h2 ?h3 ?h4 ?h5 (by omega) ?h6
  case h1 => with_unfolding_all rfl
  case h2 => rfl
  case h3 => rfl
  case h4 => with_unfolding_all rfl
  case h5 => exact bind1 fun _ => (by with_unfolding_all rfl)
  case h6 =>
    intro L
    refine Ws.cons <| Wx.assign <| We.call rfl (gltuple hK) Callee.type <| Wes.cons' <| We.comp (by with_unfolding_all rfl) ?_; refine We.meth <| We.nc rfl rfl ?_
    refine ⟨.ref 358, GetM.inst (me373numbers hK) rfl, ce358 hK, ?_⟩
    refine Wes.nil' ?_
    refine c_numbersS hK hS (by omega) ?_
    refine ⟨(numsP S).map V.int, fun _ => True, Itr.list, by rw [List.length_map, numsP_len]; have := hS.len; omega, fun Cl => CompL.map (f := rowV S) trivial (fun k hk Ψ hΨ => ?_) ?_⟩
    · obtain ⟨r, h1, h2, h3⟩ := rowV_lk hk
      rw [h2] at hΨ
      unfold encS
      refine We.tuple <| Wes.cons' <| We.nl rfl rfl <| Wes.cons' <| We.sub <| We.sub <| We.attr <| We.nc rfl rfl <| AttV.inst (at373table hK) rfl <| We.nl rfl rfl ?_
      refine SubV.dI SeeI.z h1 ?_
      refine We.int <| SubV.tup (by decide) rfl (by decide) <| Wes.cons' <| We.call rfl (gltoldobjects hK) (ce265 hK) <| Wes.cons' <| We.sub <| We.sub <| We.attr <| We.nc rfl rfl <| AttV.inst (at373table hK) rfl <| We.nl rfl rfl ?_
      refine SubV.dI SeeI.z h1 ?_
      refine We.int <| SubV.tup (by decide) rfl (by decide) <| Wes.nil' ?_
      refine c_told hK 2 (hS.vals _ h3) (by omega) ?_
      refine Wes.nil' ⟨lb rfl, ?_⟩
      exact hΨ
    · rw [List.nil_append]
      refine Wes.nil' ?_
      refine CallV.tupleL SeeL.z (by rw [List.length_map, numsP_len]; have := hS.len; omega) ?_
      unfold encS
      refine Wa.nl rfl <| Ws.cons <| Wx.ret <| We.tuple <| Wes.cons' <| We.nl rfl rfl <| Wes.cons' <| We.call rfl (gltoldobjects hK) (ce265 hK) <| Wes.cons' <| We.attr <| We.nc rfl rfl <| AttV.inst (at373trailer hK) rfl <| Wes.nil' ?_
      refine c_told (v := .dict S.tr) hK 3 hS.tr (by omega) ?_
      refine Wes.nil' ⟨lb rfl, ?_⟩
      exact h
end
section
open PySem PySem.W PySem.Calls PyProof.Rows
theorem Wall.nil' {C : Cx} {n : Nat} {env : Env} {l : Loc} {μ : Mu} {op : BoolOp} {Φ : Bool → Mu → Prop} (h : Φ (op == .And) μ) : Wall C n env op Φ l [] μ := h
theorem c_seen_as {C : Cx} (hK : C.K = hd.heap_39 C.w.params) {S : Shf} {v : Val} {n : Nat} {Φ : V → Mu → Prop} {μ : Mu} (hn : 2 ≤ n) (h : Φ (enc (seen S v)) μ) : CallV C n (.ref 424) [encS S, enc v] Φ μ := by
  refine' CallV.defK (m := 1) (names := ["shelf", "value"]) hK ?h1 ?h2 ?h3 ?h4 ?h5 (by omega) ?h6
  case h1 => with_unfolding_all rfl
  case h2 => rfl
  case h3 => rfl
  case h4 => with_unfolding_all rfl
  case h5 => exact bind2 fun _ _ => (by with_unfolding_all rfl)
  case h6 =>
    intro L
    by_cases hr : ∃ p, v = .ref p
    · obtain ⟨p, rfl⟩ := hr
      refine Ws.cons <| Wx.ite <| Wt.boolop <| Wall.cons' <| Wt.val <| We.call rfl (glisinstance hK) Callee.builtin <| Wes.cons' <| We.nl rfl rfl <| Wes.cons' <| We.globR rfl (glReference hK) <| Wes.nil' <| CallV.isiE (j := 8) (by assumption) rfl ?_; refine TruV.bool <| Wall.cons' <| Wt.not <| Wt.val <| We.call rfl (glisthere hK) (ce390 hK) <| Wes.cons' <| We.nl rfl rfl <| Wes.cons' <| We.meth <| We.nl rfl rfl ?_
      refine ⟨.ref 239, GetM.inst (me242pair hK) rfl, ce239 hK, ?_⟩
      refine Wes.nil' <| c_pair hK (lb rfl) <| Wes.nil' <| c_is_there hK (lb rfl) <| TruV.bool ?_
      rw [seen_refE] at h
      cases ht : there S p with
      | true =>
        rw [ht] at h
        refine Ws.nil <| Ws.cons <| Wx.ret <| We.nl rfl rfl ?_
        exact h
      | false =>
        rw [ht] at h
        refine Ws.cons <| Wx.ret <| We.none ?_
        exact h
    · have hr' : ∀ p, v ≠ .ref p := fun p e => hr ⟨p, e⟩
      have hb : isB (tagN v) 8 = false := by cases v <;> first | rfl | exact absurd rfl (hr' _)
      have hs : seen S v = v := by cases v <;> first | rfl | exact absurd rfl (hr' _)
      rw [hs] at h
      refine Ws.cons <| Wx.ite <| Wt.boolop <| Wall.cons' <| Wt.val <| We.call rfl (glisinstance hK) Callee.builtin <| Wes.cons' <| We.nl rfl rfl <| Wes.cons' <| We.globR rfl (glReference hK) <| Wes.nil' <| CallV.isiE (j := 8) (by assumption) rfl ?_; refine TruV.bool ?_
      rw [hb]
      refine ite_f rfl <| Ws.nil <| Ws.cons <| Wx.ret <| We.nl rfl rfl ?_
      exact h
theorem c_solid_keys {C : Cx} (hK : C.K = hd.heap_39 C.w.params) {S : Shf} {d : Nat} {kvs : List (Str × Val)} (hv : ok d (.dict kvs)) {n : Nat} {Φ : V → Mu → Prop} {μ : Mu} (hn : 3 ≤ n) (h : Φ (.list ((solid S kvs).map V.str)) μ) : CallV C n (.ref 429) [encS S, .dS (enck kvs)] Φ μ := by
  cases d with
  | zero => exact hv.elim
  | succ d =>
  refine' CallV.defK (m := 2) (names := ["shelf", "head"]) hK ?h1 ?h2 ?h3 ?h4 ?h5 (by omega) ?h6
  case h1 => with_unfolding_all rfl
  case h2 => rfl
  case h3 => rfl
  case h4 => with_unfolding_all rfl
  case h5 => exact bind2 fun _ _ => (by with_unfolding_all rfl)
  case h6 =>
    intro L
    refine Ws.cons <| Wx.ret <| We.comp (by with_unfolding_all rfl) ?_; refine We.call rfl (glsorted hK) Callee.builtin <| Wes.cons' <| We.nc rfl rfl <| Wes.nil' ?_
    refine CallV.sortedS (kvs := enck kvs) SeeS.z (by rw [enck_len]; have := hv.1; omega) ?_
    refine ⟨(sortS (kvs.map (·.1))).map V.str, fun _ => True, by rw [enck_keys]; exact Itr.list, by rw [List.length_map, sortS_len]; have := hv.1; omega,
          fun Cl => CompL.filt (p := fun k => !(seen S (getK kvs k)).isNul) (f := V.str) trivial (fun k hk Ψ hΨ => ?_) (fun k hk hp Ψ hΨ => ?_) ?_⟩
    · have hm := (sortS_perm _).mem_iff.mp hk
      refine Wt.cmp <| We.call rfl (glseenas hK) (ce424 hK) <| Wes.cons' <| We.nc rfl rfl <| Wes.cons' <| We.sub <| We.nc rfl rfl <| We.nl rfl rfl ?_
      refine SubV.dS (kvs := enck kvs) SeeS.z (lk_getK hm) ?_
      refine Wes.nil' ?_
      refine c_seen_as hK (by omega) ?_
      refine We.none <| CmpV.isNotNone ⟨_, rfl, ?_⟩
      rw [enc_none]
      exact hΨ
    · refine We.nl rfl rfl ?_
      exact hΨ
    · exact h
end
section
open PySem PySem.W PySem.Calls PyProof.Rows
theorem pkeys_nodup {X : List PP} (h : X.Nodup) {g : PP → V} : ((X.map fun p => (pkey p, g p)).map (·.1)).Nodup := by
  rw [List.map_map]
  induction X with
  | nil => exact List.nodup_nil
  | cons p r ih =>
    rw [List.nodup_cons] at h
    rw [List.map_cons, List.nodup_cons]
    refine ⟨fun hm => ?_, ih h.2⟩
    obtain ⟨q, hq, e⟩ := List.mem_map.mp hm
    exact h.1 (pkey_inj (show pkey q = pkey p from e) ▸ hq)
structure WkM (S : Shf) (μ : Mu) (f s : Addr) (X : List PP) (μ' : Mu) : Prop where
  cf : μ' f = some (.list (X.map pairV))
  cs : μ' s = some (.dP (X.map fun p => (pkey p, .bool true)))
  o : ∀ a, a ≠ f → a ≠ s → μ' a = μ a
  nd : X.Nodup
  th : ∀ p ∈ X, there S p = true
theorem WkM.len {S : Shf} (hS : ShOk S) {μ μ' : Mu} {f s : Addr} {X : List PP} (h : WkM S μ f s X μ') : X.length ≤ 9 := Nat.le_trans (nodup_len h.nd fun p hp => dom_of_there (h.th p hp)) (dom_len hS)
theorem WkM.snoc {S : Shf} {μ μ' : Mu} {f s : Addr} {X : List PP} (h : WkM S μ f s X μ') (hne : s ≠ f) {p : PP} (hp : p ∉ X) (ht : there S p = true) :
    WkM S μ f s (X ++ [p]) (fup (fup μ' s (some (.dP (putK (X.map fun p => (pkey p, .bool true)) (pkey p) (.bool true))))) f (some (.list (X.map pairV ++ [pairV p])))) where
  cf := by rw [fup_self, map_snoc]
  cs := by rw [fup_ne _ _ hne, fup_self, putK_new (by rw [lk_pkey (f := fun p => p), List.map_id']; simp [hp]), map_snoc]
  o := fun a a1 a2 => by rw [fup_ne _ _ a1, fup_ne _ _ a2]; exact h.o a a1 a2
  nd := by rw [← add1_new hp]; exact add1_nodup h.nd
  th := fun q hq => by
    rcases List.mem_append.mp hq with hq | hq
    · exact h.th q hq
    · rw [List.mem_singleton.mp hq]; exact ht
theorem c_walk {C : Cx} (hK : C.K = hd.heap_39 C.w.params) {S : Shf} (hS : ShOk S) {v : Val} (hv : ok 3 v) {n : Nat} {Φ : V → Mu → Prop} {μ : Mu} (hn : 6 ≤ n) (h : Φ (.list ((walkP S v).map pairV)) μ) : CallV C n (.ref 400) [encS S, enc v] Φ μ := by
  refine CallV.fin (c := .list ((walkP S v).map pairV)) .list h ?_
  refine' CallV.defK (m := 5) (names := ["shelf", "value"]) hK ?h1 ?h2 ?h3 ?h4 ?h5 (by omega) ?h6
  case h1 => with_unfolding_all rfl
  case h2 => rfl
  case h3 => rfl
  case h4 => with_unfolding_all rfl
  case h5 => exact bind2 fun _ _ => (by with_unfolding_all rfl)
  case h6 =>
    intro L
    refine Ws.cons (Wx.assignCompM (by with_unfolding_all rfl) (by with_unfolding_all rfl) (by left; rfl) ?_)
    refine We.call rfl (glreferencesin hK) (ce282 hK) <| Wes.cons' <| We.nl rfl rfl <| Wes.nil' ?_
    refine c_references_in hK hv (by decide) (by omega) ?_
    have hz : sz v ≤ 729 := sz_le hv
    refine ⟨(refsIn v).map pairV, fun _ => True, Itr.list, by rw [List.length_map]; have := refsIn_len hv; omega, fun Cl => CompL.filt (p := there S) (f := pairV) trivial (fun p hp Ψ hΨ => ?_) (fun p hp hq Ψ hΨ => ?_) ?_⟩
    · refine Wt.val <| We.call rfl (glisthere hK) (ce390 hK) <| Wes.cons' <| We.nc rfl rfl <| Wes.cons' <| We.nl rfl rfl <| Wes.nil' <| c_is_there hK (lb rfl) <| TruV.bool ?_
      exact hΨ
    · refine We.nl rfl rfl ?_
      exact hΨ
    intro f hf
    have eX : (refsIn v).filter (there S) = addL [] (lvs (nf (there S) v)) := by unfold refsIn; rw [addL_filter, lvs_nf hv]; rfl
    rw [List.nil_append, eX]
    have nX : (addL [] (lvs (nf (there S) v))).Nodup := addL_nodup List.nodup_nil
    have tX : ∀ p ∈ addL [] (lvs (nf (there S) v)), there S p = true := fun p hp => nf_there hv p (addL_nil_mem.mp hp)
    have lX := Nat.le_trans (nodup_len nX fun p hp => dom_of_there (tX p hp)) (dom_len hS)
    have run : bfs (nx S) 64 0 (addL [] (lvs (nf (there S) v))) = walkP S v := rfl
    generalize addL [] (lvs (nf (there S) v)) = X0 at nX tX lX run ⊢
    refine Ws.cons <| Wx.assign <| We.call rfl (gldict hK) Callee.type <| Wes.cons' <| We.comp (by with_unfolding_all rfl) ?_; refine We.nl rfl rfl ?_
    refine ⟨X0.map pairV, fun μ' => μ' f = some (.list (X0.map pairV)), Itr.cell, by rw [List.length_map]; omega, fun Cl => CompL.map (f := fun p => V.tup [pairV p, .bool true]) (fup_self ..) (fun p hp Ψ hΨ => ?_) ?_⟩
    · refine We.tuple <| Wes.cons' <| We.nl rfl rfl <| Wes.cons' <| We.bool <| Wes.nil' ⟨lb rfl, ?_⟩
      exact hΨ
    have e2 : (X0.map fun p => V.tup [pairV p, .bool true]) = (X0.map fun p => (pkey p, V.bool true)).map fun q => V.tup [intsT q.1, q.2] := by rw [List.map_map]; rfl
    rw [List.nil_append, e2]
    refine Wes.nil' ?_
    refine CallV.dictL dkP (n := 4) (by rw [List.length_map]; omega) fun s hs => ?_
    rw [dictOfL_nodup (pkeys_nodup nX)]
    obtain ⟨nsf, hs'⟩ := fup_none hs
    refine Wa.nl rfl <| Ws.cons <| Wx.assign <| We.int <| Wa.nl rfl <| Ws.cons ?_
    refine Wx.whileB (β := Nat × Nat × List PP) (fun b => [("at", .int b.2.1), ("seen", .ref s), ("found", .ref f), ("shelf", encS S)])
      (fun b μ' => WkM S μ f s b.2.2 μ' ∧ bfs (nx S) b.1 b.2.1 b.2.2 = walkP S v ∧ b.1 + b.2.1 = 64) (fun b => b.1) ?_ (64, 0, X0) ?_ ?_
    · rintro ⟨k, at', X⟩ μ' ⟨M, hrun, hk⟩
      dsimp only at M hrun hk
      have hX := M.len hS
      refine Wt.cmp <| We.nl rfl rfl <| We.call rfl (gllen hK) Callee.builtin <| Wes.cons' <| We.nl rfl rfl <| Wes.nil' ?_
      refine CallV.lenL (SeeL.m M.cf) (by rw [List.length_map]; omega) ?_
      rw [List.length_map]
      refine CmpV.lt ⟨_, rfl, ?_⟩
      by_cases hlt : at' < X.length
      · refine ite_t (by simp; omega) ?_
        have hat : X[at']? = some X[at'] := by simp [hlt]
        generalize X[at'] = p at hat
        have hp := M.th p (List.mem_of_getElem? hat)
        obtain ⟨u, hu⟩ := there_iff.mp hp
        have hc : cont S p = u := by unfold cont; rw [hu]
        obtain ⟨k', rfl⟩ := bfs_room (D := domP S) (k := k) M.nd (fun q hq => dom_of_there (M.th q hq)) (by have := dom_len hS; omega) hat
        rw [bfs_step hat] at hrun
        unfold encS
        refine Ws.cons (Wx.for ?_)
        refine We.call rfl (glreferencesin hK) (ce282 hK) <| Wes.cons' <| We.sub <| We.sub <| We.attr <| We.nc rfl rfl <| AttV.inst (at373table hK) rfl <| We.sub <| We.sub <| We.nl rfl rfl <| We.nl rfl rfl ?_
        refine SubV.cell M.cf (by dsimp only; omega) (x := pairV p) (by rw [Int.toNat_natCast, List.getElem?_map, hat]; rfl) (by dsimp only; omega) ?_
        refine We.int <| SubV.tup (by decide) rfl (by decide) ?_
        refine SubV.dI SeeI.z (x := .tup [.int p.2, enc u]) (by rw [lk_encT, hu]; rfl) ?_
        refine We.int <| SubV.tup (by decide) rfl (by decide) <| Wes.nil' ?_
        rw [← hc]
        refine c_references_in hK (ok_cont hS p) (by decide) (by omega) ?_
        refine ⟨(refsIn (cont S p)).map pairV, fun _ => True, Itr.list, ?_⟩
        refine ForL.invB (β := List PP) (fun _ => [("at", .int at'), ("seen", .ref s), ("found", .ref f), ("shelf", encS S)])
          (fun Y r μ2 => WkM S μ f s Y μ2 ∧ addL Y (r.filter (there S)) = addL X (nx S p)) (fun _ _ _ _ => trivial) ?_ ?_ X ?_ ?_
        · rintro Y q r μ2 ⟨MY, hY⟩
          have hYl := MY.len hS
          refine Wa.nl rfl <| Ws.cons <| Wx.ite <| Wt.boolop <| Wall.cons' <| Wt.cmp <| We.nl rfl rfl <| We.nl rfl rfl ?_
          refine CmpV.notInP (k := pkey q) (SeeP.m MY.cs) ?_
          refine ⟨_, rfl, ?_⟩
          rw [lk_pkey (f := fun p => p), List.map_id']
          rw [List.filter_cons] at hY
          by_cases hm : q ∈ Y
          · rw [decide_eq_true hm]
            refine Ws.nil <| Ws.nil ?_
            refine ⟨Y, ?_, MY, ?_⟩
            · exact Sub.cons rfl <| Sub.cons rfl <| Sub.cons rfl <| Sub.cons rfl <| Sub.nil
            · split at hY
              · rw [addL_cons, add1_of_mem hm] at hY; exact hY
              · exact hY
          · rw [decide_eq_false hm]
            refine Wall.cons' <| Wt.val <| We.call rfl (glisthere hK) (ce390 hK) <| Wes.cons' <| We.nc rfl rfl <| Wes.cons' <| We.nl rfl rfl <| Wes.nil' <| c_is_there hK (lb rfl) <| TruV.bool ?_
            cases ht : there S q with
            | false =>
              rw [ht] at hY
              refine ite_f rfl <| Ws.nil <| Ws.nil ?_
              refine ⟨Y, ?_, MY, by simpa using hY⟩
              exact Sub.cons rfl <| Sub.cons rfl <| Sub.cons rfl <| Sub.cons rfl <| Sub.nil
            | true =>
              rw [ht, if_pos rfl, addL_cons, add1_new hm] at hY
              refine Wall.nil' <| ite_t rfl <| Ws.cons <| Wx.assign <| We.bool <| Wa.sub <| We.nl rfl rfl <| We.nl rfl rfl ?_
              refine SetI.dP (k := pkey q) MY.cs (by rw [List.length_map]; omega) ?_
              refine Ws.cons <| Wx.expr <| We.meth <| We.nl rfl rfl ?_
              refine ⟨.builtin "list.append", GetM.lst ((fup_ne _ _ nsf.symm).trans MY.cf) PySem.F.slot_list_append PySem.F.type_list_append, Callee.builtin, ?_⟩
              refine Wes.cons' <| We.nl rfl rfl <| Wes.nil' ?_
              refine CallV.append ((fup_ne _ _ nsf.symm).trans MY.cf) (by rw [List.length_map]; omega) ?_
              refine Ws.nil <| Ws.nil ?_
              refine ⟨Y ++ [q], ?_, MY.snoc nsf hm ht, hY⟩
              exact Sub.cons rfl <| Sub.cons rfl <| Sub.cons rfl <| Sub.cons rfl <| Sub.nil
        · rintro Y l2 μ2 hsub ⟨MY, hY⟩
          refine Ws.weak hsub ?_
          refine Ws.cons <| Wx.assign <| We.bin <| We.nl rfl rfl <| We.int <| BinV.add <| Wa.nl rfl <| Ws.nil ?_
          rw [List.filter_nil, addL_nil] at hY
          rw [← hY] at hrun
          refine ⟨(k', at' + 1, Y), Nat.lt_succ_self _, ?_, MY, hrun, by dsimp only; omega⟩
          exact Sub.cons rfl <| Sub.cons rfl <| Sub.cons rfl <| Sub.cons rfl <| Sub.nil
        · exact Sub.cons rfl <| Sub.cons rfl <| Sub.cons rfl <| Sub.cons rfl <| Sub.nil
        · exact ⟨M, refsIn_live (ok_cont hS p)⟩
      · refine ite_f (by simp; omega) ?_
        refine Ws.cons <| Wx.ret <| We.nl rfl rfl ⟨_, rfl, ?_⟩
        rw [bfs_stop (by omega)] at hrun
        refine ⟨by rw [M.cf, hrun], fun b c hb => ⟨ne_of_some hf hb, ?_⟩⟩
        rw [M.o b (ne_of_some hf hb) (ne_of_some hs' hb)]; exact hb
    · exact Sub.cons rfl <| Sub.cons rfl <| Sub.cons rfl <| Sub.cons rfl <| Sub.nil
    · refine ⟨⟨by rw [fup_ne _ _ nsf.symm, fup_self], fup_self .., fun a a1 a2 => by rw [fup_ne _ _ a2, fup_ne _ _ a1], nX, tX⟩, run, rfl⟩
end
section
open PySem PySem.W PySem.Calls PyProof.Rows
theorem c_reached {C : Cx} (hK : C.K = hd.heap_39 C.w.params) {S : Shf} (hS : ShOk S) {v : Val} (hv : ok 3 v) {n : Nat} {Φ : V → Mu → Prop} {μ : Mu} (hn : 7 ≤ n) (h : Φ (.list ((sortI ((walkP S v).map (·.1))).map V.int)) μ) : CallV C n (.ref 405) [encS S, enc v] Φ μ := by
  refine' CallV.defK (m := 6) (names := ["shelf", "value"]) hK ?h1 ?h2 ?h3 ?h4 ?h5 (by omega) ?h6
  case h1 => with_unfolding_all rfl
  case h2 => rfl
  case h3 => rfl
  case h4 => with_unfolding_all rfl
  case h5 => exact bind2 fun _ _ => (by with_unfolding_all rfl)
  case h6 =>
    intro L
    have hl := Nat.le_trans (nodup_len (walk_nodup (S := S) (v := v)) fun p hp => dom_of_there (walk_there hS hv p hp)) (dom_len hS)
    refine Ws.cons <| Wx.ret <| We.call rfl (glsorted hK) Callee.builtin <| Wes.cons' <| We.comp (by with_unfolding_all rfl) ?_; refine We.call rfl (glwalk hK) (ce400 hK) <| Wes.cons' <| We.nl rfl rfl <| Wes.cons' <| We.nl rfl rfl <| Wes.nil' ?_; (with_reducible show CallV _ _ (Value.ref 400) _ _ _); refine c_walk hK (by assumption) ?_ (lb rfl) ?_
    · exact hv
    refine ⟨(walkP S v).map pairV, fun _ => True, Itr.list, by rw [List.length_map]; omega, fun Cl => CompL.map (f := fun p => V.int p.1) trivial (fun p hp Ψ hΨ => ?_) ?_⟩
    · refine We.sub <| We.nl rfl rfl <| We.int <| SubV.tup (by decide) rfl (by decide) ?_
      exact hΨ
    · have e : ((walkP S v).map fun p => V.int p.1) = ((walkP S v).map (·.1)).map V.int := by rw [List.map_map]; rfl
      rw [List.nil_append, e]
      refine Wes.nil' ?_
      refine CallV.sortedL SeeL.z (by rw [List.length_map]; omega) ?_
      exact h
noncomputable def unreachedP (S : Shf) : List Int := (numsP S).filter fun k => !((ordP S).map (·.1)).any (· == k)
theorem lk_ints {ks : List Int} {k : Int} {x : V} : (lk (ks.map fun i => (i, x)) k).isSome = ks.any (· == k) := by
  rw [lk_isSome_any, List.any_map]
  congr 1
theorem c_unreached {C : Cx} (hK : C.K = hd.heap_39 C.w.params) {S : Shf} (hS : ShOk S) {n : Nat} {Φ : V → Mu → Prop} {μ : Mu} (hn : 9 ≤ n) (h : Φ (.list ((unreachedP S).map V.int)) μ) : CallV C n (.ref 410) [encS S] Φ μ := by
  refine CallV.drop ?_
  refine' CallV.defK (m := 8) (names := ["shelf"]) hK ?h1 ?h2 ?h3 ?h4 ?h5 (by omega) ?h6
  case h1 => with_unfolding_all rfl
  case h2 => rfl
  case h3 => rfl
  case h4 => with_unfolding_all rfl
  case h5 => exact bind1 fun _ => (by with_unfolding_all rfl)
  case h6 =>
    intro L
    have hl := ord_len hS
    refine Ws.cons <| Wx.assign <| We.call rfl (gldict hK) Callee.type <| Wes.cons' <| We.comp (by with_unfolding_all rfl) ?_; refine We.call rfl (glreached hK) (ce405 hK) <| Wes.cons' <| We.nl rfl rfl <| Wes.cons' <| We.call rfl (glplaintrailer hK) (ce395 hK) <| Wes.cons' <| We.nl rfl rfl <| Wes.nil' <| c_plain_trailer hK (by assumption) (lb rfl) ?_; refine Wes.nil' ?_
    refine c_reached hK hS (ok_plain hS) (by omega) ?_
    refine ⟨(sortI ((ordP S).map (·.1))).map V.int, fun _ => True, Itr.list, by rw [List.length_map, (sortI_perm _).length_eq, List.length_map]; omega, fun Cl => CompL.map (f := fun i => V.tup [.int i, .bool true]) trivial (fun p hp Ψ hΨ => ?_) ?_⟩
    · refine We.tuple <| Wes.cons' <| We.nl rfl rfl <| Wes.cons' <| We.bool <| Wes.nil' ⟨lb rfl, ?_⟩
      exact hΨ
    · have e : ((sortI ((ordP S).map (·.1))).map fun i => V.tup [.int i, .bool true]) = ((sortI ((ordP S).map (·.1))).map fun i => (i, V.bool true)).map fun q => V.tup [V.int q.1, q.2] := by rw [List.map_map]; rfl
      rw [List.nil_append, e]
      refine Wes.nil' ?_
      refine CallV.dictL dkI (n := 7) (by rw [List.length_map, (sortI_perm _).length_eq, List.length_map]; omega) fun a ha => ?_
      have nd : (((sortI ((ordP S).map (·.1))).map fun i => (i, V.bool true)).map (·.1)).Nodup := by
        rw [List.map_map]
        refine (List.map_id' _).symm ▸ (List.Perm.nodup_iff (sortI_perm _)).mpr ?_
        have := ord_nodup (S := S)
        have th := ord_there hS
        generalize ordP S = O at this th
        induction O with
        | nil => exact List.nodup_nil
        | cons p r ih =>
          rw [List.nodup_cons] at this
          rw [List.map_cons, List.nodup_cons]
          refine ⟨fun hm => ?_, ih this.2 fun q hq => th q (.tail _ hq)⟩
          obtain ⟨q, hq, e⟩ := List.mem_map.mp hm
          exact this.1 (there_num (th q (.tail _ hq)) (th p (.head _)) e ▸ hq)
      rw [dictOfL_nodup nd]
      refine Wa.nc rfl <| Ws.cons <| Wx.ret <| We.comp (by with_unfolding_all rfl) ?_; refine We.meth <| We.nl rfl rfl ?_
      refine ⟨.ref 358, GetM.inst (me373numbers hK) rfl, ce358 hK, ?_⟩
      refine Wes.nil' <| c_numbersS hK (by assumption) (lb rfl) ?_
      refine ⟨(numsP S).map V.int, fun _ => True, Itr.list, by rw [List.length_map, numsP_len]; have := hS.len; omega, fun Cl => CompL.filt (p := fun k => !((ordP S).map (·.1)).any (· == k)) (f := V.int) trivial (fun k hk Ψ hΨ => ?_) (fun k hk hp Ψ hΨ => ?_) ?_⟩
      · refine Wt.cmp <| We.nl rfl rfl <| We.nc rfl rfl ?_
        refine CmpV.notInI (SeeI.m (fup_self ..)) ?_
        rw [lk_ints]
        have e3 : ((sortI ((ordP S).map (·.1))).any (· == k)) = ((ordP S).map (·.1)).any (· == k) := by
          rw [Bool.eq_iff_iff, List.any_eq_true, List.any_eq_true]
          exact ⟨fun ⟨x, a, b⟩ => ⟨x, (sortI_perm _).mem_iff.mp a, b⟩, fun ⟨x, a, b⟩ => ⟨x, (sortI_perm _).mem_iff.mpr a, b⟩⟩
        rw [e3]
        refine ⟨_, rfl, ?_⟩
        exact hΨ
      · refine We.nl rfl rfl ?_
        exact hΨ
      · refine ⟨h, fun b c hb => ?_⟩
        rw [fup_ne _ _ (ne_of_some ha hb)]; exact hb
end
section
open PySem PySem.W PySem.Calls PyProof.Rows
theorem CodeV.defD {C : Cx} {K : Frag} {n m : Nat} {f : Addr} {o : Obj} {fd : FuncData} {body : List Stmt} {names : List Str} {args dv : List V} {dv' : List Value} {Φ : V → Mu → Prop} {μ : Mu} (e : C.K = K)
    (hK : K.lookup f = some o) (hd : o.data = .func fd) (hb : fd.body = .stmts body) (ok : defOk K fd names = true) (hdv : ∀ Z, VRels C.w Z dv dv')
    (hbind : ∀ vs, vs.length = args.length → peek K ⟨C.prog, C.w.params⟩ (bindArgs fd ⟨vs, []⟩) = some (names.zip (vs ++ dv'))) (hn : m + 1 ≤ n)
    (h : ∀ L, Ws C m (callEnvC fd L f) body (kFin Φ) (names.zip (args ++ dv)) μ) : CodeV C n (.ref f) args Φ μ :=
  (CodeV.def (by rw [e]; exact hK) hd hb (by rw [e]; exact ok) hdv (fun vs hv => Looks.of_peek C.X (by rw [e]; exact hbind vs hv)) h).le hn
structure ShC (μ : Mu) (a d : Addr) (tv rv : V) (μ' : Mu) : Prop where
  ca : μ' a = some (.inst aShelf (some d))
  cd : μ' d = some (.flds [(Str.ofString "table", tv), (Str.ofString "trailer", rv)])
  o : ∀ b, b ≠ a → b ≠ d → μ' b = μ b
theorem c_Shelf2 {C : Cx} (hK : C.K = hd.heap_39 C.w.params) {n : Nat} {tv rv : V} {Φ : V → Mu → Prop} {μ : Mu} (hn : 2 ≤ n) (ht : tv.isNone = false) (hr : rv.isNone = false)
    (h : ∀ a d μ', μ a = none → μ d = none → a ≠ d → ShC μ a d tv rv μ' → Φ (.ref a) μ') : CallV C n (.ref 373) [tv, rv] Φ μ := by
  refine CallV.clsM (m := 1) (cl373 hK) (by omega) fun a d ha hd hne => ?_
  refine' CodeV.defD (m := 0) (names := ["self", "table", "trailer"]) (dv := []) (dv' := []) hK ?h1 ?h2 ?h3 ?h4 (fun _ => .nil) ?h5 (by omega) ?h6
  case h1 => with_unfolding_all rfl
  case h2 => rfl
  case h3 => rfl
  case h4 => with_unfolding_all rfl
  case h5 => exact bind3 fun _ _ _ => (by with_unfolding_all rfl)
  case h6 =>
    intro L
    refine Ws.cons <| Wx.assign <| We.ifexp <| Wt.cmp <| We.nl rfl rfl <| We.none <| CmpV.isNone ⟨_, rfl, ?_⟩
    rw [ht]
    refine ite_f rfl <| We.nl rfl rfl <| Wa.attr <| We.nl rfl rfl ?_
    refine SetA.cell (d := d) (fs := []) (by simp [fup]) (by simp [fup, hne.symm]) (se373table hK) (by simp) ?_
    refine Ws.cons <| Wx.assign <| We.ifexp <| Wt.cmp <| We.nl rfl rfl <| We.none <| CmpV.isNone ⟨_, rfl, ?_⟩
    rw [hr]
    refine ite_f rfl <| We.nl rfl rfl <| Wa.attr <| We.nl rfl rfl ?_
    refine SetA.cell (d := d) (fs := [(Str.ofString "table", tv)]) (by simp [fup, hne]) (by simp [fup]; rfl) (se373trailer hK) (by simp) ?_
    refine Ws.nil ?_
    refine ⟨rfl, h a d _ ha hd hne ⟨by simp [fup, hne], by simp [fup]; rfl, fun b h1 h2 => by simp [fup, h1, h2]⟩⟩
theorem c_Shelf0 {C : Cx} (hK : C.K = hd.heap_39 C.w.params) {n : Nat} {Φ : V → Mu → Prop} {μ : Mu} (hn : 2 ≤ n)
    (h : ∀ a d t r μ', μ a = none → μ d = none → μ t = none → μ r = none → a ≠ d → t ≠ a → t ≠ d → r ≠ a → r ≠ d → r ≠ t → ShC (fup (fup μ t (some (.dI []))) r (some (.dS []))) a d (.ref t) (.ref r) μ' → Φ (.ref a) μ') : CallV C n (.ref 373) [] Φ μ := by
  refine CallV.clsM (m := 1) (cl373 hK) (by omega) fun a d ha hd hne => ?_
  refine' CodeV.defD (m := 0) (names := ["self", "table", "trailer"]) (dv := [.none, .none]) (dv' := [.none, .none]) hK ?h1 ?h2 ?h3 ?h4 (fun _ => .cons .none (.one .none)) ?h5 (by omega) ?h6
  case h1 => with_unfolding_all rfl
  case h2 => rfl
  case h3 => rfl
  case h4 => with_unfolding_all rfl
  case h5 => exact bind1 fun _ => (by with_unfolding_all rfl)
  case h6 =>
    intro L
    refine Ws.cons <| Wx.assign <| We.ifexp <| Wt.cmp <| We.nl rfl rfl <| We.none <| CmpV.isNone ⟨_, rfl, ite_t rfl ?_⟩
    refine We.dictM (c := .dI []) (fun Z => dkI.empty Z) ?_
    intro t ht
    obtain ⟨nta, ht'⟩ := fup_none ht
    obtain ⟨ntd, ht'⟩ := fup_none ht'
    refine Wa.attr <| We.nl rfl rfl ?_
    refine SetA.cell (d := d) (fs := []) (by simp [fup, nta.symm]) (by simp [fup, hne.symm, ntd.symm]) (se373table hK) (by simp) ?_
    refine Ws.cons <| Wx.assign <| We.ifexp <| Wt.cmp <| We.nl rfl rfl <| We.none <| CmpV.isNone ⟨_, rfl, ite_t rfl ?_⟩
    refine We.dictM (c := .dS []) (fun Z => dkS.empty Z) ?_
    intro r hr
    obtain ⟨nrd, hr'⟩ := fup_none hr
    obtain ⟨nrt, hr'⟩ := fup_none hr'
    obtain ⟨nra, hr'⟩ := fup_none hr'
    obtain ⟨_, hr'⟩ := fup_none hr'
    refine Wa.attr <| We.nl rfl rfl ?_
    refine SetA.cell (d := d) (fs := [(Str.ofString "table", .ref t)]) (by simp [fup, hne, nta.symm, nra.symm]) (by simp [fup, nrd.symm]; rfl) (se373trailer hK) (by simp) ?_
    refine Ws.nil ?_
    refine ⟨rfl, h a d t r _ ha hd ht' hr' hne nta ntd nra nrd nrt ⟨by simp [fup, hne, nta.symm, nra.symm], by simp [fup]; rfl, fun b h1 h2 => by simp [fup, h1, h2]⟩⟩
end
section
open PySem PySem.W PySem.Calls PyProof.Rows
section
variable {C : Cx} {n : Nat} {env : Env} {l : Loc} {μ : Mu}
theorem Gh.shelf1 {μ' : Mu} {a d t : Addr} {kvs : List (Int × V)} {rv : V} (ha : μ' a = some (.inst aShelf (some d))) (hd : μ' d = some (.flds [(Str.ofString "table", .ref t), (Str.ofString "trailer", rv)])) (ht : μ' t = some (.dI kvs))
    (h : ∀ b c, μ b = some c → b ≠ a ∧ b ≠ d ∧ b ≠ t ∧ μ' b = some c) : Gh C (.ref a) μ' (.inst aShelf [(Str.ofString "table", .dI kvs), (Str.ofString "trailer", rv)]) μ := by
  have had : a ≠ d := by rintro rfl; rw [ha] at hd; cases hd
  have hat : a ≠ t := by rintro rfl; rw [ha] at ht; cases ht
  have hdt : d ≠ t := by rintro rfl; rw [hd] at ht; cases ht
  refine (Gh.fld (i := 0) hd rfl ht .dI).trans (Gh.finInst (d := d) ?_ ?_ fun b c hb => ?_)
  · simp [fup, had, hat, ha]
  · simp [fup]
  · obtain ⟨h1, h2, h3, h4⟩ := h b c hb
    exact ⟨h1, h2, by simp [fup, h2, h3, h4]⟩
theorem Gh.shelf2 {μ' : Mu} {a d t r : Addr} {kvs : List (Int × V)} {kws : List (Str × V)} (ha : μ' a = some (.inst aShelf (some d))) (hd : μ' d = some (.flds [(Str.ofString "table", .ref t), (Str.ofString "trailer", .ref r)])) (ht : μ' t = some (.dI kvs)) (hr : μ' r = some (.dS kws))
    (h : ∀ b c, μ b = some c → b ≠ a ∧ b ≠ d ∧ b ≠ t ∧ b ≠ r ∧ μ' b = some c) : Gh C (.ref a) μ' (.inst aShelf [(Str.ofString "table", .dI kvs), (Str.ofString "trailer", .dS kws)]) μ := by
  have had : a ≠ d := by rintro rfl; rw [ha] at hd; cases hd
  have hat : a ≠ t := by rintro rfl; rw [ha] at ht; cases ht
  have hdt : d ≠ t := by rintro rfl; rw [hd] at ht; cases ht
  have har : a ≠ r := by rintro rfl; rw [ha] at hr; cases hr
  have hdr : d ≠ r := by rintro rfl; rw [hd] at hr; cases hr
  have htr : t ≠ r := by rintro rfl; rw [ht] at hr; cases hr
  refine (Gh.fld (i := 1) hd rfl hr .dS).trans (Gh.shelf1 (d := d) (t := t) ?_ ?_ ?_ fun b c hb => ?_)
  · simp [fup, had, har, ha]
  · simp [fup]
  · simp [fup, hdt.symm, htr, ht]
  · obtain ⟨h1, h2, h3, h4, h5⟩ := h b c hb
    exact ⟨h1, h2, h3, by simp [fup, h2, h4, h5]⟩
noncomputable abbrev kFr2 (L : Nat → Loc) (M : Nat → Mu → Prop) (Φ : Fl → Loc → Mu → Prop) (i : Nat) : Fl → Loc → Mu → Prop := fun f l2 μ2 => match f with
      | .next | .cont => Sub (L (i + 1)) l2 ∧ M (i + 1) μ2
      | .brk => Φ .next l2 μ2
      | .ret v => Φ (.ret v) l2 μ2
noncomputable abbrev kFr1 (C : Cx) (n : Nat) (env : Env) (body : List Stmt) (L : Nat → Loc) (M : Nat → Mu → Prop) (Φ : Fl → Loc → Mu → Prop) (i : Nat) : Loc → Mu → Prop := fun l1 μ1 => Ws C n env body (kFr2 L M Φ i) l1 μ1
theorem ForL.range {N : Nat} {lo : Int} {target : Expr} {body : List Stmt} {Φ : Fl → Loc → Mu → Prop} {okm : Mu → Prop} (L : Nat → Loc) (M : Nat → Mu → Prop) (hok : ∀ i μ, M i μ → okm μ)
    (turn : ∀ i μ, i < N → M i μ → Wa C n env target (.int (lo + i)) (kFr1 C n env body L M Φ i) (L i) μ)
    (fin : ∀ l2 μ, Sub (L N) l2 → M N μ → Φ .next l2 μ) (h0 : Sub (L 0) l) (h : M 0 μ) : ForL C n env target body Φ okm (rngV lo (lo + N)) l μ := by
  have e : rngV lo (lo + N) = (List.range N).map fun i : Nat => V.int (lo + (i : Int)) := by unfold rngV; congr 2; omega
  rw [e]
  refine ForL.invB (β := Nat) L (fun i r μ' => r = (List.range N).drop i ∧ i ≤ N ∧ M i μ') (fun i r μ' h => hok i μ' h.2.2) ?_ ?_ 0 h0 ⟨by simp, Nat.zero_le _, h⟩
  · rintro i c r μ' ⟨hr, hi, hM⟩
    have hlt : i < N := by
      rcases Nat.lt_or_ge i N with h | h
      · exact h
      · rw [List.drop_eq_nil_of_le (by simpa using h)] at hr; cases hr
    rw [List.drop_eq_getElem_cons (by simpa using hlt)] at hr
    simp only [List.getElem_range, List.cons.injEq] at hr
    obtain ⟨rfl, rfl⟩ := hr
    intro A hA Z ρ v' r' F
    refine (turn c μ' hlt hM A hA Z ρ v' r' F).mono fun _ σ' x ⟨l', F', o', q⟩ => ⟨l', F', o', q.mono fun f l2 μ2 q2 => ?_⟩
    cases f with
    | next => exact ⟨c + 1, q2.1, rfl, hlt, q2.2⟩
    | cont => exact ⟨c + 1, q2.1, rfl, hlt, q2.2⟩
    | brk => exact q2
    | ret v => exact q2
  · rintro i l2 μ2 hs ⟨hr, hi, hM⟩
    have : i = N := by
      have := congrArg List.length hr
      simp at this; omega
    subst this
    exact fin l2 μ2 hs hM
theorem ForL.range0 {N : Nat} {target : Expr} {body : List Stmt} {Φ : Fl → Loc → Mu → Prop} {okm : Mu → Prop} (L : Nat → Loc) (M : Nat → Mu → Prop) (hok : ∀ i μ, M i μ → okm μ)
    (turn : ∀ i μ, i < N → M i μ → Wa C n env target (.int i) (kFr1 C n env body L M Φ i) (L i) μ)
    (fin : ∀ l2 μ, Sub (L N) l2 → M N μ → Φ .next l2 μ) (h0 : Sub (L 0) l) (h : M 0 μ) : ForL C n env target body Φ okm (rngV 0 N) l μ := by
  have := ForL.range (C := C) (n := n) (env := env) (Φ := Φ) (okm := okm) (target := target) (body := body) (N := N) (lo := 0) L M hok (fun i μ h1 h2 => by rw [Int.zero_add]; exact turn i μ h1 h2) fin h0 h
  rwa [Int.zero_add] at this
end
theorem lk_pmap {X : List PP} {g : PP → V} {p : PP} : lk (X.map fun q => (pkey q, g q)) (pkey p) = if p ∈ X then some (g p) else none := by
  induction X with
  | nil => rfl
  | cons q r ih =>
    rw [List.map_cons, lk_cons, ih]
    by_cases h : q = p
    · subst h; simp
    · rw [if_neg fun e => h (pkey_inj e)]
      have h' : ¬ p = q := fun e => h e.symm
      simp [List.mem_cons, h']
noncomputable def rowsC (S : Shf) (i : Nat) : List (Int × Int × Val) := ((ordP S).take i).map fun p => ((fr S p).1, 0, ren (tabO S) (cont S p))
theorem take_snoc {α : Type} {l : List α} {i : Nat} {p : α} (h : l[i]? = some p) : l.take (i + 1) = l.take i ++ [p] := by rw [List.take_add_one, h]; rfl
theorem rowsC_new {S : Shf} {i : Nat} {p : PP} (h : (ordP S)[i]? = some p) : putK (encT (rowsC S i)) ((i : Int) + 1) (.tup [.int 0, enc (ren (tabO S) (cont S p))]) = encT (rowsC S (i + 1)) := by
  rw [putK_new]
  · unfold rowsC encT
    rw [take_snoc h, List.map_append, List.map_append]
    simp only [List.map_cons, List.map_nil, fr_get h]
  · rw [lk_encT, Option.isSome_map]
    rw [look_none]
    · rfl
    · unfold rowsC
      rw [List.map_map]
      intro hm
      obtain ⟨q, hq, e⟩ := List.mem_map.mp hm
      obtain ⟨j, hj⟩ := List.mem_iff_getElem?.mp hq
      have hj2 : j < i := by
        have := (List.getElem?_eq_some_iff.mp hj).1
        rw [List.length_take] at this; omega
      rw [List.getElem?_take_of_lt hj2] at hj
      have e : (fr S q).1 = (i : Int) + 1 := e
      rw [fr_get hj] at e
      have e : (j : Int) + 1 = (i : Int) + 1 := e
      omega
end
section
open PySem PySem.W PySem.Calls PyProof.Rows
theorem tabO_lk {S : Shf} (p : PP) : lk ((ordP S).map fun q => (pkey q, pairV (fr S q))) (pkey p) = (tabO S p).map pairV := by
  rw [lk_pmap]; unfold tabO; split <;> rfl
structure CpM (S : Shf) (μ : Mu) (T a d t : Addr) (rv : V) (i : Nat) (μ' : Mu) : Prop where
  ca : μ' a = some (.inst aShelf (some d))
  cd : μ' d = some (.flds [(Str.ofString "table", .ref t), (Str.ofString "trailer", rv)])
  ct : μ' t = some (.dI (encT (rowsC S i)))
  cT : μ' T = some (.dP ((ordP S).map fun q => (pkey q, pairV (fr S q))))
  o : ∀ b c, μ b = some c → b ≠ a ∧ b ≠ d ∧ b ≠ t ∧ μ' b = some c
theorem c_compacted {C : Cx} (hK : C.K = hd.heap_39 C.w.params) {S : Shf} (hS : ShOk S) {n : Nat} {Φ : V → Mu → Prop} {μ : Mu} (hn : 12 ≤ n) (h : Φ (encS (compact S)) μ) : CallV C n (.ref 417) [encS S] Φ μ := by
  refine CallV.ghost (Φ := fun v μ' => ∃ T a d t, v = .ref a ∧ CpM S μ T a d t (.dS (enck (renk (tabO S) (plain S)))) (ordP S).length μ') ?_ ?_
  · refine' CallV.defK (m := 11) (names := ["shelf"]) hK ?h1 ?h2 ?h3 ?h4 ?h5 (by omega) ?h6
    case h1 => with_unfolding_all rfl
    case h2 => rfl
    case h3 => rfl
    case h4 => with_unfolding_all rfl
    case h5 => exact bind1 fun _ => (by with_unfolding_all rfl)
    case h6 =>
      intro L
      have hl := ord_len hS
      refine Ws.cons <| Wx.assign <| We.call rfl (glplaintrailer hK) (ce395 hK) <| Wes.cons' <| We.nl rfl rfl <| Wes.nil' <| c_plain_trailer hK (by assumption) (lb rfl) ?_; refine Wa.nl rfl <| Ws.cons <| Wx.assign <| We.call rfl (glwalk hK) (ce400 hK) <| Wes.cons' <| We.nl rfl rfl <| Wes.cons' <| We.nl rfl rfl <| Wes.nil' ?_; (with_reducible show CallV _ _ (Value.ref 400) _ _ _); refine c_walk hK (by assumption) ?_ (lb rfl) ?_; (with_reducible show Wa _ _ _ _ _ _ _ _); refine Wa.nl rfl <| Ws.cons <| Wx.assign ?_
      any_goals (with_reducible exact ok_plain hS)
      refine We.dictM (c := .dP []) (fun Z => dkP.empty Z) ?_
      intro T hT
      refine Wa.nl rfl <| Ws.cons ?_
      refine Wx.for ?_
      refine We.call rfl (glrange hK) Callee.type <| Wes.cons' <| We.call rfl (gllen hK) Callee.builtin <| Wes.cons' <| We.nl rfl rfl <| Wes.nil' ?_
      refine CallV.lenL (xs := (ordP S).map pairV) SeeL.z (by rw [List.length_map]; omega) ?_
      rw [List.length_map]
      refine Wes.nil' <| CallV.range1 ?_
      refine ⟨_, _, Itr.rng (by decide) (by omega) (by decide) (by omega), ?_⟩
      refine ForL.range0 (fun _ => [("table", .ref T), ("order", .list ((ordP S).map pairV)), ("trailer", enc (.dict (plain S))), ("shelf", encS S)])
        (fun i μ' => μ' T = some (.dP (((ordP S).take i).map fun p => (pkey p, pairV (fr S p)))) ∧ ∀ b, b ≠ T → μ' b = μ b) (fun _ _ _ => trivial) ?_ ?_ ?_ ?_
      · rintro i μ' hi ⟨h1, h2⟩
        have hat : (ordP S)[i]? = some (ordP S)[i] := by simp [hi]
        generalize (ordP S)[i] = p at hat
        refine Wa.nl rfl <| Ws.cons <| Wx.assign <| We.tuple <| Wes.cons' <| We.bin <| We.nl rfl rfl <| We.int <| BinV.add <| Wes.cons' <| We.int <| Wes.nil' ⟨lb rfl, Wa.sub <| We.nl rfl rfl <| We.sub <| We.nl rfl rfl <| We.nl rfl rfl ?_⟩
        refine SubV.list (x := pairV p) (by omega) (by rw [Int.toNat_natCast, List.getElem?_map, hat]; rfl) (by omega) ?_
        refine SetI.dP (k := pkey p) h1 (by rw [List.length_map, List.length_take]; omega) ?_
        refine Ws.nil ?_
        refine ⟨by exact Sub.cons rfl <| Sub.cons rfl <| Sub.cons rfl <| Sub.cons rfl <| Sub.nil, ?_, fun b hb => (fup_ne _ _ hb).trans (h2 b hb)⟩
        rw [fup_self, putK_new, take_snoc hat, map_snoc]
        · rw [fr_get hat]
        · rw [lk_pmap, if_neg]
          · rfl
          · intro hm
            have nd := ord_nodup (S := S)
            rw [← List.take_append_drop (i + 1) (ordP S), take_snoc hat, List.append_assoc, List.nodup_append] at nd
            exact nd.2.2 p hm p (by simp) rfl
      · rintro l2 μ1 hsub ⟨h1, h2⟩
        rw [List.take_length] at h1
        refine Ws.weak hsub ?_
        refine Ws.cons <| Wx.assign <| We.call rfl (glShelf hK) (ce373 hK) <| Wes.cons' ?_
        refine We.dictM (c := .dI []) (fun Z => dkI.empty Z) ?_
        intro t ht
        have ntT : t ≠ T := ne_of_some ht h1 |>.symm
        refine Wes.cons' <| We.call rfl (glrenumbered hK) (ce287 hK) <| Wes.cons' <| We.nl rfl rfl <| Wes.cons' <| We.nl rfl rfl <| Wes.nil' ?_
        refine (c_renumbered hK tabO_lk (SeeP.m ((fup_ne _ _ ntT.symm).trans h1)) 3 (ok_plain hS)).1 (by omega) ?_
        refine Wes.nil' ?_
        refine c_Shelf2 hK (by omega) rfl rfl fun a d μ2 ha hd hne hC => ?_
        obtain ⟨nat', ha'⟩ := fup_none ha
        obtain ⟨ndt, hd'⟩ := fup_none hd
        refine Wa.nl rfl <| Ws.cons ?_
        refine Wx.for ?_
        refine We.call rfl (glrange hK) Callee.type <| Wes.cons' <| We.call rfl (gllen hK) Callee.builtin <| Wes.cons' <| We.nl rfl rfl <| Wes.nil' ?_
        refine CallV.lenL (xs := (ordP S).map pairV) SeeL.z (by rw [List.length_map]; omega) ?_
        rw [List.length_map]
        refine Wes.nil' <| CallV.range1 ?_
        refine ⟨_, _, Itr.rng (by decide) (by omega) (by decide) (by omega), ?_⟩
        refine ForL.range0 (fun _ => [("made", .ref a), ("table", .ref T), ("order", .list ((ordP S).map pairV)), ("shelf", encS S)])
          (fun i μ' => CpM S μ T a d t (.dS (enck (renk (tabO S) (plain S)))) i μ') (fun _ _ _ => trivial) ?_ ?_ ?_ ?_
        · rintro i μ' hi M
          have hat : (ordP S)[i]? = some (ordP S)[i] := by simp [hi]
          generalize (ordP S)[i] = p at hat
          have hp := ord_there hS p (List.mem_of_getElem? hat)
          obtain ⟨u, hu⟩ := there_iff.mp hp
          have hc : cont S p = u := by unfold cont; rw [hu]
          unfold encS
          refine Wa.nl rfl <| Ws.cons <| Wx.expr <| We.meth <| We.nl rfl rfl ?_
          refine ⟨.ref 337, GetM.ref M.ca M.cd (me373put hK) rfl, ce337 hK, ?_⟩
          refine Wes.cons' <| We.bin <| We.nl rfl rfl <| We.int <| BinV.add <| Wes.cons' <| We.int <| Wes.cons' <| We.call rfl (glrenumbered hK) (ce287 hK) <| Wes.cons' <| We.sub <| We.sub <| We.attr <| We.nl rfl rfl <| AttV.inst (at373table hK) rfl <| We.sub <| We.sub <| We.nl rfl rfl <| We.nl rfl rfl ?_
          refine SubV.list (x := pairV p) (by omega) (by rw [Int.toNat_natCast, List.getElem?_map, hat]; rfl) (by omega) ?_
          refine We.int <| SubV.tup (by decide) rfl (by decide) ?_
          refine SubV.dI SeeI.z (x := .tup [.int p.2, enc u]) (by rw [lk_encT, hu]; rfl) ?_
          refine We.int <| SubV.tup (by decide) rfl (by decide) <| Wes.cons' <| We.nl rfl rfl <| Wes.nil' ?_
          rw [← hc]
          refine (c_renumbered hK tabO_lk (SeeP.m M.cT) 2 (ok_cont hS p)).1 (by omega) ?_
          refine Wes.nil' ?_
          refine c_put hK M.ca M.cd rfl M.ct (by rw [encT_len]; unfold rowsC; rw [List.length_map, List.length_take]; omega) (by omega) ?_
          have nTt : T ≠ t := fun e => by have a1 := M.cT; have a2 := M.ct; rw [e, a2] at a1; cases a1
          have nat2 : a ≠ t := fun e => by have a1 := M.ca; have a2 := M.ct; rw [e, a2] at a1; cases a1
          have ndt2 : d ≠ t := fun e => by have a1 := M.cd; have a2 := M.ct; rw [e, a2] at a1; cases a1
          refine Ws.nil ?_
          refine ⟨by exact Sub.cons rfl <| Sub.cons rfl <| Sub.cons rfl <| Sub.cons rfl <| Sub.nil, (fup_ne _ _ nat2).trans M.ca, (fup_ne _ _ ndt2).trans M.cd, by rw [fup_self, rowsC_new hat], (fup_ne _ _ nTt).trans M.cT, fun b c hb => ?_⟩
          obtain ⟨b1, b2, b3, b4⟩ := M.o b c hb
          exact ⟨b1, b2, b3, (fup_ne _ _ b3).trans b4⟩
        · rintro l3 μ3 hsub3 M
          refine Ws.weak hsub3 ?_
          refine Ws.cons <| Wx.ret <| We.nl rfl rfl ?_
          exact ⟨T, a, d, t, rfl, M⟩
        · exact Sub.cons rfl <| Sub.cons rfl <| Sub.cons rfl <| Sub.cons rfl <| Sub.nil
        · have naT : T ≠ a := ne_of_some ha' h1
          have ndT : T ≠ d := ne_of_some hd' h1
          refine ⟨hC.ca, hC.cd, by rw [hC.o t nat'.symm ndt.symm, fup_self]; rfl, by rw [hC.o T naT ndT, fup_ne _ _ ntT.symm]; exact h1, fun b c hb => ?_⟩
          have bT : b ≠ T := ne_of_some hT hb
          have hb1 : μ1 b = some c := by rw [h2 b bT]; exact hb
          have b1 : b ≠ a := ne_of_some ha' hb1
          have b2 : b ≠ d := ne_of_some hd' hb1
          have b3 : b ≠ t := ne_of_some ht hb1
          exact ⟨b1, b2, b3, by rw [hC.o b b1 b2, fup_ne _ _ b3]; exact hb1⟩
      · exact Sub.cons rfl <| Sub.cons rfl <| Sub.cons rfl <| Sub.cons rfl <| Sub.nil
      · exact ⟨by rw [fup_self]; rfl, fun b hb => by rw [fup_ne _ _ hb]⟩
  · rintro v μ' ⟨T, a, d, t, rfl, M⟩
    refine ⟨_, μ, Gh.shelf1 M.ca M.cd M.ct M.o, ?_⟩
    have e : rowsC S (ordP S).length = (compact S).tab := by unfold rowsC compact; rw [List.take_length]
    rw [e]
    exact h
end
section
open PySem PySem.W PySem.Calls PyProof.Rows
theorem encT_put {done : List (Int × Int × Val)} {r : Int × Int × Val} (h : r.1 ∉ done.map (·.1)) : putK (encT done) r.1 (.tup [.int r.2.1, enc r.2.2]) = encT (done ++ [r]) := by
  rw [putK_new]
  · unfold encT; rw [List.map_append]; rfl
  · rw [lk_encT, Option.isSome_map, look_none h]; rfl
theorem c_shelf_copied {C : Cx} (hK : C.K = hd.heap_39 C.w.params) {S : Shf} (hS : ShOk S) {n : Nat} {Φ : V → Mu → Prop} {μ : Mu} (hn : 12 ≤ n) (h : Φ (encS S) μ) : CallV C n (.ref 382) [encS S] Φ μ := by
  refine CallV.ghost (Φ := fun v μ' => ∃ a d t, v = .ref a ∧ μ' a = some (.inst aShelf (some d)) ∧ μ' d = some (.flds [(Str.ofString "table", .ref t), (Str.ofString "trailer", .dS (enck S.tr))]) ∧ μ' t = some (.dI (encT S.tab)) ∧ ∀ b c, μ b = some c → b ≠ a ∧ b ≠ d ∧ b ≠ t ∧ μ' b = some c) ?_ ?_
  · refine' CallV.defK (m := 11) (names := ["shelf"]) hK ?h1 ?h2 ?h3 ?h4 ?h5 (by omega) ?h6
    case h1 => with_unfolding_all rfl
    case h2 => rfl
    case h3 => rfl
    case h4 => with_unfolding_all rfl
    case h5 => exact bind1 fun _ => (by with_unfolding_all rfl)
    case h6 =>
      intro L
      refine Ws.cons <| Wx.assign ?_
      refine We.dictM (c := .dI []) (fun Z => dkI.empty Z) ?_
      intro T hT
      unfold encS
      refine Wa.nl rfl <| Ws.cons ?_
      refine Wx.for ?_
      refine We.attr <| We.nl rfl rfl <| AttV.inst (at373table hK) rfl ?_
      refine ⟨S.tab.map fun r => V.int r.1, fun _ => True, Itr.encT, ?_⟩
      refine ForL.invB (β := List (Int × Int × Val)) (fun _ => [("table", .ref T), ("shelf", encS S)]) (fun done r μ' => done ++ r = S.tab ∧ μ' T = some (.dI (encT done)) ∧ ∀ b, b ≠ T → μ' b = μ b) (fun _ _ _ _ => trivial) ?_ ?_ [] ?_ ?_
      · rintro done r rest μ' ⟨h1, h2, h3⟩
        have hm : r ∈ S.tab := by rw [← h1]; simp
        have hlk : lk (encT S.tab) r.1 = some (.tup [.int r.2.1, enc r.2.2]) := by rw [lk_encT, look_of_mem hS.keys (show (r.1, r.2) ∈ S.tab from hm)]; rfl
        have hn' : r.1 ∉ done.map (·.1) := fun hq => by
          have := hS.keys
          rw [← h1, List.map_append, List.nodup_append] at this
          exact this.2.2 _ hq r.1 (by simp) rfl
        have hlen : done.length ≤ S.tab.length := by rw [← h1]; simp
        unfold encS
        refine Wa.nl rfl <| Ws.cons <| Wx.assign <| We.sub <| We.attr <| We.nl rfl rfl <| AttV.inst (at373table hK) rfl <| We.nl rfl rfl ?_
        refine SubV.dI SeeI.z hlk ?_
        refine Wa.tuple rfl rfl <| WaL.cons' <| Wa.nl rfl <| WaL.cons' <| Wa.nl rfl <| WaL.nil' <| Ws.cons <| Wx.assign <| We.tuple <| Wes.cons' <| We.nl rfl rfl <| Wes.cons' <| We.call rfl (glcopied hK) (ce270 hK) <| Wes.cons' <| We.nl rfl rfl <| Wes.nil' ?_
        refine c_copied hK 2 (hS.vals r hm) (by omega) ?_
        refine Wes.nil' ⟨lb rfl, Wa.sub <| We.nl rfl rfl <| We.nl rfl rfl ?_⟩
        refine SetI.dI h2 (by rw [encT_len]; have := hS.len; omega) ?_
        refine Ws.nil ?_
        refine ⟨done ++ [r], by exact Sub.cons rfl <| Sub.cons rfl <| Sub.nil, by rw [List.append_assoc]; exact h1, by rw [fup_self, encT_put hn'], fun b hb => (fup_ne _ _ hb).trans (h3 b hb)⟩
      · rintro done l2 μ1 hsub ⟨h1, h2, h3⟩
        rw [List.append_nil] at h1
        subst h1
        refine Ws.weak hsub ?_
        unfold encS
        refine Ws.cons <| Wx.ret <| We.call rfl (glShelf hK) (ce373 hK) <| Wes.cons' <| We.nl rfl rfl <| Wes.cons' <| We.call rfl (glcopied hK) (ce270 hK) <| Wes.cons' <| We.attr <| We.nl rfl rfl <| AttV.inst (at373trailer hK) rfl <| Wes.nil' ?_
        refine c_copied (v := .dict S.tr) hK 3 hS.tr (by omega) ?_
        refine Wes.nil' ?_
        refine c_Shelf2 hK (by omega) rfl rfl fun a d μ2 ha hd hne hC => ?_
        have nTa : T ≠ a := ne_of_some ha h2
        have nTd : T ≠ d := ne_of_some hd h2
        refine ⟨a, d, T, rfl, hC.ca, hC.cd, by rw [hC.o T nTa nTd]; exact h2, fun b c hb => ?_⟩
        have bT : b ≠ T := ne_of_some hT hb
        have hb1 : μ1 b = some c := by rw [h3 b bT]; exact hb
        have b1 : b ≠ a := ne_of_some ha hb1
        have b2 : b ≠ d := ne_of_some hd hb1
        exact ⟨b1, b2, bT, by rw [hC.o b b1 b2]; exact hb1⟩
      · exact Sub.cons rfl <| Sub.cons rfl <| Sub.nil
      · exact ⟨rfl, by rw [fup_self]; rfl, fun b hb => by rw [fup_ne _ _ hb]⟩
  · rintro v μ' ⟨a, d, t, rfl, h1, h2, h3, h4⟩
    exact ⟨_, μ, Gh.shelf1 h1 h2 h3 h4, h⟩
end
section
open PySem PySem.W PySem.Calls PyProof.Rows
inductive TA : Nat → V → Prop
  | atom {n x} : isAt x = true → TA n x
  | tup {n xs} : (∀ x ∈ xs, TA n x) → TA (n + 1) (.tup xs)
theorem TA.cmp {n : Nat} {x : V} (h : TA n x) : ∀ {m : Nat} {y : V}, TA m y → Cmp n x y := by
  induction h with
  | atom hx =>
    intro m y hy
    cases hy with
    | atom hy => exact .aa hx hy
    | tup _ => exact .av hx
  | tup _ ih =>
    intro m y hy
    cases hy with
    | atom hy => exact .ta hy
    | tup hy => exact .tup fun i a b ha hb => ih a (List.mem_of_getElem? ha) (hy b (List.mem_of_getElem? hb))
theorem veqs_of {xs ys : List V} (h : ∀ x ∈ xs, ∀ y ∈ ys, (veq x y = true ↔ x = y)) : veqs xs ys = true ↔ xs = ys := by
  induction xs generalizing ys with
  | nil =>
    cases ys with
    | nil => exact ⟨fun _ => rfl, fun _ => rfl⟩
    | cons => exact ⟨fun h => absurd (show false = true from h) Bool.false_ne_true, nofun⟩
  | cons x xs ih =>
    cases ys with
    | nil => exact ⟨fun h => absurd (show false = true from h) Bool.false_ne_true, nofun⟩
    | cons y ys =>
      rw [veqsE, Bool.and_eq_true, h x (.head _) y (.head _), ih fun a ha b hb => h a (.tail _ ha) b (.tail _ hb), List.cons.injEq]
theorem TA.veq {n : Nat} {x : V} (h : TA n x) : ∀ {m : Nat} {y : V}, TA m y → (SP.veq x y = true ↔ x = y) := by
  induction h with
  | @atom n x hx =>
    intro m y hy
    cases hy with
    | atom hy =>
      cases x <;> first | cases hx | skip
      all_goals (cases y <;> first | cases hy | skip)
      all_goals first | exact ⟨fun h => absurd (show false = true from h) Bool.false_ne_true, nofun⟩ | exact ⟨fun h => by rw [eq_of_beq h], fun h => by cases h; exact beq_self_eq_true _⟩ | exact ⟨fun _ => rfl, fun _ => rfl⟩
    | tup _ =>
      cases x <;> first | cases hx | skip
      all_goals first | exact ⟨fun h => absurd (show false = true from h) Bool.false_ne_true, nofun⟩ | exact ⟨fun h => by rw [eq_of_beq h], fun h => by cases h; exact beq_self_eq_true _⟩ | exact ⟨fun _ => rfl, fun _ => rfl⟩
  | @tup n xs _ ih =>
    intro m y hy
    cases hy with
    | atom hy =>
      cases y <;> first | cases hy | skip
      all_goals first | exact ⟨fun h => absurd (show false = true from h) Bool.false_ne_true, nofun⟩ | exact ⟨fun h => by rw [eq_of_beq h], fun h => by cases h; exact beq_self_eq_true _⟩ | exact ⟨fun _ => rfl, fun _ => rfl⟩
    | tup hy => show veqs _ _ = true ↔ _; rw [veqs_of fun a ha b hb => ih a ha (hy b hb)]; simp
theorem TA.mono {n : Nat} {x : V} (h : TA n x) : TA (n + 1) x := by
  induction h with
  | atom h => exact .atom h
  | tup _ ih => exact .tup ih
theorem TA.le {n m : Nat} {x : V} (h : TA n x) (hl : n ≤ m) : TA m x := by
  induction hl with
  | refl => exact h
  | step _ ih => exact ih.mono
theorem TA.int {n : Nat} {i : Int} : TA n (.int i) := .atom rfl
theorem TA.str {n : Nat} {i : Str} : TA n (.str i) := .atom rfl
theorem TA.s {n : Nat} {i : String} : TA n (S i) := .atom rfl
theorem TA.bytes {n : Nat} {i : Array UInt8} : TA n (.bytes i) := .atom rfl
theorem told_TA {d : Nat} {v : Val} (h : ok d v) : TA (3 * d + 3) (told v) := by
  induction d generalizing v with
  | zero =>
    cases v <;> first | exact h.elim | skip
    all_goals (refine (TA.tup (n := 0) fun x hx => ?_).le (by omega); simp only [List.mem_cons, List.not_mem_nil, or_false] at hx)
    · rw [hx]; exact .s
    · rcases hx with rfl | rfl; exact .s; exact .int
    · rcases hx with rfl | rfl; exact .s; exact .str
    · rcases hx with rfl | rfl | rfl; exact .s; exact .int; exact .int
  | succ d ih =>
    have dd : ∀ {kvs : List (Str × Val)}, (∀ p ∈ kvs, ok d p.2) → TA (3 * d + 5) (.tup (S "dict" :: (sortK (toldk kvs)).map fun p => .tup [.str p.1, p.2])) := fun hk => .tup fun x hx => by
      rcases List.mem_cons.mp hx with rfl | hx
      · exact .s
      · obtain ⟨p, hp, rfl⟩ := List.mem_map.mp hx
        have hp := (sortK_perm _).mem_iff.mp hp
        rw [toldk_eq] at hp
        obtain ⟨q, hq, rfl⟩ := List.mem_map.mp hp
        have hq := (List.mem_filter.mp hq).1
        refine .tup fun y hy => ?_
        simp only [List.mem_cons, List.not_mem_nil, or_false] at hy
        rcases hy with rfl | rfl
        · exact .str
        · exact ih (hk q hq)
    cases v with
    | arr xs =>
      rw [toldE5, tolds_eq]
      refine (TA.tup (n := 3 * d + 3) fun x hx => ?_).le (by omega)
      rcases List.mem_cons.mp hx with rfl | hx
      · exact .s
      · obtain ⟨y, hy, rfl⟩ := List.mem_map.mp hx; exact ih (h.2 y hy)
    | dict kvs => rw [toldE6]; exact (dd h.2.2).le (by omega)
    | stm kvs b =>
      rw [toldE7]
      refine (TA.tup (n := 3 * d + 5) fun x hx => ?_)
      simp only [List.mem_cons, List.not_mem_nil, or_false] at hx
      rcases hx with rfl | rfl | rfl
      · exact .s
      · exact dd h.2.2
      · exact .bytes
    | _ => refine (TA.tup (n := 0) fun x hx => ?_).le (by omega)
           simp only [List.mem_cons, List.not_mem_nil, or_false] at hx
           first | (rw [hx]; exact .s) | (rcases hx with rfl | rfl; exact .s; exact .int) | (rcases hx with rfl | rfl; exact .s; exact .str) | (rcases hx with rfl | rfl | rfl; exact .s; exact .int; exact .int)
theorem toldS_TA {S : Shf} (h : ShOk S) : TA 14 (toldS S) := by
  refine .tup fun x hx => ?_
  simp only [List.mem_cons, List.not_mem_nil, or_false] at hx
  rcases hx with rfl | rfl
  · refine .tup fun y hy => ?_
    obtain ⟨k, hk, rfl⟩ := List.mem_map.mp hy
    obtain ⟨r, h1, h2, h3⟩ := rowV_lk hk
    rw [h2]
    refine .tup fun z hz => ?_
    simp only [List.mem_cons, List.not_mem_nil, or_false] at hz
    rcases hz with rfl | rfl | rfl
    · exact .int
    · exact .int
    · exact (told_TA (h.vals _ h3)).le (by omega)
  · exact (told_TA h.tr).le (by omega)
theorem pair_TA {p : PP} : TA 1 (pairV p) := .tup fun x hx => by
  simp only [List.mem_cons, List.not_mem_nil, or_false] at hx
  rcases hx with rfl | rfl <;> exact .int
theorem pairV_inj {p q : PP} : pairV p = pairV q ↔ p = q := by
  constructor
  · intro h; simp only [V.tup.injEq, List.cons.injEq, V.int.injEq, and_true] at h; exact Prod.ext h.1 h.2
  · rintro rfl; rfl
theorem veq_t1 {a : String} : veq (.tup [SP.S a]) (.tup [SP.S a]) = true := by
  show ((Str.ofString a == Str.ofString a) && true) = true; rw [beq_self_eq_true]; rfl
theorem veq_t2 {a : String} {x y : V} : veq (.tup [SP.S a, x]) (.tup [SP.S a, y]) = veq x y := by
  show ((Str.ofString a == Str.ofString a) && (veq x y && true)) = veq x y; rw [beq_self_eq_true, Bool.true_and, Bool.and_true]
theorem veq_pair {p q : PP} : veq (pairV p) (pairV q) = decide (p = q) := by
  rw [Bool.eq_iff_iff, (pair_TA).veq pair_TA, pairV_inj, decide_eq_true_eq]
theorem veqs_strs {xs ys : List Str} : veqs (xs.map V.str) (ys.map V.str) = decide (xs = ys) := by
  rw [Bool.eq_iff_iff, decide_eq_true_eq, veqs_of fun x hx y hy => ?_]
  · constructor
    · intro h; exact List.map_inj_right (fun a b e => by simpa using e) |>.mp h
    · rintro rfl; rfl
  · obtain ⟨a, _, rfl⟩ := List.mem_map.mp hx
    obtain ⟨b, _, rfl⟩ := List.mem_map.mp hy
    exact ⟨fun h => by rw [eq_of_beq h], fun h => by cases h; exact beq_self_eq_true _⟩
theorem veqs_ints {xs ys : List Int} : veqs (xs.map V.int) (ys.map V.int) = decide (xs = ys) := by
  rw [Bool.eq_iff_iff, decide_eq_true_eq, veqs_of fun x hx y hy => ?_]
  · constructor
    · intro h; exact List.map_inj_right (fun a b e => by simpa using e) |>.mp h
    · rintro rfl; rfl
  · obtain ⟨a, _, rfl⟩ := List.mem_map.mp hx
    obtain ⟨b, _, rfl⟩ := List.mem_map.mp hy
    exact ⟨fun h => by rw [eq_of_beq h], fun h => by cases h; exact beq_self_eq_true _⟩
theorem cmp_strs {xs ys : List Str} : ∀ (i : Nat) x y, (xs.map V.str)[i]? = some x → (ys.map V.str)[i]? = some y → Cmp 0 x y := fun i x y hx hy => by
  obtain ⟨a, _, rfl⟩ := List.mem_map.mp (List.mem_of_getElem? hx)
  obtain ⟨b, _, rfl⟩ := List.mem_map.mp (List.mem_of_getElem? hy)
  exact .aa rfl rfl
theorem cmp_ints {xs ys : List Int} : ∀ (i : Nat) x y, (xs.map V.int)[i]? = some x → (ys.map V.int)[i]? = some y → Cmp 0 x y := fun i x y hx hy => by
  obtain ⟨a, _, rfl⟩ := List.mem_map.mp (List.mem_of_getElem? hx)
  obtain ⟨b, _, rfl⟩ := List.mem_map.mp (List.mem_of_getElem? hy)
  exact .aa rfl rfl
theorem lk_tab {tt : Tab} {p : PP} : lk (tt.map fun r => (pkey r.1, pairV r.2)) (pkey p) = (tt.lookup p).map pairV := by
  induction tt with
  | nil => rfl
  | cons r t ih =>
    obtain ⟨q, s⟩ := r
    rw [List.map_cons, lk_cons, ih]
    by_cases h : q = p
    · subst h; simp [List.lookup]
    · rw [if_neg fun e => h (pkey_inj e)]
      have : (p == q) = false := by simpa using fun e => h e.symm
      simp [List.lookup, this]
end
section
open PySem PySem.W PySem.Calls PyProof.Rows
structure TwM (S T : Shf) (μ : Mu) (a d th bk ln : Addr) (tt bb : Tab) (line : List (Val × Val)) (μ' : Mu) : Prop where
  ca : μ' a = some (.inst aTwin (some d))
  cd : μ' d = some (.flds [(Str.ofString "one", encS S), (Str.ofString "other", encS T), (Str.ofString "there", .ref th), (Str.ofString "back", .ref bk), (Str.ofString "line", .ref ln)])
  ct : μ' th = some (.dP (tt.map fun r => (pkey r.1, pairV r.2)))
  cb : μ' bk = some (.dP (bb.map fun r => (pkey r.1, pairV r.2)))
  cl : μ' ln = some (.list (line.map fun xy => .tup [enc xy.1, enc xy.2]))
  nb : th ≠ bk
  o : ∀ b c, μ b = some c → b ≠ a ∧ b ≠ d ∧ b ≠ th ∧ b ≠ bk ∧ b ≠ ln ∧ μ' b = some c
section
variable {S T : Shf} {μ : Mu} {a d th bk ln : Addr} {tt bb : Tab} {line : List (Val × Val)} {μ' : Mu}
theorem TwM.push (M : TwM S T μ a d th bk ln tt bb line μ') (ps : List (Val × Val)) : TwM S T μ a d th bk ln tt bb (line ++ ps) (fup μ' ln (some (.list (line.map (fun xy => .tup [enc xy.1, enc xy.2]) ++ ps.map fun xy => .tup [enc xy.1, enc xy.2])))) := by
  have n1 : a ≠ ln := fun e => by have h1 := M.ca; have h2 := M.cl; rw [e, h2] at h1; cases h1
  have n2 : d ≠ ln := fun e => by have h1 := M.cd; have h2 := M.cl; rw [e, h2] at h1; cases h1
  have n3 : th ≠ ln := fun e => by have h1 := M.ct; have h2 := M.cl; rw [e, h2] at h1; cases h1
  have n4 : bk ≠ ln := fun e => by have h1 := M.cb; have h2 := M.cl; rw [e, h2] at h1; cases h1
  refine ⟨(fup_ne _ _ n1).trans M.ca, (fup_ne _ _ n2).trans M.cd, (fup_ne _ _ n3).trans M.ct, (fup_ne _ _ n4).trans M.cb, by rw [fup_self, List.map_append], M.nb, fun b c hb => ?_⟩
  obtain ⟨b1, b2, b3, b4, b5, b6⟩ := M.o b c hb
  exact ⟨b1, b2, b3, b4, b5, (fup_ne _ _ b5).trans b6⟩
theorem TwM.pop {x y : Val} (M : TwM S T μ a d th bk ln tt bb (line ++ [(x, y)]) μ') : TwM S T μ a d th bk ln tt bb line (fup μ' ln (some (.list (line.map fun xy => .tup [enc xy.1, enc xy.2])))) := by
  have n1 : a ≠ ln := fun e => by have h1 := M.ca; have h2 := M.cl; rw [e, h2] at h1; cases h1
  have n2 : d ≠ ln := fun e => by have h1 := M.cd; have h2 := M.cl; rw [e, h2] at h1; cases h1
  have n3 : th ≠ ln := fun e => by have h1 := M.ct; have h2 := M.cl; rw [e, h2] at h1; cases h1
  have n4 : bk ≠ ln := fun e => by have h1 := M.cb; have h2 := M.cl; rw [e, h2] at h1; cases h1
  refine ⟨(fup_ne _ _ n1).trans M.ca, (fup_ne _ _ n2).trans M.cd, (fup_ne _ _ n3).trans M.ct, (fup_ne _ _ n4).trans M.cb, by rw [fup_self], M.nb, fun b c hb => ?_⟩
  obtain ⟨b1, b2, b3, b4, b5, b6⟩ := M.o b c hb
  exact ⟨b1, b2, b3, b4, b5, (fup_ne _ _ b5).trans b6⟩
theorem TwM.snoc (M : TwM S T μ a d th bk ln tt bb line μ') {p q : PP} (hp : tt.lookup p = none) (hq : bb.lookup q = none) :
    TwM S T μ a d th bk ln (tt ++ [(p, q)]) (bb ++ [(q, p)]) line (fup (fup μ' th (some (.dP (putK (tt.map fun r => (pkey r.1, pairV r.2)) (pkey p) (pairV q))))) bk (some (.dP (putK (bb.map fun r => (pkey r.1, pairV r.2)) (pkey q) (pairV p))))) := by
  have n1 : a ≠ th := fun e => by have h1 := M.ca; have h2 := M.ct; rw [e, h2] at h1; cases h1
  have n2 : d ≠ th := fun e => by have h1 := M.cd; have h2 := M.ct; rw [e, h2] at h1; cases h1
  have n3 : ln ≠ th := fun e => by have h1 := M.cl; have h2 := M.ct; rw [e, h2] at h1; cases h1
  have m1 : a ≠ bk := fun e => by have h1 := M.ca; have h2 := M.cb; rw [e, h2] at h1; cases h1
  have m2 : d ≠ bk := fun e => by have h1 := M.cd; have h2 := M.cb; rw [e, h2] at h1; cases h1
  have m3 : ln ≠ bk := fun e => by have h1 := M.cl; have h2 := M.cb; rw [e, h2] at h1; cases h1
  refine ⟨(fup_ne _ _ m1).trans ((fup_ne _ _ n1).trans M.ca), (fup_ne _ _ m2).trans ((fup_ne _ _ n2).trans M.cd), ?_, ?_, (fup_ne _ _ m3).trans ((fup_ne _ _ n3).trans M.cl), M.nb, fun b c hb => ?_⟩
  · rw [fup_ne _ _ M.nb, fup_self, putK_new (by rw [lk_tab, hp]; rfl), List.map_append]; rfl
  · rw [fup_self, putK_new (by rw [lk_tab, hq]; rfl), List.map_append]; rfl
  · obtain ⟨b1, b2, b3, b4, b5, b6⟩ := M.o b c hb
    exact ⟨b1, b2, b3, b4, b5, (fup_ne _ _ b4).trans ((fup_ne _ _ b3).trans b6)⟩
end
theorem c_Twin {C : Cx} (hK : C.K = hd.heap_39 C.w.params) {S T : Shf} {n : Nat} {Φ : V → Mu → Prop} {μ : Mu} (hn : 2 ≤ n)
    (h : ∀ a d th bk ln μ', TwM S T μ a d th bk ln [] [] [] μ' → Φ (.ref a) μ') : CallV C n (.ref 467) [encS S, encS T] Φ μ := by
  refine CallV.clsM (m := 1) (cl467 hK) (by omega) fun a d ha hd hne => ?_
  refine' CodeV.defK (m := 0) (names := ["self", "one", "other"]) hK ?h1 ?h2 ?h3 ?h4 ?h5 (by omega) ?h6
  case h1 => with_unfolding_all rfl
  case h2 => rfl
  case h3 => rfl
  case h4 => with_unfolding_all rfl
  case h5 => exact bind3 fun _ _ _ => (by with_unfolding_all rfl)
  case h6 =>
    intro L
    refine Ws.cons <| Wx.assign <| We.nl rfl rfl <| Wa.attr <| We.nl rfl rfl ?_
    refine SetA.cell (d := d) (fs := []) (by simp [fup]) (by simp [fup, hne.symm]) (se467one hK) (by simp) ?_
    refine Ws.cons <| Wx.assign <| We.nl rfl rfl <| Wa.attr <| We.nl rfl rfl ?_
    refine SetA.cell (d := d) (fs := [(Str.ofString "one", encS S)]) (by simp [fup, hne]) (by simp [fup]; rfl) (se467other hK) (by simp) ?_
    refine Ws.cons <| Wx.assign ?_
    refine We.dictM (c := .dP []) (fun Z => dkP.empty Z) ?_
    intro th ht
    obtain ⟨ntd, ht⟩ := fup_none ht
    obtain ⟨_, ht⟩ := fup_none ht
    obtain ⟨nta, ht⟩ := fup_none ht
    obtain ⟨_, ht⟩ := fup_none ht
    refine Wa.attr <| We.nl rfl rfl ?_
    refine SetA.cell (d := d) (fs := [(Str.ofString "one", encS S), (Str.ofString "other", encS T)]) (by simp [fup, hne, nta.symm]) (by simp [fup, ntd.symm]; rfl) (se467there hK) (by simp) ?_
    refine Ws.cons <| Wx.assign ?_
    refine We.dictM (c := .dP []) (fun Z => dkP.empty Z) ?_
    intro bk hb
    obtain ⟨nbd, hb⟩ := fup_none hb
    obtain ⟨nbt, hb⟩ := fup_none hb
    obtain ⟨_, hb⟩ := fup_none hb
    obtain ⟨_, hb⟩ := fup_none hb
    obtain ⟨nba, hb⟩ := fup_none hb
    obtain ⟨_, hb⟩ := fup_none hb
    refine Wa.attr <| We.nl rfl rfl ?_
    refine SetA.cell (d := d) (fs := [(Str.ofString "one", encS S), (Str.ofString "other", encS T), (Str.ofString "there", .ref th)]) (by simp [fup, hne, nta.symm, nba.symm]) (by simp [fup, nbd.symm]; rfl) (se467back hK) (by simp) ?_
    refine Ws.cons <| Wx.assign ?_
    refine We.listM ?_
    refine Wes.nil' ⟨lb rfl, ?_⟩
    intro ln hl
    obtain ⟨nld, hl⟩ := fup_none hl
    obtain ⟨nlb, hl⟩ := fup_none hl
    obtain ⟨_, hl⟩ := fup_none hl
    obtain ⟨nlt, hl⟩ := fup_none hl
    obtain ⟨_, hl⟩ := fup_none hl
    obtain ⟨_, hl⟩ := fup_none hl
    obtain ⟨nla, hl⟩ := fup_none hl
    obtain ⟨_, hl⟩ := fup_none hl
    refine Wa.attr <| We.nl rfl rfl ?_
    refine SetA.cell (d := d) (fs := [(Str.ofString "one", encS S), (Str.ofString "other", encS T), (Str.ofString "there", .ref th), (Str.ofString "back", .ref bk)]) (by simp [fup, hne, nta.symm, nba.symm, nla.symm]) (by simp [fup, nld.symm]; rfl) (se467line hK) (by simp) ?_
    refine Ws.nil ?_
    refine ⟨rfl, h a d th bk ln _ ⟨by simp [fup, hne, nta.symm, nba.symm, nla.symm], by simp [fup]; rfl, by simp [fup, ntd, nlt.symm, nbt.symm], by simp [fup, nbd, nlb.symm], by simp [fup, nld], nbt.symm, fun b c hbc => ?_⟩⟩
    have b1 := ne_of_some ha hbc
    have b2 := ne_of_some hd hbc
    have b3 := ne_of_some ht hbc
    have b4 := ne_of_some hb hbc
    have b5 := ne_of_some hl hbc
    exact ⟨b1, b2, b3, b4, b5, by simp [fup, b1, b2, b3, b4, b5, hbc]⟩
noncomputable def outM (S T : Shf) (μ : Mu) (a d th bk ln : Addr) (line : List (Val × Val)) (μ0 : Mu) (Φ : V → Mu → Prop) : Option (Tab × Tab × List (Val × Val)) → Prop
  | none => ∀ μ', (∀ b c, μ b = some c → μ' b = some c) → Φ (.bool false) μ'
  | some r => ∀ μ', TwM S T μ a d th bk ln r.1 r.2.1 (line ++ r.2.2) μ' → Φ (.bool true) μ'
theorem TwM.keep {S T : Shf} {μ : Mu} {a d th bk ln : Addr} {tt bb : Tab} {line : List (Val × Val)} {μ' : Mu} (M : TwM S T μ a d th bk ln tt bb line μ') : ∀ b c, μ b = some c → μ' b = some c := fun b c hb => (M.o b c hb).2.2.2.2.2
noncomputable def optV : Option PP → V
  | some q => pairV q
  | none => .none
theorem getD_pair {tt : Tab} {p : PP} : ((lk (tt.map fun r => (pkey r.1, pairV r.2)) (pkey p)).getD .none) = optV (tt.lookup p) := by
  rw [lk_tab]; cases tt.lookup p <;> rfl
theorem eq_pair {C : Cx} {n : Nat} {μ : Mu} {o : Option PP} {q : PP} {Φ : V → Mu → Prop} (h : Φ (.bool (decide (o = some q))) μ) : CmpV C n .Eq (optV o) (pairV q) Φ μ := by
  cases o with
  | none => exact CmpV.eqD (k := 0) .nt (by decide) (by simpa [veq, optV] using h)
  | some p => refine CmpV.eqD (k := 1) (pair_TA.cmp pair_TA) (by decide) ?_; rw [optV, veq_pair]; simpa using h
theorem c_meet_references {C : Cx} (hK : C.K = hd.heap_39 C.w.params) {S T : Shf} {μ : Mu} {a d th bk ln : Addr} {tt bb : Tab} {line : List (Val × Val)} {μ0 : Mu} (M : TwM S T μ a d th bk ln tt bb line μ0) {p q : PP} (hp : there S p = true) (hq : there T q = true)
    (z1 : tt.length ≤ 100000) (z2 : bb.length ≤ 100000) (z3 : line.length ≤ 100000) {n : Nat} {Φ : V → Mu → Prop} (hn : 1 ≤ n) (h : outM S T μ a d th bk ln line μ0 Φ (meetR S T tt bb p q)) : CallV C n (.ref 464) [.ref a, pairV p, pairV q] Φ μ0 := by
  obtain ⟨u, hu⟩ := there_iff.mp hp
  have hc : cont S p = u := by unfold cont; rw [hu]
  obtain ⟨v, hv⟩ := there_iff.mp hq
  have hc2 : cont T q = v := by unfold cont; rw [hv]
  unfold meetR at h
  refine' CallV.defK (m := 0) (names := ["self", "first", "second"]) hK ?h1 ?h2 ?h3 ?h4 ?h5 (by omega) ?h6
  case h1 => with_unfolding_all rfl
  case h2 => rfl
  case h3 => rfl
  case h4 => with_unfolding_all rfl
  case h5 => exact bind3 fun _ _ _ => (by with_unfolding_all rfl)
  case h6 =>
    intro L
    have fin : (if tt.lookup p = some q ∧ bb.lookup q = some p then some (tt, bb, ([] : List (Val × Val))) else none) = (if (decide (tt.lookup p = some q) && decide (bb.lookup q = some p)) = true then some (tt, bb, []) else none) := by simp
    rw [fin] at h
    have ret : ∀ (b : Bool), outM S T μ a d th bk ln line μ0 Φ (if b = true then some (tt, bb, []) else none) → Φ (.bool b) μ0 := fun b hb => by
      cases b with
      | true => exact hb μ0 (by simpa using M)
      | false => exact hb μ0 M.keep
    have back : ∀ l : Loc, l.lookup (Str.ofString "self") = some (.ref a) → l.lookup (Str.ofString "first") = some (pairV p) → l.lookup (Str.ofString "second") = some (pairV q) → True := fun _ _ _ _ => trivial
    refine Ws.cons <| Wx.ite <| Wt.boolop <| Wall.cons' <| Wt.cmp <| We.nl rfl rfl <| We.attr <| We.nl rfl rfl ?_
    refine AttV.ref M.ca M.cd (at467there hK) rfl ?_
    refine CmpV.inP (k := pkey p) (SeeP.m M.ct) ⟨_, rfl, ?_⟩
    rw [lk_tab, Option.isSome_map]
    cases h1 : (tt.lookup p).isSome with
    | true =>
      rw [h1, if_pos (by simp)] at h
      refine ite_t rfl <| Ws.cons <| Wx.ret <| We.and2 <| We.cmp <| We.meth <| We.attr <| We.nl rfl rfl ?_
      refine AttV.ref M.ca M.cd (at467there hK) rfl ?_
      refine ⟨.builtin "dict.get", GetM.dct (SeeP.m M.ct) PySem.F.slot_dict_get PySem.F.type_dict_get, Callee.builtin, ?_⟩
      refine Wes.cons' <| We.nl rfl rfl <| Wes.nil' ?_
      refine CallV.dictGet (k := pkey p) (SeeP.m M.ct) ?_
      rw [getD_pair]
      refine We.nl rfl rfl ?_
      refine eq_pair ?_
      refine TruV.bool ?_
      cases e1 : decide (tt.lookup p = some q) with
      | false => rw [e1] at h; exact ite_f rfl (ret false (by simpa using h))
      | true =>
        refine ite_t rfl ?_
        rw [e1, Bool.true_and] at h
        refine We.cmp <| We.meth <| We.attr <| We.nl rfl rfl ?_
        refine AttV.ref M.ca M.cd (at467back hK) rfl ?_
        refine ⟨.builtin "dict.get", GetM.dct (SeeP.m M.cb) PySem.F.slot_dict_get PySem.F.type_dict_get, Callee.builtin, ?_⟩
        refine Wes.cons' <| We.nl rfl rfl <| Wes.nil' ?_
        refine CallV.dictGet (k := pkey q) (SeeP.m M.cb) ?_
        rw [getD_pair]
        refine We.nl rfl rfl ?_
        refine eq_pair ?_
        exact ret _ h
    | false =>
      refine Wall.cons' <| Wt.cmp <| We.nl rfl rfl <| We.attr <| We.nl rfl rfl ?_
      refine AttV.ref M.ca M.cd (at467back hK) rfl ?_
      refine CmpV.inP (k := pkey q) (SeeP.m M.cb) ⟨_, rfl, ?_⟩
      rw [lk_tab, Option.isSome_map]
      cases h2 : (bb.lookup q).isSome with
      | true =>
        rw [h1, h2, if_pos (by simp)] at h
        refine ite_t rfl <| Ws.cons <| Wx.ret <| We.and2 <| We.cmp <| We.meth <| We.attr <| We.nl rfl rfl ?_
        refine AttV.ref M.ca M.cd (at467there hK) rfl ?_
        refine ⟨.builtin "dict.get", GetM.dct (SeeP.m M.ct) PySem.F.slot_dict_get PySem.F.type_dict_get, Callee.builtin, ?_⟩
        refine Wes.cons' <| We.nl rfl rfl <| Wes.nil' ?_
        refine CallV.dictGet (k := pkey p) (SeeP.m M.ct) ?_
        rw [getD_pair]
        refine We.nl rfl rfl ?_
        refine eq_pair ?_
        refine TruV.bool ?_
        cases e1 : decide (tt.lookup p = some q) with
        | false => rw [e1] at h; exact ite_f rfl (ret false (by simpa using h))
        | true =>
          refine ite_t rfl ?_
          rw [e1, Bool.true_and] at h
          refine We.cmp <| We.meth <| We.attr <| We.nl rfl rfl ?_
          refine AttV.ref M.ca M.cd (at467back hK) rfl ?_
          refine ⟨.builtin "dict.get", GetM.dct (SeeP.m M.cb) PySem.F.slot_dict_get PySem.F.type_dict_get, Callee.builtin, ?_⟩
          refine Wes.cons' <| We.nl rfl rfl <| Wes.nil' ?_
          refine CallV.dictGet (k := pkey q) (SeeP.m M.cb) ?_
          rw [getD_pair]
          refine We.nl rfl rfl ?_
          refine eq_pair ?_
          exact ret _ h
      | false =>
        rw [h1, h2, if_neg (by simp)] at h
        have p1 : tt.lookup p = none := by simpa using h1
        have p2 : bb.lookup q = none := by simpa using h2
        have M2 := M.snoc p1 p2
        have n1 : a ≠ th := fun e => by have h1 := M.ca; have h2 := M.ct; rw [e, h2] at h1; cases h1
        have n2 : d ≠ th := fun e => by have h1 := M.cd; have h2 := M.ct; rw [e, h2] at h1; cases h1
        refine Wall.nil' <| ite_f rfl <| Ws.nil <| Ws.cons <| Wx.assign <| We.nl rfl rfl <| Wa.sub <| We.attr <| We.nl rfl rfl ?_
        refine AttV.ref M.ca M.cd (at467there hK) rfl ?_
        refine We.nl rfl rfl ?_
        refine SetI.dP (k := pkey p) M.ct (by rw [List.length_map]; omega) ?_
        refine Ws.cons <| Wx.assign <| We.nl rfl rfl <| Wa.sub <| We.attr <| We.nl rfl rfl ?_
        refine AttV.ref ((fup_ne _ _ n1).trans M.ca) ((fup_ne _ _ n2).trans M.cd) (at467back hK) rfl ?_
        refine We.nl rfl rfl ?_
        refine SetI.dP (k := pkey q) ((fup_ne _ _ M.nb.symm).trans M.cb) (by rw [List.length_map]; omega) ?_
        refine Ws.cons <| Wx.expr <| We.meth <| We.attr <| We.nl rfl rfl ?_
        refine AttV.ref M2.ca M2.cd (at467line hK) rfl ?_
        refine ⟨.builtin "list.append", GetM.lst M2.cl PySem.F.slot_list_append PySem.F.type_list_append, Callee.builtin, ?_⟩
        refine Wes.cons' <| We.tuple <| Wes.cons' <| We.sub <| We.sub <| We.attr <| We.attr <| We.nl rfl rfl ?_
        refine AttV.ref M2.ca M2.cd (at467one hK) rfl ?_
        unfold encS
        refine AttV.inst (at373table hK) rfl <| We.sub <| We.nl rfl rfl <| We.int <| SubV.tup (by decide) rfl (by decide) ?_
        refine SubV.dI SeeI.z (x := .tup [.int p.2, enc u]) (by rw [lk_encT, hu]; rfl) ?_
        refine We.int <| SubV.tup (by decide) rfl (by decide) <| Wes.cons' <| We.sub <| We.sub <| We.attr <| We.attr <| We.nl rfl rfl ?_
        refine AttV.ref M2.ca M2.cd (at467other hK) rfl ?_
        unfold encS
        refine AttV.inst (at373table hK) rfl <| We.sub <| We.nl rfl rfl <| We.int <| SubV.tup (by decide) rfl (by decide) ?_
        refine SubV.dI SeeI.z (x := .tup [.int q.2, enc v]) (by rw [lk_encT, hv]; rfl) ?_
        refine We.int <| SubV.tup (by decide) rfl (by decide) <| Wes.nil' ⟨lb rfl, Wes.nil' ?_⟩
        refine CallV.append M2.cl (by rw [List.length_map]; omega) ?_
        refine Ws.cons <| Wx.ret <| We.bool ?_
        rw [← hc, ← hc2]
        exact h _ (M2.push [(cont S p, cont T q)])
end
section
open PySem PySem.W PySem.Calls PyProof.Rows
theorem c_meet_dicts {C : Cx} (hK : C.K = hd.heap_39 C.w.params) {S T : Shf} {μ : Mu} {a d th bk ln : Addr} {tt bb : Tab} {line : List (Val × Val)} {μ0 : Mu} (M : TwM S T μ a d th bk ln tt bb line μ0) {e : Nat} {kvs kws : List (Str × Val)} (hv : ok e (.dict kvs)) (hw : ok e (.dict kws))
    (z3 : line.length ≤ 100000) {n : Nat} {Φ : V → Mu → Prop} (hn : 5 ≤ n) (h : outM S T μ a d th bk ln line μ0 Φ ((meetD S T kvs kws).map fun ps => (tt, bb, ps))) : CallV C n (.ref 457) [.ref a, .dS (enck kvs), .dS (enck kws)] Φ μ0 := by
  have hlen : (solid S kvs).length ≤ 8 := by
    unfold solid; refine Nat.le_trans (List.length_filter_le _ _) ?_; rw [sortS_len]
    cases e with
    | zero => exact hv.elim
    | succ e => exact hv.1
  have hnd : (kvs.map (·.1)).Nodup := by cases e with | zero => exact hv.elim | succ e => exact hv.2.1
  have hnd2 : (kws.map (·.1)).Nodup := by cases e with | zero => exact hw.elim | succ e => exact hw.2.1
  refine' CallV.defK (m := 4) (names := ["self", "first", "second"]) hK ?h1 ?h2 ?h3 ?h4 ?h5 (by omega) ?h6
  case h1 => with_unfolding_all rfl
  case h2 => rfl
  case h3 => rfl
  case h4 => with_unfolding_all rfl
  case h5 => exact bind3 fun _ _ _ => (by with_unfolding_all rfl)
  case h6 =>
    intro L
    refine Ws.cons <| Wx.assign <| We.call rfl (glsolidkeys hK) (ce429 hK) <| Wes.cons' <| We.attr <| We.nl rfl rfl ?_
    refine AttV.ref M.ca M.cd (at467one hK) rfl ?_
    refine Wes.cons' <| We.nl rfl rfl <| Wes.nil' ?_
    refine c_solid_keys hK hv (by omega) ?_
    refine Wa.nl rfl <| Ws.cons <| Wx.ite <| Wt.cmp <| We.nl rfl rfl <| We.call rfl (glsolidkeys hK) (ce429 hK) <| Wes.cons' <| We.attr <| We.nl rfl rfl ?_
    refine AttV.ref M.ca M.cd (at467other hK) rfl ?_
    refine Wes.cons' <| We.nl rfl rfl <| Wes.nil' ?_
    refine c_solid_keys hK hw (by omega) ?_
    refine CmpV.neL SeeL.z SeeL.z cmp_strs (by decide) ⟨_, rfl, ?_⟩
    rw [veqs_strs]
    unfold meetD at h
    by_cases hk : solid S kvs = solid T kws
    · rw [if_pos hk] at h
      refine ite_f (by rw [decide_eq_true hk]; rfl) ?_
      refine Ws.nil <| Ws.cons ?_
      refine Wx.for ?_
      refine We.nl rfl rfl ?_
      refine ⟨(solid S kvs).map V.str, fun _ => True, Itr.list, ?_⟩
      refine ForL.invB (β := List Str) (fun _ => [("self", .ref a), ("first", .dS (enck kvs)), ("second", .dS (enck kws))]) (fun done r μ' => done ++ r = solid S kvs ∧ TwM S T μ a d th bk ln tt bb (line ++ done.map fun k => (getK kvs k, getK kws k)) μ') (fun _ _ _ _ => trivial) ?_ ?_ [] ?_ ?_
      · rintro done k r μ1 ⟨h1, M1⟩
        have hm : k ∈ solid S kvs := by rw [← h1]; simp
        have hm2 : k ∈ solid T kws := hk ▸ hm
        have hl : done.length ≤ 8 := Nat.le_trans (by rw [← h1]; simp) hlen
        refine Wa.nl rfl <| Ws.cons <| Wx.expr <| We.meth <| We.attr <| We.nl rfl rfl ?_
        refine AttV.ref M1.ca M1.cd (at467line hK) rfl ?_
        refine ⟨.builtin "list.append", GetM.lst M1.cl PySem.F.slot_list_append PySem.F.type_list_append, Callee.builtin, ?_⟩
        refine Wes.cons' <| We.tuple <| Wes.cons' <| We.sub <| We.nl rfl rfl <| We.nl rfl rfl ?_
        refine SubV.dS (kvs := enck kvs) SeeS.z (lk_getK ((sortS_perm _).mem_iff.mp (List.mem_filter.mp hm).1)) ?_
        refine Wes.cons' <| We.sub <| We.nl rfl rfl <| We.nl rfl rfl ?_
        refine SubV.dS (kvs := enck kws) SeeS.z (lk_getK ((sortS_perm _).mem_iff.mp (List.mem_filter.mp hm2).1)) ?_
        refine Wes.nil' ⟨lb rfl, Wes.nil' ?_⟩
        refine CallV.append M1.cl (by rw [List.length_map, List.length_append, List.length_map]; omega) ?_
        refine Ws.nil ?_
        refine ⟨done ++ [k], by exact Sub.cons rfl <| Sub.cons rfl <| Sub.cons rfl <| Sub.nil, by rw [List.append_assoc]; exact h1, ?_⟩
        have := M1.push [(getK kvs k, getK kws k)]
        rw [List.append_assoc] at this
        rw [List.map_append]
        exact this
      · rintro done l2 μ1 hsub ⟨h1, M1⟩
        rw [List.append_nil] at h1
        subst h1
        refine Ws.weak hsub ?_
        refine Ws.cons <| Wx.ret <| We.bool ?_
        exact h _ M1
      · exact Sub.cons rfl <| Sub.cons rfl <| Sub.cons rfl <| Sub.nil
      · exact ⟨rfl, by rw [List.map_nil, List.append_nil]; exact M⟩
    · rw [if_neg hk] at h
      refine ite_t (by rw [decide_eq_false hk]; rfl) ?_
      refine Ws.cons <| Wx.ret <| We.bool ?_
      exact h _ M.keep
theorem zipV_enc : ∀ (xs ys : List Val), zipV (xs.map enc) (ys.map enc) = (xs.zip ys).map fun xy => V.tup [enc xy.1, enc xy.2]
  | [], _ => rfl
  | _ :: _, [] => rfl
  | x :: xs, y :: ys => by
    have := zipV_enc xs ys
    unfold zipV at this ⊢
    rw [List.map_cons, List.map_cons, List.zipWith_cons_cons, this]; rfl
theorem kindS_tag {x : Val} : kindS x = tagS (tagN x) := by cases x <;> rfl
theorem meet_kind {S T : Shf} {tt bb : Tab} {x y : Val} (h : kindS (seen S x) ≠ kindS (seen T y)) : meetP S T tt bb x y = none := by
  unfold meetP
  generalize seen S x = x' at h ⊢
  generalize seen T y = y' at h ⊢
  cases x' <;> cases y' <;> first | rfl | exact absurd rfl h
theorem c_meet {C : Cx} (hK : C.K = hd.heap_39 C.w.params) {S T : Shf} {μ : Mu} {a d th bk ln : Addr} {tt bb : Tab} {line : List (Val × Val)} {μ0 : Mu} (M : TwM S T μ a d th bk ln tt bb line μ0) {x y : Val} (hx : ok 3 x) (hy : ok 3 y)
    (z1 : tt.length ≤ 100000) (z2 : bb.length ≤ 100000) (z3 : line.length ≤ 100000) {n : Nat} {Φ : V → Mu → Prop} (hn : 12 ≤ n) (h : outM S T μ a d th bk ln line μ0 Φ (meetP S T tt bb x y)) : CallV C n (.ref 450) [.ref a, enc x, enc y] Φ μ0 := by
  refine' CallV.defK (m := 11) (names := ["self", "here", "there"]) hK ?h1 ?h2 ?h3 ?h4 ?h5 (by omega) ?h6
  case h1 => with_unfolding_all rfl
  case h2 => rfl
  case h3 => rfl
  case h4 => with_unfolding_all rfl
  case h5 => exact bind3 fun _ _ _ => (by with_unfolding_all rfl)
  case h6 =>
    intro L
    refine Ws.cons <| Wx.assign <| We.call rfl (glseenas hK) (ce424 hK) <| Wes.cons' <| We.attr <| We.nl rfl rfl ?_
    refine AttV.ref M.ca M.cd (at467one hK) rfl ?_
    refine Wes.cons' <| We.nl rfl rfl <| Wes.nil' <| c_seen_as hK (lb rfl) <| Wa.nl rfl <| Ws.cons <| Wx.assign <| We.call rfl (glseenas hK) (ce424 hK) <| Wes.cons' <| We.attr <| We.nl rfl rfl ?_
    refine AttV.ref M.ca M.cd (at467other hK) rfl ?_
    refine Wes.cons' <| We.nl rfl rfl <| Wes.nil' <| c_seen_as hK (lb rfl) <| Wa.nl rfl <| Ws.cons <| Wx.assign <| We.call rfl (glkindof hK) (ce253 hK) <| Wes.cons' <| We.nl rfl rfl <| Wes.nil' <| c_kind_of hK (lb rfl) <| Wa.nl rfl <| Ws.cons <| Wx.ite <| Wt.cmp <| We.nl rfl rfl <| We.call rfl (glkindof hK) (ce253 hK) <| Wes.cons' <| We.nl rfl rfl <| Wes.nil' <| c_kind_of hK (lb rfl) <| CmpV.neS ⟨_, rfl, ?_⟩
    by_cases hk : kindS (seen S x) = kindS (seen T y)
    · have hx' := ok_seen (S := S) hx
      have hy' := ok_seen (S := T) hy
      refine ite_f (by simp [hk]) ?_
      rw [kindS_tag, kindS_tag] at hk
      have hg := tagS_inj _ _ hk
      clear hk
      unfold meetP at h
      generalize hsx : seen S x = x' at h hx' hg ⊢
      generalize hsy : seen T y = y' at h hy' hg ⊢
      have leafT : ∀ (b : Bool), outM S T μ a d th bk ln line μ0 Φ (if b = true then some (tt, bb, []) else none) → Φ (.bool b) μ0 := fun b hb => by
        cases b with
        | true => exact hb μ0 (by simpa using M)
        | false => exact hb μ0 M.keep
      have leaf : ∀ {x' y' : Val} {b : Bool}, (∀ xs, x' ≠ .arr xs) → (∀ xs, x' ≠ .dict xs) → (∀ xs b, x' ≠ .stm xs b) → ok 3 x' → ok 3 y' → veq (told x') (told y') = b → outM S T μ a d th bk ln line μ0 Φ (if b = true then some (tt, bb, []) else none) → CmpV C 11 .Eq (told x') (told y') Φ μ0 := by
        intro x' y' b _ _ _ ox oy hb ho
        refine CmpV.eqD ((told_TA ox).cmp (told_TA oy)) (by decide) ?_
        rw [hb]; exact leafT b ho
      cases x' <;> cases y' <;> first | (simp [tagN] at hg; done) | skip
      · refine Ws.nil <| Ws.cons <| Wx.ite <| Wt.cmp <| We.nl rfl rfl <| We.str <| CmpV.eqS ⟨_, rfl, ite_f rfl <| Ws.nil <| Ws.cons <| Wx.ite <| Wt.cmp <| We.nl rfl rfl <| We.str <| CmpV.eqS ⟨_, rfl, ite_f rfl <| Ws.nil <| Ws.cons <| Wx.ite <| Wt.cmp <| We.nl rfl rfl <| We.str <| CmpV.eqS ⟨_, rfl, ite_f rfl <| Ws.nil <| Ws.cons <| Wx.ite <| Wt.cmp <| We.nl rfl rfl <| We.str <| CmpV.eqS ⟨_, rfl, ite_f rfl <| Ws.nil <| Ws.cons <| Wx.ret <| We.cmp <| We.call rfl (gltoldobjects hK) (ce265 hK) <| Wes.cons' <| We.nl rfl rfl <| Wes.nil' ?_⟩⟩⟩⟩
        refine c_told hK 3 hx' (by omega) ?_
        refine We.call rfl (gltoldobjects hK) (ce265 hK) <| Wes.cons' <| We.nl rfl rfl <| Wes.nil' ?_
        refine c_told hK 3 hy' (by omega) ?_
        refine leaf (b := true) (by simp) (by simp) (by simp) hx' hy' veq_t1 ?_
        simpa using h
      · rename_i i j
        refine Ws.nil <| Ws.cons <| Wx.ite <| Wt.cmp <| We.nl rfl rfl <| We.str <| CmpV.eqS ⟨_, rfl, ite_f rfl <| Ws.nil <| Ws.cons <| Wx.ite <| Wt.cmp <| We.nl rfl rfl <| We.str <| CmpV.eqS ⟨_, rfl, ite_f rfl <| Ws.nil <| Ws.cons <| Wx.ite <| Wt.cmp <| We.nl rfl rfl <| We.str <| CmpV.eqS ⟨_, rfl, ite_f rfl <| Ws.nil <| Ws.cons <| Wx.ite <| Wt.cmp <| We.nl rfl rfl <| We.str <| CmpV.eqS ⟨_, rfl, ite_f rfl <| Ws.nil <| Ws.cons <| Wx.ret <| We.cmp <| We.call rfl (gltoldobjects hK) (ce265 hK) <| Wes.cons' <| We.nl rfl rfl <| Wes.nil' ?_⟩⟩⟩⟩
        refine c_told hK 3 hx' (by omega) ?_
        refine We.call rfl (gltoldobjects hK) (ce265 hK) <| Wes.cons' <| We.nl rfl rfl <| Wes.nil' ?_
        refine c_told hK 3 hy' (by omega) ?_
        refine leaf (b := decide (i = j)) (by simp) (by simp) (by simp) hx' hy' (veq_t2.trans rfl) ?_
        simpa using h
      · rename_i i j
        refine Ws.nil <| Ws.cons <| Wx.ite <| Wt.cmp <| We.nl rfl rfl <| We.str <| CmpV.eqS ⟨_, rfl, ite_f rfl <| Ws.nil <| Ws.cons <| Wx.ite <| Wt.cmp <| We.nl rfl rfl <| We.str <| CmpV.eqS ⟨_, rfl, ite_f rfl <| Ws.nil <| Ws.cons <| Wx.ite <| Wt.cmp <| We.nl rfl rfl <| We.str <| CmpV.eqS ⟨_, rfl, ite_f rfl <| Ws.nil <| Ws.cons <| Wx.ite <| Wt.cmp <| We.nl rfl rfl <| We.str <| CmpV.eqS ⟨_, rfl, ite_f rfl <| Ws.nil <| Ws.cons <| Wx.ret <| We.cmp <| We.call rfl (gltoldobjects hK) (ce265 hK) <| Wes.cons' <| We.nl rfl rfl <| Wes.nil' ?_⟩⟩⟩⟩
        refine c_told hK 3 hx' (by omega) ?_
        refine We.call rfl (gltoldobjects hK) (ce265 hK) <| Wes.cons' <| We.nl rfl rfl <| Wes.nil' ?_
        refine c_told hK 3 hy' (by omega) ?_
        refine leaf (b := decide (i = j)) (by simp) (by simp) (by simp) hx' hy' (veq_t2.trans rfl) ?_
        simpa using h
      · rename_i p q
        refine Ws.nil <| Ws.cons <| Wx.ite <| Wt.cmp <| We.nl rfl rfl <| We.str <| CmpV.eqS ⟨_, rfl, ite_t rfl <| Ws.cons <| Wx.ret <| We.meth <| We.nl rfl rfl ?_⟩
        refine ⟨.ref 464, GetM.ref M.ca M.cd (me467meetreferences hK) rfl, ce464 hK, ?_⟩
        refine Wes.cons' <| We.meth <| We.nl rfl rfl ?_
        refine ⟨.ref 239, GetM.inst (me242pair hK) rfl, ce239 hK, ?_⟩
        refine Wes.nil' <| c_pair hK (lb rfl) <| Wes.cons' <| We.meth <| We.nl rfl rfl ?_
        refine ⟨.ref 239, GetM.inst (me242pair hK) rfl, ce239 hK, ?_⟩
        refine Wes.nil' <| c_pair hK (lb rfl) <| Wes.nil' ?_
        exact c_meet_references hK M (seen_ref hsx) (seen_ref hsy) z1 z2 z3 (by omega) h
      · rename_i xs ys
        have hxl : xs.length ≤ 8 := hx'.1
        have hyl : ys.length ≤ 8 := hy'.1
        have M2 := M.push (xs.zip ys)
        refine Ws.nil <| Ws.cons <| Wx.ite <| Wt.cmp <| We.nl rfl rfl <| We.str <| CmpV.eqS ⟨_, rfl, ite_f rfl <| Ws.nil <| Ws.cons <| Wx.ite <| Wt.cmp <| We.nl rfl rfl <| We.str <| CmpV.eqS ⟨_, rfl, ite_t rfl <| Ws.cons <| Wx.expr <| We.extendZip rfl (glzip hK) <| We.attr <| We.nl rfl rfl ?_⟩⟩
        refine AttV.ref M.ca M.cd (at467line hK) rfl ?_
        refine ⟨ln, _, rfl, M.cl, ?_⟩
        refine Wes.cons' <| We.nl rfl rfl <| Wes.cons' <| We.nl rfl rfl <| Wes.nil' ?_
        refine ⟨xs.map enc, ys.map enc, by rw [encE5, encE5, encs_eq, encs_eq], M.cl, by rw [List.length_map, List.length_map]; omega, ?_⟩
        rw [zipV_enc]
        refine Ws.cons <| Wx.ret <| We.cmp <| We.call rfl (gllen hK) Callee.builtin <| Wes.cons' <| We.nl rfl rfl <| Wes.nil' ?_
        refine CallV.lenL (xs := xs.map enc) (by rw [encE5, encs_eq]; exact SeeL.z) (by rw [List.length_map]; omega) ?_
        refine We.call rfl (gllen hK) Callee.builtin <| Wes.cons' <| We.nl rfl rfl <| Wes.nil' ?_
        refine CallV.lenL (xs := ys.map enc) (by rw [encE5, encs_eq]; exact SeeL.z) (by rw [List.length_map]; omega) ?_
        refine CmpV.eqI ?_
        rw [List.length_map, List.length_map]
        dsimp only at h
        by_cases hl : xs.length = ys.length
        · rw [if_pos hl] at h
          have := h _ M2
          have e : ((xs.length : Int) == (ys.length : Int)) = true := by simp [hl]
          rw [e]
          exact this
        · rw [if_neg hl] at h
          have := h _ M2.keep
          have e : ((xs.length : Int) == (ys.length : Int)) = false := by simp; omega
          rw [e]
          exact this
      · refine Ws.nil <| Ws.cons <| Wx.ite <| Wt.cmp <| We.nl rfl rfl <| We.str <| CmpV.eqS ⟨_, rfl, ite_f rfl <| Ws.nil <| Ws.cons <| Wx.ite <| Wt.cmp <| We.nl rfl rfl <| We.str <| CmpV.eqS ⟨_, rfl, ite_f rfl <| Ws.nil <| Ws.cons <| Wx.ite <| Wt.cmp <| We.nl rfl rfl <| We.str <| CmpV.eqS ⟨_, rfl, ite_t rfl <| Ws.cons <| Wx.ret <| We.meth <| We.nl rfl rfl ?_⟩⟩⟩
        refine ⟨.ref 457, GetM.ref M.ca M.cd (me467meetdicts hK) rfl, ce457 hK, ?_⟩
        refine Wes.cons' <| We.nl rfl rfl <| Wes.cons' <| We.nl rfl rfl <| Wes.nil' ?_
        exact c_meet_dicts hK M hx' hy' z3 (by omega) h
      · rename_i kvs b kws c
        refine Ws.nil <| Ws.cons <| Wx.ite <| Wt.cmp <| We.nl rfl rfl <| We.str <| CmpV.eqS ⟨_, rfl, ite_f rfl <| Ws.nil <| Ws.cons <| Wx.ite <| Wt.cmp <| We.nl rfl rfl <| We.str <| CmpV.eqS ⟨_, rfl, ite_f rfl <| Ws.nil <| Ws.cons <| Wx.ite <| Wt.cmp <| We.nl rfl rfl <| We.str <| CmpV.eqS ⟨_, rfl, ite_f rfl <| Ws.nil <| Ws.cons <| Wx.ite <| Wt.cmp <| We.nl rfl rfl <| We.str <| CmpV.eqS ⟨_, rfl, ite_t rfl <| Ws.cons <| Wx.ret <| We.and2 <| We.cmp <| We.call rfl (glbytes hK) Callee.type <| Wes.cons' <| We.attr <| We.nl rfl rfl <| AttV.inst (at214octets hK) rfl <| Wes.nil' <| CallV.bytesB <| We.call rfl (glbytes hK) Callee.type <| Wes.cons' <| We.attr <| We.nl rfl rfl <| AttV.inst (at214octets hK) rfl <| Wes.nil' <| CallV.bytesB <| CmpV.eqY <| TruV.bool ?_⟩⟩⟩⟩
        dsimp only at h
        by_cases hb : b = c
        · rw [if_pos hb] at h
          refine ite_t (by simp [hb]) ?_
          refine We.meth <| We.nl rfl rfl ?_
          refine ⟨.ref 457, GetM.ref M.ca M.cd (me467meetdicts hK) rfl, ce457 hK, ?_⟩
          refine Wes.cons' <| We.attr <| We.nl rfl rfl <| AttV.inst (at214head hK) rfl <| Wes.cons' <| We.attr <| We.nl rfl rfl <| AttV.inst (at214head hK) rfl <| Wes.nil' ?_
          exact c_meet_dicts hK M (e := 3) (kvs := kvs) (kws := kws) hx' hy' z3 (by omega) h
        · rw [if_neg hb] at h
          refine ite_f (by simp [hb]) ?_
          have e : (b == c) = false := by simp [hb]
          rw [e]
          exact h _ M.keep
    · rw [meet_kind hk] at h
      refine ite_t (by simpa using hk) ?_
      refine Ws.cons <| Wx.ret <| We.bool ?_
      exact h _ M.keep
end
section
open PySem PySem.W PySem.Calls PyProof.Rows
theorem lineSz_len (line : List (Val × Val)) : line.length ≤ lineSz line := by
  unfold lineSz
  induction line with
  | nil => exact Nat.le_refl _
  | cons a r ih => rw [List.length_cons, List.map_cons, List.sum_cons]; have := sz_pos (x := a.1); omega
structure AlI (S T : Shf) (k : Nat) (tt bb : Tab) (line : List (Val × Val)) : Prop where
  run : runP S T k tt bb line = alikeP S T
  les : left S tt + lineSz line < k
  kle : k ≤ 2000
  oks : ∀ xy ∈ line, ok 3 xy.1 ∧ ok 3 xy.2
  l1 : tt.length + k ≤ 2000
  l2 : bb.length + k ≤ 2000
theorem c_alike {C : Cx} (hK : C.K = hd.heap_39 C.w.params) {S T : Shf} (hS : ShOk S) (hT : ShOk T) {n : Nat} {Φ : V → Mu → Prop} {μ : Mu} (hn : 14 ≤ n) (h : Φ (.bool (alikeP S T)) μ) : CallV C n (.ref 478) [encS S, encS T] Φ μ := by
  refine CallV.drop ?_
  refine' CallV.defK (m := 13) (names := ["one", "other"]) hK ?h1 ?h2 ?h3 ?h4 ?h5 (by omega) ?h6
  case h1 => with_unfolding_all rfl
  case h2 => rfl
  case h3 => rfl
  case h4 => with_unfolding_all rfl
  case h5 => exact bind2 fun _ _ => (by with_unfolding_all rfl)
  case h6 =>
    intro L
    refine Ws.cons <| Wx.assign <| We.call rfl (glTwin hK) (ce467 hK) <| Wes.cons' <| We.nl rfl rfl <| Wes.cons' <| We.nl rfl rfl <| Wes.nil' ?_
    refine c_Twin hK (by omega) fun a d th bk ln μ1 M => ?_
    have M2 := M.push [(.dict (plain S), .dict (plain T))]
    refine Wa.nl rfl <| Ws.cons <| Wx.expr <| We.meth <| We.attr <| We.nl rfl rfl ?_
    refine AttV.ref M.ca M.cd (at467line hK) rfl ?_
    refine ⟨.builtin "list.append", GetM.lst M.cl PySem.F.slot_list_append PySem.F.type_list_append, Callee.builtin, ?_⟩
    refine Wes.cons' <| We.tuple <| Wes.cons' <| We.call rfl (glplaintrailer hK) (ce395 hK) <| Wes.cons' <| We.nl rfl rfl <| Wes.nil' <| c_plain_trailer hK (by assumption) (lb rfl) ?_; refine Wes.cons' <| We.call rfl (glplaintrailer hK) (ce395 hK) <| Wes.cons' <| We.nl rfl rfl <| Wes.nil' <| c_plain_trailer hK (by assumption) (lb rfl) ?_; refine Wes.nil' ⟨lb rfl, Wes.nil' ?_⟩
    refine CallV.append M.cl (by simp) ?_
    refine Ws.cons ?_
    refine Wx.whileB (β := Nat × Tab × Tab × List (Val × Val)) (fun _ => [("twin", .ref a)]) (fun b μ' => TwM S T μ a d th bk ln b.2.1 b.2.2.1 b.2.2.2 μ' ∧ AlI S T b.1 b.2.1 b.2.2.1 b.2.2.2) (fun b => b.1) ?_ (2000, [], [], [(.dict (plain S), .dict (plain T))]) ?_ ?_
    · rintro ⟨k, tt, bb, line⟩ μ' ⟨M, I⟩
      dsimp only at M I
      have hlen := lineSz_len line
      have hles := I.les
      have hkle := I.kle
      have hl1 := I.l1
      have hl2 := I.l2
      refine Wt.val <| We.attr <| We.nl rfl rfl ?_
      refine AttV.ref M.ca M.cd (at467line hK) rfl ?_
      refine TruV.cell M.cl (by rw [List.length_map]; omega) ?_
      cases k with
      | zero => omega
      | succ k =>
      rcases nil_or_snoc line with rfl | ⟨rest, xy, rfl⟩
      · refine ite_f rfl ?_
        refine Ws.cons <| Wx.ret <| We.bool ?_
        have := I.run
        rw [runP_nil] at this
        rw [← this] at h
        exact ⟨h, M.keep⟩
      · obtain ⟨x, y⟩ := xy
        obtain ⟨ox, oy⟩ := I.oks (x, y) (by simp)
        have hcl := M.cl
        rw [map_snoc] at hcl
        have MP := M.pop
        rw [lineSz_append] at hles
        have e1 : lineSz [(x, y)] = sz x := by simp [lineSz]
        have hrl := lineSz_len rest
        refine ite_t not_empty_snoc ?_
        refine Ws.cons <| Wx.assign <| We.meth <| We.attr <| We.nl rfl rfl ?_
        refine AttV.ref M.ca M.cd (at467line hK) rfl ?_
        refine ⟨.builtin "list.pop", GetM.lst hcl PySem.F.slot_list_pop PySem.F.type_list_pop, Callee.builtin, ?_⟩
        refine Wes.nil' ?_
        refine CallV.pop hcl (by simp; omega) ?_
        refine Wa.tuple rfl rfl <| WaL.cons' <| Wa.nl rfl <| WaL.cons' <| Wa.nl rfl <| WaL.nil' <| Ws.cons <| Wx.ite <| Wt.not <| Wt.val <| We.meth <| We.nl rfl rfl ?_
        refine ⟨.ref 450, GetM.ref MP.ca MP.cd (me467meet hK) rfl, ce450 hK, ?_⟩
        refine Wes.cons' <| We.nl rfl rfl <| Wes.cons' <| We.nl rfl rfl <| Wes.nil' ?_
        refine c_meet hK MP ox oy (by omega) (by omega) (by omega) (by omega) ?_
        have hrun := I.run
        cases hm : meetP S T tt bb x y with
        | none =>
          rw [runP_none hm] at hrun
          intro μ2 hk2
          refine TruV.bool <| ite_t rfl <| Ws.cons <| Wx.ret <| We.bool ?_
          rw [← hrun] at h
          exact ⟨h, hk2⟩
        | some r =>
          rw [runP_some hm] at hrun
          have hl := meetP_less ox hm
          obtain ⟨st, ops⟩ := meetP_state hS hT (by decide) ox oy hm
          intro μ2 M3
          refine TruV.bool <| ite_f rfl <| Ws.nil <| Ws.nil ?_
          refine ⟨(k, r.1, r.2.1, rest ++ r.2.2), Nat.lt_succ_self _, by exact Sub.cons rfl <| Sub.nil, M3, hrun, ?_, by omega, ?_, ?_, ?_⟩
          · dsimp only at hl ⊢; rw [lineSz_append]; omega
          · intro xy hxy
            rcases List.mem_append.mp hxy with hxy | hxy
            · exact I.oks xy (by simp [hxy])
            · exact ops xy hxy
          · rcases st with ⟨e, _⟩ | ⟨p, q, _, _, _, _, e⟩
            · rw [e]; omega
            · rw [e]; simp; omega
          · rcases st with ⟨_, e⟩ | ⟨p, q, _, _, _, _, e⟩
            · rw [e]; omega
            · rw [e]; simp; omega
    · exact Sub.cons rfl <| Sub.nil
    · refine ⟨M2, rfl, start_size hS, Nat.le_refl _, fun xy hxy => ?_, by simp, by simp⟩
      rw [List.mem_singleton.mp hxy]; exact ⟨ok_plain hS, ok_plain hT⟩
end
section
open PySem PySem.W PySem.Calls PyProof.Rows
noncomputable abbrev penC (N : Int) (c : Nat) : Cell := .list [.int N, .int (c : Int)]
theorem fup_fup {μ : Mu} {p : Addr} {x y : Option Cell} : fup (fup μ p x) p y = fup μ p y := by funext b; by_cases h : b = p <;> simp [fup, h]
theorem fup_same {μ : Mu} {p : Addr} {x : Option Cell} (h : μ p = x) : fup μ p x = μ := by funext b; by_cases e : b = p <;> simp [fup, e, h]
theorem fmod_rng {a b : Int} (hb : 0 < b) : 0 ≤ a.fmod b ∧ a.fmod b < b := by
  rw [Int.fmod_eq_emod_of_nonneg a (Int.le_of_lt hb)]
  exact ⟨Int.emod_nonneg a (by omega), Int.emod_lt_of_pos a hb⟩
theorem fdiv_nn {a b : Int} (ha : 0 ≤ a) (hb : 0 < b) : 0 ≤ a.fdiv b := by
  rw [Int.fdiv_eq_ediv_of_nonneg a (Int.le_of_lt hb)]
  exact Int.ediv_nonneg ha (Int.le_of_lt hb)
section
variable {C : Cx} {n : Nat} {env : Env} {l : Loc} {μ : Mu}
theorem CompL.inv {β : Type} {cenv : Env} {x : Str} {elt : Expr} {lf : Loc} {Φ : List V → Mu → Prop} {okm : Mu → Prop} {e : β → V} (I : List β → List V → Mu → Prop)
    (turn : ∀ b r acc μ, I (b :: r) acc μ → okm μ ∧ We C n cenv elt (fun v μ1 => I r (acc ++ [v]) μ1) ((x, e b) :: lf) μ) (fin : ∀ acc μ, I [] acc μ → okm μ ∧ Φ acc μ) {xs : List β} {acc : List V} (h : I xs acc μ) :
    CompL C n cenv x [] elt lf Φ okm (xs.map e) acc μ := by
  induction xs generalizing acc μ with
  | nil => exact fin _ _ h
  | cons b r ih =>
    obtain ⟨h1, h2⟩ := turn b r acc μ h
    exact ⟨h1, h2.mono fun v μ1 q => ih q⟩
end
noncomputable def putA {κ β : Type} [DecidableEq κ] (kvs : List (κ × β)) (k : κ) (x : β) : List (κ × β) :=
  if kvs.any (fun p => decide (p.1 = k)) then kvs.map (fun p => if p.1 = k then (p.1, x) else p) else kvs ++ [(k, x)]
theorem putK_map {κ β : Type} [DecidableEq κ] {f : β → V} {kvs : List (κ × β)} {k : κ} {x : β} : putK (kvs.map fun p => (p.1, f p.2)) k (f x) = (putA kvs k x).map fun p => (p.1, f p.2) := by
  unfold putK putA
  rw [List.any_map]
  by_cases h : (kvs.any fun p => decide (p.1 = k)) = true
  · rw [if_pos h, if_pos (by simpa [Function.comp] using h), List.map_map, List.map_map]
    exact List.map_congr_left fun p _ => by by_cases q : p.1 = k <;> simp [Function.comp, q]
  · rw [if_neg h, if_neg (by simpa [Function.comp] using h), List.map_append]; rfl
theorem putA_keys {κ β : Type} [DecidableEq κ] {kvs : List (κ × β)} {k : κ} {x : β} : (putA kvs k x).map (·.1) = if kvs.any (fun p => decide (p.1 = k)) then kvs.map (·.1) else kvs.map (·.1) ++ [k] := by
  unfold putA
  split
  · rw [List.map_map]; exact List.map_congr_left fun p _ => by by_cases q : p.1 = k <;> simp [Function.comp, q]
  · simp
theorem putA_nodup {κ β : Type} [DecidableEq κ] {kvs : List (κ × β)} {k : κ} {x : β} (h : (kvs.map (·.1)).Nodup) : ((putA kvs k x).map (·.1)).Nodup := by
  rw [putA_keys]
  split
  · exact h
  · rename_i q
    rw [List.nodup_append]
    refine ⟨h, by simp, fun a ha b hb e => q ?_⟩
    rw [List.mem_singleton.mp hb] at e
    obtain ⟨p, hp, e2⟩ := List.mem_map.mp ha
    exact List.any_eq_true.mpr ⟨p, hp, decide_eq_true (e2.trans e)⟩
theorem putA_len {κ β : Type} [DecidableEq κ] {kvs : List (κ × β)} {k : κ} {x : β} : (putA kvs k x).length ≤ kvs.length + 1 := by unfold putA; split <;> simp
theorem mem_putA {κ β : Type} [DecidableEq κ] {kvs : List (κ × β)} {k : κ} {x : β} {p : κ × β} (h : p ∈ putA kvs k x) : p ∈ kvs ∨ p = (k, x) := by
  unfold putA at h
  split at h
  · obtain ⟨q, hq, e⟩ := List.mem_map.mp h
    split at e
    · rename_i hk; rw [← e, ← hk]; exact .inr rfl
    · rw [← e]; exact .inl hq
  · rcases List.mem_append.mp h with h | h
    · exact .inl h
    · exact .inr (List.mem_singleton.mp h)
theorem enck_put {kvs : List (Str × Val)} {k : Str} {x : Val} : putK (enck kvs) k (enc x) = enck (putA kvs k x) := by rw [enck_eq, enck_eq]; exact putK_map
theorem encT_putA {tab : List (Int × Int × Val)} {k g : Int} {x : Val} : putK (encT tab) k (.tup [.int g, enc x]) = encT (putA tab k (g, x)) := by
  unfold encT; exact putK_map (f := fun r : Int × Val => V.tup [.int r.1, enc r.2]) (x := (g, x))
noncomputable def bnd : Nat → Nat
  | 0 => 3
  | d + 1 => 6 + 3 * bnd d
end
section
open PySem PySem.W PySem.Calls PyProof.Rows
theorem ite_d {p : Prop} [Decidable p] {A B : Prop} (x : p → A) (y : ¬ p → B) : if decide p = true then A else B := by
  by_cases h : p
  · rw [if_pos (decide_eq_true h)]; exact x h
  · rw [if_neg (by simpa using h)]; exact y h
theorem ite_b {a b : Int} {A B : Prop} (x : a = b → A) (y : a ≠ b → B) : if (a == b) = true then A else B := by
  by_cases h : a = b
  · rw [if_pos (by simpa using h)]; exact x h
  · rw [if_neg (by simpa using h)]; exact y h
theorem c_law_pen {C : Cx} (hK : C.K = hd.heap_39 C.w.params) {ks : List Int} (hz : ks.length ≤ 63) {n : Nat} {Φ : V → Mu → Prop} {μ : Mu} (hn : 1 ≤ n) (h : ∀ a N, μ a = none → 0 ≤ N → Φ (.ref a) (fup μ a (some (penC N 0)))) : CallV C n (.ref 485) [.list (ks.map V.int)] Φ μ := by
  refine' CallV.defK (m := 0) (names := ["script"]) hK ?h1 ?h2 ?h3 ?h4 ?h5 (by omega) ?h6
  case h1 => with_unfolding_all rfl
  case h2 => rfl
  case h3 => rfl
  case h4 => with_unfolding_all rfl
  case h5 => exact bind1 fun _ => (by with_unfolding_all rfl)
  case h6 =>
    intro L
    refine Ws.cons <| Wx.assign <| We.int <| Wa.nl rfl <| Ws.cons ?_
    refine Wx.for ?_
    refine We.upto <| We.nl rfl rfl <| We.int ?_
    refine ⟨ks, 24, rfl, by decide, SeeL.z, by omega, ?_⟩
    refine ⟨_, fun _ => True, Itr.list, ?_⟩
    refine ForL.invB (β := Int) (fun N => [("number", .int N), ("script", .list (ks.map V.int))]) (fun N r μ' => 0 ≤ N ∧ μ' = μ) (fun _ _ _ _ => trivial) ?_ ?_ 0 ?_ ?_
    · rintro N k r μ' ⟨hN, rfl⟩
      refine Wa.nl rfl <| Ws.cons <| Wx.assign <| We.bin <| We.bin <| We.bin <| We.bin <| We.nl rfl rfl <| We.int ?_
      refine BinV.mul (.inr (by decide)) ?_
      refine We.bin <| We.int <| We.call rfl (glabs hK) Callee.builtin <| Wes.cons' <| We.nl rfl rfl <| Wes.nil' ?_
      refine CallV.abs ?_
      refine BinV.mul (.inl (by decide)) ?_
      refine BinV.add <| We.ifexp <| Wt.cmp <| We.nl rfl rfl <| We.int <| CmpV.lt ⟨_, rfl, ?_⟩
      have hab : 0 ≤ (if k < 0 then -k else k) := by split <;> omega
      refine ite_d (fun hk => ?_) fun hk => ?_
      · skip
        refine We.int <| BinV.add <| We.int <| BinV.add <| Wa.nl rfl <| Ws.nil ?_
        exact ⟨_, by exact Sub.cons rfl <| Sub.cons rfl <| Sub.nil, by omega, rfl⟩
      · skip
        refine We.int <| BinV.add <| We.int <| BinV.add <| Wa.nl rfl <| Ws.nil ?_
        exact ⟨_, by exact Sub.cons rfl <| Sub.cons rfl <| Sub.nil, by omega, rfl⟩
    · rintro N l2 μ2 hsub ⟨hN, rfl⟩
      refine Ws.weak hsub ?_
      refine Ws.cons <| Wx.ret ?_
      refine We.listM ?_
      refine Wes.cons' <| We.nl rfl rfl <| Wes.cons' <| We.int <| Wes.nil' ⟨lb rfl, ?_⟩
      intro a ha
      exact h a N ha hN
    · exact Sub.cons rfl <| Sub.cons rfl <| Sub.nil
    · exact ⟨by decide, rfl⟩
theorem c_law_draw {C : Cx} (hK : C.K = hd.heap_39 C.w.params) {p : Addr} {N m : Int} {c : Nat} {n : Nat} {Φ : V → Mu → Prop} {μ : Mu} (hp : μ p = some (penC N c)) (hN : 0 ≤ N) (hc : c ≤ 100000) (hm : 1 ≤ m ∧ m ≤ 1000) (hn : 1 ≤ n)
    (h : ∀ g N', 0 ≤ g → g < m → 0 ≤ N' → Φ (.int g) (fup μ p (some (penC N' (c + 1))))) : CallV C n (.ref 492) [.ref p, .int m] Φ μ := by
  refine' CallV.defK (m := 0) (names := ["pen", "many"]) hK ?h1 ?h2 ?h3 ?h4 ?h5 (by omega) ?h6
  case h1 => with_unfolding_all rfl
  case h2 => rfl
  case h3 => rfl
  case h4 => with_unfolding_all rfl
  case h5 => exact bind2 fun _ _ => (by with_unfolding_all rfl)
  case h6 =>
    intro L
    have e0 : ((c + 1 : Nat) : Int) = (c : Int) + 1 := by omega
    refine Ws.cons <| Wx.assign <| We.bin <| We.sub <| We.nl rfl rfl <| We.int ?_
    refine SubV.cell hp (by decide) rfl (by decide) ?_
    refine We.int <| BinV.add <| Wa.sub <| We.nl rfl rfl <| We.int ?_
    refine SetI.list hp (by decide) (by simp) (by decide) ?_
    refine Ws.cons <| Wx.ite <| Wt.cmp <| We.sub <| We.nl rfl rfl <| We.int ?_
    refine SubV.cell (fup_self ..) (by decide) rfl (by decide) ?_
    refine We.int <| CmpV.gt ⟨_, rfl, ?_⟩
    refine ite_d (fun h0 => ?_) fun h0 => ?_
    · skip
      refine Ws.cons <| Wx.assign <| We.bin <| We.sub <| We.nl rfl rfl <| We.int ?_
      refine SubV.cell (fup_self ..) (by decide) rfl (by decide) ?_
      refine We.nl rfl rfl ?_
      refine BinV.mod (by omega) ?_
      refine Wa.nl rfl <| Ws.cons <| Wx.assign <| We.bin <| We.sub <| We.nl rfl rfl <| We.int ?_
      refine SubV.cell (fup_self ..) (by decide) rfl (by decide) ?_
      refine We.nl rfl rfl ?_
      refine BinV.div (by omega) (by omega) ?_
      refine Wa.sub <| We.nl rfl rfl <| We.int ?_
      refine SetI.list (fup_self ..) (by decide) (by simp) (by decide) ?_
      refine Ws.cons <| Wx.ret <| We.nl rfl rfl ?_
      obtain ⟨g1, g2⟩ := fmod_rng (a := N) (b := m) (by omega)
      have := h _ (N.fdiv m) g1 g2 (fdiv_nn hN (by omega))
      rw [penC, e0] at this
      rw [fup_fup]
      exact this
    · skip
      refine Ws.nil <| Ws.cons <| Wx.ret <| We.bin <| We.bin <| We.bin <| We.sub <| We.nl rfl rfl <| We.int ?_
      refine SubV.cell (fup_self ..) (by decide) rfl (by decide) ?_
      refine We.sub <| We.nl rfl rfl <| We.int ?_
      refine SubV.cell (fup_self ..) (by decide) rfl (by decide) ?_
      refine BinV.mul (.inl ⟨by omega, by omega⟩) ?_
      refine We.int <| BinV.add <| We.nl rfl rfl ?_
      refine BinV.mod (by omega) ?_
      obtain ⟨g1, g2⟩ := fmod_rng (a := ((c : Int) + 1) * ((c : Int) + 1) + 1) (b := m) (by omega)
      have := h _ N g1 g2 hN
      rw [penC, e0] at this
      exact this
end
section
open PySem PySem.W PySem.Calls PyProof.Rows
structure PenI (p : Addr) (μ : Mu) (N : Int) (c : Nat) (μ' : Mu) : Prop where
  pen : μ' p = some (penC N c)
  nn : 0 ≤ N
  o : ∀ b x, b ≠ p → μ b = some x → μ' b = some x
theorem PenI.step {p : Addr} {μ : Mu} {N : Int} {c : Nat} {μ' : Mu} (h : PenI p μ N c μ') {N' : Int} {c' : Nat} (hN : 0 ≤ N') : PenI p μ N' c' (fup μ' p (some (penC N' c'))) :=
  ⟨fup_self .., hN, fun b x hb e => (fup_ne _ _ hb).trans (h.o b x hb e)⟩
theorem PenI.gh {C : Cx} {p : Addr} {μ : Mu} {N : Int} {c : Nat} {μ' : Mu} (h : PenI p μ N c μ') {v : V} : Gh C v μ' v (fup μ p (some (penC N c))) := Gh.drop fun b x e => by
  by_cases hb : b = p
  · subst hb; rw [fup_self] at e; rw [h.pen]; exact e
  · rw [fup_ne _ _ hb] at e; exact h.o b x hb e
theorem PenI.ghD {C : Cx} {p : Addr} {μ : Mu} {N : Int} {c : Nat} {μ' : Mu} (h : PenI p μ N c μ') {a : Addr} {kvs : List (Str × V)} (ha : μ' a = some (.dS kvs)) (h0 : μ a = none) (hp : a ≠ p) : Gh C (.ref a) μ' (.dS kvs) (fup μ p (some (penC N c))) :=
  Gh.fin ha .dS fun b x e => by
    by_cases hb : b = p
    · subst hb; rw [fup_self] at e; rw [h.pen]; exact ⟨hp.symm, e⟩
    · rw [fup_ne _ _ hb] at e; exact ⟨ne_of_some h0 e, h.o b x hb e⟩
theorem cases2 {g : Int} (h0 : 0 ≤ g) (h : g < 2) : g = 0 ∨ g = 1 := by omega
theorem cases3 {g : Int} (h0 : 0 ≤ g) (h : g < 3) : g = 0 ∨ g = 1 ∨ g = 2 := by omega
inductive LvA (p : Addr) (μ : Mu) (c : Nat) (d : Nat) (v : V) (μ' : Mu) : Prop
  | va (val : Val) (N' : Int) (c' : Nat) (h1 : ok d val) (h2 : c ≤ c') (h3 : c' ≤ c + bnd d) (I : PenI p μ N' c' μ') (e : v = enc val)
  | vd (a : Addr) (kvs : List (Str × Val)) (N' : Int) (c' : Nat) (h1 : ok d (.dict kvs)) (h2 : c ≤ c') (h3 : c' ≤ c + bnd d) (I : PenI p μ N' c' μ') (e : v = .ref a) (k1 : μ' a = some (.dS (enck kvs))) (k2 : μ a = none) (k3 : a ≠ p)
inductive LvC (p : Addr) (μ : Mu) (c d k : Nat) (r : List Nat) (acc : List V) (μ' : Mu) : Prop
  | mk (vs : List Val) (N' : Int) (c' : Nat) (e : acc = vs.map enc) (hv : ∀ v ∈ vs, ok d v) (hl : vs.length + r.length = k) (c1 : c ≤ c') (c2 : c' + r.length * bnd d ≤ c + 2 + k * bnd d) (I : PenI p μ N' c' μ')
inductive LvF (p : Addr) (μ : Mu) (a : Addr) (c d k : Nat) (r : List Nat) (μ' : Mu) : Prop
  | mk (kvs : List (Str × Val)) (N' : Int) (c' : Nat) (k1 : μ' a = some (.dS (enck kvs))) (k2 : (kvs.map (·.1)).Nodup) (k3 : ∀ q ∈ kvs, ok d q.2) (k4 : kvs.length + r.length ≤ k) (c1 : c ≤ c') (c2 : c' + r.length * (1 + bnd d) ≤ c + 2 + k * (1 + bnd d)) (I : PenI p μ N' c' μ')
theorem LvA.out {C : Cx} {p : Addr} {μ : Mu} {c d : Nat} {v : V} {μ' : Mu} {Φ : V → Mu → Prop} (h : LvA p μ c d v μ') (k : ∀ v N' c', ok d v → 0 ≤ N' → c ≤ c' → c' ≤ c + bnd d → Φ (enc v) (fup μ p (some (penC N' c')))) : ∃ v2 μ2, Gh C v μ' v2 μ2 ∧ Φ v2 μ2 := by
  cases h with
  | va val N' c' h1 h2 h3 I e => subst e; exact ⟨_, _, I.gh, k val N' c' h1 I.nn h2 h3⟩
  | vd a kvs N' c' h1 h2 h3 I e k1 k2 k3 => subst e; exact ⟨_, _, I.ghD k1 k2 k3, k _ N' c' h1 I.nn h2 h3⟩
theorem c_law_value {C : Cx} (hK : C.K = hd.heap_39 C.w.params) : ∀ (d : Nat), d ≤ 2 → ∀ {p : Addr} {N : Int} {c : Nat} {n : Nat} {Φ : V → Mu → Prop} {μ : Mu}, μ p = some (penC N c) → 0 ≤ N → c + bnd d ≤ 100000 → d + 5 ≤ n →
    (∀ v N' c', ok d v → 0 ≤ N' → c ≤ c' → c' ≤ c + bnd d → Φ (enc v) (fup μ p (some (penC N' c')))) → CallV C n (.ref 497) [.ref p, .int (d : Int)] Φ μ := by
  intro d
  induction d with
  | zero =>
    intro _ p N c n Φ μ hp hN hc hn h
    refine CallV.ghost (Φ := LvA p μ c 0) ?_ fun v μ' q => q.out h
    have I0 : PenI p μ N c μ := ⟨hp, hN, fun _ _ _ e => e⟩
    have hb0 : bnd 0 = 3 := rfl
    refine' CallV.defK (m := 4) (names := ["pen", "deep"]) hK ?h1 ?h2 ?h3 ?h4 ?h5 (by omega) ?h6
    case h1 => with_unfolding_all rfl
    case h2 => rfl
    case h3 => rfl
    case h4 => with_unfolding_all rfl
    case h5 => exact bind2 fun _ _ => (by with_unfolding_all rfl)
    case h6 =>
      intro L
      refine Ws.cons <| Wx.assign <| We.call rfl (gllawdraw hK) (ce492 hK) <| Wes.cons' <| We.nc rfl rfl <| Wes.cons' <| We.ifexp <| Wt.cmp <| We.nc rfl rfl <| We.int <| CmpV.gt ⟨_, rfl, ite_f rfl <| We.int <| Wes.nil' ?_⟩
      refine c_law_draw hK hp hN (by omega) ⟨by decide, by decide⟩ (by omega) fun g N1 g0 g1 hN1 => ?_
      have I1 := I0.step (c' := c + 1) hN1
      refine Wa.nl rfl <| Ws.cons <| Wx.ite <| Wt.cmp <| We.nl rfl rfl <| We.int <| CmpV.lt ⟨_, rfl, ?_⟩
      refine ite_d (fun w1 => ?_) fun w1 => ?_
      · skip
        refine Ws.cons <| Wx.ret <| We.call rfl (glReference hK) (ce242 hK) <| Wes.cons' <| We.bin <| We.int <| We.call rfl (gllawdraw hK) (ce492 hK) <| Wes.cons' <| We.nc rfl rfl <| Wes.cons' <| We.int <| Wes.nil' ?_
        refine c_law_draw hK I1.pen hN1 (by omega) ⟨by decide, by decide⟩ (by omega) fun g1 N2 _ _ hN2 => ?_
        have I2 := I1.step (c' := c + 1 + 1) hN2
        refine BinV.add <| Wes.cons' <| We.bin <| We.call rfl (gllawdraw hK) (ce492 hK) <| Wes.cons' <| We.nc rfl rfl <| Wes.cons' <| We.int <| Wes.nil' ?_
        refine c_law_draw hK I2.pen hN2 (by omega) ⟨by decide, by decide⟩ (by omega) fun g2 N3 _ _ hN3 => ?_
        have I3 := I2.step (c' := c + 1 + 1 + 1) hN3
        refine We.int ?_
        refine BinV.div (by decide) (by decide) ?_
        refine c_Reference (p := (1 + g1, g2.fdiv 5)) hK (by omega) ?_
        exact LvA.va (.ref (1 + g1, g2.fdiv 5)) N3 (_) trivial (by omega) (by omega) I3 rfl
      refine Ws.nil <| Ws.cons <| Wx.ite <| Wt.cmp <| We.nl rfl rfl <| We.int <| CmpV.eqI ⟨_, rfl, ?_⟩
      refine ite_b (fun w2 => ?_) fun w2 => ?_
      · skip
        refine Ws.cons <| Wx.ret <| We.call rfl (gllawdraw hK) (ce492 hK) <| Wes.cons' <| We.nc rfl rfl <| Wes.cons' <| We.int <| Wes.nil' ?_
        refine c_law_draw hK I1.pen hN1 (by omega) ⟨by decide, by decide⟩ (by omega) fun g1 N2 _ _ hN2 => ?_
        have I2 := I1.step (c' := c + 1 + 1) hN2
        exact LvA.va (.int g1) N2 (_) trivial (by omega) (by omega) I2 rfl
      refine Ws.nil <| Ws.cons <| Wx.ite <| Wt.cmp <| We.nl rfl rfl <| We.int <| CmpV.eqI ⟨_, rfl, ?_⟩
      have w3 : g = 4 := by omega
      · refine ite_t (by simpa using w3) ?_
        refine Ws.cons <| Wx.ret <| We.call rfl (glName hK) (ce171 hK) <| Wes.cons' <| We.sub <| We.tuple <| Wes.cons' <| We.str <| Wes.cons' <| We.str <| Wes.nil' ⟨lb rfl, We.call rfl (gllawdraw hK) (ce492 hK) <| Wes.cons' <| We.nc rfl rfl <| Wes.cons' <| We.int <| Wes.nil' ?_⟩
        refine c_law_draw hK I1.pen hN1 (by omega) ⟨by decide, by decide⟩ (by omega) fun g1 N2 a0 a1 hN2 => ?_
        have I2 := I1.step (c' := c + 1 + 1) hN2
        rcases cases2 a0 a1 with rfl | rfl
        · refine SubV.tup (by decide) rfl (by decide) <| Wes.nil' <| c_Name hK (lb rfl) ?_
          exact LvA.va (.name (Str.ofString "M")) N2 (_) trivial (by omega) (by omega) I2 rfl
        · refine SubV.tup (by decide) rfl (by decide) <| Wes.nil' <| c_Name hK (lb rfl) ?_
          exact LvA.va (.name (Str.ofString "N")) N2 (_) trivial (by omega) (by omega) I2 rfl
  | succ d ih =>
    intro hd2 p N c n Φ μ hp hN hc hn h
    have hbs : bnd (d + 1) = 6 + 3 * bnd d := rfl
    have ed : ((d + 1 : Nat) : Int) - 1 = (d : Int) := by omega
    refine CallV.ghost (Φ := LvA p μ c (d + 1)) ?_ fun v μ' q => q.out h
    have I0 : PenI p μ N c μ := ⟨hp, hN, fun _ _ _ e => e⟩
    refine' CallV.defK (m := d + 5) (names := ["pen", "deep"]) hK ?h1 ?h2 ?h3 ?h4 ?h5 (by omega) ?h6
    case h1 => with_unfolding_all rfl
    case h2 => rfl
    case h3 => rfl
    case h4 => with_unfolding_all rfl
    case h5 => exact bind2 fun _ _ => (by with_unfolding_all rfl)
    case h6 =>
      intro L
      refine Ws.cons <| Wx.assign <| We.call rfl (gllawdraw hK) (ce492 hK) <| Wes.cons' <| We.nc rfl rfl <| Wes.cons' <| We.ifexp <| Wt.cmp <| We.nc rfl rfl <| We.int <| CmpV.gt ⟨_, rfl, ?_⟩
      refine ite_t (by first | (simp; done) | (simp; omega)) ?_
      refine We.int <| Wes.nil' ?_
      refine c_law_draw hK hp hN (by omega) ⟨by decide, by decide⟩ (by omega) fun g N1 g0 g1 hN1 => ?_
      have I1 := I0.step (c' := c + 1) hN1
      refine Wa.nl rfl <| Ws.cons <| Wx.ite <| Wt.cmp <| We.nl rfl rfl <| We.int <| CmpV.lt ⟨_, rfl, ?_⟩
      refine ite_d (fun w1 => ?_) fun w1 => ?_
      · skip
        refine Ws.cons <| Wx.ret <| We.call rfl (glReference hK) (ce242 hK) <| Wes.cons' <| We.bin <| We.int <| We.call rfl (gllawdraw hK) (ce492 hK) <| Wes.cons' <| We.nc rfl rfl <| Wes.cons' <| We.int <| Wes.nil' ?_
        refine c_law_draw hK I1.pen hN1 (by omega) ⟨by decide, by decide⟩ (by omega) fun g1 N2 _ _ hN2 => ?_
        have I2 := I1.step (c' := c + 1 + 1) hN2
        refine BinV.add <| Wes.cons' <| We.bin <| We.call rfl (gllawdraw hK) (ce492 hK) <| Wes.cons' <| We.nc rfl rfl <| Wes.cons' <| We.int <| Wes.nil' ?_
        refine c_law_draw hK I2.pen hN2 (by omega) ⟨by decide, by decide⟩ (by omega) fun g2 N3 _ _ hN3 => ?_
        have I3 := I2.step (c' := c + 1 + 1 + 1) hN3
        refine We.int ?_
        refine BinV.div (by decide) (by decide) ?_
        refine c_Reference (p := (1 + g1, g2.fdiv 5)) hK (by omega) ?_
        exact LvA.va (.ref (1 + g1, g2.fdiv 5)) N3 (_) trivial (by omega) (by omega) I3 rfl
      refine Ws.nil <| Ws.cons <| Wx.ite <| Wt.cmp <| We.nl rfl rfl <| We.int <| CmpV.eqI ⟨_, rfl, ?_⟩
      refine ite_b (fun w2 => ?_) fun w2 => ?_
      · skip
        refine Ws.cons <| Wx.ret <| We.call rfl (gllawdraw hK) (ce492 hK) <| Wes.cons' <| We.nc rfl rfl <| Wes.cons' <| We.int <| Wes.nil' ?_
        refine c_law_draw hK I1.pen hN1 (by omega) ⟨by decide, by decide⟩ (by omega) fun g1 N2 _ _ hN2 => ?_
        have I2 := I1.step (c' := c + 1 + 1) hN2
        exact LvA.va (.int g1) N2 (_) trivial (by omega) (by omega) I2 rfl
      refine Ws.nil <| Ws.cons <| Wx.ite <| Wt.cmp <| We.nl rfl rfl <| We.int <| CmpV.eqI ⟨_, rfl, ?_⟩
      refine ite_b (fun w3 => ?_) fun w3 => ?_
      · skip
        refine Ws.cons <| Wx.ret <| We.call rfl (glName hK) (ce171 hK) <| Wes.cons' <| We.sub <| We.tuple <| Wes.cons' <| We.str <| Wes.cons' <| We.str <| Wes.nil' ⟨lb rfl, We.call rfl (gllawdraw hK) (ce492 hK) <| Wes.cons' <| We.nc rfl rfl <| Wes.cons' <| We.int <| Wes.nil' ?_⟩
        refine c_law_draw hK I1.pen hN1 (by omega) ⟨by decide, by decide⟩ (by omega) fun g1 N2 a0 a1 hN2 => ?_
        have I2 := I1.step (c' := c + 1 + 1) hN2
        rcases cases2 a0 a1 with rfl | rfl
        · refine SubV.tup (by decide) rfl (by decide) <| Wes.nil' <| c_Name hK (lb rfl) ?_
          exact LvA.va (.name (Str.ofString "M")) N2 (_) trivial (by omega) (by omega) I2 rfl
        · refine SubV.tup (by decide) rfl (by decide) <| Wes.nil' <| c_Name hK (lb rfl) ?_
          exact LvA.va (.name (Str.ofString "N")) N2 (_) trivial (by omega) (by omega) I2 rfl
      refine Ws.nil <| Ws.cons <| Wx.ite <| Wt.cmp <| We.nl rfl rfl <| We.int <| CmpV.eqI ⟨_, rfl, ?_⟩
      refine ite_b (fun w4 => ?_) fun w4 => ?_
      · skip
        refine Ws.cons <| Wx.ret <| We.comp (by with_unfolding_all rfl) ?_; refine We.call rfl (glrange hK) Callee.type <| Wes.cons' <| We.call rfl (gllawdraw hK) (ce492 hK) <| Wes.cons' <| We.nc rfl rfl <| Wes.cons' <| We.int <| Wes.nil' ?_
        refine c_law_draw hK I1.pen hN1 (by omega) ⟨by decide, by decide⟩ (by omega) fun k N2 a0 a1 hN2 => ?_
        have I2 := I1.step (c' := c + 1 + 1) hN2
        refine Wes.nil' <| CallV.range1 ?_
        refine ⟨_, fun _ => True, Itr.rng (by decide) (by omega) (by decide) (by omega), by rw [rngV_length]; omega, fun Cl => ?_⟩
        unfold rngV
        refine CompL.inv (I := LvC p μ c d k.toNat) ?_ ?_ ?_
        · rintro i r acc μ' ⟨vs, N', c', rfl, hv, hl, c1, c2, I⟩
          refine ⟨trivial, ?_⟩
          rw [List.length_cons] at hl c2
          rw [Nat.succ_mul] at c2
          have hk : k.toNat * bnd d ≤ 2 * bnd d := Nat.mul_le_mul_right _ (by omega)
          refine We.call rfl (gllawvalue hK) (ce497 hK) <| Wes.cons' <| We.nc rfl rfl <| Wes.cons' <| We.bin <| We.nc rfl rfl <| We.int <| BinV.subi <| Wes.nil' ?_
          rw [ed]
          refine ih (by omega) I.pen I.nn (by omega) (by omega) fun v N'' c'' hv' hN'' c3 c4 => ?_
          refine ⟨vs ++ [v], N'', c'', by rw [map_snoc], fun w hw => ?_, by rw [List.length_append]; have : [v].length = 1 := rfl; omega, by omega, by omega, I.step hN''⟩
          rcases List.mem_append.mp hw with hw | hw
          · exact hv w hw
          · rw [List.mem_singleton.mp hw]; exact hv'
        · rintro acc μ' ⟨vs, N', c', rfl, hv, hl, c1, c2, I⟩
          have hl0 : ([] : List Nat).length = 0 := rfl
          rw [hl0] at hl c2
          have hk : k.toNat * bnd d ≤ 2 * bnd d := Nat.mul_le_mul_right _ (by omega)
          exact ⟨trivial, LvA.va (.arr vs) N' c' ⟨by omega, hv⟩ (by omega) (by omega) I (by rw [encE5, encs_eq]; rfl)⟩
        · refine ⟨[], N2, _, rfl, (fun _ h => nomatch h), by simp, ?_, ?_, I2⟩
          · omega
          · simp
      refine Ws.nil <| Ws.cons <| Wx.assign ?_
      refine We.dictM (c := .dS []) (fun Z => dkS.empty Z) ?_
      intro a ha
      obtain ⟨nap, ha'⟩ : a ≠ p ∧ μ a = none := fup_none ha
      refine Wa.nl rfl <| Ws.cons ?_
      refine Wx.for ?_
      refine We.call rfl (glrange hK) Callee.type <| Wes.cons' <| We.call rfl (gllawdraw hK) (ce492 hK) <| Wes.cons' <| We.nc rfl rfl <| Wes.cons' <| We.int <| Wes.nil' ?_
      have I1a : PenI p μ N1 (c + 1) (fup (fup μ p (some (penC N1 (c + 1)))) a (some (.dS []))) := ⟨(fup_ne _ _ nap.symm).trans I1.pen, hN1, fun b x hb e => by rw [fup_ne _ _ (ne_of_some ha' e)]; exact I1.o b x hb e⟩
      refine c_law_draw hK I1a.pen hN1 (by omega) ⟨by decide, by decide⟩ (by omega) fun k N2 a0 a1 hN2 => ?_
      have I2 := I1a.step (c' := c + 1 + 1) hN2
      refine Wes.nil' <| CallV.range1 ?_
      refine ⟨_, fun _ => True, Itr.rng (by decide) (by omega) (by decide) (by omega), ?_⟩
      unfold rngV
      refine ForL.invB (β := Unit) (fun _ => [("head", .ref a), ("way", .int g), ("pen", .ref p), ("deep", .int ((d + 1 : Nat) : Int))]) (fun _ r μ' => LvF p μ a c d k.toNat r μ') (fun _ _ _ _ => trivial) ?_ ?_ () ?_ ?_
      · rintro _ i r μ' ⟨kvs, N', c', k1, k2, k3, k4, c1, c2, I⟩
        rw [List.length_cons] at k4 c2
        rw [Nat.succ_mul] at c2
        have hk : k.toNat * (1 + bnd d) ≤ 3 * (1 + bnd d) := Nat.mul_le_mul_right _ (by omega)
        refine Wa.nl rfl <| Ws.cons <| Wx.assign <| We.call rfl (gllawvalue hK) (ce497 hK) <| Wes.cons' <| We.nc rfl rfl <| Wes.cons' <| We.bin <| We.nc rfl rfl <| We.int <| BinV.subi <| Wes.nil' ?_
        rw [ed]
        refine ih (by omega) I.pen I.nn (by omega) (by omega) fun v N'' c'' hv' hN'' c3 c4 => ?_
        have I' := I.step (c' := c'') hN''
        refine Wa.sub <| We.nl rfl rfl <| We.sub <| We.tuple <| Wes.cons' <| We.str <| Wes.cons' <| We.str <| Wes.cons' <| We.str <| Wes.nil' ⟨lb rfl, We.call rfl (gllawdraw hK) (ce492 hK) <| Wes.cons' <| We.nc rfl rfl <| Wes.cons' <| We.int <| Wes.nil' ?_⟩
        refine c_law_draw hK I'.pen hN'' (by omega) ⟨by decide, by decide⟩ (by omega) fun g3 N3 b0 b1 hN3 => ?_
        have I3 := I'.step (c' := c'' + 1) hN3
        rcases cases3 b0 b1 with rfl | rfl | rfl
        all_goals (
          refine SubV.tup (by decide) rfl (by decide) ?_
          refine SetI.dS (kvs := enck kvs) ((fup_ne _ _ nap).trans ((fup_ne _ _ nap).trans k1)) (by rw [enck_len]; omega) ?_
          refine Ws.nil ?_
          rw [enck_put]
          refine ⟨(), by exact Sub.cons rfl <| Sub.cons rfl <| Sub.cons rfl <| Sub.cons rfl <| Sub.nil, putA kvs _ v, N3, c'' + 1, fup_self .., putA_nodup k2, fun q hq => ?_, by have := putA_len (kvs := kvs) (k := Str.ofString "A") (x := v); have := putA_len (kvs := kvs) (k := Str.ofString "B") (x := v); have := putA_len (kvs := kvs) (k := Str.ofString "C") (x := v); omega, by omega, by omega, ?_⟩
          · rcases mem_putA hq with hq | rfl
            · exact k3 q hq
            · exact hv'
          · exact ⟨(fup_ne _ _ nap.symm).trans I3.pen, hN3, fun b x hb e => by rw [fup_ne _ _ (ne_of_some ha' e)]; exact I3.o b x hb e⟩)
      · rintro _ l2 μ' hsub ⟨kvs, N', c', k1, k2, k3, k4, c1, c2, I⟩
        refine Ws.weak hsub ?_
        refine Ws.cons <| Wx.ret <| We.ifexp <| Wt.cmp <| We.nl rfl rfl <| We.int <| CmpV.eqI ⟨_, rfl, ?_⟩
        have hl0 : ([] : List Nat).length = 0 := rfl
        rw [hl0] at k4 c2
        have hk : k.toNat * (1 + bnd d) ≤ 3 * (1 + bnd d) := Nat.mul_le_mul_right _ (by omega)
        refine ite_b (fun w6 => ?_) fun w6 => ?_
        · skip
          refine We.nl rfl rfl ?_
          exact LvA.vd a kvs N' c' ⟨by omega, k2, k3⟩ (by omega) (by omega) I rfl k1 ha' nap
        · skip
          refine We.call rfl (glStream hK) (ce214 hK) ?_
          refine Wes.cons' (We.ghost (Φ := fun v μ'' => v = .ref a ∧ μ'' = μ') (We.name rfl (by first | (left; rfl) | (right; rfl)) ⟨rfl, rfl⟩) ?_)
          rintro v μ'' ⟨rfl, rfl⟩
          refine ⟨.dS (enck kvs), _, Gh.cell k1 .dS, ?_⟩
          have I' : PenI p μ N' c' (fup μ'' a none) := ⟨(fup_ne _ _ nap.symm).trans I.pen, I.nn, fun b x hb e => by rw [fup_ne _ _ (ne_of_some ha' e)]; exact I.o b x hb e⟩
          refine Wes.cons' <| We.call rfl (glbytes hK) Callee.type <| Wes.cons' ?_
          refine We.listZ ?_
          refine Wes.cons' <| We.call rfl (gllawdraw hK) (ce492 hK) <| Wes.cons' <| We.nc rfl rfl <| Wes.cons' <| We.int <| Wes.nil' ?_
          refine c_law_draw hK I'.pen I'.nn (by omega) ⟨by decide, by decide⟩ (by omega) fun g3 N3 b0 b1 hN3 => ?_
          have I3 := I'.step (c' := c' + 1) hN3
          refine Wes.nil' ⟨lb rfl, Wes.nil' ?_⟩
          refine CallV.bytesL (ks := [g3]) (fun m hm => by rw [List.mem_singleton.mp hm]; omega) (by simp) ?_
          refine Wes.nil' <| c_Stream hK (lb rfl) ?_
          exact LvA.va (.stm kvs (byteArr [g3])) N3 (c' + 1) ⟨by omega, k2, k3⟩ (by omega) (by omega) I3 rfl
      · exact Sub.cons rfl <| Sub.cons rfl <| Sub.cons rfl <| Sub.cons rfl <| Sub.nil
      · refine ⟨[], N2, _, ?_, List.nodup_nil, (fun _ h => nomatch h), by simp, ?_, ?_, I2⟩
        · rw [fup_ne _ _ nap, fup_self]; rfl
        · omega
        · simp
end
section
open PySem PySem.W PySem.Calls PyProof.Rows
theorem ne_of_cells {μ : Mu} {x y : Addr} {c c' : Cell} (h : μ x = some c) (k : μ y = some c') (hc : c ≠ c') : x ≠ y := fun e => hc (by rw [e, k] at h; exact (Option.some.inj h).symm)
structure LSh (S : Shf) : Prop where
  ok : ShOk S
  tl : S.tr.length ≤ 4
  nx : ∀ p ∈ S.tr, p.1 ≠ Str.ofString "XRefStm"
structure ShM (μ : Mu) (p : Addr) (N : Int) (c : Nat) (a d t r : Addr) (S : Shf) (μ' : Mu) : Prop where
  ca : μ' a = some (.inst aShelf (some d))
  cd : μ' d = some (.flds [(Str.ofString "table", .ref t), (Str.ofString "trailer", .ref r)])
  ct : μ' t = some (.dI (encT S.tab))
  cr : μ' r = some (.dS (enck S.tr))
  pen : μ' p = some (penC N c)
  nn : 0 ≤ N
  o : ∀ b x, b ≠ p → μ b = some x → b ≠ a ∧ b ≠ d ∧ b ≠ t ∧ b ≠ r ∧ μ' b = some x
section
variable {C : Cx} {μ : Mu} {p : Addr} {N : Int} {c : Nat} {a d t r : Addr} {S : Shf} {μ' : Mu}
theorem ShM.step (M : ShM μ p N c a d t r S μ') {N' : Int} {c' : Nat} (hN : 0 ≤ N') : ShM μ p N' c' a d t r S (fup μ' p (some (penC N' c'))) := by
  refine ⟨?_, ?_, ?_, ?_, fup_self .., hN, fun b x hb e => ?_⟩
  · rw [fup_ne _ _ (ne_of_cells M.ca M.pen nofun)]; exact M.ca
  · rw [fup_ne _ _ (ne_of_cells M.cd M.pen nofun)]; exact M.cd
  · rw [fup_ne _ _ (ne_of_cells M.ct M.pen nofun)]; exact M.ct
  · rw [fup_ne _ _ (ne_of_cells M.cr M.pen nofun)]; exact M.cr
  · rw [fup_ne _ _ hb]; exact M.o b x hb e
theorem ShM.tabset (M : ShM μ p N c a d t r S μ') {tab : List (Int × Int × Val)} : ShM μ p N c a d t r ⟨tab, S.tr⟩ (fup μ' t (some (.dI (encT tab)))) := by
  refine ⟨?_, ?_, fup_self .., ?_, ?_, M.nn, fun b x hb e => ?_⟩
  · rw [fup_ne _ _ (ne_of_cells M.ca M.ct nofun)]; exact M.ca
  · rw [fup_ne _ _ (ne_of_cells M.cd M.ct nofun)]; exact M.cd
  · rw [fup_ne _ _ (ne_of_cells M.cr M.ct nofun)]; exact M.cr
  · rw [fup_ne _ _ (ne_of_cells M.pen M.ct nofun)]; exact M.pen
  · obtain ⟨h1, h2, h3, h4, h5⟩ := M.o b x hb e
    exact ⟨h1, h2, h3, h4, (fup_ne _ _ h3).trans h5⟩
theorem ShM.trset (M : ShM μ p N c a d t r S μ') {tr : List (Str × Val)} : ShM μ p N c a d t r ⟨S.tab, tr⟩ (fup μ' r (some (.dS (enck tr)))) := by
  refine ⟨?_, ?_, ?_, fup_self .., ?_, M.nn, fun b x hb e => ?_⟩
  · rw [fup_ne _ _ (ne_of_cells M.ca M.cr nofun)]; exact M.ca
  · rw [fup_ne _ _ (ne_of_cells M.cd M.cr nofun)]; exact M.cd
  · rw [fup_ne _ _ (ne_of_cells M.ct M.cr nofun)]; exact M.ct
  · rw [fup_ne _ _ (ne_of_cells M.pen M.cr nofun)]; exact M.pen
  · obtain ⟨h1, h2, h3, h4, h5⟩ := M.o b x hb e
    exact ⟨h1, h2, h3, h4, (fup_ne _ _ h4).trans h5⟩
theorem ShM.trnew (M : ShM μ p N c a d t r S μ') {r' : Addr} {tr : List (Str × Val)} (hr : μ' r' = none) : ShM μ p N c a d t r' ⟨S.tab, tr⟩
    (fup (fup μ' r' (some (.dS (enck tr)))) d (some (.flds [(Str.ofString "table", .ref t), (Str.ofString "trailer", .ref r')]))) := by
  have na := ne_of_some hr M.ca
  have nd := ne_of_some hr M.cd
  have nt := ne_of_some hr M.ct
  have np := ne_of_some hr M.pen
  refine ⟨?_, fup_self .., ?_, ?_, ?_, M.nn, fun b x hb e => ?_⟩
  · rw [fup_ne _ _ (ne_of_cells M.ca M.cd nofun), fup_ne _ _ na]; exact M.ca
  · rw [fup_ne _ _ (ne_of_cells M.ct M.cd nofun), fup_ne _ _ nt]; exact M.ct
  · rw [fup_ne _ _ nd.symm, fup_self]
  · rw [fup_ne _ _ (ne_of_cells M.pen M.cd nofun), fup_ne _ _ np]; exact M.pen
  · obtain ⟨h1, h2, h3, h4, h5⟩ := M.o b x hb e
    have h6 := ne_of_some hr h5
    exact ⟨h1, h2, h3, h6, (fup_ne _ _ h2).trans ((fup_ne _ _ h6).trans h5)⟩
theorem ShM.gh (M : ShM μ p N c a d t r S μ') : Gh C (.ref a) μ' (encS S) (fup μ p (some (penC N c))) :=
  Gh.shelf2 M.ca M.cd M.ct M.cr fun b x e => by
    by_cases hb : b = p
    · subst hb; rw [fup_self] at e; cases e
      exact ⟨ne_of_cells M.pen M.ca nofun, ne_of_cells M.pen M.cd nofun, ne_of_cells M.pen M.ct nofun, ne_of_cells M.pen M.cr nofun, M.pen⟩
    · rw [fup_ne _ _ hb] at e; exact M.o b x hb e
end
theorem Wkv.cons' {C : Cx} {n : Nat} {env : Env} {l : Loc} {μ : Mu} {κ : Type} [DecidableEq κ] {mk : κ → V} {Φ : List (κ × V) → Mu → Prop} {k v : Expr} {ks : List (Option Expr)} {vs : List Expr}
    (h : We C n env k (fun kv μ1 => ∃ key, kv = mk key ∧ We C n env v (fun x μ2 => Wkv C n env mk (fun rest μ3 => Φ ((key, x) :: rest) μ3) l ks vs μ2) l μ1) l μ) : Wkv C n env mk Φ l (some k :: ks) (v :: vs) μ := h
theorem Wkv.nil' {C : Cx} {n : Nat} {env : Env} {l : Loc} {μ : Mu} {κ : Type} [DecidableEq κ] {mk : κ → V} {Φ : List (κ × V) → Mu → Prop} (h : Φ [] μ) : Wkv C n env mk Φ l [] [] μ := h
noncomputable def tr4 (g : Int) (v : Val) : List (Str × Val) := [(Str.ofString "Root", .ref (1 + g, 0)), (Str.ofString "Info", v), (Str.ofString "Size", .int 7), (Str.ofString "Prev", .int 40)]
theorem tr4_nodup (g : Int) (v : Val) : ((tr4 g v).map (·.1)).Nodup := (by decide : [Str.ofString "Root", Str.ofString "Info", Str.ofString "Size", Str.ofString "Prev"].Nodup)
theorem tr4_lsh {tab : List (Int × Int × Val)} {g : Int} {v : Val} (k1 : (tab.map (·.1)).Nodup) (k2 : tab.length ≤ 9) (k3 : ∀ r ∈ tab, ok 2 r.2.2) (hv : ok 1 v) : LSh ⟨tab, tr4 g v⟩ := by
  refine ⟨⟨k1, k2, k3, (by decide : (4 : Nat) ≤ 8), tr4_nodup g v, fun q hq => ?_⟩, Nat.le_refl _, fun q hq => ?_⟩
  · simp only [tr4, List.mem_cons, List.not_mem_nil, or_false] at hq
    rcases hq with rfl | rfl | rfl | rfl
    · exact trivial
    · exact ok_mono hv
    · exact trivial
    · exact trivial
  · simp only [tr4, List.mem_cons, List.not_mem_nil, or_false] at hq
    rcases hq with rfl | rfl | rfl | rfl
    · exact (by decide : Str.ofString "Root" ≠ Str.ofString "XRefStm")
    · exact (by decide : Str.ofString "Info" ≠ Str.ofString "XRefStm")
    · exact (by decide : Str.ofString "Size" ≠ Str.ofString "XRefStm")
    · exact (by decide : Str.ofString "Prev" ≠ Str.ofString "XRefStm")
inductive LsA (p : Addr) (μ : Mu) (c : Nat) (v : V) (μ' : Mu) : Prop
  | mk (a d t r : Addr) (S : Shf) (N' : Int) (c' : Nat) (e : v = .ref a) (h1 : LSh S) (h2 : c ≤ c') (h3 : c' ≤ c + 1000) (M : ShM μ p N' c' a d t r S μ')
inductive LsF (p : Addr) (μ : Mu) (c : Nat) (a d t r : Addr) (i : Nat) (μ' : Mu) : Prop
  | mk (tab : List (Int × Int × Val)) (N' : Int) (c' : Nat) (M : ShM μ p N' c' a d t r ⟨tab, []⟩ μ') (k1 : (tab.map (·.1)).Nodup) (k2 : tab.length ≤ i) (k3 : ∀ r ∈ tab, ok 2 r.2.2) (c1 : c ≤ c') (c2 : c' ≤ c + 1 + i * 53)
theorem c_law_shelf {C : Cx} (hK : C.K = hd.heap_39 C.w.params) {p : Addr} {N : Int} {c : Nat} {n : Nat} {Φ : V → Mu → Prop} {μ : Mu} (hp : μ p = some (penC N c)) (hN : 0 ≤ N) (hc : c + 1000 ≤ 100000) (hn : 10 ≤ n)
    (h : ∀ S N' c', LSh S → 0 ≤ N' → c ≤ c' → c' ≤ c + 1000 → Φ (encS S) (fup μ p (some (penC N' c')))) : CallV C n (.ref 504) [.ref p] Φ μ := by
  refine CallV.ghost (Φ := LsA p μ c) ?_ fun v μ' ⟨a, d, t, r, S, N', c', e, h1, h2, h3, M⟩ => ⟨_, _, e ▸ M.gh, h S N' c' h1 M.nn h2 h3⟩
  have hb1 : bnd 1 = 15 := rfl
  have hb2 : bnd 2 = 51 := rfl
  refine' CallV.defK (m := 9) (names := ["pen"]) hK ?h1 ?h2 ?h3 ?h4 ?h5 (by omega) ?h6
  case h1 => with_unfolding_all rfl
  case h2 => rfl
  case h3 => rfl
  case h4 => with_unfolding_all rfl
  case h5 => exact bind1 fun _ => (by with_unfolding_all rfl)
  case h6 =>
    intro L
    refine Ws.cons <| Wx.assign <| We.call rfl (glShelf hK) (ce373 hK) <| Wes.nil' ?_
    refine c_Shelf0 hK (by omega) fun a d t r μ1 ha hd' ht hr nad nta ntd nra nrd nrt M0 => ?_
    have npa := ne_of_some ha hp
    have npd := ne_of_some hd' hp
    have npt := ne_of_some ht hp
    have npr := ne_of_some hr hp
    have M1 : ShM μ p N c a d t r ⟨[], []⟩ μ1 := ⟨M0.ca, M0.cd, by rw [M0.o t nta ntd, fup_ne _ _ nrt.symm, fup_self]; rfl, by rw [M0.o r nra nrd, fup_self]; rfl,
      by rw [M0.o p npa npd, fup_ne _ _ npr, fup_ne _ _ npt]; exact hp, hN, fun b x hb e => by
        have b1 := ne_of_some ha e
        have b2 := ne_of_some hd' e
        have b3 := ne_of_some ht e
        have b4 := ne_of_some hr e
        exact ⟨b1, b2, b3, b4, by rw [M0.o b b1 b2, fup_ne _ _ b4, fup_ne _ _ b3]; exact e⟩⟩
    refine Wa.nl rfl <| Ws.cons ?_
    refine Wx.for ?_
    refine We.call rfl (glrange hK) Callee.type <| Wes.cons' <| We.int <| Wes.cons' <| We.bin <| We.int <| We.call rfl (gllawdraw hK) (ce492 hK) <| Wes.cons' <| We.nl rfl rfl <| Wes.cons' <| We.int <| Wes.nil' ?_
    refine c_law_draw hK M1.pen hN (by omega) ⟨by decide, by decide⟩ (by omega) fun g N1 g0 g1 hN1 => ?_
    have M2 := M1.step (c' := c + 1) hN1
    refine BinV.add <| Wes.nil' <| CallV.range2 ?_
    refine ⟨_, _, Itr.rng (by decide) (by omega) (by decide) (by omega), ?_⟩
    rw [show (2 + g : Int) = 1 + ((1 + g).toNat : Int) by omega]
    refine ForL.range (fun _ => [("shelf", .ref a), ("pen", .ref p)]) (LsF p μ c a d t r) (fun _ _ _ => trivial) ?_ ?_ ?_ ?_
    · rintro i μ' hi ⟨tab, N', c', M, k1, k2, k3, c1, c2⟩
      refine Wa.nl rfl <| Ws.cons <| Wx.ite <| Wt.cmp <| We.call rfl (gllawdraw hK) (ce492 hK) <| Wes.cons' <| We.nl rfl rfl <| Wes.cons' <| We.int <| Wes.nil' ?_
      refine c_law_draw hK M.pen M.nn (by omega) ⟨by decide, by decide⟩ (by omega) fun g2 N2 a0 a1 hN2 => ?_
      have M3 := M.step (c' := c' + 1) hN2
      refine We.int <| CmpV.gt ⟨_, rfl, ?_⟩
      refine ite_d (fun w => ?_) fun w => ?_
      · skip
        refine Ws.cons <| Wx.expr <| We.meth <| We.nl rfl rfl ?_
        refine ⟨.ref 337, GetM.ref M3.ca M3.cd (me373put hK) rfl, ce337 hK, ?_⟩
        refine Wes.cons' <| We.nl rfl rfl <| Wes.cons' <| We.bin <| We.call rfl (gllawdraw hK) (ce492 hK) <| Wes.cons' <| We.nl rfl rfl <| Wes.cons' <| We.int <| Wes.nil' ?_
        refine c_law_draw hK M3.pen M3.nn (by omega) ⟨by decide, by decide⟩ (by omega) fun g3 N3 a2 a3 hN3 => ?_
        have M4 := M3.step (c' := c' + 1 + 1) hN3
        refine We.int ?_
        refine BinV.div (by decide) (by decide) ?_
        refine Wes.cons' <| We.call rfl (gllawvalue hK) (ce497 hK) <| Wes.cons' <| We.nl rfl rfl <| Wes.cons' <| We.int <| Wes.nil' ?_
        refine c_law_value hK 2 (by omega) M4.pen M4.nn (by omega) (by omega) fun v N4 c4 hv hN4 c5 c6 => ?_
        have M5 := M4.step (c' := c4) hN4
        refine Wes.nil' ?_
        refine c_put hK M5.ca M5.cd rfl M5.ct (by rw [encT_len]; show tab.length ≤ 1000; omega) (by omega) ?_
        rw [encT_putA]
        have M6 := M5.tabset (tab := putA tab (1 + (i : Int)) (g3.fdiv 5, v))
        refine Ws.nil <| Ws.nil ?_
        refine ⟨by exact Sub.cons rfl <| Sub.cons rfl <| Sub.nil, _, _, _, M6, putA_nodup k1, Nat.le_trans putA_len (by omega), fun q hq => ?_, by omega, by omega⟩
        rcases mem_putA hq with hq | rfl
        · exact k3 q hq
        · exact hv
      · skip
        refine Ws.nil <| Ws.nil ?_
        exact ⟨by exact Sub.cons rfl <| Sub.cons rfl <| Sub.nil, tab, _, _, M3, k1, by omega, k3, by omega, by omega⟩
    · rintro l2 μ' hsub ⟨tab, N', c', M, k1, k2, k3, c1, c2⟩
      refine Ws.weak hsub ?_
      refine Ws.cons <| Wx.assign ?_
      refine We.dictD dkS ?_
      refine Wkv.cons' ?_
      refine We.str ⟨_, rfl, We.call rfl (glReference hK) (ce242 hK) <| Wes.cons' <| We.bin <| We.int <| We.call rfl (gllawdraw hK) (ce492 hK) <| Wes.cons' <| We.nl rfl rfl <| Wes.cons' <| We.int <| Wes.nil' ?_⟩
      refine c_law_draw hK M.pen M.nn (by omega) ⟨by decide, by decide⟩ (by omega) fun g5 N5 a0 a1 hN5 => ?_
      have M3 := M.step (c' := c' + 1) hN5
      refine BinV.add <| Wes.cons' <| We.int <| Wes.nil' ?_
      refine c_Reference (p := (1 + g5, 0)) hK (by omega) ?_
      refine Wkv.cons' ?_
      refine We.str ⟨_, rfl, We.call rfl (gllawvalue hK) (ce497 hK) <| Wes.cons' <| We.nl rfl rfl <| Wes.cons' <| We.int <| Wes.nil' ?_⟩
      refine c_law_value hK 1 (by omega) M3.pen M3.nn (by omega) (by omega) fun v N6 c6 hv hN6 c7 c8 => ?_
      have M4 := M3.step (c' := c6) hN6
      refine Wkv.cons' ?_
      refine We.str ⟨_, rfl, We.int ?_⟩
      refine Wkv.cons' ?_
      refine We.str ⟨_, rfl, We.int ?_⟩
      refine Wkv.nil' ?_
      refine ⟨by simp, fun r' hr' => ?_⟩
      rw [dictOfL_nodup (by exact tr4_nodup g5 v)]
      refine Wa.attr <| We.nl rfl rfl ?_
      have M5 := M4.trnew (tr := tr4 g5 v) hr'
      have hr'' := ne_of_some hr' M4.cd
      have hr3 := ne_of_some hr' M4.ca
      refine SetA.cell (d := d) (fs := [(Str.ofString "table", .ref t), (Str.ofString "trailer", .ref r)]) ((fup_ne _ _ hr3).trans M4.ca) ((fup_ne _ _ hr'').trans M4.cd) (se373trailer hK) (by simp) ?_
      refine Ws.cons <| Wx.ret <| We.nl rfl rfl ?_
      exact ⟨a, d, t, r', _, N6, c6, rfl, tr4_lsh k1 (by omega) k3 hv, by omega, by omega, M5⟩
    · exact Sub.cons rfl <| Sub.cons rfl <| Sub.nil
    · exact ⟨[], _, _, M2, List.nodup_nil, Nat.le_refl _, (fun _ h => nomatch h), by omega, by omega⟩
end
section
open PySem PySem.W PySem.Calls PyProof.Rows
theorem c_unf_dict {C : Cx} (hK : C.K = hd.heap_39 C.w.params) {S : Shf} {e : Nat} {kvs : List (Str × Val)} (hl : kvs.length ≤ 8) (hnd : (kvs.map (·.1)).Nodup) {m : Nat}
    (ih : ∀ p ∈ kvs, ∀ {n : Nat} {Φ : V → Mu → Prop} {μ : Mu}, m ≤ n → Φ (unfP S e p.2) μ → CallV C n (.ref 509) [encS S, enc p.2, .int (e : Int)] Φ μ) {n : Nat} {Φ : V → Mu → Prop} {μ : Mu} (hn : m + 1 ≤ n) (h : Φ (unfP S e (.dict kvs)) μ) :
    CallV C n (.ref 509) [encS S, enc (.dict kvs), .int (e : Int)] Φ μ := by
  refine' CallV.defK (m := m) (names := ["shelf", "value", "deep"]) hK ?h1 ?h2 ?h3 ?h4 ?h5 hn ?h6
  case h1 => with_unfolding_all rfl
  case h2 => rfl
  case h3 => rfl
  case h4 => with_unfolding_all rfl
  case h5 => exact bind3 fun _ _ _ => (by with_unfolding_all rfl)
  case h6 =>
    intro L
    refine Ws.cons <| Wx.ite <| Wt.val <| We.call rfl (glisinstance hK) Callee.builtin <| Wes.cons' <| We.nc rfl rfl <| Wes.cons' <| We.globR rfl (glReference hK) <| Wes.nil' <| CallV.isiE (j := 8) (by assumption) rfl ?_; refine TruV.bool <| ite_f rfl <| Ws.nil <| Ws.cons <| Wx.ite <| Wt.val <| We.call rfl (glisinstance hK) Callee.builtin <| Wes.cons' <| We.nc rfl rfl <| Wes.cons' <| We.globT rfl (gllist hK) <| Wes.nil' <| CallV.isiE (j := 5) (by assumption) rfl ?_; refine TruV.bool <| ite_f rfl <| Ws.nil <| Ws.cons <| Wx.ite <| Wt.val <| We.call rfl (glisinstance hK) Callee.builtin <| Wes.cons' <| We.nc rfl rfl <| Wes.cons' <| We.globR rfl (glStream hK) <| Wes.nil' <| CallV.isiE (j := 7) (by assumption) rfl ?_; refine TruV.bool <| ite_f rfl <| Ws.nil <| Ws.cons <| Wx.ite <| Wt.val <| We.call rfl (glisinstance hK) Callee.builtin <| Wes.cons' <| We.nc rfl rfl <| Wes.cons' <| We.globT rfl (gldict hK) <| Wes.nil' <| CallV.isiE (j := 6) (by assumption) rfl ?_; refine TruV.bool <| ite_t rfl <| Ws.cons ?_
    have hlen : (sortS (kvs.map (·.1))).length = kvs.length := by rw [(sortS_perm _).length_eq, List.length_map]
    refine Wx.assignComp (by with_unfolding_all rfl) (by with_unfolding_all rfl) (by left; rfl) ?_
    refine We.call rfl (glsorted hK) Callee.builtin <| Wes.cons' <| We.nc rfl rfl <| Wes.nil' ?_
    refine CallV.sortedS (kvs := enck kvs) SeeS.z (by rw [enck_len]; omega) ?_
    refine ⟨(sortS (kvs.map (·.1))).map V.str, fun _ => True, by rw [enck_keys]; exact Itr.list, by rw [List.length_map, hlen]; omega,
      fun Cl => CompL.filt (p := fun k => !inSizes k) (f := fun k => .tup [.str k, unfP S e (getK kvs k)]) trivial (fun k hk Ψ hΨ => ?_) (fun k hk hp Ψ hΨ => ?_) ?_⟩
    · refine Wt.cmp <| We.nl rfl rfl <| We.tuple <| Wes.cons' <| We.str <| Wes.cons' <| We.str <| Wes.nil' ⟨lb rfl, ?_⟩
      refine CmpV.notInT (ks := sizeKeys) ⟨_, rfl, ?_⟩
      exact hΨ
    · have hm := (sortS_perm _).mem_iff.mp hk
      refine We.tuple <| Wes.cons' <| We.nl rfl rfl <| Wes.cons' <| We.call rfl (gllawunfolded hK) (ce509 hK) <| Wes.cons' <| We.nc rfl rfl <| Wes.cons' <| We.sub <| We.nc rfl rfl <| We.nl rfl rfl ?_
      refine SubV.dS (kvs := enck kvs) SeeS.z (lk_getK hm) ?_
      refine Wes.cons' <| We.nc rfl rfl <| Wes.nil' ?_
      obtain ⟨x, hx⟩ := getK_mem hm
      rw [getK_of_mem hnd hx] at hΨ ⊢
      refine ih _ hx (Nat.le_refl _) ?_
      refine Wes.nil' ⟨lb rfl, ?_⟩
      exact hΨ
    · rw [List.nil_append]
      refine Ws.cons <| Wx.ret <| We.tuple <| Wes.cons' <| We.str <| Wes.cons' <| We.comp (by with_unfolding_all rfl) ?_; refine We.nl rfl rfl ?_
      have hl3 : (((sortS (kvs.map (·.1))).filter fun k => !inSizes k).map fun k => (k, unfP S e (getK kvs k))).length ≤ 8 := by
        rw [List.length_map]; exact Nat.le_trans (List.length_filter_le _ _) (by omega)
      refine ⟨(((sortS (kvs.map (·.1))).filter fun k => !inSizes k).map fun k => (k, unfP S e (getK kvs k))).map fun p => V.tup [.str p.1, p.2], fun _ => True, by rw [List.map_map]; exact Itr.list, by rw [List.length_map]; omega,
        fun Cl => CompL.filt (p := fun p => nz p.2) (f := fun p => V.tup [.str p.1, p.2]) trivial (fun p hp Ψ hΨ => ?_) (fun p hp hq Ψ hΨ => ?_) ?_⟩
      · obtain ⟨k, hk, rfl⟩ := List.mem_map.mp hp
        obtain ⟨s, r, hs⟩ := unfP_tup (S := S) e (getK kvs k)
        rw [hs] at hΨ ⊢
        refine Wt.cmp <| We.sub <| We.nl rfl rfl <| We.int <| SubV.tup (by decide) rfl (by decide) <| We.tuple <| Wes.cons' <| We.str <| Wes.nil' ⟨lb rfl, ?_⟩
        refine CmpV.neT (k := 1) (xs := .str s :: r) (ys := [SP.S "null"]) (fun i x y hx hy => ?_) (by omega) ⟨_, rfl, ?_⟩
        · cases i with
          | zero => cases hx; cases hy; exact .aa rfl rfl
          | succ i => cases hy
        · exact hΨ
      · refine We.nl rfl rfl ?_
        exact hΨ
      · rw [List.nil_append]
        refine Wes.nil' ⟨lb rfl, ?_⟩
        unfold unfP at h
        rw [UrE6, udict_get hnd] at h
        exact h
theorem c_unf_leaf {C : Cx} (hK : C.K = hd.heap_39 C.w.params) {S : Shf} {e : Nat} {v : Val} {n : Nat} {Φ : V → Mu → Prop} {μ : Mu} (hn : 3 ≤ n) (h0 : ∀ p, v ≠ .ref p) (h1 : ∀ xs, v ≠ .arr xs) (h2 : ∀ xs, v ≠ .dict xs) (h3 : ∀ xs b, v ≠ .stm xs b) (h : Φ (unfP S e v) μ) :
    CallV C n (.ref 509) [encS S, enc v, .int (e : Int)] Φ μ := by
  refine' CallV.defK (m := 2) (names := ["shelf", "value", "deep"]) hK ?h1 ?h2 ?h3 ?h4 ?h5 (by omega) ?h6
  case h1 => with_unfolding_all rfl
  case h2 => rfl
  case h3 => rfl
  case h4 => with_unfolding_all rfl
  case h5 => exact bind3 fun _ _ _ => (by with_unfolding_all rfl)
  case h6 =>
    intro L
    cases v with
    | ref p => exact absurd rfl (h0 p)
    | arr xs => exact absurd rfl (h1 xs)
    | dict xs => exact absurd rfl (h2 xs)
    | stm xs b => exact absurd rfl (h3 xs b)
    | nul => refine Ws.cons <| Wx.ite <| Wt.val <| We.call rfl (glisinstance hK) Callee.builtin <| Wes.cons' <| We.nc rfl rfl <| Wes.cons' <| We.globR rfl (glReference hK) <| Wes.nil' <| CallV.isiE (j := 8) (by assumption) rfl ?_; refine TruV.bool <| ite_f rfl <| Ws.nil <| Ws.cons <| Wx.ite <| Wt.val <| We.call rfl (glisinstance hK) Callee.builtin <| Wes.cons' <| We.nc rfl rfl <| Wes.cons' <| We.globT rfl (gllist hK) <| Wes.nil' <| CallV.isiE (j := 5) (by assumption) rfl ?_; refine TruV.bool <| ite_f rfl <| Ws.nil <| Ws.cons <| Wx.ite <| Wt.val <| We.call rfl (glisinstance hK) Callee.builtin <| Wes.cons' <| We.nc rfl rfl <| Wes.cons' <| We.globR rfl (glStream hK) <| Wes.nil' <| CallV.isiE (j := 7) (by assumption) rfl ?_; refine TruV.bool <| ite_f rfl <| Ws.nil <| Ws.cons <| Wx.ite <| Wt.val <| We.call rfl (glisinstance hK) Callee.builtin <| Wes.cons' <| We.nc rfl rfl <| Wes.cons' <| We.globT rfl (gldict hK) <| Wes.nil' <| CallV.isiE (j := 6) (by assumption) rfl ?_; refine TruV.bool <| ite_f rfl <| Ws.nil <| Ws.cons <| Wx.ret <| We.call rfl (gltoldobjects hK) (ce265 hK) <| Wes.cons' <| We.nc rfl rfl <| Wes.nil' ?_
             exact c_told_leaf hK (by omega) ⟨by omega, by simp, by simp, by simp⟩ h
    | int => refine Ws.cons <| Wx.ite <| Wt.val <| We.call rfl (glisinstance hK) Callee.builtin <| Wes.cons' <| We.nc rfl rfl <| Wes.cons' <| We.globR rfl (glReference hK) <| Wes.nil' <| CallV.isiE (j := 8) (by assumption) rfl ?_; refine TruV.bool <| ite_f rfl <| Ws.nil <| Ws.cons <| Wx.ite <| Wt.val <| We.call rfl (glisinstance hK) Callee.builtin <| Wes.cons' <| We.nc rfl rfl <| Wes.cons' <| We.globT rfl (gllist hK) <| Wes.nil' <| CallV.isiE (j := 5) (by assumption) rfl ?_; refine TruV.bool <| ite_f rfl <| Ws.nil <| Ws.cons <| Wx.ite <| Wt.val <| We.call rfl (glisinstance hK) Callee.builtin <| Wes.cons' <| We.nc rfl rfl <| Wes.cons' <| We.globR rfl (glStream hK) <| Wes.nil' <| CallV.isiE (j := 7) (by assumption) rfl ?_; refine TruV.bool <| ite_f rfl <| Ws.nil <| Ws.cons <| Wx.ite <| Wt.val <| We.call rfl (glisinstance hK) Callee.builtin <| Wes.cons' <| We.nc rfl rfl <| Wes.cons' <| We.globT rfl (gldict hK) <| Wes.nil' <| CallV.isiE (j := 6) (by assumption) rfl ?_; refine TruV.bool <| ite_f rfl <| Ws.nil <| Ws.cons <| Wx.ret <| We.call rfl (gltoldobjects hK) (ce265 hK) <| Wes.cons' <| We.nc rfl rfl <| Wes.nil' ?_
             exact c_told_leaf hK (by omega) ⟨by omega, by simp, by simp, by simp⟩ h
    | name => refine Ws.cons <| Wx.ite <| Wt.val <| We.call rfl (glisinstance hK) Callee.builtin <| Wes.cons' <| We.nc rfl rfl <| Wes.cons' <| We.globR rfl (glReference hK) <| Wes.nil' <| CallV.isiE (j := 8) (by assumption) rfl ?_; refine TruV.bool <| ite_f rfl <| Ws.nil <| Ws.cons <| Wx.ite <| Wt.val <| We.call rfl (glisinstance hK) Callee.builtin <| Wes.cons' <| We.nc rfl rfl <| Wes.cons' <| We.globT rfl (gllist hK) <| Wes.nil' <| CallV.isiE (j := 5) (by assumption) rfl ?_; refine TruV.bool <| ite_f rfl <| Ws.nil <| Ws.cons <| Wx.ite <| Wt.val <| We.call rfl (glisinstance hK) Callee.builtin <| Wes.cons' <| We.nc rfl rfl <| Wes.cons' <| We.globR rfl (glStream hK) <| Wes.nil' <| CallV.isiE (j := 7) (by assumption) rfl ?_; refine TruV.bool <| ite_f rfl <| Ws.nil <| Ws.cons <| Wx.ite <| Wt.val <| We.call rfl (glisinstance hK) Callee.builtin <| Wes.cons' <| We.nc rfl rfl <| Wes.cons' <| We.globT rfl (gldict hK) <| Wes.nil' <| CallV.isiE (j := 6) (by assumption) rfl ?_; refine TruV.bool <| ite_f rfl <| Ws.nil <| Ws.cons <| Wx.ret <| We.call rfl (gltoldobjects hK) (ce265 hK) <| Wes.cons' <| We.nc rfl rfl <| Wes.nil' ?_
              exact c_told_leaf hK (by omega) ⟨by omega, by simp, by simp, by simp⟩ h
theorem c_unf_ref {C : Cx} (hK : C.K = hd.heap_39 C.w.params) {S : Shf} (hS : ShOk S) {e : Nat} {m : Nat} (ih : ∀ e', e = e' + 1 → ∀ {v : Val}, ok 2 v → ∀ {n : Nat} {Φ : V → Mu → Prop} {μ : Mu}, m ≤ n → Φ (unfP S e' v) μ → CallV C n (.ref 509) [encS S, enc v, .int (e' : Int)] Φ μ)
    {p : PP} {n : Nat} {Φ : V → Mu → Prop} {μ : Mu} (hn : m + 1 ≤ n) (h : Φ (unfP S e (.ref p)) μ) : CallV C n (.ref 509) [encS S, enc (.ref p), .int (e : Int)] Φ μ := by
  refine' CallV.defK (m := m) (names := ["shelf", "value", "deep"]) hK ?h1 ?h2 ?h3 ?h4 ?h5 hn ?h6
  case h1 => with_unfolding_all rfl
  case h2 => rfl
  case h3 => rfl
  case h4 => with_unfolding_all rfl
  case h5 => exact bind3 fun _ _ _ => (by with_unfolding_all rfl)
  case h6 =>
    intro L
    unfold encS
    unfold unfP at h
    rw [UrE4] at h
    have fin : (if there S p then False else True) → Φ nullV μ := fun ht => by
      cases hb : there S p with
      | true => rw [hb] at ht; exact ht.elim
      | false => cases e <;> (((first | rewrite [rfPE1] at h | rewrite [rfPE2] at h); rw [hb] at h); exact h)
    refine Ws.cons <| Wx.ite <| Wt.val <| We.call rfl (glisinstance hK) Callee.builtin <| Wes.cons' <| We.nc rfl rfl <| Wes.cons' <| We.globR rfl (glReference hK) <| Wes.nil' <| CallV.isiE (j := 8) (by assumption) rfl ?_; refine TruV.bool <| ite_t rfl <| Ws.cons <| Wx.ite <| Wt.boolop <| Wall.cons' <| Wt.cmp <| We.attr <| We.nc rfl rfl <| AttV.inst (at242number hK) rfl <| We.attr <| We.nc rfl rfl <| AttV.inst (at373table hK) rfl <| CmpV.notInI SeeI.z ⟨_, rfl, ?_⟩
    rw [lk_encT]
    cases hu : S.tab.lookup p.1 with
    | none =>
      have hb : there S p = false := by unfold there; rw [hu]
      rw [hb] at fin
      refine Ws.cons <| Wx.ret <| We.tuple <| Wes.cons' <| We.str <| Wes.nil' ⟨lb rfl, ?_⟩
      exact fin trivial
    | some r =>
      refine Wall.cons' ?_
      refine Wt.cmp <| We.sub <| We.sub <| We.attr <| We.nc rfl rfl <| AttV.inst (at373table hK) rfl <| We.attr <| We.nc rfl rfl <| AttV.inst (at242number hK) rfl ?_
      refine SubV.dI SeeI.z (x := .tup [.int r.1, enc r.2]) (by rw [lk_encT, hu]; rfl) ?_
      refine We.int <| SubV.tup (by decide) rfl (by decide) <| We.attr <| We.nc rfl rfl <| AttV.inst (at242generation hK) rfl <| CmpV.neI ⟨_, rfl, ?_⟩
      cases hb : there S p with
      | false =>
        rw [hb] at fin
        have hne : r.1 ≠ p.2 := fun e => by unfold there at hb; rw [hu] at hb; simp [e] at hb
        rw [show (r.1 != p.2) = true by simpa using hne]
        refine ite_t rfl <| Ws.cons <| Wx.ret <| We.tuple <| Wes.cons' <| We.str <| Wes.nil' ⟨lb rfl, ?_⟩
        exact fin trivial
      | true =>
        have hne : r.1 = p.2 := by unfold there at hb; rw [hu] at hb; simpa using hb
        have hc : cont S p = r.2 := by unfold cont; rw [hu]
        rw [show (r.1 != p.2) = false by simpa using hne]
        refine Wall.nil' <| ite_f rfl <| Ws.nil <| Ws.cons <| Wx.ret <| We.ifexp <| Wt.cmp <| We.nc rfl rfl <| We.int <| CmpV.gt ⟨_, rfl, ?_⟩
        cases e with
        | zero =>
          refine ite_f (by simp) ?_
          refine We.tuple <| Wes.cons' <| We.str <| Wes.nil' ⟨lb rfl, ?_⟩
          rw [rfPE1, hb] at h
          exact h
        | succ e =>
          refine ite_t (by first | (simp; done) | (simp; omega)) ?_
          refine We.tuple <| Wes.cons' <| We.str <| Wes.cons' <| We.call rfl (gllawunfolded hK) (ce509 hK) <| Wes.cons' <| We.nc rfl rfl <| Wes.cons' <| We.sub <| We.sub <| We.attr <| We.nc rfl rfl <| AttV.inst (at373table hK) rfl <| We.attr <| We.nc rfl rfl <| AttV.inst (at242number hK) rfl ?_
          refine SubV.dI SeeI.z (x := .tup [.int r.1, enc r.2]) (by rw [lk_encT, hu]; rfl) ?_
          refine We.int <| SubV.tup (by decide) rfl (by decide) <| Wes.cons' <| We.bin <| We.nc rfl rfl <| We.int <| BinV.subi <| Wes.nil' ?_
          rw [show ((e + 1 : Nat) : Int) - 1 = (e : Int) by omega]
          have hv := ok_cont hS p
          rw [rfPE2, hb] at h
          rw [hc] at h hv
          refine ih e rfl hv (Nat.le_refl _) ?_
          refine Wes.nil' ⟨lb rfl, ?_⟩
          exact h
theorem c_unf {C : Cx} (hK : C.K = hd.heap_39 C.w.params) {S : Shf} (hS : ShOk S) : ∀ (e d : Nat) {v : Val}, ok d v → ∀ {n : Nat} {Φ : V → Mu → Prop} {μ : Mu}, 10 * e + 2 * d + 5 ≤ n → Φ (unfP S e v) μ → CallV C n (.ref 509) [encS S, enc v, .int (e : Int)] Φ μ := by
  intro e
  induction e using Nat.strongRecOn with
  | _ e ihe =>
    have href : ∀ {p : PP} {n : Nat} {Φ : V → Mu → Prop} {μ : Mu}, 10 * e + 2 ≤ n → Φ (unfP S e (.ref p)) μ → CallV C n (.ref 509) [encS S, enc (.ref p), .int (e : Int)] Φ μ := by
      intro p n Φ μ hn h
      refine c_unf_ref (m := 10 * e) hK hS (fun e' he v hv n Φ μ hn' h' => ihe e' (by omega) 2 hv (by omega) h') (by omega) h
    intro d
    induction d with
    | zero =>
      intro v hv n Φ μ hn h
      cases v with
      | ref p => exact href (by omega) h
      | arr xs => exact hv.elim
      | dict kvs => exact hv.elim
      | stm kvs b => exact hv.elim
      | _ => exact c_unf_leaf hK (by omega) (by simp) (by simp) (by simp) (by simp) h
    | succ d ih =>
      have hdict : ∀ {kvs : List (Str × Val)}, ok (d + 1) (.dict kvs) → ∀ {n : Nat} {Φ : V → Mu → Prop} {μ : Mu}, 10 * e + 2 * d + 6 ≤ n → Φ (unfP S e (.dict kvs)) μ → CallV C n (.ref 509) [encS S, enc (.dict kvs), .int (e : Int)] Φ μ := by
        intro kvs hv n Φ μ hn h
        exact c_unf_dict hK (m := 10 * e + 2 * d + 5) hv.1 hv.2.1 (fun p hp n Φ μ hn' h' => ih (hv.2.2 p hp) hn' h') (by omega) h
      intro v hv n Φ μ hn h
      cases v with
      | ref p => exact href (by omega) h
      | arr xs =>
        refine' CallV.defK (m := 10 * e + 2 * d + 6) (names := ["shelf", "value", "deep"]) hK ?h1 ?h2 ?h3 ?h4 ?h5 (by omega) ?h6
        case h1 => with_unfolding_all rfl
        case h2 => rfl
        case h3 => rfl
        case h4 => with_unfolding_all rfl
        case h5 => exact bind3 fun _ _ _ => (by with_unfolding_all rfl)
        case h6 =>
          intro L
          refine Ws.cons <| Wx.ite <| Wt.val <| We.call rfl (glisinstance hK) Callee.builtin <| Wes.cons' <| We.nc rfl rfl <| Wes.cons' <| We.globR rfl (glReference hK) <| Wes.nil' <| CallV.isiE (j := 8) (by assumption) rfl ?_; refine TruV.bool <| ite_f rfl <| Ws.nil <| Ws.cons <| Wx.ite <| Wt.val <| We.call rfl (glisinstance hK) Callee.builtin <| Wes.cons' <| We.nc rfl rfl <| Wes.cons' <| We.globT rfl (gllist hK) <| Wes.nil' <| CallV.isiE (j := 5) (by assumption) rfl ?_; refine TruV.bool <| ite_t rfl <| Ws.cons <| Wx.ret <| We.tuple <| Wes.cons' <| We.str <| Wes.cons' <| We.comp (by with_unfolding_all rfl) ?_; refine We.nc rfl rfl ?_
          refine ⟨xs.map enc, fun _ => True, by rw [encE5, encs_eq]; exact Itr.list, by rw [List.length_map]; have := hv.1; omega, fun Cl => CompL.map (f := unfP S e) trivial (fun b hb Ψ hΨ => ?_) ?_⟩
          · refine We.call rfl (gllawunfolded hK) (ce509 hK) <| Wes.cons' <| We.nc rfl rfl <| Wes.cons' <| We.nl rfl rfl <| Wes.cons' <| We.nc rfl rfl <| Wes.nil' ?_
            exact ih (hv.2 b hb) (by omega) hΨ
          · rw [List.nil_append]
            refine Wes.nil' ⟨lb rfl, ?_⟩
            unfold unfP at h
            rw [UrE5, Urs_eq] at h
            exact h
      | dict kvs => exact hdict hv (by omega) h
      | stm kvs b =>
        refine' CallV.defK (m := 10 * e + 2 * d + 6) (names := ["shelf", "value", "deep"]) hK ?h1 ?h2 ?h3 ?h4 ?h5 (by omega) ?h6
        case h1 => with_unfolding_all rfl
        case h2 => rfl
        case h3 => rfl
        case h4 => with_unfolding_all rfl
        case h5 => exact bind3 fun _ _ _ => (by with_unfolding_all rfl)
        case h6 =>
          intro L
          refine Ws.cons <| Wx.ite <| Wt.val <| We.call rfl (glisinstance hK) Callee.builtin <| Wes.cons' <| We.nc rfl rfl <| Wes.cons' <| We.globR rfl (glReference hK) <| Wes.nil' <| CallV.isiE (j := 8) (by assumption) rfl ?_; refine TruV.bool <| ite_f rfl <| Ws.nil <| Ws.cons <| Wx.ite <| Wt.val <| We.call rfl (glisinstance hK) Callee.builtin <| Wes.cons' <| We.nc rfl rfl <| Wes.cons' <| We.globT rfl (gllist hK) <| Wes.nil' <| CallV.isiE (j := 5) (by assumption) rfl ?_; refine TruV.bool <| ite_f rfl <| Ws.nil <| Ws.cons <| Wx.ite <| Wt.val <| We.call rfl (glisinstance hK) Callee.builtin <| Wes.cons' <| We.nc rfl rfl <| Wes.cons' <| We.globR rfl (glStream hK) <| Wes.nil' <| CallV.isiE (j := 7) (by assumption) rfl ?_; refine TruV.bool <| ite_t rfl <| Ws.cons <| Wx.ret <| We.tuple <| Wes.cons' <| We.str <| Wes.cons' <| We.attr <| We.nc rfl rfl <| AttV.inst (at214octets hK) rfl <| Wes.cons' <| We.call rfl (gllawunfolded hK) (ce509 hK) <| Wes.cons' <| We.nc rfl rfl <| Wes.cons' <| We.attr <| We.nc rfl rfl <| AttV.inst (at214head hK) rfl <| Wes.cons' <| We.nc rfl rfl <| Wes.nil' ?_
          refine hdict (kvs := kvs) hv (by omega) ?_
          refine Wes.nil' ⟨lb rfl, ?_⟩
          exact h
      | _ => exact c_unf_leaf hK (by omega) (by simp) (by simp) (by simp) (by simp) h
end
section
open PySem PySem.W PySem.Calls PyProof.Rows
theorem veqs_nil_of {xs : List V} : veqs xs [] = xs.isEmpty := by cases xs <;> rfl
inductive FlM (S : Shf) (W : List PP) (μ : Mu) (f ln : Addr) (b : Nat × List PP × List PP) (μ' : Mu) : Prop
  | mk (h1 : μ' f = some (.list ((b.2.1.map (·.1)).map V.int))) (h2 : μ' ln = some (.list (b.2.2.map pairV))) (h3 : ∀ a, a ≠ f → a ≠ ln → μ' a = μ a) (I : FlI S W b.1 b.2.1 b.2.2) (hz : b.2.2.length + 100 * b.1 ≤ 8000)
theorem c_law_flood {C : Cx} (hK : C.K = hd.heap_39 C.w.params) {S : Shf} (hS : ShOk S) {v : Val} (hv : ok 3 v) {n : Nat} {Φ : V → Mu → Prop} {μ : Mu} (hn : 5 ≤ n) (h : Φ (.list (((walkP S v).map (·.1)).map V.int)) μ) : CallV C n (.ref 514) [encS S, enc v] Φ μ := by
  have hB : (refsIn v).length ≤ 729 := Nat.le_trans (refsIn_len hv) (sz_le hv)
  refine CallV.fin (c := .list (((walkP S v).map (·.1)).map V.int)) .list h ?_
  refine' CallV.defK (m := 4) (names := ["shelf", "trailer"]) hK ?h1 ?h2 ?h3 ?h4 ?h5 (by omega) ?h6
  case h1 => with_unfolding_all rfl
  case h2 => rfl
  case h3 => rfl
  case h4 => with_unfolding_all rfl
  case h5 => exact bind2 fun _ _ => (by with_unfolding_all rfl)
  case h6 =>
    intro L
    refine Ws.cons (Wx.assignCompM (by with_unfolding_all rfl) (by with_unfolding_all rfl) (by left; rfl) ?_)
    refine We.call rfl (glreferencesin hK) (ce282 hK) ?_
    refine Wes.cons' ?_
    refine We.nl rfl rfl ?_
    refine Wes.nil' ?_
    refine c_references_in hK hv (by omega) (by omega) ?_
    refine ⟨(refsIn v).map pairV, fun _ => True, Itr.list, by rw [List.length_map]; omega, fun Cl => CompL.map (f := pairV) trivial (fun b hb Ψ hΨ => ?_) ?_⟩
    · refine We.nl rfl rfl ?_
      exact hΨ
    intro ln hln
    refine Ws.cons (Wx.assign (We.listM ?_))
    refine Wes.nil' ⟨lb rfl, ?_⟩
    intro f hf
    obtain ⟨nfl, hf'⟩ := fup_none hf
    refine Wa.nl rfl <| Ws.cons ?_
    rw [List.nil_append] at hf ⊢
    refine Wx.whileB (β := Nat × List PP × List PP) (fun _ => [("found", .ref f), ("line", .ref ln), ("shelf", encS S)])
      (FlM S (walkP S v) μ f ln)
      (fun b => b.1 * 10000 + b.2.2.length) ?_ (64, [], refsIn v) ?_ ?_
    · rintro ⟨j, X, line⟩ μ' ⟨h1, h2, h3, I, hz⟩
      dsimp only at h1 h2 I hz
      have hX : X.length ≤ 64 := by have := I.jn; omega
      refine Wt.cmp <| We.nl rfl rfl ?_
      refine We.listZ ?_
      refine Wes.nil' ⟨lb rfl, ?_⟩
      refine CmpV.neL (k := 0) (SeeL.m h2) SeeL.z (fun i x y _ hy => by simp at hy) (by omega) ⟨_, rfl, ?_⟩
      rw [veqs_nil_of]
      cases line with
      | nil =>
        refine ite_f rfl ?_
        refine Ws.cons <| Wx.ret <| We.nl rfl rfl ⟨_, rfl, ?_⟩
        rw [I.fin] at h1
        exact ⟨h1, fun b c hb => ⟨ne_of_some hf' hb, by rw [h3 b (ne_of_some hf' hb) (ne_of_some hln hb)]; exact hb⟩⟩
      | cons p Q =>
        rw [List.length_cons] at hz
        refine ite_t rfl ?_
        refine Ws.cons <| Wx.assign <| We.meth <| We.nl rfl rfl ?_
        refine ⟨.builtin "list.pop", GetM.lst h2 PySem.F.slot_list_pop PySem.F.type_list_pop, Callee.builtin, ?_⟩
        refine Wes.cons' <| We.int <| Wes.nil' ?_
        refine CallV.popAt (x := pairV p) h2 (by omega) rfl (by rw [List.length_map, List.length_cons]; omega) ?_
        rw [show ((p :: Q).map pairV).eraseIdx (0 : Int).toNat = Q.map pairV from rfl]
        have k1 : fup μ' ln (some (.list (Q.map pairV))) f = some (.list ((X.map (·.1)).map V.int)) := (fup_ne _ _ nfl).trans h1
        unfold pairV encS
        refine Wa.tuple rfl rfl <| WaL.cons' <| Wa.nl rfl <| WaL.cons' <| Wa.nl rfl <| WaL.nil' <| Ws.cons <| Wx.ite <| Wt.boolop <| Wall.cons' <| Wt.cmp <| We.nl rfl rfl <| We.attr <| We.nl rfl rfl <| AttV.inst (at373table hK) rfl <| CmpV.inI SeeI.z ⟨_, rfl, ?_⟩
        rw [lk_encT]
        have skip : (there S p = false ∨ p.1 ∈ X.map (·.1)) → ∃ b : Nat × List PP × List PP, b.1 * 10000 + b.2.2.length < j * 10000 + (Q.length + 1) ∧ FlM S (walkP S v) μ f ln b (fup μ' ln (some (.list (Q.map pairV)))) :=
          fun hs => ⟨(j, X, Q), by dsimp only; omega, k1, fup_self .., fun a a1 a2 => (fup_ne _ _ a2).trans (h3 a a1 a2), I.skip hs, by dsimp only; omega⟩
        cases hu : S.tab.lookup p.1 with
        | none =>
          have hb : there S p = false := by unfold there; rw [hu]
          refine Ws.nil <| Ws.nil ?_
          obtain ⟨b, m1, m2⟩ := skip (.inl hb)
          exact ⟨b, m1, by exact Sub.cons rfl <| Sub.cons rfl <| Sub.cons rfl <| Sub.nil, m2⟩
        | some r =>
          refine Wall.cons' ?_
          refine Wt.cmp <| We.sub <| We.sub <| We.attr <| We.nl rfl rfl <| AttV.inst (at373table hK) rfl <| We.nl rfl rfl ?_
          refine SubV.dI SeeI.z (x := .tup [.int r.1, enc r.2]) (by rw [lk_encT, hu]; rfl) ?_
          refine We.int <| SubV.tup (by decide) rfl (by decide) <| We.nl rfl rfl <| CmpV.eqI ⟨_, rfl, ?_⟩
          cases hb : there S p with
          | false =>
            rw [show (r.1 == p.2) = false by unfold there at hb; rw [hu] at hb; exact hb]
            refine ite_f rfl <| Ws.nil <| Ws.nil ?_
            obtain ⟨b, m1, m2⟩ := skip (.inl hb)
            exact ⟨b, m1, by exact Sub.cons rfl <| Sub.cons rfl <| Sub.cons rfl <| Sub.nil, m2⟩
          | true =>
            have hc : cont S p = r.2 := by unfold cont; rw [hu]
            rw [show (r.1 == p.2) = true by unfold there at hb; rw [hu] at hb; exact hb]
            refine Wall.cons' <| Wt.cmp <| We.nl rfl rfl <| We.nl rfl rfl ?_
            refine CmpV.notInL (ks := X.map (·.1)) (SeeL.m k1) ⟨_, rfl, ?_⟩
            by_cases hm : p.1 ∈ X.map (·.1)
            · rw [show (!((X.map (·.1)).any (· == p.1))) = false by rw [Bool.not_eq_false', List.any_eq_true]; exact ⟨_, hm, by simp⟩]
              refine ite_f rfl <| Ws.nil <| Ws.nil ?_
              obtain ⟨b, m1, m2⟩ := skip (.inr hm)
              exact ⟨b, m1, by exact Sub.cons rfl <| Sub.cons rfl <| Sub.cons rfl <| Sub.nil, m2⟩
            · rw [show (!((X.map (·.1)).any (· == p.1))) = true by rw [Bool.not_eq_true', List.any_eq_false]; intro q hq; simp; rintro rfl; exact hm hq]
              refine Wall.nil' <| ite_t rfl <| Ws.cons <| Wx.expr <| We.meth <| We.nl rfl rfl ?_
              obtain ⟨j', rfl, I'⟩ := I.take hS hb hm
              have hrl : (refsIn (cont S p)).length ≤ 81 := Nat.le_trans (refsIn_len (ok_cont hS p)) (sz_le (ok_cont hS p))
              refine ⟨.builtin "list.append", GetM.lst k1 PySem.F.slot_list_append PySem.F.type_list_append, Callee.builtin, ?_⟩
              refine Wes.cons' <| We.nl rfl rfl <| Wes.nil' ?_
              refine CallV.append k1 (by rw [List.length_map, List.length_map]; omega) ?_
              have k2 : fup (fup μ' ln (some (.list (Q.map pairV)))) f (some (.list ((X.map (·.1)).map V.int ++ [.int p.1]))) ln = some (.list (Q.map pairV)) := by rw [fup_ne _ _ nfl.symm, fup_self]
              refine Ws.cons (Wx.expr (We.meth ?_))
              refine We.nl rfl rfl ?_
              refine ⟨.builtin "list.extend", GetM.lst k2 PySem.F.slot_list_extend PySem.F.type_list_extend, Callee.builtin, ?_⟩
              refine Wes.cons' <| We.call rfl (glreferencesin hK) (ce282 hK) <| Wes.cons' <| We.sub <| We.sub <| We.attr <| We.nl rfl rfl <| AttV.inst (at373table hK) rfl <| We.nl rfl rfl ?_
              refine SubV.dI SeeI.z (x := .tup [.int r.1, enc r.2]) (by rw [lk_encT, hu]; rfl) ?_
              refine We.int <| SubV.tup (by decide) rfl (by decide) <| Wes.nil' ?_
              rw [← hc]
              refine c_references_in hK (ok_cont hS p) (by omega) (by omega) ?_
              refine Wes.nil' ?_
              refine CallV.extendL k2 (by rw [List.length_map, List.length_map]; omega) ?_
              refine Ws.nil <| Ws.nil ?_
              refine ⟨(j', X ++ [p], Q ++ refsIn (cont S p)), by simp only [List.length_append, List.length_cons]; omega, by exact Sub.cons rfl <| Sub.cons rfl <| Sub.cons rfl <| Sub.nil, ?_, ?_, fun a a1 a2 => ?_, I', by simp only [List.length_append]; omega⟩
              · rw [fup_ne _ _ nfl, fup_self]
                simp
              · rw [fup_self]
                simp
              · rw [fup_ne _ _ a2, fup_ne _ _ a1, fup_ne _ _ a2]
                exact h3 a a1 a2
    · exact Sub.cons rfl <| Sub.cons rfl <| Sub.cons rfl <| Sub.nil
    · refine ⟨fup_self .., by rw [fup_ne _ _ nfl.symm, fup_self], fun a a1 a2 => by rw [fup_ne _ _ a1, fup_ne _ _ a2], FlI.start hS hv, by dsimp only; omega⟩
end
section
open PySem PySem.W PySem.Calls PyProof.Rows
theorem look_gen {α β : Type} [BEq α] [LawfulBEq α] : ∀ {l : List (α × β)}, (l.map (·.1)).Nodup → ∀ {k : α} {v : β}, (k, v) ∈ l → l.lookup k = some v
  | [], _, _, _, h => nomatch h
  | (k', v') :: r, hn, k, v, h => by
    rw [List.map_cons, List.nodup_cons] at hn
    rw [List.lookup_cons]
    cases h with
    | head => simp
    | tail _ h =>
      have : (k == k') = false := by
        rw [beq_eq_false_iff_ne]; rintro rfl; exact hn.1 (List.mem_map.mpr ⟨_, h, rfl⟩)
      rw [this]; exact look_gen hn.2 h
theorem look_gnone {α β : Type} [BEq α] [LawfulBEq α] : ∀ {l : List (α × β)} {k : α}, k ∉ l.map (·.1) → l.lookup k = none
  | [], _, _ => rfl
  | (k', v') :: r, k, h => by
    rw [List.map_cons, List.mem_cons, not_or] at h
    rw [List.lookup_cons, beq_eq_false_iff_ne.mpr h.1]
    exact look_gnone h.2
theorem prs_nodup {S : Shf} (h : ShOk S) : (prs S).Nodup := by
  have h1 : ((prs S).map (·.1)).Nodup := by
    have e : (prs S).map (·.1) = numsP S := by unfold prs; rw [List.map_map]; exact List.map_id' _
    rw [e]; exact (sortI_perm _).nodup_iff.mpr h.keys
  exact (List.pairwise_map.mp h1).imp fun hab e => hab (by rw [e])
theorem nums_prs {S : Shf} : (numsP S).map V.int = (prs S).map fun q => V.int q.1 := by
  unfold prs; rw [List.map_map]; rfl
theorem erase_nodup {F : List Int} (h : F.Nodup) {i : Nat} {x : Int} (hx : F[i]? = some x) : (F.eraseIdx i).Nodup ∧ x ∉ F.eraseIdx i ∧ (F.eraseIdx i).length + 1 = F.length := by
  obtain ⟨hi, rfl⟩ := List.getElem?_eq_some_iff.mp hx
  refine ⟨h.sublist (List.eraseIdx_sublist ..), fun hm => ?_, by rw [List.length_eraseIdx, if_pos hi]; omega⟩
  have e : F.take i ++ F[i] :: F.drop (i + 1) = F := by rw [List.getElem_cons_drop, List.take_append_drop]
  rw [List.eraseIdx_eq_take_drop_succ] at hm
  rw [← e, List.nodup_append] at h
  rcases List.mem_append.mp hm with hm | hm
  · exact h.2.2 _ hm _ (.head _) rfl
  · exact (List.nodup_cons.mp h.2.1).1 hm
theorem erase_map {F : List Int} {i : Nat} : (F.map V.int).eraseIdx i = (F.eraseIdx i).map V.int := by
  rw [List.eraseIdx_eq_take_drop_succ, List.eraseIdx_eq_take_drop_succ, List.map_append, List.map_take, List.map_drop]
noncomputable def tauB (B : Tab) (q : PP) : PP := (B.lookup q).getD (0, 0)
structure TauB (S : Shf) (B : Tab) : Prop where
  keys : B.map (·.1) = prs S
  nd : (B.map (·.2.1)).Nodup
section
variable {S : Shf} {B : Tab}
theorem TauB.at (hS : ShOk S) (T : TauB S B) {x : PP × PP} (h : x ∈ B) : B.lookup x.1 = some x.2 := look_gen (by rw [T.keys]; exact prs_nodup hS) h
theorem TauB.tab (hS : ShOk S) (T : TauB S B) (p : PP) : tabT S (tauB B) p = B.lookup p := by
  unfold tabT
  split
  · rename_i ht
    have hm := prs_there.mpr ht
    rw [← T.keys] at hm
    obtain ⟨x, hx, rfl⟩ := List.mem_map.mp hm
    unfold tauB; rw [T.at hS hx]; rfl
  · rename_i ht
    rw [look_gnone]
    rw [T.keys, prs_there]; exact ht
theorem TauB.nodup (hS : ShOk S) (T : TauB S B) : ((prs S).map fun p => (tauB B p).1).Nodup := by
  have e : ((prs S).map fun p => (tauB B p).1) = B.map (·.2.1) := by
    rw [← T.keys, List.map_map]
    refine List.map_congr_left fun x hx => ?_
    show (tauB B x.1).1 = _
    unfold tauB; rw [T.at hS hx]; rfl
  rw [e]; exact T.nd
end
theorem ShM.other {μ : Mu} {p : Addr} {N : Int} {c : Nat} {a d t r : Addr} {S : Shf} {μ' : Mu} (M : ShM μ p N c a d t r S μ') {x : Addr} {y : Option Cell} (h1 : x ≠ a) (h2 : x ≠ d) (h3 : x ≠ t) (h4 : x ≠ r) (h5 : x ≠ p) (h6 : μ x = none) : ShM μ p N c a d t r S (fup μ' x y) := by
  refine ⟨?_, ?_, ?_, ?_, ?_, M.nn, fun b z hb e => ?_⟩
  · rw [fup_ne _ _ h1.symm]; exact M.ca
  · rw [fup_ne _ _ h2.symm]; exact M.cd
  · rw [fup_ne _ _ h3.symm]; exact M.ct
  · rw [fup_ne _ _ h4.symm]; exact M.cr
  · rw [fup_ne _ _ h5.symm]; exact M.pen
  · obtain ⟨k1, k2, k3, k4, k5⟩ := M.o b z hb e
    exact ⟨k1, k2, k3, k4, by rw [fup_ne _ _ (ne_of_some h6 e)]; exact k5⟩
inductive LtB (S : Shf) (μ : Mu) (p : Addr) (c : Nat) (a d t r fr tb : Addr) (rest : List PP) (μ' : Mu) : Prop
  | mk (B : Tab) (F : List Int) (N' : Int) (c' : Nat) (k1 : B.map (·.1) ++ rest = prs S) (k2 : (B.map (·.2.1)).Nodup) (k3 : F.Nodup) (k4 : ∀ x ∈ B, x.2.1 ∉ F) (k5 : F.length + B.length = 9) (c1 : c ≤ c') (c2 : c' = c + 2 * B.length)
      (g1 : μ' fr = some (.list (F.map V.int))) (g2 : μ' tb = some (.dP (B.map fun x => (pkey x.1, pairV x.2)))) (M : ShM μ p N' c' a d t r ⟨[], []⟩ μ')
inductive LtD (S : Shf) (B : Tab) (μ : Mu) (p : Addr) (N' : Int) (c' : Nat) (a d t r tb : Addr) (rest : List PP) (μ' : Mu) : Prop
  | mk (done : List PP) (j1 : done ++ rest = prs S) (j2 : μ' tb = some (.dP (B.map fun x => (pkey x.1, pairV x.2)))) (M : ShM μ p N' c' a d t r ⟨done.map fun p => ((tauB B p).1, (tauB B p).2, ren (tabT S (tauB B)) (cont S p)), []⟩ μ')
theorem c_law_turned {C : Cx} (hK : C.K = hd.heap_39 C.w.params) {p : Addr} {N : Int} {c : Nat} {n : Nat} {Φ : V → Mu → Prop} {μ : Mu} (hp : μ p = some (penC N c)) (hN : 0 ≤ N) (hc : c + 1000 ≤ 100000) {S : Shf} (hS : ShOk S) (hn : 12 ≤ n)
    (h : ∀ τ a d t r N' c' μ', ((prs S).map fun p => (τ p).1).Nodup → c ≤ c' → c' ≤ c + 18 → ShM μ p N' c' a d t r (turned S τ) μ' → Φ (.ref a) μ') : CallV C n (.ref 521) [.ref p, encS S] Φ μ := by
  refine' CallV.defK (m := 11) (names := ["pen", "shelf"]) hK ?h1 ?h2 ?h3 ?h4 ?h5 (by omega) ?h6
  case h1 => with_unfolding_all rfl
  case h2 => rfl
  case h3 => rfl
  case h4 => with_unfolding_all rfl
  case h5 => exact bind2 fun _ _ => (by with_unfolding_all rfl)
  case h6 =>
    intro L
    have hpl := prs_len (S := S)
    have hSl := hS.len
    refine Ws.cons <| Wx.assign <| We.call rfl (gllist hK) Callee.type <| Wes.cons' <| We.call rfl (glrange hK) Callee.type <| Wes.cons' <| We.int <| Wes.cons' <| We.int <| Wes.nil' <| CallV.range2 <| Wes.nil' ?_
    refine CallV.listRM (by decide) (by decide) (by decide) (by decide) (by decide) fun fr hfr => ?_
    have nfp := ne_of_some hfr hp
    refine Wa.nl rfl <| Ws.cons <| Wx.assign ?_
    refine We.dictM (c := .dP []) (fun Z => dkP.empty Z) ?_
    intro tb htb
    obtain ⟨nbf, htb'⟩ := fup_none htb
    have nbp := ne_of_some htb' hp
    refine Wa.nl rfl <| Ws.cons <| Wx.assign <| We.call rfl (glShelf hK) (ce373 hK) <| Wes.nil' ?_
    refine c_Shelf0 hK (by omega) fun a d t r μ1 ha hd' ht hr nad nta ntd nra nrd nrt M0 => ?_
    obtain ⟨nab, ha'⟩ := fup_none ha
    obtain ⟨naf, ha''⟩ := fup_none ha'
    obtain ⟨ndb, hd''⟩ := fup_none hd'
    obtain ⟨ndf, hd3⟩ := fup_none hd''
    obtain ⟨ntb, ht'⟩ := fup_none ht
    obtain ⟨ntf, ht''⟩ := fup_none ht'
    obtain ⟨nrb, hr'⟩ := fup_none hr
    obtain ⟨nrf, hr''⟩ := fup_none hr'
    have npa := ne_of_some ha'' hp
    have npd := ne_of_some hd3 hp
    have npt := ne_of_some ht'' hp
    have npr := ne_of_some hr'' hp
    have M1 : ShM μ p N c a d t r ⟨[], []⟩ μ1 := ⟨M0.ca, M0.cd, by rw [M0.o t nta ntd, fup_ne _ _ nrt.symm, fup_self]; rfl, by rw [M0.o r nra nrd, fup_self]; rfl,
      by rw [M0.o p npa npd, fup_ne _ _ npr, fup_ne _ _ npt, fup_ne _ _ nbp, fup_ne _ _ nfp]; exact hp, hN, fun b x hb e => by
        have b1 := ne_of_some ha'' e
        have b2 := ne_of_some hd3 e
        have b3 := ne_of_some ht'' e
        have b4 := ne_of_some hr'' e
        exact ⟨b1, b2, b3, b4, by rw [M0.o b b1 b2, fup_ne _ _ b4, fup_ne _ _ b3, fup_ne _ _ (ne_of_some htb' e), fup_ne _ _ (ne_of_some hfr e)]; exact e⟩⟩
    have f1 : μ1 fr = some (.list (([1, 2, 3, 4, 5, 6, 7, 8, 9] : List Int).map V.int)) := by rw [M0.o fr naf.symm ndf.symm, fup_ne _ _ nrf.symm, fup_ne _ _ ntf.symm, fup_ne _ _ nbf.symm, fup_self]; rfl
    have f2 : μ1 tb = some (.dP []) := by rw [M0.o tb nab.symm ndb.symm, fup_ne _ _ nrb.symm, fup_ne _ _ ntb.symm, fup_self]
    clear M0
    refine Wa.nl rfl <| Ws.cons ?_
    refine Wx.for ?_
    refine We.meth <| We.nl rfl rfl ?_
    refine ⟨.ref 358, GetM.inst (me373numbers hK) rfl, ce358 hK, ?_⟩
    refine Wes.nil' <| c_numbersS hK (by assumption) (lb rfl) ?_
    refine ⟨(numsP S).map V.int, fun _ => True, Itr.list, ?_⟩
    rw [nums_prs]
    refine ForL.invB (β := Unit) (fun _ => [("made", .ref a), ("table", .ref tb), ("free", .ref fr), ("pen", .ref p), ("shelf", encS S)])
      (fun _ rest μ' => LtB S μ p c a d t r fr tb rest μ') (fun _ _ _ _ => trivial) ?_ ?_ () ?_ ?_
    · rintro _ q rest μ' ⟨B, F, N', c', k1, k2, k3, k4, k5, c1, c2, g1, g2, M⟩
      have hq : q ∈ prs S := by rw [← k1]; simp
      have hBl : B.length + 1 + rest.length = (prs S).length := by rw [← k1, List.length_append, List.length_cons, List.length_map]; omega
      obtain ⟨u, hu⟩ := there_iff.mp (prs_there.mp hq)
      unfold encS
      refine Wa.nl rfl <| Ws.cons <| Wx.assign <| We.tuple <| Wes.cons' <| We.meth <| We.nl rfl rfl ?_
      refine ⟨.builtin "list.pop", GetM.lst g1 PySem.F.slot_list_pop PySem.F.type_list_pop, Callee.builtin, ?_⟩
      refine Wes.cons' <| We.call rfl (gllawdraw hK) (ce492 hK) <| Wes.cons' <| We.nl rfl rfl <| Wes.cons' <| We.call rfl (gllen hK) Callee.builtin <| Wes.cons' <| We.nl rfl rfl <| Wes.nil' ?_
      refine CallV.lenL (SeeL.m g1) (by rw [List.length_map]; omega) ?_
      rw [List.length_map]
      refine Wes.nil' ?_
      refine c_law_draw hK M.pen M.nn (by omega) ⟨by omega, by omega⟩ (by omega) fun i N2 i0 i1 hN2 => ?_
      have M2 := M.step (c' := c' + 1) hN2
      obtain ⟨x, hx⟩ : ∃ x, F[i.toNat]? = some x := ⟨F[i.toNat]'(by omega), List.getElem?_eq_getElem _⟩
      obtain ⟨e1, e2, e3⟩ := erase_nodup k3 hx
      refine Wes.nil' ?_
      refine CallV.popAt (x := .int x) (xs := F.map V.int) ((fup_ne _ _ nfp.symm).trans g1) i0 (by rw [List.getElem?_map, hx]; rfl) (by rw [List.length_map]; omega) ?_
      have M3 := M2.other (x := fr) (y := some (.list ((F.map V.int).eraseIdx i.toNat))) naf.symm ndf.symm ntf.symm nrf.symm nfp.symm hfr
      refine Wes.cons' <| We.call rfl (gllawdraw hK) (ce492 hK) <| Wes.cons' <| We.nl rfl rfl <| Wes.cons' <| We.int <| Wes.nil' ?_
      refine c_law_draw hK M3.pen M3.nn (by omega) ⟨by decide, by decide⟩ (by omega) fun g N3 g0 g3 hN3 => ?_
      have M4 := M3.step (c' := c' + 1 + 1) hN3
      refine Wes.nil' ⟨lb rfl, Wa.sub <| We.nl rfl rfl <| We.tuple <| Wes.cons' <| We.nl rfl rfl <| Wes.cons' <| We.sub <| We.sub <| We.attr <| We.nl rfl rfl <| AttV.inst (at373table hK) rfl <| We.nl rfl rfl ?_⟩
      refine SubV.dI SeeI.z (x := .tup [.int q.2, enc u]) (by rw [lk_encT, hu]; rfl) ?_
      refine We.int <| SubV.tup (by decide) rfl (by decide) <| Wes.nil' ⟨lb rfl, ?_⟩
      refine SetI.dP (k := pkey q) (kvs := B.map fun x => (pkey x.1, pairV x.2)) ((fup_ne _ _ nbp.symm).trans ((fup_ne _ _ nbf).trans ((fup_ne _ _ nbp.symm).trans g2))) (by rw [List.length_map]; omega) ?_
      refine Ws.nil ?_
      have hqB : q ∉ B.map (·.1) := fun hm => by
        have := prs_nodup hS
        rw [← k1, List.nodup_append] at this
        exact this.2.2 q hm q (.head _) rfl
      refine ⟨(), by exact Sub.cons rfl <| Sub.cons rfl <| Sub.cons rfl <| Sub.cons rfl <| Sub.cons rfl <| Sub.nil, B ++ [(q, (x, g))], F.eraseIdx i.toNat, N3, c' + 1 + 1, by rw [map_snoc, List.append_assoc]; exact k1, ?_, e1, ?_, by rw [List.length_append]; have : [(q, (x, g))].length = 1 := rfl; omega, by omega, by rw [List.length_append]; have : [(q, (x, g))].length = 1 := rfl; omega, ?_, ?_, M4.other nab.symm ndb.symm ntb.symm nrb.symm nbp.symm htb'⟩
      · rw [map_snoc]
        refine List.nodup_append.mpr ⟨k2, List.nodup_cons.mpr ⟨List.not_mem_nil, List.nodup_nil⟩, fun y hy z hz e => ?_⟩
        obtain ⟨b, hb, rfl⟩ := List.mem_map.mp hy
        rw [List.mem_singleton] at hz
        refine k4 b hb ?_
        rw [e, hz]
        exact List.mem_of_getElem? hx
      · intro y hy
        rcases List.mem_append.mp hy with hy | hy
        · exact fun hm => k4 y hy (List.mem_of_mem_eraseIdx hm)
        · rw [List.mem_singleton.mp hy]; exact e2
      · rw [fup_ne _ _ nbf.symm, fup_ne _ _ nfp.symm, fup_self, erase_map]
      · rw [fup_self, putK_new, map_snoc]
        rw [lk_pkey (X := B) (f := fun x => x.1) (g := fun x => pairV x.2)]
        exact decide_eq_false hqB
    · rintro _ l2 μ2 hsub ⟨B, F, N', c', k1, k2, _, _, k5, c1, c2, g1, g2, M⟩
      rw [List.append_nil] at k1
      have T : TauB S B := ⟨k1, k2⟩
      have hT : ∀ p, lk (B.map fun x => (pkey x.1, pairV x.2)) (pkey p) = (tabT S (tauB B) p).map pairV := fun p => by rw [lk_tab, T.tab hS]
      refine Ws.weak hsub ?_
      refine Ws.cons ?_
      refine Wx.for ?_
      refine We.meth <| We.nl rfl rfl ?_
      refine ⟨.ref 358, GetM.inst (me373numbers hK) rfl, ce358 hK, ?_⟩
      refine Wes.nil' <| c_numbersS hK (by assumption) (lb rfl) ?_
      refine ⟨(numsP S).map V.int, fun _ => True, Itr.list, ?_⟩
      rw [nums_prs]
      refine ForL.invB (β := Unit) (fun _ => [("made", .ref a), ("table", .ref tb), ("free", .ref fr), ("pen", .ref p), ("shelf", encS S)])
        (fun _ rest μ' => LtD S B μ p N' c' a d t r tb rest μ') (fun _ _ _ _ => trivial) ?_ ?_ () ?_ ?_
      · rintro _ q rest μ' ⟨done, j1, j2, M⟩
        have hq : q ∈ prs S := by rw [← j1]; simp
        have hdl : done.length + 1 + rest.length = (prs S).length := by rw [← j1, List.length_append, List.length_cons]; omega
        obtain ⟨u, hu⟩ := there_iff.mp (prs_there.mp hq)
        have hlk : B.lookup q = some (tauB B q) := by rw [← T.tab hS]; unfold tabT; rw [if_pos (prs_there.mp hq)]
        have hc : cont S q = u := by unfold cont; rw [hu]
        unfold encS
        refine Wa.nl rfl <| Ws.cons <| Wx.assign <| We.sub <| We.nl rfl rfl <| We.tuple <| Wes.cons' <| We.nl rfl rfl <| Wes.cons' <| We.sub <| We.sub <| We.attr <| We.nl rfl rfl <| AttV.inst (at373table hK) rfl <| We.nl rfl rfl ?_
        refine SubV.dI SeeI.z (x := .tup [.int q.2, enc u]) (by rw [lk_encT, hu]; rfl) ?_
        refine We.int <| SubV.tup (by decide) rfl (by decide) <| Wes.nil' ⟨lb rfl, ?_⟩
        refine SubV.dP (k := pkey q) (x := pairV (tauB B q)) (SeeP.m j2) (by rw [lk_tab, hlk]; rfl) ?_
        refine Wa.tuple rfl rfl <| WaL.cons' <| Wa.nl rfl <| WaL.cons' <| Wa.nl rfl <| WaL.nil' <| Ws.cons <| Wx.expr <| We.meth <| We.nl rfl rfl ?_
        refine ⟨.ref 337, GetM.ref M.ca M.cd (me373put hK) rfl, ce337 hK, ?_⟩
        refine Wes.cons' <| We.nl rfl rfl <| Wes.cons' <| We.nl rfl rfl <| Wes.cons' <| We.call rfl (glrenumbered hK) (ce287 hK) <| Wes.cons' <| We.sub <| We.sub <| We.attr <| We.nl rfl rfl <| AttV.inst (at373table hK) rfl <| We.nl rfl rfl ?_
        refine SubV.dI SeeI.z (x := .tup [.int q.2, enc u]) (by rw [lk_encT, hu]; rfl) ?_
        refine We.int <| SubV.tup (by decide) rfl (by decide) <| Wes.cons' <| We.nl rfl rfl <| Wes.nil' ?_
        rw [← hc]
        refine (c_renumbered hK hT (SeeP.m j2) 2 (ok_cont hS q)).1 (by omega) ?_
        refine Wes.nil' ?_
        refine c_put hK M.ca M.cd rfl M.ct (by rw [encT_len, List.length_map]; omega) (by omega) ?_
        have hnew : (tauB B q).1 ∉ (done.map fun p => ((tauB B p).1, (tauB B p).2, ren (tabT S (tauB B)) (cont S p))).map (·.1) := fun hm => by
          have h9 := T.nodup hS
          rw [← j1, List.map_append, List.nodup_append] at h9
          rw [List.map_map] at hm
          exact h9.2.2 _ hm _ (.head _) rfl
        rw [encT_put (r := ((tauB B q).1, (tauB B q).2, ren (tabT S (tauB B)) (cont S q))) hnew]
        refine Ws.nil ?_
        have htt : tb ≠ t := ntb.symm
        refine ⟨(), by exact Sub.cons rfl <| Sub.cons rfl <| Sub.cons rfl <| Sub.cons rfl <| Sub.cons rfl <| Sub.nil, done ++ [q], by rw [List.append_assoc]; exact j1, (fup_ne _ _ htt).trans j2, ?_⟩
        rw [map_snoc]
        exact M.tabset
      · rintro _ l3 μ3 hsub3 ⟨done, j1, j2, M⟩
        rw [List.append_nil] at j1
        subst j1
        refine Ws.weak hsub3 ?_
        unfold encS
        refine Ws.cons <| Wx.assign <| We.call rfl (glrenumbered hK) (ce287 hK) <| Wes.cons' <| We.attr <| We.nl rfl rfl <| AttV.inst (at373trailer hK) rfl <| Wes.cons' <| We.nl rfl rfl <| Wes.nil' ?_
        refine (c_renumbered hK hT (SeeP.m j2) 3 (v := .dict S.tr) hS.tr).2 rfl (by omega) fun r' hr' => ?_
        refine Wa.attr <| We.nl rfl rfl ?_
        have M5 := M.trnew (tr := renk (tabT S (tauB B)) S.tr) hr'
        have n1 := ne_of_some hr' M.cd
        have n2 := ne_of_some hr' M.ca
        refine SetA.cell (d := d) (fs := [(Str.ofString "table", .ref t), (Str.ofString "trailer", .ref r)]) ((fup_ne _ _ n2).trans M.ca) ((fup_ne _ _ n1).trans M.cd) (se373trailer hK) (by simp) ?_
        refine Ws.cons <| Wx.ret <| We.nl rfl rfl ?_
        have hlB : B.length = (prs S).length := by rw [← k1, List.length_map]
        exact h (tauB B) a d t r' N' c' _ (T.nodup hS) c1 (by omega) M5
      · exact Sub.cons rfl <| Sub.cons rfl <| Sub.cons rfl <| Sub.cons rfl <| Sub.cons rfl <| Sub.nil
      · exact ⟨[], rfl, g2, M⟩
    · exact Sub.cons rfl <| Sub.cons rfl <| Sub.cons rfl <| Sub.cons rfl <| Sub.cons rfl <| Sub.nil
    · exact ⟨[], _, N, c, rfl, List.nodup_nil, (by decide), (fun _ h => nomatch h), rfl, by omega, rfl, f1, f2, M1⟩
end
section
open PySem PySem.W PySem.Calls PyProof.Rows
theorem ShM.base {μ : Mu} {p : Addr} {N : Int} {c : Nat} {a d t r : Addr} {S : Shf} {μ' : Mu} {y : Option Cell} (M : ShM (fup μ p y) p N c a d t r S μ') : ShM μ p N c a d t r S μ' :=
  ⟨M.ca, M.cd, M.ct, M.cr, M.pen, M.nn, fun b x hb e => M.o b x hb ((fup_ne _ _ hb).trans e)⟩
theorem putA_len_mem {κ β : Type} [DecidableEq κ] {kvs : List (κ × β)} {k : κ} {x : β} (h : k ∈ kvs.map (·.1)) : (putA kvs k x).length = kvs.length := by
  obtain ⟨q, hq, rfl⟩ := List.mem_map.mp h
  unfold putA
  rw [if_pos (by rw [List.any_eq_true]; exact ⟨q, hq, by simp⟩), List.length_map]
theorem sh_put {T : Shf} (h : ShOk T) {k g : Int} {v : Val} (hk : k ∈ T.tab.map (·.1)) (hv : ok 1 v) : ShOk ⟨putA T.tab k (g, v), T.tr⟩ :=
  ⟨putA_nodup h.keys, by show (putA T.tab k (g, v)).length ≤ 9; rw [putA_len_mem hk]; exact h.len, fun r hr => by
    rcases mem_putA hr with hr | rfl
    · exact h.vals r hr
    · exact ok_mono hv, h.tr⟩
theorem sh_info {T : Shf} (h : ShOk T) {k : Str} {v : Val} (hl : T.tr.length ≤ 4) (hv : ok 1 v) : ShOk ⟨T.tab, putA T.tr k v⟩ :=
  ⟨h.keys, h.len, h.vals, Nat.le_trans putA_len (by omega), putA_nodup h.tr.2.1, fun q hq => by
    rcases mem_putA hq with hq | rfl
    · exact h.tr.2.2 q hq
    · exact ok_mono hv⟩
theorem nums_shM {C : Cx} (hK : C.K = hd.heap_39 C.w.params) {μ : Mu} {p : Addr} {N : Int} {c : Nat} {a d t r : Addr} {S : Shf} {μ' : Mu} (M : ShM μ p N c a d t r S μ') (hS : ShOk S) {n : Nat} {Φ : V → Mu → Prop} (hn : 1 ≤ n)
    (h : Φ (.list ((numsP S).map V.int)) μ') : CallV C n (.ref 358) [.ref a] Φ μ' := by
  refine c_numbers hK (kvs := encT S.tab) (fun m Ψ hΨ => AttV.ref M.ca M.cd (at373table hK) rfl (hΨ _ (SeeI.m M.ct))) (by rw [encT_len]; have := hS.len; omega) hn ?_
  rw [encT_keys]
  exact h
inductive L2A (p : Addr) (μ : Mu) (c : Nat) (v : V) (μ' : Mu) : Prop
  | inl (T : Shf) (N' : Int) (c' : Nat) (e : v = encS T) (h1 : ShOk T) (h2 : c ≤ c') (h3 : c' ≤ c + 1500) (I : PenI p μ N' c' μ')
  | inr (a d t r : Addr) (T : Shf) (N' : Int) (c' : Nat) (e : v = .ref a) (h1 : ShOk T) (h2 : c ≤ c') (h3 : c' ≤ c + 1500) (M : ShM μ p N' c' a d t r T μ')
theorem c_law_second {C : Cx} (hK : C.K = hd.heap_39 C.w.params) {p : Addr} {N : Int} {c : Nat} {n : Nat} {Φ : V → Mu → Prop} {μ : Mu} (hp : μ p = some (penC N c)) (hN : 0 ≤ N) (hc : c + 2000 ≤ 100000) {S : Shf} (hS : ShOk S) (hl : S.tr.length ≤ 4) (hn : 13 ≤ n)
    (h : ∀ T N' c', ShOk T → 0 ≤ N' → c ≤ c' → c' ≤ c + 1500 → Φ (encS T) (fup μ p (some (penC N' c')))) : CallV C n (.ref 528) [.ref p, encS S] Φ μ := by
  refine CallV.ghost (Φ := L2A p μ c) ?_ ?_
  rotate_left
  · rintro v μ' (⟨T, N', c', rfl, h1, h2, h3, I⟩ | ⟨a, d, t, r, T, N', c', rfl, h1, h2, h3, M⟩)
    · exact ⟨_, _, I.gh, h T N' c' h1 I.nn h2 h3⟩
    · exact ⟨_, _, M.gh, h T N' c' h1 M.nn h2 h3⟩
  have hb1 : bnd 1 = 15 := rfl
  refine' CallV.defK (m := 12) (names := ["pen", "shelf"]) hK ?h1 ?h2 ?h3 ?h4 ?h5 (by omega) ?h6
  case h1 => with_unfolding_all rfl
  case h2 => rfl
  case h3 => rfl
  case h4 => with_unfolding_all rfl
  case h5 => exact bind2 fun _ _ => (by with_unfolding_all rfl)
  case h6 =>
    intro L
    refine Ws.cons <| Wx.assign <| We.call rfl (gllawdraw hK) (ce492 hK) <| Wes.cons' <| We.nl rfl rfl <| Wes.cons' <| We.int <| Wes.nil' ?_
    refine c_law_draw hK hp hN (by omega) ⟨by decide, by decide⟩ (by omega) fun g N1 g0 g1 hN1 => ?_
    have I1 : PenI p μ N1 (c + 1) (fup μ p (some (penC N1 (c + 1)))) := ⟨fup_self .., hN1, fun b x hb e => (fup_ne _ _ hb).trans e⟩
    refine Wa.nl rfl <| Ws.cons <| Wx.ite <| Wt.cmp <| We.nl rfl rfl <| We.int <| CmpV.eqI ⟨_, rfl, ?_⟩
    refine ite_b (fun w3 => ?_) fun w3 => ?_
    · skip
      refine Ws.cons <| Wx.ret <| We.call rfl (gllawshelf hK) (ce504 hK) <| Wes.cons' <| We.nl rfl rfl <| Wes.nil' ?_
      refine c_law_shelf hK I1.pen hN1 (by omega) (by omega) fun T N2 c2 hT hN2 c3 c4 => ?_
      exact L2A.inl T N2 c2 rfl hT.ok (by omega) (by omega) (I1.step hN2)
    refine Ws.nil <| Ws.cons <| Wx.assign <| We.call rfl (gllawturned hK) (ce521 hK) <| Wes.cons' <| We.nl rfl rfl <| Wes.cons' <| We.nl rfl rfl <| Wes.nil' ?_
    refine c_law_turned hK I1.pen hN1 (by omega) hS (by omega) fun τ a d t r N2 c2 μ2 hτ c3 c4 M2 => ?_
    have M := M2.base
    have hT := turned_ok hS hτ
    have hTl : (turned S τ).tr.length ≤ 4 := Nat.le_trans (renk_len _) hl
    generalize turned S τ = T at M hT hTl
    clear M2 hτ
    have hTlen := hT.len
    have hnl : (numsP T).length = T.tab.length := numsP_len
    refine Wa.nl rfl <| Ws.cons <| Wx.ite <| Wt.boolop <| Wall.cons' <| Wt.cmp <| We.nl rfl rfl <| We.int <| CmpV.eqI ⟨_, rfl, ?_⟩
    by_cases w1 : g = 1
    · subst w1
      refine Wall.cons' ?_
      refine Wt.cmp <| We.meth <| We.nl rfl rfl ?_
      refine ⟨.ref 358, GetM.ref M.ca M.cd (me373numbers hK) rfl, ce358 hK, ?_⟩
      refine Wes.nil' ?_
      refine nums_shM hK M hT (by omega) ?_
      refine We.listZ ?_
      refine Wes.nil' ⟨lb rfl, ?_⟩
      refine CmpV.neL (k := 0) SeeL.z SeeL.z (fun i x y _ hy => by simp at hy) (by omega) ⟨_, rfl, ?_⟩
      rw [veqs_nil_of, List.isEmpty_map]
      cases hne : (numsP T).isEmpty with
      | true =>
        refine Ws.nil <| Ws.cons <| Wx.ite <| Wt.cmp <| We.nl rfl rfl <| We.int <| CmpV.eqI ⟨_, rfl, ite_f rfl <| Ws.nil <| Ws.cons <| Wx.ret <| We.nl rfl rfl ?_⟩
        exact L2A.inr a d t r T N2 c2 rfl hT (by omega) (by omega) M
      | false =>
        have hpos : 0 < T.tab.length := by rw [← hnl]; cases hx : numsP T with
          | nil => rw [hx] at hne; cases hne
          | cons => simp
        refine Ws.cons <| Wx.assign <| We.sub <| We.meth <| We.nl rfl rfl ?_
        refine ⟨.ref 358, GetM.ref M.ca M.cd (me373numbers hK) rfl, ce358 hK, ?_⟩
        refine Wes.nil' ?_
        refine nums_shM hK M hT (by omega) ?_
        refine We.call rfl (gllawdraw hK) (ce492 hK) <| Wes.cons' <| We.nl rfl rfl <| Wes.cons' <| We.call rfl (gllen hK) Callee.builtin <| Wes.cons' <| We.attr <| We.nl rfl rfl ?_
        refine AttV.ref M.ca M.cd (at373table hK) rfl ?_
        refine Wes.nil' ?_
        refine CallV.lenI (SeeI.m M.ct) (by rw [encT_len]; omega) ?_
        rw [encT_len]
        refine Wes.nil' ?_
        refine c_law_draw hK M.pen M.nn (by omega) ⟨by omega, by omega⟩ (by omega) fun i N3 i0 i1 hN3 => ?_
        have M3 := M.step (c' := c2 + 1) hN3
        obtain ⟨k, hk⟩ : ∃ k, (numsP T)[i.toNat]? = some k := ⟨(numsP T)[i.toNat]'(by omega), List.getElem?_eq_getElem _⟩
        have hkm : k ∈ T.tab.map (·.1) := nums_mem.mp (List.mem_of_getElem? hk)
        obtain ⟨u, hu⟩ := look_some hkm
        refine SubV.list (x := .int k) i0 (by rw [List.getElem?_map, hk]; rfl) (by omega) ?_
        refine Wa.nl rfl <| Ws.cons <| Wx.expr <| We.meth <| We.nl rfl rfl ?_
        refine ⟨.ref 337, GetM.ref M3.ca M3.cd (me373put hK) rfl, ce337 hK, ?_⟩
        refine Wes.cons' <| We.nl rfl rfl <| Wes.cons' <| We.sub <| We.sub <| We.attr <| We.nl rfl rfl ?_
        refine AttV.ref M3.ca M3.cd (at373table hK) rfl ?_
        refine We.nl rfl rfl ?_
        refine SubV.dI (SeeI.m M3.ct) (x := .tup [.int u.1, enc u.2]) (by rw [lk_encT, hu]; rfl) ?_
        refine We.int <| SubV.tup (by decide) rfl (by decide) <| Wes.cons' <| We.call rfl (gllawvalue hK) (ce497 hK) <| Wes.cons' <| We.nl rfl rfl <| Wes.cons' <| We.int <| Wes.nil' ?_
        refine c_law_value hK 1 (by omega) M3.pen M3.nn (by omega) (by omega) fun v N4 c5 hv hN4 c6 c7 => ?_
        have M4 := M3.step (c' := c5) hN4
        refine Wes.nil' ?_
        refine c_put hK M4.ca M4.cd rfl M4.ct (by rw [encT_len]; omega) (by omega) ?_
        rw [encT_putA]
        refine Ws.nil <| Ws.cons <| Wx.ite <| Wt.cmp <| We.nl rfl rfl <| We.int <| CmpV.eqI ⟨_, rfl, ite_f rfl <| Ws.nil <| Ws.cons <| Wx.ret <| We.nl rfl rfl ?_⟩
        exact L2A.inr a d t r _ N4 c5 rfl (sh_put hT hkm hv) (by omega) (by omega) M4.tabset
    · rw [show (g == 1) = false by simpa using w1]
      refine ite_f rfl <| Ws.nil <| Ws.cons <| Wx.ite <| Wt.cmp <| We.nl rfl rfl <| We.int <| CmpV.eqI ⟨_, rfl, ?_⟩
      refine ite_b (fun w2 => ?_) fun w2 => ?_
      · skip
        refine Ws.cons <| Wx.assign <| We.call rfl (gllawvalue hK) (ce497 hK) <| Wes.cons' <| We.nl rfl rfl <| Wes.cons' <| We.int <| Wes.nil' ?_
        refine c_law_value hK 1 (by omega) M.pen M.nn (by omega) (by omega) fun v N4 c5 hv hN4 c6 c7 => ?_
        have M4 := M.step (c' := c5) hN4
        refine Wa.sub <| We.attr <| We.nl rfl rfl ?_
        refine AttV.ref M4.ca M4.cd (at373trailer hK) rfl ?_
        refine We.str ?_
        refine SetI.dS M4.cr (by rw [enck_len]; omega) ?_
        rw [enck_put]
        refine Ws.nil <| Ws.cons <| Wx.ret <| We.nl rfl rfl ?_
        exact L2A.inr a d t r _ N4 c5 rfl (sh_info hT hTl hv) (by omega) (by omega) M4.trset
      · skip
        refine Ws.nil <| Ws.cons <| Wx.ret <| We.nl rfl rfl ?_
        exact L2A.inr a d t r T N2 c2 rfl hT (by omega) (by omega) M
end
section
open PySem PySem.W PySem.Calls PyProof.Rows
theorem c_law_turnedZ {C : Cx} (hK : C.K = hd.heap_39 C.w.params) {p : Addr} {N : Int} {c : Nat} {n : Nat} {Φ : V → Mu → Prop} {μ : Mu} (hp : μ p = some (penC N c)) (hN : 0 ≤ N) (hc : c + 1000 ≤ 100000) {S : Shf} (hS : ShOk S) (hn : 12 ≤ n)
    (h : ∀ τ N' c', ((prs S).map fun p => (τ p).1).Nodup → Φ (encS (turned S τ)) (fup μ p (some (penC N' c')))) : CallV C n (.ref 521) [.ref p, encS S] Φ μ :=
  CallV.ghost (Φ := fun v μ' => ∃ τ a d t r N' c', v = .ref a ∧ ((prs S).map fun p => (τ p).1).Nodup ∧ ShM μ p N' c' a d t r (turned S τ) μ')
    (c_law_turned hK hp hN hc hS hn fun τ a d t r N' c' μ' hτ _ _ M => ⟨τ, a, d, t, r, N', c', rfl, hτ, M⟩)
    fun v μ' ⟨τ, a, d, t, r, N', c', e, hτ, M⟩ => ⟨_, _, e ▸ M.gh, h τ N' c' hτ⟩
theorem CmpV.neSelf {C : Cx} {n : Nat} {μ : Mu} {k : Nat} {x : V} {Φ : V → Mu → Prop} (hx : UA k x) (hk : k ≤ 900) (ht : ∃ s r, x = .tup (.str s :: r)) (h : Φ (.bool false) μ) : CmpV C n .NotEq x x Φ μ := by
  obtain ⟨s, r, rfl⟩ := ht
  cases hx with
  | atom h => cases h
  | @tup m _ hh =>
    refine CmpV.neT (k := m) (fun i a b ha hb => ?_) (by omega) ?_
    · rw [ha] at hb; cases hb; exact (hh a (List.mem_of_getElem? ha)).cmp
    · rw [veqs_self fun a ha => (hh a ha).veq]; exact h
theorem bare_plain {S : Shf} (h : LSh S) : S.tr.filter (fun p => !inSizes p.1) = plain S := by
  unfold plain
  refine List.filter_congr fun p hp => ?_
  have hx := h.nx p hp
  unfold inSizes sizeKeys places
  simp only [List.any_cons, List.any_nil, Bool.or_false]
  rw [show (Str.ofString "XRefStm" == p.1) = false from beq_eq_false_iff_ne.mpr hx.symm, Bool.or_false]
theorem rng_nums {S : Shf} : rngV 1 (((ordP S).length : Int) + 1) = (numsP (compact S)).map V.int := by
  rw [compact_nums, List.map_map]
  unfold rngV
  rw [show ((((ordP S).length : Int) + 1) - 1).toNat = (ordP S).length by omega]
  refine List.map_congr_left fun i _ => ?_
  show V.int _ = V.int _
  rw [Int.add_comm]
theorem unreached_compact {S : Shf} (h : ShOk S) : unreachedP (compact S) = [] := by
  unfold unreachedP
  rw [List.filter_eq_nil_iff]
  intro k hk
  rw [compact_nums, ← fr_nums] at hk
  obtain ⟨p, hp, rfl⟩ := List.mem_map.mp hk
  rw [compact_ord h, Bool.not_eq_true', Bool.not_eq_false, List.any_eq_true]
  exact ⟨(fr S p).1, List.mem_map.mpr ⟨fr S p, List.mem_map.mpr ⟨p, hp, rfl⟩, rfl⟩, by simp⟩
theorem compact_gens {S : Shf} {r : Int × Int × Val} (h : r ∈ (compact S).tab) : r.2.1 = 0 := by
  unfold compact at h
  obtain ⟨p, _, rfl⟩ := List.mem_map.mp h
  rfl
theorem compact_nokey {S : Shf} {k : Str} (hk : places.any (· == k) = true) : (lk (enck (compact S).tr) k).isSome = false := by
  rw [lk_enck, Option.isSome_map]
  have : (compact S).tr.lookup k = none := by
    refine look_gnone fun hm => ?_
    obtain ⟨q, hq, rfl⟩ := List.mem_map.mp hm
    obtain ⟨q', hq', rfl⟩ := mem_renk hq
    have := (List.mem_filter.mp hq').2
    simp only [Bool.not_eq_true'] at this
    rw [this] at hk; cases hk
  rw [this]; rfl
theorem alike_veq {S T : Shf} (hS : ShOk S) (hT : ShOk T) : alikeP S T = veq (toldS (compact S)) (toldS (compact T)) := by
  rw [Bool.eq_iff_iff, alikeP_told hS hT, (toldS_TA (compact_ok hS)).veq (toldS_TA (compact_ok hT))]
theorem alike_veq' {S T : Shf} (hS : ShOk S) (hT : ShOk T) : alikeP T S = veq (toldS (compact S)) (toldS (compact T)) := by
  rw [Bool.eq_iff_iff, alikeP_told hT hS, (toldS_TA (compact_ok hS)).veq (toldS_TA (compact_ok hT))]
  exact eq_comm
theorem alike_compact {S : Shf} (hS : ShOk S) : alikeP S (compact S) = true := (alikeP_told hS (compact_ok hS)).mpr (toldS_twice hS).symm
theorem alike_self {S : Shf} (hS : ShOk S) : alikeP S S = true := (alikeP_told hS hS).mpr rfl
theorem alike_turned {S : Shf} (hS : ShOk S) {τ : PP → PP} (hτ : ((prs S).map fun p => (τ p).1).Nodup) : alikeP S (turned S τ) = true := (alikeP_iff hS (turned_ok hS hτ)).mpr ⟨_, bis_turned hS hτ⟩
theorem veq_toldS {S : Shf} (h : ShOk S) : veq (toldS S) (toldS S) = true := ((toldS_TA h).veq (toldS_TA h)).mpr rfl
theorem cmp_toldS {S T : Shf} (hS : ShOk S) (hT : ShOk T) : Cmp 14 (toldS S) (toldS T) := (toldS_TA hS).cmp (toldS_TA hT)
theorem veqs_refl_ints {xs : List Int} : veqs (xs.map V.int) (xs.map V.int) = true := by rw [veqs_ints]; exact decide_eq_true rfl
end
section
open PySem PySem.W PySem.Calls PyProof.Rows
theorem c_law {C : Cx} (hK : C.K = hd.heap_39 C.w.params) {ks : List Int} (hz : ks.length ≤ 63) {n : Nat} {μ : Mu} (hn : 60 ≤ n) : CallV C n (.ref 533) [.list (ks.map V.int)] (fun v _ => v = .bool true) μ := by
  refine' CallV.defK (m := 59) (names := ["script"]) hK ?h1 ?h2 ?h3 ?h4 ?h5 (by omega) ?h6
  case h1 => with_unfolding_all rfl
  case h2 => rfl
  case h3 => rfl
  case h4 => with_unfolding_all rfl
  case h5 => exact bind1 fun _ => (by with_unfolding_all rfl)
  case h6 =>
    intro L
    refine Ws.cons <| Wx.assign <| We.call rfl (gllawpen hK) (ce485 hK) <| Wes.cons' <| We.nl rfl rfl <| Wes.nil' ?_
    refine c_law_pen hK hz (by omega) fun p N0 hp0 hN0 => ?_
    have hp := fup_self μ p (some (penC N0 0))
    generalize fup μ p (some (penC N0 0)) = μ1 at hp
    refine Wa.nl rfl <| Ws.cons <| Wx.assign <| We.call rfl (gllawshelf hK) (ce504 hK) <| Wes.cons' <| We.nl rfl rfl <| Wes.nil' ?_
    refine c_law_shelf hK hp hN0 (by omega) (by omega) fun S N1 c1 hS hN1 _ hc1 => ?_
    have hp' := fup_self μ1 p (some (penC N1 c1))
    generalize fup μ1 p (some (penC N1 c1)) = μ2 at hp'
    clear hp
    have hO := hS.ok
    refine Wa.nc rfl <| Ws.cons <| Wx.assign <| We.meth <| We.nc rfl rfl ?_
    refine ⟨.ref 370, GetM.inst (me373told hK) rfl, ce370 hK, ?_⟩
    refine Wes.nil' ?_
    refine c_toldS hK hO (by omega) ?_
    refine Wa.nl rfl ?_
    have hlk : ∀ p ∈ S.tr, lk (enck S.tr) p.1 = some (enc p.2) := fun p hp => by rw [lk_getK (List.mem_map.mpr ⟨p, hp, rfl⟩), getK_of_mem hO.tr.2.1 hp]
    refine Ws.cons (Wx.assign (We.ghost (Φ := fun v μ' => ∃ a, v = .ref a ∧ μ2 a = none ∧ μ' = fup μ2 a (some (.dS (enck (plain S))))) ?_ ?_))
    · refine We.call rfl (gldict hK) Callee.type <| Wes.cons' <| We.comp (by with_unfolding_all rfl) ?_; refine We.attr <| We.nc rfl rfl <| AttV.inst (at373trailer hK) rfl ?_
      refine ⟨S.tr.map fun p => V.str p.1, fun _ => True, Itr.encD, by rw [List.length_map]; have := hO.tr.1; omega,
          fun Cl => CompL.filt (p := fun p => !inSizes p.1) (f := fun p => V.tup [.str p.1, enc p.2]) trivial (fun p hp Ψ hΨ => ?_) (fun p hp hq Ψ hΨ => ?_) ?_⟩
      · refine Wt.cmp <| We.nl rfl rfl <| We.tuple <| Wes.cons' <| We.str <| Wes.cons' <| We.str <| Wes.nil' ⟨lb rfl, ?_⟩
        refine CmpV.notInT (ks := sizeKeys) ⟨_, rfl, ?_⟩
        exact hΨ
      · refine We.tuple <| Wes.cons' <| We.nl rfl rfl <| Wes.cons' <| We.sub <| We.attr <| We.nc rfl rfl <| AttV.inst (at373trailer hK) rfl <| We.nl rfl rfl ?_
        refine SubV.dS (kvs := enck S.tr) SeeS.z (hlk p hp) ?_
        refine Wes.nil' ⟨lb rfl, ?_⟩
        exact hΨ
      · have e : ((S.tr.filter fun p => !inSizes p.1).map fun p => V.tup [.str p.1, enc p.2]) = (enck (plain S)).map fun p => V.tup [.str p.1, p.2] := by rw [enck_eq, List.map_map, bare_plain hS]; rfl
        rw [List.nil_append, e]
        refine Wes.nil' ?_
        refine CallV.dictL dkS (n := 58) (by rw [enck_len]; have := plain_len (S := S); have := hO.tr.1; omega) fun a ha => ?_
        rw [dictOfL_nodup (by rw [enck_keys]; exact (ok_plain hO).2.1)]
        exact ⟨a, rfl, ha, rfl⟩
    rintro v μ' ⟨a, rfl, ha, rfl⟩
    refine ⟨_, _, Gh.cell (fup_self ..) .dS, ?_⟩
    rw [fup_fup, fup_same ha]
    clear ha a
    refine Wa.nl rfl <| Ws.cons <| Wx.assign <| We.call rfl (gllawflood hK) (ce514 hK) <| Wes.cons' <| We.nc rfl rfl <| Wes.cons' <| We.nl rfl rfl <| Wes.nil' ?_
    refine c_law_flood hK hO (v := .dict (plain S)) (ok_plain hO) (by omega) ?_
    rw [show walkP S (.dict (plain S)) = ordP S from rfl]
    have hol := ord_len hO
    have hnl : (numsP S).length ≤ 9 := by rw [numsP_len]; exact hO.len
    refine Wa.nc rfl <| Ws.cons <| Wx.ite <| Wt.boolop <| Wall.cons' <| Wt.cmp <| We.call rfl (glreached hK) (ce405 hK) <| Wes.cons' <| We.nc rfl rfl <| Wes.cons' <| We.nl rfl rfl <| Wes.nil' ?_
    refine c_reached hK hO (v := .dict (plain S)) (ok_plain hO) (by omega) ?_
    refine We.call rfl (glsorted hK) Callee.builtin <| Wes.cons' <| We.nc rfl rfl <| Wes.nil' ?_
    refine CallV.sortedL SeeL.z (by rw [List.length_map]; omega) ?_
    rw [show walkP S (.dict (plain S)) = ordP S from rfl]
    refine CmpV.neL SeeL.z SeeL.z cmp_ints (by omega) ⟨_, rfl, ?_⟩
    rw [veqs_refl_ints]
    refine Wall.cons' <| Wt.cmp <| We.call rfl (glunreached hK) (ce410 hK) <| Wes.cons' <| We.nc rfl rfl <| Wes.nil' ?_
    refine c_unreached hK hO (by omega) ?_
    refine We.comp (by with_unfolding_all rfl) ?_; refine We.meth <| We.nc rfl rfl ?_
    refine ⟨.ref 358, GetM.inst (me373numbers hK) rfl, ce358 hK, ?_⟩
    refine Wes.nil' <| c_numbersS hK (by assumption) (lb rfl) ?_
    refine ⟨(numsP S).map V.int, fun _ => True, Itr.list, by rw [List.length_map]; omega, fun Cl => CompL.filt (p := fun k => !((ordP S).map (·.1)).any (· == k)) (f := V.int) trivial (fun k hk Ψ hΨ => ?_) (fun k hk hp Ψ hΨ => ?_) ?_⟩
    · refine Wt.cmp <| We.nl rfl rfl <| We.nc rfl rfl ?_
      refine CmpV.notInL (ks := (ordP S).map (·.1)) SeeL.z ⟨_, rfl, hΨ⟩
    · refine We.nl rfl rfl ?_
      exact hΨ
    rw [List.nil_append, show ((numsP S).filter fun k => !((ordP S).map (·.1)).any (· == k)) = unreachedP S from rfl]
    refine CmpV.neL SeeL.z SeeL.z cmp_ints (by omega) ⟨_, rfl, ?_⟩
    rw [veqs_refl_ints]
    refine Ws.nil <| Ws.cons <| Wx.assign <| We.call rfl (glcompacted hK) (ce417 hK) <| Wes.cons' <| We.nc rfl rfl <| Wes.nil' <| c_compacted hK (by assumption) (lb rfl) ?_; refine Wa.nc rfl <| Ws.cons <| Wx.ite <| Wt.boolop <| Wall.cons' <| Wt.cmp <| We.meth <| We.nc rfl rfl ?_
    have hC := compact_ok hO
    have hCn : (numsP (compact S)).length ≤ 9 := by rw [numsP_len]; exact hC.len
    have hCl := hC.len
    refine ⟨.ref 358, GetM.inst (me373numbers hK) rfl, ce358 hK, ?_⟩
    refine Wes.nil' <| c_numbersS hK (by assumption) (lb rfl) ?_; refine We.call rfl (gllist hK) Callee.type <| Wes.cons' <| We.call rfl (glrange hK) Callee.type <| Wes.cons' <| We.int <| Wes.cons' <| We.bin <| We.call rfl (gllen hK) Callee.builtin <| Wes.cons' <| We.nc rfl rfl <| Wes.nil' ?_
    refine CallV.lenL SeeL.z (by rw [List.length_map, List.length_map]; omega) ?_
    rw [List.length_map, List.length_map]
    refine We.int <| BinV.add <| Wes.nil' <| CallV.range2 <| Wes.nil' ?_
    refine CallV.listR (by decide) (by decide) (by omega) (by omega) (by omega) ?_
    rw [rng_nums]
    refine CmpV.neL SeeL.z SeeL.z cmp_ints (by omega) ⟨_, rfl, ?_⟩
    rw [veqs_refl_ints]
    refine Wall.cons' <| Wt.cmp <| We.comp (by with_unfolding_all rfl) ?_; refine We.attr <| We.nc rfl rfl <| AttV.inst (at373table hK) rfl ?_
    refine ⟨(compact S).tab.map fun r => V.int r.1, fun _ => True, Itr.encT, by rw [List.length_map]; omega, fun Cl => CompL.filt (p := fun r => r.2.1 != 0) (f := fun r => V.int r.1) trivial (fun r hr Ψ hΨ => ?_) (fun r hr hp Ψ hΨ => ?_) ?_⟩
    · refine Wt.cmp <| We.sub <| We.sub <| We.attr <| We.nc rfl rfl <| AttV.inst (at373table hK) rfl <| We.nl rfl rfl ?_
      refine SubV.dI SeeI.z (x := .tup [.int r.2.1, enc r.2.2]) (by rw [lk_encT, look_of_mem hC.keys hr]; rfl) ?_
      refine We.int <| SubV.tup (by decide) rfl (by decide) <| We.int <| CmpV.neI ⟨_, rfl, ?_⟩
      exact hΨ
    · refine We.nl rfl rfl ?_
      exact hΨ
    rw [List.nil_append, show ((compact S).tab.filter fun r => r.2.1 != 0) = [] by rw [List.filter_eq_nil_iff]; intro r hr; rw [compact_gens hr]; decide]
    refine We.listZ ?_
    refine Wes.nil' ⟨lb rfl, ?_⟩
    refine CmpV.neL (k := 0) SeeL.z SeeL.z (fun i x y hx => by simp at hx) (by omega) ⟨_, rfl, ?_⟩
    rw [veqs_nil_of]
    refine Ws.nil <| Ws.cons <| Wx.ite <| Wt.boolop <| Wall.cons' <| Wt.cmp <| We.call rfl (glunreached hK) (ce410 hK) <| Wes.cons' <| We.nc rfl rfl <| Wes.nil' ?_
    refine c_unreached hK hC (by omega) ?_
    rw [unreached_compact hO]
    refine We.listZ ?_
    refine Wes.nil' ⟨lb rfl, ?_⟩
    refine CmpV.neL (k := 0) SeeL.z SeeL.z (fun i x y hx => by simp at hx) (by omega) ⟨_, rfl, ?_⟩
    rw [veqs_nil_of]
    refine Wall.cons' <| Wt.cmp <| We.str <| We.attr <| We.nc rfl rfl <| AttV.inst (at373trailer hK) rfl <| CmpV.inS SeeS.z ⟨_, rfl, ?_⟩
    rw [compact_nokey (by decide)]
    refine Wall.cons' <| Wt.cmp <| We.str <| We.attr <| We.nc rfl rfl <| AttV.inst (at373trailer hK) rfl <| CmpV.inS SeeS.z ⟨_, rfl, ?_⟩
    rw [compact_nokey (by decide)]
    refine Wall.nil' <| ite_f rfl <| Ws.nil <| Ws.cons ?_
    refine Wx.for ?_
    refine We.call rfl (glrange hK) Callee.type <| Wes.cons' <| We.call rfl (gllen hK) Callee.builtin <| Wes.cons' <| We.nc rfl rfl <| Wes.nil' ?_
    refine CallV.lenL SeeL.z (by rw [List.length_map, List.length_map]; omega) ?_
    rw [List.length_map, List.length_map]
    refine Wes.nil' <| CallV.range1 ?_
    refine ⟨_, _, Itr.rng (by decide) (by omega) (by decide) (by omega), ?_⟩
    refine ForL.range0 (fun _ => [("small", encS (compact S)), ("order", .list (((ordP S).map (·.1)).map V.int)), ("kept", toldS S), ("shelf", encS S), ("pen", .ref p)]) (fun _ μ' => μ' = μ2) (fun _ _ _ => trivial) ?_ ?_ ?_ rfl
    · rintro i μ' hi rfl
      have hat : (ordP S)[i]? = some (ordP S)[i] := by simp [hi]
      generalize (ordP S)[i] = q at hat
      have hqm := List.mem_of_getElem? hat
      have hq := ord_there hO q hqm
      obtain ⟨u, hu⟩ := there_iff.mp hq
      have hc : cont S q = u := by unfold cont; rw [hu]
      have hcl := compact_look hqm
      rw [fr_get hat] at hcl
      refine Wa.nl rfl <| Ws.cons <| Wx.ite <| Wt.cmp <| We.call rfl (gllawunfolded hK) (ce509 hK) <| Wes.cons' <| We.nc rfl rfl <| Wes.cons' <| We.sub <| We.sub <| We.attr <| We.nc rfl rfl <| AttV.inst (at373table hK) rfl <| We.sub <| We.nc rfl rfl <| We.nl rfl rfl ?_
      refine SubV.list (x := .int q.1) (by omega) (by rw [Int.toNat_natCast, List.getElem?_map, List.getElem?_map, hat]; rfl) (by omega) ?_
      refine SubV.dI SeeI.z (x := .tup [.int q.2, enc u]) (by rw [lk_encT, hu]; rfl) ?_
      refine We.int <| SubV.tup (by decide) rfl (by decide) <| Wes.cons' <| We.int <| Wes.nil' ?_
      rw [← hc]
      refine c_unf hK hO 2 2 (ok_cont hO q) (by omega) ?_
      refine We.call rfl (gllawunfolded hK) (ce509 hK) <| Wes.cons' <| We.nc rfl rfl <| Wes.cons' <| We.sub <| We.sub <| We.attr <| We.nc rfl rfl <| AttV.inst (at373table hK) rfl <| We.bin <| We.nl rfl rfl <| We.int <| BinV.add ?_
      refine SubV.dI SeeI.z (x := .tup [.int 0, enc (ren (tabO S) (cont S q))]) (by rw [lk_encT, hcl]; rfl) ?_
      refine We.int <| SubV.tup (by decide) rfl (by decide) <| Wes.cons' <| We.int <| Wes.nil' ?_
      refine c_unf hK hC 2 2 (ok_ren (ok_cont hO q)) (by omega) ?_
      rw [show unfP (compact S) 2 (ren (tabO S) (cont S q)) = unfP S 2 (cont S q) by rw [← compact_cont hqm]; exact unf_row hO hqm]
      refine CmpV.neSelf (unfP_UA hO (ok_cont hO q)) (by omega) (unfP_tup ..) ⟨_, rfl, ?_⟩
      refine ite_f rfl <| Ws.nil <| Ws.nil ?_
      exact ⟨by exact Sub.cons rfl <| Sub.cons rfl <| Sub.cons rfl <| Sub.cons rfl <| Sub.cons rfl <| Sub.nil, rfl⟩
    · rintro l2 μ' hsub rfl
      refine Ws.weak hsub ?_
      refine Ws.cons <| Wx.ite <| Wt.cmp <| We.call rfl (gllawunfolded hK) (ce509 hK) <| Wes.cons' <| We.nc rfl rfl <| Wes.cons' <| We.attr <| We.nc rfl rfl <| AttV.inst (at373trailer hK) rfl <| Wes.cons' <| We.int <| Wes.nil' ?_
      refine c_unf hK hO 3 3 (v := .dict S.tr) hO.tr (by omega) ?_
      refine We.call rfl (gllawunfolded hK) (ce509 hK) <| Wes.cons' <| We.nc rfl rfl <| Wes.cons' <| We.attr <| We.nc rfl rfl <| AttV.inst (at373trailer hK) rfl <| Wes.cons' <| We.int <| Wes.nil' ?_
      refine c_unf hK hC 3 3 (v := .dict (compact S).tr) hC.tr (by omega) ?_
      rw [← unf_trailer hO hS.nx]
      refine CmpV.neSelf (unfP_UA hO hO.tr) (by omega) (unfP_tup ..) ⟨_, rfl, ?_⟩
      refine ite_f rfl <| Ws.nil <| Ws.cons <| Wx.assign <| We.call rfl (gllawsecond hK) (ce528 hK) <| Wes.cons' <| We.nl rfl rfl <| Wes.cons' <| We.nc rfl rfl <| Wes.nil' ?_
      refine c_law_second hK hp' hN1 (by omega) hO hS.tl (by omega) fun T N2 c2 hT hN2 _ hc2 => ?_
      have hp2 := fup_self μ' p (some (penC N2 c2))
      generalize fup μ' p (some (penC N2 c2)) = μ3 at hp2
      refine Wa.nl rfl <| Ws.cons <| Wx.assign <| We.cmp <| We.meth <| We.nc rfl rfl ?_
      refine ⟨.ref 370, GetM.inst (me373told hK) rfl, ce370 hK, ?_⟩
      refine Wes.nil' ?_
      refine c_toldS hK hC (by omega) ?_
      refine We.meth <| We.call rfl (glcompacted hK) (ce417 hK) <| Wes.cons' <| We.nl rfl rfl <| Wes.nil' <| c_compacted hK (by assumption) (lb rfl) ?_
      refine ⟨.ref 370, GetM.inst (me373told hK) rfl, ce370 hK, ?_⟩
      refine Wes.nil' ?_
      refine c_toldS hK (compact_ok hT) (by omega) ?_
      refine CmpV.eqD (cmp_toldS hC (compact_ok hT)) (by omega) ?_
      refine Wa.nl rfl <| Ws.cons <| Wx.ite <| Wt.boolop <| Wall.cons' <| Wt.cmp <| We.call rfl (glalike hK) (ce478 hK) <| Wes.cons' <| We.nc rfl rfl <| Wes.cons' <| We.nl rfl rfl <| Wes.nil' <| c_alike hK (by assumption) (by assumption) (lb rfl) ?_; refine We.nl rfl rfl <| CmpV.neB ⟨_, rfl, ?_⟩
      rw [alike_veq hO hT, beq_self_eq_true, Bool.not_true]
      refine Wall.cons' <| Wt.cmp <| We.call rfl (glalike hK) (ce478 hK) <| Wes.cons' <| We.nl rfl rfl <| Wes.cons' <| We.nc rfl rfl <| Wes.nil' <| c_alike hK (by assumption) (by assumption) (lb rfl) ?_; refine We.nl rfl rfl <| CmpV.neB ⟨_, rfl, ?_⟩
      rw [alike_veq' hO hT, beq_self_eq_true, Bool.not_true]
      refine Wall.cons' <| Wt.not <| Wt.val <| We.call rfl (glalike hK) (ce478 hK) <| Wes.cons' <| We.nc rfl rfl <| Wes.cons' <| We.nc rfl rfl <| Wes.nil' <| c_alike hK (by assumption) (by assumption) (lb rfl) ?_; refine TruV.bool ?_
      rw [alike_compact hO]
      refine Ws.nil <| Ws.cons <| Wx.ite <| Wt.boolop <| Wall.cons' <| Wt.not <| Wt.val <| We.call rfl (glalike hK) (ce478 hK) <| Wes.cons' <| We.nc rfl rfl <| Wes.cons' <| We.call rfl (glshelfcopied hK) (ce382 hK) <| Wes.cons' <| We.nc rfl rfl <| Wes.nil' <| c_shelf_copied hK (by assumption) (lb rfl) ?_; refine Wes.nil' <| c_alike hK (by assumption) (by assumption) (lb rfl) ?_; refine TruV.bool ?_
      rw [alike_self hO]
      refine Wall.cons' <| Wt.not <| Wt.val <| We.call rfl (glalike hK) (ce478 hK) <| Wes.cons' <| We.nc rfl rfl <| Wes.cons' <| We.call rfl (gllawturned hK) (ce521 hK) <| Wes.cons' <| We.nl rfl rfl <| Wes.cons' <| We.nc rfl rfl <| Wes.nil' ?_
      refine c_law_turnedZ hK hp2 hN2 (by omega) hO (by omega) fun τ N3 c3 hτ => ?_
      have hTu := turned_ok hO hτ
      refine Wes.nil' <| c_alike hK (by assumption) (by assumption) (lb rfl) ?_; refine TruV.bool ?_
      rw [alike_turned hO hτ]
      refine Ws.nil <| Ws.cons <| Wx.ret <| We.and2 <| We.cmp <| We.meth <| We.call rfl (glcompacted hK) (ce417 hK) <| Wes.cons' <| We.nc rfl rfl <| Wes.nil' <| c_compacted hK (by assumption) (lb rfl) ?_
      refine ⟨.ref 370, GetM.inst (me373told hK) rfl, ce370 hK, ?_⟩
      refine Wes.nil' ?_
      refine c_toldS hK (compact_ok hC) (by omega) ?_
      refine We.meth <| We.nc rfl rfl ?_
      refine ⟨.ref 370, GetM.inst (me373told hK) rfl, ce370 hK, ?_⟩
      refine Wes.nil' ?_
      refine c_toldS hK hC (by omega) ?_
      refine CmpV.eqD (cmp_toldS (compact_ok hC) hC) (by omega) ?_
      rw [toldS_twice hO, veq_toldS hC]
      refine TruV.bool <| ite_t rfl <| We.cmp <| We.meth <| We.nc rfl rfl ?_
      refine ⟨.ref 370, GetM.inst (me373told hK) rfl, ce370 hK, ?_⟩
      refine Wes.nil' ?_
      refine c_toldS hK hO (by omega) ?_
      refine We.nl rfl rfl ?_
      refine CmpV.eqD (cmp_toldS hO hO) (by omega) ?_
      rw [veq_toldS hO]
      rfl
    · exact Sub.cons rfl <| Sub.cons rfl <| Sub.cons rfl <| Sub.cons rfl <| Sub.cons rfl <| Sub.nil
end
section
open PySem PySem.W PySem.Calls PyProof.Rows
theorem ns_some {K : Frag} {h : Heap} {N : Addr} {mg : Str → Option Value} {n : Str} {v : Value} (X : K.In h) (G : h.Ns N mg) (e : nsIn K N n = some (some v)) : mg n = some v := by
  obtain ⟨o, es, ep, ho, hd, _, hf⟩ := G
  unfold nsIn at e
  split at e
  · rename_i c d es' n' sl q
    have := X _ _ q
    rw [ho] at this
    cases this
    cases hd
    split at e
    · rename_i x he
      cases e
      rw [← hf]
      unfold nsFind findBy
      rw [← Array.find?_toList, he]
      rfl
    · split at e <;> cases e
  · cases e
theorem law_ns (P : Params) : nsIn (hd.heap_39 P) mainGlobals "law" = some (some (.ref 533)) := by with_unfolding_all rfl
theorem Rel.start {C : Cx} {s : Shared} (h1 : C.h₀ = s.heap) (h2 : C.os₀ = s.os) (hg : s.gens = #[]) : Rel C (fun a => s.heap.get? a) (fun _ => none) (fun _ => none) s := by
  refine ⟨fun a o e => by rw [h1] at e; exact e, fun _ _ e => e, fun a o e => ?_, fun a c e => ?_, fun _ _ _ => rfl, fun _ _ _ => rfl, fun a o e => rfl, hg, h2.symm, fun a c e => ?_⟩
  · cases e
  · cases e
  · cases e
theorem callerA_ok : AOk 60 callerA := ⟨by show 301 + 3 * 60 ≤ 900; omega, by show 4 + 20 * 60 ≤ 8000; omega, rfl⟩
theorem joinedC {C : Cx} (hK : C.K = hd.heap_39 C.w.params) {s₁ : Shared} (h1 : C.h₀ = s₁.heap) (h2 : C.os₀ = s₁.os) (hg : s₁.gens = #[]) {la : Addr} {vs : List Value} {q : Nat} {ks : List Int} (hl : s₁.heap.get? la = some (listObj vs q)) (hI : IntsAre vs ks) (hz : ks.length ≤ 63) :
    wpAny (model C.prog C.w) callerA (call (.ref 533) [.ref la]) (fun v s' => v = .bool true ∧ (∀ a o, s₁.heap.get? a = some o → s'.heap.get? a = some o) ∧ s'.os = s₁.os ∧ s'.gens = #[]) NoE s₁ := by
  have R := Rel.start h1 h2 hg
  have rv : VRels C.w (fun a => s₁.heap.get? a) [.list (ks.map V.int)] [.ref la] := .one (VRel.ofList hl (of_intsAre hI))
  refine wpAny_mono (c_law hK hz (Nat.le_refl _) _ callerA_ok _ _ [.ref la] rv s₁ R) (fun v s' hv => ?_) fun e s' h => h
  obtain ⟨σ', R', _, _, x, rx, hx⟩ := hv
  subst hx
  cases rx
  exact ⟨rfl, fun a o e => R'.keep a o (by rw [h1]; exact e), R'.os.trans h2, R'.gens⟩
theorem joined {prog : Program} {w : World} {s₁ : Shared} {mb : Str → Option Value} (X : (hd.heap_39 w.params).In s₁.heap) (B : s₁.heap.Ns builtinsNs mb) (hb : ∀ x : Str, x ≠ "__name__" → mb x = bootBuiltins x) (NL : s₁.heap.NoLimit) (hg : s₁.gens = #[])
    {la : Addr} {vs : List Value} {q : Nat} {ks : List Int} (hl : s₁.heap.get? la = some (listObj vs q)) (hI : IntsAre vs ks) (hz : ks.length ≤ 63) :
    wpAny (model prog w) callerA (call (.ref 533) [.ref la]) (fun v s' => v = .bool true ∧ (∀ a o, s₁.heap.get? a = some o → s'.heap.get? a = some o) ∧ s'.os = s₁.os ∧ s'.gens = #[]) NoE s₁ :=
  joinedC (C := ⟨prog, w, hd.heap_39 w.params, s₁.heap, s₁.os, mb, X, B, hb, NL⟩) (Eq.refl _) (Eq.refl _) (Eq.refl _) hg hl hI hz
end
end SP
set_option maxRecDepth 100000
set_option linter.unusedVariables false
open PySem PySem.W PySem.W.X PyProof.Rows
theorem PySem.Challenge.cw_nn0134_01_holds : PySem.Challenge.rw_nn0134_01.Holds := by
  refine SP.hd ?_
  intro w s₀ s₁ mg mb G Y fa o pm cd doc dV kV ho hd' hcd hD hmg hg args vals as hpre hlay hrd hwl hlo
  have KX : (SP.hd.heap_39 w.params).In s₁.heap := kIn_of Y
  have T := G.T
  have hfa := SP.ns_some KX T.g (SP.law_ns w.params)
  have e1 : fa = 533 := by
    have := hmg.symm.trans hfa
    cases this; rfl
  clear Y hD hcd hd' hmg ho
  subst e1
  wrow_args hpre hlay hrd hwl hlo
  rename_i ks hs hlay0 hL1 hr1 hl2 as4 as3 la vs as1 hL ra w1 r0 hI hr hcond hct
  have hlen : ks.length ≤ 63 := by omega
  obtain ⟨us, hus⟩ : ∃ us, s₁.heap.get? la = some (SP.listObj us 0) := by
    cases w1 with
    | list h _ => exact ⟨_, h⟩
  have hIu : IntsAre us ks := by
    obtain ⟨ol, h1, h2, m, h3⟩ := hL
    rw [hus] at h1
    cases h1
    cases h3
    exact hI
  refine wpAny_mono (SP.joined KX T.b T.builtins T.nolimit hg hus hIu hlen) (fun v s' ⟨e, hk, ho, hgs⟩ => ?_) fun e s' h => h.elim
  subst e
  exact ⟨.inl ⟨_, _, [], rfl, fun _ => rfl, ReadsW.bool true, by with_unfolding_all rfl, fun _ => ⟨List.nodup_nil, fun _ hm => (nomatch hm)⟩⟩, .of_keep hk, ho, .of_eq hgs⟩
