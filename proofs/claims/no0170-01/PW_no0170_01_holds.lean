import PyProof.Rows.All
import Wide.All
import OpenK.AllK
import Wide.FinOn
import PySem.Challenge.RW_no0170_01
set_option Elab.async false
set_option maxRecDepth 100000
set_option genSizeOfSpec false
set_option compiler.extract_closed false

namespace Mine
open PySem PySem.W PySem.Calls PyProof.Rows

/-! MK -/
/-! what of the heap behind the top the walk asks for; a def's text is the program's -/
noncomputable def topSt (i : Nat) : Option Stmt := PySem.Challenge.pw_no0170_01.main.body[i]?
noncomputable def metSt (i j : Nat) : Option Stmt := match PySem.Challenge.pw_no0170_01.main.body[i]? with
  | some (Stmt.ClassDef _ _ _ b _ _ _ _ _ _ _) => b[j]?
  | _ => none
noncomputable def fob (st : Option Stmt) (q : Str) (dv m : Value) (c : Addr) : Obj := match st with
  | some (Stmt.FunctionDef n ps b _ _ _ sc _ _ _) => { cls := .type "function", data := .func { name := n, qualname := q, params := ps, body := .stmts b, scope := sc, globals := 3, closure := [], defaults := dv, kwdefaults := .none, pyModule := m, code := .ref c } }
  | _ => default
noncomputable def en (P : Params) (x : Str) (t : Nat) (v : Value) : DictEntry := { hash := PyData.keyHash P x, key := .str x t, val := v }
noncomputable def kf (P : Params) : Frag := [
  (3, { cls := Value.type "dict", data := Data.dict #[en P (Str.ofString "__name__") 165 (Value.str (Str.ofString "law_no0170_01") 702), en P (Str.ofString "__doc__") 166 (Value.none), en P (Str.ofString "__package__") 167 (Value.none), en P (Str.ofString "__loader__") 168 (Value.builtin "__main__.__loader__#opaque"), en P (Str.ofString "__spec__") 169 (Value.none), en P (Str.ofString "__annotations__") 170 (Value.ref 6), en P (Str.ofString "__builtins__") 171 (Value.ref 4), en P (Str.ofString "__file__") 173 (Value.str (Str.ofString "/claim/cut.py") 172), en P (Str.ofString "__cached__") 174 (Value.none), en P (Str.ofString "_wall") 193 (Value.ref 21), en P (Str.ofString "ClausemillError") 215 (Value.ref 31), en P (Str.ofString "PrologError") 240 (Value.ref 51), en P (Str.ofString "A_NIL") 242 (Value.int 0 241), en P (Str.ofString "A_SYSTEM") 244 (Value.int 25 243), en P (Str.ofString "F_DOT") 246 (Value.int 0 245), en P (Str.ofString "F_MINUS1") 248 (Value.int 12 247), en P (Str.ofString "F_MINUS") 250 (Value.int 13 249), en P (Str.ofString "F_ERROR") 252 (Value.int 16 251), en P (Str.ofString "F_CATCH") 254 (Value.int 18 253), en P (Str.ofString "fixed_atoms") 260 (Value.ref 60), en P (Str.ofString "fixed_functors") 266 (Value.ref 67), en P (Str.ofString "Symbols") 385 (Value.ref 154), en P (Str.ofString "system_error") 394 (Value.ref 165), en P (Str.ofString "formal_of") 405 (Value.ref 172), en P (Str.ofString "resource_error") 413 (Value.ref 179), en P (Str.ofString "REF") 417 (Value.int 0 416), en P (Str.ofString "SRF") 419 (Value.int 1 418), en P (Str.ofString "STR") 421 (Value.int 2 420), en P (Str.ofString "LIS") 423 (Value.int 3 422), en P (Str.ofString "CON") 425 (Value.int 4 424), en P (Str.ofString "INT") 427 (Value.int 5 426), en P (Str.ofString "FUN") 429 (Value.int 6 428), en P (Str.ofString "Cells") 621 (Value.ref 323), en P (Str.ofString "Store") 701 (Value.ref 373), en P (Str.ofString "_law_row") 714 (Value.ref 382), en P (Str.ofString "_law_next") 721 (Value.ref 389), en P (Str.ofString "_law_deed") 727 (Value.ref 394), en P (Str.ofString "law") 748 (Value.ref 401)] 38 }),
  (30, { cls := Value.type "dict", data := Data.dict #[en P (Str.ofString "__module__") 203 (Value.str (Str.ofString "clausemill.symbols") 194), en P (Str.ofString "__firstlineno__") 207 (Value.int 5 206), en P (Str.ofString "__static_attributes__") 208 (Value.ref 29), en P (Str.ofString "__weakref__") 210 (Value.ref 32), en P (Str.ofString "__doc__") 211 (Value.none)] 3 }),
  (31, { cls := Value.type "type", data := Data.cls { name := Str.ofString "ClausemillError", bases := [Value.type "Exception"], mro := [Value.ref 31, Value.type "Exception", Value.type "BaseException", Value.type "object"], ns := 30, qualname := Str.ofString "ClausemillError", subclasses := [Value.ref 51] }, slots := #[some (Value.ref 22), none, some (Value.str (Str.ofString "ClausemillError") 196), some (Value.str (Str.ofString "ClausemillError") 204), some (Value.builtin "Exception.__new__"), some (Value.bool true)] }),
  (47, { cls := Value.type "code", data := Data.fields #[Value.str (Str.ofString "__init__") 228, Value.str (Str.ofString "PrologError.__init__") 229, Value.str (Str.ofString "/claim/cut.py") 230, Value.int 9 0, Value.int 2 0, Value.int 0 0, Value.int 0 0, Value.int 3 0, Value.ref 42, Value.bool true, Value.int 181 0, Value.ref 43, Value.none, Value.ref 44, Value.ref 45, Value.ref 46, Value.int 233 0, Value.int 9 0, Value.str (Str.ofString "/claim/cut.py") 234] }),
  (48, fob (metSt 3 0) (Str.ofString "PrologError.__init__") (Value.none) (Value.str (Str.ofString "clausemill.symbols") 194) 47),
  (50, { cls := Value.type "dict", data := Data.dict #[en P (Str.ofString "__module__") 223 (Value.str (Str.ofString "clausemill.symbols") 194), en P (Str.ofString "__firstlineno__") 227 (Value.int 7 226), en P (Str.ofString "__init__") 235 (Value.ref 48), en P (Str.ofString "__static_attributes__") 237 (Value.ref 49), en P (Str.ofString "__doc__") 238 (Value.none)] 2 }),
  (51, { cls := Value.type "type", data := Data.cls { name := Str.ofString "PrologError", bases := [Value.ref 31], mro := [Value.ref 51, Value.ref 31, Value.type "Exception", Value.type "BaseException", Value.type "object"], ns := 50, qualname := Str.ofString "PrologError" }, slots := #[some (Value.ref 35), none, some (Value.str (Str.ofString "PrologError") 216), some (Value.str (Str.ofString "PrologError") 224), some (Value.builtin "Exception.__new__"), some (Value.bool true)] }),
  (59, { cls := Value.type "code", data := Data.fields #[Value.str (Str.ofString "fixed_atoms") 255, Value.str (Str.ofString "fixed_atoms") 256, Value.str (Str.ofString "/claim/cut.py") 257, Value.int 18 0, Value.int 0 0, Value.int 0 0, Value.int 0 0, Value.int 3 0, Value.ref 54, Value.bool true, Value.int 181 0, Value.ref 55, Value.none, Value.ref 56, Value.ref 57, Value.ref 58, Value.int 258 0, Value.int 18 0, Value.str (Str.ofString "/claim/cut.py") 259] }),
  (60, fob (topSt 11) (Str.ofString "fixed_atoms") (Value.none) (Value.str (Str.ofString "clausemill.symbols") 194) 59),
  (66, { cls := Value.type "code", data := Data.fields #[Value.str (Str.ofString "fixed_functors") 261, Value.str (Str.ofString "fixed_functors") 262, Value.str (Str.ofString "/claim/cut.py") 263, Value.int 20 0, Value.int 0 0, Value.int 0 0, Value.int 0 0, Value.int 3 0, Value.ref 61, Value.bool true, Value.int 181 0, Value.ref 62, Value.none, Value.ref 63, Value.ref 64, Value.ref 65, Value.int 264 0, Value.int 20 0, Value.str (Str.ofString "/claim/cut.py") 265] }),
  (67, fob (topSt 12) (Str.ofString "fixed_functors") (Value.none) (Value.str (Str.ofString "clausemill.symbols") 194) 66),
  (80, { cls := Value.type "code", data := Data.fields #[Value.str (Str.ofString "__init__") 279, Value.str (Str.ofString "Symbols.__init__") 280, Value.str (Str.ofString "/claim/cut.py") 281, Value.int 24 0, Value.int 1 0, Value.int 0 0, Value.int 0 0, Value.int 3 0, Value.ref 75, Value.bool true, Value.int 181 0, Value.ref 76, Value.none, Value.ref 77, Value.ref 78, Value.ref 79, Value.int 285 0, Value.int 24 0, Value.str (Str.ofString "/claim/cut.py") 286] }),
  (81, fob (metSt 13 0) (Str.ofString "Symbols.__init__") (Value.none) (Value.str (Str.ofString "clausemill.symbols") 194) 80),
  (87, { cls := Value.type "code", data := Data.fields #[Value.str (Str.ofString "atom") 288, Value.str (Str.ofString "Symbols.atom") 289, Value.str (Str.ofString "/claim/cut.py") 290, Value.int 34 0, Value.int 2 0, Value.int 0 0, Value.int 0 0, Value.int 3 0, Value.ref 82, Value.bool true, Value.int 181 0, Value.ref 83, Value.none, Value.ref 84, Value.ref 85, Value.ref 86, Value.int 295 0, Value.int 34 0, Value.str (Str.ofString "/claim/cut.py") 296] }),
  (88, fob (metSt 13 1) (Str.ofString "Symbols.atom") (Value.none) (Value.str (Str.ofString "clausemill.symbols") 194) 87),
  (101, { cls := Value.type "code", data := Data.fields #[Value.str (Str.ofString "functor") 306, Value.str (Str.ofString "Symbols.functor") 307, Value.str (Str.ofString "/claim/cut.py") 308, Value.int 46 0, Value.int 3 0, Value.int 0 0, Value.int 0 0, Value.int 3 0, Value.ref 96, Value.bool true, Value.int 181 0, Value.ref 97, Value.none, Value.ref 98, Value.ref 99, Value.ref 100, Value.int 315 0, Value.int 46 0, Value.str (Str.ofString "/claim/cut.py") 316] }),
  (102, fob (metSt 13 3) (Str.ofString "Symbols.functor") (Value.none) (Value.str (Str.ofString "clausemill.symbols") 194) 101),
  (108, { cls := Value.type "code", data := Data.fields #[Value.str (Str.ofString "func") 318, Value.str (Str.ofString "Symbols.func") 319, Value.str (Str.ofString "/claim/cut.py") 320, Value.int 56 0, Value.int 3 0, Value.int 0 0, Value.int 0 0, Value.int 3 0, Value.ref 103, Value.bool true, Value.int 181 0, Value.ref 104, Value.none, Value.ref 105, Value.ref 106, Value.ref 107, Value.int 324 0, Value.int 56 0, Value.str (Str.ofString "/claim/cut.py") 325] }),
  (109, fob (metSt 13 4) (Str.ofString "Symbols.func") (Value.none) (Value.str (Str.ofString "clausemill.symbols") 194) 108),
  (122, { cls := Value.type "code", data := Data.fields #[Value.str (Str.ofString "arity") 335, Value.str (Str.ofString "Symbols.arity") 336, Value.str (Str.ofString "/claim/cut.py") 337, Value.int 62 0, Value.int 2 0, Value.int 0 0, Value.int 0 0, Value.int 3 0, Value.ref 117, Value.bool true, Value.int 181 0, Value.ref 118, Value.none, Value.ref 119, Value.ref 120, Value.ref 121, Value.int 340 0, Value.int 62 0, Value.str (Str.ofString "/claim/cut.py") 341] }),
  (123, fob (metSt 13 6) (Str.ofString "Symbols.arity") (Value.none) (Value.str (Str.ofString "clausemill.symbols") 194) 122),
  (153, { cls := Value.type "dict", data := Data.dict #[en P (Str.ofString "__module__") 274 (Value.str (Str.ofString "clausemill.symbols") 194), en P (Str.ofString "__firstlineno__") 278 (Value.int 22 277), en P (Str.ofString "__init__") 287 (Value.ref 81), en P (Str.ofString "atom") 297 (Value.ref 88), en P (Str.ofString "text") 305 (Value.ref 95), en P (Str.ofString "functor") 317 (Value.ref 102), en P (Str.ofString "func") 326 (Value.ref 109), en P (Str.ofString "name") 334 (Value.ref 116), en P (Str.ofString "arity") 342 (Value.ref 123), en P (Str.ofString "label") 350 (Value.ref 130), en P (Str.ofString "count") 357 (Value.ref 137), en P (Str.ofString "functor_count") 364 (Value.ref 144), en P (Str.ofString "known") 373 (Value.ref 151), en P (Str.ofString "__static_attributes__") 378 (Value.ref 152), en P (Str.ofString "__dict__") 380 (Value.ref 155), en P (Str.ofString "__weakref__") 382 (Value.ref 156), en P (Str.ofString "__doc__") 383 (Value.none)] 4 }),
  (154, { cls := Value.type "type", data := Data.cls { name := Str.ofString "Symbols", bases := [Value.type "object"], mro := [Value.ref 154, Value.type "object"], ns := 153, qualname := Str.ofString "Symbols" }, slots := #[none, none, some (Value.str (Str.ofString "Symbols") 267), some (Value.str (Str.ofString "Symbols") 275), some (Value.builtin "object.__new__"), some (Value.bool true)] }),
  (164, { cls := Value.type "code", data := Data.fields #[Value.str (Str.ofString "system_error") 388, Value.str (Str.ofString "system_error") 389, Value.str (Str.ofString "/claim/cut.py") 390, Value.int 77 0, Value.int 1 0, Value.int 0 0, Value.int 0 0, Value.int 3 0, Value.ref 159, Value.bool true, Value.int 181 0, Value.ref 160, Value.none, Value.ref 161, Value.ref 162, Value.ref 163, Value.int 392 0, Value.int 77 0, Value.str (Str.ofString "/claim/cut.py") 393] }),
  (165, fob (topSt 15) (Str.ofString "system_error") (Value.none) (Value.str (Str.ofString "clausemill.terms") 386) 164),
  (171, { cls := Value.type "code", data := Data.fields #[Value.str (Str.ofString "formal_of") 395, Value.str (Str.ofString "formal_of") 396, Value.str (Str.ofString "/claim/cut.py") 397, Value.int 79 0, Value.int 3 0, Value.int 0 0, Value.int 0 0, Value.int 3 0, Value.ref 166, Value.bool true, Value.int 181 0, Value.ref 167, Value.none, Value.ref 168, Value.ref 169, Value.ref 170, Value.int 403 0, Value.int 79 0, Value.str (Str.ofString "/claim/cut.py") 404] }),
  (172, fob (topSt 16) (Str.ofString "formal_of") (Value.none) (Value.str (Str.ofString "clausemill.terms") 386) 171),
  (178, { cls := Value.type "code", data := Data.fields #[Value.str (Str.ofString "resource_error") 406, Value.str (Str.ofString "resource_error") 407, Value.str (Str.ofString "/claim/cut.py") 408, Value.int 84 0, Value.int 2 0, Value.int 0 0, Value.int 0 0, Value.int 3 0, Value.ref 173, Value.bool true, Value.int 181 0, Value.ref 174, Value.none, Value.ref 175, Value.ref 176, Value.ref 177, Value.int 411 0, Value.int 84 0, Value.str (Str.ofString "/claim/cut.py") 412] }),
  (179, fob (topSt 17) (Str.ofString "resource_error") (Value.none) (Value.str (Str.ofString "clausemill.terms") 386) 178),
  (187, { cls := Value.type "tuple", data := Data.seq #[Value.int 100000 442] }),
  (193, { cls := Value.type "code", data := Data.fields #[Value.str (Str.ofString "__init__") 443, Value.str (Str.ofString "Cells.__init__") 444, Value.str (Str.ofString "/claim/cut.py") 445, Value.int 96 0, Value.int 3 0, Value.int 0 0, Value.int 0 0, Value.int 3 0, Value.ref 188, Value.bool true, Value.int 181 0, Value.ref 189, Value.none, Value.ref 190, Value.ref 191, Value.ref 192, Value.int 449 0, Value.int 96 0, Value.str (Str.ofString "/claim/cut.py") 450] }),
  (194, fob (metSt 26 0) (Str.ofString "Cells.__init__") (Value.ref 187) (Value.str (Str.ofString "clausemill.store") 414) 193),
  (200, { cls := Value.type "code", data := Data.fields #[Value.str (Str.ofString "push") 452, Value.str (Str.ofString "Cells.push") 453, Value.str (Str.ofString "/claim/cut.py") 454, Value.int 105 0, Value.int 2 0, Value.int 0 0, Value.int 0 0, Value.int 3 0, Value.ref 195, Value.bool true, Value.int 181 0, Value.ref 196, Value.none, Value.ref 197, Value.ref 198, Value.ref 199, Value.int 458 0, Value.int 105 0, Value.str (Str.ofString "/claim/cut.py") 459] }),
  (201, fob (metSt 26 1) (Str.ofString "Cells.push") (Value.none) (Value.str (Str.ofString "clausemill.store") 414) 200),
  (207, { cls := Value.type "code", data := Data.fields #[Value.str (Str.ofString "new_var") 461, Value.str (Str.ofString "Cells.new_var") 462, Value.str (Str.ofString "/claim/cut.py") 463, Value.int 112 0, Value.int 1 0, Value.int 0 0, Value.int 0 0, Value.int 3 0, Value.ref 202, Value.bool true, Value.int 181 0, Value.ref 203, Value.none, Value.ref 204, Value.ref 205, Value.ref 206, Value.int 466 0, Value.int 112 0, Value.str (Str.ofString "/claim/cut.py") 467] }),
  (208, fob (metSt 26 2) (Str.ofString "Cells.new_var") (Value.none) (Value.str (Str.ofString "clausemill.store") 414) 207),
  (214, { cls := Value.type "code", data := Data.fields #[Value.str (Str.ofString "reserve") 469, Value.str (Str.ofString "Cells.reserve") 470, Value.str (Str.ofString "/claim/cut.py") 471, Value.int 117 0, Value.int 2 0, Value.int 0 0, Value.int 0 0, Value.int 3 0, Value.ref 209, Value.bool true, Value.int 181 0, Value.ref 210, Value.none, Value.ref 211, Value.ref 212, Value.ref 213, Value.int 476 0, Value.int 117 0, Value.str (Str.ofString "/claim/cut.py") 477] }),
  (215, fob (metSt 26 3) (Str.ofString "Cells.reserve") (Value.none) (Value.str (Str.ofString "clausemill.store") 414) 214),
  (221, { cls := Value.type "code", data := Data.fields #[Value.str (Str.ofString "trim") 479, Value.str (Str.ofString "Cells.trim") 480, Value.str (Str.ofString "/claim/cut.py") 481, Value.int 125 0, Value.int 2 0, Value.int 0 0, Value.int 0 0, Value.int 3 0, Value.ref 216, Value.bool true, Value.int 181 0, Value.ref 217, Value.none, Value.ref 218, Value.ref 219, Value.ref 220, Value.int 484 0, Value.int 125 0, Value.str (Str.ofString "/claim/cut.py") 485] }),
  (222, fob (metSt 26 4) (Str.ofString "Cells.trim") (Value.none) (Value.str (Str.ofString "clausemill.store") 414) 221),
  (228, { cls := Value.type "code", data := Data.fields #[Value.str (Str.ofString "deref") 487, Value.str (Str.ofString "Cells.deref") 488, Value.str (Str.ofString "/claim/cut.py") 489, Value.int 128 0, Value.int 2 0, Value.int 0 0, Value.int 0 0, Value.int 3 0, Value.ref 223, Value.bool true, Value.int 181 0, Value.ref 224, Value.none, Value.ref 225, Value.ref 226, Value.ref 227, Value.int 494 0, Value.int 128 0, Value.str (Str.ofString "/claim/cut.py") 495] }),
  (229, fob (metSt 26 5) (Str.ofString "Cells.deref") (Value.none) (Value.str (Str.ofString "clausemill.store") 414) 228),
  (256, { cls := Value.type "code", data := Data.fields #[Value.str (Str.ofString "globalise") 524, Value.str (Str.ofString "Cells.globalise") 525, Value.str (Str.ofString "/claim/cut.py") 526, Value.int 158 0, Value.int 2 0, Value.int 0 0, Value.int 0 0, Value.int 3 0, Value.ref 251, Value.bool true, Value.int 181 0, Value.ref 252, Value.none, Value.ref 253, Value.ref 254, Value.ref 255, Value.int 530 0, Value.int 158 0, Value.str (Str.ofString "/claim/cut.py") 531] }),
  (257, fob (metSt 26 9) (Str.ofString "Cells.globalise") (Value.none) (Value.str (Str.ofString "clausemill.store") 414) 256),
  (305, { cls := Value.type "code", data := Data.fields #[Value.str (Str.ofString "base") 581, Value.str (Str.ofString "Cells.base") 582, Value.str (Str.ofString "/claim/cut.py") 583, Value.int 184 0, Value.int 2 0, Value.int 0 0, Value.int 0 0, Value.int 3 0, Value.ref 300, Value.bool true, Value.int 181 0, Value.ref 301, Value.none, Value.ref 302, Value.ref 303, Value.ref 304, Value.int 586 0, Value.int 184 0, Value.str (Str.ofString "/claim/cut.py") 587] }),
  (306, fob (metSt 26 16) (Str.ofString "Cells.base") (Value.none) (Value.str (Str.ofString "clausemill.store") 414) 305),
  (319, { cls := Value.type "code", data := Data.fields #[Value.str (Str.ofString "new_block") 598, Value.str (Str.ofString "Cells.new_block") 599, Value.str (Str.ofString "/claim/cut.py") 600, Value.int 192 0, Value.int 2 0, Value.int 0 0, Value.int 0 0, Value.int 3 0, Value.ref 314, Value.bool true, Value.int 181 0, Value.ref 315, Value.none, Value.ref 316, Value.ref 317, Value.ref 318, Value.int 604 0, Value.int 192 0, Value.str (Str.ofString "/claim/cut.py") 605] }),
  (320, fob (metSt 26 18) (Str.ofString "Cells.new_block") (Value.none) (Value.str (Str.ofString "clausemill.store") 414) 319),
  (322, { cls := Value.type "dict", data := Data.dict #[en P (Str.ofString "__module__") 437 (Value.str (Str.ofString "clausemill.store") 414), en P (Str.ofString "__firstlineno__") 441 (Value.int 94 440), en P (Str.ofString "__init__") 451 (Value.ref 194), en P (Str.ofString "push") 460 (Value.ref 201), en P (Str.ofString "new_var") 468 (Value.ref 208), en P (Str.ofString "reserve") 478 (Value.ref 215), en P (Str.ofString "trim") 486 (Value.ref 222), en P (Str.ofString "deref") 496 (Value.ref 229), en P (Str.ofString "is_unbound") 504 (Value.ref 236), en P (Str.ofString "bind") 514 (Value.ref 243), en P (Str.ofString "bind_pair") 523 (Value.ref 250), en P (Str.ofString "globalise") 532 (Value.ref 257), en P (Str.ofString "mark") 539 (Value.ref 264), en P (Str.ofString "undo_to") 547 (Value.ref 271), en P (Str.ofString "stack_put") 556 (Value.ref 278), en P (Str.ofString "is_compound") 564 (Value.ref 285), en P (Str.ofString "functor_of") 572 (Value.ref 292), en P (Str.ofString "width") 580 (Value.ref 299), en P (Str.ofString "base") 588 (Value.ref 306), en P (Str.ofString "arg") 597 (Value.ref 313), en P (Str.ofString "new_block") 606 (Value.ref 320), en P (Str.ofString "__static_attributes__") 614 (Value.ref 321), en P (Str.ofString "__dict__") 616 (Value.ref 324), en P (Str.ofString "__weakref__") 618 (Value.ref 325), en P (Str.ofString "__doc__") 619 (Value.none)] 4 }),
  (323, { cls := Value.type "type", data := Data.cls { name := Str.ofString "Cells", bases := [Value.type "object"], mro := [Value.ref 323, Value.type "object"], ns := 322, qualname := Str.ofString "Cells", subclasses := [Value.ref 373] }, slots := #[none, none, some (Value.str (Str.ofString "Cells") 430), some (Value.str (Str.ofString "Cells") 438), some (Value.builtin "object.__new__"), some (Value.bool true)] }),
  (340, { cls := Value.type "code", data := Data.fields #[Value.str (Str.ofString "new_struct") 634, Value.str (Str.ofString "Store.new_struct") 635, Value.str (Str.ofString "/claim/cut.py") 636, Value.int 200 0, Value.int 3 0, Value.int 0 0, Value.int 0 0, Value.int 3 0, Value.ref 335, Value.bool true, Value.int 181 0, Value.ref 336, Value.none, Value.ref 337, Value.ref 338, Value.ref 339, Value.int 645 0, Value.int 200 0, Value.str (Str.ofString "/claim/cut.py") 646] }),
  (341, fob (metSt 27 0) (Str.ofString "Store.new_struct") (Value.none) (Value.str (Str.ofString "clausemill.store") 414) 340),
  (342, { cls := Value.type "tuple", data := Data.seq #[Value.none] }),
  (348, { cls := Value.type "code", data := Data.fields #[Value.str (Str.ofString "build_list") 648, Value.str (Str.ofString "Store.build_list") 649, Value.str (Str.ofString "/claim/cut.py") 650, Value.int 213 0, Value.int 3 0, Value.int 0 0, Value.int 0 0, Value.int 3 0, Value.ref 343, Value.bool true, Value.int 181 0, Value.ref 344, Value.none, Value.ref 345, Value.ref 346, Value.ref 347, Value.int 660 0, Value.int 213 0, Value.str (Str.ofString "/claim/cut.py") 661] }),
  (349, fob (metSt 27 1) (Str.ofString "Store.build_list") (Value.ref 342) (Value.str (Str.ofString "clausemill.store") 414) 348),
  (362, { cls := Value.type "code", data := Data.fields #[Value.str (Str.ofString "put_term") 671, Value.str (Str.ofString "Store.put_term") 672, Value.str (Str.ofString "/claim/cut.py") 673, Value.int 235 0, Value.int 3 0, Value.int 0 0, Value.int 0 0, Value.int 3 0, Value.ref 357, Value.bool true, Value.int 181 0, Value.ref 358, Value.none, Value.ref 359, Value.ref 360, Value.ref 361, Value.int 686 0, Value.int 235 0, Value.str (Str.ofString "/claim/cut.py") 687] }),
  (363, fob (metSt 27 3) (Str.ofString "Store.put_term") (Value.none) (Value.str (Str.ofString "clausemill.store") 414) 362),
  (372, { cls := Value.type "dict", data := Data.dict #[en P (Str.ofString "__module__") 629 (Value.str (Str.ofString "clausemill.store") 414), en P (Str.ofString "__firstlineno__") 633 (Value.int 198 632), en P (Str.ofString "new_struct") 647 (Value.ref 341), en P (Str.ofString "build_list") 662 (Value.ref 349), en P (Str.ofString "list_cells") 670 (Value.ref 356), en P (Str.ofString "put_term") 688 (Value.ref 363), en P (Str.ofString "take_term") 697 (Value.ref 370), en P (Str.ofString "__static_attributes__") 698 (Value.ref 371), en P (Str.ofString "__doc__") 699 (Value.none)] 2 }),
  (373, { cls := Value.type "type", data := Data.cls { name := Str.ofString "Store", bases := [Value.ref 323], mro := [Value.ref 373, Value.ref 323, Value.type "object"], ns := 372, qualname := Str.ofString "Store" }, slots := #[some (Value.ref 328), none, some (Value.str (Str.ofString "Store") 622), some (Value.str (Str.ofString "Store") 630), some (Value.builtin "object.__new__"), some (Value.bool true)] }),
  (381, { cls := Value.type "code", data := Data.fields #[Value.str (Str.ofString "_law_row") 704, Value.str (Str.ofString "_law_row") 705, Value.str (Str.ofString "/claim/cut.py") 706, Value.int 275 0, Value.int 1 0, Value.int 0 0, Value.int 0 0, Value.int 3 0, Value.ref 376, Value.bool true, Value.int 181 0, Value.ref 377, Value.none, Value.ref 378, Value.ref 379, Value.ref 380, Value.int 712 0, Value.int 275 0, Value.str (Str.ofString "/claim/cut.py") 713] }),
  (382, fob (topSt 29) (Str.ofString "_law_row") (Value.none) (Value.str (Str.ofString "law_no0170_01") 702) 381),
  (388, { cls := Value.type "code", data := Data.fields #[Value.str (Str.ofString "_law_next") 715, Value.str (Str.ofString "_law_next") 716, Value.str (Str.ofString "/claim/cut.py") 717, Value.int 288 0, Value.int 1 0, Value.int 0 0, Value.int 0 0, Value.int 3 0, Value.ref 383, Value.bool true, Value.int 181 0, Value.ref 384, Value.none, Value.ref 385, Value.ref 386, Value.ref 387, Value.int 719 0, Value.int 288 0, Value.str (Str.ofString "/claim/cut.py") 720] }),
  (389, fob (topSt 30) (Str.ofString "_law_next") (Value.none) (Value.str (Str.ofString "law_no0170_01") 702) 388),
  (393, { cls := Value.type "code", data := Data.fields #[Value.str (Str.ofString "_law_deed") 722, Value.str (Str.ofString "_law_deed") 723, Value.str (Str.ofString "/claim/cut.py") 724, Value.int 290 0, Value.int 2 0, Value.int 0 0, Value.int 0 0, Value.int 3 0, Value.ref 390, Value.bool true, Value.int 181 0, Value.ref 391, Value.none, Value.none, Value.none, Value.ref 392, Value.int 725 0, Value.int 290 0, Value.str (Str.ofString "/claim/cut.py") 726] }),
  (394, fob (topSt 31) (Str.ofString "_law_deed") (Value.none) (Value.str (Str.ofString "law_no0170_01") 702) 393),
  (400, { cls := Value.type "code", data := Data.fields #[Value.str (Str.ofString "law") 728, Value.str (Str.ofString "law") 729, Value.str (Str.ofString "/claim/cut.py") 730, Value.int 318 0, Value.int 1 0, Value.int 0 0, Value.int 0 0, Value.int 3 0, Value.ref 395, Value.bool true, Value.int 181 0, Value.ref 396, Value.none, Value.ref 397, Value.ref 398, Value.ref 399, Value.int 746 0, Value.int 318 0, Value.str (Str.ofString "/claim/cut.py") 747] }),
  (401, fob (topSt 32) (Str.ofString "law") (Value.none) (Value.str (Str.ofString "law_no0170_01") 702) 400)]
def kfA : List Addr := [3, 30, 31, 47, 48, 50, 51, 59, 60, 66, 67, 80, 81, 87, 88, 101, 102, 108, 109, 122, 123, 153, 154, 164, 165, 171, 172, 178, 179, 187, 193, 194, 200, 201, 207, 208, 214, 215, 221, 222, 228, 229, 256, 257, 305, 306, 319, 320, 322, 323, 340, 341, 342, 348, 349, 362, 363, 372, 373, 381, 382, 388, 389, 393, 394, 400, 401]
theorem kfA_eq : ∀ P, kfA = (kf P).map (·.1) := fun _ => by kernel_rfl

/-! MTree -/
/-- the top's run on the tree heap -/
noncomputable def topRunT (tb : String → Option Builtin) (p : Program) (w : World) (n₀ : Nat) (ann : Option Value) : Nat → SharedT → Thread → Option SharedT
  | 0, _, _ => none
  | n + 1, s, t => match through t with
    | true => some s
    | false => match PySem.W.Fast.tw6613529449190102663 n₀ ann t with
      | false => none
      | true => match PySem.W.Fast.tw10156331382660048174 (PySem.W.Fast.tw11892475500146522536 tb) p w s t with
        | some r => topRunT tb p w n₀ ann n r.1 r.2
        | none => none
theorem topRunT_of {tb : String → Option Builtin} {p : Program} {w : World} {n₀ : Nat} {ann : Option Value} : ∀ {n : Nat} {s s' : SharedT} {t : Thread}, topRunT tb p w n₀ ann n s t = some s' → topRun tb p w n₀ ann n s.abs t = some s'.abs
  | 0, _, _, _, h => by cases h
  | n + 1, s, s', t, h => by
    unfold topRunT at h
    rw [← PySem.W.Fast.te6613529449190102663, ← PySem.W.Fast.te10156331382660048174, ← PySem.W.Fast.te11892475500146522536] at h
    unfold topRun
    cases h1 : through t with
    | true => rw [h1] at h; cases h; rfl
    | false =>
      rw [h1] at h
      cases h2 : stepOk n₀ ann t with
      | false => rw [h2] at h; cases h
      | true =>
        rw [h2] at h
        cases h3 : stepT (denote tb) p w s t with
        | none => rw [h3] at h; cases h
        | some r =>
          rw [h3] at h
          rw [stepT_spec h3]
          exact topRunT_of h
def treeOf : List Obj → Nat → BT → BT
  | [], _, t => t
  | o :: r, n, t => treeOf r (n + 1) (t.ins n o)
noncomputable def bootT (P : Params) : BT := treeOf (boot_heap P).objs.toList 0 .nil
noncomputable def sT (w : World) (os : OsState) : SharedT := ⟨bootT w.params, 11, (boot_heap w.params).life, Array.mk [], boot_drawn, boot_toks, os⟩
theorem sT_abs (w : World) (os : OsState) : (sT w os).abs = ⟨boot_heap w.params, Array.mk [], boot_drawn, boot_toks, os⟩ := by kernel_rfl
theorem boot_size (P : Params) : (boot_heap P).objs.size = 11 := by kernel_rfl
theorem boot_ann (P : Params) : (boot_heap P).nsMap mainGlobals "__annotations__" = some (.ref 6) := by kernel_rfl
theorem boot_ns (P : Params) : ((boot_heap P).isNs mainGlobals && (Array.mk [] : Array GenState).size == 0) = true := by kernel_rfl

/-! MLeft -/
noncomputable def viw : Program := view PySem.Challenge.pw_no0170_01 [32]
def looseN : List Str := [Str.ofString "_wall", Str.ofString "ClausemillError", Str.ofString "PrologError", Str.ofString "A_NIL", Str.ofString "A_SYSTEM", Str.ofString "F_DOT", Str.ofString "F_MINUS1", Str.ofString "F_MINUS", Str.ofString "F_ERROR", Str.ofString "F_CATCH", Str.ofString "fixed_atoms", Str.ofString "fixed_functors", Str.ofString "Symbols", Str.ofString "system_error", Str.ofString "formal_of", Str.ofString "resource_error", Str.ofString "REF", Str.ofString "SRF", Str.ofString "STR", Str.ofString "LIS", Str.ofString "CON", Str.ofString "INT", Str.ofString "FUN", Str.ofString "Cells", Str.ofString "Store", Str.ofString "_law_row", Str.ofString "_law_next", Str.ofString "_law_deed"]
theorem ran (w : World) (os : OsState) : (topRunT PySem.W.Fast.tw14364793385576792824 PySem.Challenge.pw_no0170_01 w 11 (some (.ref 6)) 6000 (sT w os) (topStub PySem.Challenge.pw_no0170_01)).map (fun s =>
    ((staticsOk (importedModules PySem.Challenge.pw_no0170_01.main.body) (boot_heap w.params) s.abs.heap && namesBound PySem.Challenge.pw_no0170_01 s.abs.heap && gensDone s.abs && laidKept (boot_heap w.params) s.abs.heap),
      PySem.W.Fast.tw4187177175401517315 viw looseN (PySem.W.Fast.tw5923862056798008813 PySem.Challenge.pw_no0170_01.main.body) (fun _ => true) true s.abs, kfA.map s.abs.heap.get?)) = some (true, openGood viw looseN, (kf w.params).map fun p => some p.2) := by kernel_rfl
theorem left_of {p q : Program} {loose : List Str} {Xt : Shared → Bool} {α : Type} {Yf : Shared → α} {Ya : World → α} {N m₀ : Nat} {ann : Option Value} {H : Params → Heap} {gs : Array GenState} {d : Drawn} {k : Nat}
    (open_ : ∀ w : World, (fencedOpening treeTable p w N).map (fun s => (s.heap, s.gens, s.drawn, s.toks)) = some (H w.params, gs, d, k))
    (z1 : ∀ P, ((H P).isNs mainGlobals && gs.size == 0) = true) (z2 : ∀ P, (H P).objs.size = m₀) (z3 : ∀ P, (H P).nsMap mainGlobals "__annotations__" = ann)
    (run : ∀ (w : World) (os : OsState), ∃ s₁ : Shared, topRun treeTable p w m₀ ann N ⟨H w.params, gs, d, k, os⟩ (topStub p) = some s₁ ∧
      (staticsOk (importedModules p.main.body) (H w.params) s₁.heap && namesBound p s₁.heap && gensDone s₁ && laidKept (H w.params) s₁.heap) = true ∧ openSeen q loose (importedModules p.main.body) Xt true s₁ = openGood q loose ∧ Yf s₁ = Ya w) : LeftO p q loose Xt Yf Ya N := fun w => by
  have o := open_ w
  cases e : fencedOpening treeTable p w N with
  | none => rw [e] at o; cases o
  | some s₀ =>
    rw [e] at o
    injection o with o
    injection o with o1 o
    injection o with o2 o
    injection o with o3 o4
    obtain ⟨s₁, r, l1, l2, l3⟩ := run w s₀.os
    have hs : s₀ = ⟨H w.params, gs, d, k, s₀.os⟩ := by rw [← o1, ← o2, ← o3, ← o4]
    have y1 : (s₀.heap.isNs mainGlobals && s₀.gens.size == 0) = true := by rw [o1, o2]; exact z1 _
    have y2 : s₀.heap.objs.size = m₀ := by rw [o1]; exact z2 _
    have y3 : s₀.heap.nsMap mainGlobals "__annotations__" = ann := by rw [o1]; exact z3 _
    rw [← hs] at r
    rw [← o1] at l1
    simp only [openEnds, e, topFrom, y1, y2, y3, r, l1, Option.bind_some, Option.map_some, l2, l3]
theorem ran_of {p q : Program} {loose : List Str} {Xt : Shared → Bool} {α : Type} {Yf : Shared → α} {y : α} {N m₀ : Nat} {ann : Option Value} {H : Heap} {w : World} {s : SharedT} {S : Shared} (hs : s.abs = S)
    (e : (topRunT PySem.W.Fast.tw14364793385576792824 p w m₀ ann N s (topStub p)).map (fun s =>
      ((staticsOk (importedModules p.main.body) H s.abs.heap && namesBound p s.abs.heap && gensDone s.abs && laidKept H s.abs.heap), PySem.W.Fast.tw4187177175401517315 q loose (PySem.W.Fast.tw5923862056798008813 p.main.body) Xt true s.abs, Yf s.abs)) = some (true, openGood q loose, y)) :
    ∃ s₁ : Shared, topRun treeTable p w m₀ ann N S (topStub p) = some s₁ ∧
      (staticsOk (importedModules p.main.body) H s₁.heap && namesBound p s₁.heap && gensDone s₁ && laidKept H s₁.heap) = true ∧ openSeen q loose (importedModules p.main.body) Xt true s₁ = openGood q loose ∧ Yf s₁ = y := by
  obtain ⟨s₁, f, f'⟩ := Option.map_eq_some_iff.mp e
  rw [← PySem.W.Fast.te4187177175401517315, ← PySem.W.Fast.te5923862056798008813] at f'
  rw [← PySem.W.Fast.te14364793385576792824] at f
  injection f' with l1 l23
  injection l23 with l2 l3
  exact ⟨s₁.abs, hs ▸ topRunT_of f, l1, l2, l3⟩
theorem boot_is (w : World) : (fencedOpening treeTable PySem.Challenge.pw_no0170_01 w 6000).map (fun s => (s.heap, s.gens, s.drawn, s.toks)) = some (boot_heap w.params, Array.mk [], boot_drawn, boot_toks) :=
  boot_open (by kernel_rfl) (by kernel_rfl) (fun _ => by kernel_rfl) w
theorem left : LeftO PySem.Challenge.pw_no0170_01 viw looseN (fun _ => true) (fun s => kfA.map s.heap.get?) (fun w => (kf w.params).map fun p => some p.2) 6000 :=
  left_of boot_is boot_ns boot_size boot_ann fun w os => ran_of (sT_abs w os) (ran w os)

/-! MCore -/
/-! plain data -/
inductive MV where
  | none
  | bool (b : Bool)
  | int (i : Int)
  | str (x : Str)
  | tup (vs : List MV)
  | obj (i : Nat)
  | raw (v : Value)
  | box (k i : Nat)

inductive MO where
  | list (xs : List MV)
  | inst (c : Addr) (fs : List (Str × MV))
  | sdict (fs : List (Str × MV))
  | pdict (fs : List (List Int × MV))
  | exc (c : Addr) (fresh : Bool) (fs : List (Str × MV))
  | dead
  | cell (v : Option MV)

mutual
def MV.under (n : Nat) : MV → Bool
  | .obj i => Nat.blt i n
  | .tup vs => MV.unders n vs
  | _ => true
def MV.unders (n : Nat) : List MV → Bool
  | [] => true
  | v :: r => MV.under n v && MV.unders n r
end
def fldUnder {α : Type} (n : Nat) : List (α × MV) → Bool
  | [] => true
  | f :: r => f.2.under n && fldUnder n r
def MO.under (n : Nat) : MO → Bool
  | .list xs => MV.unders n xs
  | .inst _ fs | .sdict fs | .exc _ _ fs => fldUnder n fs
  | .pdict fs => fldUnder n fs
  | .dead => true
  | .cell none => true
  | .cell (some v) => v.under n

abbrev Adrs := List (List Addr)

mutual
inductive RV (h : Heap) (ρ : Adrs) : Value → MV → Prop
  | none : RV h ρ .none .none
  | bool (b : Bool) : RV h ρ (.bool b) (.bool b)
  | int (i : Int) (t : Tok) : RV h ρ (.int i t) (.int i)
  | str (x : Str) (t : Tok) : RV h ρ (.str x t) (.str x)
  | tup {a : Addr} {vs : List Value} {ms : List MV} : IsTup h a vs.toArray → RVs h ρ vs ms → RV h ρ (.ref a) (.tup ms)
  | obj {i : Nat} {a : Addr} {r : List Addr} : ρ[i]? = some (a :: r) → RV h ρ (.ref a) (.obj i)
  | raw (v : Value) : RV h ρ v (.raw v)
inductive RVs (h : Heap) (ρ : Adrs) : List Value → List MV → Prop
  | nil : RVs h ρ [] []
  | cons {v : Value} {m : MV} {vs : List Value} {ms : List MV} : RV h ρ v m → RVs h ρ vs ms → RVs h ρ (v :: vs) (m :: ms)
end

/-- a growth of the memory that keeps tuples -/
structure TG (h h' : Heap) (ρ ρ' : Adrs) : Prop where
  grow : ρ <+: ρ'
  tup : ∀ a items, IsTup h a items → IsTup h' a items
theorem TG.refl (h : Heap) (ρ : Adrs) : TG h h ρ ρ := ⟨List.prefix_refl _, fun _ _ x => x⟩
theorem TG.trans {h₁ h₂ h₃ : Heap} {ρ₁ ρ₂ ρ₃ : Adrs} (x : TG h₁ h₂ ρ₁ ρ₂) (y : TG h₂ h₃ ρ₂ ρ₃) : TG h₁ h₃ ρ₁ ρ₃ :=
  ⟨x.grow.trans y.grow, fun a i t => y.tup a i (x.tup a i t)⟩
theorem prefix_get {α : Type} {l l' : List α} (p : l <+: l') {i : Nat} {a : α} (e : l[i]? = some a) : l'[i]? = some a := by
  obtain ⟨r, rfl⟩ := p
  rw [List.getElem?_append_left (List.getElem?_eq_some_iff.mp e).1]; exact e

mutual
theorem RV.mono {h h' : Heap} {ρ ρ' : Adrs} (g : TG h h' ρ ρ') : ∀ {v : Value} {m : MV}, RV h ρ v m → RV h' ρ' v m
  | _, _, .none => .none
  | _, _, .bool b => .bool b
  | _, _, .int i t => .int i t
  | _, _, .str x t => .str x t
  | _, _, .tup t r => .tup (g.tup _ _ t) (RVs.mono g r)
  | _, _, .obj e => .obj (prefix_get g.grow e)
  | _, _, .raw v => .raw v
theorem RVs.mono {h h' : Heap} {ρ ρ' : Adrs} (g : TG h h' ρ ρ') : ∀ {vs : List Value} {ms : List MV}, RVs h ρ vs ms → RVs h' ρ' vs ms
  | _, _, .nil => .nil
  | _, _, .cons a r => .cons (RV.mono g a) (RVs.mono g r)
end
mutual
theorem RV.under {h : Heap} {ρ : Adrs} : ∀ {v : Value} {m : MV}, RV h ρ v m → m.under ρ.length = true
  | _, _, .none => by simp [MV.under]
  | _, _, .bool b => by simp [MV.under]
  | _, _, .int i t => by simp [MV.under]
  | _, _, .str x t => by simp [MV.under]
  | _, _, .tup t r => by simpa [MV.under] using RVs.under r
  | _, _, .obj e => by
    have := (List.getElem?_eq_some_iff.mp e).1
    simpa [MV.under, Nat.blt_eq] using this
  | _, _, .raw v => by simp [MV.under]
theorem RVs.under {h : Heap} {ρ : Adrs} : ∀ {vs : List Value} {ms : List MV}, RVs h ρ vs ms → MV.unders ρ.length ms = true
  | _, _, .nil => by simp [MV.unders]
  | _, _, .cons a r => by simp [MV.unders, RV.under a, RVs.under r]
end
mutual
theorem RV.take {h : Heap} {ρ : Adrs} {k : Nat} : ∀ {v : Value} {m : MV}, RV h ρ v m → m.under k = true → RV h (ρ.take k) v m
  | _, _, .none, _ => .none
  | _, _, .bool b, _ => .bool b
  | _, _, .int i t, _ => .int i t
  | _, _, .str x t, _ => .str x t
  | _, _, .tup t r, u => .tup t (RVs.take r (by simpa [MV.under] using u))
  | _, _, .obj (i := i) e, u =>
    have hi : i < k := by simpa [MV.under, Nat.blt_eq] using u
    .obj (by rw [List.getElem?_take, if_pos hi]; exact e)
  | _, _, .raw v, _ => .raw v
theorem RVs.take {h : Heap} {ρ : Adrs} {k : Nat} : ∀ {vs : List Value} {ms : List MV}, RVs h ρ vs ms → MV.unders k ms = true → RVs h (ρ.take k) vs ms
  | _, _, .nil, _ => .nil
  | _, _, .cons (m := m) (ms := ms) a r, u =>
    have u' : MV.under k m = true ∧ MV.unders k ms = true := by simpa [MV.unders] using u
    .cons (RV.take a u'.1) (RVs.take r u'.2)
end
mutual
theorem MV.under_mono {j k : Nat} (hjk : j ≤ k) : ∀ {m : MV}, m.under j = true → m.under k = true
  | .obj i, u => by
    have : i < j := by simpa [MV.under, Nat.blt_eq] using u
    simpa [MV.under, Nat.blt_eq] using (Nat.lt_of_lt_of_le this hjk)
  | .tup vs, u => by simpa [MV.under] using MV.unders_mono hjk (ms := vs) (by simpa [MV.under] using u)
  | .none, _ | .bool _, _ | .int _, _ | .str _, _ | .raw _, _ | .box _ _, _ => by simp [MV.under]
theorem MV.unders_mono {j k : Nat} (hjk : j ≤ k) : ∀ {ms : List MV}, MV.unders j ms = true → MV.unders k ms = true
  | [], _ => by simp [MV.unders]
  | m :: r, u => by
    have u' : MV.under j m = true ∧ MV.unders j r = true := by simpa [MV.unders] using u
    simp [MV.unders, MV.under_mono hjk u'.1, MV.unders_mono hjk u'.2]
end
theorem RVs.length {h : Heap} {ρ : Adrs} : ∀ {vs : List Value} {ms : List MV}, RVs h ρ vs ms → vs.length = ms.length
  | _, _, .nil => rfl
  | _, _, .cons _ r => by simp [RVs.length r]
theorem RVs.get {h : Heap} {ρ : Adrs} : ∀ {vs : List Value} {ms : List MV}, RVs h ρ vs ms → ∀ {i : Nat} {m : MV}, ms[i]? = some m → ∃ v, vs[i]? = some v ∧ RV h ρ v m
  | _, _, .nil, i, m, e => by simp at e
  | _, _, .cons (v := v) a r, 0, m, e => by
    simp at e; subst e; exact ⟨v, by simp, a⟩
  | _, _, .cons a r, i + 1, m, e => by
    simp at e
    obtain ⟨v, hv, hr⟩ := RVs.get r e
    exact ⟨v, by simpa using hv, hr⟩
theorem RVs.append {h : Heap} {ρ : Adrs} : ∀ {vs : List Value} {ms : List MV}, RVs h ρ vs ms → ∀ {ws : List Value} {ns : List MV}, RVs h ρ ws ns → RVs h ρ (vs ++ ws) (ms ++ ns)
  | _, _, .nil, _, _, k => k
  | _, _, .cons a r, _, _, k => .cons a (RVs.append r k)
theorem RVs.takeN {h : Heap} {ρ : Adrs} : ∀ {vs : List Value} {ms : List MV}, RVs h ρ vs ms → ∀ n : Nat, RVs h ρ (vs.take n) (ms.take n)
  | _, _, .nil, _ => by simp; exact .nil
  | _, _, .cons _ _, 0 => by simp; exact .nil
  | _, _, .cons a r, n + 1 => by simpa using RVs.cons a (RVs.takeN r n)
theorem RVs.dropN {h : Heap} {ρ : Adrs} : ∀ {vs : List Value} {ms : List MV}, RVs h ρ vs ms → ∀ n : Nat, RVs h ρ (vs.drop n) (ms.drop n)
  | _, _, .nil, _ => by simp; exact .nil
  | _, _, .cons a r, 0 => by simpa using RVs.cons a r
  | _, _, .cons a r, n + 1 => by simpa using RVs.dropN r n
theorem RVs.reverse {h : Heap} {ρ : Adrs} : ∀ {vs : List Value} {ms : List MV}, RVs h ρ vs ms → RVs h ρ vs.reverse ms.reverse
  | _, _, .nil => by simp; exact .nil
  | _, _, .cons a r => by simpa using RVs.append (RVs.reverse r) (.cons a .nil)
theorem RVs.set {h : Heap} {ρ : Adrs} : ∀ {vs : List Value} {ms : List MV}, RVs h ρ vs ms → ∀ (i : Nat) {v : Value} {m : MV}, RV h ρ v m → RVs h ρ (vs.set i v) (ms.set i m)
  | _, _, .nil, _, _, _, _ => by simp; exact .nil
  | _, _, .cons a r, 0, _, _, k => by simpa using RVs.cons k r
  | _, _, .cons a r, i + 1, _, _, k => by simpa using RVs.cons a (RVs.set r i k)
/-- same length, related place by place -/
theorem RVs.of_get {h : Heap} {ρ : Adrs} : ∀ {vs : List Value} {ms : List MV}, vs.length = ms.length → (∀ (i : Nat) (v : Value) (m : MV), vs[i]? = some v → ms[i]? = some m → RV h ρ v m) → RVs h ρ vs ms
  | [], [], _, _ => .nil
  | [], _ :: _, e, _ => by simp at e
  | _ :: _, [], e, _ => by simp at e
  | v :: vs, m :: ms, e, k => .cons (k 0 v m (by simp) (by simp)) (RVs.of_get (by simpa using e) fun (i : Nat) v' m' hv hm => k (i + 1) v' m' (by simpa using hv) (by simpa using hm))

/-! entries of a namespace-like dict -/
inductive REs (P : Params) (h : Heap) (ρ : Adrs) : List DictEntry → List (Str × MV) → Prop
  | nil : REs P h ρ [] []
  | cons {x : Str} {t : Tok} {v : Value} {m : MV} {es : List DictEntry} {fs : List (Str × MV)} : RV h ρ v m → REs P h ρ es fs →
      REs P h ρ (⟨PyData.keyHash P x, .str x t, v⟩ :: es) ((x, m) :: fs)
theorem REs.mono {P : Params} {h h' : Heap} {ρ ρ' : Adrs} (g : TG h h' ρ ρ') {es : List DictEntry} {fs : List (Str × MV)} (r : REs P h ρ es fs) : REs P h' ρ' es fs := by
  induction r with
  | nil => exact .nil
  | cons a _ ih => exact .cons (a.mono g) ih
theorem REs.under {P : Params} {h : Heap} {ρ : Adrs} {es : List DictEntry} {fs : List (Str × MV)} (r : REs P h ρ es fs) : fldUnder ρ.length fs = true := by
  induction r with
  | nil => rfl
  | cons a _ ih => simp [fldUnder, a.under, ih]
theorem REs.take {P : Params} {h : Heap} {ρ : Adrs} {k : Nat} {es : List DictEntry} {fs : List (Str × MV)} (r : REs P h ρ es fs) (u : fldUnder k fs = true) : REs P h (ρ.take k) es fs := by
  induction r with
  | nil => exact .nil
  | cons a _ ih =>
    simp only [fldUnder, Bool.and_eq_true] at u
    exact .cons (a.take u.1) (ih u.2)
theorem REs.length {P : Params} {h : Heap} {ρ : Adrs} {es : List DictEntry} {fs : List (Str × MV)} (r : REs P h ρ es fs) : es.length = fs.length := by
  induction r with
  | nil => rfl
  | cons _ _ ih => simp [ih]

/-! MCore2 -/
structure Cfg where
  prog : Program
  w : World
  base : Heap
  os : OsState
  kin : (kf w.params).In base
  top : ∃ p loose mg mb, TopRead p loose mg mb base
noncomputable abbrev Cfg.K (C : Cfg) : Frag := kf C.w.params

inductive KVs (h : Heap) (ρ : Adrs) : List (Str × Value) → List (Str × MV) → Prop
  | nil : KVs h ρ [] []
  | cons {x : Str} {v : Value} {m : MV} {kvs : List (Str × Value)} {fs : List (Str × MV)} : RV h ρ v m → KVs h ρ kvs fs → KVs h ρ ((x, v) :: kvs) ((x, m) :: fs)
inductive PVs (h : Heap) (ρ : Adrs) : List (List Int × Addr × Value) → List (List Int × MV) → Prop
  | nil : PVs h ρ [] []
  | cons {x : List Int} {a : Addr} {v : Value} {m : MV} {kvs : List (List Int × Addr × Value)} {fs : List (List Int × MV)} : RV h ρ v m → PVs h ρ kvs fs → PVs h ρ ((x, a, v) :: kvs) ((x, m) :: fs)
theorem KVs.mono {h h' : Heap} {ρ ρ' : Adrs} (g : TG h h' ρ ρ') {es : List (Str × Value)} {fs : List (Str × MV)} (r : KVs h ρ es fs) : KVs h' ρ' es fs := by
  induction r with
  | nil => exact .nil
  | cons a _ ih => exact .cons (a.mono g) ih
theorem KVs.under {h : Heap} {ρ : Adrs} {es : List (Str × Value)} {fs : List (Str × MV)} (r : KVs h ρ es fs) : fldUnder ρ.length fs = true := by
  induction r with
  | nil => rfl
  | cons a _ ih => simp [fldUnder, a.under, ih]
theorem KVs.take {h : Heap} {ρ : Adrs} {k : Nat} {es : List (Str × Value)} {fs : List (Str × MV)} (r : KVs h ρ es fs) (u : fldUnder k fs = true) : KVs h (ρ.take k) es fs := by
  induction r with
  | nil => exact .nil
  | cons a _ ih =>
    simp only [fldUnder, Bool.and_eq_true] at u
    exact .cons (a.take u.1) (ih u.2)
theorem PVs.mono {h h' : Heap} {ρ ρ' : Adrs} (g : TG h h' ρ ρ') {es : List (List Int × Addr × Value)} {fs : List (List Int × MV)} (r : PVs h ρ es fs) : PVs h' ρ' es fs := by
  induction r with
  | nil => exact .nil
  | cons a _ ih => exact .cons (a.mono g) ih
theorem PVs.under {h : Heap} {ρ : Adrs} {es : List (List Int × Addr × Value)} {fs : List (List Int × MV)} (r : PVs h ρ es fs) : fldUnder ρ.length fs = true := by
  induction r with
  | nil => rfl
  | cons a _ ih => simp [fldUnder, a.under, ih]
theorem PVs.take {h : Heap} {ρ : Adrs} {k : Nat} {es : List (List Int × Addr × Value)} {fs : List (List Int × MV)} (r : PVs h ρ es fs) (u : fldUnder k fs = true) : PVs h (ρ.take k) es fs := by
  induction r with
  | nil => exact .nil
  | cons a _ ih =>
    simp only [fldUnder, Bool.and_eq_true] at u
    exact .cons (a.take u.1) (ih u.2)

/-- an object of the memory, as it lies in the heap -/
inductive RO (prog : Program) (w : World) (h : Heap) (ρ : Adrs) : List Addr → MO → Prop
  | list {a : Addr} {vs : List Value} {ms : List MV} : h.PlainList a vs.toArray → RVs h ρ vs ms → RO prog w h ρ [a] (.list ms)
  | inst {a d c : Addr} {es : List DictEntry} {n : Nat} {fs : List (Str × MV)} : h.get? a = some (instObj c d) → h.get? d = some (dictOf es n) → REs w.params h ρ es fs → RO prog w h ρ [a, d] (.inst c fs)
  | exc {a d c : Addr} {vs : Array Value} {es : List DictEntry} {n : Nat} {fs : List (Str × MV)} {b : Bool} : h.get? a = some { cls := .ref c, dict := some d, data := .fields vs } → h.get? d = some (dictOf es n) → REs w.params h ρ es fs →
      (b = true → ∃ t, vs = #[.ref t, .none, .none, .none, .bool false, .none]) → RO prog w h ρ [a, d] (.exc c b fs)
  | sdict {a : Addr} {kvs : List (Str × Value)} {fs : List (Str × MV)} : h.DictOf (strKind prog w) a kvs → KVs h ρ kvs fs → RO prog w h ρ [a] (.sdict fs)
  | pdict {a : Addr} {xs : List (List Int × Addr × Value)} {fs : List (List Int × MV)} : h.DictOfH (tupleKind (intKind prog w)) a xs → PVs h ρ xs fs → RO prog w h ρ [a] (.pdict fs)
  | dead {as : List Addr} : RO prog w h ρ as .dead
  | cell0 {a : Addr} : h.IsCell a none → RO prog w h ρ [a] (.cell none)
  | cell1 {a : Addr} {v : Value} {m : MV} : h.IsCell a (some v) → RV h ρ v m → RO prog w h ρ [a] (.cell (some m))

section
variable {prog : Program} {w : World} {h h' : Heap} {ρ ρ' : Adrs} {as : List Addr} {mo : MO}
theorem RO.mono (g : TG h h' ρ ρ') (k : ∀ b ∈ as, ∀ o, h.get? b = some o → h'.get? b = some o) (r : RO prog w h ρ as mo) : RO prog w h' ρ' as mo := by
  cases r with
  | list l r => exact .list (let ⟨n, ho⟩ := l; ⟨n, k _ (by simp) _ ho⟩) (r.mono g)
  | inst a b r => exact .inst (k _ (by simp) _ a) (k _ (by simp) _ b) (r.mono g)
  | exc a b r f => exact .exc (k _ (by simp) _ a) (k _ (by simp) _ b) (r.mono g) f
  | sdict d r => exact .sdict (let ⟨o, es, ep, ho, x⟩ := d; ⟨o, es, ep, k _ (by simp) _ ho, x⟩) (r.mono g)
  | pdict d r =>
    refine .pdict (let ⟨o, es, ep, ho, x1, x2, x3, x4, x5⟩ := d; ⟨o, es, ep, k _ (by simp) _ ho, x1, x2, x3, fun x hx => ?_, x5⟩) (r.mono g)
    obtain ⟨o', it, n, y1, y2, y3, y4⟩ := x4 x hx
    obtain ⟨o'', z1, z2, m, z3⟩ := g.tup _ _ ⟨o', y1, y2, n, y3⟩
    exact ⟨o'', it, m, z1, z2, z3, y4⟩
  | dead => exact .dead
  | cell0 l => exact .cell0 (let ⟨o, ho, hd⟩ := l; ⟨o, k _ (by simp) _ ho, hd⟩)
  | cell1 l r => exact .cell1 (let ⟨o, ho, hd⟩ := l; ⟨o, k _ (by simp) _ ho, hd⟩) (r.mono g)
theorem RO.under (r : RO prog w h ρ as mo) : mo.under ρ.length = true := by
  cases r with
  | list l r => exact r.under
  | inst a b r => exact r.under
  | exc a b r _ => exact r.under
  | sdict d r => exact r.under
  | pdict d r => exact r.under
  | dead => rfl
  | cell0 l => rfl
  | cell1 l r => exact r.under
theorem RO.take {k : Nat} (r : RO prog w h ρ as mo) (u : mo.under k = true) : RO prog w h (ρ.take k) as mo := by
  cases r with
  | list l r => exact .list l (r.take u)
  | inst a b r => exact .inst a b (r.take u)
  | exc a b r f => exact .exc a b (r.take u) f
  | sdict d r => exact .sdict d (r.take u)
  | pdict d r => exact .pdict d (r.take u)
  | dead => exact .dead
  | cell0 l => exact .cell0 l
  | cell1 l r => exact .cell1 l (r.take u)
/-- no object of the memory is a tuple -/
theorem RO.notTup (r : RO prog w h ρ as mo) (hd : mo ≠ .dead) {b : Addr} (hb : b ∈ as) {items : Array Value} (t : IsTup h b items) : False := by
  obtain ⟨o, ho, hc, n, hdt⟩ := t
  cases r with
  | list l r =>
    obtain ⟨n', ho'⟩ := l
    rw [List.mem_singleton.mp hb, ho'] at ho; cases ho; exact absurd (show Value.type "list" = Value.type "tuple" from hc) (by decide)
  | inst a b' r =>
    rcases List.mem_cons.mp hb with e | hb
    · rw [e, a] at ho; cases ho; exact absurd hc (by simp)
    · rw [List.mem_singleton.mp hb, b'] at ho; cases ho; exact absurd (show Value.type "dict" = Value.type "tuple" from hc) (by decide)
  | exc a b' r _ =>
    rcases List.mem_cons.mp hb with e | hb
    · rw [e, a] at ho; cases ho; exact absurd hc (by simp)
    · rw [List.mem_singleton.mp hb, b'] at ho; cases ho; exact absurd (show Value.type "dict" = Value.type "tuple" from hc) (by decide)
  | sdict d r =>
    obtain ⟨o', es, ep, ho', _, hd', _⟩ := d
    rw [List.mem_singleton.mp hb, ho'] at ho; cases ho; rw [hdt] at hd'; cases hd'
  | pdict d r =>
    obtain ⟨o', es, ep, ho', _, hd', _⟩ := d
    rw [List.mem_singleton.mp hb, ho'] at ho; cases ho; rw [hdt] at hd'; cases hd'
  | dead => exact hd rfl
  | cell0 l =>
    obtain ⟨o', ho', hd'⟩ := l
    rw [List.mem_singleton.mp hb, ho'] at ho; cases ho; rw [hdt] at hd'; cases hd'
  | cell1 l r =>
    obtain ⟨o', ho', hd'⟩ := l
    rw [List.mem_singleton.mp hb, ho'] at ho; cases ho; rw [hdt] at hd'; cases hd'
end

def fa (fs : List Env) : List Addr := fs.filterMap (·.frame)

inductive ROs (prog : Program) (w : World) (h : Heap) (ρ : Adrs) : Adrs → List MO → Prop
  | nil : ROs prog w h ρ [] []
  | cons {as : List Addr} {mo : MO} {r : Adrs} {σ : List MO} : RO prog w h ρ as mo → ROs prog w h ρ r σ → ROs prog w h ρ (as :: r) (mo :: σ)

structure Mem (C : Cfg) (fs : List Env) (s : Shared) (ρ : Adrs) (σ : List MO) : Prop where
  stay : C.base.StaysIn s.heap
  gens : s.gens = #[]
  os : s.os = C.os
  frames : s.heap.FunFrames C.base fs
  objs : ROs C.prog C.w s.heap ρ ρ σ
  nodup : ρ.flatten.Nodup
  off : ∀ b ∈ ρ.flatten, C.base.get? b = none ∧ b ∉ fa fs ∧ ∃ o, s.heap.get? b = some o
  nosys : sysModules ∉ ρ.flatten

structure Step (fs : List Env) (X : List Addr) (h h' : Heap) (ρ ρ' : Adrs) : Prop where
  tg : TG h h' ρ ρ'
  new : ∀ b ∈ ρ'.flatten, b ∈ ρ.flatten ∨ h.get? b = none
  keep : ∀ b o, h.get? b = some o → b ∉ ρ.flatten → b ∉ fa fs → h'.get? b = some o
  slot : ∀ b o, h.get? b = some o → b ∈ fa fs → b ∉ X → ∃ sl, h'.get? b = some { o with slots := sl }
  alive : ∀ b o, h.get? b = some o → ∃ o', h'.get? b = some o'

theorem Step.refl (fs : List Env) (X : List Addr) (h : Heap) (ρ : Adrs) : Step fs X h h ρ ρ :=
  ⟨.refl _ _, fun _ hb => .inl hb, fun _ _ e _ _ => e, fun _ o e _ _ => ⟨o.slots, e⟩, fun _ o e => ⟨o, e⟩⟩
theorem Step.trans {fs : List Env} {X : List Addr} {h₁ h₂ h₃ : Heap} {ρ₁ ρ₂ ρ₃ : Adrs} (x : Step fs X h₁ h₂ ρ₁ ρ₂) (y : Step fs X h₂ h₃ ρ₂ ρ₃) : Step fs X h₁ h₃ ρ₁ ρ₃ where
  tg := x.tg.trans y.tg
  new := fun b hb => by
    rcases y.new b hb with h | h
    · exact x.new b h
    · right
      cases q : h₁.get? b with
      | none => rfl
      | some o => obtain ⟨o', e⟩ := x.alive b o q; rw [h] at e; cases e
  keep := fun b o e n f => y.keep b o (x.keep b o e n f) (fun hb => (x.new b hb).elim n fun q => by rw [e] at q; cases q) f
  slot := fun b o e f n => by
    obtain ⟨sl, e₂⟩ := x.slot b o e f n
    obtain ⟨sl', e₃⟩ := y.slot b _ e₂ f n
    exact ⟨sl', e₃⟩
  alive := fun b o e => let ⟨o', e'⟩ := x.alive b o e; y.alive b o' e'
theorem Step.mono {fs : List Env} {X Y : List Addr} {h h' : Heap} {ρ ρ' : Adrs} (x : Step fs X h h' ρ ρ') (k : ∀ b ∈ X, b ∈ Y) : Step fs Y h h' ρ ρ' :=
  ⟨x.tg, x.new, x.keep, fun b o e f n => x.slot b o e f fun hb => n (k b hb), x.alive⟩

section
variable {C : Cfg} {fs : List Env} {X : List Addr} {s s' : Shared} {h h' : Heap} {ρ ρ' : Adrs} {σ : List MO}
theorem ROs.get {prog : Program} {w : World} {h : Heap} {ρ₀ : Adrs} : ∀ {ρ : Adrs} {σ : List MO}, ROs prog w h ρ₀ ρ σ → ∀ {i : Nat} {mo : MO}, σ[i]? = some mo → ∃ as, ρ[i]? = some as ∧ RO prog w h ρ₀ as mo
  | _, _, .nil, i, mo, e => by simp at e
  | _, _, .cons a r, 0, mo, e => by simp at e; subst e; exact ⟨_, by simp, a⟩
  | _, _, .cons a r, i + 1, mo, e => by
    simp at e
    obtain ⟨as, x, y⟩ := ROs.get r e
    exact ⟨as, by simpa using x, y⟩
theorem ROs.length {prog : Program} {w : World} {h : Heap} {ρ₀ : Adrs} : ∀ {ρ : Adrs} {σ : List MO}, ROs prog w h ρ₀ ρ σ → ρ.length = σ.length
  | _, _, .nil => rfl
  | _, _, .cons _ r => by simp [ROs.length r]
theorem ROs.of_get {prog : Program} {w : World} {h : Heap} {ρ₀ : Adrs} : ∀ {ρ : Adrs} {σ : List MO}, ρ.length = σ.length → (∀ (i : Nat) (as : List Addr) (mo : MO), ρ[i]? = some as → σ[i]? = some mo → RO prog w h ρ₀ as mo) → ROs prog w h ρ₀ ρ σ
  | [], [], _, _ => .nil
  | [], _ :: _, e, _ => by simp at e
  | _ :: _, [], e, _ => by simp at e
  | a :: ρ, m :: σ, e, k => .cons (k 0 a m (by simp) (by simp)) (ROs.of_get (by simpa using e) fun (i : Nat) v' m' hv hm => k (i + 1) v' m' (by simpa using hv) (by simpa using hm))
theorem ROs.append {prog : Program} {w : World} {h : Heap} {ρ₀ : Adrs} : ∀ {ρ : Adrs} {σ : List MO}, ROs prog w h ρ₀ ρ σ → ∀ {r : Adrs} {t : List MO}, ROs prog w h ρ₀ r t → ROs prog w h ρ₀ (ρ ++ r) (σ ++ t)
  | _, _, .nil, _, _, k => k
  | _, _, .cons a r, _, _, k => .cons a (ROs.append r k)
theorem Mem.len (m : Mem C fs s ρ σ) : ρ.length = σ.length := m.objs.length
theorem Mem.get (m : Mem C fs s ρ σ) {i : Nat} {mo : MO} (e : σ[i]? = some mo) : ∃ as, ρ[i]? = some as ∧ RO C.prog C.w s.heap ρ as mo := m.objs.get e
theorem mem_flat {ρ : Adrs} {i : Nat} {as : List Addr} (e : ρ[i]? = some as) {b : Addr} (hb : b ∈ as) : b ∈ ρ.flatten := List.mem_flatten.mpr ⟨as, List.mem_of_getElem? e, hb⟩
/-- two places of the memory share no address -/
theorem flat_apart : ∀ {ρ : Adrs}, ρ.flatten.Nodup → ∀ {i j : Nat} {as bs : List Addr}, ρ[i]? = some as → ρ[j]? = some bs → i ≠ j → ∀ {b : Addr}, b ∈ as → b ∈ bs → False
  | [], _, i, j, _, _, e, _, _, _, _, _ => by simp at e
  | a :: ρ, nd, 0, 0, _, _, _, _, n, _, _, _ => n rfl
  | a :: ρ, nd, 0, j + 1, as, bs, e, e', n, b, ha, hb => by
    simp at e e'; subst e
    rw [List.flatten_cons] at nd
    exact (List.nodup_append.mp nd).2.2 b ha b (mem_flat e' hb) rfl
  | a :: ρ, nd, i + 1, 0, as, bs, e, e', n, b, ha, hb => by
    simp at e e'; subst e'
    rw [List.flatten_cons] at nd
    exact (List.nodup_append.mp nd).2.2 b hb b (mem_flat e ha) rfl
  | a :: ρ, nd, i + 1, j + 1, as, bs, e, e', n, b, ha, hb => by
    simp at e e'
    rw [List.flatten_cons] at nd
    exact flat_apart (List.nodup_append.mp nd).2.1 e e' (fun x => n (by rw [x])) ha hb
end

/-! MCore3 -/
section
variable {C : Cfg} {fs : List Env} {s : Shared} {h' : Heap} {ρ ρ' : Adrs} {σ : List MO}

theorem Mem.frame_there (m : Mem C fs s ρ σ) {b : Addr} (hb : b ∈ fa fs) : ∃ o, s.heap.get? b = some o := let ⟨o, ho, _⟩ := (m.frames.mem hb).2; ⟨o, ho⟩
theorem Mem.frame_base (m : Mem C fs s ρ σ) {b : Addr} (hb : b ∈ fa fs) : C.base.get? b = none := (m.frames.mem hb).1
theorem Mem.same {s' : Shared} (m : Mem C fs s ρ σ) (h1 : s'.heap = s.heap) (h2 : s'.gens = s.gens) (h3 : s'.os = s.os) : Mem C fs s' ρ σ :=
  ⟨h1 ▸ m.stay, h2 ▸ m.gens, h3 ▸ m.os, h1 ▸ m.frames, h1 ▸ m.objs, m.nodup, h1 ▸ m.off, m.nosys⟩

theorem tg_keeps {h h' : Heap} (k : ∀ b o, h.get? b = some o → h'.get? b = some o) (ρ : Adrs) : TG h h' ρ ρ :=
  ⟨List.prefix_refl _, fun _ _ ⟨o, ho, x⟩ => ⟨o, k _ _ ho, x⟩⟩

/-- everything stays as it is -/
theorem Mem.keeps {d : Drawn} {t : Nat} {os : OsState} {g : Array GenState} (m : Mem C fs s ρ σ) (k : ∀ b o, s.heap.get? b = some o → h'.get? b = some o) (hg : g = s.gens) (ho : os = s.os) : Mem C fs ⟨h', g, d, t, os⟩ ρ σ where
  stay := fun b o e => k b o (m.stay b o e)
  gens := hg.trans m.gens
  os := ho.trans m.os
  frames := m.frames.of_keeps fun b o e _ => ⟨o, k b o e, rfl⟩
  objs := .of_get m.len fun i as mo e e' => by
    obtain ⟨as', e₂, r⟩ := m.get e'
    rw [e] at e₂; cases e₂
    exact r.mono (tg_keeps k ρ) fun b _ o q => k b o q
  nodup := m.nodup
  off := fun b hb => ⟨(m.off b hb).1, (m.off b hb).2.1, let ⟨o, ho⟩ := (m.off b hb).2.2; ⟨o, k b o ho⟩⟩
  nosys := m.nosys
theorem Step.keeps (k : ∀ b o, s.heap.get? b = some o → h'.get? b = some o) (fs : List Env) (X : List Addr) (ρ : Adrs) : Step fs X s.heap h' ρ ρ :=
  ⟨tg_keeps k ρ, fun _ hb => .inl hb, fun b o e _ _ => k b o e, fun b o e _ _ => ⟨o.slots, k b o e⟩, fun b o e => ⟨o, k b o e⟩⟩

/-- one object of the memory is changed -/
theorem Mem.upd {d : Drawn} {t : Nat} {os : OsState} {g : Array GenState} {i : Nat} {as : List Addr} {mo mo' : MO} (m : Mem C fs s ρ σ) (e : ρ[i]? = some as) (e' : σ[i]? = some mo) (hd : mo ≠ .dead)
    (k : ∀ b o, b ∉ as → s.heap.get? b = some o → h'.get? b = some o) (al : ∀ b ∈ as, ∃ o, h'.get? b = some o)
    (ro : TG s.heap h' ρ ρ → RO C.prog C.w h' ρ as mo') (hg : g = s.gens) (ho : os = s.os) (X : List Addr) :
    Mem C fs ⟨h', g, d, t, os⟩ ρ (σ.set i mo') ∧ Step fs X s.heap h' ρ ρ := by
  obtain ⟨as', e₂, r₀⟩ := m.get e'
  rw [e] at e₂; cases e₂
  have tg : TG s.heap h' ρ ρ := ⟨List.prefix_refl _, fun a items it => by
    have hn : a ∉ as := fun ha => r₀.notTup hd ha it
    obtain ⟨o, ho, x⟩ := it
    exact ⟨o, k a o hn ho, x⟩⟩
  have alive : ∀ b o, s.heap.get? b = some o → ∃ o', h'.get? b = some o' := fun b o q => by
    by_cases hb : b ∈ as
    · exact al b hb
    · exact ⟨o, k b o hb q⟩
  have offas : ∀ b ∈ as, C.base.get? b = none ∧ b ∉ fa fs := fun b hb => ⟨(m.off b (mem_flat e hb)).1, (m.off b (mem_flat e hb)).2.1⟩
  refine ⟨⟨fun b o q => k b o (fun hb => by rw [(offas b hb).1] at q; cases q) (m.stay b o q), hg.trans m.gens, ho.trans m.os, ?_, ?_, m.nodup, fun b hb => ⟨(m.off b hb).1, (m.off b hb).2.1, let ⟨o, ho⟩ := (m.off b hb).2.2; alive b o ho⟩, m.nosys⟩, ⟨tg, fun _ hb => .inl hb, fun b o q n _ => k b o (fun hb => n (mem_flat e hb)) q, fun b o q f _ => ⟨o.slots, k b o (fun hb => (offas b hb).2 f) q⟩, alive⟩⟩
  · have : ∀ l : List Env, (∀ b ∈ fa l, b ∉ as) → s.heap.FunFrames C.base l → h'.FunFrames C.base l := by
      intro l
      induction l with
      | nil => intro _ _; trivial
      | cons env rest ih =>
        rintro hn ⟨x1, ⟨L, o, y1, y2, y3, y4⟩, x3⟩
        have hL : L ∈ fa (env :: rest) := by simp [fa, y1]
        exact ⟨x1, ⟨L, o, y1, y2, k L o (hn L hL) y3, y4⟩, ih (fun b hb => hn b (by simp only [fa, List.filterMap_cons, y1] at hb ⊢; exact List.mem_cons_of_mem _ hb)) x3⟩
    exact this fs (fun b hb ha => (offas b ha).2 hb) m.frames
  · refine .of_get (by rw [List.length_set]; exact m.len) fun j bs mo₂ q q' => ?_
    by_cases hji : i = j
    · subst hji
      rw [e] at q; cases q
      rw [List.getElem?_set_self (List.getElem?_eq_some_iff.mp e').1] at q'; cases q'
      exact ro tg
    · rw [List.getElem?_set_ne hji] at q'
      obtain ⟨bs', q₂, r⟩ := m.get q'
      rw [q] at q₂; cases q₂
      exact r.mono tg fun b hb o z => k b o (fun ha => flat_apart m.nodup e q hji ha hb) z

/-- a new object joins the memory -/
theorem Mem.new {d : Drawn} {t : Nat} {os : OsState} {g : Array GenState} {as : List Addr} {mo : MO} (m : Mem C fs s ρ σ) (k : ∀ b o, s.heap.get? b = some o → h'.get? b = some o)
    (fr : ∀ b ∈ as, s.heap.get? b = none ∧ ∃ o, h'.get? b = some o) (nd : as.Nodup) (ns : sysModules ∉ as) (ro : TG s.heap h' ρ (ρ ++ [as]) → RO C.prog C.w h' (ρ ++ [as]) as mo) (hg : g = s.gens) (ho : os = s.os) (X : List Addr) :
    Mem C fs ⟨h', g, d, t, os⟩ (ρ ++ [as]) (σ ++ [mo]) ∧ Step fs X s.heap h' ρ (ρ ++ [as]) := by
  have tg : TG s.heap h' ρ (ρ ++ [as]) := ⟨List.prefix_append _ _, (tg_keeps k ρ).tup⟩
  have m' : Mem C fs ⟨h', g, d, t, os⟩ ρ σ := m.keeps k hg ho
  refine ⟨⟨m'.stay, m'.gens, m'.os, m'.frames, ?_, ?_, fun b hb => ?_, ?_⟩, ⟨tg, fun b hb => ?_, fun b o e _ _ => k b o e, fun b o e _ _ => ⟨o.slots, k b o e⟩, fun b o e => ⟨o, k b o e⟩⟩⟩
  · refine ROs.append ?_ (.cons (ro tg) .nil)
    refine .of_get m.len fun i bs mo₂ q q' => ?_
    obtain ⟨bs', q₂, r⟩ := m.get q'
    rw [q] at q₂; cases q₂
    exact r.mono tg fun b _ o z => k b o z
  · rw [List.flatten_append, List.flatten_cons, List.flatten_nil, List.append_nil]
    refine List.nodup_append.mpr ⟨m.nodup, nd, fun a ha b hb e => ?_⟩
    subst e
    obtain ⟨o, ho⟩ := (m.off a ha).2.2
    rw [(fr a hb).1] at ho; cases ho
  · rw [List.flatten_append, List.flatten_cons, List.flatten_nil, List.append_nil] at hb
    rcases List.mem_append.mp hb with hb | hb
    · exact m'.off b hb
    · refine ⟨?_, fun hf => ?_, (fr b hb).2⟩
      · cases q : C.base.get? b with
        | none => rfl
        | some o => have := m.stay b o q; rw [(fr b hb).1] at this; cases this
      · obtain ⟨o, ho⟩ := m.frame_there hf
        rw [(fr b hb).1] at ho; cases ho
  · rw [List.flatten_append, List.flatten_cons, List.flatten_nil, List.append_nil, List.mem_append]
    exact fun h => h.elim m.nosys ns
  · rw [List.flatten_append, List.flatten_cons, List.flatten_nil, List.append_nil] at hb
    exact (List.mem_append.mp hb).imp id fun hb => (fr b hb).1
end

/-! a frame's names -/
def Loc (h : Heap) (ρ : Adrs) (L : Addr) (loc : List (Str × MV)) : Prop := ∃ m, h.Ns L m ∧ ∀ x mv, loc.lookup x = some mv → (∃ v, m x = some v ∧ RV h ρ v mv) ∨ ∃ k i, mv = .box k i ∧ ρ[i]? = some [L + k]
def Sub (loc loc' : List (Str × MV)) : Prop := ∀ x mv, loc.lookup x = some mv → loc'.lookup x = some mv
theorem Loc.sub {h : Heap} {ρ : Adrs} {L : Addr} {loc loc' : List (Str × MV)} (l : Loc h ρ L loc') (q : Sub loc loc') : Loc h ρ L loc := by obtain ⟨m, n, k⟩ := l; exact ⟨m, n, fun x mv e => k x mv (q x mv e)⟩
theorem ns_slots {h h' : Heap} {a : Addr} {m : Str → Option Value} (hn : h.Ns a m) (k : ∀ o, h.get? a = some o → ∃ sl, h'.get? a = some { o with slots := sl }) : h'.Ns a m := by
  obtain ⟨o, es, ep, ho, hd, r⟩ := hn
  obtain ⟨sl, e⟩ := k o ho
  exact ⟨_, es, ep, e, hd, r⟩
theorem Loc.step {fs : List Env} {X : List Addr} {h h' : Heap} {ρ ρ' : Adrs} {L : Addr} {loc : List (Str × MV)} (l : Loc h ρ L loc) (st : Step fs X h h' ρ ρ') (hL : L ∈ fa fs) (hX : L ∉ X) : Loc h' ρ' L loc := by
  obtain ⟨m, n, k⟩ := l
  exact ⟨m, ns_slots n fun o ho => st.slot L o ho hL hX, fun x mv e => (k x mv e).imp (fun ⟨v, hv, r⟩ => ⟨v, hv, r.mono st.tg⟩) fun ⟨a, i, z, y⟩ => ⟨a, i, z, prefix_get st.tg.grow y⟩⟩
theorem Loc.keeps {h h' : Heap} {ρ : Adrs} {L : Addr} {loc : List (Str × MV)} (l : Loc h ρ L loc) (k : ∀ b o, h.get? b = some o → h'.get? b = some o) : Loc h' ρ L loc := by
  obtain ⟨m, n, q⟩ := l
  exact ⟨m, n.keeps k, fun x mv e => (q x mv e).imp (fun ⟨v, hv, r⟩ => ⟨v, hv, r.mono (tg_keeps k ρ)⟩) fun z => z⟩

noncomputable def fdAt (P : Params) (f : Nat) : FuncData := match (kf P).lookup f with
  | some ⟨_, _, .func fd, _⟩ => fd
  | _ => default
@[irreducible] noncomputable def envAt (P : Params) (f L : Addr) : Env := envOfC (fdAt P f).qualname (fdAt P f).scope L f (fdAt P f).code
theorem envAt_eq (P : Params) (f L : Addr) : envAt P f L = envOfC (fdAt P f).qualname (fdAt P f).scope L f (fdAt P f).code := by unfold envAt; rfl
theorem envAt_frame (P : Params) (f L : Addr) : (envAt P f L).frame = some L := by rw [envAt_eq]; rfl
theorem envAt_locals (P : Params) (f L : Addr) : (envAt P f L).locals = L := by rw [envAt_eq]; rfl

structure OkA (A : Around) (q : Bool) (n : Nat) : Prop where
  handled : q = true → A.handled = none
  depth : A.depth ≤ 310 + 10 * n
  units : A.units ≤ 100 + 100 * n

/-- the exception in flight -/
def Exc (C : Cfg) (fs : List Env) (h₀ h : Heap) (ρ : Adrs) (e : Value) (ball : MV) : Prop :=
  ∃ a d vs es n, e = .ref a ∧ h.get? a = some { cls := .ref 51, dict := some d, data := .fields vs } ∧ h.get? d = some (dictOf es n) ∧ REs C.w.params h ρ es [(Str.ofString "ball", ball)] ∧
    (vs[1]? = some .none ∨ ∃ T oT ts, vs[1]? = some (.ref T) ∧ h.get? T = some oT ∧ oT.data = .fields ts ∧ ts[3]? = some .none ∧ T ≠ a ∧ h₀.get? T = none ∧ T ∉ ρ.flatten ∧ C.base.get? T = none) ∧
    h₀.get? a = none ∧ h₀.get? d = none ∧ a ≠ d ∧ a ∉ ρ.flatten ∧ d ∉ ρ.flatten ∧ C.base.get? a = none ∧ C.base.get? d = none ∧ d ∉ fa fs ∧ sysModules ∉ [a, d]

def PostV (C : Cfg) (fs : List Env) (s : Shared) (ρ : Adrs) (Q : MV → List MO → Prop) (v : Value) (s' : Shared) : Prop :=
  ∃ mv σ' ρ', RV s'.heap ρ' v mv ∧ Mem C fs s' ρ' σ' ∧ Step fs [] s.heap s'.heap ρ ρ' ∧ Q mv σ'
def PostX (C : Cfg) (fs : List Env) (s : Shared) (ρ : Adrs) (X : MV → List MO → Prop) (e : Value) (s' : Shared) : Prop :=
  ∃ ball σ' ρ', Exc C fs s.heap s'.heap ρ' e ball ∧ Mem C fs s' ρ' σ' ∧ Step fs [] s.heap s'.heap ρ ρ' ∧ X ball σ'

def EvalW (C : Cfg) (f : Addr) (n : Nat) (q : Bool) (e : PySem.Expr) (loc : List (Str × MV)) (σ : List MO) (Q : MV → List MO → Prop) (X : MV → List MO → Prop) : Prop :=
  ∀ (A : Around) (fs : List Env) (L : Addr) (s : Shared) (ρ : Adrs), A.frames = some (envAt C.w.params f L :: fs) → OkA A q n → Mem C (envAt C.w.params f L :: fs) s ρ σ → Loc s.heap ρ L loc →
    wpAny (model C.prog C.w) A (eval e (envAt C.w.params f L)) (PostV C (envAt C.w.params f L :: fs) s ρ Q) (PostX C (envAt C.w.params f L :: fs) s ρ X) s

inductive MF where
  | next | brk | cont
  | ret (v : MV)
inductive RF (h : Heap) (ρ : Adrs) : Flow → MF → Prop
  | next : RF h ρ .next .next
  | brk : RF h ρ .brk .brk
  | cont : RF h ρ .cont .cont
  | ret {v : Value} {m : MV} : RV h ρ v m → RF h ρ (.ret v) (.ret m)

def PostF (C : Cfg) (fs : List Env) (L : Addr) (s : Shared) (ρ : Adrs) (Q : MF → List (Str × MV) → List MO → Prop) (f : Flow) (s' : Shared) : Prop :=
  ∃ mf loc' σ' ρ', RF s'.heap ρ' f mf ∧ Mem C fs s' ρ' σ' ∧ Loc s'.heap ρ' L loc' ∧ Step fs [L] s.heap s'.heap ρ ρ' ∧ Q mf loc' σ'
def PostFX (C : Cfg) (fs : List Env) (L : Addr) (s : Shared) (ρ : Adrs) (X : MV → List (Str × MV) → List MO → Prop) (e : Value) (s' : Shared) : Prop :=
  ∃ ball loc' σ' ρ', Exc C fs s.heap s'.heap ρ' e ball ∧ Mem C fs s' ρ' σ' ∧ Loc s'.heap ρ' L loc' ∧ Step fs [L] s.heap s'.heap ρ ρ' ∧ X ball loc' σ'

def ExecsW (C : Cfg) (f : Addr) (n : Nat) (q : Bool) (b : List Stmt) (loc : List (Str × MV)) (σ : List MO) (Q : MF → List (Str × MV) → List MO → Prop) (X : MV → List (Str × MV) → List MO → Prop) : Prop :=
  ∀ (A : Around) (fs : List Env) (L : Addr) (s : Shared) (ρ : Adrs), A.frames = some (envAt C.w.params f L :: fs) → OkA A q n → Mem C (envAt C.w.params f L :: fs) s ρ σ → Loc s.heap ρ L loc →
    wpAny (model C.prog C.w) A (execs b (envAt C.w.params f L)) (PostF C (envAt C.w.params f L :: fs) L s ρ Q) (PostFX C (envAt C.w.params f L :: fs) L s ρ X) s
def ExecW (C : Cfg) (f : Addr) (n : Nat) (q : Bool) (b : Stmt) (loc : List (Str × MV)) (σ : List MO) (Q : MF → List (Str × MV) → List MO → Prop) (X : MV → List (Str × MV) → List MO → Prop) : Prop :=
  ∀ (A : Around) (fs : List Env) (L : Addr) (s : Shared) (ρ : Adrs), A.frames = some (envAt C.w.params f L :: fs) → OkA A q n → Mem C (envAt C.w.params f L :: fs) s ρ σ → Loc s.heap ρ L loc →
    wpAny (model C.prog C.w) A (exec b (envAt C.w.params f L)) (PostF C (envAt C.w.params f L :: fs) L s ρ Q) (PostFX C (envAt C.w.params f L :: fs) L s ρ X) s
/-- the call of a value on values -/
def CallW (C : Cfg) (n : Nat) (q : Bool) (f : Value) (args : List MV) (σ : List MO) (Q : MV → List MO → Prop) (X : MV → List MO → Prop) : Prop :=
  ∀ (A : Around) (fs : List Env) (s : Shared) (ρ : Adrs) (vs : List Value), A.frames = some fs → OkA A q n → Mem C fs s ρ σ → RVs s.heap ρ vs args →
    wpAny (model C.prog C.w) A (call f vs) (PostV C fs s ρ Q) (PostX C fs s ρ X) s

theorem Exc.shift {C : Cfg} {fs fs' : List Env} {X : List Addr} {h₀ h₁ h : Heap} {ρ₀ ρ₁ ρ : Adrs} {e : Value} {ball : MV} (x : Exc C fs' h₁ h ρ e ball) (st : Step fs X h₀ h₁ ρ₀ ρ₁) : Exc C fs' h₀ h ρ e ball := by
  have nn : ∀ {b : Addr}, h₁.get? b = none → h₀.get? b = none := fun {b} q => by
    cases z : h₀.get? b with
    | none => rfl
    | some o => obtain ⟨o', e'⟩ := st.alive b o z; rw [q] at e'; cases e'
  obtain ⟨a, d, vs, es, n, rfl, h1, h2, h3, h4, h5, h6, h7⟩ := x
  refine ⟨a, d, vs, es, n, rfl, h1, h2, h3, h4.imp id ?_, nn h5, nn h6, h7⟩
  rintro ⟨T, oT, ts, t1, t2, t3, t4, t5, t6, t7⟩
  exact ⟨T, oT, ts, t1, t2, t3, t4, t5, nn t6, t7⟩

/-! MRules1 -/
section
variable {C : Cfg} {fs : List Env} {s s₁ s' : Shared} {ρ ρ₁ ρ' : Adrs} {σ σ₁ : List MO} {Q : MV → List MO → Prop} {X : MV → List MO → Prop} {v : Value} {mv : MV}

theorem PostV.here {d : Drawn} {t : Nat} (m : Mem C fs s ρ σ) (r : RV s.heap ρ v mv) (h : Q mv σ) : PostV C fs s ρ Q v ⟨s.heap, s.gens, d, t, s.os⟩ := ⟨mv, σ, ρ, r, m.same rfl rfl rfl, .refl _ _ _ _, h⟩
theorem PostV.lift (st : Step fs [] s.heap s₁.heap ρ ρ₁) (p : PostV C fs s₁ ρ₁ Q v s') : PostV C fs s ρ Q v s' := by obtain ⟨mv, σ', ρ', r, m, st', h⟩ := p; exact ⟨mv, σ', ρ', r, m, st.trans st', h⟩
theorem PostX.lift (st : Step fs [] s.heap s₁.heap ρ ρ₁) (p : PostX C fs s₁ ρ₁ X v s') : PostX C fs s ρ X v s' := by obtain ⟨b, σ', ρ', r, m, st', h⟩ := p; exact ⟨b, σ', ρ', r.shift st, m, st.trans st', h⟩
theorem PostV.mono {Q' : MV → List MO → Prop} (k : ∀ a b, Q a b → Q' a b) (p : PostV C fs s ρ Q v s') : PostV C fs s ρ Q' v s' := by obtain ⟨mv, σ', ρ', r, m, st', h⟩ := p; exact ⟨mv, σ', ρ', r, m, st', k _ _ h⟩
theorem PostX.mono {Q' : MV → List MO → Prop} (k : ∀ a b, X a b → Q' a b) (p : PostX C fs s ρ X v s') : PostX C fs s ρ Q' v s' := by obtain ⟨mv, σ', ρ', r, m, st', h⟩ := p; exact ⟨mv, σ', ρ', r, m, st', k _ _ h⟩
end

theorem fa_head {P : Params} {f L : Addr} {fs : List Env} : L ∈ fa (envAt P f L :: fs) := by simp [fa, envAt_frame]

/-- a bool told by a test -/
def PostB (C : Cfg) (fs : List Env) (s : Shared) (ρ : Adrs) (Q : Bool → List MO → Prop) (b : Bool) (s' : Shared) : Prop :=
  ∃ σ' ρ', Mem C fs s' ρ' σ' ∧ Step fs [] s.heap s'.heap ρ ρ' ∧ Q b σ'
def TestW (C : Cfg) (f : Addr) (n : Nat) (q : Bool) (e : PySem.Expr) (loc : List (Str × MV)) (σ : List MO) (Q : Bool → List MO → Prop) (X : MV → List MO → Prop) : Prop :=
  ∀ (A : Around) (fs : List Env) (L : Addr) (s : Shared) (ρ : Adrs), A.frames = some (envAt C.w.params f L :: fs) → OkA A q n → Mem C (envAt C.w.params f L :: fs) s ρ σ → Loc s.heap ρ L loc →
    wpAny (model C.prog C.w) A (isTrue e (envAt C.w.params f L) (eval e (envAt C.w.params f L))) (PostB C (envAt C.w.params f L :: fs) s ρ Q) (PostX C (envAt C.w.params f L :: fs) s ρ X) s
/-- an operation on one, on two values -/
def OpW1 (C : Cfg) (n : Nat) (q : Bool) (t : Value → Sem Value) (a : MV) (σ : List MO) (Q : MV → List MO → Prop) (X : MV → List MO → Prop) : Prop :=
  ∀ (A : Around) (fs : List Env) (s : Shared) (ρ : Adrs) (u : Value), A.frames = some fs → OkA A q n → Mem C fs s ρ σ → RV s.heap ρ u a → wpAny (model C.prog C.w) A (t u) (PostV C fs s ρ Q) (PostX C fs s ρ X) s
def OpW2 (C : Cfg) (n : Nat) (q : Bool) (t : Value → Value → Sem Value) (a b : MV) (σ : List MO) (Q : MV → List MO → Prop) (X : MV → List MO → Prop) : Prop :=
  ∀ (A : Around) (fs : List Env) (s : Shared) (ρ : Adrs) (u v : Value), A.frames = some fs → OkA A q n → Mem C fs s ρ σ → RV s.heap ρ u a → RV s.heap ρ v b → wpAny (model C.prog C.w) A (t u v) (PostV C fs s ρ Q) (PostX C fs s ρ X) s

section
variable {C : Cfg} {f : Addr} {n : Nat} {q : Bool} {loc : List (Str × MV)} {σ : List MO} {Q : MV → List MO → Prop} {X : MV → List MO → Prop} {QB : Bool → List MO → Prop}

theorem EvalW.mono {e : PySem.Expr} {Q' X' : MV → List MO → Prop} (h : EvalW C f n q e loc σ Q X) (hq : ∀ a b, Q a b → Q' a b) (hx : ∀ a b, X a b → X' a b) : EvalW C f n q e loc σ Q' X' :=
  fun A fs L s ρ a b c d => wpAny_mono (h A fs L s ρ a b c d) (fun _ _ p => p.mono hq) fun _ _ p => p.mono hx

def MV.isBox : MV → Bool
  | .box _ _ => true
  | _ => false
theorem ev_local {x : Str} {pos : Pos} {mv : MV} (hl : (fdAt C.w.params f).scope.names.lookup x = some .local) (e : loc.lookup x = some mv) (h : Q mv σ)
    (hb : mv.isBox = false := by rfl) (hk : (fdAt C.w.params f).scope.kind = .function := by kernel_rfl) (hd : (x == ("__debug__" : Str)) = false := by decide +kernel) : EvalW C f n q (.Name x pos) loc σ Q X := by
  rintro A fs L s ρ hA ok m ⟨mp, ns, k⟩
  obtain ⟨v, hv, r⟩ | ⟨_, _, rfl, _⟩ := k x mv e
  case inr => cases hb
  rw [envAt_eq] at *
  exact wpAny_Name (wpAny_loadName_local hk hl ns hv (PostV.here m r h)) hd

/-- a name that a comprehension shares: its value lies in a cell -/
theorem ev_cell {x : Str} {pos : Pos} {mv : MV} {k i : Nat} (hl : (fdAt C.w.params f).scope.names.lookup x = some .cell) (hc : ∀ L, (cellsFrom (L + 1) (fdAt C.w.params f).scope.names []).lookup x = some (L + k)) (e : loc.lookup x = some (.box k i)) (e1 : σ[i]? = some (.cell (some mv))) (h : Q mv σ)
    (hk : (fdAt C.w.params f).scope.kind = .function := by kernel_rfl) (hd : (x == ("__debug__" : Str)) = false := by decide +kernel) : EvalW C f n q (.Name x pos) loc σ Q X := by
  rintro A fs L s ρ hA ok m ⟨mp, ns, kk⟩
  obtain ⟨v, hv, r⟩ | ⟨_, _, e2, hr⟩ := kk x _ e
  case inl => cases r
  cases e2
  obtain ⟨as, ha, ro⟩ := m.get e1
  rw [hr] at ha; cases ha
  cases ro with
  | cell1 l r =>
    rw [envAt_eq] at *
    exact wpAny_Name (wpAny_loadName_cell hk hl (hc L) l (PostV.here m r h)) hd

theorem ev_global {x : Str} {pos : Pos} {v : Value} {mv : MV} (hl : (fdAt C.w.params f).scope.names.lookup x = some .globalImplicit) (e : nsIn C.K mainGlobals x = some (some v)) (hr : ∀ h ρ, RV h ρ v mv) (h : Q mv σ)
    (hk : (fdAt C.w.params f).scope.kind = .function := by kernel_rfl) (hd : (x == ("__debug__" : Str)) = false := by decide +kernel) : EvalW C f n q (.Name x pos) loc σ Q X := by
  rintro A fs L s ρ hA ok m ⟨mp, ns, k⟩
  obtain ⟨p, loose, mg, mb, T⟩ := C.top
  have e' := mg_of C.kin T.g e
  rw [envAt_eq] at *
  exact Calls.Name_function_global hk hl (Calls.loadGlobal_global (env := envOfC (fdAt C.w.params f).qualname (fdAt C.w.params f).scope L f (fdAt C.w.params f).code) (T.g.keeps m.stay) e' (PostV.here m (hr _ _) h)) hd
theorem ev_builtin {x : Str} {pos : Pos} {v : Value} (hl : (fdAt C.w.params f).scope.names.lookup x = some .globalImplicit) (e : nsIn C.K mainGlobals x = some none) (hv : bootBuiltins x = some v) (h : Q (.raw v) σ) (hn : x ≠ "__name__" := by decide +kernel)
    (hk : (fdAt C.w.params f).scope.kind = .function := by kernel_rfl) (hd : (x == ("__debug__" : Str)) = false := by decide +kernel) : EvalW C f n q (.Name x pos) loc σ Q X := by
  rintro A fs L s ρ hA ok m ⟨mp, ns, k⟩
  obtain ⟨p, loose, mg, mb, T⟩ := C.top
  have e' := mg_none_of C.kin T.g e
  rw [envAt_eq] at *
  exact Calls.Name_function_global hk hl (Calls.loadGlobal_builtin (env := envOfC (fdAt C.w.params f).qualname (fdAt C.w.params f).scope L f (fdAt C.w.params f).code) (T.g.keeps m.stay) e' (T.b.keeps m.stay) ((T.builtins x hn).trans hv) (PostV.here m (.raw _) h)) hd

theorem ev_int {i : Int} {k : Nat} {pos : Pos} (h : Q (.int i) σ) : EvalW C f n q (.Constant (.int i) k pos) loc σ Q X :=
  fun _ _ _ _ _ _ _ m _ => wpAny_Constant_int (PostV.here m (.int _ _) h)
theorem ev_str {i : Str} {k : Nat} {pos : Pos} (h : Q (.str i) σ) : EvalW C f n q (.Constant (.str i) k pos) loc σ Q X :=
  fun _ _ _ _ _ _ _ m _ => wpAny_Constant_str (PostV.here m (.str _ _) h)
theorem ev_none {k : Nat} {pos : Pos} (h : Q .none σ) : EvalW C f n q (.Constant .none k pos) loc σ Q X :=
  fun _ _ _ _ _ _ _ m _ => wpAny_Constant_none (PostV.here m .none h)
theorem ev_bool {b : Bool} {k : Nat} {pos : Pos} (h : Q (.bool b) σ) : EvalW C f n q (.Constant (.bool b) k pos) loc σ Q X :=
  fun _ _ _ _ _ _ _ m _ => wpAny_Constant_bool (PostV.here m (.bool _) h)

/-- one evaluation after the other -/
theorem seq2 {A : Around} {fs : List Env} {L : Addr} {s : Shared} {ρ : Adrs} {e : PySem.Expr} {R : Value → Shared → Prop} {QQ : MV → List MO → Prop} (h : EvalW C f n q e loc σ QQ X) (hA : A.frames = some (envAt C.w.params f L :: fs)) (ok : OkA A q n) (m : Mem C (envAt C.w.params f L :: fs) s ρ σ) (l : Loc s.heap ρ L loc)
    (k : ∀ v s₁ mv σ₁ ρ₁, RV s₁.heap ρ₁ v mv → Mem C (envAt C.w.params f L :: fs) s₁ ρ₁ σ₁ → Loc s₁.heap ρ₁ L loc → Step (envAt C.w.params f L :: fs) [] s.heap s₁.heap ρ ρ₁ → QQ mv σ₁ → R v s₁) :
    wpAny (model C.prog C.w) A (eval e (envAt C.w.params f L)) R (PostX C (envAt C.w.params f L :: fs) s ρ X) s :=
  wpAny_mono (h A fs L s ρ hA ok m l) (fun v s₁ zz => by obtain ⟨mv, σ₁, ρ₁, r, m₁, st, hq⟩ := zz; exact k v s₁ mv σ₁ ρ₁ r m₁ (l.step st fa_head (by simp)) st hq) fun _ _ x => x

theorem ev_op2 {l r : PySem.Expr} {op : Operator} {pos : Pos} (h : EvalW C f n q l loc σ (fun a σ₁ => EvalW C f n q r loc σ₁ (fun b σ₂ => OpW2 C n q (binaryOp op) a b σ₂ Q X) X) X) : EvalW C f n q (.BinOp l op r pos) loc σ Q X := by
  intro A fs L s ρ hA ok m lc
  refine wpAny_BinOp (seq2 h hA ok m lc fun u s₁ a σ₁ ρ₁ ru m₁ lc₁ st₁ h₁ => ?_)
  refine wpAny_mono (seq2 h₁ hA ok m₁ lc₁ fun v s₂ b σ₂ ρ₂ rv m₂ lc₂ st₂ h₂ => ?_) (fun _ _ x => x) fun _ _ p => p.lift st₁
  exact wpAny_mono (h₂ A _ s₂ ρ₂ u v hA ok m₂ (ru.mono st₂.tg) rv) (fun _ _ p => p.lift (st₁.trans st₂)) fun _ _ p => p.lift (st₁.trans st₂)
theorem ev_cmp {l r : PySem.Expr} {op : CmpOp} {pos : Pos} (h : EvalW C f n q l loc σ (fun a σ₁ => EvalW C f n q r loc σ₁ (fun b σ₂ => OpW2 C n q (compareOp op) a b σ₂ Q X) X) X) (hm : behindInMarks op r = false := by with_unfolding_all rfl) : EvalW C f n q (.Compare l [op] [r] pos) loc σ Q X := by
  intro A fs L s ρ hA ok m lc
  refine wpAny_Compare1 (seq2 h hA ok m lc fun u s₁ a σ₁ ρ₁ ru m₁ lc₁ st₁ h₁ => ?_) hm
  refine wpAny_mono (seq2 h₁ hA ok m₁ lc₁ fun v s₂ b σ₂ ρ₂ rv m₂ lc₂ st₂ h₂ => ?_) (fun _ _ x => x) fun _ _ p => p.lift st₁
  exact wpAny_mono (h₂ A _ s₂ ρ₂ u v hA ok m₂ (ru.mono st₂.tg) rv) (fun _ _ p => p.lift (st₁.trans st₂)) fun _ _ p => p.lift (st₁.trans st₂)
theorem ts_cmp {l r : PySem.Expr} {op : CmpOp} {pos : Pos} (h : EvalW C f n q l loc σ (fun a σ₁ => EvalW C f n q r loc σ₁ (fun b σ₂ => OpW2 C n q (compareOp op) a b σ₂ (fun mv σ₃ => ∃ b, mv = .bool b ∧ QB b σ₃) X) X) X) (hm : behindInMarks op r = false := by with_unfolding_all rfl) : TestW C f n q (.Compare l [op] [r] pos) loc σ QB X := by
  intro A fs L s ρ hA ok m lc
  refine wpAny_isTrue_Compare1 (seq2 h hA ok m lc fun u s₁ a σ₁ ρ₁ ru m₁ lc₁ st₁ h₁ => ?_) hm
  refine wpAny_mono (seq2 h₁ hA ok m₁ lc₁ fun v s₂ b σ₂ ρ₂ rv m₂ lc₂ st₂ h₂ => ?_) (fun _ _ x => x) fun _ _ p => p.lift st₁
  refine wpAny_mono (h₂ A _ s₂ ρ₂ u v hA ok m₂ (ru.mono st₂.tg) rv) (fun c s₃ zz => ?_) fun _ _ p => p.lift (st₁.trans st₂)
  obtain ⟨mv, σ₃, ρ₃, rc, m₃, st₃, b', e, hq⟩ := zz
  subst e
  cases rc
  exact wpAny_truthy_bool ⟨σ₃, ρ₃, m₃, (st₁.trans st₂).trans st₃, hq⟩
/-- a test by a value that is a bool -/
theorem ts_value {e : PySem.Expr} (h : EvalW C f n q e loc σ (fun mv σ₃ => ∃ b, mv = .bool b ∧ QB b σ₃) X) (he : ∀ env whole, isTrue e env whole = (do let v ← whole; standAt e.pos; holding [v] (truthy v)) := by intro _ _; rfl) : TestW C f n q e loc σ QB X := by
  intro A fs L s ρ hA ok m lc
  refine wpAny_isTrue_value (wpAny_mono (h A fs L s ρ hA ok m lc) (fun c s₃ zz => ?_) fun _ _ x => x) (he _ _)
  obtain ⟨mv, σ₃, ρ₃, rc, m₃, st₃, b', e, hq⟩ := zz
  subst e
  cases rc
  exact wpAny_truthy_bool ⟨σ₃, ρ₃, m₃, st₃, hq⟩
theorem ev_if {t a b : PySem.Expr} {pos : Pos} (h : TestW C f n q t loc σ (fun c σ₁ => if c then EvalW C f n q a loc σ₁ Q X else EvalW C f n q b loc σ₁ Q X) X) : EvalW C f n q (.IfExp t a b pos) loc σ Q X := by
  intro A fs L s ρ hA ok m lc
  refine wpAny_IfExp (wpAny_mono (h A fs L s ρ hA ok m lc) (fun c s₁ zz => ?_) fun _ _ x => x)
  obtain ⟨σ₁, ρ₁, m₁, st₁, hq⟩ := zz
  cases c with
  | true => exact wpAny_mono (hq A fs L s₁ ρ₁ hA ok m₁ (lc.step st₁ fa_head (by simp))) (fun _ _ p => p.lift st₁) fun _ _ p => p.lift st₁
  | false => exact wpAny_mono (hq A fs L s₁ ρ₁ hA ok m₁ (lc.step st₁ fa_head (by simp))) (fun _ _ p => p.lift st₁) fun _ _ p => p.lift st₁
theorem ev_un {x : PySem.Expr} {op : UnaryOp} {pos : Pos} (h : EvalW C f n q x loc σ (fun a σ₁ => OpW1 C n q (unaryOp op) a σ₁ Q X) X) : EvalW C f n q (.UnaryOp op x pos) loc σ Q X := by
  intro A fs L s ρ hA ok m lc
  refine wpAny_UnaryOp (seq2 h hA ok m lc fun u s₁ a σ₁ ρ₁ ru m₁ lc₁ st₁ h₁ => ?_)
  exact wpAny_mono (h₁ A _ s₁ ρ₁ u hA ok m₁ ru) (fun _ _ p => p.lift st₁) fun _ _ p => p.lift st₁

/-- and, or, as tests -/
def AllW (C : Cfg) (f : Addr) (n : Nat) (q : Bool) (op : BoolOp) (es : List PySem.Expr) (loc : List (Str × MV)) (σ : List MO) (Q : Bool → List MO → Prop) (X : MV → List MO → Prop) : Prop :=
  ∀ (A : Around) (fs : List Env) (L : Addr) (s : Shared) (ρ : Adrs), A.frames = some (envAt C.w.params f L :: fs) → OkA A q n → Mem C (envAt C.w.params f L :: fs) s ρ σ → Loc s.heap ρ L loc →
    wpAny (model C.prog C.w) A (allTrue op es (envAt C.w.params f L)) (PostB C (envAt C.w.params f L :: fs) s ρ Q) (PostX C (envAt C.w.params f L :: fs) s ρ X) s
theorem ts_all {op : BoolOp} {es : List PySem.Expr} {pos : Pos} (h : AllW C f n q op es loc σ QB X) : TestW C f n q (.BoolOp op es pos) loc σ QB X :=
  fun A fs L s ρ hA ok m lc => wpAny_isTrue_BoolOp (h A fs L s ρ hA ok m lc)
theorem PostB.lift {fs : List Env} {s s₁ s' : Shared} {ρ ρ₁ : Adrs} {b : Bool} (st : Step fs [] s.heap s₁.heap ρ ρ₁) (p : PostB C fs s₁ ρ₁ QB b s') : PostB C fs s ρ QB b s' := by obtain ⟨σ', ρ', m, st', h⟩ := p; exact ⟨σ', ρ', m, st.trans st', h⟩
theorem all_and_nil (h : QB true σ) : AllW C f n q .And [] loc σ QB X := fun _ _ _ _ ρ _ _ m _ => wpAny_allTrue_And_nil ⟨σ, ρ, m, .refl _ _ _ _, h⟩
theorem all_or_nil (h : QB false σ) : AllW C f n q .Or [] loc σ QB X := fun _ _ _ _ ρ _ _ m _ => wpAny_allTrue_Or_nil ⟨σ, ρ, m, .refl _ _ _ _, h⟩
theorem all_and {x : PySem.Expr} {r : List PySem.Expr} (h : TestW C f n q x loc σ (fun c σ₁ => if c then AllW C f n q .And r loc σ₁ QB X else QB false σ₁) X) : AllW C f n q .And (x :: r) loc σ QB X := by
  intro A fs L s ρ hA ok m lc
  refine wpAny_allTrue_And_cons (wpAny_mono (h A fs L s ρ hA ok m lc) (fun c s₁ zz => ?_) fun _ _ x => x)
  obtain ⟨σ₁, ρ₁, m₁, st₁, hq⟩ := zz
  cases c with
  | true => exact wpAny_mono (hq A fs L s₁ ρ₁ hA ok m₁ (lc.step st₁ fa_head (by simp))) (fun _ _ p => p.lift st₁) fun _ _ p => p.lift st₁
  | false => exact ⟨σ₁, ρ₁, m₁, st₁, hq⟩
theorem all_or {x : PySem.Expr} {r : List PySem.Expr} (h : TestW C f n q x loc σ (fun c σ₁ => if c then QB true σ₁ else AllW C f n q .Or r loc σ₁ QB X) X) : AllW C f n q .Or (x :: r) loc σ QB X := by
  intro A fs L s ρ hA ok m lc
  refine wpAny_allTrue_Or_cons (wpAny_mono (h A fs L s ρ hA ok m lc) (fun c s₁ zz => ?_) fun _ _ x => x)
  obtain ⟨σ₁, ρ₁, m₁, st₁, hq⟩ := zz
  cases c with
  | true => exact ⟨σ₁, ρ₁, m₁, st₁, hq⟩
  | false => exact wpAny_mono (hq A fs L s₁ ρ₁ hA ok m₁ (lc.step st₁ fa_head (by simp))) (fun _ _ p => p.lift st₁) fun _ _ p => p.lift st₁
/-- and of two bools, as a value -/
theorem ev_and2 {x y : PySem.Expr} {pos : Pos} (h : EvalW C f n q x loc σ (fun a σ₁ => ∃ b, a = .bool b ∧ if b then EvalW C f n q y loc σ₁ Q X else Q (.bool false) σ₁) X) : EvalW C f n q (.BoolOp .And [x, y] pos) loc σ Q X := by
  intro A fs L s ρ hA ok m lc
  refine wpAny_And2 (seq2 h hA ok m lc fun u s₁ a σ₁ ρ₁ ru m₁ lc₁ st₁ zz => ?_)
  obtain ⟨b, e, h₁⟩ := zz
  subst e
  cases ru
  refine wpAny_truthy_bool ?_
  cases b with
  | true => exact wpAny_mono (h₁ A fs L s₁ ρ₁ hA ok m₁ lc₁) (fun _ _ p => p.lift st₁) fun _ _ p => p.lift st₁
  | false => exact ⟨_, σ₁, ρ₁, .bool _, m₁, st₁, h₁⟩
end

section
variable {C : Cfg} {n : Nat} {q : Bool} {σ : List MO} {Q : MV → List MO → Prop} {X : MV → List MO → Prop} {a b : Int}
theorem op_add (h : Q (.int (a + b)) σ) : OpW2 C n q (binaryOp .Add) (.int a) (.int b) σ Q X := by
  intro A fs s ρ u v hA ok m ru rv; cases ru; cases rv; exact PyProof.Rows.add_int (PostV.here m (.int _ _) h)
end

/-! MExc -/
/-- what a note on the exception leaves: the record, its new entry, all else -/
structure Noted (fs : List Env) (h h' : Heap) (e : Addr) (oe : Obj) (vs : Array Value) : Prop where
  here : ∃ T oT ts, h'.get? e = some { oe with data := .fields (vs.setIfInBounds 1 (.ref T)) } ∧ h'.get? T = some oT ∧ oT.data = .fields ts ∧ ts[3]? = some .none ∧ T ≠ e ∧ h.get? T = none
  keep : ∀ b o, h.get? b = some o → b ≠ e → b ∉ fa fs → h'.get? b = some o
  slot : ∀ b o, h.get? b = some o → b ∈ fa fs → ∃ sl, h'.get? b = some { o with slots := sl }

theorem obj_fields {o : Obj} {vs : Array Value} (hd : o.data = .fields vs) (f : Array Value → Array Value) : Obj.mapFields f o = { o with data := .fields (f vs) } := by
  obtain ⟨c, d, dt, sl⟩ := o
  cases hd
  rfl

section
variable {M : Model} {A : Around} {E : Value → Shared → Prop} {s : Shared} {base : Heap} {env : Env} {outer : List Env} {L e : Addr} {oe : Obj} {vs : Array Value} {Q : Unit → Shared → Prop}
theorem entry_made {head : Value} {b : Bool} (hfr : A.frames = some (env :: outer)) (hl : s.heap.FunFrames base (env :: outer)) (hf : env.frame = some L)
    (he : s.heap.get? e = some oe) (hd : oe.data = .fields vs) (hsz : 1 < vs.size) (h : ∀ h', Noted (env :: outer) s.heap h' e oe vs → Q () { s with heap := h' }) :
    wpAny M A (do let a ← frameOf env; let pl ← entryPlaceOf L b; let t ← EntryCells.newEntry head a .none (rawInt L) .none pl; setField (.ref e) 1 t) (fun _ s' => wpAny M A (setFlight (.ref e) none) Q E s') E s := by
  have hne : e ∉ fa (env :: outer) := fun hm => by
    obtain ⟨_, o, ho, hn⟩ := hl.mem hm
    rw [he] at ho; cases ho; exact hn vs hd
  refine wpAny_bind (wpAny_frameOf_fun hfr hl hf fun h₁ sl₁ => wpAny_bind (wpAny_entryPlaceOf fun pl hpl => ?_))
  have he₁ : h₁.get? e = some oe := (sl₁.2.1 e hne).trans he
  unfold EntryCells.newEntry newFields
  refine wpAny_bind (wpAny_newObj_type ?_ (hpl.sizeOk5 _ _ _ _ _))
  generalize hT : ({ cls := .type "traceback", dict := none, data := .fields ([head, .ref L, .none, rawInt L, .none] ++ (if pl.isEmpty then List.replicate 6 Value.none else pl)).toArray } : Obj) = oT
  have hTd : oT.data = .fields ([head, .ref L, .none, rawInt L, .none] ++ (if pl.isEmpty then List.replicate 6 Value.none else pl)).toArray := by rw [← hT]
  have hTf : oT.isFreed = false := by rw [← hT]; rfl
  have eT : h₁.objs.size ≠ e := Nat.ne_of_gt (Heap.lt_size he₁)
  have he₂ := Heap.get?_push_of_some oT he₁
  refine wpAny_setField he₂ hd hsz ?_
  have fe : (Obj.mapFields (·.setIfInBounds 1 (Value.ref h₁.objs.size)) oe).isFreed = false := by rw [obj_fields hd]; rfl
  have he₃ := Heap.get?_update_self (Obj.mapFields (·.setIfInBounds 1 (Value.ref h₁.objs.size))) he₂ fe
  have hT₃ := (Heap.get?_update_other (h₁.push oT) (Obj.mapFields (·.setIfInBounds 1 (Value.ref h₁.objs.size))) (Ne.symm eT)).trans (Heap.get?_push_size h₁ hTf)
  rw [obj_fields hd] at he₃
  unfold setFlight
  refine wpAny_bind (wpAny_field he₃ rfl (x := .ref h₁.objs.size) (by simp [hsz]) ?_)
  rw [if_pos (show (Value.ref h₁.objs.size != Value.none) = true from by simp)]
  refine wpAny_setField hT₃ hTd (by simp only [List.size_toArray, List.length_append, List.length_cons, List.length_nil]; omega) (h _ ?_)
  have fT : (Obj.mapFields (·.setIfInBounds 3 ((none : Option Addr).elim Value.none fun f => rawInt f)) oT).isFreed = false := by rw [obj_fields hTd]; rfl
  have hT₄ := Heap.get?_update_self (Obj.mapFields (·.setIfInBounds 3 ((none : Option Addr).elim Value.none fun f => rawInt f))) hT₃ fT
  rw [obj_fields hTd] at hT₄
  have kp : ∀ b o, h₁.get? b = some o → b ≠ e → (((h₁.push oT).update e (Obj.mapFields (·.setIfInBounds 1 (Value.ref h₁.objs.size)))).update h₁.objs.size (Obj.mapFields (·.setIfInBounds 3 ((none : Option Addr).elim Value.none fun f => rawInt f)))).get? b = some o := fun b o q n => by
    rw [Heap.get?_update_other _ _ (Nat.ne_of_gt (Heap.lt_size q)), Heap.get?_update_other _ _ (Ne.symm n)]
    exact Heap.get?_push_of_some _ q
  refine ⟨⟨h₁.objs.size, _, _, ?_, hT₄, rfl, by simp, eT, ?_⟩, fun b o q n f => kp b o ((sl₁.2.1 b f).trans q) n, fun b o q f => ?_⟩
  · rw [Heap.get?_update_other _ _ eT]; exact he₃
  · cases q : s.heap.get? h₁.objs.size with
    | none => rfl
    | some o =>
      obtain ⟨sl, q'⟩ := sl₁.2.2 _ o q
      exact absurd (Heap.lt_size q') (Nat.lt_irrefl _)
  · obtain ⟨sl, q'⟩ := sl₁.2.2 b o q
    exact ⟨sl, kp b _ q' fun z => hne (z ▸ f)⟩

theorem noted_first (hfr : A.frames = some (env :: outer)) (hl : s.heap.FunFrames base (env :: outer)) (hf : env.frame = some L)
    (he : s.heap.get? e = some oe) (hd : oe.data = .fields vs) (h1 : vs[1]? = some .none) (h : ∀ h', Noted (env :: outer) s.heap h' e oe vs → Q () { s with heap := h' }) :
    wpAny M A (noteFrame (.ref e) env) (fun _ s' => wpAny M A (setFlight (.ref e) none) Q E s') E s := by
  unfold noteFrame
  simp only [hf]
  refine wpAny_bind (wpAny_field he hd h1 ?_)
  rw [if_neg (by decide)]
  exact entry_made hfr hl hf he hd (Array.getElem?_eq_some_iff.mp h1).1 h

/-- the flight goes on: the record's head T loses its flight -/
theorem noted_next {T : Addr} {oT : Obj} {ts : Array Value} (hfr : A.frames = some (env :: outer)) (hl : s.heap.FunFrames base (env :: outer)) (hf : env.frame = some L)
    (he : s.heap.get? e = some oe) (hd : oe.data = .fields vs) (h1 : vs[1]? = some (.ref T)) (hT : s.heap.get? T = some oT) (hTd : oT.data = .fields ts) (h3 : ts[3]? = some .none) (hne : T ≠ e)
    (h : ∀ h₁ h', (∀ b o, s.heap.get? b = some o → b ≠ T → h₁.get? b = some o) → (∀ o, s.heap.get? T = some o → ∃ o', h₁.get? T = some o') → (∀ b, h₁.get? b = none → s.heap.get? b = none) → Noted (env :: outer) h₁ h' e oe vs → Q () { s with heap := h' }) :
    wpAny M A (noteFrame (.ref e) env) (fun _ s' => wpAny M A (setFlight (.ref e) none) Q E s') E s := by
  unfold noteFrame
  simp only [hf]
  refine wpAny_bind (wpAny_field he hd h1 ?_)
  rw [if_pos (show (Value.ref T != Value.none) = true from by simp)]
  refine wpAny_bind (wpAny_field hT hTd h3 ?_)
  rw [if_neg (show ¬ ((Value.none == rawInt L) = true) from by simp [rawInt])]
  refine wpAny_bind (wpAny_setField hT hTd (Array.getElem?_eq_some_iff.mp h3).1 ?_)
  have fT : (Obj.mapFields (·.setIfInBounds 3 Value.none) oT).isFreed = false := by rw [obj_fields hTd]; rfl
  have other : ∀ b o, s.heap.get? b = some o → b ≠ T → (s.heap.update T (Obj.mapFields (·.setIfInBounds 3 Value.none))).get? b = some o := fun b o q n => (Heap.get?_update_other _ _ (Ne.symm n)).trans q
  have self := Heap.get?_update_self (Obj.mapFields (·.setIfInBounds 3 Value.none)) hT fT
  refine entry_made (s := { s with heap := s.heap.update T (Obj.mapFields (·.setIfInBounds 3 Value.none)) }) hfr (hl.of_keeps fun b o q nf => ⟨o, other b o q fun z => ?_, rfl⟩) hf (other e oe he (Ne.symm hne)) hd (Array.getElem?_eq_some_iff.mp h1).1
    fun h' nt => h _ h' other (fun _ _ => ⟨_, self⟩) (fun b q => ?_) nt
  · subst z; rw [hT] at q; cases q; exact nf ts hTd
  · by_cases z : b = T
    · subst z; rw [self] at q; cases q
    · rw [← q]; exact (Heap.get?_update_other _ _ (Ne.symm z)).symm
end

/-- what a flight's note leaves of all that stood at the start, and of the memory -/
structure Fly (fs : List Env) (h₀ h h' : Heap) (ρ : Adrs) : Prop where
  tg : TG h h' ρ ρ
  keep : ∀ b o, h₀.get? b ≠ none ∨ b ∈ ρ.flatten → h.get? b = some o → b ∉ fa fs → h'.get? b = some o
  slot : ∀ b o, h.get? b = some o → b ∈ fa fs → ∃ sl, h'.get? b = some { o with slots := sl }
  alive : ∀ b o, h.get? b = some o → ∃ o', h'.get? b = some o'
theorem Step.fly {fs : List Env} {X : List Addr} {h₀ h h' : Heap} {ρ₀ ρ : Adrs} (st : Step fs X h₀ h ρ₀ ρ) (y : Fly fs h₀ h h' ρ) : Step fs X h₀ h' ρ₀ ρ where
  tg := st.tg.trans y.tg
  new := st.new
  keep := fun b o e n f => y.keep b o (.inl (by rw [e]; simp)) (st.keep b o e n f) f
  slot := fun b o e f n => by
    obtain ⟨sl, e₁⟩ := st.slot b o e f n
    obtain ⟨sl', e₂⟩ := y.slot b _ e₁ f
    exact ⟨sl', e₂⟩
  alive := fun b o e => let ⟨o', e'⟩ := st.alive b o e; y.alive b o' e'

theorem flight {C : Cfg} {A : Around} {E : Value → Shared → Prop} {env : Env} {fs : List Env} {L : Addr} {s : Shared} {h₀ : Heap} {ρ : Adrs} {σ : List MO} {e : Value} {ball : MV} {Q : Unit → Shared → Prop} {M : Model}
    (x : Exc C (env :: fs) h₀ s.heap ρ e ball) (m : Mem C (env :: fs) s ρ σ) (al : ∀ b o, h₀.get? b = some o → ∃ o', s.heap.get? b = some o') (hfr : A.frames = some (env :: fs)) (hf : env.frame = some L)
    (h : ∀ h', Exc C (env :: fs) h₀ h' ρ e ball → Mem C (env :: fs) { s with heap := h' } ρ σ → Fly (env :: fs) h₀ s.heap h' ρ → Q () { s with heap := h' }) :
    wpAny M A (noteFrame e env) (fun _ s' => wpAny M A (setFlight e none) Q E s') E s := by
  obtain ⟨a, d, vs, es, n, rfl, ha, hdd, hes, htb, na, nd, nad, oa, od, ba, bd, df⟩ := x
  have hfa : a ∉ fa (env :: fs) := fun hm => by
    obtain ⟨_, o, ho, hn⟩ := m.frames.mem hm
    rw [ha] at ho; cases ho; exact hn _ rfl
  -- from what is touched: the record and, it may be, its head
  have fin : ∀ (Z : List Addr) (h' : Heap), a ∈ Z → (∀ z ∈ Z, h₀.get? z = none ∧ z ∉ ρ.flatten ∧ C.base.get? z = none ∧ ∃ o ts, s.heap.get? z = some o ∧ o.data = .fields ts) →
      (∀ b o, s.heap.get? b = some o → b ∉ Z → b ∉ fa (env :: fs) → h'.get? b = some o) → (∀ b o, s.heap.get? b = some o → b ∈ fa (env :: fs) → ∃ sl, h'.get? b = some { o with slots := sl }) →
      (∀ z ∈ Z, ∃ o, h'.get? z = some o) → 1 < vs.size →
      (∃ T oT ts, h'.get? a = some { cls := .ref 51, dict := some d, data := .fields (vs.setIfInBounds 1 (.ref T)) } ∧ h'.get? T = some oT ∧ oT.data = .fields ts ∧ ts[3]? = some .none ∧ T ≠ a ∧ s.heap.get? T = none) →
      Q () { s with heap := h' } := by
    intro Z h' aZ hZ kp sl alv hsz ⟨T, oT, ts, r1, r2, r3, r4, r5, r6⟩
    have alive : ∀ b o, s.heap.get? b = some o → ∃ o', h'.get? b = some o' := fun b o q => by
      by_cases z : b ∈ Z
      · exact alv b z
      · by_cases f : b ∈ fa (env :: fs)
        · obtain ⟨sl', q'⟩ := sl b o q f; exact ⟨_, q'⟩
        · exact ⟨o, kp b o q z f⟩
    have offZ : ∀ b ∈ ρ.flatten, b ∉ Z := fun b hb z => (hZ b z).2.1 hb
    have tg : TG s.heap h' ρ ρ := ⟨List.prefix_refl _, fun b its ⟨o, q, c, k, dt⟩ => by
      by_cases f : b ∈ fa (env :: fs)
      · obtain ⟨sl', q'⟩ := sl b o q f
        exact ⟨_, q', c, k, dt⟩
      · refine ⟨o, kp b o q (fun z => ?_) f, c, k, dt⟩
        obtain ⟨_, _, _, o', ts', q', dt'⟩ := hZ b z
        rw [q] at q'; cases q'; rw [dt] at dt'; cases dt'⟩
    have kd : h'.get? d = some (dictOf es n) := by
      refine kp d _ hdd (fun z => ?_) df.1
      obtain ⟨_, _, _, o', ts', q', dt'⟩ := hZ d z
      rw [hdd] at q'; cases q'; cases dt'
    have T0 : h₀.get? T = none := by
      cases q : h₀.get? T with
      | none => rfl
      | some o => obtain ⟨o', q'⟩ := al T o q; rw [r6] at q'; cases q'
    have Tr : T ∉ ρ.flatten := fun hb => by obtain ⟨o, q⟩ := (m.off T hb).2.2; rw [r6] at q; cases q
    have Tb : C.base.get? T = none := by
      cases q : C.base.get? T with
      | none => rfl
      | some o => rw [m.stay T o q] at r6; cases r6
    refine h h' ⟨a, d, _, es, n, rfl, r1, kd, hes.mono tg, .inr ⟨T, oT, ts, by simp [hsz], r2, r3, r4, r5, T0, Tr, Tb⟩, na, nd, nad, oa, od, ba, bd, df⟩ ?_ ?_
    · refine ⟨fun b o q => kp b o (m.stay b o q) (fun z => by rw [(hZ b z).2.2.1] at q; cases q) (fun f => by rw [m.frame_base f] at q; cases q), m.gens, m.os, ?_, ?_, m.nodup, fun b hb => ⟨(m.off b hb).1, (m.off b hb).2.1, let ⟨o, q⟩ := (m.off b hb).2.2; alive b o q⟩, m.nosys⟩
      · have : ∀ l : List Env, (∀ b ∈ fa l, b ∈ fa (env :: fs)) → s.heap.FunFrames C.base l → h'.FunFrames C.base l := by
          intro l
          induction l with
          | nil => intro _ _; trivial
          | cons ev rest ih =>
            rintro hn ⟨x1, ⟨L', o, y1, y2, y3, y4⟩, x3⟩
            obtain ⟨sl', q'⟩ := sl L' o y3 (hn L' (by simp [fa, y1]))
            exact ⟨x1, ⟨L', _, y1, y2, q', y4⟩, ih (fun b hb => hn b (by simp only [fa, List.filterMap_cons, y1] at hb ⊢; exact List.mem_cons_of_mem _ hb)) x3⟩
        exact this _ (fun _ hb => hb) m.frames
      · refine .of_get m.len fun i as mo q q' => ?_
        obtain ⟨as', q₂, r⟩ := m.get q'
        rw [q] at q₂; cases q₂
        exact r.mono tg fun b hb o z => kp b o z (offZ b (mem_flat q hb)) (m.off b (mem_flat q hb)).2.1
    · refine ⟨tg, fun b o hb q f => kp b o q (fun z => ?_) f, sl, alive⟩
      rcases hb with hb | hb
      · exact hb (hZ b z).1
      · exact offZ b hb z
  rcases htb with h1 | ⟨T, oT, ts, h1, hT, hTd, h3, hTa, T0, Tr, Tb⟩
  · refine noted_first hfr m.frames hf ha rfl h1 fun h' nt => fin [a] h' (by simp) (fun z hz => ?_) (fun b o q z f => nt.keep b o q (fun e => z (by simp [e])) f) nt.slot (fun z hz => ?_) (Array.getElem?_eq_some_iff.mp h1).1 nt.here
    · rw [List.mem_singleton.mp hz]; exact ⟨na, oa, ba, _, _, ha, rfl⟩
    · obtain ⟨T, oT, ts, r1, _⟩ := nt.here
      rw [List.mem_singleton.mp hz]; exact ⟨_, r1⟩
  · have hTf : T ∉ fa (env :: fs) := fun hm => by
      obtain ⟨_, o, ho, hn⟩ := m.frames.mem hm
      rw [hT] at ho; cases ho; exact hn _ hTd
    refine noted_next hfr m.frames hf ha rfl h1 hT hTd h3 hTa fun h₁ h' k1 k2 k3 nt => fin [a, T] h' (by simp) (fun z hz => ?_)
      (fun b o q z f => nt.keep b o (k1 b o q fun e => z (by simp [e])) (fun e => z (by simp [e])) f) (fun b o q f => nt.slot b o (k1 b o q fun e => hTf (e ▸ f)) f) (fun z hz => ?_) (Array.getElem?_eq_some_iff.mp h1).1 ?_
    · rcases List.mem_cons.mp hz with e | hz
      · rw [e]; exact ⟨na, oa, ba, _, _, ha, rfl⟩
      · rw [List.mem_singleton.mp hz]; exact ⟨T0, Tr, Tb, _, _, hT, hTd⟩
    · rcases List.mem_cons.mp hz with e | hz
      · obtain ⟨T', oT', ts', r1, _⟩ := nt.here
        rw [e]; exact ⟨_, r1⟩
      · obtain ⟨o', q⟩ := k2 _ hT
        rw [List.mem_singleton.mp hz]
        exact ⟨_, nt.keep T o' q hTa hTf⟩
    · obtain ⟨T', oT', ts', r1, r2, r3, r4, r5, r6⟩ := nt.here
      exact ⟨T', oT', ts', r1, r2, r3, r4, r5, k3 _ r6⟩

/-! MStmt -/
theorem funFrames_slots {h h' base : Heap} : ∀ (l : List Env), (∀ b o, b ∈ fa l → h.get? b = some o → (∀ vs, o.data ≠ .fields vs) → ∃ o', h'.get? b = some o' ∧ ∀ vs, o'.data ≠ .fields vs) → h.FunFrames base l → h'.FunFrames base l
  | [], _, _ => trivial
  | env :: rest, k, ⟨x1, ⟨L, o, y1, y2, y3, y4⟩, x3⟩ => by
    have hL : L ∈ fa (env :: rest) := by simp [fa, y1]
    obtain ⟨o', q, nf⟩ := k L o hL y3 y4
    refine ⟨x1, ⟨L, o', y1, y2, q, nf⟩, funFrames_slots rest (fun b o hb => k b o ?_) x3⟩
    simp only [fa, List.filterMap_cons, y1] at hb ⊢
    exact List.mem_cons_of_mem _ hb

/-- a name of the frame is stored -/
theorem Mem.store {C : Cfg} {fs : List Env} {s : Shared} {ρ : Adrs} {σ : List MO} {h' : Heap} {L : Addr} {mp mp' : Str → Option Value} {d : Drawn} {t : Nat} {os : OsState} {g : Array GenState}
    (m : Mem C fs s ρ σ) (hn : s.heap.Ns L mp) (hn' : h'.Ns L mp') (hs : Heap.SameBut L s.heap h') (hL : L ∈ fa fs) (hg : g = s.gens) (ho : os = s.os) :
    Mem C fs ⟨h', g, d, t, os⟩ ρ σ ∧ Step fs [L] s.heap h' ρ ρ := by
  have kp : ∀ b o, b ≠ L → s.heap.get? b = some o → h'.get? b = some o := fun b o n q => (hs.2 b n).trans q
  have there : ∃ o, h'.get? L = some o ∧ ∀ vs, o.data ≠ .fields vs := by
    obtain ⟨o, es, ep, q, dt, _⟩ := hn'
    exact ⟨o, q, fun vs e => by rw [dt] at e; cases e⟩
  have alive : ∀ b o, s.heap.get? b = some o → ∃ o', h'.get? b = some o' := fun b o q => by
    by_cases e : b = L
    · obtain ⟨o', q', _⟩ := there; exact e ▸ ⟨o', q'⟩
    · exact ⟨o, kp b o e q⟩
  have off : ∀ b ∈ ρ.flatten, b ≠ L := fun b hb e => (m.off b hb).2.1 (e ▸ hL)
  have tg : TG s.heap h' ρ ρ := ⟨List.prefix_refl _, fun a its ⟨o, q, c, k, dt⟩ => ⟨o, kp a o (fun e => by
    obtain ⟨o', es, ep, q', dt', _⟩ := hn
    subst e; rw [q] at q'; cases q'; rw [dt] at dt'; cases dt') q, c, k, dt⟩⟩
  refine ⟨⟨fun b o q => kp b o (fun e => by rw [e, m.frame_base hL] at q; cases q) (m.stay b o q), hg.trans m.gens, ho.trans m.os, ?_, ?_, m.nodup, fun b hb => ⟨(m.off b hb).1, (m.off b hb).2.1, let ⟨o, q⟩ := (m.off b hb).2.2; alive b o q⟩, m.nosys⟩,
    ⟨tg, fun _ hb => .inl hb, fun b o q n f => kp b o (fun e => f (e ▸ hL)) q, fun b o q f n => ⟨o.slots, kp b o (fun e => n (by simp [e])) q⟩, alive⟩⟩
  · refine funFrames_slots fs (fun b o hb q nf => ?_) m.frames
    by_cases e : b = L
    · rw [e]; exact there
    · exact ⟨o, kp b o e q, nf⟩
  · refine .of_get m.len fun i as mo q q' => ?_
    obtain ⟨as', q₂, r⟩ := m.get q'
    rw [q] at q₂; cases q₂
    exact r.mono tg fun b hb o z => kp b o (off b (mem_flat q hb)) z

section
variable {C : Cfg} {f : Addr} {n : Nat} {q : Bool} {loc : List (Str × MV)} {σ : List MO} {Q : MF → List (Str × MV) → List MO → Prop} {X : MV → List (Str × MV) → List MO → Prop}
variable {fs : List Env} {L : Addr} {s s₁ s' : Shared} {ρ ρ₁ : Adrs}

theorem PostF.lift {fl : Flow} (st : Step fs [L] s.heap s₁.heap ρ ρ₁) (p : PostF C fs L s₁ ρ₁ Q fl s') : PostF C fs L s ρ Q fl s' := by obtain ⟨a, b, c, d, h1, h2, h3, h4, h5⟩ := p; exact ⟨a, b, c, d, h1, h2, h3, st.trans h4, h5⟩
theorem PostFX.lift {e : Value} (st : Step fs [L] s.heap s₁.heap ρ ρ₁) (p : PostFX C fs L s₁ ρ₁ X e s') : PostFX C fs L s ρ X e s' := by obtain ⟨a, b, c, d, h1, h2, h3, h4, h5⟩ := p; exact ⟨a, b, c, d, h1.shift st, h2, h3, st.trans h4, h5⟩
theorem PostX.toF {P : Params} {fs : List Env} {e : Value} (l : Loc s.heap ρ L loc) (p : PostX C (envAt P f L :: fs) s ρ (fun b σ' => X b loc σ') e s') : PostFX C (envAt P f L :: fs) L s ρ X e s' :=
  let ⟨b, σ', ρ', x, m, st, h⟩ := p
  ⟨b, loc, σ', ρ', x, m, l.step st fa_head (by simp), st.mono (by simp), h⟩

theorem ExecsW.mono {b : List Stmt} {Q' : MF → List (Str × MV) → List MO → Prop} {X' : MV → List (Str × MV) → List MO → Prop} (h : ExecsW C f n q b loc σ Q X) (hq : ∀ a b c, Q a b c → Q' a b c) (hx : ∀ a b c, X a b c → X' a b c) : ExecsW C f n q b loc σ Q' X' :=
  fun A fs L s ρ a b c d => wpAny_mono (h A fs L s ρ a b c d) (fun _ _ zz => by obtain ⟨x1, x2, x3, x4, y1, y2, y3, y4, y5⟩ := zz; exact ⟨x1, x2, x3, x4, y1, y2, y3, y4, hq _ _ _ y5⟩) fun _ _ zz => by obtain ⟨x1, x2, x3, x4, y1, y2, y3, y4, y5⟩ := zz; exact ⟨x1, x2, x3, x4, y1, y2, y3, y4, hx _ _ _ y5⟩

theorem xs_nil (h : Q .next loc σ) : ExecsW C f n q [] loc σ Q X :=
  fun _ _ _ _ ρ _ _ m l => wpAny_execs_nil ⟨.next, loc, σ, ρ, .next, m, l, .refl _ _ _ _, h⟩
theorem xs_cons {st : Stmt} {rest : List Stmt} (h : ExecW C f n q st loc σ (fun mf loc' σ' => match mf with | .next => ExecsW C f n q rest loc' σ' Q X | mf => Q mf loc' σ') X) : ExecsW C f n q (st :: rest) loc σ Q X := by
  intro A fs L s ρ hA ok m l
  refine wpAny_execs_cons (wpAny_mono (h A fs L s ρ hA ok m l) (fun fl s₁ zz => ?_) fun _ _ x => x)
  obtain ⟨mf, loc', σ', ρ', rf, m', l', st', hq⟩ := zz
  cases rf with
  | next => exact wpAny_mono (hq A fs L s₁ ρ' hA ok m' l') (fun _ _ p => p.lift st') fun _ _ p => p.lift st'
  | brk => exact ⟨_, _, _, _, .brk, m', l', st', hq⟩
  | cont => exact ⟨_, _, _, _, .cont, m', l', st', hq⟩
  | ret r => exact ⟨_, _, _, _, .ret r, m', l', st', hq⟩

/-- a store into a name, behind an evaluation -/
theorem stored_name {A : Around} {x : Str} {v : Value} {mv : MV} {R : Unit → Shared → Prop} {E : Value → Shared → Prop} (hx : (fdAt C.w.params f).scope.names.lookup x = some .local) (hk : (fdAt C.w.params f).scope.kind = .function)
    (m : Mem C (envAt C.w.params f L :: fs) s ρ σ) (l : Loc s.heap ρ L loc) (r : RV s.heap ρ v mv)
    (h : ∀ s₁, Mem C (envAt C.w.params f L :: fs) s₁ ρ σ → Loc s₁.heap ρ L ((x, mv) :: loc) → Step (envAt C.w.params f L :: fs) [L] s.heap s₁.heap ρ ρ → R () s₁) :
    wpAny (model C.prog C.w) A (storeName (envAt C.w.params f L) x v) R E s := by
  obtain ⟨mp, ns, k⟩ := l
  have e : envAt C.w.params f L = envOfC (fdAt C.w.params f).qualname (fdAt C.w.params f).scope L f (fdAt C.w.params f).code := envAt_eq _ _ _
  have key : wpAny (model C.prog C.w) A (storeName (envOfC (fdAt C.w.params f).qualname (fdAt C.w.params f).scope L f (fdAt C.w.params f).code) x v) R E s := by
    refine wpAny_storeName_local hx ns (fun h' hn hs => ?_) (by show ((fdAt C.w.params f).scope.kind == .class || ((fdAt C.w.params f).scope.kind == .module && _)) = false; rw [hk]; rfl)
    obtain ⟨m', st⟩ := m.store (d := s.drawn) (t := s.toks + 1) ns hn hs fa_head rfl rfl
    refine h _ m' ⟨_, hn, fun y my hy => ?_⟩ st
    rw [List.lookup_cons] at hy
    by_cases hyx : y = x
    · subst hyx
      rw [beq_self_eq_true] at hy
      cases hy
      exact .inl ⟨v, by simp, r.mono st.tg⟩
    · rw [show (y == x) = false from by simpa using hyx] at hy
      refine (k y my hy).imp (fun ⟨u, hu, ru⟩ => ⟨u, by simp [hyx, hu], ru.mono st.tg⟩) fun z => z
  rw [e]; exact key

theorem x_assign {x : Str} {p pos : Pos} {value : PySem.Expr} (hx : (fdAt C.w.params f).scope.names.lookup x = some .local) (h : EvalW C f n q value loc σ (fun mv σ₁ => Q .next ((x, mv) :: loc) σ₁) (fun b σ₁ => X b loc σ₁))
    (hs : ∀ env, swapsWith value (some (.Name x p)) pos.line env = pure false := by intro _; rfl) (hk : (fdAt C.w.params f).scope.kind = .function := by kernel_rfl) : ExecW C f n q (.Assign [.Name x p] value pos) loc σ Q X := by
  intro A fs L s ρ hA ok m l
  refine wpAny_Assign_Name (wpAny_mono (seq2 h hA ok m l fun v s₁ mv σ₁ ρ₁ r m₁ l₁ st₁ hq => ?_) (fun _ _ x => x) fun _ _ p => p.toF l) (hs _)
  exact stored_name hx hk m₁ l₁ r fun s₂ m₂ l₂ st₂ => ⟨.next, _, σ₁, ρ₁, .next, m₂, l₂, (st₁.mono (by simp)).trans st₂, hq⟩

/-- a store into a cell -/
theorem x_assign_cell {x : Str} {p pos : Pos} {k i : Nat} {o : Option MV} {value : PySem.Expr} (hx : (fdAt C.w.params f).scope.names.lookup x = some .cell) (hc : ∀ L, (cellsFrom (L + 1) (fdAt C.w.params f).scope.names []).lookup x = some (L + k)) (e : loc.lookup x = some (.box k i))
    (h : EvalW C f n q value loc σ (fun mv σ₁ => ∃ o, σ₁[i]? = some (.cell o) ∧ Q .next loc (σ₁.set i (.cell (some mv)))) (fun b σ₁ => X b loc σ₁))
    (hs : ∀ env, swapsWith value (some (.Name x p)) pos.line env = pure false := by intro _; rfl) (hk : (fdAt C.w.params f).scope.kind = .function := by kernel_rfl) : ExecW C f n q (.Assign [.Name x p] value pos) loc σ Q X := by
  intro A fs L s ρ hA ok m l
  refine wpAny_Assign_Name (wpAny_mono (seq2 h hA ok m l fun v s₁ mv σ₁ ρ₁ r m₁ l₁ st₁ zz => ?_) (fun _ _ x => x) fun _ _ p => p.toF l) (hs _)
  obtain ⟨o, e1, hq⟩ := zz
  obtain ⟨mp, ns, kk⟩ := id l₁
  obtain ⟨v, hv, r'⟩ | ⟨_, _, e2, hr⟩ := kk x _ e
  case inl => cases r'
  cases e2
  obtain ⟨as, ha, ro⟩ := m₁.get e1
  rw [hr] at ha; cases ha
  have hcell : ∃ v₀, s₁.heap.IsCell (L + k) v₀ := by
    cases ro with
    | cell0 l => exact ⟨_, l⟩
    | cell1 l r => exact ⟨_, l⟩
  obtain ⟨v₀, hcell⟩ := hcell
  have key : ∀ {R : Unit → Shared → Prop} {E : Value → Shared → Prop}, (∀ h', h'.IsCell (L + k) (some v) → Heap.SameBut (L + k) s₁.heap h' → R () { s₁ with heap := h' }) → wpAny (model C.prog C.w) A (storeName (envAt C.w.params f L) x v) R E s₁ := by
    intro R E hh
    rw [envAt_eq]
    exact wpAny_storeName_cell hk hx (hc L) hcell hh
  refine key fun h' hv hs' => ?_
  obtain ⟨m', st⟩ := m₁.upd (d := s₁.drawn) (t := s₁.toks) (mo' := .cell (some mv)) hr e1 (by simp) (fun b o hb z => (hs'.2 b (fun q => hb (by simp [q]))).trans z)
    (fun b hb => by rw [List.mem_singleton.mp hb]; exact let ⟨o, ho, _⟩ := hv; ⟨o, ho⟩) (fun tg => .cell1 hv (r.mono tg)) rfl rfl []
  exact ⟨.next, loc, _, ρ₁, .next, m', l₁.step st fa_head (by simp), (st₁.trans st).mono (by simp), hq⟩

def MV.imm : MV → Bool
  | .none | .bool _ | .int _ | .str _ => true
  | _ => false
theorem x_expr {e : PySem.Expr} {pos : Pos} (h : EvalW C f n q e loc σ (fun mv σ₁ => mv.imm = true ∧ Q .next loc σ₁) (fun b σ₁ => X b loc σ₁)) (hs : ∀ env, swapsWith e none pos.line env = pure false := by intro _; rfl)
    (hk : (fdAt C.w.params f).scope.kind = .function := by kernel_rfl) : ExecW C f n q (.Expr e pos) loc σ Q X := by
  intro A fs L s ρ hA ok m l
  refine wpAny_Expr (wpAny_mono (seq2 h hA ok m l (R := fun v s' => match v with | .ref _ => False | _ => PostF C (envAt C.w.params f L :: fs) L s ρ Q .next s') fun v s₁ mv σ₁ ρ₁ r m₁ l₁ st₁ hh => ?_) (fun _ _ x => x) fun _ _ p => p.toF l) ?hi (hs _)
  case hi => rw [envAt_eq]; show ((fdAt C.w.params f).scope.kind == .module && _) = false; rw [hk]; rfl
  · obtain ⟨hi, hq⟩ := hh
    have done : PostF C (envAt C.w.params f L :: fs) L s ρ Q .next s₁ := ⟨.next, _, σ₁, ρ₁, .next, m₁, l₁, st₁.mono (by simp), hq⟩
    cases r with
    | none => exact done
    | bool b => exact done
    | int i t => exact done
    | str x t => exact done
    | tup _ _ => cases hi
    | obj _ => cases hi
    | raw _ => cases hi
theorem x_return {e : PySem.Expr} {pos : Pos} (h : EvalW C f n q e loc σ (fun mv σ₁ => Q (.ret mv) loc σ₁) (fun b σ₁ => X b loc σ₁)) : ExecW C f n q (.Return (some e) pos) loc σ Q X := by
  intro A fs L s ρ hA ok m l
  refine wpAny_Return_some (wpAny_mono (seq2 h hA ok m l fun v s₁ mv σ₁ ρ₁ r m₁ l₁ st₁ hq => ?_) (fun _ _ x => x) fun _ _ p => p.toF l)
  exact ⟨.ret mv, _, σ₁, ρ₁, .ret r, m₁, l₁, st₁.mono (by simp), hq⟩
theorem x_if {t : PySem.Expr} {a b : List Stmt} {pos : Pos} (h : TestW C f n q t loc σ (fun c σ₁ => if c then ExecsW C f n q a loc σ₁ Q X else ExecsW C f n q b loc σ₁ Q X) (fun b σ₁ => X b loc σ₁)) : ExecW C f n q (.If t a b pos) loc σ Q X := by
  intro A fs L s ρ hA ok m l
  refine wpAny_If (wpAny_mono (h A fs L s ρ hA ok m l) (fun c s₁ zz => ?_) fun _ _ p => p.toF l)
  obtain ⟨σ₁, ρ₁, m₁, st₁, hq⟩ := zz
  cases c with
  | true => exact wpAny_mono (hq A fs L s₁ ρ₁ hA ok m₁ (l.step st₁ fa_head (by simp))) (fun _ _ p => p.lift (st₁.mono (by simp))) fun _ _ p => p.lift (st₁.mono (by simp))
  | false => exact wpAny_mono (hq A fs L s₁ ρ₁ hA ok m₁ (l.step st₁ fa_head (by simp))) (fun _ _ p => p.lift (st₁.mono (by simp))) fun _ _ p => p.lift (st₁.mono (by simp))
theorem x_continue {pos : Pos} (h : Q .cont loc σ) : ExecW C f n q (.Continue pos) loc σ Q X :=
  fun _ _ _ _ ρ _ _ m l => wpAny_Continue ⟨.cont, loc, σ, ρ, .cont, m, l, .refl _ _ _ _, h⟩
end

/-! MCall -/
def PostVs (C : Cfg) (fs : List Env) (s : Shared) (ρ : Adrs) (Q : List MV → List MO → Prop) (vs : List Value) (s' : Shared) : Prop :=
  ∃ ms σ' ρ', RVs s'.heap ρ' vs ms ∧ Mem C fs s' ρ' σ' ∧ Step fs [] s.heap s'.heap ρ ρ' ∧ Q ms σ'
def ArgsW (C : Cfg) (f : Addr) (n : Nat) (q : Bool) (es : List PySem.Expr) (loc : List (Str × MV)) (σ : List MO) (Q : List MV → List MO → Prop) (X : MV → List MO → Prop) : Prop :=
  ∀ (A : Around) (fs : List Env) (L : Addr) (s : Shared) (ρ : Adrs) (pos : Pos), A.frames = some (envAt C.w.params f L :: fs) → OkA A q n → Mem C (envAt C.w.params f L :: fs) s ρ σ → Loc s.heap ρ L loc →
    wpAny (model C.prog C.w) A (spliced (backTo pos (starEach es (envAt C.w.params f L)))) (PostVs C (envAt C.w.params f L :: fs) s ρ Q) (PostX C (envAt C.w.params f L :: fs) s ρ X) s

section
variable {C : Cfg} {f : Addr} {n : Nat} {q : Bool} {loc : List (Str × MV)} {σ : List MO} {Q : MV → List MO → Prop} {QS : List MV → List MO → Prop} {X : MV → List MO → Prop}

theorem as_nil (h : QS [] σ) : ArgsW C f n q [] loc σ QS X := fun _ _ _ _ ρ _ _ _ m _ => wpAny_items_nil ⟨[], σ, ρ, .nil, m, .refl _ _ _ _, h⟩
theorem as_cons {e : PySem.Expr} {rest : List PySem.Expr} (h : EvalW C f n q e loc σ (fun mv σ₁ => ArgsW C f n q rest loc σ₁ (fun ms σ₂ => QS (mv :: ms) σ₂) X) X)
    (he : ∀ env, starEach (e :: rest) env = (false, eval e env) :: starEach rest env := by intro _; rfl) : ArgsW C f n q (e :: rest) loc σ QS X := by
  intro A fs L s ρ pos hA ok m l
  refine wpAny_items_cons (seq2 h hA ok m l fun v s₁ mv σ₁ ρ₁ r m₁ l₁ st₁ h₁ => ?_) (he _)
  refine wpAny_mono (h₁ A fs L s₁ ρ₁ pos hA ok m₁ l₁) (fun vs s₂ zz => ?_) fun _ _ p => p.lift st₁
  obtain ⟨ms, σ₂, ρ₂, rs, m₂, st₂, hq⟩ := zz
  exact ⟨mv :: ms, σ₂, ρ₂, .cons (r.mono st₂.tg) rs, m₂, st₁.trans st₂, hq⟩
theorem ArgsW.mono {es : List PySem.Expr} {Q' : List MV → List MO → Prop} {X' : MV → List MO → Prop} (h : ArgsW C f n q es loc σ QS X) (hq : ∀ a b, QS a b → Q' a b) (hx : ∀ a b, X a b → X' a b) : ArgsW C f n q es loc σ Q' X' :=
  fun A fs L s ρ pos a b c d => wpAny_mono (h A fs L s ρ pos a b c d) (fun _ _ zz => by obtain ⟨x1, x2, x3, x4, x5, x6, x7⟩ := zz; exact ⟨x1, x2, x3, x4, x5, x6, hq _ _ x7⟩) fun _ _ p => p.mono hx

/-- a new tuple -/
theorem new_tuple {A : Around} {fs : List Env} {s : Shared} {ρ : Adrs} {vs : List Value} {ms : List MV} {E : Value → Shared → Prop} (m : Mem C fs s ρ σ) (rs : RVs s.heap ρ vs ms) (hz : ms.length ≤ 1000) (h : Q (.tup ms) σ) :
    wpAny (model C.prog C.w) A (newTuple vs) (PostV C fs s ρ Q) E s := by
  have hlen := rs.length
  refine wpAny_newObj_type ?_ (by show vs.toArray.size ≤ sizeLine; rw [List.size_toArray, sizeLine_eq]; omega)
  have k : ∀ b o, s.heap.get? b = some o → (s.heap.push ({ cls := .type "tuple", data := .seq vs.toArray } : Obj)).get? b = some o := fun b o e => Heap.get?_push_of_some _ e
  exact ⟨.tup ms, σ, ρ, .tup ⟨_, Heap.get?_push_size _ rfl, rfl, 0, rfl⟩ (rs.mono (tg_keeps k ρ)), m.keeps k rfl rfl, Step.keeps k _ _ _, h⟩
theorem ev_tuple {es : List PySem.Expr} {k : Nat} {pos : Pos} (h : ArgsW C f n q es loc σ (fun ms σ₁ => ms.length ≤ 1000 ∧ Q (.tup ms) σ₁) X) : EvalW C f n q (.Tuple es k pos) loc σ Q X := by
  intro A fs L s ρ hA ok m l
  refine Tuple_ (wpAny_mono (h A fs L s ρ pos hA ok m l) (fun vs s₁ zz => ?_) fun _ _ x => x)
  obtain ⟨ms, σ₁, ρ₁, rs, m₁, st₁, hz, hq⟩ := zz
  exact wpAny_mono (new_tuple m₁ rs hz hq) (fun _ _ p => p.lift st₁) fun _ _ x => x
theorem Mem.big {fs : List Env} {s : Shared} {ρ : Adrs} {h' : Heap} (m : Mem C fs s ρ σ) (k : ∀ b o, s.heap.get? b = some o → h'.get? b = some o) : 3 < h'.objs.size := by
  obtain ⟨p, loose, mg, mb, T⟩ := C.top
  obtain ⟨o, _, _, ho, _⟩ := T.g
  exact Heap.lt_size (k _ _ (m.stay _ _ ho))
theorem Mem.sys_size {fs : List Env} {s : Shared} {ρ : Adrs} (m : Mem C fs s ρ σ) : ¬ sysModules = s.heap.objs.size := by
  have := m.big (h' := s.heap) (fun _ _ e => e)
  show ¬ (1 : Nat) = s.heap.objs.size
  omega
/-- a new list -/
theorem new_list {A : Around} {fs : List Env} {s : Shared} {ρ : Adrs} {vs : List Value} {ms : List MV} {E : Value → Shared → Prop} (m : Mem C fs s ρ σ) (rs : RVs s.heap ρ vs ms) (hz : ms.length ≤ 100000) (h : Q (.obj σ.length) (σ ++ [.list ms])) :
    wpAny (model C.prog C.w) A (newList vs) (PostV C fs s ρ Q) E s := by
  have hlen := rs.length
  refine wpAny_newObj_type ?_ (by show vs.toArray.size ≤ sizeLine; rw [List.size_toArray, sizeLine_eq]; omega)
  have k : ∀ b o, s.heap.get? b = some o → (s.heap.push ({ cls := .type "list", data := .seq vs.toArray } : Obj)).get? b = some o := fun b o e => Heap.get?_push_of_some _ e
  have hn : s.heap.get? s.heap.objs.size = none := by
    cases e : s.heap.get? s.heap.objs.size with
    | none => rfl
    | some o => exact absurd (Heap.lt_size e) (Nat.lt_irrefl _)
  obtain ⟨m', st⟩ := m.new (d := s.drawn) (t := s.toks) (as := [s.heap.objs.size]) (mo := .list ms) k (fun b hb => by rw [List.mem_singleton.mp hb]; exact ⟨hn, _, Heap.get?_push_size _ rfl⟩) (by simp) (by simpa using m.sys_size)
    (fun tg => .list ⟨0, Heap.get?_push_size _ rfl⟩ (rs.mono tg)) rfl rfl []
  exact ⟨_, _, _, .obj (r := []) (by rw [← m.len]; simp), m', st, h⟩
theorem ev_list {es : List PySem.Expr} {pos : Pos} (h : ArgsW C f n q es loc σ (fun ms σ₁ => ms.length ≤ 100000 ∧ Q (.obj σ₁.length) (σ₁ ++ [.list ms])) X) : EvalW C f n q (.List es pos) loc σ Q X := by
  intro A fs L s ρ hA ok m l
  refine List_ (wpAny_mono (h A fs L s ρ pos hA ok m l) (fun vs s₁ zz => ?_) fun _ _ x => x)
  obtain ⟨ms, σ₁, ρ₁, rs, m₁, st₁, hz, hq⟩ := zz
  exact wpAny_mono (new_list m₁ rs hz hq) (fun _ _ p => p.lift st₁) fun _ _ x => x

/-! attributes of an object of an own class -/
theorem REs.refs {P : Params} {h : Heap} {ρ : Adrs} {es : List DictEntry} {fs : List (Str × MV)} (r : REs P h ρ es fs) : es.any (·.refKey) = false := by
  induction r with
  | nil => rfl
  | cons _ _ ih => rw [List.any_cons, ih]; rfl
theorem str_other {x y : Str} (t : Tok) (h : ¬ x = y) : (Value.str y t).isStr x = false := by
  show (y == x) = false
  simpa using fun e => h e.symm
theorem REs.getL_some {P : Params} {h : Heap} {ρ : Adrs} {x : Str} {mv : MV} {es : List DictEntry} {fs : List (Str × MV)} (r : REs P h ρ es fs) (e : fs.lookup x = some mv) : ∃ v, getL x es = some (some v) ∧ RV h ρ v mv := by
  have key : ∃ en, es.find? (·.key.isStr x) = some en ∧ RV h ρ en.val mv := by
    induction r with
    | nil => cases e
    | cons a r' ih =>
      rename_i y t v m es' fs'
      rw [List.lookup_cons] at e
      by_cases hxy : x = y
      · subst hxy
        rw [beq_self_eq_true] at e; cases e
        exact ⟨⟨PyData.keyHash P x, .str x t, v⟩, by rw [List.find?_cons]; simp [Value.isStr], a⟩
      · rw [show (x == y) = false from by simpa using hxy] at e
        obtain ⟨en, h1, h2⟩ := ih e
        exact ⟨en, by rw [List.find?_cons]; simp only [str_other t hxy]; exact h1, h2⟩
  obtain ⟨en, h1, h2⟩ := key
  exact ⟨en.val, by unfold W.getL; rw [h1], h2⟩
theorem REs.getL_none {P : Params} {h : Heap} {ρ : Adrs} {x : Str} {es : List DictEntry} {fs : List (Str × MV)} (r : REs P h ρ es fs) (e : fs.lookup x = none) : getL x es = some none := by
  have key : es.find? (·.key.isStr x) = none := by
    induction r with
    | nil => rfl
    | cons a r' ih =>
      rename_i y t v m es' fs'
      rw [List.lookup_cons] at e
      by_cases hxy : x = y
      · subst hxy; rw [beq_self_eq_true] at e; cases e
      · rw [show (x == y) = false from by simpa using hxy] at e
        rw [List.find?_cons]; simp only [str_other t hxy]; exact ih e
  unfold W.getL
  rw [key]; simp [r.refs]

theorem inst_at {h : Heap} {a d c : Addr} {es : List DictEntry} {n : Nat} (h1 : h.get? a = some (instObj c d)) (h2 : h.get? d = some (dictOf es n)) : InstAt h a (instObj c d) c (some (dictOf es n)) := ⟨h1, rfl, rfl, h2⟩

/-- what a class must be like for a plain read of an attribute -/
def plainCls (K : Frag) (c : Addr) (x : Str) : Bool := plainGet K c x && hasDictIn K c && (match findIn K (.ref c) x with | some a => noGet K a | none => false)

theorem RV.handed {h : Heap} {ρ : Adrs} {v : Value} {mv : MV} (r : RV h ρ v mv) (k : ∀ u, mv ≠ .raw u) : handedIn v = true := by
  cases r with
  | raw v => exact absurd rfl (k v)
  | _ => rfl

theorem ev_attr {o : PySem.Expr} {x : Str} {pos : Pos} (h : EvalW C f n q o loc σ (fun mv σ₁ => ∃ i c fs r, mv = .obj i ∧ σ₁[i]? = some (.inst c fs) ∧ plainCls C.K c x = true ∧ fs.lookup x = some r ∧ (∀ u, r ≠ .raw u) ∧ Q r σ₁) X)
    (he : ∀ env, eval (.Attribute o x pos) env = (do
      let v ← eval o env
      standAt pos.atName
      let r ← holding [v] (getAttr v x true)
      letTemporaryGo o v r
      pure r) := by intro _; with_unfolding_all rfl) : EvalW C f n q (.Attribute o x pos) loc σ Q X := by
  intro A fs L s ρ hA ok m l
  refine Attribute_any_ (seq2 h hA ok m l fun v s₁ mv σ₁ ρ₁ r m₁ l₁ st₁ zz => ?_) (he _)
  obtain ⟨i, c, flds, r', e1, e2, e3, e4, e5, hq⟩ := zz
  subst e1
  obtain ⟨as, ha, ro⟩ := m₁.get e2
  cases r with
  | obj e =>
    rw [ha] at e; cases e
    cases ro with
    | inst h1 h2 res =>
      obtain ⟨u, hu, ru⟩ := res.getL_some e4
      unfold plainCls at e3
      simp only [Bool.and_eq_true] at e3
      obtain ⟨⟨p1, p2⟩, p3⟩ := e3
      split at p3
      · rename_i at' hat
        refine get_value (C.kin.keeps m₁.stay) (inst_at h1 h2) (plainGet_of p1).1 (findObj_own p2 hat p3 hu) (ru.handed e5) ?_
        exact ⟨r', σ₁, ρ₁, ru, m₁.same rfl rfl rfl, st₁, hq⟩
      · cases p3
end

/-! MFun -/
theorem fldUnder_mono {α : Type} {j k : Nat} (hjk : j ≤ k) : ∀ {fs : List (α × MV)}, fldUnder j fs = true → fldUnder k fs = true
  | [], _ => rfl
  | f :: r, u => by
    simp only [fldUnder, Bool.and_eq_true] at u ⊢
    exact ⟨MV.under_mono hjk u.1, fldUnder_mono hjk u.2⟩
theorem MO.under_mono {j k : Nat} (hjk : j ≤ k) {mo : MO} (u : mo.under j = true) : mo.under k = true := by
  cases mo with
  | list xs => exact MV.unders_mono hjk u
  | inst c fs => exact fldUnder_mono hjk u
  | sdict fs => exact fldUnder_mono hjk u
  | pdict fs => exact fldUnder_mono hjk u
  | exc c b fs => exact fldUnder_mono hjk u
  | dead => rfl
  | cell o => cases o with
    | none => rfl
    | some v => exact MV.under_mono hjk (m := v) u

theorem flat_take (ρ : Adrs) (k : Nat) : (ρ.take k).flatten.Sublist ρ.flatten := by
  have : ρ.flatten = (ρ.take k).flatten ++ (ρ.drop k).flatten := by rw [← List.flatten_append, List.take_append_drop]
  rw [this]
  exact List.sublist_append_left _ _
/-- what may be forgotten behind place k: all before it is as it was, or does not speak of it -/
def Drops (σ σ' : List MO) (k : Nat) : Prop := σ.length ≤ k ∧ ∀ i mo, i < k → σ'[i]? = some mo → (i < σ.length ∧ σ[i]? = some mo) ∨ mo.under k = true
theorem Mem.drop {C : Cfg} {fs fs₀ : List Env} {s s₀ : Shared} {ρ ρ' : Adrs} {σ σ' : List MO} {k : Nat} (m₀ : Mem C fs₀ s₀ ρ σ) (m : Mem C fs s ρ' σ') (dr : Drops σ σ' k) : Mem C fs s (ρ'.take k) (σ'.take k) where
  stay := m.stay
  gens := m.gens
  os := m.os
  frames := m.frames
  objs := .of_get (by simp [m.len]) fun i as mo e e' => by
    rw [List.getElem?_take] at e e'
    split at e
    · rename_i hi
      rw [if_pos hi] at e'
      obtain ⟨as', e₂, r⟩ := m.get e'
      rw [e] at e₂; cases e₂
      refine r.take ?_
      rcases dr.2 i mo hi e' with ⟨_, h⟩ | h
      · obtain ⟨_, _, r₀⟩ := m₀.get h
        exact MO.under_mono (by rw [m₀.len]; exact dr.1) r₀.under
      · exact h
    · cases e
  nodup := m.nodup.sublist (flat_take _ _)
  off := fun b hb => m.off b ((flat_take _ _).mem hb)
  nosys := fun hb => m.nosys ((flat_take _ _).mem hb)
theorem Step.drop {fs : List Env} {X : List Addr} {h h' : Heap} {ρ ρ' : Adrs} {k : Nat} (st : Step fs X h h' ρ ρ') (hk : ρ.length ≤ k) : Step fs X h h' ρ (ρ'.take k) where
  tg := ⟨by
    obtain ⟨r, e⟩ := st.tg.grow
    rw [← e, List.take_append]
    exact ⟨_, by rw [List.take_of_length_le hk]⟩, st.tg.tup⟩
  new := fun b hb => st.new b ((flat_take _ _).mem hb)
  keep := st.keep
  slot := st.slot
  alive := st.alive

def MF.val : MF → MV
  | .ret v => v
  | _ => .none
def FinF (σ : List MO) (Q : MV → List MO → Prop) (mf : MF) (σ' : List MO) : Prop := ∃ k, Drops σ σ' k ∧ mf.val.under k = true ∧ Q mf.val (σ'.take k)
def FinX (σ : List MO) (X : MV → List MO → Prop) (b : MV) (σ' : List MO) : Prop := ∃ k, Drops σ σ' k ∧ b.under k = true ∧ X b (σ'.take k)

noncomputable def bodyAt (P : Params) (f : Nat) : List Stmt := match (fdAt P f).body with
  | .stmts b => b
  | _ => []
noncomputable def fnOk (P : Params) (f : Nat) (ns : List Str) : Bool := match (kf P).lookup f with
  | some ⟨_, _, .func fd, _⟩ => (fd.globals == mainGlobals) && fd.closure.isEmpty && (fd.builtins == builtinsNs) && !fd.scope.isCoroutine && !fd.scope.isGenerator && (fd.scope.kind == .function) && fd.scope.names.all (fun x => x.2 != .cell) &&
      ns.all (fun x => fd.scope.names.lookup x == some .local) && codeIn (kf P) fd.code fd.qualname && (match fd.body with | .stmts _ => true | _ => false) && decide ns.Nodup
  | _ => false

theorem zip_lookup {h : Heap} {ρ : Adrs} : ∀ {ns : List Str}, ns.Nodup → ∀ {vs : List Value} {ms : List MV}, RVs h ρ vs ms → ∀ {x : Str} {mv : MV}, (ns.zip ms).lookup x = some mv → ∃ v, (ns.zip vs).reverse.lookup x = some v ∧ RV h ρ v mv
  | [], _, _, _, _, _, _, e => by simp at e
  | y :: ns, nd, _, _, .nil, _, _, e => by simp at e
  | y :: ns, nd, _, _, .cons (v := v) (m := m) (vs := vs) (ms := ms) r rs, x, mv, e => by
    rw [List.nodup_cons] at nd
    rw [List.zip_cons_cons, List.lookup_cons] at e
    rw [List.zip_cons_cons, List.reverse_cons]
    have app : ∀ (l : List (Str × Value)) (z : Str × Value), (l ++ [z]).lookup x = (l.lookup x).or (if x == z.1 then some z.2 else none) := by
      intro l z
      induction l with
      | nil =>
        obtain ⟨z1, z2⟩ := z
        rw [List.nil_append, List.lookup_nil, Option.none_or, List.lookup_cons, List.lookup_nil]
        cases (x == z1) <;> simp
      | cons a l ih =>
        rw [List.cons_append, List.lookup_cons, List.lookup_cons, ih]
        split <;> simp
    rw [app]
    by_cases hxy : x = y
    · subst hxy
      rw [beq_self_eq_true] at e; cases e
      have : (ns.zip vs).reverse.lookup x = none := by
        rw [List.lookup_eq_none_iff]
        intro p hp
        have hp' : p ∈ ns.zip vs := List.mem_reverse.mp hp
        have := (List.of_mem_zip (a := p.1) (b := p.2) hp').1
        simpa using fun (z : x = p.1) => nd.1 (z ▸ this)
      rw [this]
      exact ⟨v, by simp, r⟩
    · rw [show (x == y) = false from by simpa using hxy] at e
      obtain ⟨u, hu, ru⟩ := zip_lookup nd.2 rs e
      exact ⟨u, by rw [hu]; simp, ru⟩

theorem cellsFrom_none : ∀ (names : List (Str × NameKind)) (n : Nat), (∀ x ∈ names, x.2 ≠ .cell) → cellsFrom n names [] = []
  | [], _, _ => rfl
  | (y, kd) :: r, n, h => by
    unfold cellsFrom
    rw [if_neg (by simpa using h (y, kd) List.mem_cons_self)]
    exact cellsFrom_none r n fun x hx => h x (List.mem_cons_of_mem _ hx)
section
variable {C : Cfg} {f : Addr} {n : Nat} {q : Bool} {σ : List MO} {Q : MV → List MO → Prop} {X : MV → List MO → Prop} {args dm : List MV} {dv : List Value} {ns : List Str}

theorem fnOk_facts {P : Params} (h : fnOk P f ns = true) : (∃ oc od osl, (kf P).lookup f = some ⟨oc, od, .func (fdAt P f), osl⟩) ∧ (∀ L, callEnv (fdAt P f) L f = envAt P f L) ∧ (fdAt P f).scope.isCoroutine = false ∧ (fdAt P f).scope.isGenerator = false ∧
    (fdAt P f).scope.kind = .function ∧ (∀ x ∈ (fdAt P f).scope.names, x.2 ≠ .cell) ∧ (∀ x ∈ ns, (fdAt P f).scope.names.lookup x = some .local) ∧ codeIn (kf P) (fdAt P f).code (fdAt P f).qualname = true ∧ (fdAt P f).body = .stmts (bodyAt P f) ∧ ns.Nodup := by
  unfold fnOk at h
  split at h
  · rename_i oc od fd osl e
    have ef : fdAt P f = fd := by unfold fdAt; rw [e]
    simp only [Bool.and_eq_true, Bool.not_eq_true', beq_iff_eq, List.all_eq_true, decide_eq_true_eq] at h
    obtain ⟨⟨⟨⟨⟨⟨⟨⟨⟨⟨h1, h2⟩, h3⟩, h4⟩, h5⟩, h6⟩, h7⟩, h8⟩, h9⟩, h10⟩, h11⟩ := h
    refine ⟨⟨oc, od, osl, by rw [ef]; exact e⟩, fun L => ?_, by rw [ef]; exact h4, by rw [ef]; exact h5, by rw [ef]; exact h6, by rw [ef]; exact fun x hx e => by have := h7 x hx; rw [e] at this; exact absurd this (by decide), by rw [ef]; exact h8, by rw [ef]; exact h9, ?_, h11⟩
    · rw [envAt_eq, ef]
      unfold callEnv newEnv envOfC
      have : fd.closure = [] := List.isEmpty_iff.mp h2
      rw [cellsFrom_none _ _ fun x hx e => by have := h7 x hx; rw [e] at this; exact absurd this (by decide)]
      simp [h1, h3, this]
    · unfold bodyAt; rw [ef]
      cases hb : fd.body with
      | stmts b => rfl
      | expr e => rw [hb] at h10; cases h10
  · cases h

/-- the call as a piece of code -/
def CodeW (C : Cfg) (n : Nat) (q : Bool) (f : Value) (args : List MV) (σ : List MO) (Q : MV → List MO → Prop) (X : MV → List MO → Prop) : Prop :=
  ∀ (A : Around) (fs : List Env) (s : Shared) (ρ : Adrs) (vs : List Value), A.frames = some fs → OkA A q n → Mem C fs s ρ σ → RVs s.heap ρ vs args →
    codeAny (model C.prog C.w) A (.call f ⟨vs, []⟩) (fun r s' => match r with | .ok (.ret v) => PostV C fs s ρ Q v s' | .ok _ => False | .error e => PostX C fs s ρ X e s') s
theorem CodeW.call {f : Value} (h : CodeW C n q f args σ Q X) : CallW C n q f args σ Q X := fun A fs s ρ vs hA ok m rs => wpAny_call (h A fs s ρ vs hA ok m rs)
theorem CodeW.mono {f : Value} {Q' X' : MV → List MO → Prop} (h : CodeW C n q f args σ Q X) (hq : ∀ a b, Q a b → Q' a b) (hx : ∀ a b, X a b → X' a b) : CodeW C n q f args σ Q' X' := by
  intro A fs s ρ vs hA ok m rs
  refine codeAny_mono (h A fs s ρ vs hA ok m rs) fun r s' hr => ?_
  match r with
  | .ok (.ret v) => exact PostV.mono hq hr
  | .ok .next | .ok .brk | .ok .cont => exact hr.elim
  | .error e => exact PostX.mono hx hr
theorem codeW_def (hok : fnOk C.w.params f ns = true) (hb : ∀ (s : Shared) (vs : List Value), C.K.In s.heap → vs.length = args.length → BindsTo s (fdAt C.w.params f) ⟨vs, []⟩ (ns.zip (vs ++ dv))) (hd : ∀ h ρ, RVs h ρ dv dm) (hn : n ≤ 30)
    (h : ExecsW C f (n + 1) q (bodyAt C.w.params f) (ns.zip (args ++ dm)) σ (fun mf _ σ' => FinF σ Q mf σ') (fun b _ σ' => FinX σ X b σ')) : CodeW C n q (.ref f) args σ Q X := by
  intro A fs s ρ vs hA ok m rs
  obtain ⟨⟨oc, od, osl, ho⟩, henv, hco, hgen, hk, hcell, hloc, hcd, hbody, hnd⟩ := fnOk_facts hok
  have KI := C.kin.keeps m.stay
  obtain ⟨p, loose, mg, mb, T⟩ := C.top
  refine codeAny_call_def (fd := fdAt C.w.params f) (body := bodyAt C.w.params f) (by have := ok.depth; show A.depth < 1000; omega) (KI _ _ ho) rfl (T.nolimit.keeps m.stay) (codeRec_of KI hcd) hbody (hb s vs KI rs.length) hcell
    (fun x hx => hloc _ (List.of_mem_zip (a := x.1) (b := x.2) hx).1) (fun h₀ hns hk₀ => ?_) hco hgen hk
  rw [henv]
  have frame : (envAt C.w.params f s.heap.objs.size).frame = some s.heap.objs.size := envAt_frame _ _ _
  have hL : s.heap.get? s.heap.objs.size = none := by
    cases e : s.heap.get? s.heap.objs.size with
    | none => rfl
    | some o => exact absurd (Heap.lt_size e) (Nat.lt_irrefl _)
  have off : ∀ b o, s.heap.get? b = some o → b ≠ s.heap.objs.size := fun b o e => Nat.ne_of_lt (Heap.lt_size e)
  have faeq : fa (envAt C.w.params f s.heap.objs.size :: fs) = s.heap.objs.size :: fa fs := by simp [fa, frame]
  have m₁ : Mem C (envAt C.w.params f s.heap.objs.size :: fs) { s with heap := h₀, toks := s.toks + (ns.zip (vs ++ dv)).length } ρ σ := by
    have m' := m.keeps (d := s.drawn) (t := s.toks + (ns.zip (vs ++ dv)).length) hk₀ rfl rfl
    refine ⟨m'.stay, m'.gens, m'.os, Heap.FunFrames.cons (by rw [envAt_eq]; show (fdAt C.w.params f).scope.kind ≠ _; rw [hk]; decide) frame hns ?_ m'.frames, m'.objs, m'.nodup, fun b hb => ⟨(m'.off b hb).1, ?_, (m'.off b hb).2.2⟩, m'.nosys⟩
    · cases e : C.base.get? s.heap.objs.size with
      | none => rfl
      | some o => exact absurd rfl (off _ o (m.stay _ o e))
    · rw [faeq]
      intro hm
      obtain ⟨o, e⟩ := (m.off b hb).2.2
      rcases List.mem_cons.mp hm with hm | hm
      · exact off b o e hm
      · exact (m.off b hb).2.1 hm
  have l₁ : Loc h₀ ρ s.heap.objs.size (ns.zip (args ++ dm)) := by
    refine ⟨_, hns, fun x mv e => ?_⟩
    have rs' : RVs h₀ ρ (vs ++ dv) (args ++ dm) := (rs.mono (tg_keeps hk₀ ρ)).append (hd _ _)
    exact .inl (zip_lookup hnd rs' e)
  have st₁ : ∀ {h' : Heap} {ρ' : Adrs}, Step (envAt C.w.params f s.heap.objs.size :: fs) [s.heap.objs.size] h₀ h' ρ ρ' → Step fs [] s.heap h' ρ ρ' := fun {h'} {ρ'} st =>
    ⟨(tg_keeps hk₀ ρ).trans st.tg, fun b hb => (st.new b hb).imp id (fun z => by
      cases e : s.heap.get? b with
      | none => rfl
      | some o => rw [hk₀ b o e] at z; cases z),
     fun b o e nr nf => st.keep b o (hk₀ b o e) nr (by rw [faeq]; exact fun hm => (List.mem_cons.mp hm).elim (off b o e) nf),
     fun b o e hf _ => st.slot b o (hk₀ b o e) (by rw [faeq]; exact List.mem_cons_of_mem _ hf) (by intro hm; exact off b o e (List.mem_singleton.mp hm)),
     fun b o e => st.alive b o (hk₀ b o e)⟩
  have shrink : ∀ {s' : Shared} {ρ' : Adrs} {σ' : List MO}, Mem C (envAt C.w.params f s.heap.objs.size :: fs) s' ρ' σ' → Mem C fs s' ρ' σ' := fun {s'} {ρ'} {σ'} m' =>
    ⟨m'.stay, m'.gens, m'.os, m'.frames.2.2, m'.objs, m'.nodup, fun b hb => ⟨(m'.off b hb).1, fun hf => (m'.off b hb).2.1 (by rw [faeq]; exact List.mem_cons_of_mem _ hf), (m'.off b hb).2.2⟩, m'.nosys⟩
  refine wpAny_mono (h (A.deeper (envAt C.w.params f s.heap.objs.size)) fs s.heap.objs.size { s with heap := h₀, toks := s.toks + (ns.zip (vs ++ dv)).length } ρ ?_ ⟨ok.handled, ?_, ?_⟩ m₁ l₁) (fun fl s' zz => ?_) fun e s' px => ?_
  · show A.frames.map _ = _; rw [hA]; rfl
  · show A.depth + 1 ≤ _; have := ok.depth; omega
  · show A.units + 3 ≤ _; have := ok.units; omega
  · obtain ⟨mf, loc', σ', ρ', rf, m', l', st, k, dr, hu, hq⟩ := zz
    show PostV C fs s ρ Q _ s'
    refine ⟨mf.val, σ'.take k, ρ'.take k, ?_, m.drop (shrink m') dr, (st₁ st).drop (by rw [m.len]; exact dr.1), hq⟩
    cases rf with
    | ret r => exact r.take hu
    | _ => exact .none
  · obtain ⟨ball, loc', σ', ρ', x, m', l', st, k, dr, hu, hx⟩ := px
    have st₂ := st₁ st
    have x' : Exc C (envAt C.w.params f s.heap.objs.size :: fs) s.heap s'.heap ρ' e ball := x.shift (Step.keeps (s := s) hk₀ fs [] ρ)
    unfold leaving
    refine wpAny_bind (flight x' m' st₂.alive ?_ frame fun h' x'' m'' fly => ?_)
    · show A.frames.map _ = _; rw [hA]; rfl
    · refine ⟨ball, σ'.take k, ρ'.take k, ?_, m.drop (shrink m'') dr, ?_, hx⟩
      · obtain ⟨a, d, us, es, c, y1, y2, y3, y4, y5, y6, y7, y8, y9, y10, y11, y12, y13⟩ := x''
        have sub : ∀ b, b ∈ (ρ'.take k).flatten → b ∈ ρ'.flatten := fun b hb => (flat_take _ _).mem hb
        refine ⟨a, d, us, es, c, y1, y2, y3, y4.take (by simp [fldUnder, hu]), y5.imp id ?_, y6, y7, y8, fun hb => y9 (sub _ hb), fun hb => y10 (sub _ hb), y11, y12, ⟨fun hf => y13.1 (by rw [faeq]; exact List.mem_cons_of_mem _ hf), y13.2⟩⟩
        rintro ⟨T, oT, ts, t1, t2, t3, t4, t5, t6, t7, t8⟩
        exact ⟨T, oT, ts, t1, t2, t3, t4, t5, t6, fun hb => t7 (sub _ hb), t8⟩
      · refine Step.drop ?_ (by rw [m.len]; exact dr.1)
        have fly' : Fly fs s.heap s'.heap h' ρ' := ⟨fly.tg, fun b o hb e nf => by
          by_cases hbL : b = s.heap.objs.size
          · rcases hb with hb | hb
            · exact absurd (hbL ▸ hL) hb
            · exact absurd hb (fun hm => (m'.off b hm).2.1 (by rw [faeq, hbL]; exact List.mem_cons_self))
          · exact fly.keep b o hb e (by rw [faeq]; exact fun hm => (List.mem_cons.mp hm).elim hbL nf),
          fun b o e hf => fly.slot b o e (by rw [faeq]; exact List.mem_cons_of_mem _ hf), fly.alive⟩
        exact st₂.fly fly'
end

/-! MCall2 -/
section
variable {C : Cfg} {f : Addr} {n : Nat} {q : Bool} {loc : List (Str × MV)} {σ : List MO} {Q : MV → List MO → Prop} {X : MV → List MO → Prop}

def Callee (C : Cfg) (v : Value) : Prop := keepIn C.K v = true ∨ (∃ id, v = .builtin id) ∨ ∃ T, v = .type T

theorem args_then {A : Around} {fs : List Env} {L : Addr} {s : Shared} {ρ : Adrs} {es : List PySem.Expr} {pos : Pos} {R : List Value → Shared → Prop} {QQ : List MV → List MO → Prop} (h : ArgsW C f n q es loc σ QQ X) (hA : A.frames = some (envAt C.w.params f L :: fs)) (ok : OkA A q n) (m : Mem C (envAt C.w.params f L :: fs) s ρ σ) (l : Loc s.heap ρ L loc)
    (k : ∀ vs s₁ ms σ₁ ρ₁, RVs s₁.heap ρ₁ vs ms → Mem C (envAt C.w.params f L :: fs) s₁ ρ₁ σ₁ → Step (envAt C.w.params f L :: fs) [] s.heap s₁.heap ρ ρ₁ → QQ ms σ₁ → R vs s₁) :
    wpAny (model C.prog C.w) A (spliced (backTo pos (starEach es (envAt C.w.params f L)))) R (PostX C (envAt C.w.params f L :: fs) s ρ X) s :=
  wpAny_mono (h A fs L s ρ pos hA ok m l) (fun vs s₁ zz => by obtain ⟨ms, σ₁, ρ₁, r, m₁, st, hq⟩ := zz; exact k vs s₁ ms σ₁ ρ₁ r m₁ st hq) fun _ _ x => x

/-- a call of a named def, class or built-in on arguments -/
theorem ev_call {fe e : PySem.Expr} {rest : List PySem.Expr} {pos : Pos} (h : EvalW C f n q fe loc σ (fun fv σ₁ => ∃ v, fv = .raw v ∧ Callee C v ∧ ArgsW C f n q (e :: rest) loc σ₁ (fun ms σ₂ => CallW C n q v ms σ₂ Q X) X) X)
    (hc : ∀ env, eval (.Call fe (e :: rest) [] pos) env = (do callWith pos (← eval fe env) [] (backTo pos (starEach (e :: rest) env)) (backToKw pos (keywordEach [] env))) := by intro _; rfl)
    (he : ∀ env, starEach (e :: rest) env = (false, eval e env) :: starEach rest env := by intro _; rfl) (hp : ∀ env, (backTo pos (starEach rest env)).any (·.1) = false := by intro _; rfl) : EvalW C f n q (.Call fe (e :: rest) [] pos) loc σ Q X := by
  intro A fs L s ρ hA ok m l
  refine Call_ (seq2 h hA ok m l fun v s₁ mv σ₁ ρ₁ r m₁ l₁ st₁ zz => ?_) (hc _)
  obtain ⟨v', e1, hk, h₁⟩ := zz
  subst e1
  cases r
  have go : wpAny (model C.prog C.w) A (spliced (backTo pos (starEach (e :: rest) (envAt C.w.params f L)))) (fun vs s₂ => C.K.In s₂.heap ∧ wpAny (model C.prog C.w) A (call v vs) (PostV C (envAt C.w.params f L :: fs) s ρ Q) (PostX C (envAt C.w.params f L :: fs) s ρ X) s₂) (PostX C (envAt C.w.params f L :: fs) s ρ X) s₁ := by
    refine wpAny_mono (args_then h₁ hA ok m₁ l₁ fun vs s₂ ms σ₂ ρ₂ rs m₂ st₂ hq => ?_) (fun _ _ x => x) fun _ _ p => p.lift st₁
    exact ⟨C.kin.keeps m₂.stay, wpAny_mono (hq A _ s₂ ρ₂ vs hA ok m₂ rs) (fun _ _ p => p.lift (st₁.trans st₂)) fun _ _ p => p.lift (st₁.trans st₂)⟩
  rcases hk with hk | ⟨id, rfl⟩ | ⟨T, rfl⟩
  · exact callWith_K C.kin hk go (he _) (hp _)
  · exact callWith_method1 (first := []) (wpAny_mono go (fun _ _ x => x.2) fun _ _ x => x) (he _) (hp _)
  · exact PyProof.Rows.callWith_type1 (wpAny_mono go (fun _ _ x => x.2) fun _ _ x => x) (he _) (hp _)
/-- a call of a named def or class without arguments -/
theorem ev_call0 {fe : PySem.Expr} {pos : Pos} (h : EvalW C f n q fe loc σ (fun fv σ₁ => ∃ v, fv = .raw v ∧ keepIn C.K v = true ∧ CallW C n q v [] σ₁ Q X) X)
    (hc : ∀ env, eval (.Call fe [] [] pos) env = (do callWith pos (← eval fe env) [] (backTo pos (starEach [] env)) (backToKw pos (keywordEach [] env))) := by intro _; rfl) : EvalW C f n q (.Call fe [] [] pos) loc σ Q X := by
  intro A fs L s ρ hA ok m l
  refine Call_ (seq2 h hA ok m l fun v s₁ mv σ₁ ρ₁ r m₁ l₁ st₁ zz => ?_) (hc _)
  obtain ⟨v', e1, hk, h₁⟩ := zz
  subst e1
  cases r
  exact callWith_K0 (first := []) (C.kin.keeps m₁.stay) hk (wpAny_mono (h₁ A _ s₁ ρ₁ [] hA ok m₁ .nil) (fun _ _ p => p.lift st₁) fun _ _ p => p.lift st₁)

/-- a method of an own class -/
def methIn (K : Frag) (c : Addr) (x : Str) (g : Addr) : Bool := plainGet K c x && (findIn K (.ref c) x == some (some (.ref g))) && isFn K (.ref g) && keepIn K (.ref g)
/-- the method of an object: an own class's def, or a built-in of a list or a dict -/
inductive MethOf (C : Cfg) (σ : List MO) : MV → Str → Value → Prop
  | inst {i : Nat} {c : Addr} {fs : List (Str × MV)} {x : Str} {g : Addr} : σ[i]? = some (.inst c fs) → methIn C.K c x g = true → fs.lookup x = none → MethOf C σ (.obj i) x (.ref g)
  | list {i : Nat} {xs : List MV} {x : Str} {id : String} : σ[i]? = some (.list xs) → Slot "list" x id → typeOf (.builtin id) = pure (.type "method_descriptor") → MethOf C σ (.obj i) x (.builtin id)
  | sdict {i : Nat} {fs : List (Str × MV)} {x : Str} {id : String} : σ[i]? = some (.sdict fs) → Slot "dict" x id → typeOf (.builtin id) = pure (.type "method_descriptor") → MethOf C σ (.obj i) x (.builtin id)
  | pdict {i : Nat} {fs : List (List Int × MV)} {x : Str} {id : String} : σ[i]? = some (.pdict fs) → Slot "dict" x id → typeOf (.builtin id) = pure (.type "method_descriptor") → MethOf C σ (.obj i) x (.builtin id)

theorem meth_got {A : Around} {fs : List Env} {s : Shared} {ρ : Adrs} {E : Value → Shared → Prop} {x : Str} {g v : Value} {mv : MV} {pl : Sem Bool} {R : Value × List Value → Shared → Prop} (m : Mem C fs s ρ σ) (r : RV s.heap ρ v mv) (mo : MethOf C σ mv x g) (h : R (g, [v]) s) :
    wpAny (model C.prog C.w) A (getMethod v x pl) R E s := by
  cases mo with
  | inst e1 e2 e3 =>
    obtain ⟨as, ha, ro⟩ := m.get e1
    cases r with
    | obj e =>
      rw [ha] at e; cases e
      cases ro with
      | inst h1 h2 res =>
        unfold methIn at e2
        simp only [Bool.and_eq_true, beq_iff_eq] at e2
        obtain ⟨⟨⟨p1, p2⟩, p3⟩, p4⟩ := e2
        refine method_fn (C.kin.keeps m.stay) (inst_at h1 h2) (plainGet_of p1).1 (plainGet_of p1).2 p2 (beq_iff_eq.mp p3) ?_ h
        show (lookIn x (dictOf _ _)).map _ = _
        rw [lookIn_dict, res.getL_none e3]; rfl
  | list e1 e2 e3 =>
    obtain ⟨as, ha, ro⟩ := m.get e1
    cases r with
    | obj e =>
      rw [ha] at e; cases e
      cases ro with
      | list l rs =>
        obtain ⟨k, hk⟩ := l
        exact getMethod_builtin ⟨_, hk, rfl⟩ PySem.F.plainAttrs_list e2 e3 (fun a e => by cases e; exact ⟨_, hk, rfl⟩) h
  | sdict e1 e2 e3 =>
    obtain ⟨as, ha, ro⟩ := m.get e1
    cases r with
    | obj e =>
      rw [ha] at e; cases e
      cases ro with
      | sdict l rs =>
        obtain ⟨o, es, ep, hk, hx, _⟩ := l
        exact getMethod_builtin ⟨_, hk, hx.1⟩ PySem.F.plainAttrs_dict e2 e3 (fun a e => by cases e; exact ⟨_, hk, hx.2.1⟩) h
  | pdict e1 e2 e3 =>
    obtain ⟨as, ha, ro⟩ := m.get e1
    cases r with
    | obj e =>
      rw [ha] at e; cases e
      cases ro with
      | pdict l rs =>
        obtain ⟨o, es, ep, hk, hx, _⟩ := l
        exact getMethod_builtin ⟨_, hk, hx.1⟩ PySem.F.plainAttrs_dict e2 e3 (fun a e => by cases e; exact ⟨_, hk, hx.2.1⟩) h
theorem MethOf.callee {mv : MV} {x : Str} {g : Value} (mo : MethOf C σ mv x g) : Callee C g := by
  cases mo with
  | inst e1 e2 e3 =>
    unfold methIn at e2
    simp only [Bool.and_eq_true] at e2
    exact .inl e2.2
  | list _ _ _ => exact .inr (.inl ⟨_, rfl⟩)
  | sdict _ _ _ => exact .inr (.inl ⟨_, rfl⟩)
  | pdict _ _ _ => exact .inr (.inl ⟨_, rfl⟩)

theorem ev_meth {o e : PySem.Expr} {rest : List PySem.Expr} {x : Str} {apos pos : Pos} {pl : Env → Sem Bool} (h : EvalW C f n q o loc σ (fun mv σ₁ => ∃ g, MethOf C σ₁ mv x g ∧ ArgsW C f n q (e :: rest) loc σ₁ (fun ms σ₂ => CallW C n q g (mv :: ms) σ₂ Q X) X) X)
    (hc : ∀ env, eval (.Call (.Attribute o x apos) (e :: rest) [] pos) env = (do
      let ov ← eval o env
      standAt apos.atName
      let (f, first) ← holding [ov] (getMethod ov x (pl env))
      callWith pos f first (backTo pos (starEach (e :: rest) env)) []) := by intro _; rfl)
    (he : ∀ env, starEach (e :: rest) env = (false, eval e env) :: starEach rest env := by intro _; rfl) (hp : ∀ env, (backTo pos (starEach rest env)).any (·.1) = false := by intro _; rfl) : EvalW C f n q (.Call (.Attribute o x apos) (e :: rest) [] pos) loc σ Q X := by
  intro A fs L s ρ hA ok m l
  refine MethodCall_ (seq2 h hA ok m l fun v s₁ mv σ₁ ρ₁ r m₁ l₁ st₁ zz => ?_) (hc _)
  obtain ⟨g, mo, h₁⟩ := zz
  refine meth_got m₁ r mo ?_
  have go : wpAny (model C.prog C.w) A (spliced (backTo pos (starEach (e :: rest) (envAt C.w.params f L)))) (fun vs s₂ => C.K.In s₂.heap ∧ wpAny (model C.prog C.w) A (call g ([v] ++ vs)) (PostV C (envAt C.w.params f L :: fs) s ρ Q) (PostX C (envAt C.w.params f L :: fs) s ρ X) s₂) (PostX C (envAt C.w.params f L :: fs) s ρ X) s₁ := by
    refine wpAny_mono (args_then h₁ hA ok m₁ l₁ fun vs s₂ ms σ₂ ρ₂ rs m₂ st₂ hq => ?_) (fun _ _ x => x) fun _ _ p => p.lift st₁
    exact ⟨C.kin.keeps m₂.stay, wpAny_mono (hq A _ s₂ ρ₂ (v :: vs) hA ok m₂ (.cons (r.mono st₂.tg) rs)) (fun _ _ p => p.lift (st₁.trans st₂)) fun _ _ p => p.lift (st₁.trans st₂)⟩
  rcases mo.callee with hk | ⟨id, rfl⟩ | ⟨T, rfl⟩
  · exact callWith_K C.kin hk go (he _) (hp _)
  · exact callWith_method1 (wpAny_mono go (fun _ _ x => x.2) fun _ _ x => x) (he _) (hp _)
  · cases mo
theorem ev_meth0 {o : PySem.Expr} {x : Str} {apos pos : Pos} {pl : Env → Sem Bool} (h : EvalW C f n q o loc σ (fun mv σ₁ => ∃ g, MethOf C σ₁ mv x g ∧ CallW C n q g [mv] σ₁ Q X) X)
    (hc : ∀ env, eval (.Call (.Attribute o x apos) [] [] pos) env = (do
      let ov ← eval o env
      standAt apos.atName
      let (f, first) ← holding [ov] (getMethod ov x (pl env))
      callWith pos f first (backTo pos (starEach [] env)) []) := by intro _; rfl) : EvalW C f n q (.Call (.Attribute o x apos) [] [] pos) loc σ Q X := by
  intro A fs L s ρ hA ok m l
  refine MethodCall_ (seq2 h hA ok m l fun v s₁ mv σ₁ ρ₁ r m₁ l₁ st₁ zz => ?_) (hc _)
  obtain ⟨g, mo, h₁⟩ := zz
  refine meth_got m₁ r mo ?_
  have go := wpAny_mono (h₁ A _ s₁ ρ₁ [v] hA ok m₁ (.cons r .nil)) (fun _ _ p => p.lift st₁) fun _ _ p => p.lift st₁
  rcases mo.callee with hk | ⟨id, rfl⟩ | ⟨T, rfl⟩
  · exact callWith_K0 (C.kin.keeps m₁.stay) hk go
  · exact callWith_method0 go
  · cases mo
end

/-! MOps -/
section
variable {C : Cfg} {n : Nat} {q : Bool} {σ : List MO} {Q : MV → List MO → Prop} {X : MV → List MO → Prop} {a b : Int}
theorem op_sub (h : Q (.int (a - b)) σ) : OpW2 C n q (binaryOp .Sub) (.int a) (.int b) σ Q X := by
  intro A fs s ρ u v hA ok m ru rv; cases ru; cases rv; with_reducible refine PyProof.Rows.sub_int ?_; exact PostV.here m (.int _ _) h
theorem op_mul (h : Q (.int (a * b)) σ) (hm : IntMulOk a b := by mul_fits) : OpW2 C n q (binaryOp .Mult) (.int a) (.int b) σ Q X := by
  intro A fs s ρ u v hA ok m ru rv; cases ru; cases rv; with_reducible refine PyProof.Rows.mul_int ?_ hm; exact PostV.here m (.int _ _) h
theorem op_mod (hb : b ≠ 0) (h : Q (.int (a.fmod b)) σ) : OpW2 C n q (binaryOp .Mod) (.int a) (.int b) σ Q X := by
  intro A fs s ρ u v hA ok m ru rv; cases ru; cases rv; with_reducible refine PyProof.Rows.mod_int' hb ?_; exact PostV.here m (.int _ _) h
theorem op_div (hb : b ≠ 0) (hz : b.natAbs < 1073741824) (h : Q (.int (a.fdiv b)) σ) : OpW2 C n q (binaryOp .FloorDiv) (.int a) (.int b) σ Q X := by
  intro A fs s ρ u v hA ok m ru rv; cases ru; cases rv; with_reducible refine PyProof.Rows.floordiv_int hb ?_ (.inl (PyProof.noPylong_small hz)); exact PostV.here m (.int _ _) h
theorem op_neg (h : Q (.int (-a)) σ) : OpW1 C n q (unaryOp .USub) (.int a) σ Q X := by
  intro A fs s ρ u hA ok m ru; cases ru; with_reducible refine PyProof.Rows.neg_int ?_; exact PostV.here m (.int _ _) h
theorem op_iadd (h : Q (.int (a + b)) σ) : OpW2 C n q (inplaceOp .Add) (.int a) (.int b) σ Q X := by
  intro A fs s ρ u v hA ok m ru rv; cases ru; cases rv; with_reducible refine PySem.P.iadd_int ?_; exact PostV.here m (.int _ _) h
theorem cmp_eq (h : Q (.bool (a == b)) σ) : OpW2 C n q (compareOp .Eq) (.int a) (.int b) σ Q X := by
  intro A fs s ρ u v hA ok m ru rv; cases ru; cases rv; with_reducible refine PyProof.Rows.eq_int ?_; exact PostV.here m (.bool _) h
theorem cmp_ne (h : Q (.bool (a != b)) σ) : OpW2 C n q (compareOp .NotEq) (.int a) (.int b) σ Q X := by
  intro A fs s ρ u v hA ok m ru rv; cases ru; cases rv; with_reducible refine PyProof.Rows.ne_int ?_; exact PostV.here m (.bool _) h
theorem cmp_lt (h : Q (.bool (decide (a < b))) σ) : OpW2 C n q (compareOp .Lt) (.int a) (.int b) σ Q X := by
  intro A fs s ρ u v hA ok m ru rv; cases ru; cases rv; with_reducible refine PyProof.Rows.lt_int ?_; exact PostV.here m (.bool _) h
theorem cmp_le (h : Q (.bool (decide (a ≤ b))) σ) : OpW2 C n q (compareOp .LtE) (.int a) (.int b) σ Q X := by
  intro A fs s ρ u v hA ok m ru rv; cases ru; cases rv; with_reducible refine PyProof.Rows.le_int ?_; exact PostV.here m (.bool _) h
theorem cmp_gt (h : Q (.bool (decide (b < a))) σ) : OpW2 C n q (compareOp .Gt) (.int a) (.int b) σ Q X := by
  intro A fs s ρ u v hA ok m ru rv; cases ru; cases rv; with_reducible refine PyProof.Rows.gt_int ?_; exact PostV.here m (.bool _) h
theorem cmp_ge (h : Q (.bool (decide (b ≤ a))) σ) : OpW2 C n q (compareOp .GtE) (.int a) (.int b) σ Q X := by
  intro A fs s ρ u v hA ok m ru rv; cases ru; cases rv; with_reducible refine PyProof.Rows.ge_int ?_; exact PostV.here m (.bool _) h
theorem cmp_eq_str {x y : Str} (h : Q (.bool (x == y)) σ) : OpW2 C n q (compareOp .Eq) (.str x) (.str y) σ Q X := by
  intro A fs s ρ u v hA ok m ru rv; cases ru; cases rv; with_reducible refine PyProof.Rows.eq_str ?_; exact PostV.here m (.bool _) h
theorem cmp_is_none {x : MV} {c : Bool} (e : (x = .none ∧ c = true) ∨ (∃ i, x = .obj i ∨ (∃ vs, x = .tup vs)) ∧ c = false) (h : Q (.bool c) σ) : OpW2 C n q (compareOp .Is) x .none σ Q X := by
  intro A fs s ρ u v hA ok m ru rv
  cases rv
  refine PyProof.Rows.is_none_gen ?_
  have : (u == Value.none) = c := by
    rcases e with ⟨rfl, rfl⟩ | ⟨⟨i, rfl | ⟨vs, rfl⟩⟩, rfl⟩ <;> cases ru <;> rfl
  rw [this]
  exact ⟨_, σ, ρ, .bool _, m, .refl _ _ _ _, h⟩
end

/-! lists -/
section
variable {C : Cfg} {fs : List Env} {s : Shared} {ρ : Adrs} {σ : List MO} {i : Nat} {xs ys : List MV}
theorem list_got (m : Mem C fs s ρ σ) (e : σ[i]? = some (.list xs)) : ∃ a vs k, ρ[i]? = some [a] ∧ IsL s.heap a vs.toArray k ∧ RVs s.heap ρ vs xs := by
  obtain ⟨as, ha, ro⟩ := m.get e
  cases ro with
  | list l rs => obtain ⟨k, hk⟩ := l; exact ⟨_, _, k, ha, hk, rs⟩
theorem obj_list {v : Value} (m : Mem C fs s ρ σ) (e : σ[i]? = some (.list xs)) (r : RV s.heap ρ v (.obj i)) : ∃ a vs k, v = .ref a ∧ ρ[i]? = some [a] ∧ IsL s.heap a vs.toArray k ∧ RVs s.heap ρ vs xs := by
  obtain ⟨a, vs, k, h1, h2, h3⟩ := list_got m e
  cases r with
  | obj h => rw [h1] at h; cases h; exact ⟨a, vs, k, rfl, h1, h2, h3⟩
theorem list_upd {d : Drawn} {t : Nat} {a : Addr} {vs ws : List Value} {k : Nat} (m : Mem C fs s ρ σ) (e : σ[i]? = some (.list xs)) (h1 : ρ[i]? = some [a]) (h2 : IsL s.heap a vs.toArray k) (F : Array Value → Array Value) (hF : F vs.toArray = ws.toArray)
    (rs : RVs s.heap ρ ws ys) (Y : List Addr) : Mem C fs ⟨s.heap.update a (Obj.mapSeq F), s.gens, d, t, s.os⟩ ρ (σ.set i (.list ys)) ∧ Step fs Y s.heap (s.heap.update a (Obj.mapSeq F)) ρ ρ := by
  have hs := Heap.SameBut.update s.heap a (Obj.mapSeq F)
  have h3 := h2.update F
  rw [hF] at h3
  exact m.upd h1 e (by simp) (fun b o hb z => (hs.2 b (fun x => hb (by simp [x]))).trans z) (fun b hb => by rw [List.mem_singleton.mp hb]; exact ⟨_, h3⟩) (fun tg => .list ⟨_, h3⟩ (rs.mono tg)) rfl rfl Y

end

section
variable {C : Cfg} {n : Nat} {q : Bool} {σ : List MO} {Q : MV → List MO → Prop} {X : MV → List MO → Prop} {i j : Nat} {xs ys : List MV}

theorem call_len (e : σ[i]? = some (.list xs)) (hz : xs.length < 2 ^ 62) (h : Q (.int xs.length) σ) : CallW C n q (.builtin "len") [.obj i] σ Q X := by
  intro A fs s ρ vs hA ok m rs
  cases rs with
  | cons r rs =>
    cases rs
    obtain ⟨a, us, k, rfl, h1, h2, h3⟩ := obj_list m e r
    have hl := h3.length
    refine PySem.Calls.call_len_list ⟨_, h2, rfl, k, rfl⟩ (by rw [List.size_toArray]; omega) ?_
    rw [List.size_toArray, hl]
    exact PostV.here m (.int _ _) h
theorem list_upd' {fs : List Env} {s : Shared} {ρ : Adrs} {h' : Heap} {d : Drawn} {t : Nat} {a : Addr} {ws : List Value} {k' : Nat} (m : Mem C fs s ρ σ) (e : σ[i]? = some (.list xs)) (h1 : ρ[i]? = some [a]) (hs : Heap.SameBut a s.heap h') (h3 : IsL h' a ws.toArray k')
    (rs : RVs s.heap ρ ws ys) (Y : List Addr) : Mem C fs ⟨h', s.gens, d, t, s.os⟩ ρ (σ.set i (.list ys)) ∧ Step fs Y s.heap h' ρ ρ :=
  m.upd h1 e (by simp) (fun b o hb z => (hs.2 b (fun x => hb (by simp [x]))).trans z) (fun b hb => by rw [List.mem_singleton.mp hb]; exact ⟨_, h3⟩) (fun tg => .list ⟨_, h3⟩ (rs.mono tg)) rfl rfl Y
theorem call_append {v : MV} (e : σ[i]? = some (.list xs)) (hz : xs.length ≤ 1000000) (h : Q .none (σ.set i (.list (xs ++ [v])))) : CallW C n q (.builtin "list.append") [.obj i, v] σ Q X := by
  intro A fs s ρ vs hA ok m rs
  cases rs with
  | cons r rs =>
    cases rs with
    | cons rv rs =>
      cases rs
      obtain ⟨a, us, k, rfl, h1, h2, h3⟩ := obj_list m e r
      have hl := h3.length
      rename_i v'
      refine PyProof.Rows.append_at h2 (fun h' hs hg => ?_) (by rw [List.size_toArray, sizeLine_eq]; omega)
      obtain ⟨m', st⟩ := list_upd' (d := s.drawn) (t := s.toks) m e h1 hs (ws := us ++ [v']) (by simpa using hg) (h3.append (.cons rv .nil)) []
      exact ⟨.none, _, ρ, .none, m', st, h⟩
theorem call_pop {y : MV} (e : σ[i]? = some (.list (ys ++ [y]))) (hz : ys.length ≤ 1000000) (h : Q y (σ.set i (.list ys))) : CallW C n q (.builtin "list.pop") [.obj i] σ Q X := by
  intro A fs s ρ vs hA ok m rs
  cases rs with
  | cons r rs =>
    cases rs
    obtain ⟨a, us, k, rfl, h1, h2, h3⟩ := obj_list m e r
    have hl := h3.length
    rw [List.length_append, List.length_singleton] at hl
    obtain ⟨v, hv, rv⟩ := h3.get (i := ys.length) (m := y) (by simp)
    have hus : us = us.take ys.length ++ [v] := by
      conv => lhs; rw [← List.take_append_drop ys.length us]
      congr 1
      have : (us.drop ys.length).length = 1 := by rw [List.length_drop]; omega
      match hd : us.drop ys.length, this with
      | [z], _ =>
        have : us[ys.length]? = some z := by
          have := congrArg (·[0]?) hd
          simpa [List.getElem?_drop] using this
        rw [hv] at this; cases this; rfl
    have hlast : us.toArray[us.toArray.size - 1]? = some v := by rw [List.size_toArray, hl, Nat.add_sub_cancel, List.getElem?_toArray]; exact hv
    refine call_meets PySem.F.slot_list_pop ⟨_, h2, rfl⟩ PySem.F.entry_list_pop (PySem.F.args_list_pop_1 _) (PySem.MeetsSeq.list_pop_last a us.toArray k v hlast (by rw [List.size_toArray, sizeLine_eq]; omega)) ⟨h2, ?_⟩
    obtain ⟨m', st⟩ := list_upd (d := s.drawn) (t := s.toks) m e h1 h2 (fun x => x.eraseIdxIfInBounds (us.toArray.size - 1)) (ws := us.take ys.length) (ys := ys) (by
      have hsz : us.toArray.size - 1 = ys.length := by simp [hl]
      rw [hsz]
      have e2 : us.toArray = (us.take ys.length ++ v :: []).toArray := by rw [← hus]
      have hl2 : (us.take ys.length).length = ys.length := by rw [List.length_take]; omega
      rw [e2]
      have := kl_erase (us.take ys.length) [] v
      rw [hl2, List.append_nil] at this
      exact this) (by have := h3.takeN ys.length; simpa using this) []
    exact ⟨y, _, ρ, rv.mono st.tg, m', st, h⟩
theorem call_reverse (e : σ[i]? = some (.list xs)) (hz : xs.length ≤ 1000000) (h : Q .none (σ.set i (.list xs.reverse))) : CallW C n q (.builtin "list.reverse") [.obj i] σ Q X := by
  intro A fs s ρ vs hA ok m rs
  cases rs with
  | cons r rs =>
    cases rs
    obtain ⟨a, us, k, rfl, h1, h2, h3⟩ := obj_list m e r
    have hl := h3.length
    refine call_meets PySem.F.slot_list_reverse ⟨_, h2, rfl⟩ PySem.F.entry_list_reverse (PySem.F.args_list_reverse_1 _) (PySem.AutoSeq1.list_reverse_list_0 a us.toArray k (by rw [List.size_toArray, sizeLine_eq]; omega)) ⟨h2, ?_⟩
    obtain ⟨m', st⟩ := list_upd (d := s.drawn) (t := s.toks) m e h1 h2 (fun x => x.reverse) (ws := us.reverse) (by simp) h3.reverse []
    exact ⟨.none, _, ρ, .none, m', st, h⟩
/-- a new list object joins the memory, the heap kept -/
theorem list_new {fs : List Env} {s : Shared} {ρ : Adrs} {h' : Heap} {d : Drawn} {t : Nat} {a : Addr} {ws : List Value} {k : Nat} (m : Mem C fs s ρ σ) (hk : ∀ b o, s.heap.get? b = some o → h'.get? b = some o) (hn : s.heap.get? a = none) (hz : ¬ sysModules = a) (h3 : IsL h' a ws.toArray k)
    (rs : RVs s.heap ρ ws ys) (Y : List Addr) : Mem C fs ⟨h', s.gens, d, t, s.os⟩ (ρ ++ [[a]]) (σ ++ [.list ys]) ∧ Step fs Y s.heap h' ρ (ρ ++ [[a]]) ∧ RV h' (ρ ++ [[a]]) (.ref a) (.obj σ.length) := by
  obtain ⟨m', st⟩ := m.new (d := d) (t := t) (as := [a]) (mo := .list ys) hk (fun b hb => by rw [List.mem_singleton.mp hb]; exact ⟨hn, _, h3⟩) (by simp) (by simpa using hz) (fun tg => .list ⟨_, h3⟩ (rs.mono tg)) rfl rfl Y
  exact ⟨m', st, .obj (r := []) (by rw [← m.len]; simp)⟩
theorem fresh_size (h : Heap) : h.get? h.objs.size = none := by
  cases e : h.get? h.objs.size with
  | none => rfl
  | some o => exact absurd (Heap.lt_size e) (Nat.lt_irrefl _)
theorem call_list_copy (e : σ[i]? = some (.list xs)) (hz : xs.length ≤ 1000000) (h : Q (.obj σ.length) (σ ++ [.list xs])) : CallW C n q (.type "list") [.obj i] σ Q X := by
  intro A fs s ρ vs hA ok m rs
  cases rs with
  | cons r rs =>
    cases rs
    obtain ⟨a, us, k, rfl, h1, h2, h3⟩ := obj_list m e r
    have hl := h3.length
    refine call_list_seq a (.inl rfl) h2 rfl rfl (fun h' c' hk hg => ?_) (by rw [List.size_toArray, sizeLine_eq]; omega)
    obtain ⟨m', st, rv⟩ := list_new (d := s.drawn) (t := s.toks) m hk (fresh_size _) m.sys_size hg h3 []
    exact ⟨_, _, _, rv, m', st, h⟩
theorem call_tuple_of (e : σ[i]? = some (.list xs)) (hz : xs.length ≤ 1000000) (h : Q (.tup xs) σ) : CallW C n q (.type "tuple") [.obj i] σ Q X := by
  intro A fs s ρ vs hA ok m rs
  cases rs with
  | cons r rs =>
    cases rs
    obtain ⟨a, us, k, rfl, h1, h2, h3⟩ := obj_list m e r
    have hl := h3.length
    refine call_tuple_list ⟨_, h2, rfl, k, rfl⟩ (fun h' hk => ?_) (by rw [List.size_toArray, sizeLine_eq]; omega)
    have hk' : ∀ b o, s.heap.get? b = some o → (h'.push ({ cls := .type "tuple", data := .seq us.toArray } : Obj)).get? b = some o := fun b o z => Heap.get?_push_of_some _ (hk b o z)
    exact ⟨.tup xs, σ, ρ, .tup ⟨_, Heap.get?_push_size _ rfl, rfl, 0, rfl⟩ (h3.mono (tg_keeps hk' ρ)), m.keeps hk' rfl rfl, Step.keeps hk' _ _ _, h⟩
theorem call_isinstance_str {x : Str} (h : Q (.bool true) σ) : CallW C n q (.builtin "isinstance") [.str x, .raw (.type "str")] σ Q X := by
  intro A fs s ρ vs hA ok m rs
  cases rs with
  | cons r rs =>
    cases rs with
    | cons r2 rs =>
      cases rs; cases r; cases r2
      exact PySem.IsiPair.str_str ⟨_, σ, ρ, .bool _, m, .refl _ _ _ _, h⟩
/-- the sum of two lists -/
theorem op_add_list (e1 : σ[i]? = some (.list xs)) (e2 : σ[j]? = some (.list ys)) (hz : xs.length + ys.length ≤ 1000000) (h : Q (.obj σ.length) (σ ++ [.list (xs ++ ys)])) : OpW2 C n q (binaryOp .Add) (.obj i) (.obj j) σ Q X := by
  intro A fs s ρ u v hA ok m r1 r2
  obtain ⟨a, us, k, rfl, h1, h2, h3⟩ := obj_list m e1 r1
  obtain ⟨a', us', k', rfl, h1', h2', h3'⟩ := obj_list m e2 r2
  have hl := h3.length
  have hl' := h3'.length
  refine PySem.P.add_list h2 h2' ?_ (by simp only [List.size_toArray]; rw [sizeLine_eq]; omega)
  obtain ⟨m', st, rv⟩ := list_new (d := s.drawn) (t := s.toks) (h' := s.heap.push { cls := .type "list", data := .seq (us.toArray ++ us'.toArray) }) (k := 0) m (fun b o z => Heap.get?_push_of_some _ z) (fresh_size _) m.sys_size (ws := us ++ us') (by
    have : IsL (s.heap.push { cls := .type "list", data := .seq (us.toArray ++ us'.toArray) }) s.heap.objs.size (us.toArray ++ us'.toArray) 0 := Heap.get?_push_size _ rfl
    simpa using this) (h3.append h3') []
  exact ⟨_, _, _, rv, m', st, h⟩
end
end Mine

namespace Mine
open PySem PySem.W PySem.Calls PyProof.Rows PySem.Spec

/-! MOps2 -/
/-! values without objects, as the library's data -/
mutual
def MV.py : MV → PyData
  | .bool b => .bool b
  | .int i => .int i
  | .str x => .str x
  | .tup vs => .tuple (MV.pys vs)
  | _ => .none
def MV.pys : List MV → List PyData
  | [] => []
  | v :: r => v.py :: MV.pys r
end
mutual
def MV.flat : MV → Bool
  | .none | .bool _ | .int _ => true
  | .str x => PyData.strOk x
  | .tup vs => MV.flats vs
  | _ => false
def MV.flats : List MV → Bool
  | [] => true
  | v :: r => v.flat && MV.flats r
end
mutual
theorem RV.reads {h : Heap} {ρ : Adrs} : ∀ {v : Value} {m : MV}, RV h ρ v m → m.flat = true → ∃ as, Reads h v m.py as
  | _, _, .none, _ => ⟨_, Reads.none⟩
  | _, _, .bool b, _ => ⟨_, Reads.bool b⟩
  | _, _, .int i t, _ => ⟨_, Reads.int i t⟩
  | _, _, .str x t, _ => ⟨_, Reads.str x t⟩
  | _, _, .tup t r, f => by
    obtain ⟨as, q⟩ := RVs.reads r (by simpa [MV.flat] using f)
    obtain ⟨o, ho, hc, n, hd⟩ := t
    exact ⟨as, by rw [MV.py]; exact reads_tuple_at ho hc hd (by simpa using q)⟩
  | _, _, .obj e, f => by simp [MV.flat] at f
  | _, _, .raw v, f => by simp [MV.flat] at f
theorem RVs.reads {h : Heap} {ρ : Adrs} : ∀ {vs : List Value} {ms : List MV}, RVs h ρ vs ms → MV.flats ms = true → ∃ as, ReadsAll h vs (MV.pys ms) as
  | _, _, .nil, _ => ⟨_, by rw [MV.pys]; exact ReadsAll.nil⟩
  | _, _, .cons (m := m) (ms := ms) a r, f => by
    have f' : m.flat = true ∧ MV.flats ms = true := by simpa [MV.flats] using f
    obtain ⟨as, q⟩ := RV.reads a f'.1
    obtain ⟨bs, p⟩ := RVs.reads r f'.2
    exact ⟨_, by rw [MV.pys]; exact ReadsAll.cons q p⟩
end
mutual
theorem MV.canLay : ∀ {m : MV}, m.flat = true → m.py.canLay0 = true
  | .none, _ | .bool _, _ | .int _, _ => rfl
  | .str x, f => by simpa [MV.flat, MV.py, PyData.canLay0] using f
  | .tup vs, f => by simpa [MV.py, PyData.canLay0] using MV.canLays (ms := vs) (by simpa [MV.flat] using f)
  | .obj _, f => by simp [MV.flat] at f
  | .raw _, f => by simp [MV.flat] at f
theorem MV.canLays : ∀ {ms : List MV}, MV.flats ms = true → PyData.canLayAll0 (MV.pys ms) = true
  | [], _ => rfl
  | m :: r, f => by
    have f' : m.flat = true ∧ MV.flats r = true := by simpa [MV.flats] using f
    simp [MV.pys, PyData.canLayAll0, MV.canLay f'.1, MV.canLays f'.2]
end
mutual
theorem MV.flat_under {k : Nat} : ∀ {m : MV}, m.flat = true → m.under k = true
  | .none, _ | .bool _, _ | .int _, _ | .str _, _ => by simp [MV.under]
  | .tup vs, f => by simpa [MV.under] using MV.flats_under (ms := vs) (by simpa [MV.flat] using f)
  | .obj _, f => by simp [MV.flat] at f
  | .raw _, f => by simp [MV.flat] at f
theorem MV.flats_under {k : Nat} : ∀ {ms : List MV}, MV.flats ms = true → MV.unders k ms = true
  | [], _ => by simp [MV.unders]
  | m :: r, f => by
    have f' : m.flat = true ∧ MV.flats r = true := by simpa [MV.flats] using f
    simp [MV.unders, MV.flat_under f'.1, MV.flats_under f'.2]
end

/-- what a value is as data: itself, or the list that it names -/
inductive Dt (σ : List MO) : MV → PyData → Prop
  | flat {m : MV} : m.flat = true → Dt σ m m.py
  | list {i : Nat} {xs : List MV} : σ[i]? = some (.list xs) → MV.flats xs = true → Dt σ (.obj i) (.list (MV.pys xs))
theorem Dt.can {σ : List MO} {m : MV} {d : PyData} (x : Dt σ m d) : d.canLay0 = true := by
  cases x with
  | flat f => exact MV.canLay f
  | list e f => exact MV.canLays f

section
variable {C : Cfg} {n : Nat} {q : Bool} {σ : List MO} {Q : MV → List MO → Prop} {X : MV → List MO → Prop} {i j : Nat} {xs ys : List MV} {a b : MV} {da db : PyData}
theorem Dt.reads {fs : List Env} {s : Shared} {ρ : Adrs} {v : Value} (x : Dt σ a da) (m : Mem C fs s ρ σ) (r : RV s.heap ρ v a) : ∃ as, Reads s.heap v da as := by
  cases x with
  | flat f => exact r.reads f
  | list e f =>
    obtain ⟨ad, vs, k, rfl, h1, h2, h3⟩ := obj_list m e r
    obtain ⟨as, p⟩ := h3.reads f
    exact ⟨_, reads_list_at h2 rfl rfl (by simpa using p)⟩
theorem cmp_eq_data (ha : Dt σ a da) (hb : Dt σ b db) (hd : min da.depth db.depth ≤ 50) (hn : n ≤ 40) (h : Q (.bool (PyData.eqv da db)) σ) : OpW2 C n q (compareOp .Eq) a b σ Q X := by
  intro A fs s ρ u v hA ok m r1 r2
  obtain ⟨as, p1⟩ := ha.reads m r1
  obtain ⟨bs, p2⟩ := hb.reads m r2
  with_reducible refine PySem.SeqAt.compareEq_reads p1 p2 ha.can hb.can ?_ ?_
  · have := ok.units; rw [cLine_is]; omega
  · exact PostV.here m (.bool _) h
theorem cmp_ne_data (ha : Dt σ a da) (hb : Dt σ b db) (hd : min da.depth db.depth ≤ 50) (hn : n ≤ 40) (h : Q (.bool (!PyData.eqv da db)) σ) : OpW2 C n q (compareOp .NotEq) a b σ Q X := by
  intro A fs s ρ u v hA ok m r1 r2
  obtain ⟨as, p1⟩ := ha.reads m r1
  obtain ⟨bs, p2⟩ := hb.reads m r2
  with_reducible refine PySem.SeqAt.compareNe_reads p1 p2 ha.can hb.can ?_ ?_
  · have := ok.units; rw [cLine_is]; omega
  · exact PostV.here m (.bool _) h

/-! items -/
theorem seqIndex_pos {i : Int} {k : Nat} (h0 : 0 ≤ i) (h1 : i < k) : seqIndex? i k = some i.toNat := by
  unfold seqIndex?
  have e : ¬ i < 0 := by omega
  simp only [if_neg e]
  rw [if_pos (by simp only [Bool.and_eq_true, decide_eq_true_eq]; omega)]
/-- an item at a place that is not negative -/
inductive ItemOf (σ : List MO) : MV → Int → MV → Prop
  | tup {vs : List MV} {i : Int} {r : MV} : 0 ≤ i → vs[i.toNat]? = some r → vs.length < 2 ^ 60 → ItemOf σ (.tup vs) i r
  | list {j : Nat} {vs : List MV} {i : Int} {r : MV} : σ[j]? = some (.list vs) → 0 ≤ i → vs[i.toNat]? = some r → vs.length < 2 ^ 60 → ItemOf σ (.obj j) i r
theorem item_got {A : Around} {fs : List Env} {s : Shared} {ρ : Adrs} {value slice : PySem.Expr} {v : Value} {k : Int} {t : Tok} {r : MV} (m : Mem C fs s ρ σ) (rv : RV s.heap ρ v a) (it : ItemOf σ a k r) (h : Q r σ)
    (hs : ∀ x : Addr, subscripted slice false (.ref x) (.int k t) = operate [.ref x, .int k t] (getItem (.ref x) (.int k t))) :
    wpAny (model C.prog C.w) A (subscriptTail value slice v (.int k t)) (PostV C fs s ρ Q) (PostX C fs s ρ X) s := by
  cases it with
  | tup h0 hx hz =>
    cases rv with
    | tup tt rs =>
      obtain ⟨u, hu, ru⟩ := rs.get hx
      have hl := rs.length
      have hlt := (List.getElem?_eq_some_iff.mp hu).1
      refine PyProof.Rows.tail_any (T := "tuple") tt.typeIs slot_tuple_getitem.lookup (getItem_tuple tt (j := k.toNat) (by omega) (by omega) (seqIndex_pos h0 (by rw [List.size_toArray]; omega)) (by simpa using hu) ?_) (hs _)
      exact PostV.here m ru h
  | list e h0 hx hz =>
    obtain ⟨ad, vs', k', rfl, h1, h2, h3⟩ := obj_list m e rv
    obtain ⟨u, hu, ru⟩ := h3.get hx
    have hl := h3.length
    have hlt := (List.getElem?_eq_some_iff.mp hu).1
    refine PyProof.Rows.tail_any (T := "list") (show s.TypeIs (.ref ad) "list" from ⟨_, h2, rfl⟩) slot_list_getitem.lookup (wpAny_getItem_list ⟨_, h2, rfl, k', rfl⟩ h0 (by omega) (by simpa using hu) ?_) (hs _)
    exact PostV.here m ru h
theorem ev_item {f : Addr} {loc : List (Str × MV)} {value slice : PySem.Expr} {pos : Pos} (h : EvalW C f n q value loc σ (fun a σ₁ => EvalW C f n q slice loc σ₁ (fun b σ₂ => ∃ k r, b = .int k ∧ ItemOf σ₂ a k r ∧ Q r σ₂) X) X)
    (hs : ∀ (x : Addr) (k : Int) (t : Tok), subscripted slice false (.ref x) (.int k t) = operate [.ref x, .int k t] (getItem (.ref x) (.int k t)) := by intro _ _ _; with_unfolding_all rfl) :
    EvalW C f n q (.Subscript value slice pos) loc σ Q X := by
  intro A fs L s ρ hA ok m l
  refine Subscript_ (seq2 h hA ok m l fun u s₁ a σ₁ ρ₁ ru m₁ l₁ st₁ h₁ => ?_)
  refine wpAny_mono (seq2 h₁ hA ok m₁ l₁ fun v s₂ b σ₂ ρ₂ rv m₂ l₂ st₂ zz => ?_) (fun _ _ x => x) fun _ _ p => p.lift st₁
  obtain ⟨k, r, e, it, hq⟩ := zz
  subst e
  cases rv
  exact wpAny_mono (item_got m₂ (ru.mono st₂.tg) it hq (fun x => hs x _ _)) (fun _ _ p => p.lift (st₁.trans st₂)) fun _ _ p => p.lift (st₁.trans st₂)
end

/-! MOps3 -/
/-! cuts of a list -/
theorem cut_take {α : Type} (p : Nat → Bool) : ∀ (l : List α) (j h : Nat), (∀ k, j ≤ k → k < h → p k = false) → (∀ k, h ≤ k → k < j + l.length → p k = true) → j ≤ h →
    ((l.zipIdx j).filterMap fun x => if p x.2 = true then none else some x.1) = l.take (h - j)
  | [], _, _, _, _, _ => by simp
  | x :: l, j, h, k1, k2, hj => by
    rw [List.zipIdx_cons, List.filterMap_cons]
    by_cases e : j < h
    · simp only [k1 j (Nat.le_refl _) e, Bool.false_eq_true, if_false]
      rw [cut_take p l (j + 1) h (fun k a b => k1 k (by omega) b) (fun k a b => k2 k a (by simp only [List.length_cons]; omega)) (by omega)]
      have : h - j = (h - (j + 1)) + 1 := by omega
      rw [this, List.take_succ_cons]
    · have hh : h = j := by omega
      subst hh
      simp only [k2 h (Nat.le_refl _) (by simp), if_true]
      have all : ∀ (l : List α) (i : Nat), (∀ k, i ≤ k → k < i + l.length → p k = true) → ((l.zipIdx i).filterMap fun x => if p x.2 = true then none else some x.1) = [] := by
        intro l
        induction l with
        | nil => intro _ _; rfl
        | cons y l ih =>
          intro i ki
          rw [List.zipIdx_cons, List.filterMap_cons]
          simp only [ki i (Nat.le_refl _) (by simp), if_true]
          exact ih (i + 1) fun k a b => ki k (by omega) (by simp only [List.length_cons]; omega)
      rw [all l (h + 1) fun k a b => k2 k (by omega) (by simp only [List.length_cons]; omega)]
      simp

section
variable {C : Cfg} {f : Addr} {n : Nat} {q : Bool} {loc : List (Str × MV)} {σ : List MO} {Q : MV → List MO → Prop} {X : MV → List MO → Prop} {i j : Nat} {xs ys : List MV} {a b : MV}

theorem del_tail {A : Around} {E : Value → Shared → Prop} {s : Shared} {prog : Program} {w : World} {l sl : Addr} {vs : List Value} {k h : Nat} {t : Tok} {R : Unit → Shared → Prop} (h1 : IsL s.heap l vs.toArray k) (hs : s.heap.IsSliceOf sl (.int h t) .none .none) (hh : h ≤ vs.length) (hz : vs.length ≤ 1000000)
    (hQ : ∀ F : Array Value → Array Value, F vs.toArray = (vs.take h).toArray → R () { s with heap := s.heap.update l (Obj.mapSeq F) }) :
    wpAny (model prog w) A (delItem (.ref l) (.ref sl)) R E s := by
  obtain ⟨os, hos, hcs, hds⟩ := id hs
  have hTs : s.TypeIs (.ref sl) "slice" := ⟨os, hos, hcs⟩
  have hT : s.TypeIs (.ref l) "list" := ⟨_, h1, rfl⟩
  refine wpAny_delItem_slot hT (by decide) PySem.F.slot_list_delitem (wpAny_call_entry PySem.F.slot_list_delitem hT PySem.F.entry_list_delitem ?_ (PySem.F.args_list_delitem_2 _ _))
  show wpAny _ _ (Builtin.List.listSubscript? (.ref sl) >>= _) _ _ s
  refine wpAny_bind ?_
  unfold Builtin.List.listSubscript?
  refine wpAny_bind (wpAny_specialOf hTs slice_no_index ?_)
  simp only [Option.isNone_none, if_true]
  refine wpAny_pure ?_
  show wpAny _ _ (typeOf (.ref sl) >>= _) _ _ s
  refine wpAny_bind (wpAny_typeOf hTs ?_)
  rw [if_neg (by decide)]
  rw [listSliceParts_eq]
  refine wpAny_bind (wpAny_bind (wpAny_field hos hds (x := .none) rfl (wpAny_bind (wpAny_listPart .none ?_))))
  rw [if_neg (show ¬ ((rawPart none == rawInt 0) = true) from by decide)]
  refine wpAny_bind (wpAny_field hos hds (x := .int h t) rfl (wpAny_bind (wpAny_listPart (.int _ _) ?_)))
  refine wpAny_bind (wpAny_field hos hds (x := .none) rfl (wpAny_bind (wpAny_listPart .none (wpAny_pure ?_))))
  refine wpAny_bind (m := Builtin.List.listItems (.ref l)) ?_
  unfold Builtin.List.listItems
  refine wpAny_bind (wpAny_seqItems h1 rfl (wpAny_pure ?_))
  refine wpAny_bind (wpAny_of_eq (sliceIndices_raw (some (h : Int)) none none vs.toArray.size (by simp)) ?_)
  have hb : sliceBounds (some (h : Int)) none none vs.toArray.size = ((h : Int), (vs.length : Int), 1) := by
    unfold sliceBounds
    simp only [Option.getD_none, List.size_toArray]
    have e1 : ¬ (h : Int) < 0 := by omega
    simp only [e1, if_false, show (1 : Int) > 0 from by decide, if_true, Prod.mk.injEq, and_true]
    omega
  rw [hb]
  refine wpAny_bind (wpAny_rule (wpAny_bind (m := Builtin.List.listUpdate _ _) ?_))
  refine wpAny_updateSeq h1 rfl ?_ (by rw [List.size_toArray, sizeLine_eq]; omega) ?_
  · refine wpAny_bind (wpAny_letGo (wpAny_pure ⟨_, rfl, hQ _ ?_⟩))
    congr 1
    refine (cut_take _ vs 0 h (fun k _ hk => ?_) (fun k hk hk' => ?_) (Nat.zero_le _)).trans (by simp)
    · show (if (1 : Int) > 0 then decide ((h : Int) ≤ (k : Int)) && decide ((k : Int) < (vs.length : Int)) && (((k : Int) - (h : Int)) % 1 == 0) else _) = false
      rw [if_pos (by decide), decide_eq_false (by omega)]; rfl
    · show (if (1 : Int) > 0 then decide ((h : Int) ≤ (k : Int)) && decide ((k : Int) < (vs.length : Int)) && (((k : Int) - (h : Int)) % 1 == 0) else _) = true
      rw [if_pos (by decide), decide_eq_true (by omega), decide_eq_true (by omega)]
      simp
  · have hlen : ∀ (g : Value × Nat → Option Value), ((vs.zipIdx.filterMap g).toArray).size ≤ sizeLine + 1 := fun g => by
      rw [List.size_toArray, sizeLine_eq]
      have := List.length_filterMap_le g vs.zipIdx
      rw [List.length_zipIdx] at this
      omega
    exact hlen _

/-- del x.y[h:] of a list -/
theorem x_deltail {o : PySem.Expr} {e : PySem.Expr} {p1 p2 pos : Pos} {QF : MF → List (Str × MV) → List MO → Prop} {XF : MV → List (Str × MV) → List MO → Prop}
    (h : EvalW C f n q o loc σ (fun a σ₁ => EvalW C f n q e loc σ₁ (fun b σ₂ => ∃ (i : Nat) (xs : List MV) (k : Nat), a = .obj i ∧ b = .int (k : Int) ∧ σ₂[i]? = some (.list xs) ∧ k ≤ xs.length ∧ xs.length ≤ 1000000 ∧ QF .next loc (σ₂.set i (.list (xs.take k)))) (fun b σ₁ => XF b loc σ₁)) (fun b σ₁ => XF b loc σ₁)) :
    ExecW C f n q (.Delete [.Subscript o (.Slice (some e) none none p1) p2] pos) loc σ QF XF := by
  intro A fs L s ρ hA ok m l
  refine wpAny_Delete (wpAny_deleteEach_cons (wpAny_delete_Subscript ?_))
  refine wpAny_mono (seq2 h hA ok m l fun u s₁ a σ₁ ρ₁ ru m₁ l₁ st₁ h₁ => ?_) (fun _ _ x => x) fun _ _ p => p.toF l
  refine wpAny_Slice (wpAny_evalPart_some ?_)
  refine wpAny_mono (seq2 h₁ hA ok m₁ l₁ fun v s₂ b σ₂ ρ₂ rv m₂ l₂ st₂ zz => ?_) (fun _ _ x => x) fun _ _ p => (p.lift st₁).toF l
  obtain ⟨i, xs, k, e1, e2, e3, e4, e5, hq⟩ := zz
  subst e1; subst e2
  cases rv
  rename_i t
  refine wpAny_evalPart_none (wpAny_evalPart_none ?_)
  have kp : ∀ b o, s₂.heap.get? b = some o → (s₂.heap.push ({ cls := .type "slice", data := .fields #[.int k t, .none, .none] } : Obj)).get? b = some o := fun b o e => Heap.get?_push_of_some _ e
  have m₃ := m₂.keeps (d := s₂.drawn) (t := s₂.toks) kp rfl rfl
  have st₃ := Step.keeps (s := s₂) kp (envAt C.w.params f L :: fs) [] ρ₂
  obtain ⟨ad, vs, k', rfl, g1, g2, g3⟩ := obj_list m₃ e3 ((ru.mono st₂.tg).mono st₃.tg)
  have hl := g3.length
  refine del_tail g2 (Heap.IsSliceOf.new s₂.heap _ _ _) (by omega) (by omega) fun F hF => ?_
  obtain ⟨m', st'⟩ := list_upd (d := s₂.drawn) (t := s₂.toks) m₃ e3 g1 g2 F hF (g3.takeN k) []
  have stall := ((st₁.trans st₂).trans st₃).trans st'
  exact wpAny_deleteEach_nil ⟨.next, loc, _, ρ₂, .next, m', l.step stall fa_head (by simp), stall.mono (by simp), hq⟩

/-- the first k of a list -/
theorem ev_slice_upto {o e : PySem.Expr} {p pos : Pos} (h : EvalW C f n q o loc σ (fun a σ₁ => EvalW C f n q e loc σ₁ (fun b σ₂ => ∃ (i : Nat) (xs : List MV) (k : Nat), a = .obj i ∧ b = .int (k : Int) ∧ σ₂[i]? = some (.list xs) ∧ xs.length ≤ 1000000 ∧ Q (.obj σ₂.length) (σ₂ ++ [.list (xs.take k)])) X) X)
    (ht : ∀ u r, letTemporaryGo o u r = pure () := by intro _ _; rfl) : EvalW C f n q (.Subscript o (.Slice none (some e) none p) pos) loc σ Q X := by
  intro A fs L s ρ hA ok m l
  refine wpAny_Subscript_list_slice (seq2 h hA ok m l fun u s₁ a σ₁ ρ₁ ru m₁ l₁ st₁ h₁ => ?_) ht
  refine wpAny_evalPart_none (wpAny_evalPart_some ?_)
  refine wpAny_mono (seq2 h₁ hA ok m₁ l₁ fun v s₂ b σ₂ ρ₂ rv m₂ l₂ st₂ zz => ?_) (fun _ _ x => x) fun _ _ p => p.lift st₁
  obtain ⟨i, xs, k, e1, e2, e3, e4, hq⟩ := zz
  subst e1; subst e2
  cases rv
  rename_i t
  obtain ⟨ad, vs, k', rfl, g1, g2, g3⟩ := obj_list m₂ e3 (ru.mono st₂.tg)
  have hl := g3.length
  refine ⟨ad, vs.toArray, none, some (k : Int), rfl, ⟨_, g2, rfl, k', rfl⟩, by rw [List.size_toArray, sizeLine_eq]; omega, .none, .int _ _, ?_⟩
  have hp : slicePick vs.toArray none (some (k : Int)) none = (vs.take k).toArray := by
    by_cases hk : k ≤ vs.length
    · have := slicePick_upto vs.toArray k (by simpa using hk)
      simpa using this
    · have hb : slicePick vs.toArray none (some (k : Int)) none = slicePick vs.toArray none (some (vs.length : Int)) none := by
        unfold slicePick sliceBounds
        simp only [Option.getD_none, List.size_toArray, show (1 : Int) > 0 from by decide, if_true, show ¬ (k : Int) < 0 from by omega, show ¬ (vs.length : Int) < 0 from by omega, if_false]
        rw [show min (k : Int) (vs.length : Int) = min (vs.length : Int) (vs.length : Int) from by omega]
      rw [hb]
      have := slicePick_upto vs.toArray vs.length (by simp)
      rw [this]
      simp [List.take_of_length_le (Nat.le_of_not_le hk)]
  rw [hp]
  have k0 : ∀ b o, s₂.heap.get? b = some o → (s₂.heap.push ({ cls := .type "slice", data := .fields #[.none, .int k t, .none] } : Obj)).get? b = some o := fun b o e => Heap.get?_push_of_some _ e
  have k1 : ∀ b o, s₂.heap.get? b = some o → ((s₂.heap.push ({ cls := .type "slice", data := .fields #[.none, .int k t, .none] } : Obj)).push ({ cls := .type "list", data := .seq (vs.take k).toArray } : Obj)).get? b = some o := fun b o e => Heap.get?_push_of_some _ (k0 b o e)
  have sz : (s₂.heap.push ({ cls := .type "slice", data := .fields #[.none, .int k t, .none] } : Obj)).objs.size = s₂.heap.objs.size + 1 := Heap.size_push _ _
  have hn : s₂.heap.get? (s₂.heap.objs.size + 1) = none := by
    cases e : s₂.heap.get? (s₂.heap.objs.size + 1) with
    | none => rfl
    | some o => exact absurd (Heap.lt_size e) (Nat.not_lt.mpr (Nat.le_succ _))
  have hsys : ¬ sysModules = s₂.heap.objs.size + 1 := by
    have := m₂.big (h' := s₂.heap) (fun _ _ e => e)
    show ¬ (1 : Nat) = s₂.heap.objs.size + 1
    omega
  obtain ⟨m', st', rv'⟩ := list_new (d := s₂.drawn) (t := s₂.toks) (k := 0) m₂ k1 hn hsys (by
    have := Heap.get?_push_size (s₂.heap.push ({ cls := .type "slice", data := .fields #[.none, .int k t, .none] } : Obj)) (o := ({ cls := .type "list", data := .seq (vs.take k).toArray } : Obj)) rfl
    rw [sz] at this
    exact this) (g3.takeN k) []
  exact ⟨_, _, _, rv', m', (st₁.trans st₂).trans st', hq⟩
end

/-! MOps4 -/
theorem KVs.append {h : Heap} {ρ : Adrs} {es : List (Str × Value)} {fs : List (Str × MV)} (r : KVs h ρ es fs) {x : Str} {v : Value} {m : MV} (k : RV h ρ v m) : KVs h ρ (es ++ [(x, v)]) (fs ++ [(x, m)]) := by
  induction r with
  | nil => exact .cons k .nil
  | cons a _ ih => exact .cons a ih
theorem PVs.append {h : Heap} {ρ : Adrs} {es : List (List Int × Addr × Value)} {fs : List (List Int × MV)} (r : PVs h ρ es fs) {x : List Int} {a : Addr} {v : Value} {m : MV} (k : RV h ρ v m) : PVs h ρ (es ++ [(x, a, v)]) (fs ++ [(x, m)]) := by
  induction r with
  | nil => exact .cons k .nil
  | cons a _ ih => exact .cons a ih
theorem KVs.none {h : Heap} {ρ : Adrs} {es : List (Str × Value)} {fs : List (Str × MV)} (r : KVs h ρ es fs) {x : Str} (e : fs.lookup x = none) : es.any (fun kv => kv.1 = x) = false ∧ valueAt es x = none := by
  unfold valueAt
  induction r with
  | nil => exact ⟨rfl, rfl⟩
  | cons a r ih =>
    rename_i y v m kvs fs'
    rw [List.lookup_cons] at e
    by_cases hxy : x = y
    · subst hxy; rw [beq_self_eq_true] at e; cases e
    · rw [show (x == y) = false from by simpa using hxy] at e
      have hyx : ¬ y = x := fun z => hxy z.symm
      simp only [List.any_cons, List.find?_cons, hyx, decide_false, Bool.false_or]
      exact ih e
theorem KVs.some {h : Heap} {ρ : Adrs} {es : List (Str × Value)} {fs : List (Str × MV)} (r : KVs h ρ es fs) {x : Str} {m : MV} (e : fs.lookup x = some m) : ∃ v, valueAt es x = some v ∧ RV h ρ v m := by
  unfold valueAt
  induction r with
  | nil => cases e
  | cons a r ih =>
    rename_i y v m kvs fs'
    rw [List.lookup_cons] at e
    by_cases hxy : x = y
    · subst hxy; rw [beq_self_eq_true] at e; cases e
      exact ⟨v, by simp, a⟩
    · rw [show (x == y) = false from by simpa using hxy] at e
      have hyx : ¬ y = x := fun z => hxy z.symm
      simp only [List.find?_cons, hyx, decide_false]
      exact ih e
theorem PVs.none {h : Heap} {ρ : Adrs} {es : List (List Int × Addr × Value)} {fs : List (List Int × MV)} (r : PVs h ρ es fs) {x : List Int} (e : fs.lookup x = none) : atKey es x = none := by
  unfold atKey
  induction r with
  | nil => rfl
  | cons a r ih =>
    rename_i y ad v m kvs fs'
    rw [List.lookup_cons] at e
    by_cases hxy : x = y
    · subst hxy; rw [beq_self_eq_true] at e; cases e
    · rw [show (x == y) = false from by simpa using hxy] at e
      have hyx : ¬ y = x := fun z => hxy z.symm
      simp only [List.find?_cons, hyx, decide_false]
      exact ih e
theorem PVs.some {h : Heap} {ρ : Adrs} {es : List (List Int × Addr × Value)} {fs : List (List Int × MV)} (r : PVs h ρ es fs) {x : List Int} {m : MV} (e : fs.lookup x = some m) : ∃ p, atKey es x = some p ∧ RV h ρ p.2 m := by
  unfold atKey
  induction r with
  | nil => cases e
  | cons a r ih =>
    rename_i y ad v m kvs fs'
    rw [List.lookup_cons] at e
    by_cases hxy : x = y
    · subst hxy; rw [beq_self_eq_true] at e; cases e
      exact ⟨(ad, v), by simp, a⟩
    · rw [show (x == y) = false from by simpa using hxy] at e
      have hyx : ¬ y = x := fun z => hxy z.symm
      simp only [List.find?_cons, hyx, decide_false]
      exact ih e
def intTup (k : List Int) : MV := .tup (k.map .int)

section
variable {C : Cfg} {fs : List Env} {s : Shared} {ρ : Adrs} {σ : List MO} {i : Nat}
theorem sdict_got {sf : List (Str × MV)} {v : Value} (m : Mem C fs s ρ σ) (e : σ[i]? = some (.sdict sf)) (r : RV s.heap ρ v (.obj i)) : ∃ a kvs, v = .ref a ∧ ρ[i]? = some [a] ∧ s.heap.DictOf (strKind C.prog C.w) a kvs ∧ KVs s.heap ρ kvs sf ∧ (a == sysModules) = false := by
  obtain ⟨as, ha, ro⟩ := m.get e
  cases r with
  | obj h =>
    rw [ha] at h; cases h
    cases ro with
    | sdict d r => exact ⟨_, _, rfl, ha, d, r, by
        have : ¬ sysModules = _ := fun z => m.nosys (z ▸ mem_flat ha (List.mem_singleton.mpr rfl))
        simpa using fun z => this z.symm⟩
theorem pdict_got {sf : List (List Int × MV)} {v : Value} (m : Mem C fs s ρ σ) (e : σ[i]? = some (.pdict sf)) (r : RV s.heap ρ v (.obj i)) : ∃ a kvs, v = .ref a ∧ ρ[i]? = some [a] ∧ s.heap.DictOfH (tupleKind (intKind C.prog C.w)) a kvs ∧ PVs s.heap ρ kvs sf ∧ (a == sysModules) = false := by
  obtain ⟨as, ha, ro⟩ := m.get e
  cases r with
  | obj h =>
    rw [ha] at h; cases h
    cases ro with
    | pdict d r => exact ⟨_, _, rfl, ha, d, r, by
        have : ¬ sysModules = _ := fun z => m.nosys (z ▸ mem_flat ha (List.mem_singleton.mpr rfl))
        simpa using fun z => this z.symm⟩
theorem ints_are {prog : Program} {w : World} {h : Heap} : ∀ {k : List Int} {vs : List Value}, RVs h ρ vs (k.map .int) → ItemsAre (intKind prog w) k vs
  | [], _, r => by cases r; exact .nil
  | i :: k, _, r => by
    cases r with
    | cons a r => cases a; exact .cons (intKind_is _ _ _ _) (ints_are r)
theorem tup_key {prog : Program} {w : World} {k : List Int} {v : Value} {h : Heap} (r : RV h ρ v (intTup k)) : ∃ a, v = .ref a ∧ IsTupleKey (intKind prog w) h k a := by
  unfold intTup at r
  cases r with
  | tup t r =>
    obtain ⟨o, ho, hc, n, hd⟩ := t
    exact ⟨_, rfl, o, _, n, ho, hc, hd, by simpa using ints_are r⟩
end

section
variable {C : Cfg} {f : Addr} {n : Nat} {q : Bool} {loc : List (Str × MV)} {σ : List MO} {Q : MV → List MO → Prop} {X : MV → List MO → Prop} {i j : Nat} {xs ys : List MV} {a b d : MV}
/-- a lookup in a dict, with a default -/
inductive GetOf (σ : List MO) : Nat → MV → MV → MV → Prop
  | shit {i : Nat} {sf : List (Str × MV)} {x : Str} {d r : MV} : σ[i]? = some (.sdict sf) → sf.lookup x = some r → GetOf σ i (.str x) d r
  | smiss {i : Nat} {sf : List (Str × MV)} {x : Str} {d : MV} : σ[i]? = some (.sdict sf) → sf.lookup x = none → GetOf σ i (.str x) d d
  | phit {i : Nat} {sf : List (List Int × MV)} {k : List Int} {d r : MV} : σ[i]? = some (.pdict sf) → sf.lookup k = some r → GetOf σ i (intTup k) d r
  | pmiss {i : Nat} {sf : List (List Int × MV)} {k : List Int} {d : MV} : σ[i]? = some (.pdict sf) → sf.lookup k = none → GetOf σ i (intTup k) d d
theorem call_dict_get {r : MV} (g : GetOf σ i a d r) (hn : n ≤ 40) (h : Q r σ) : CallW C n q (.builtin "dict.get") [.obj i, a, d] σ Q X := by
  intro A fs s ρ vs hA ok m rs
  cases rs with
  | cons r1 rs =>
  cases rs with
  | cons r2 rs =>
  cases rs with
  | cons r3 rs =>
  cases rs
  rename_i u1 u2 u3
  have hu : A.units + 1 < cLine := by have := ok.units; rw [cLine_is]; omega
  cases g with
  | shit e e2 =>
    obtain ⟨ad, kvs, rfl, h1, h2, h3, h4⟩ := sdict_got m e r1
    cases r2
    obtain ⟨u, hv, ru⟩ := h3.some e2
    refine call_meetsIn PySem.F.slot_dict_get h2.mapOf.typeIs PySem.F.entry_dict_get (PySem.F.args_dict_get_3 _ _ _) (meets_dict_get_default (strKind C.prog C.w) ad (strKind_is _ _ _ _) h4 u3) ⟨_, h2.mapOf, ?_⟩
    rw [hv]
    exact PostV.here m ru h
  | smiss e e2 =>
    obtain ⟨ad, kvs, rfl, h1, h2, h3, h4⟩ := sdict_got m e r1
    cases r2
    refine call_meetsIn PySem.F.slot_dict_get h2.mapOf.typeIs PySem.F.entry_dict_get (PySem.F.args_dict_get_3 _ _ _) (meets_dict_get_default (strKind C.prog C.w) ad (strKind_is _ _ _ _) h4 u3) ⟨_, h2.mapOf, ?_⟩
    rw [(h3.none e2).2]
    exact PostV.here m r3 h
  | phit e e2 =>
    obtain ⟨ad, kvs, rfl, h1, h2, h3, h4⟩ := pdict_got m e r1
    obtain ⟨ka, rfl, hk⟩ := tup_key (prog := C.prog) (w := C.w) r2
    obtain ⟨p, hv, ru⟩ := h3.some e2
    refine call_meetsIn PySem.F.slot_dict_get h2.typeIs PySem.F.entry_dict_get (PySem.F.args_dict_get_3 _ _ _) (meetsH_dict_get_default (tupleKind (intKind C.prog C.w)) ad ka h4 u3) ⟨tupleKind_room_in1 hu, _, _, hk, h2, ?_⟩
    rw [hv]
    exact PostV.here m ru h
  | pmiss e e2 =>
    obtain ⟨ad, kvs, rfl, h1, h2, h3, h4⟩ := pdict_got m e r1
    obtain ⟨ka, rfl, hk⟩ := tup_key (prog := C.prog) (w := C.w) r2
    refine call_meetsIn PySem.F.slot_dict_get h2.typeIs PySem.F.entry_dict_get (PySem.F.args_dict_get_3 _ _ _) (meetsH_dict_get_default (tupleKind (intKind C.prog C.w)) ad ka h4 u3) ⟨tupleKind_room_in1 hu, _, _, hk, h2, ?_⟩
    rw [h3.none e2]
    exact PostV.here m r3 h

/-- a store at a key or an index -/
inductive StoreTo (σ : List MO) : MV → MV → MV → List MO → Prop
  | list {i : Nat} {xs : List MV} {k : Int} {v : MV} : σ[i]? = some (.list xs) → 0 ≤ k → k < xs.length → xs.length ≤ 1000000 → StoreTo σ (.obj i) (.int k) v (σ.set i (.list (xs.set k.toNat v)))
  | back {i : Nat} {xs : List MV} {k : Int} {v : MV} : σ[i]? = some (.list xs) → k < 0 → -(xs.length : Int) ≤ k → xs.length ≤ 1000000 → StoreTo σ (.obj i) (.int k) v (σ.set i (.list (xs.set (k + xs.length).toNat v)))
  | sdict {i : Nat} {sf : List (Str × MV)} {x : Str} {v : MV} : σ[i]? = some (.sdict sf) → sf.lookup x = none → sf.length ≤ 1000000 → StoreTo σ (.obj i) (.str x) v (σ.set i (.sdict (sf ++ [(x, v)])))
  | pdict {i : Nat} {sf : List (List Int × MV)} {k : List Int} {v : MV} : σ[i]? = some (.pdict sf) → sf.lookup k = none → sf.length ≤ 1000000 → StoreTo σ (.obj i) (intTup k) v (σ.set i (.pdict (sf ++ [(k, v)])))
theorem KVs.length {h : Heap} {ρ : Adrs} {es : List (Str × Value)} {fs : List (Str × MV)} (r : KVs h ρ es fs) : es.length = fs.length := by
  induction r with
  | nil => rfl
  | cons _ _ ih => simp [ih]
theorem PVs.length {h : Heap} {ρ : Adrs} {es : List (List Int × Addr × Value)} {fs : List (List Int × MV)} (r : PVs h ρ es fs) : es.length = fs.length := by
  induction r with
  | nil => rfl
  | cons _ _ ih => simp [ih]
theorem set_done {A : Around} {E : Value → Shared → Prop} {fs : List Env} {s : Shared} {ρ : Adrs} {u1 u2 u3 : Value} {v : MV} {σ' : List MO} {R : Unit → Shared → Prop} (g : StoreTo σ a b v σ') (hn : n ≤ 40) (ok : OkA A q n) (m : Mem C fs s ρ σ) (r1 : RV s.heap ρ u1 a) (r2 : RV s.heap ρ u2 b) (r3 : RV s.heap ρ u3 v)
    (h : ∀ s', Mem C fs s' ρ σ' → Step fs [] s.heap s'.heap ρ ρ → R () s') : wpAny (model C.prog C.w) A (setItem u1 u2 u3) R E s := by
  have hu : A.units + 1 < cLine := by have := ok.units; rw [cLine_is]; omega
  cases g with
  | list e h0 hk hz =>
    rename_i i xs k
    obtain ⟨ad, vs, k', rfl, g1, g2, g3⟩ := obj_list m e r1
    cases r2
    have hl := g3.length
    refine ki_setAt g2 h0 (by omega) (by rw [List.size_toArray]; omega) ?_
    obtain ⟨m', st⟩ := list_upd (d := s.drawn) (t := s.toks) m e g1 g2 (fun x => x.setIfInBounds k.toNat u3) (ws := vs.set k.toNat u3) (by simp) (g3.set _ r3) []
    exact h _ m' st
  | back e h0 hk hz =>
    rename_i i xs k
    obtain ⟨ad, vs, k', rfl, g1, g2, g3⟩ := obj_list m e r1
    cases r2
    have hl := g3.length
    refine ki_setBack g2 h0 (by rw [List.size_toArray]; omega) (by omega) ?_
    rw [List.size_toArray, hl]
    obtain ⟨m', st⟩ := list_upd (d := s.drawn) (t := s.toks) m e g1 g2 (fun x => x.setIfInBounds (k + xs.length).toNat u3) (ws := vs.set (k + xs.length).toNat u3) (by simp) (g3.set _ r3) []
    exact h _ m' st
  | sdict e e2 hz =>
    obtain ⟨ad, kvs, rfl, g1, g2, g3, g4⟩ := sdict_got m e r1
    cases r2
    have hl := g3.length
    refine wpAny_setItem_pairs (strKind_is _ _ _ _) g2 (fun h' hd hs => ?_) (by rw [sizeLine_eq]; omega)
    unfold stored at hd
    rw [(g3.none e2).1, if_neg Bool.false_ne_true] at hd
    have hdd := hd
    obtain ⟨o, es, ep, ho, _⟩ := hdd
    obtain ⟨m', st⟩ := m.upd (d := s.drawn) (t := s.toks + 1) (mo' := .sdict _) g1 e (by simp) (fun b o hb z => (hs.2 b (fun x => hb (by simp [x]))).trans z) (fun b hb => by rw [List.mem_singleton.mp hb]; exact ⟨o, ho⟩) (fun tg => .sdict hd ((g3.mono tg).append (r3.mono tg))) rfl rfl []
    exact h _ m' st
  | pdict e e2 hz =>
    obtain ⟨ad, kvs, rfl, g1, g2, g3, g4⟩ := pdict_got m e r1
    obtain ⟨ka, rfl, hk⟩ := tup_key (prog := C.prog) (w := C.w) r2
    have hl := g3.length
    refine wpAny_setItem_heap (tupleKind_room_in1 hu) hk g2 (fun h' hd hs => ?_) (by rw [sizeLine_eq]; omega)
    rw [storedH_new (g3.none e2)] at hd
    have hdd := hd
    obtain ⟨o, es, ep, ho, _⟩ := hdd
    obtain ⟨m', st⟩ := m.upd (d := s.drawn) (t := s.toks + (tupleKind (intKind C.prog C.w)).draws _) (mo' := .pdict _) g1 e (by simp) (fun b o hb z => (hs.2 b (fun x => hb (by simp [x]))).trans z) (fun b hb => by rw [List.mem_singleton.mp hb]; exact ⟨o, ho⟩) (fun tg => .pdict hd ((g3.mono tg).append (r3.mono tg))) rfl rfl []
    exact h _ m' st
theorem x_setitem {o ix value : PySem.Expr} {p pos : Pos} {QF : MF → List (Str × MV) → List MO → Prop} {XF : MV → List (Str × MV) → List MO → Prop}
    (h : EvalW C f n q value loc σ (fun v σ₀ => EvalW C f n q o loc σ₀ (fun a σ₁ => EvalW C f n q ix loc σ₁ (fun b σ₂ => ∃ σ₃, StoreTo σ₂ a b v σ₃ ∧ QF .next loc σ₃) (fun b σ₁ => XF b loc σ₁)) (fun b σ₁ => XF b loc σ₁)) (fun b σ₁ => XF b loc σ₁)) (hn : n ≤ 40)
    (hs : ∀ env, swapsWith value (some (.Subscript o ix p)) pos.line env = pure false := by intro _; rfl) : ExecW C f n q (.Assign [.Subscript o ix p] value pos) loc σ QF XF := by
  intro A fs L s ρ hA ok m l
  refine wpAny_Assign_Subscript ?_ (hs _)
  refine wpAny_mono (seq2 h hA ok m l fun u s₁ v σ₁ ρ₁ ru m₁ l₁ st₁ h₁ => ?_) (fun _ _ x => x) fun _ _ p => p.toF l
  refine wpAny_mono (seq2 h₁ hA ok m₁ l₁ fun u2 s₂ a σ₂ ρ₂ ru2 m₂ l₂ st₂ h₂ => ?_) (fun _ _ x => x) fun _ _ p => (p.lift st₁).toF l
  refine wpAny_mono (seq2 h₂ hA ok m₂ l₂ fun u3 s₃ b σ₃ ρ₃ ru3 m₃ l₃ st₃ zz => ?_) (fun _ _ x => x) fun _ _ p => (p.lift (st₁.trans st₂)).toF l
  obtain ⟨σ₄, g, hq⟩ := zz
  refine set_done g hn ok m₃ (ru2.mono st₃.tg) ru3 ((ru.mono st₂.tg).mono st₃.tg) fun s' m' st' => ?_
  have stall := ((st₁.trans st₂).trans st₃).trans st'
  exact ⟨.next, loc, _, ρ₃, .next, m', l.step stall fa_head (by simp), stall.mono (by simp), hq⟩
theorem x_aug {x : Str} {p pos : Pos} {op : Operator} {value : PySem.Expr} {mv : MV} {QF : MF → List (Str × MV) → List MO → Prop} {XF : MV → List (Str × MV) → List MO → Prop} (hx : (fdAt C.w.params f).scope.names.lookup x = some .local) (hl : loc.lookup x = some mv)
    (h : EvalW C f n q value loc σ (fun v σ₁ => OpW2 C n q (inplaceOp op) mv v σ₁ (fun r σ₂ => QF .next ((x, r) :: loc) σ₂) (fun b σ₁ => XF b loc σ₁)) (fun b σ₁ => XF b loc σ₁))
    (hb : mv.isBox = false := by rfl) (hk : (fdAt C.w.params f).scope.kind = .function := by kernel_rfl) : ExecW C f n q (.AugAssign (.Name x p) op value pos) loc σ QF XF := by
  intro A fs L s ρ hA ok m l
  obtain ⟨mp, ns, kk⟩ := id l
  obtain ⟨v, hv, r⟩ | ⟨_, _, rfl, _⟩ := kk x mv hl
  case inr => cases hb
  have e : envAt C.w.params f L = envOfC (fdAt C.w.params f).qualname (fdAt C.w.params f).scope L f (fdAt C.w.params f).code := envAt_eq _ _ _
  have ld : ∀ {R : Value → Shared → Prop} {E : Value → Shared → Prop}, R v s → wpAny (model C.prog C.w) A (loadName (envAt C.w.params f L) x) R E s := fun {R} {E} hR => by
    rw [e]; exact wpAny_loadName_local hk hx ns hv hR
  refine wpAny_AugAssign_Name (ld ?_)
  refine wpAny_mono (seq2 h hA ok m l fun u s₁ a σ₁ ρ₁ ru m₁ l₁ st₁ h₁ => ?_) (fun _ _ x => x) fun _ _ p => p.toF l
  refine wpAny_mono (h₁ A _ s₁ ρ₁ v u hA ok m₁ (r.mono st₁.tg) ru) (fun c s₂ zz => ?_) fun _ _ p => (p.lift st₁).toF l
  obtain ⟨mr, σ₂, ρ₂, rc, m₂, st₂, hq⟩ := zz
  exact stored_name hx hk m₂ (l₁.step st₂ fa_head (by simp)) rc fun s₃ m₃ l₃ st₃ => ⟨.next, _, σ₂, ρ₂, .next, m₃, l₃, ((st₁.trans st₂).mono (by simp)).trans st₃, hq⟩
end

/-! MOps5 -/
section
variable {C : Cfg} {f : Addr} {n : Nat} {q : Bool} {loc : List (Str × MV)} {σ : List MO} {Q : MV → List MO → Prop} {X : MV → List MO → Prop} {i j : Nat} {xs ys : List MV} {a b d : MV}

theorem iadd_list {M : Model} {A : Around} {E : Value → Shared → Prop} {s : Shared} {u v : Value} {R : Value → Shared → Prop} (ha : s.TypeIs u "list") (hb : s.TypeIs v "list") (hc : wpAny M A (call (.builtin "list.__iadd__") [u, v]) R E s) : wpAny M A (inplaceOp .Add u v) R E s := by
  unfold inplaceOp
  refine wpAny_holding ?_
  have hfi : fillsInplaceSlot (.type "list") "add" (Operator.Add == .Add) = pure false := by
    unfold fillsInplaceSlot
    show (typeLookup (.type "list") (dunderI "add") >>= fun fi => pure (fi.isSome && !isSeqSlot fi)) = pure false
    rw [PySem.F.slot_list_iadd.lookup]; rfl
  have hsi : seqSlot? (.type "list") (dunderI "add") = pure (some (.builtin "list.__iadd__")) := PySem.seqSlot_of PySem.F.slot_list_iadd.lookup (by decide +kernel)
  refine wpAny_bind (wpAny_typeOf ha (wpAny_bind (wpAny_of_eq hfi ?_)))
  show wpAny M A (if false = true then _ else _) R E s
  rw [if_neg Bool.false_ne_true]
  refine wpAny_bind (wpAny_binaryOp1_none (nm := "add") ha hb PySem.noFill_list_add ?_)
  refine wpAny_bind (wpAny_of_eq hsi ?_)
  exact wpAny_bind (wpAny_rule hc)
theorem op_iadd_list (e1 : σ[i]? = some (.list xs)) (e2 : σ[j]? = some (.list ys)) (hz : xs.length + ys.length ≤ 1000000) (h : Q (.obj i) (σ.set i (.list (xs ++ ys)))) : OpW2 C n q (inplaceOp .Add) (.obj i) (.obj j) σ Q X := by
  intro A fs s ρ u v hA ok m r1 r2
  obtain ⟨ad, us, k, rfl, h1, h2, h3⟩ := obj_list m e1 r1
  obtain ⟨ad', us', k', rfl, h1', h2', h3'⟩ := obj_list m e2 r2
  have hl := h3.length
  have hl' := h3'.length
  refine iadd_list (show s.TypeIs (.ref ad) "list" from ⟨_, h2, rfl⟩) (show s.TypeIs (.ref ad') "list" from ⟨_, h2', rfl⟩) ?_
  refine call_meets PySem.F.slot_list_iadd (show s.TypeIs (.ref ad) "list" from ⟨_, h2, rfl⟩) PySem.F.entry_list_iadd (PySem.F.args_list_iadd_2 _ _) (PySem.AutoSeq1.list___iadd___list_list_0 ad us.toArray k ad' us'.toArray k' ?_ ?_ ?_) ⟨h2, h2', ?_⟩
  · intro hh
    simp only [Bool.and_eq_true, List.size_toArray] at hh
    have := hh.2
    unfold Builtin.List.listTooLong at this
    simp only [decide_eq_true_eq, sizeLine_eq] at this
    omega
  · rw [List.size_toArray, sizeLine_eq]; omega
  · rw [List.size_toArray, List.size_toArray, sizeLine_eq]; omega
  · obtain ⟨m', st⟩ := list_upd (d := s.drawn) (t := s.toks) m e1 h1 h2 (fun x => x ++ us'.toArray) (ws := us ++ us') (by simp) (h3.append h3') []
    exact ⟨.obj i, _, ρ, .obj (r := []) h1, m', st, h⟩

theorem putL_length (name : Str) (kh : Int) (key v : Value) : ∀ es : List DictEntry, (putL name kh key v es).length ≤ es.length + 1
  | [] => by simp [putL]
  | e :: r => by
    have ih := putL_length name kh key v r
    unfold putL
    split
    · simp
    · simp only [List.length_cons]; omega
/-- the store of an attribute of an own class's object, on the heap -/
theorem set_attr {A : Around} {E : Value → Shared → Prop} {s : Shared} {x dx c : Addr} {es : List DictEntry} {k : Nat} {name : Str} {v : Value} {R : Unit → Shared → Prop} (X : C.K.In s.heap) (h1 : s.heap.get? x = some (instObj c dx)) (h2 : s.heap.get? dx = some (dictOf es k))
    (hs : findIn C.K (.ref c) "__setattr__" = some (some (.builtin "object.__setattr__"))) (hp : plainOver C.K c = true) (ht : takerIn C.K c name = some none) (hh : hasDictIn C.K c = true) (hr : es.any (·.refKey) = false) (hz : es.length < 1000)
    (h : ∀ t t', R () { s with heap := s.heap.update dx (Obj.putName name (PyData.keyHash C.w.params name) (.str name t) v), toks := t' }) : wpAny (model C.prog C.w) A (setAttr (.ref x) name v) R E s := by
  obtain ⟨H, g, d, t, os⟩ := s
  refine set_plain X (inst_at h1 h2) hs (osa_open (s := ⟨H, g, d, t + 1, os⟩) X (inst_at h1 h2) hp ht fun b => ?_)
  obtain ⟨cd, hc, hd'⟩ := any_some hh
  refine wpAny_bind (wpAny_pure (wpAny_bind (wpAny_bind (wpAny_loadPart h1 (wpAny_bind (Looks.here (s := ⟨H, g, d, t + 1, os⟩) (looks_clsIn (h := H) X hc) ?_))))))
  rw [hd']
  refine wpAny_pure (a := some dx) (wpAny_bind (wpAny_pure (wpAny_bind ?_)))
  unfold nsSet
  refine wpAny_bind (wpAny_bind (wpAny_askSetting (wpAny_pure (wpAny_bind (wpAny_mkText (wpAny_bind (wpAny_loadPart h2 ?_)))))))
  dsimp only
  have cc : (!es.toArray.any (·.key.isStr name) && es.toArray.any (·.refKey)) = false := by
    have : es.toArray.any (fun x => x.refKey) = false := by simpa using hr
    rw [this, Bool.and_false]
  rw [aRefKeyMayBeTheName_at, cc]
  have hf : ∀ key : Value, (Obj.putName name (PyData.keyHash C.w.params name) key v (dictOf es k)).isFreed = false := fun key => by rw [putName_dict]; rfl
  have hlen := putL_length name (PyData.keyHash C.w.params name) (.str name (t + 1)) v es
  refine wpAny_updatePart h2 ?_
  have hg := Heap.get?_update_self (Obj.putName name (PyData.keyHash C.w.params name) (.str name (t + 1)) v) h2 (hf _)
  rw [putName_dict] at hg
  refine wpAny_bind (wpAny_lookBehind hg (pastItsLine_dict (by rw [List.size_toArray, sizeLine_eq]; omega)) ?_)
  exact wpAny_pure (h _ _)
def putF (x : Str) (m : MV) : List (Str × MV) → List (Str × MV)
  | [] => [(x, m)]
  | f :: r => if f.1 == x then (x, m) :: r else f :: putF x m r
theorem REs.put {P : Params} {h : Heap} {ρ : Adrs} {x : Str} {t : Tok} {v : Value} {m : MV} {es : List DictEntry} {fs : List (Str × MV)} (r : REs P h ρ es fs) (k : RV h ρ v m) : REs P h ρ (putL x (PyData.keyHash P x) (.str x t) v es) (putF x m fs) := by
  induction r with
  | nil => exact .cons k .nil
  | cons a r' ih =>
    rename_i y t' v' m' es' fs'
    unfold putL putF
    by_cases hxy : y = x
    · subst hxy
      rw [if_pos (by simp [Value.isStr]), if_pos (by simp)]
      exact .cons k r'
    · rw [if_neg (by simpa [Value.isStr] using hxy), if_neg (by simpa using hxy)]
      exact .cons a ih
/-- what a class must be like for a plain store of an attribute -/
def storeCls (K : Frag) (c : Addr) (x : Str) : Bool := (findIn K (.ref c) "__setattr__" == some (some (.builtin "object.__setattr__"))) && plainOver K c && (takerIn K c x == some none) && hasDictIn K c
theorem x_setattr {o value : PySem.Expr} {x : Str} {p pos : Pos} {QF : MF → List (Str × MV) → List MO → Prop} {XF : MV → List (Str × MV) → List MO → Prop}
    (h : EvalW C f n q value loc σ (fun v σ₀ => EvalW C f n q o loc σ₀ (fun a σ₁ => ∃ i c fs, a = .obj i ∧ σ₁[i]? = some (.inst c fs) ∧ storeCls C.K c x = true ∧ fs.length < 1000 ∧ QF .next loc (σ₁.set i (.inst c (putF x v fs)))) (fun b σ₁ => XF b loc σ₁)) (fun b σ₁ => XF b loc σ₁))
    (hs : ∀ env, swapsWith value (some (.Attribute o x p)) pos.line env = pure false := by intro _; rfl) : ExecW C f n q (.Assign [.Attribute o x p] value pos) loc σ QF XF := by
  intro A fs L s ρ hA ok m l
  refine plainObj_wpAny_Assign_Attribute ?_ (hs _)
  refine wpAny_mono (seq2 h hA ok m l fun u s₁ v σ₁ ρ₁ ru m₁ l₁ st₁ h₁ => ?_) (fun _ _ x => x) fun _ _ p => p.toF l
  refine wpAny_mono (seq2 h₁ hA ok m₁ l₁ fun u2 s₂ a σ₂ ρ₂ ru2 m₂ l₂ st₂ zz => ?_) (fun _ _ x => x) fun _ _ p => (p.lift st₁).toF l
  obtain ⟨i, c, flds, e1, e2, e3, e4, hq⟩ := zz
  subst e1
  obtain ⟨as, ha, ro⟩ := m₂.get e2
  cases ru2 with
  | obj e =>
    rw [ha] at e; cases e
    cases ro with
    | inst h1 h2 res =>
      rename_i a d es k
      unfold storeCls at e3
      simp only [Bool.and_eq_true, beq_iff_eq] at e3
      obtain ⟨⟨⟨p1, p2⟩, p3⟩, p4⟩ := e3
      refine set_attr (C.kin.keeps m₂.stay) h1 h2 p1 p2 p3 p4 res.refs (by rw [res.length]; exact e4) fun t t' => ?_
      have hs := Heap.SameBut.update s₂.heap d (Obj.putName x (PyData.keyHash C.w.params x) (.str x t) u)
      have hf : (Obj.putName x (PyData.keyHash C.w.params x) (.str x t) u (dictOf es k)).isFreed = false := by rw [putName_dict]; rfl
      have hg := Heap.get?_update_self (Obj.putName x (PyData.keyHash C.w.params x) (.str x t) u) h2 hf
      rw [putName_dict] at hg
      have had : a ≠ d := by
        have := (m₂.nodup.sublist (List.sublist_flatten_of_mem (List.mem_of_getElem? ha)))
        simpa using this
      have hga : (s₂.heap.update d (Obj.putName x (PyData.keyHash C.w.params x) (.str x t) u)).get? a = some (instObj c d) := (hs.2 a had).trans h1
      obtain ⟨m', st⟩ := m₂.upd (d := s₂.drawn) (t := t') (mo' := .inst c (putF x v flds)) ha e2 (by simp) (fun b o hb z => (hs.2 b (fun q => hb (by simp [q]))).trans z)
        (fun b hb => by
          rcases List.mem_cons.mp hb with e | hb
          · rw [e]; exact ⟨_, hga⟩
          · rw [List.mem_singleton.mp hb]; exact ⟨_, hg⟩) (fun tg => .inst hga hg ((res.mono tg).put ((ru.mono st₂.tg).mono tg))) rfl rfl []
      have stall := (st₁.trans st₂).trans st
      exact ⟨.next, loc, _, ρ₂, .next, m', l.step stall fa_head (by simp), stall.mono (by simp), hq⟩

/-- a new object of an own class -/
theorem codeW_cls {c g : Addr} {args : List MV} (hm : makesIn C.K c = true) (hi : findIn C.K (.ref c) "__init__" = some (some (.ref g))) (hf : typeIn C.K (.ref g) = some (.type "function"))
    (h : CodeW C (n + 1) q (.ref g) (.obj σ.length :: args) (σ ++ [.inst c []]) (fun mv σ' => mv = .none ∧ Q (.obj σ.length) σ') X) : CodeW C n q (.ref c) args σ Q X := by
  intro A fs s ρ vs hA ok m rs
  obtain ⟨H, g', d, t, os⟩ := s
  refine make_core (makes_of (C.kin.keeps m.stay) hm) (looks_findIn (C.kin.keeps m.stay) hi) (fun self => bind_fn (C.kin.keeps m.stay) self hf) (.inl rfl) ?_
  have k1 : ∀ b o, H.get? b = some o → ((H.push emptyDict).push (instObj c H.objs.size)).get? b = some o := fun b o e => Heap.get?_push_of_some _ (Heap.get?_push_of_some _ e)
  have sz : (H.push emptyDict).objs.size = H.objs.size + 1 := Heap.size_push _ _
  have gd : ((H.push emptyDict).push (instObj c H.objs.size)).get? H.objs.size = some (dictOf [] 0) := Heap.get?_push_of_some _ (Heap.get?_push_size _ rfl)
  have gx : ((H.push emptyDict).push (instObj c H.objs.size)).get? (H.objs.size + 1) = some (instObj c H.objs.size) := by
    have := Heap.get?_push_size (H.push emptyDict) (o := instObj c H.objs.size) rfl
    rwa [sz] at this
  have n1 : H.get? (H.objs.size + 1) = none := by
    cases e : H.get? (H.objs.size + 1) with
    | none => rfl
    | some o => exact absurd (Heap.lt_size e) (Nat.not_lt.mpr (Nat.le_succ _))
  have big := m.big (h' := H) (fun _ _ e => e)
  obtain ⟨m', st⟩ := m.new (d := d) (t := t) (as := [H.objs.size + 1, H.objs.size]) (mo := .inst c []) k1
    (fun b hb => by
      rcases List.mem_cons.mp hb with e | hb
      · rw [e]; exact ⟨n1, _, gx⟩
      · rw [List.mem_singleton.mp hb]; exact ⟨fresh_size H, _, gd⟩)
    (by rw [List.nodup_cons]; exact ⟨fun hm => absurd (List.mem_singleton.mp hm) (Nat.succ_ne_self _), by simp⟩)
    (by
      intro hm
      rcases List.mem_cons.mp hm with e | hm
      · have : (1 : Nat) = H.objs.size + 1 := e
        omega
      · have : (1 : Nat) = H.objs.size := List.mem_singleton.mp hm
        omega) (fun tg => .inst gx gd .nil) rfl rfl []
  have hx : (ρ ++ [[H.objs.size + 1, H.objs.size]])[σ.length]? = some [H.objs.size + 1, H.objs.size] := by rw [← m.len]; simp
  refine codeAny_mono (h (A.under (.builtin "type.__call__" ⟨.ref c :: vs, []⟩)) fs _ _ (.ref (H.objs.size + 1) :: vs) ?_ ⟨ok.handled, ?_, ?_⟩ m' (.cons (.obj hx) (rs.mono st.tg))) fun r s' hr => ?_
  · show pushEnvs (Code.envs (.builtin "type.__call__" ⟨.ref c :: vs, []⟩)) A.frames = _
    rw [show Code.envs (.builtin "type.__call__" ⟨.ref c :: vs, []⟩) = [] from rfl]; exact hA
  · rw [depth_under_make]; have := ok.depth; omega
  · show A.units + _ ≤ _
    have hu : (Code.builtin "type.__call__" ⟨.ref c :: vs, []⟩).cUnits ≤ 10 := by
      show 1 + 3 * Code.frames (.builtin "type.__call__" ⟨.ref c :: vs, []⟩) ≤ 10
      rw [show Code.frames (.builtin "type.__call__" ⟨.ref c :: vs, []⟩) = 0 from rfl]; decide
    have := ok.units; omega
  · match r with
    | .ok (.ret v) =>
      obtain ⟨mv, σ', ρ', rv, m2, st2, e, hq⟩ := hr
      subst e
      cases rv
      exact ⟨rfl, .obj σ.length, σ', ρ', .obj (prefix_get st2.tg.grow hx), m2, st.trans st2, hq⟩
    | .ok .next | .ok .brk | .ok .cont => exact hr.elim
    | .error e => exact PostX.lift st hr
theorem ev_dict_s {pos : Pos} (h : Q (.obj σ.length) (σ ++ [.sdict []])) : EvalW C f n q (.Dict [] [] pos) loc σ Q X := by
  intro A fs L s ρ hA ok m l
  refine wpAny_Dict_empty ?_
  have k : ∀ b o, s.heap.get? b = some o → (s.heap.push { cls := .type "dict", data := .dict #[] }).get? b = some o := fun b o e => Heap.get?_push_of_some _ e
  obtain ⟨m', st⟩ := m.new (d := s.drawn) (t := s.toks) (as := [s.heap.objs.size]) (mo := .sdict []) k (fun b hb => by rw [List.mem_singleton.mp hb]; exact ⟨fresh_size _, _, Heap.get?_push_size _ rfl⟩) (by simp) (by simpa using m.sys_size)
    (fun tg => .sdict (Heap.DictOf.new s.heap) .nil) rfl rfl []
  exact ⟨_, _, _, .obj (r := []) (by rw [← m.len]; simp), m', st, h⟩
theorem ev_dict_p {pos : Pos} (h : Q (.obj σ.length) (σ ++ [.pdict []])) : EvalW C f n q (.Dict [] [] pos) loc σ Q X := by
  intro A fs L s ρ hA ok m l
  refine wpAny_Dict_empty ?_
  have k : ∀ b o, s.heap.get? b = some o → (s.heap.push { cls := .type "dict", data := .dict #[] }).get? b = some o := fun b o e => Heap.get?_push_of_some _ e
  obtain ⟨m', st⟩ := m.new (d := s.drawn) (t := s.toks) (as := [s.heap.objs.size]) (mo := .pdict []) k (fun b hb => by rw [List.mem_singleton.mp hb]; exact ⟨fresh_size _, _, Heap.get?_push_size _ rfl⟩) (by simp) (by simpa using m.sys_size)
    (fun tg => .pdict (xs := []) ⟨_, #[], 0, Heap.get?_push_size _ rfl, ⟨rfl, rfl, rfl⟩, rfl, rfl, (fun _ h => by cases h), .nil⟩ .nil) rfl rfl []
  exact ⟨_, _, _, .obj (r := []) (by rw [← m.len]; simp), m', st, h⟩
end

/-! MLoop -/
/-- an object that is no tuple -/
def NT (o : Obj) : Prop := o.cls ≠ .type "tuple" ∨ ∀ its n, o.data ≠ .seq its n
theorem tg_touch {h h' : Heap} {ρ : Adrs} {I : Addr} {o : Obj} (ho : h.get? I = some o) (hc : NT o) (k : Heap.ExtBut I h h') : TG h h' ρ ρ :=
  ⟨List.prefix_refl _, fun a its ⟨o', q, c, n, z⟩ => ⟨o', k a o' (fun e => by subst e; rw [ho] at q; cases q; exact hc.elim (fun hc => hc c) fun hd => hd _ _ z) q, c, n, z⟩⟩
/-- one object that is not of the memory changes -/
theorem Mem.touch {C : Cfg} {fs : List Env} {s : Shared} {ρ : Adrs} {σ : List MO} {h' : Heap} {d : Drawn} {t : Nat} {I : Addr} {o : Obj} (m : Mem C fs s ρ σ) (ho : s.heap.get? I = some o) (hc : NT o) (hI : I ∉ ρ.flatten) (hb : C.base.get? I = none) (hf : I ∉ fa fs)
    (k : Heap.ExtBut I s.heap h') : Mem C fs ⟨h', s.gens, d, t, s.os⟩ ρ σ := by
  have tg := tg_touch (ρ := ρ) ho hc k
  refine ⟨fun b o q => k b o (fun e => by rw [e, hb] at q; cases q) (m.stay b o q), m.gens, m.os, ?_, ?_, m.nodup, fun b hb => ⟨(m.off b hb).1, (m.off b hb).2.1, let ⟨o, q⟩ := (m.off b hb).2.2; ⟨o, k b o (fun e => hI (e ▸ hb)) q⟩⟩, m.nosys⟩
  · exact funFrames_slots fs (fun b o hb q nf => ⟨o, k b o (fun e => hf (e ▸ hb)) q, nf⟩) m.frames
  · refine .of_get m.len fun i as mo q q' => ?_
    obtain ⟨as', q₂, r⟩ := m.get q'
    rw [q] at q₂; cases q₂
    exact r.mono tg fun b hb o z => k b o (fun e => hI (e ▸ mem_flat q hb)) z
theorem Step.touch {fs : List Env} {X : List Addr} {h₀ h h' : Heap} {ρ₀ ρ : Adrs} {I : Addr} {o : Obj} (st : Step fs X h₀ h ρ₀ ρ) (ho : h.get? I = some o) (hc : NT o) (h0 : h₀.get? I = none) (k : Heap.ExtBut I h h') : Step fs X h₀ h' ρ₀ ρ where
  tg := st.tg.trans (tg_touch ho hc k)
  new := st.new
  keep := fun b o e n f => k b o (fun z => by rw [z, h0] at e; cases e) (st.keep b o e n f)
  slot := fun b o e f n => by
    obtain ⟨sl, e₁⟩ := st.slot b o e f n
    exact ⟨sl, k b _ (fun z => by rw [z, h0] at e; cases e) e₁⟩
  alive := fun b o e => by
    obtain ⟨o', e'⟩ := st.alive b o e
    exact ⟨o', k b o' (fun z => by rw [z, h0] at e; cases e) e'⟩
theorem Loc.touch {h h' : Heap} {ρ : Adrs} {L I : Addr} {loc : List (Str × MV)} {o : Obj} (l : Loc h ρ L loc) (ho : h.get? I = some o) (hc : NT o) (hL : L ≠ I) (k : Heap.ExtBut I h h') : Loc h' ρ L loc := by
  obtain ⟨m, n, q⟩ := l
  exact ⟨m, ns_slots n fun o e => ⟨o.slots, k L o hL e⟩, fun x mv e => (q x mv e).imp (fun ⟨v, hv, r⟩ => ⟨v, hv, r.mono (tg_touch ho hc k)⟩) fun z => z⟩

theorem fresh_none {h h' : Heap} {I : Addr} (k : ∀ b o, h.get? b = some o → ∃ o', h'.get? b = some o') (fr : h'.get? I = none) : h.get? I = none := by
  cases e : h.get? I with
  | none => rfl
  | some o => obtain ⟨o', e'⟩ := k I o e; rw [fr] at e'; cases e'
theorem Mem.none_of {C : Cfg} {fs : List Env} {X : List Addr} {s s₁ : Shared} {ρ ρ₁ : Adrs} {σ : List MO} {I : Addr} (_m : Mem C fs s₁ ρ₁ σ) (st : Step fs X s.heap s₁.heap ρ ρ₁) (fr : s₁.heap.get? I = none) : s.heap.get? I = none := fresh_none st.alive fr
theorem Mem.not_flat {C : Cfg} {fs : List Env} {s : Shared} {ρ : Adrs} {σ : List MO} {I : Addr} (m : Mem C fs s ρ σ) (fr : s.heap.get? I = none) : I ∉ ρ.flatten := fun hm => by obtain ⟨o, e⟩ := (m.off I hm).2.2; rw [fr] at e; cases e
theorem Mem.not_base {C : Cfg} {fs : List Env} {s : Shared} {ρ : Adrs} {σ : List MO} {I : Addr} (m : Mem C fs s ρ σ) (fr : s.heap.get? I = none) : C.base.get? I = none := fresh_none (fun b o e => ⟨o, m.stay b o e⟩) fr
theorem Mem.not_frame {C : Cfg} {fs : List Env} {s : Shared} {ρ : Adrs} {σ : List MO} {I : Addr} (m : Mem C fs s ρ σ) (fr : s.heap.get? I = none) : I ∉ fa fs := fun hm => by obtain ⟨o, e⟩ := m.frame_there hm; rw [fr] at e; cases e

/-- an iterator at I over the values xs -/
structure Iter (C : Cfg) (A : Around) (fs : List Env) (I : Addr) (xs : List MV) (ρ₀ : Adrs) (Src : List MO → Prop) (St : Nat → Heap → Prop) : Prop where
  obj : ∀ i h, St i h → ∃ o, h.get? I = some o ∧ NT o
  frame : ∀ i h h' ρ ρ', St i h → TG h h' ρ ρ' → (∀ o, h.get? I = some o → h'.get? I = some o) → St i h'
  next : ∀ (i : Nat) (s : Shared) (ρ : Adrs) (σ : List MO) (R : Option Value → Shared → Prop) (E : Value → Shared → Prop), Mem C fs s ρ σ → ρ₀ <+: ρ → Src σ → St i s.heap → i ≤ xs.length →
    (∀ v mv h' tk, xs[i]? = some mv → RV h' ρ v mv → St (i + 1) h' → Heap.ExtBut I s.heap h' → R (some v) { s with heap := h', toks := tk }) →
    (i = xs.length → ∀ h' tk, Heap.ExtBut I s.heap h' → R none { s with heap := h', toks := tk }) → wpAny (model C.prog C.w) A (pyNext (.ref I)) R E s

section
variable {C : Cfg} {f : Addr} {n : Nat} {loc : List (Str × MV)} {σ : List MO} {QF : MF → List (Str × MV) → List MO → Prop} {XF : MV → List (Str × MV) → List MO → Prop}

theorem for_core {A : Around} {fs : List Env} {L I : Addr} {s₀ s : Shared} {ρ₀ ρ : Adrs} {x : Str} {px : Pos} {body : List Stmt} {xs : List MV} {Src : List MO → Prop} {St : Nat → Heap → Prop}
    (it : Iter C A (envAt C.w.params f L :: fs) I xs ρ Src St) (hx : (fdAt C.w.params f).scope.names.lookup x = some .local) (hk : (fdAt C.w.params f).scope.kind = .function)
    (hA : A.frames = some (envAt C.w.params f L :: fs)) (ok : OkA A true n) (m : Mem C (envAt C.w.params f L :: fs) s ρ σ) (l : Loc s.heap ρ L loc) (st : Step (envAt C.w.params f L :: fs) [L] s₀.heap s.heap ρ₀ ρ)
    (i0 : s₀.heap.get? I = none) (iρ : I ∉ ρ.flatten) (ib : C.base.get? I = none) (ifr : I ∉ fa (envAt C.w.params f L :: fs)) (s0 : St 0 s.heap)
    (J : Nat → List (Str × MV) → List MO → Prop) (hJ : J 0 loc σ)
    (turn : ∀ i v loc σ, J i loc σ → xs[i]? = some v → ExecsW C f n true body ((x, v) :: loc) σ (fun mf loc' σ' => match mf with | .next | .cont => J (i + 1) loc' σ' | .brk => QF .next loc' σ' | .ret r => QF (.ret r) loc' σ') (fun _ _ _ => False))
    (src : ∀ i loc σ, J i loc σ → Src σ) (fin : ∀ loc σ, J xs.length loc σ → QF .next loc σ) :
    codeAny (model C.prog C.w) A (.forLoop (.Name x px) (.ref I) body [] (envAt C.w.params f L)) (fun r s' => match r with | .ok fl => PostF C (envAt C.w.params f L :: fs) L s₀ ρ₀ QF fl s' | .error _ => False) s := by
  have hLI : L ≠ I := fun e => ifr (e ▸ fa_head)
  refine codeAny_forLoop (fun r s' => ∃ i loc' σ' ρ', i + r = xs.length ∧ Mem C (envAt C.w.params f L :: fs) s' ρ' σ' ∧ Loc s'.heap ρ' L loc' ∧ Step (envAt C.w.params f L :: fs) [L] s₀.heap s'.heap ρ₀ ρ' ∧ ρ <+: ρ' ∧ I ∉ ρ'.flatten ∧ St i s'.heap ∧ J i loc' σ')
    ?_ xs.length ⟨0, loc, σ, ρ, by simp, m, l, st, List.prefix_refl _, iρ, s0, hJ⟩
  rintro r s₁ ⟨i, loc₁, σ₁, ρ₁, hir, m₁, l₁, st₁, pre, iρ₁, sti, j⟩
  obtain ⟨o, ho, hc⟩ := it.obj _ _ sti
  refine it.next i s₁ ρ₁ σ₁ _ _ m₁ pre (src _ _ _ j) sti (by omega) (fun v mv h' tk hv rv sti' k => ?_) fun hi h' tk k => ?_
  · have m₂ := m₁.touch (d := s₁.drawn) (t := tk) ho hc iρ₁ ib ifr k
    have l₂ := l₁.touch ho hc hLI k
    have st₂ := st₁.touch ho hc i0 k
    refine wpAny_assign_Name (stored_name (s := { s₁ with heap := h', toks := tk }) hx hk m₂ l₂ rv fun s₃ m₃ l₃ st₃ => ?_)
    have kI : ∀ o, h'.get? I = some o → s₃.heap.get? I = some o := fun o e => st₃.keep I o e iρ₁ ifr
    refine wpAny_mono (turn i mv loc₁ σ₁ j hv A fs L s₃ ρ₁ hA ok m₃ l₃) (fun fl s₄ zz => ?_) fun e s₄ zz => by obtain ⟨_, _, _, _, _, _, _, _, hx⟩ := zz; exact hx.elim
    obtain ⟨mf, loc₄, σ₄, ρ₄, rf, m₄, l₄, st₄, hq⟩ := zz
    have sall := (st₂.trans st₃).trans st₄
    obtain ⟨o', ho', _⟩ := it.obj _ _ sti'
    have more : J (i + 1) loc₄ σ₄ → ∃ r', r' < r ∧ ∃ i loc' σ' ρ', i + r' = xs.length ∧ Mem C (envAt C.w.params f L :: fs) s₄ ρ' σ' ∧ Loc s₄.heap ρ' L loc' ∧ Step (envAt C.w.params f L :: fs) [L] s₀.heap s₄.heap ρ₀ ρ' ∧ ρ <+: ρ' ∧ I ∉ ρ'.flatten ∧ St i s₄.heap ∧ J i loc' σ' := fun hJ => by
      have hlt : i < xs.length := (List.getElem?_eq_some_iff.mp hv).1
      refine ⟨r - 1, by omega, i + 1, loc₄, σ₄, ρ₄, by omega, m₄, l₄, sall, pre.trans st₄.tg.grow, fun hm => ?_, it.frame _ _ _ _ _ sti' (st₃.tg.trans st₄.tg) (fun o e => st₄.keep I o (kI o e) iρ₁ ifr), hJ⟩
      rcases st₄.new I hm with z | z
      · exact iρ₁ z
      · rw [kI o' ho'] at z; cases z
    cases rf with
    | next => exact more hq
    | cont => exact more hq
    | brk => exact ⟨.next, _, _, _, .next, m₄, l₄, sall, hq⟩
    | ret r => exact ⟨_, _, _, _, .ret r, m₄, l₄, sall, hq⟩
  · have m₂ := m₁.touch (d := s₁.drawn) (t := tk) ho hc iρ₁ ib ifr k
    exact wpAny_execs_nil ⟨.next, loc₁, σ₁, ρ₁, .next, m₂, l₁.touch ho hc hLI k, st₁.touch ho hc i0 k, fin _ _ (hi ▸ j)⟩

theorem Iter.range {A : Around} {fs : List Env} {I : Addr} {ρ : Adrs} (hh : A.handled = none) (k : Nat) : Iter C A fs I ((List.range k).map fun (i : Nat) => MV.int i) ρ (fun _ => True) (fun i h => IsRangeIter h I (i : Nat) ((k : Int) - (i : Nat)) 1) where
  obj := fun i h x => ⟨_, x, .inl (by simp)⟩
  frame := fun i h h' ρ ρ' x _ kk => kk _ x
  next := fun i s ρ σ R E m _ _ x hi hs hf => by
    rw [List.length_map, List.length_range] at hi hf
    by_cases hlt : i < k
    · refine wpAny_pyNext_range_item x (by omega) fun h' x' sb => ?_
      refine hs _ (.int i) h' _ (by simp [hlt]) (.int _ _) ?_ sb.extBut
      have e1 : ((i : Nat) : Int) + 1 = ((i + 1 : Nat) : Int) := by omega
      have e2 : (k : Int) - (i : Nat) - 1 = (k : Int) - ((i + 1 : Nat) : Int) := by omega
      rw [e1, e2] at x'
      exact x'
    · exact wpAny_pyNext_range_end hh x (by omega) fun h' e => hf (by omega) h' s.toks e
theorem Iter.list {A : Around} {fs : List Env} {I ld : Addr} {j : Nat} {xs : List MV} {ρ : Adrs} (hh : A.handled = none) (hj : ρ[j]? = some [ld]) : Iter C A fs I xs ρ (fun σ => σ[j]? = some (.list xs)) (fun i h => h.IsListIter I ld i) where
  obj := fun i h ⟨o, ho, hc, _⟩ => ⟨o, ho, .inl (by rw [hc]; decide)⟩
  frame := fun i h h' ρ ρ' ⟨o, ho, x⟩ _ kk => ⟨o, kk _ ho, x⟩
  next := fun i s ρ' σ R E m pre e x hi hs hf => by
    obtain ⟨as, ha, ro⟩ := m.get e
    rw [prefix_get pre hj] at ha; cases ha
    cases ro with
    | list lk rs =>
      obtain ⟨kk, hk⟩ := lk
      rename_i vs
      have hl : s.heap.IsList ld vs.toArray := ⟨_, hk, rfl, _, rfl⟩
      obtain ⟨o, ho, hc, hd⟩ := id x
      by_cases hlt : i < xs.length
      · obtain ⟨v, hv, rv⟩ := rs.get (List.getElem?_eq_getElem hlt)
        refine wpAny_pyNext_list_item x hl (x := v) (by simpa using hv) fun h' x' sb => ?_
        exact hs v _ h' s.toks (List.getElem?_eq_getElem hlt) (rv.mono (tg_touch ho (.inl (by rw [hc]; decide)) sb.extBut)) x' sb.extBut
      · refine wpAny_pyNext_list_end hh x hl ?_ fun h' e => hf (by omega) h' s.toks e
        have := rs.length
        simp; omega
theorem Iter.tuple {A : Around} {fs : List Env} {I t : Addr} {xs : List MV} {vs : List Value} {ρ : Adrs} (hh : A.handled = none) : Iter C A fs I xs ρ (fun _ => True) (fun i h => h.IsTupleIter I t i ∧ IsTup h t vs.toArray ∧ RVs h ρ vs xs) where
  obj := fun i h ⟨⟨o, ho, hc, _⟩, _⟩ => ⟨o, ho, .inl (by rw [hc]; decide)⟩
  frame := fun i h h' ρ₁ ρ₂ ⟨⟨o, ho, x⟩, y, z⟩ tg kk => ⟨⟨o, kk _ ho, x⟩, tg.tup _ _ y, z.mono ⟨List.prefix_refl _, tg.tup⟩⟩
  next := fun i s ρ' σ R E m pre _ x hi hs hf => by
    obtain ⟨hit, htt, rs⟩ := x
    obtain ⟨o, ho, hc, hd⟩ := id hit
    have htup : s.heap.IsTuple t vs.toArray := htt
    by_cases hlt : i < xs.length
    · obtain ⟨v, hv, rv⟩ := rs.get (List.getElem?_eq_getElem hlt)
      refine wpAny_pyNext_tuple_item hit htup (x := v) (by simpa using hv) fun h' x' sb => ?_
      have tg : ∀ ρ : Adrs, TG s.heap h' ρ ρ := fun ρ => tg_touch ho (.inl (by rw [hc]; decide)) sb.extBut
      exact hs v _ h' s.toks (List.getElem?_eq_getElem hlt) ((rv.mono ⟨pre, fun _ _ z => z⟩).mono (tg _)) ⟨x', (tg ρ).tup _ _ htt, rs.mono (tg ρ)⟩ sb.extBut
    · refine wpAny_pyNext_tuple_end hh hit htup ?_ fun h' e => hf (by omega) h' s.toks e
      have := rs.length
      simp; omega

theorem push_keeps (h : Heap) (o : Obj) : ∀ b o', h.get? b = some o' → (h.push o).get? b = some o' := fun _ _ e => Heap.get?_push_of_some _ e

/-- for x in a list or a tuple -/
theorem x_for_list {x : Str} {px pos : Pos} {e : PySem.Expr} {body : List Stmt} (hx : (fdAt C.w.params f).scope.names.lookup x = some .local)
    (h : EvalW C f n true e loc σ (fun v σ₁ => ∃ (j : Nat) (xs : List MV) (J : Nat → List (Str × MV) → List MO → Prop), v = .obj j ∧ σ₁[j]? = some (.list xs) ∧ J 0 loc σ₁ ∧
      (∀ i v loc σ, J i loc σ → xs[i]? = some v → ExecsW C f n true body ((x, v) :: loc) σ (fun mf loc' σ' => match mf with | .next | .cont => J (i + 1) loc' σ' | .brk => QF .next loc' σ' | .ret r => QF (.ret r) loc' σ') (fun _ _ _ => False)) ∧
      (∀ i loc σ, J i loc σ → σ[j]? = some (.list xs)) ∧ (∀ loc σ, J xs.length loc σ → QF .next loc σ)) (fun b σ₁ => XF b loc σ₁))
    (hs : ∀ env x, foldedSetIterable e env x = pure x := by intro _ _; rfl) (hk : (fdAt C.w.params f).scope.kind = .function := by kernel_rfl) :
    ExecW C f n true (.For (.Name x px) e body [] pos) loc σ QF XF := by
  intro A fs L s ρ hA ok m l
  refine wpAny_For (wpAny_mono (seq2 h hA ok m l fun v s₁ mv σ₁ ρ₁ r m₁ l₁ st₁ zz => ?_) (fun _ _ x => x) fun _ _ p => p.toF l) (hs _)
  obtain ⟨j, xs, J, e1, e2, hJ, turn, src, fin⟩ := zz
  subst e1
  obtain ⟨ad, us, k, rfl, h1, h2, h3⟩ := obj_list m₁ e2 r
  refine wpAny_pyIter_list (items := us.toArray) ⟨_, h2, rfl, _, rfl⟩ ?_
  have kp := push_keeps s₁.heap { cls := .type "list_iterator", data := .fields #[.ref ad, .int 0 0] }
  have fr := fresh_size s₁.heap
  have m₂ := m₁.keeps (d := s₁.drawn) (t := s₁.toks) kp rfl rfl
  refine codeAny_mono (for_core (s₀ := s) (ρ₀ := ρ) (s := { s₁ with heap := s₁.heap.push _ }) (QF := QF) (Iter.list (ok.handled rfl) h1) hx hk hA ok m₂ (l₁.keeps kp) ((st₁.mono (by simp)).trans (Step.keeps kp _ _ _)) (m₁.none_of st₁ fr) (m₁.not_flat fr) (m₁.not_base fr) (m₁.not_frame fr) ⟨_, Heap.get?_push_size _ rfl, rfl, rfl⟩ J hJ turn src fin) fun r s' hr => ?_
  match r with
  | .ok fl => exact hr
  | .error _ => exact hr.elim
theorem x_for_tuple {x : Str} {px pos : Pos} {e : PySem.Expr} {body : List Stmt} (hx : (fdAt C.w.params f).scope.names.lookup x = some .local)
    (h : EvalW C f n true e loc σ (fun v σ₁ => ∃ (xs : List MV) (J : Nat → List (Str × MV) → List MO → Prop), v = .tup xs ∧ J 0 loc σ₁ ∧
      (∀ i v loc σ, J i loc σ → xs[i]? = some v → ExecsW C f n true body ((x, v) :: loc) σ (fun mf loc' σ' => match mf with | .next | .cont => J (i + 1) loc' σ' | .brk => QF .next loc' σ' | .ret r => QF (.ret r) loc' σ') (fun _ _ _ => False)) ∧
      (∀ loc σ, J xs.length loc σ → QF .next loc σ)) (fun b σ₁ => XF b loc σ₁))
    (hs : ∀ env x, foldedSetIterable e env x = pure x := by intro _ _; rfl) (hk : (fdAt C.w.params f).scope.kind = .function := by kernel_rfl) :
    ExecW C f n true (.For (.Name x px) e body [] pos) loc σ QF XF := by
  intro A fs L s ρ hA ok m l
  refine wpAny_For (wpAny_mono (seq2 h hA ok m l fun v s₁ mv σ₁ ρ₁ r m₁ l₁ st₁ zz => ?_) (fun _ _ x => x) fun _ _ p => p.toF l) (hs _)
  obtain ⟨xs, J, e1, hJ, turn, fin⟩ := zz
  subst e1
  cases r with
  | tup it rs =>
    rename_i t us
    refine wpAny_pyIter_tuple (items := us.toArray) it ?_
    have kp := push_keeps s₁.heap { cls := .type "tuple_iterator", data := .fields #[.ref t, .int 0 0] }
    have fr := fresh_size s₁.heap
    have m₂ := m₁.keeps (d := s₁.drawn) (t := s₁.toks) kp rfl rfl
    have tg : TG s₁.heap (s₁.heap.push { cls := .type "tuple_iterator", data := .fields #[.ref t, .int 0 0] }) ρ₁ ρ₁ := tg_keeps kp _
    refine codeAny_mono (for_core (s₀ := s) (ρ₀ := ρ) (s := { s₁ with heap := s₁.heap.push _ }) (QF := QF) (Iter.tuple (ok.handled rfl)) hx hk hA ok m₂ (l₁.keeps kp) ((st₁.mono (by simp)).trans (Step.keeps kp _ _ _)) (m₁.none_of st₁ fr) (m₁.not_flat fr) (m₁.not_base fr) (m₁.not_frame fr) ⟨⟨_, Heap.get?_push_size _ rfl, rfl, rfl⟩, tg.tup _ _ it, rs.mono tg⟩ J hJ turn (fun _ _ _ _ => trivial) fin) fun r s' hr => ?_
    match r with
    | .ok fl => exact hr
    | .error _ => exact hr.elim
end

/-! MLoop2 -/
section
variable {C : Cfg} {f : Addr} {n : Nat} {q : Bool} {loc : List (Str × MV)} {σ : List MO} {QF : MF → List (Str × MV) → List MO → Prop} {XF : MV → List (Str × MV) → List MO → Prop}

theorem range_got {A : Around} {fs : List Env} {L : Addr} {s : Shared} {ρ : Adrs} {fe e : PySem.Expr} {pos : Pos} {QQ : Nat → List MO → Prop} {X : MV → List MO → Prop} {R : Value → Shared → Prop}
    (h : EvalW C f n q fe loc σ (fun fv σ₁ => fv = .raw (.type "range") ∧ ArgsW C f n q [e] loc σ₁ (fun ms σ₂ => ∃ k : Nat, ms = [.int k] ∧ k < 2 ^ 62 ∧ QQ k σ₂) X) X)
    (hA : A.frames = some (envAt C.w.params f L :: fs)) (ok : OkA A q n) (m : Mem C (envAt C.w.params f L :: fs) s ρ σ) (l : Loc s.heap ρ L loc)
    (k : ∀ (j : Nat) I h' t s₁ σ₁ ρ₁, (∀ b o, s₁.heap.get? b = some o → h'.get? b = some o) → s₁.heap.get? I = none → IsRangeIter h' I (0 : Nat) ((j : Int) - (0 : Nat)) 1 → Mem C (envAt C.w.params f L :: fs) s₁ ρ₁ σ₁ → Step (envAt C.w.params f L :: fs) [] s.heap s₁.heap ρ ρ₁ → QQ j σ₁ → R (.ref I) ⟨h', s₁.gens, s₁.drawn, t, s₁.os⟩)
    (hc : ∀ env, eval (.Call fe [e] [] pos) env = (do callWith pos (← eval fe env) [] (backTo pos (starEach [e] env)) (backToKw pos (keywordEach [] env))) := by intro _; rfl)
    (he : ∀ env, starEach [e] env = (false, eval e env) :: starEach [] env := by intro _; rfl) (hp : ∀ env, (backTo pos (starEach [] env)).any (·.1) = false := by intro _; rfl) :
    wpAny (model C.prog C.w) A (eval (.Call fe [e] [] pos) (envAt C.w.params f L)) (fun v s' => wpAny (model C.prog C.w) A (pyIter v) R (fun _ _ => False) s') (PostX C (envAt C.w.params f L :: fs) s ρ X) s := by
  refine Call_ (seq2 h hA ok m l fun v s₁ mv σ₁ ρ₁ r m₁ l₁ st₁ zz => ?_) (hc _)
  obtain ⟨e1, h₁⟩ := zz
  subst e1
  cases r
  have go : wpAny (model C.prog C.w) A (spliced (backTo pos (starEach [e] (envAt C.w.params f L)))) (fun vs s₂ => wpAny (model C.prog C.w) A (call (.type "range") vs) (fun v s' => wpAny (model C.prog C.w) A (pyIter v) R (fun _ _ => False) s') (PostX C (envAt C.w.params f L :: fs) s ρ X) s₂) (PostX C (envAt C.w.params f L :: fs) s ρ X) s₁ := by
    refine wpAny_mono (args_then h₁ hA ok m₁ l₁ fun vs s₂ ms σ₂ ρ₂ rs m₂ st₂ zz => ?_) (fun _ _ x => x) fun _ _ p => p.lift st₁
    obtain ⟨j, e2, hj, hq⟩ := zz
    subst e2
    cases rs with
    | cons a rs =>
      cases rs
      cases a with
      | int _ t =>
        have hsm : Builtin.Range.small 0 (j : Int) 1 = true := small_one (by decide) (by decide) (by omega) (by omega)
        refine PySem.call_range_1 ?_
        refine wpAny_pyIter_range (IsRange.new ..) hsm ?_
        have kp := fun b o (e : s₂.heap.get? b = some o) => push_keeps _ { cls := .type "range_iterator", data := .fields #[rawInt 0, rawInt (Builtin.Range.rangeSize 0 j 1), rawInt 1] } b o (push_keeps _ { cls := .type "range", data := .fields #[.int 0 s₂.toks, .int j t, .int 1 (s₂.toks + 1)] } b o e)
        have fr : s₂.heap.get? (s₂.heap.push { cls := .type "range", data := .fields #[.int 0 s₂.toks, .int j t, .int 1 (s₂.toks + 1)] }).objs.size = none := by
          cases e : s₂.heap.get? (s₂.heap.push { cls := .type "range", data := .fields #[.int 0 s₂.toks, .int j t, .int 1 (s₂.toks + 1)] }).objs.size with
          | none => rfl
          | some o => exact absurd (Heap.lt_size e) (by rw [Heap.size_push]; exact Nat.not_lt.mpr (Nat.le_succ _))
        refine k j _ _ _ s₂ σ₂ ρ₂ kp fr ?_ m₂ (st₁.trans st₂) hq
        have hsz : Builtin.Range.rangeSize 0 j 1 = (j : Int) := by rw [rangeSize_one]; split <;> omega
        have := Heap.get?_push_size (s₂.heap.push { cls := .type "range", data := .fields #[.int 0 s₂.toks, .int j t, .int 1 (s₂.toks + 1)] }) (o := { cls := .type "range_iterator", data := .fields #[rawInt 0, rawInt (Builtin.Range.rangeSize 0 j 1), rawInt 1] }) rfl
        show _ = _
        rw [this, hsz]
        simp
  exact PyProof.Rows.callWith_type1 (wpAny_mono go (fun _ _ x => x) fun _ _ x => x) (he _) (hp _)

theorem x_for_range {x : Str} {px pos cpos : Pos} {fe e : PySem.Expr} {body : List Stmt} (hx : (fdAt C.w.params f).scope.names.lookup x = some .local)
    (h : EvalW C f n true fe loc σ (fun fv σ₁ => fv = .raw (.type "range") ∧ ArgsW C f n true [e] loc σ₁ (fun ms σ₂ => ∃ k : Nat, ms = [.int k] ∧ k < 2 ^ 62 ∧ ∃ (J : Nat → List (Str × MV) → List MO → Prop), J 0 loc σ₂ ∧
      (∀ i loc σ, J i loc σ → i < k → ExecsW C f n true body ((x, .int i) :: loc) σ (fun mf loc' σ' => match mf with | .next | .cont => J (i + 1) loc' σ' | .brk => QF .next loc' σ' | .ret r => QF (.ret r) loc' σ') (fun _ _ _ => False)) ∧
      (∀ loc σ, J k loc σ → QF .next loc σ)) (fun b σ₁ => XF b loc σ₁)) (fun b σ₁ => XF b loc σ₁))
    (hs : ∀ env x, foldedSetIterable (.Call fe [e] [] cpos) env x = pure x := by intro _ _; rfl)
    (hc : ∀ env, eval (.Call fe [e] [] cpos) env = (do callWith cpos (← eval fe env) [] (backTo cpos (starEach [e] env)) (backToKw cpos (keywordEach [] env))) := by intro _; rfl)
    (he : ∀ env, starEach [e] env = (false, eval e env) :: starEach [] env := by intro _; rfl) (hk : (fdAt C.w.params f).scope.kind = .function := by kernel_rfl) :
    ExecW C f n true (.For (.Name x px) (.Call fe [e] [] cpos) body [] pos) loc σ QF XF := by
  intro A fs L s ρ hA ok m l
  refine wpAny_For (wpAny_mono (range_got (R := fun itv s₂ => codeAny (model C.prog C.w) A (.forLoop (.Name x px) itv body [] (envAt C.w.params f L)) (fun r s' => match r with | .ok fl => PostF C (envAt C.w.params f L :: fs) L s ρ QF fl s' | .error e => cameBackBy (model C.prog C.w) A (envAt C.w.params f L) (PostFX C (envAt C.w.params f L :: fs) L s ρ XF) e s') s₂) h hA ok m l
    (fun j I h' t s₁ σ₁ ρ₁ kp fr hit m₁ st₁ ⟨J, hJ, turn, fin⟩ => ?_) hc he) (fun v s' hv => wpAny_mono hv (fun _ _ x => x) fun _ _ x => x.elim) fun _ _ p => p.toF l) (hs _)
  have m₂ := m₁.keeps (d := s₁.drawn) (t := t) kp rfl rfl
  refine codeAny_mono (for_core (s₀ := s) (ρ₀ := ρ) (s := ⟨h', s₁.gens, s₁.drawn, t, s₁.os⟩) (QF := QF) (Iter.range (ok.handled rfl) j) hx hk hA ok m₂ ((l.step st₁ fa_head (by simp)).keeps kp) ((st₁.mono (by simp)).trans (Step.keeps kp _ _ _)) (m₁.none_of st₁ fr) (m₁.not_flat fr) (m₁.not_base fr) (m₁.not_frame fr) hit J hJ
    (fun i v loc σ hJ hv => ?_) (fun _ _ _ _ => trivial) (fun loc σ hJ => fin loc σ (by simpa using hJ))) fun r s' hr => ?_
  · have hlt : i < j := by have := (List.getElem?_eq_some_iff.mp hv).1; simpa using this
    have : v = .int i := by simpa [hlt] using hv.symm
    subst this
    exact turn i loc σ hJ hlt
  · match r with
    | .ok fl => exact hr
    | .error _ => exact hr.elim

/-- while -/
theorem x_while {t : PySem.Expr} {body : List Stmt} {pos : Pos} (J : Nat → List (Str × MV) → List MO → Prop) (r : Nat) (hJ : J r loc σ)
    (turn : ∀ r loc σ, J r loc σ → TestW C f n q t loc σ (fun c σ₁ => if c then ExecsW C f n q body loc σ₁ (fun mf loc' σ' => match mf with | .next | .cont => ∃ r', r' < r ∧ J r' loc' σ' | .brk => QF .next loc' σ' | .ret v => QF (.ret v) loc' σ') (fun _ _ _ => False) else QF .next loc σ₁) (fun _ _ => False)) :
    ExecW C f n q (.While t body [] pos) loc σ QF XF := by
  intro A fs L s ρ hA ok m l
  refine wpAny_While (codeAny_mono (codeAny_whileLoop (R := fun r s' => match r with | .ok fl => PostF C (envAt C.w.params f L :: fs) L s ρ QF fl s' | .error _ => False)
    (fun r s' => ∃ loc' σ' ρ', Mem C (envAt C.w.params f L :: fs) s' ρ' σ' ∧ Loc s'.heap ρ' L loc' ∧ Step (envAt C.w.params f L :: fs) [L] s.heap s'.heap ρ ρ' ∧ J r loc' σ') ?_ r ⟨loc, σ, ρ, m, l, .refl _ _ _ _, hJ⟩) fun r s' hr => ?_)
  · rintro r s₁ ⟨loc₁, σ₁, ρ₁, m₁, l₁, st₁, j⟩
    refine wpAny_mono (turn r loc₁ σ₁ j A fs L s₁ ρ₁ hA ok m₁ l₁) (fun c s₂ zz => ?_) fun e s₂ zz => by obtain ⟨_, _, _, _, _, _, hx⟩ := zz; exact hx.elim
    obtain ⟨σ₂, ρ₂, m₂, st₂, hq⟩ := zz
    have l₂ := l₁.step st₂ fa_head (by simp)
    have st := st₁.trans (st₂.mono (Y := [L]) (by simp))
    cases c with
    | false => exact wpAny_execs_nil ⟨.next, loc₁, σ₂, ρ₂, .next, m₂, l₂, st, hq⟩
    | true =>
      refine wpAny_mono (hq A fs L s₂ ρ₂ hA ok m₂ l₂) (fun fl s₃ zz => ?_) fun e s₂ zz => by obtain ⟨_, _, _, _, _, _, _, _, hx⟩ := zz; exact hx.elim
      obtain ⟨mf, loc₃, σ₃, ρ₃, rf, m₃, l₃, st₃, hq⟩ := zz
      cases rf with
      | next => obtain ⟨r', hlt, hJ⟩ := hq; exact ⟨r', hlt, loc₃, σ₃, ρ₃, m₃, l₃, st.trans st₃, hJ⟩
      | cont => obtain ⟨r', hlt, hJ⟩ := hq; exact ⟨r', hlt, loc₃, σ₃, ρ₃, m₃, l₃, st.trans st₃, hJ⟩
      | brk => exact ⟨.next, _, _, _, .next, m₃, l₃, st.trans st₃, hq⟩
      | ret v => exact ⟨_, _, _, _, .ret v, m₃, l₃, st.trans st₃, hq⟩
  · match r with
    | .ok fl => exact hr
    | .error _ => exact hr.elim
end

/-! MComp -/
theorem lookup_relabel_free {env : Env} (hk : env.scope.kind = .function) : ∀ {names : List (Str × NameKind)} {x : Str}, env.kindOf x = some .cell → names.lookup x = some .free →
    (names.map fun (n, k) => if (k == NameKind.free && env.scope.kind == .function && env.kindOf n == some .cell) then (n, NameKind.cell) else (n, k)).lookup x = some .cell
  | [], _, _, h => by simp at h
  | (n, k) :: r, x, he, h => by
    have ih := @lookup_relabel_free env hk r x he
    show List.lookup x ((if (k == NameKind.free && env.scope.kind == .function && env.kindOf n == some .cell) = true then (n, NameKind.cell) else (n, k)) :: _) = _
    cases hx : x == n with
    | true =>
      simp only [List.lookup_cons, hx] at h
      cases h
      have : x = n := beq_iff_eq.mp hx
      subst this
      simp [List.lookup_cons, hk, he]
    | false =>
      simp only [List.lookup_cons, hx] at h
      by_cases hc : (k == NameKind.free && env.scope.kind == .function && env.kindOf n == some .cell) = true
      · rw [if_pos hc]; simp only [List.lookup_cons, hx]; exact ih h
      · rw [if_neg hc]; simp only [List.lookup_cons, hx]; exact ih h
theorem lookup_relabel_global {env : Env} : ∀ {names : List (Str × NameKind)} {x : Str}, names.lookup x = some .globalImplicit →
    (names.map fun (n, k) => if (k == NameKind.free && env.scope.kind == .function && env.kindOf n == some .cell) then (n, NameKind.cell) else (n, k)).lookup x = some .globalImplicit
  | [], _, h => by simp at h
  | (n, k) :: r, x, h => by
    have ih := @lookup_relabel_global env r x
    show List.lookup x ((if (k == NameKind.free && env.scope.kind == .function && env.kindOf n == some .cell) = true then (n, NameKind.cell) else (n, k)) :: _) = _
    cases hx : x == n with
    | true =>
      simp only [List.lookup_cons, hx] at h
      cases h
      simp [List.lookup_cons, hx]
    | false =>
      simp only [List.lookup_cons, hx] at h
      by_cases hc : (k == NameKind.free && env.scope.kind == .function && env.kindOf n == some .cell) = true
      · rw [if_pos hc]; simp only [List.lookup_cons, hx]; exact ih h
      · rw [if_neg hc]; simp only [List.lookup_cons, hx]; exact ih h

/-- an element of a comprehension: its expression at the i-th turn -/
def EltW (C : Cfg) (f : Addr) (n : Nat) (scope : Scope) (cl : Addr → List (Str × Addr)) (x : Str) (loc : List (Str × MV)) (σ : List MO) (i : Int) (e : PySem.Expr) (mv : MV) : Prop :=
  ∀ (A : Around) (fs : List Env) (L Cl : Addr) (s : Shared) (ρ : Adrs) (m : Str → Option Value) (E : Value → Shared → Prop) (Z : List MO), A.frames = some (envAt C.w.params f L :: fs) → OkA A true n → Mem C (envAt C.w.params f L :: fs) s ρ (σ ++ Z) → Loc s.heap ρ L loc →
    s.heap.Ns Cl m → (∃ t, m x = some (.int i t)) → wpAny (model C.prog C.w) A (eval e (compEnvC scope (cl L) Cl (envAt C.w.params f L))) (fun y s' => Keeps s s' ∧ RV s'.heap ρ y mv) E s

theorem keeps_refl (s : Shared) (t : Nat) : Keeps s { s with toks := t } := ⟨s.heap, t, rfl, fun _ _ e => e⟩
theorem keeps_trans {s₁ s₂ s₃ : Shared} (x : Keeps s₁ s₂) (y : Keeps s₂ s₃) : Keeps s₁ s₃ := by
  obtain ⟨h, t, rfl, k⟩ := x
  obtain ⟨h', t', rfl, k'⟩ := y
  exact ⟨h', t', rfl, fun b o e => k' b o (k b o e)⟩

section
variable {C : Cfg} {f : Addr} {n : Nat} {scope : Scope} {cl : Addr → List (Str × Addr)} {x : Str} {loc : List (Str × MV)} {σ : List MO} {i : Int}
theorem get_app {α : Type} {l z : List α} {j : Nat} {a : α} (e : l[j]? = some a) : (l ++ z)[j]? = some a := by rw [List.getElem?_append_left (List.getElem?_eq_some_iff.mp e).1]; exact e

theorem el_x {pos : Pos} (hl : scope.names.lookup x = some .local) (hk : scope.kind = .function := by kernel_rfl) (hd : (x == ("__debug__" : Str)) = false := by decide +kernel) : EltW C f n scope cl x loc σ i (.Name x pos) (.int i) := by
  rintro A fs L Cl s ρ m E Z hA ok hm l ns ⟨t, hv⟩
  exact wpAny_Name (wpAny_loadName_local (env := compEnvC scope (cl L) Cl (envAt C.w.params f L)) hk (lookup_relabel_local hl) ns hv ⟨keeps_refl s s.toks, .int _ _⟩) hd
theorem el_cell {y : Str} {pos : Pos} {k j : Nat} {mv : MV} (hl : scope.names.lookup y = some .free) (hc : ∀ L, (cl L).lookup y = some (L + k)) (hy : (fdAt C.w.params f).scope.names.lookup y = some .cell) (e : loc.lookup y = some (.box k j)) (e1 : σ[j]? = some (.cell (some mv)))
    (hf : (fdAt C.w.params f).scope.kind = .function := by kernel_rfl) (hk : scope.kind = .function := by kernel_rfl) (hd : (y == ("__debug__" : Str)) = false := by decide +kernel) : EltW C f n scope cl x loc σ i (.Name y pos) mv := by
  rintro A fs L Cl s ρ m E Z hA ok hm ⟨mp, ns', kk⟩ ns ⟨t, hv⟩
  obtain ⟨v, hv, r⟩ | ⟨_, _, e2, hr⟩ := kk y _ e
  case inl => cases r
  cases e2
  obtain ⟨as, ha, ro⟩ := hm.get (get_app e1)
  rw [hr] at ha; cases ha
  cases ro with
  | cell1 l r =>
    refine wpAny_Name (wpAny_loadName_cell (env := compEnvC scope (cl L) Cl (envAt C.w.params f L)) hk (lookup_relabel_free (by rw [envAt_eq]; exact hf) (by rw [envAt_eq]; exact hy) hl) (hc L) l ⟨keeps_refl s s.toks, r⟩) hd
theorem el_global {y : Str} {pos : Pos} {v : Value} {mv : MV} (hl : scope.names.lookup y = some .globalImplicit) (e : nsIn C.K mainGlobals y = some (some v)) (hr : ∀ h ρ, RV h ρ v mv)
    (hk : scope.kind = .function := by kernel_rfl) (hd : (y == ("__debug__" : Str)) = false := by decide +kernel) : EltW C f n scope cl x loc σ i (.Name y pos) mv := by
  rintro A fs L Cl s ρ m E Z hA ok hm ⟨mp, ns', kk⟩ ns ⟨t, hv⟩
  obtain ⟨p, loose, mg, mb, T⟩ := C.top
  have e' := mg_of C.kin T.g e
  have hg : (compEnvC scope (cl L) Cl (envAt C.w.params f L)).globals = mainGlobals := by rw [envAt_eq]; rfl
  exact Calls.Name_function_global (env := compEnvC scope (cl L) Cl (envAt C.w.params f L)) hk (lookup_relabel_global hl) (Calls.loadGlobal_global (by rw [hg]; exact T.g.keeps hm.stay) e' ⟨keeps_refl s s.toks, hr _ _⟩) hd
theorem el_str {c : Str} {k : Nat} {pos : Pos} : EltW C f n scope cl x loc σ i (.Constant (.str c) k pos) (.str c) :=
  fun _ _ _ _ s _ _ _ _ _ _ _ _ _ _ => wpAny_Constant_str ⟨keeps_refl s _, .str _ _⟩
theorem el_add {l r : PySem.Expr} {pos : Pos} {a b : Int} (hl : EltW C f n scope cl x loc σ i l (.int a)) (hr : EltW C f n scope cl x loc σ i r (.int b)) : EltW C f n scope cl x loc σ i (.BinOp l .Add r pos) (.int (a + b)) := by
  rintro A fs L Cl s ρ m E Z hA ok hm lc ns ⟨t, hv⟩
  refine wpAny_BinOp (wpAny_mono (hl A fs L Cl s ρ m E Z hA ok hm lc ns ⟨t, hv⟩) (fun u s₁ zz => ?_) fun _ _ x => x)
  obtain ⟨k₁, r₁⟩ := zz
  obtain ⟨h₁, t₁, rfl, kp₁⟩ := id k₁
  refine wpAny_mono (hr A fs L Cl _ ρ m E Z hA ok (hm.keeps kp₁ rfl rfl) (lc.keeps kp₁) (ns.keeps kp₁) ⟨t, hv⟩) (fun v s₂ zz => ?_) fun _ _ x => x
  obtain ⟨k₂, r₂⟩ := zz
  cases r₁; cases r₂
  refine PyProof.Rows.add_int ?_
  exact ⟨keeps_trans (keeps_trans k₁ k₂) (keeps_refl _ _), .int _ _⟩
theorem el_pair {a b : PySem.Expr} {k : Nat} {pos : Pos} {ma mb : MV} (ha : EltW C f n scope cl x loc σ i a ma) (hb : EltW C f n scope cl x loc σ i b mb)
    (he : ∀ env, starEach [a, b] env = [(false, eval a env), (false, eval b env)] := by intro _; rfl) : EltW C f n scope cl x loc σ i (.Tuple [a, b] k pos) (.tup [ma, mb]) := by
  rintro A fs L Cl s ρ m E Z hA ok hm lc ns ⟨t, hv⟩
  refine wpAny_Tuple ?_
  rw [he]
  refine Calls.spliced_cons (wpAny_mono (ha A fs L Cl s ρ m E Z hA ok hm lc ns ⟨t, hv⟩) (fun u s₁ zz => ?_) fun _ _ x => x)
  obtain ⟨k₁, r₁⟩ := zz
  obtain ⟨h₁, t₁, rfl, kp₁⟩ := id k₁
  refine Calls.spliced_cons (wpAny_mono (hb A fs L Cl _ ρ m E Z hA ok (hm.keeps kp₁ rfl rfl) (lc.keeps kp₁) (ns.keeps kp₁) ⟨t, hv⟩) (fun v s₂ zz => ?_) fun _ _ x => x)
  obtain ⟨k₂, r₂⟩ := zz
  obtain ⟨h₂, t₂, rfl, kp₂⟩ := id k₂
  refine Calls.spliced_nil ⟨by rw [sizeLine_eq]; show (2 : Nat) ≤ _; decide, keeps_trans (keeps_trans k₁ k₂) ⟨_, t₂, rfl, fun _ _ e => Heap.get?_push_of_some _ e⟩, ?_⟩
  refine .tup (vs := [u, v]) ⟨_, Heap.get?_push_size _ rfl, rfl, 0, rfl⟩ ?_
  have kp := push_keeps h₂ { cls := .type "tuple", data := .seq [u, v].toArray }
  exact .cons (r₁.mono (tg_keeps (fun b o e => kp b o (kp₂ b o e)) _)) (.cons (r₂.mono (tg_keeps kp _)) .nil)
theorem el_len {fe e : PySem.Expr} {pos : Pos} {j : Nat} {xs : List MV} (hf : EltW C f n scope cl x loc σ i fe (.raw (.builtin "len"))) (he : EltW C f n scope cl x loc σ i e (.obj j)) (e1 : σ[j]? = some (.list xs)) (hz : xs.length < 1000)
    (hc : ∀ env, eval (.Call fe [e] [] pos) env = (do callWith pos (← eval fe env) [] (backTo pos (starEach [e] env)) (backToKw pos (keywordEach [] env))) := by intro _; rfl)
    (hs : ∀ env, starEach [e] env = [(false, eval e env)] := by intro _; rfl) : EltW C f n scope cl x loc σ i (.Call fe [e] [] pos) (.int xs.length) := by
  rintro A fs L Cl s ρ m E Z hA ok hm lc ns ⟨t, hv⟩
  refine Call_ (wpAny_mono (hf A fs L Cl s ρ m E Z hA ok hm lc ns ⟨t, hv⟩) (fun u s₁ zz => ?_) fun _ _ x => x) (hc _)
  obtain ⟨k₁, r₁⟩ := zz
  obtain ⟨h₁, t₁, rfl, kp₁⟩ := id k₁
  cases r₁
  have m₁ := hm.keeps (d := s.drawn) (t := t₁) kp₁ rfl rfl
  refine callWith_method1 (first := []) ?_ (by rw [hs]; rfl) rfl
  rw [hs]
  refine Calls.spliced_cons (wpAny_mono (he A fs L Cl _ ρ m E Z hA ok m₁ (lc.keeps kp₁) (ns.keeps kp₁) ⟨t, hv⟩) (fun v s₂ zz => ?_) fun _ _ x => x)
  obtain ⟨k₂, r₂⟩ := zz
  obtain ⟨h₂, t₂, rfl, kp₂⟩ := id k₂
  have m₂ := m₁.keeps (d := s.drawn) (t := t₂) kp₂ rfl rfl
  obtain ⟨a, us, k, rfl, h1, h2, h3⟩ := obj_list m₂ (get_app e1) r₂
  have hl := h3.length
  refine Calls.spliced_nil (PySem.Calls.call_len_list ⟨_, h2, rfl, k, rfl⟩ (by rw [List.size_toArray]; omega) ?_)
  rw [List.size_toArray, hl]
  exact ⟨keeps_trans (keeps_trans k₁ k₂) (keeps_refl _ _), .int _ _⟩
theorem el_builtin {y : Str} {pos : Pos} {v : Value} (hl : scope.names.lookup y = some .globalImplicit) (e : nsIn C.K mainGlobals y = some none) (hv : bootBuiltins y = some v) (hn : y ≠ "__name__" := by decide +kernel)
    (hk : scope.kind = .function := by kernel_rfl) (hd : (y == ("__debug__" : Str)) = false := by decide +kernel) : EltW C f n scope cl x loc σ i (.Name y pos) (.raw v) := by
  rintro A fs L Cl s ρ m E Z hA ok hm ⟨mp, ns', kk⟩ ns ⟨t, _⟩
  obtain ⟨p, loose, mg, mb, T⟩ := C.top
  have e' := mg_none_of C.kin T.g e
  have hg : (compEnvC scope (cl L) Cl (envAt C.w.params f L)).globals = mainGlobals := by rw [envAt_eq]; rfl
  have hb : (compEnvC scope (cl L) Cl (envAt C.w.params f L)).builtins = builtinsNs := by rw [envAt_eq]; rfl
  exact Calls.Name_function_global (env := compEnvC scope (cl L) Cl (envAt C.w.params f L)) hk (lookup_relabel_global hl) (Calls.loadGlobal_builtin (by rw [hg]; exact T.g.keeps hm.stay) e' (by rw [hb]; exact T.b.keeps hm.stay) ((T.builtins y hn).trans hv) ⟨keeps_refl s s.toks, .raw _⟩) hd

/-- a list comprehension over range(k) -/
theorem ev_comp {fe e elt : PySem.Expr} {px pos cpos : Pos} {Q : MV → List MO → Prop} {X : MV → List MO → Prop} (hclos : ∀ L, closureFor scope (envAt C.w.params f L) = pure (cl L)) (hcell : scope.names.all (fun y => y.2 != .cell) = true) (hx : scope.names.lookup x = some .local)
    (hnames : scope.names.all (fun y => !(y.2 == .local) || (scope.names.lookup y.1 == some .local)) = true)
    (h : EvalW C f n true fe loc σ (fun fv σ₁ => fv = .raw (.type "range") ∧ ArgsW C f n true [e] loc σ₁ (fun ms σ₂ => ∃ k : Nat, ms = [.int k] ∧ k < 2 ^ 62 ∧ ∃ F : Nat → MV, k < 1000 ∧ (∀ i : Nat, i < k → EltW C f n scope cl x loc σ₂ i elt (F i)) ∧ Q (.obj σ₂.length) (σ₂ ++ [.list ((List.range k).map F)])) X) X)
    (hs : ∀ env x, foldedSetIterable (.Call fe [e] [] cpos) env x = pure x := by intro _ _; rfl)
    (hc : ∀ env, eval (.Call fe [e] [] cpos) env = (do callWith cpos (← eval fe env) [] (backTo cpos (starEach [e] env)) (backToKw cpos (keywordEach [] env))) := by intro _; rfl)
    (he : ∀ env, starEach [e] env = (false, eval e env) :: starEach [] env := by intro _; rfl) (hk : scope.kind = .function := by kernel_rfl) :
    EvalW C f n true (.ListComp elt [⟨.Name x px, .Call fe [e] [] cpos, [], 0⟩] scope pos) loc σ Q X := by
  intro A fs L s ρ hA ok m l
  rw [eval_ListComp]
  have hcell' : ∀ y ∈ scope.names, y.2 ≠ .cell := fun y hy e => by have := List.all_eq_true.mp hcell y hy; rw [e] at this; exact absurd this (by decide)
  have hnames' : ∀ y ∈ scope.names, y.2 = .local → scope.names.lookup y.1 = some .local := fun y hy e => by have := List.all_eq_true.mp hnames y hy; rw [e] at this; simpa using this
  refine wpAny_comprehension_free (use := none) rfl (hs _) (hclos L) hk hnames' (wpAny_mono (range_got (R := fun it s₂ => wpAny (model C.prog C.w) A (newList []) (fun acc s₃ =>
      wpAny (model C.prog C.w) A (newFunctionEnv scope (envAt C.w.params f L).globals (cl L) [] (envAt C.w.params f L).qual none .none (some (envAt C.w.params f L))) (fun cenv s₄ =>
        codeAny (model C.prog C.w) A (.compStart (.ListComp elt [⟨.Name x px, .Call fe [e] [] cpos, [], 0⟩] scope pos) 0 it acc { cenv with scope := relabel scope (envAt C.w.params f L) }) (compPost (model C.prog C.w) A (PostX C (envAt C.w.params f L :: fs) s ρ X) none (PostV C (envAt C.w.params f L :: fs) s ρ Q) acc cenv.locals) s₄) (PostX C (envAt C.w.params f L :: fs) s ρ X) s₃) (PostX C (envAt C.w.params f L :: fs) s ρ X) s₂) h hA ok m l
    (fun k I h' t s₁ σ₁ ρ₁ kp fr hit m₁ st₁ ⟨F, hk1, helt, hQ⟩ => ?_) hc he) (fun v s' hv => wpAny_mono hv (fun _ _ x => x) fun _ _ x => x.elim) fun _ _ p => p)
  have l₁ := l.step st₁ fa_head (by simp)
  have m₂ := m₁.keeps (d := s₁.drawn) (t := t) kp rfl rfl
  have hIlt : I < h'.objs.size := Heap.lt_size hit
  -- the new list
  refine wpAny_newObj_type ?_ (by show (0 : Nat) ≤ _; omega)
  have kp₂ := push_keeps h' { cls := .type "list", data := .seq ([] : List Value).toArray }
  have frD : h'.get? h'.objs.size = none := fresh_size h'
  obtain ⟨m₃, st₃⟩ := m₂.new (d := s₁.drawn) (t := t) (as := [h'.objs.size]) (mo := .list []) kp₂ (fun b hb => by rw [List.mem_singleton.mp hb]; exact ⟨frD, _, Heap.get?_push_size _ rfl⟩) (by simp) (by simpa using m₂.sys_size)
    (fun tg => .list ⟨0, Heap.get?_push_size _ rfl⟩ .nil) rfl rfl []
  have stD : Step (envAt C.w.params f L :: fs) [] s.heap (h'.push { cls := .type "list", data := .seq ([] : List Value).toArray }) ρ (ρ₁ ++ [[h'.objs.size]]) := (st₁.trans (Step.keeps kp _ _ _)).trans st₃
  have l₃ := (l₁.keeps kp).step st₃ fa_head (by simp)
  generalize hH : h'.push { cls := .type "list", data := .seq ([] : List Value).toArray } = H at m₃ stD kp₂ l₃ ⊢
  have hHs : H.objs.size = h'.objs.size + 1 := by rw [← hH, Heap.size_push]
  -- its names
  refine wpAny_newFunctionEnv hcell' (by intro y hy; simp at hy) (fun h₁ hns₁ hsb₁ => ?_) hk
  have frC : H.get? H.objs.size = none := fresh_size H
  have kp₃ : ∀ b o, H.get? b = some o → h₁.get? b = some o := fun b o e => hsb₁.extBut b o (Nat.ne_of_lt (Heap.lt_size e)) (Heap.get?_push_of_some _ e)
  have m₄ := m₃.keeps (d := s₁.drawn) (t := t + 0) kp₃ rfl rfl
  have kpI : ∀ o, h'.get? I = some o → h₁.get? I = some o := fun o e => kp₃ I o (kp₂ I o e)
  have hCI : H.objs.size ≠ I := Nat.ne_of_gt (by rw [hHs]; exact Nat.lt_succ_of_lt hIlt)
  have i0 : s.heap.get? I = none := m₁.none_of st₁ fr
  have c0 : s.heap.get? H.objs.size = none := m₃.none_of stD frC
  have iρ : I ∉ (ρ₁ ++ [[h'.objs.size]]).flatten := by
    rw [List.flatten_append, List.mem_append]
    rintro (hm | hm)
    · exact m₁.not_flat fr hm
    · simp at hm; exact absurd hm (Nat.ne_of_lt hIlt)
  have cρ := m₃.not_flat frC
  have ib := m₁.not_base fr
  have cb := m₃.not_base frC
  have ifr := m₁.not_frame fr
  have cfr := m₃.not_frame frC
  have hLI : L ≠ I := fun e => ifr (e ▸ fa_head)
  have hLC : L ≠ H.objs.size := fun e => cfr (e ▸ fa_head)
  have hD : (ρ₁ ++ [[h'.objs.size]])[σ₁.length]? = some [h'.objs.size] := by rw [← m₁.len]; simp
  have loop : ∀ s₂ : Shared, s₂ = ⟨h₁, s₁.gens, s₁.drawn, t + 0, s₁.os⟩ → codeAny (model C.prog C.w) A (.compLoop (.ListComp elt [⟨.Name x px, .Call fe [e] [] cpos, [], 0⟩] scope pos) 0 (.ref I) (.ref h'.objs.size) (compEnvC scope (cl L) H.objs.size (envAt C.w.params f L)))
      (compPost (model C.prog C.w) A (PostX C (envAt C.w.params f L :: fs) s ρ X) none (PostV C (envAt C.w.params f L :: fs) s ρ Q) (.ref h'.objs.size) H.objs.size) s₂ := by
    rintro s₂ rfl
    refine codeAny_compLoop_tests (fun r s' => ∃ i mm, i + r = k ∧ Mem C (envAt C.w.params f L :: fs) s' (ρ₁ ++ [[h'.objs.size]]) (σ₁ ++ [.list ((List.range i).map F)]) ∧ Loc s'.heap (ρ₁ ++ [[h'.objs.size]]) L loc ∧ Step (envAt C.w.params f L :: fs) [] s.heap s'.heap ρ (ρ₁ ++ [[h'.objs.size]]) ∧
      IsRangeIter s'.heap I (i : Nat) ((k : Int) - (i : Nat)) 1 ∧ s'.heap.Ns H.objs.size mm) ?_ k ⟨0, _, by simp, by simpa using m₄, ?_, stD.trans (Step.keeps (s := ⟨H, s₁.gens, s₁.drawn, t, s₁.os⟩) kp₃ _ _ _), kpI _ hit, hns₁⟩
    · rintro r s₂ ⟨i, mm, hir, m₅, l₅, st₅, hit₅, ns₅⟩
      by_cases hlt : i < k
      · refine wpAny_pyNext_range_item hit₅ (by omega) fun h₂ hit₆ sb => ?_
        have m₆ := m₅.touch (d := s₂.drawn) (t := s₂.toks + 1) hit₅ (.inl (by simp)) iρ ib ifr sb.extBut
        have l₆ := l₅.touch hit₅ (.inl (by simp)) hLI sb.extBut
        have st₆ := st₅.touch hit₅ (.inl (by simp)) i0 sb.extBut
        have ns₆ := ns₅.sameBut sb hCI
        refine wpAny_assign_Name (wpAny_storeName_local (env := compEnvC scope (cl L) H.objs.size (envAt C.w.params f L)) (lookup_relabel_local hx) ns₆ (fun h₃ ns₇ sb₇ => ?_) (by show (scope.kind == .class || (scope.kind == .module && _)) = false; rw [hk]; rfl))
        obtain ⟨oc, es, ep, oc1, oc2, _⟩ := id ns₆
        have nt : NT oc := .inr fun its n e => by rw [oc2] at e; cases e
        have m₇ := m₆.touch (d := s₂.drawn) (t := s₂.toks + 1 + 1) oc1 nt cρ cb cfr sb₇.extBut
        have l₇ := l₆.touch oc1 nt hLC sb₇.extBut
        have st₇ := st₆.touch oc1 nt c0 sb₇.extBut
        have hit₇ : IsRangeIter h₃ I ((i : Nat) + 1) ((k : Int) - (i : Nat) - 1) 1 := (sb₇.2 I hCI.symm).trans hit₆
        rw [List.forIn_nil]
        refine wpAny_pure ?_
        rw [if_pos rfl]
        refine wpAny_mono (helt i hlt A fs L H.objs.size _ _ _ _ _ hA ok m₇ l₇ ns₇ ⟨_, by simp; rfl⟩) (fun y s₈ zz => ?_) fun _ _ x => x
        obtain ⟨k₈, r₈⟩ := zz
        obtain ⟨h₈, t₈, rfl, kp₈⟩ := k₈
        have m₈ := m₇.keeps (d := s₂.drawn) (t := t₈) kp₈ rfl rfl
        have hlast : (σ₁ ++ [MO.list ((List.range i).map F)])[σ₁.length]? = some (MO.list ((List.range i).map F)) := by simp
        refine wpAny_mono (call_append (n := n) (q := true) (X := fun _ _ => False) (Q := fun _ σ' => σ' = (σ₁ ++ [MO.list ((List.range i).map F)]).set σ₁.length (MO.list ((List.range i).map F ++ [F i]))) hlast (by simp; omega) rfl A _ _ _ _ hA ok m₈ (.cons (.obj (r := []) hD) (.cons r₈ .nil))) (fun _ s₉ zz => ?_) fun _ _ ⟨_, _, _, _, _, _, x⟩ => x.elim
        obtain ⟨_, σ₉, ρ₉, _, m₉, st₉, e9⟩ := zz
        subst e9
        have hρ : ρ₁ ++ [[h'.objs.size]] = ρ₉ := st₉.tg.grow.eq_of_length (by rw [m₉.len]; simp [m₁.len])
        subst hρ
        have l₉ := (l₇.keeps kp₈).step st₉ fa_head (by simp)
        have nsf : H.objs.size ∉ (ρ₁ ++ [[h'.objs.size]]).flatten := cρ
        refine ⟨r - 1, by omega, i + 1, _, by omega, ?_, l₉, (st₇.trans (Step.keeps (s := ⟨h₃, s₂.gens, s₂.drawn, s₂.toks + 1 + 1, s₂.os⟩) kp₈ _ _ _)).trans st₉, ?_, (ns₇.keeps kp₈).at' fun o e => st₉.keep _ o e nsf cfr⟩
        · have : (σ₁ ++ [MO.list ((List.range i).map F)]).set σ₁.length (MO.list ((List.range i).map F ++ [F i])) = σ₁ ++ [MO.list ((List.range (i + 1)).map F)] := by
            rw [List.range_succ]; simp
          rwa [← this]
        · have h9 := st₉.keep I _ (kp₈ I _ hit₇) iρ ifr
          have e1 : ((i : Nat) : Int) + 1 = ((i + 1 : Nat) : Int) := by omega
          have e2 : (k : Int) - (i : Nat) - 1 = (k : Int) - ((i + 1 : Nat) : Int) := by omega
          rw [e1, e2] at h9
          exact h9
      · have hi : i = k := by omega
        subst hi
        refine wpAny_pyNext_range_end (ok.handled rfl) hit₅ (by omega) fun h₂ ex => ?_
        have m₆ := m₅.touch (d := s₂.drawn) (t := s₂.toks) hit₅ (.inl (by simp)) iρ ib ifr ex
        have st₆ := st₅.touch hit₅ (.inl (by simp)) i0 ex
        have ns₆ := ns₅.extBut ex hCI
        obtain ⟨oc, es, ep, oc1, oc2, _⟩ := id ns₆
        have nt : NT oc := .inr fun its n e => by rw [oc2] at e; cases e
        refine ⟨_, ns₆, fun h₃ sb => ?_⟩
        exact ⟨.obj σ₁.length, _, _, .obj (r := []) hD, m₆.touch (d := s₂.drawn) (t := s₂.toks) oc1 nt cρ cb cfr sb.extBut, st₆.touch oc1 nt c0 sb.extBut, hQ⟩
    · exact l₃.keeps kp₃
  exact codeAny_compStart_list (loop _ rfl) ((Walks.range (ok.handled rfl) I 0 1 k).self 0 _ _ _ (by simpa using kpI _ hit) (loop _ rfl))
end

/-! MExc2 -/
open Builtin Builtin.ObjectAttr

def ballS : Str := Str.ofString "ball"

/-- what the class of the exceptions is like, read off the written heap -/
structure ExcK (K : Frag) : Prop where
  ga : findIn K (.ref 51) "__getattribute__" = some (some (.builtin "BaseException.__getattribute__"))
  gattr : findIn K (.ref 51) "__getattr__" = some none
  sa : findIn K (.ref 51) "__setattr__" = some (some (.builtin "object.__setattr__"))
  ball : findIn K (.ref 51) "ball" = some none
  has : hasDictIn K 51 = true
  mro : (clsIn K 51).map (·.mro) = some [.ref 51, .ref 31, .type "Exception", .type "BaseException", .type "object"]
theorem excK (P : Params) : ExcK (kf P) where
  ga := by kernel_rfl
  gattr := by kernel_rfl
  sa := by kernel_rfl
  ball := by kernel_rfl
  has := by kernel_rfl
  mro := by kernel_rfl

section
variable {prog : Program} {w : World} {A : Around} {s : Shared} {K : Frag} {x d : Addr} {vs : Array Value} {es : List DictEntry} {n : Nat}
theorem exc_cls (k : ExcK K) : ∃ cd, clsIn K 51 = some cd ∧ cd.mro = [.ref 51, .ref 31, .type "Exception", .type "BaseException", .type "object"] := by
  obtain ⟨cd, h1, h2⟩ := Option.map_eq_some_iff.mp k.mro
  exact ⟨cd, h1, h2⟩
theorem exc_sub (k : ExcK K) {b : Value} (hb : [Value.ref 51, .ref 31, .type "Exception", .type "BaseException", .type "object"].contains b = true) : mroIn K 51 b = some true := by
  obtain ⟨cd, h1, h2⟩ := exc_cls k
  unfold mroIn
  rw [h1, Option.bind_some, h2, if_neg (by decide), hb]

theorem base_in : [Value.ref 51, .ref 31, .type "Exception", .type "BaseException", .type "object"].contains (.type "BaseException") = true := by kernel_rfl
theorem obj_in : [Value.ref 51, .ref 31, .type "Exception", .type "BaseException", .type "object"].contains (.type "object") = true := by kernel_rfl
theorem get_exc {E : Value → Shared → Prop} {v : Value} {Q : Value → Shared → Prop} (k : ExcK K) (X : K.In s.heap) (h1 : s.heap.get? x = some { cls := .ref 51, dict := some d, data := .fields vs }) (h2 : s.heap.get? d = some (dictOf es n))
    (hl : lookIn ballS (dictOf es n) = some (some v)) (hh : handedIn v = true) (h : Q v { s with toks := s.toks + 1 }) : wpAny (model prog w) A (getAttr (.ref x) ballS true) Q E s := by
  have I : InstAt s.heap x { cls := .ref 51, dict := some d, data := .fields vs } 51 (some (dictOf es n)) := ⟨h1, rfl, rfl, h2⟩
  have hf : findObj K 51 (some (dictOf es n)) ballS = some (.value v) := findObj_own k.has k.ball (by rfl) hl
  have L0 := I.type (M := model prog w)
  have L1 := looks_find (M := model prog w) X I hf
  have L2 := looks_findIn (M := model prog w) X k.ga
  have L3 := looks_findIn (M := model prog w) X k.gattr
  have L4 : Looks (model prog w) s.heap (isInstance (.ref x) (.type "BaseException")) true := I.type.andThen (looks_mroIn X (exc_sub k base_in))
  obtain ⟨H, g, dr, t, os⟩ := s
  have bk : builtinKind "BaseException.__getattribute__" = some .slot := by decide +kernel
  have bs : splitId "BaseException.__getattribute__" = some ("BaseException", "__getattribute__") := by decide +kernel
  have hx1 : (onTheHeap (Value.ref 51) && Value.builtin "BaseException.__getattribute__" == Value.builtin "object.__getattribute__") = false := by decide +kernel
  have hx0 : (true && onTheHeap (Value.builtin "BaseException.__getattribute__")) = false := rfl
  have ff := PySem.F.attrBase_Exception.ga
  unfold getAttr getAttrBy
  refine wpAny_bind (wpAny_mkText (wpAny_holding (wpAny_bind (L0.here (s := ⟨H, g, dr, t + 1, os⟩) (wpAny_bind (L2.here (s := ⟨H, g, dr, t + 1, os⟩) ?_))))))
  show wpAny _ _ (if _ then _ else _) _ _ _
  rw [hx1, if_neg (by decide)]
  unfold getAttrByItsOwn
  refine wpAny_bind ?_
  show wpAny _ _ (typeLookup (.ref 51) "__getattr__") _ _ _
  refine L3.here (s := ⟨H, g, dr, t + 1, os⟩) ?_
  refine wpAny_bind (wpAny_attempt (wpAny_holding ?_))
  unfold callGetattribute
  rw [hx0, if_neg (by decide)]
  unfold boundAndCalled
  refine wpAny_bind (wpAny_of_eq (ff.bind (.ref x)) ?_)
  show wpAny _ _ (call (.builtin "BaseException.__getattribute__") [.ref x, .str ballS t]) _ _ _
  refine wpAny_call (codeAny_call_builtin ff.plain PySem.F.entry_bexc_ga (@check_slot (model prog w) _ _ ⟨H, g, dr, t + 1, os⟩ "BaseException.__getattribute__" "BaseException" "__getattribute__" (.ref x) [.str ballS t] [] _ bk bs L4 (PySem.F.args_bexc_ga (.ref x) (.str ballS t)) ?_))
  refine wpAny_bind (wpAny_of_eq (a := (.ref x, [.str ballS t])) rfl ?_)
  refine wpAny_bind (wpAny_pure (a := ballS) ?_)
  refine wpAny_bind (L0.here (s := ⟨H, g, dr, t + 1, os⟩) (wpAny_bind (L1.here (s := ⟨H, g, dr, t + 1, os⟩) ?_)))
  refine wpAny_pure ?_
  show wpAny _ _ (handedOut v) _ _ _
  rw [handedOut_of hh]
  exact wpAny_pure h

/-- the first attribute of a new exception -/
theorem set_exc {E : Value → Shared → Prop} {v : Value} {Q : Unit → Shared → Prop} (k : ExcK K) (X : K.In s.heap) (h1 : s.heap.get? x = some { cls := .ref 51, data := .fields vs })
    (h : ∀ h' t t', (∀ b o, b ≠ x → s.heap.get? b = some o → h'.get? b = some o) → h'.get? x = some { cls := .ref 51, dict := some s.heap.objs.size, data := .fields vs } → (∃ n, h'.get? s.heap.objs.size = some (dictOf [⟨PyData.keyHash w.params ballS, .str ballS t, v⟩] n)) → Q () { s with heap := h', toks := t' }) :
    wpAny (model prog w) A (setAttr (.ref x) ballS v) Q E s := by
  have I : InstAt s.heap x { cls := .ref 51, data := .fields vs } 51 none := ⟨h1, rfl, rfl, trivial⟩
  obtain ⟨H, g, dr, t, os⟩ := s
  obtain ⟨cd, hc, hmro⟩ := exc_cls k
  refine set_plain X I k.sa ?_
  have SF := PySem.F.store_object
  have L0 := I.type (M := model prog w)
  have sub : Looks (model prog w) H (isInstance (.ref x) (.type "object")) true := L0.andThen (looks_mroIn X (exc_sub k obj_in))
  have hm : Looks (model prog w) H (mroOf (.ref 51)) cd.mro := (looks_clsIn X hc).andThen .now
  have hb := looks_findIn (M := model prog w) X k.ball
  have hcl := looks_clsIn (M := model prog w) X hc
  have hd : cd.hasDict = true := by
    have := k.has
    unfold hasDictIn at this
    rw [hc] at this
    exact this
  refine codeAny_call_builtin SF.slot.plain SF.entry (@check_slot (model prog w) _ _ ⟨H, g, dr, t + 1, os⟩ "object.__setattr__" "object" "__setattr__" (.ref x) [.str ballS t, v] [] _ SF.kind SF.split sub (SF.args (.ref x) (.str ballS t) v) ?_)
  rw [osa_eq, refuse_eq]
  refine wpAny_bind (wpAny_bind (L0.here (s := ⟨H, g, dr, t + 1, os⟩) (wpAny_bind (hm.here (s := ⟨H, g, dr, t + 1, os⟩) ?_))))
  rw [hmro, refuseLoop_ref, refuseLoop_ref, PySem.F.store_Exception.passes]
  refine wpAny_pure (wpAny_bind (L0.here (s := ⟨H, g, dr, t + 1, os⟩) (wpAny_bind (hb.here (s := ⟨H, g, dr, t + 1, os⟩) (wpAny_bind (wpAny_pure (a := none) ?_))))))
  refine wpAny_bind (wpAny_pure (wpAny_bind (wpAny_bind (wpAny_loadPart h1 (wpAny_bind (hcl.here (s := ⟨H, g, dr, t + 1, os⟩) ?_))))))
  rw [hd]
  have hx₁ : (H.push { cls := .type "dict", data := .dict #[] }).get? x = some { cls := .ref 51, data := .fields vs } := Heap.get?_push_of_some _ h1
  have hxs : x ≠ H.objs.size := Nat.ne_of_lt (Heap.lt_size h1)
  rw [if_neg (by decide)]
  show wpAny _ _ (alloc { cls := .type "dict", data := .dict #[] } >>= fun d => update x (fun o => { cls := o.cls, dict := some d, data := o.data, slots := o.slots }) >>= fun _ => dictMade (.ref 51) x d) _ _ _
  refine wpAny_bind (wpAny_alloc (wpAny_bind (wpAny_update hx₁ (wpAny_pure (a := some H.objs.size) ?_))))
  have hgd : ((H.push { cls := .type "dict", data := .dict #[] }).update x fun o => { cls := o.cls, dict := some H.objs.size, data := o.data, slots := o.slots }).get? H.objs.size = some { cls := .type "dict", data := .dict #[] } :=
    (Heap.get?_update_other _ _ hxs).trans (Heap.get?_push_size _ rfl)
  have hgx : ((H.push { cls := .type "dict", data := .dict #[] }).update x fun o => { cls := o.cls, dict := some H.objs.size, data := o.data, slots := o.slots }).get? x = some { cls := .ref 51, dict := some H.objs.size, data := .fields vs } :=
    Heap.get?_update_self _ hx₁ rfl
  have kp : ∀ b o, b ≠ x → H.get? b = some o → ((H.push { cls := .type "dict", data := .dict #[] }).update x fun o => { cls := o.cls, dict := some H.objs.size, data := o.data, slots := o.slots }).get? b = some o := fun b o n e =>
    (Heap.get?_update_other _ _ (Ne.symm n)).trans (Heap.get?_push_of_some _ e)
  generalize ((H.push { cls := .type "dict", data := .dict #[] }).update x fun o => { cls := o.cls, dict := some H.objs.size, data := o.data, slots := o.slots }) = H₂ at hgd hgx kp ⊢
  show wpAny _ _ (storeInDict H.objs.size (.str ballS t) ballS v) _ _ _
  unfold storeInDict
  refine wpAny_bind (wpAny_pure (wpAny_bind ?_))
  unfold nsSet
  refine wpAny_bind (wpAny_bind (wpAny_askSetting (wpAny_pure (wpAny_bind (wpAny_mkText (wpAny_bind (wpAny_loadPart hgd ?_)))))))
  dsimp only
  rw [aRefKeyMayBeTheName_at, if_neg (by simp)]
  have hgd' : H₂.get? H.objs.size = some (dictOf [] 0) := hgd
  have hf : (Obj.putName ballS (PyData.keyHash w.params ballS) (.str ballS (t + 1)) v (dictOf [] 0)).isFreed = false := by rw [putName_dict]; rfl
  refine wpAny_updatePart hgd' ?_
  have hg := Heap.get?_update_self (Obj.putName ballS (PyData.keyHash w.params ballS) (.str ballS (t + 1)) v) hgd' hf
  rw [putName_dict] at hg
  refine wpAny_bind (wpAny_lookBehind hg (pastItsLine_dict (by rw [List.size_toArray, sizeLine_eq]; show (1 : Nat) ≤ _; decide)) ?_)
  refine wpAny_pure (h _ (t + 1) _ (fun b o n e => (Heap.get?_update_other _ _ (Nat.ne_of_gt (Heap.lt_size e))).trans (kp b o n e)) ((Heap.get?_update_other _ _ hxs.symm).trans hgx) ⟨_, hg⟩)
end

/-! MExc3 -/
open Builtin Builtin.ObjectAttr

/-- the class of the exceptions as an object -/
theorem cls51 (P : Params) : ∃ nm q bs sn sub ab col dd k0 k1 k2 k3 k5, (kf P).lookup 51 = some (excClassObj nm q 51 50 bs [.ref 31, .type "Exception", .type "BaseException", .type "object"] true sn sub ab col dd k0 k1 k2 k3 k5 "Exception.__new__") :=
  ⟨_, _, _, _, _, _, _, _, _, _, _, _, _, rfl⟩
theorem tail51 (P : Params) : tailIn (kf P) [.type "Exception", .type "BaseException", .type "object"] [.ref 31, .type "Exception", .type "BaseException", .type "object"] = true := by kernel_rfl
theorem nsOk50 (P : Params) : nsOkIn (kf P) 50 = true := by kernel_rfl
theorem init50 (P : Params) : nsIn (kf P) 50 (Str.ofString "__init__") = some (some (.ref 48)) := by kernel_rfl
theorem ok48 (P : Params) : fnOk P 48 [Str.ofString "self", Str.ofString "ball"] = true := by kernel_rfl
theorem fn48 (P : Params) : ((kf P).lookup 48).map (·.cls) = some (.type "function") := by kernel_rfl
theorem binds48 (P : Params) (a b : Value) : bindArgs (fdAt P 48) ⟨[a, b], []⟩ = pure [(Str.ofString "self", a), (Str.ofString "ball", b)] := by kernel_rfl
theorem body48 (P : Params) : ∃ p1 p2 p3 p4, bodyAt P 48 = [.Assign [.Attribute (.Name (Str.ofString "self") p1) ballS p2] (.Name (Str.ofString "ball") p3) p4] := ⟨_, _, _, _, rfl⟩
theorem ns_some_of {K : Frag} {h : Heap} {N : Addr} {mg : Str → Option Value} {n : Str} {v : Value} (X : K.In h) (G : h.Ns N mg) (e : nsIn K N n = some (some v)) : mg n = some v := by
  obtain ⟨o, es, ep, ho, hd, _, hf⟩ := G
  unfold nsIn at e
  split at e
  · rename_i c d es' n' sl q
    have := X _ _ q
    rw [ho] at this
    cases this
    cases hd
    split at e
    · rename_i en he
      cases e
      rw [← hf]
      unfold nsFind findBy
      rw [← Array.find?_toList, he]
      rfl
    · split at e <;> simp at e
  · cases e

section
variable {prog : Program} {w : World} {A : Around} {E : Value → Shared → Prop} {h : Heap} {g : Array GenState} {d : Drawn} {t : Nat} {os : OsState}
variable {nm q : Str} {C N : Addr} {bs bm bmB : List Value} {hdct : Bool} {sn : List Str} {sub : List Value} {ab : Bool} {col : Option Bool} {dd : Option Addr} {k0 k1 k2 k3 k5 : Option Value} {B newId initId : String}

theorem made_init0 (F : ExcBaseFacts B newId initId bmB) (T : OwnTail h bmB bm) {mN : Str → Option Value} {rest : List Value} {fI : Addr} {oI : Obj} {Q : Fin → Shared → Prop}
    (hC : h.get? C = some (excClassObj nm q C N bs bm hdct sn sub ab col dd k0 k1 k2 k3 k5 newId)) (hn : h.Ns N mN) (hi : mN "__init__" = some (.ref fI)) (hfI : h.get? fI = some oI) (hfc : oI.cls = .type "function") (hrest : rest.length ≤ sizeLine)
    (hq : ∀ h' e, Heap.MadeExcOf h h' e (.ref C) rest → h.objs.size ≤ e → codeAny (model prog w) A (.call (.ref fI) ⟨.ref e :: rest, []⟩) (fun r s' => match r with | .ok (.ret u) => u = .none ∧ Q (.done (.ret (.ref e))) s' | .ok _ => False | .error x => E x s') ⟨h', g, d, t, os⟩) :
    wpAny (model prog w) A (Builtin.«type.__call__» ⟨.ref C :: rest, []⟩) Q E ⟨h, g, d, t, os⟩ := by
  repeat (first | with_reducible refine wpAny_loadPart_at hC ?_ | with_reducible refine wpAny_madeBy_exc hC ?_ | wp_step)
  refine codeAny_call_builtin_code (Code.quiet_builtin _ F.quiet) (wpAny_check_new_subT F T hC ?_)
  refine codeAny_exc_new_subT F T hC ?_ hrest
  show wpAny _ _ _ _ _ _
  have kp : ∀ b o, h.get? b = some o → ((h.push { cls := .type "tuple", data := .seq rest.toArray }).push { cls := .ref C, data := .fields #[.ref h.objs.size, .none, .none, .none, .bool false, .none] }).get? b = some o :=
    fun b o e => Heap.get?_push_of_some _ (Heap.get?_push_of_some _ e)
  have hC₁ := kp _ _ hC
  have hfI₁ := kp _ _ hfI
  have hn₁ := hn.keeps kp
  have T₁ := T.keeps kp
  have hget : ((h.push { cls := .type "tuple", data := .seq rest.toArray }).push { cls := .ref C, data := .fields #[.ref h.objs.size, .none, .none, .none, .bool false, .none] }).get? (h.objs.size + 1) = some
      { cls := .ref C, data := .fields #[.ref h.objs.size, .none, .none, .none, .bool false, .none] } := by heap_get
  have hcC : (Value.ref C :: bm).contains (.ref C) = true := by simp
  unfold isInstance
  repeat (first | with_reducible refine wpAny_loadPart_at hget ?_ | (with_reducible refine wpAny_isSubtype_exc hC₁ ?_; rw [hcC]) | wp_step)
  show wpAny _ _ (typeLookup (.ref C) _) _ _ _
  refine wpAny_typeLookup_tail hC₁ hn₁ T₁ F.mroIs F.init.lookup ?_
  rw [hi]
  refine wpAny_holding (wpAny_bind ?_)
  unfold bindSpecial
  refine wpAny_bind (wpAny_typeOf (T := "function") ⟨_, hfI₁, hfc⟩ ?_)
  rw [if_pos (by decide)]
  refine wpAny_pure (wpAny_bind (wpAny_call (codeAny_mono (hq _ (h.objs.size + 1) ⟨kp, Heap.get?_none_of_le (Nat.le_succ _), h.objs.size, hget, Heap.get?_none_of_le (Nat.le_refl _), ?_⟩ (Nat.le_succ _)) fun r s' hr => ?_)))
  · exact Heap.get?_push_of_some _ (Heap.get?_push_at rfl rfl)
  · match r with
    | .ok (.ret u) =>
      obtain ⟨rfl, hQ⟩ := hr
      wp_walk
      exact hQ
    | .ok .next | .ok .brk | .ok .cont => exact hr.elim
    | .error x => exact hr
/-- an exception of an own class with its own __init__, whose class stands on another own class -/
theorem made_init (F : ExcBaseFacts B newId initId bmB) (T : OwnTail h bmB bm) {mN : Str → Option Value} {rest : List Value} {fI : Addr} {oI : Obj} {Q : Value → Shared → Prop}
    (hC : h.get? C = some (excClassObj nm q C N bs bm hdct sn sub ab col dd k0 k1 k2 k3 k5 newId)) (hn : h.Ns N mN) (hi : mN "__init__" = some (.ref fI)) (hfI : h.get? fI = some oI) (hfc : oI.cls = .type "function") (hrest : rest.length ≤ sizeLine)
    (hq : ∀ h' e, Heap.MadeExcOf h h' e (.ref C) rest → h.objs.size ≤ e → codeAny (model prog w) (A.under (.builtin "type.__call__" ⟨.ref C :: rest, []⟩)) (.call (.ref fI) ⟨.ref e :: rest, []⟩) (fun r s' => match r with | .ok (.ret u) => u = .none ∧ Q (.ref e) s' | .ok _ => False | .error x => E x s') ⟨h', g, d, t, os⟩) :
    wpAny (model prog w) A (call (.ref C) rest) Q E ⟨h, g, d, t, os⟩ := by
  have f1 := tc_lookup
  have f2 := tc_bind (.ref C)
  have hT : (⟨h, g, d, t, os⟩ : Shared).TypeIs (.ref C) "type" := ⟨_, hC, rfl⟩
  refine wpAny_call (codeAny_of_tree ?_)
  show wpAny _ _ (callAny (.ref C) _) _ _ _
  repeat (any_goals (first | assumption | with_reducible refine wpAny_loadPart_at hC ?_ | wp_step))
  refine ⟨rfl, ?_⟩
  refine codeAny_call_builtin_at (Code.quiet_builtin _ (by decide +kernel)) entry_typeCall (wpAny_check_type_call_sub hC (made_init0 F T hC hn hi hfI hfc hrest fun h' e hm hl => ?_))
  exact codeAny_mono (hq h' e hm hl) fun r s' hr => by
    match r with
    | .ok (.ret u) => exact hr
    | .ok .next | .ok .brk | .ok .cont => exact hr.elim
    | .error x => exact hr
end

section
variable {C : Cfg} {n : Nat} {q : Bool} {σ : List MO} {Q : MV → List MO → Prop} {X : MV → List MO → Prop} {b : MV}
theorem call_make_exc (hn : n ≤ 30) (h : Q (.obj σ.length) (σ ++ [.exc 51 true [(ballS, b)]])) : CallW C n q (.ref 51) [b] σ Q X := by
  intro A fs s ρ vs hA ok m rs
  cases rs with
  | cons rb rs =>
    cases rs
    rename_i v
    have KI := C.kin.keeps m.stay
    obtain ⟨p, loose, mg, mb, T⟩ := C.top
    obtain ⟨nm, q', bs, sn, sub, ab, col, dd, k0, k1, k2, k3, k5, hc⟩ := cls51 C.w.params
    obtain ⟨⟨oc, od, osl, ho⟩, henv, hco, hgen, hk, hcell, hloc, hcd, hbody, hnd⟩ := fnOk_facts (ok48 C.w.params)
    obtain ⟨H, g, d, t, os⟩ := s
    have hfn : oc = .type "function" := by
      have := fn48 C.w.params
      rw [ho] at this
      cases this; rfl
    refine made_init PySem.F.excBase_Exception (tail_of_in KI (tail51 C.w.params)) (KI _ _ hc) (.of_isNs (isNs_of_in KI (nsOk50 _))) (ns_some_of KI (.of_isNs (isNs_of_in KI (nsOk50 _))) (init50 _)) (KI _ _ ho) hfn (by rw [sizeLine_eq]; show (1 : Nat) ≤ _; decide) fun h₁ e hm hle => ?_
    have KI₁ := KI.keeps hm.keeps
    obtain ⟨ta, he, _, _⟩ := hm.there
    refine codeAny_call_def (fd := fdAt C.w.params 48) (body := bodyAt C.w.params 48) (by show _ < 1000; rw [depth_under_make]; have := ok.depth; omega) (KI₁ _ _ ho) rfl ((T.nolimit.keeps m.stay).keeps hm.keeps) (codeRec_of KI₁ hcd) hbody (binds := [(Str.ofString "self", .ref e), (Str.ofString "ball", v)]) (BindsTo.of_eq (binds48 _ _ _)) hcell
      (fun x hx => hloc _ (by rcases List.mem_cons.mp hx with e | hx; · rw [e]; simp
                              · rw [List.mem_singleton.mp hx]; simp)) (fun h₂ hns hk₂ => ?_) hco hgen hk
    rw [henv]
    have hes : e ≠ h₁.objs.size := Nat.ne_of_lt (Heap.lt_size he)
    obtain ⟨p1, p2, p3, p4, hb⟩ := body48 C.w.params
    rw [hb, envAt_eq]
    refine wpAny_execs_cons (plainObj_wpAny_Assign_Attribute (wpAny_Name (wpAny_loadName_local hk (hloc _ (by simp)) hns (v := v) rfl (wpAny_Name (wpAny_loadName_local hk (hloc _ (by simp)) hns (v := .ref e) rfl ?_) (by decide +kernel))) (by decide +kernel)) rfl)
    refine set_exc (excK C.w.params) (KI₁.keeps hk₂) (hk₂ _ _ he) fun h₃ t t' kp hx hd => wpAny_execs_nil ⟨rfl, ?_⟩
    obtain ⟨nd, hd⟩ := hd
    have big := m.big (h' := H) (fun _ _ e => e)
    have he0 : H.get? e = none := hm.new
    have kall : ∀ b o, H.get? b = some o → h₃.get? b = some o := fun b o z => kp b o (fun q => by rw [q, he0] at z; cases z) (hk₂ b o (hm.keeps b o z))
    have frd : H.get? h₂.objs.size = none := fresh_none (fun b o z => ⟨o, hk₂ b o (hm.keeps b o z)⟩) (fresh_size h₂)
    have hed : e ≠ h₂.objs.size := Nat.ne_of_lt (Heap.lt_size (hk₂ _ _ he))
    have big2 : 3 < h₂.objs.size := m.big (h' := h₂) fun b o z => hk₂ b o (hm.keeps b o z)
    obtain ⟨m', st⟩ := m.new (d := d) (t := t') (as := [e, h₂.objs.size]) (mo := .exc 51 true [(ballS, b)]) kall
      (fun c hc => by
        rcases List.mem_cons.mp hc with z | hc
        · rw [z]; exact ⟨he0, _, hx⟩
        · rw [List.mem_singleton.mp hc]; exact ⟨frd, _, hd⟩)
      (by rw [List.nodup_cons]; exact ⟨fun hm => hed (List.mem_singleton.mp hm), by simp⟩)
      (by
        intro hm
        have e1 : (3 : Nat) < e := Nat.lt_of_lt_of_le big hle
        rcases List.mem_cons.mp hm with z | hm
        · have : (1 : Nat) = e := z
          omega
        · have : (1 : Nat) = h₂.objs.size := List.mem_singleton.mp hm
          omega)
      (fun tg => .exc hx hd (.cons (rb.mono tg) .nil) fun _ => ⟨_, rfl⟩) rfl rfl []
    exact ⟨.obj σ.length, _, _, .obj (r := [h₂.objs.size]) (by rw [← m.len]; simp), m', st, h⟩
end

/-! MTry -/
section
variable {M : Model} {A : Around} {E : Value → Shared → Prop} {env : Env}
variable {nm q : Str} {C N : Addr} {bs bm : List Value} {hdct : Bool} {sn : List Str} {sub : List Value} {ab : Bool} {col : Option Bool} {dd : Option Addr} {k0 k1 k2 k3 k5 : Option Value} {newId : String}
theorem raise_made {s : Shared} {x : Sem Value} {Q : Flow → Shared → Prop} (hbase : bm.contains (.type "BaseException") = true) (hh : A.handled = none)
    (h : wpAny M A x (fun v s₁ => ∃ e d t, v = .ref e ∧ s₁.heap.get? C = some (excClassObj nm q C N bs bm hdct sn sub ab col dd k0 k1 k2 k3 k5 newId) ∧
      s₁.heap.get? e = some { cls := .ref C, dict := some d, data := .fields #[.ref t, .none, .none, .none, .bool false, .none] } ∧ E (.ref e) s₁) E s) :
    wpAny M A (raiseStmt env (some x) none) Q E s := by
  have hcB : (Value.ref C :: bm).contains (.type "BaseException") = true := by rw [List.contains_cons, hbase, Bool.or_true]
  unfold raiseStmt
  refine wpAny_bind (wpAny_mono h (fun v s₁ h₁ => ?_) fun _ _ x => x)
  obtain ⟨e, d', t, rfl, hC, he, hE⟩ := h₁
  obtain ⟨hp, g, d, tk, os⟩ := s₁
  repeat (first | with_reducible refine wpAny_loadPart_at he ?_ | with_reducible refine wpAny_loadPart_at hC ?_ | (with_reducible refine wpAny_isSubtype_exc hC ?_; rw [hcB]) | wp_step)
  exact wpAny_raiseNew_none hh hE
end

theorem not_before {ρ : Adrs} {k : Nat} {as : List Addr} (nd : ρ.flatten.Nodup) (e : ρ[k]? = some as) : ∀ c ∈ as, c ∉ (ρ.take k).flatten := fun c hc hm => by
  obtain ⟨bs, h1, h2⟩ := List.mem_flatten.mp hm
  obtain ⟨j, hj⟩ := List.mem_iff_getElem?.mp h1
  rw [List.getElem?_take] at hj
  split at hj
  · rename_i hlt
    exact flat_apart nd hj e (Nat.ne_of_lt hlt) h2 hc
  · cases hj
section
variable {C : Cfg} {f : Addr} {n : Nat} {loc : List (Str × MV)} {σ : List MO} {QF : MF → List (Str × MV) → List MO → Prop} {XF : MV → List (Str × MV) → List MO → Prop}
theorem x_raise {e : PySem.Expr} {pos : Pos} (h : EvalW C f n true e loc σ (fun v σ₁ => ∃ σ' b, v = .obj σ'.length ∧ σ₁ = σ' ++ [.exc 51 true [(ballS, b)]] ∧ Drops σ σ₁ σ'.length ∧ b.under σ'.length = true ∧ XF b loc σ') (fun b σ₁ => XF b loc σ₁)) :
    ExecW C f n true (.Raise (some e) none pos) loc σ QF XF := by
  intro A fs L s ρ hA ok m l
  rw [arm_exec_Raise]
  obtain ⟨nm, q', bs, sn, sub, ab, col, dd, k0, k1, k2, k3, k5, hc⟩ := cls51 C.w.params
  have main : wpAny (model C.prog C.w) A (eval e (envAt C.w.params f L)) (fun v s₁ => ∃ e d t, v = .ref e ∧ s₁.heap.get? 51 = some (excClassObj nm q' 51 50 bs [.ref 31, .type "Exception", .type "BaseException", .type "object"] true sn sub ab col dd k0 k1 k2 k3 k5 "Exception.__new__") ∧
      s₁.heap.get? e = some { cls := .ref 51, dict := some d, data := .fields #[.ref t, .none, .none, .none, .bool false, .none] } ∧ PostFX C (envAt C.w.params f L :: fs) L s ρ XF (.ref e) s₁) (PostFX C (envAt C.w.params f L :: fs) L s ρ XF) s := by
    refine wpAny_mono (seq2 h hA ok m l fun v s₁ mv σ₁ ρ₁ r m₁ l₁ st₁ zz => ?_) (fun _ _ x => x) fun _ _ p => p.toF l
    obtain ⟨σ', b, e1, e2, dr, bu, hx⟩ := zz
    subst e1
    subst e2
    obtain ⟨as, ha, ro⟩ := m₁.get (i := σ'.length) (mo := .exc 51 true [(ballS, b)]) (by simp)
    have hk : ρ.length ≤ σ'.length := by rw [m.len]; exact dr.1
    have std := st₁.drop hk
    have pre : ∀ {c}, c ∈ ρ.flatten → c ∈ (ρ₁.take σ'.length).flatten := fun {c} z => by
      obtain ⟨as, h1, h2⟩ := List.mem_flatten.mp z
      exact List.mem_flatten.mpr ⟨as, std.tg.grow.subset h1, h2⟩
    cases r with
    | obj ea =>
      rw [ha] at ea; cases ea
      cases ro with
      | exc h1 h2 res fr =>
        rename_i a d vs es k
        obtain ⟨t, rfl⟩ := fr rfl
        refine ⟨_, d, t, rfl, C.kin.keeps m₁.stay _ _ hc, h1, b, loc, σ', ρ₁.take σ'.length, ?_, ?_, ?_, ?_, hx⟩
        · have hnb := not_before m₁.nodup ha
          have isn : ∀ c ∈ [a, d], s.heap.get? c = none := fun c hc => (st₁.new c (mem_flat ha hc)).elim (fun z => absurd (pre z) (hnb c hc)) fun z => z
          have ma : a ∈ [a, d] := by simp
          have md : d ∈ [a, d] := by simp
          have had : a ≠ d := by
            have := m₁.nodup.sublist (List.sublist_flatten_of_mem (List.mem_of_getElem? ha))
            simpa using this
          exact ⟨a, d, _, es, k, rfl, h1, h2, res.take (by simp [fldUnder, bu]), .inl rfl, isn a ma, isn d md, had, hnb a ma, hnb d md, (m₁.off a (mem_flat ha ma)).1, (m₁.off d (mem_flat ha md)).1, (m₁.off d (mem_flat ha md)).2.1, fun hm => m₁.nosys (mem_flat ha hm)⟩
        · have := m.drop m₁ dr
          rwa [List.take_left] at this
        · exact l.step std fa_head (by simp)
        · exact std.mono (by simp)
  show wpAny _ _ (do standAt pos; raiseStmt (envAt C.w.params f L) (some (do let v ← eval e (envAt C.w.params f L); standAt pos; pure v)) none) _ _ _
  refine wpAny_bind (wpAny_standAt (raise_made (C := 51) (N := 50) (bm := [.ref 31, .type "Exception", .type "BaseException", .type "object"]) (nm := nm) (q := q') (bs := bs) (hdct := true) (sn := sn) (sub := sub) (ab := ab) (col := col) (dd := dd) (k0 := k0) (k1 := k1) (k2 := k2) (k3 := k3) (k5 := k5) (newId := "Exception.__new__") (by kernel_rfl) (ok.handled rfl) ?_))
  exact wpAny_bind (wpAny_mono main (fun v s₁ h₁ => wpAny_bind (wpAny_standAt (wpAny_pure h₁))) fun _ _ x => x)
end

/-! MTry2 -/
section
variable {C : Cfg} {fs : List Env} {s : Shared} {ρ : Adrs} {σ : List MO}
/-- an object that stood outside joins the memory -/
theorem Mem.join {as : List Addr} {mo : MO} (m : Mem C fs s ρ σ) (fr : ∀ b ∈ as, b ∉ ρ.flatten ∧ C.base.get? b = none ∧ b ∉ fa fs ∧ ∃ o, s.heap.get? b = some o) (nd : as.Nodup) (ns : sysModules ∉ as) (ro : RO C.prog C.w s.heap (ρ ++ [as]) as mo) : Mem C fs s (ρ ++ [as]) (σ ++ [mo]) := by
  have tg : TG s.heap s.heap ρ (ρ ++ [as]) := ⟨List.prefix_append _ _, fun _ _ z => z⟩
  refine ⟨m.stay, m.gens, m.os, m.frames, ?_, ?_, fun b hb => ?_, ?_⟩
  · refine ROs.append ?_ (.cons ro .nil)
    refine .of_get m.len fun i bs mo₂ q q' => ?_
    obtain ⟨bs', q₂, r⟩ := m.get q'
    rw [q] at q₂; cases q₂
    exact r.mono tg fun b _ o z => z
  · rw [List.flatten_append, List.flatten_cons, List.flatten_nil, List.append_nil]
    exact List.nodup_append.mpr ⟨m.nodup, nd, fun a ha b hb e => (fr b hb).1 (e ▸ ha)⟩
  · rw [List.flatten_append, List.flatten_cons, List.flatten_nil, List.append_nil] at hb
    rcases List.mem_append.mp hb with hb | hb
    · exact m.off b hb
    · exact ⟨(fr b hb).2.1, (fr b hb).2.2.1, (fr b hb).2.2.2⟩
  · rw [List.flatten_append, List.flatten_cons, List.flatten_nil, List.append_nil, List.mem_append]
    exact fun h => h.elim m.nosys ns
theorem Step.join {X : List Addr} {h₀ h : Heap} {ρ₀ : Adrs} {as : List Addr} (st : Step fs X h₀ h ρ₀ ρ) (fr : ∀ b ∈ as, h₀.get? b = none) : Step fs X h₀ h ρ₀ (ρ ++ [as]) where
  tg := st.tg.trans ⟨List.prefix_append _ _, fun _ _ z => z⟩
  new := fun b hb => by
    rw [List.flatten_append, List.flatten_cons, List.flatten_nil, List.append_nil] at hb
    rcases List.mem_append.mp hb with hb | hb
    · exact st.new b hb
    · exact .inr (fr b hb)
  keep := st.keep
  slot := st.slot
  alive := st.alive

theorem flight_again {A : Around} {E : Value → Shared → Prop} {M : Model} {L : Addr} {X : List Addr} {h₀ : Heap} {ρ₀ : Adrs} {e : Value} {ball : MV} {loc : List (Str × MV)} {Q : Unit → Shared → Prop}
    (x : Exc C fs h₀ s.heap ρ e ball) (m : Mem C fs s ρ σ) (l : Loc s.heap ρ L loc) (st : Step fs X h₀ s.heap ρ₀ ρ) (hL : L ∈ fa fs)
    (h : ∀ h', Exc C fs h₀ h' ρ e ball → Mem C fs { s with heap := h' } ρ σ → Loc h' ρ L loc → Step fs X h₀ h' ρ₀ ρ → Q () { s with heap := h' }) : wpAny M A (setFlight e none) Q E s := by
  obtain ⟨a, d, vs, es, n, rfl, ha, hdd, hes, htb, na, nd, nad, oa, od, ba, bd, df⟩ := id x
  unfold setFlight
  rcases htb with h1 | ⟨T, oT, ts, h1, hT, hTd, h3, hTa, T0, Tr, Tb⟩
  · refine wpAny_bind (wpAny_field ha rfl h1 ?_)
    rw [if_neg (by decide)]
    exact wpAny_pure (h s.heap x m l st)
  · refine wpAny_bind (wpAny_field ha rfl h1 ?_)
    rw [if_pos (show (Value.ref T != Value.none) = true from by simp)]
    refine wpAny_setField hT hTd (Array.getElem?_eq_some_iff.mp h3).1 ?_
    have fT : (Obj.mapFields (·.setIfInBounds 3 ((none : Option Addr).elim Value.none fun f => rawInt f)) oT).isFreed = false := by rw [obj_fields hTd]; rfl
    have hT' := Heap.get?_update_self (Obj.mapFields (·.setIfInBounds 3 ((none : Option Addr).elim Value.none fun f => rawInt f))) hT fT
    rw [obj_fields hTd] at hT'
    have k : Heap.ExtBut T s.heap (s.heap.update T (Obj.mapFields (·.setIfInBounds 3 ((none : Option Addr).elim Value.none fun f => rawInt f)))) := (Heap.SameBut.update _ _ _).extBut
    have nt : NT oT := .inr fun its n e => by rw [hTd] at e; cases e
    have Tf : T ∉ fa fs := fun hm => by
      obtain ⟨_, o, ho, hn⟩ := m.frames.mem hm
      rw [hT] at ho; cases ho; exact hn _ hTd
    have dT : d ≠ T := fun q => by rw [← q, hdd] at hT; cases hT; cases hTd
    have sz : 3 < ts.size := (Array.getElem?_eq_some_iff.mp h3).1
    refine h _ ⟨a, d, vs, es, n, rfl, k a _ hTa.symm ha, k d _ dT hdd, hes.mono (tg_touch hT nt k), .inr ⟨T, _, _, h1, hT', rfl, by simp [sz], hTa, T0, Tr, Tb⟩, na, nd, nad, oa, od, ba, bd, df⟩
      (m.touch hT nt Tr Tb Tf k) (l.touch hT nt (fun q => Tf (q ▸ hL)) k) (st.touch hT nt T0 k)
end

section
variable {C : Cfg} {f : Addr} {n : Nat} {loc : List (Str × MV)} {σ : List MO} {QF : MF → List (Str × MV) → List MO → Prop} {XF : MV → List (Str × MV) → List MO → Prop}
theorem global_here {A : Around} {L : Addr} {s : Shared} {y : Str} {pos : Pos} {v : Value} {R : Value → Shared → Prop} {E : Value → Shared → Prop} (st : C.base.StaysIn s.heap) (hl : (fdAt C.w.params f).scope.names.lookup y = some .globalImplicit) (e : nsIn C.K mainGlobals y = some (some v)) (h : R v s)
    (hk : (fdAt C.w.params f).scope.kind = .function) (hd : (y == ("__debug__" : Str)) = false) : wpAny (model C.prog C.w) A (eval (.Name y pos) (envAt C.w.params f L)) R E s := by
  obtain ⟨p, loose, mg, mb, T⟩ := C.top
  have e' := mg_of C.kin T.g e
  rw [envAt_eq]
  exact Calls.Name_function_global hk hl (Calls.loadGlobal_global (env := envOfC (fdAt C.w.params f).qualname (fdAt C.w.params f).scope L f (fdAt C.w.params f).code) (T.g.keeps st) e' h) hd
theorem RF.mono {h h' : Heap} {ρ ρ' : Adrs} (g : TG h h' ρ ρ') {fl : Flow} {mf : MF} (r : RF h ρ fl mf) : RF h' ρ' fl mf := by
  cases r with
  | next => exact .next
  | brk => exact .brk
  | cont => exact .cont
  | ret r => exact .ret (r.mono g)
theorem x_try {body suite : List Stmt} {b₀ : Stmt} {x name : Str} {np hpos pos : Pos} (hx : (fdAt C.w.params f).scope.names.lookup x = some .local) (hn : (fdAt C.w.params f).scope.names.lookup name = some .globalImplicit) (hg : nsIn C.K mainGlobals name = some (some (.ref 51)))
    (h : ExecsW C f n true body loc σ QF (fun b loc₁ σ₁ => ExecsW C f n false (b₀ :: suite) ((x, .obj σ₁.length) :: loc₁) (σ₁ ++ [.exc 51 false [(ballS, b)]]) (fun mf loc₃ σ₃ => ∃ loc₄, Sub loc₄ loc₃ ∧ loc₄.lookup x = none ∧ QF mf loc₄ σ₃) (fun _ _ _ => False)))
    (hk : (fdAt C.w.params f).scope.kind = .function := by kernel_rfl) (hd : (name == ("__debug__" : Str)) = false := by decide +kernel) :
    ExecW C f n true (.Try body [.ExceptHandler (some (.Name name np)) (some x) (b₀ :: suite) hpos] [] [] pos) loc σ QF XF := by
  intro A fs L s ρ hA ok m l
  refine wpAny_Try_except (wpAny_mono (h A fs L s ρ hA ok m l) (fun fl s₁ p => ?_) fun e s₁ p => ?_)
  · obtain ⟨mf, loc₁, σ₁, ρ₁, rf, m₁, l₁, st₁, hq⟩ := p
    cases rf with
    | next => exact wpAny_execs_nil ⟨_, _, _, _, .next, m₁, l₁, st₁, hq⟩
    | brk => exact ⟨_, _, _, _, .brk, m₁, l₁, st₁, hq⟩
    | cont => exact ⟨_, _, _, _, .cont, m₁, l₁, st₁, hq⟩
    | ret r => exact ⟨_, _, _, _, .ret r, m₁, l₁, st₁, hq⟩
  · obtain ⟨ball, loc₁, σ₁, ρ₁, x₁, m₁, l₁, st₁, hq⟩ := p
    refine flight x₁ m₁ st₁.alive hA (envAt_frame _ _ _) fun h₂ x₂ m₂ fly => ?_
    have st₂ := st₁.fly fly
    have l₂ : Loc h₂ ρ₁ L loc₁ := by
      obtain ⟨mp, ns, kk⟩ := l₁
      exact ⟨mp, ns_slots ns fun o ho => fly.slot L o ho fa_head, fun x mv e => (kk x mv e).imp (fun ⟨v, hv, r⟩ => ⟨v, hv, r.mono fly.tg⟩) fun z => z⟩
    obtain ⟨a, d, vs, es, kn, rfl, ha, hdd, _⟩ := id x₂
    have hA' : (A.mark (some (.ref a))).frames = some (envAt C.w.params f L :: fs) := hA
    have ok' : OkA (A.mark (some (.ref a))) false n := ⟨fun z => (nomatch z), ok.depth, ok.units⟩
    refine wpAny_handleBy_cons (codeAny_handlers_test (global_here m₂.stay hn hg ?_ hk hd)) (by intro q; cases q)
    obtain ⟨nm, q', bs, sn, sub, ab, col, dd, k0, k1, k2, k3, k5, hc⟩ := cls51 C.w.params
    have hC := C.kin.keeps m₂.stay _ _ hc
    refine wpAny_excMatches_sub_self hC ha rfl (by kernel_rfl) (codeAny_handlers_suite_as ?_)
    refine flight_again (s := { s₁ with heap := h₂ }) x₂ m₂ l₂ st₂ fa_head fun h₃ x₃ m₃ l₃ st₃ => ?_
    obtain ⟨a', d', vs', es', kn', e1, ha', hdd', hes', _, na, nd, nad, oa, od, ba, bd, df⟩ := x₃
    cases e1
    have tgj : TG h₃ h₃ ρ₁ (ρ₁ ++ [[a, d']]) := ⟨List.prefix_append _ _, fun _ _ z => z⟩
    have afr : a ∉ fa (envAt C.w.params f L :: fs) := fun hm => by
      obtain ⟨_, o, ho, hn⟩ := m₃.frames.mem hm
      rw [ha'] at ho; cases ho; exact hn _ rfl
    have m₄ := m₃.join (as := [a, d']) (mo := .exc 51 false [(ballS, ball)])
      (fun b hb => by
        rcases List.mem_cons.mp hb with z | hb
        · rw [z]; exact ⟨oa, ba, afr, _, ha'⟩
        · rw [List.mem_singleton.mp hb]; exact ⟨od, bd, df.1, _, hdd'⟩)
      (by rw [List.nodup_cons]; exact ⟨fun hm => nad (List.mem_singleton.mp hm), by simp⟩) df.2 (.exc ha' hdd' (hes'.mono tgj) (fun z => nomatch z))
    have st₄ := st₃.join (as := [a, d']) (fun b hb => by
        rcases List.mem_cons.mp hb with z | hb
        · rw [z]; exact na
        · rw [List.mem_singleton.mp hb]; exact nd)
    have l₄ : Loc h₃ (ρ₁ ++ [[a, d']]) L loc₁ := by
      obtain ⟨mp, ns, kk⟩ := l₃
      exact ⟨mp, ns, fun x mv e => (kk x mv e).imp (fun ⟨v, hv, r⟩ => ⟨v, hv, r.mono tgj⟩) fun ⟨a, i, z, y⟩ => ⟨a, i, z, prefix_get tgj.grow y⟩⟩
    have ra : RV h₃ (ρ₁ ++ [[a, d']]) (.ref a) (.obj σ₁.length) := .obj (r := [d']) (by rw [← m₁.len]; simp)
    refine stored_name (s := { s₁ with heap := h₃ }) hx hk m₄ l₄ ra fun s₅ m₅ l₅ st₅ => ?_
    refine wpAny_mono (hq (A.mark (some (.ref a))) fs L s₅ _ hA' ok' m₅ l₅) (fun fl s₆ p => ?_) fun _ _ zz => by obtain ⟨_, _, _, _, _, _, _, _, z⟩ := zz; exact z.elim
    obtain ⟨mf, loc₆, σ₆, ρ₆, rf, m₆, l₆, st₆, loc₇, sub, lx, hq'⟩ := p
    obtain ⟨mp, ns, kk⟩ := l₆
    have key : ∀ {R : Unit → Shared → Prop} {E : Value → Shared → Prop}, (∀ h' v, h'.Ns L (fun y => if y = x then v else mp y) → Heap.SameBut L s₆.heap h' → R () { s₆ with heap := h', toks := s₆.toks + 1 }) →
        wpAny (model C.prog C.w) A (do bindName (envAt C.w.params f L) x .none; unbindBehindTheSuite (envAt C.w.params f L) x hpos) R E s₆ := fun {R} {E} hh => by
      rw [envAt_eq]
      exact wpAny_nameGoes_keeps (env := envOfC (fdAt C.w.params f).qualname (fdAt C.w.params f).scope L f (fdAt C.w.params f).code) hx ns (by show ((fdAt C.w.params f).scope.kind == .class || ((fdAt C.w.params f).scope.kind == .module && _)) = false; rw [hk]; rfl) hh
    refine key fun h₇ v ns₇ sb => ?_
    obtain ⟨m₇, st₇⟩ := m₆.store (d := s₆.drawn) (t := s₆.toks + 1) ns ns₇ sb fa_head rfl rfl
    refine ⟨mf, loc₇, σ₆, ρ₆, rf.mono st₇.tg, m₇, ⟨_, ns₇, fun y my hy => ?_⟩, ((st₄.trans st₅).trans st₆).trans st₇, hq'⟩
    have hyx : ¬ y = x := fun e => by rw [e, lx] at hy; cases hy
    exact (kk y my (sub y my hy)).imp (fun ⟨u, hu, ru⟩ => ⟨u, by simp [hyx, hu], ru.mono st₇.tg⟩) fun z => z
end

/-! MMisc -/
section
variable {C : Cfg} {f : Addr} {n : Nat} {q : Bool} {loc : List (Str × MV)} {σ : List MO} {Q : MV → List MO → Prop} {X : MV → List MO → Prop} {QF : MF → List (Str × MV) → List MO → Prop} {XF : MV → List (Str × MV) → List MO → Prop} {i : Nat}

/-- what the exception carries -/
theorem ev_ball (hK : ExcK C.K) {o : PySem.Expr} {pos : Pos} (h : EvalW C f n q o loc σ (fun mv σ₁ => ∃ i fr b, mv = .obj i ∧ σ₁[i]? = some (.exc 51 fr [(ballS, b)]) ∧ (∀ u, b ≠ .raw u) ∧ Q b σ₁) X)
    (he : ∀ env, eval (.Attribute o ballS pos) env = (do
      let v ← eval o env
      standAt pos.atName
      let r ← holding [v] (getAttr v ballS true)
      letTemporaryGo o v r
      pure r) := by intro _; with_unfolding_all rfl) : EvalW C f n q (.Attribute o ballS pos) loc σ Q X := by
  intro A fs L s ρ hA ok m l
  refine Attribute_any_ (seq2 h hA ok m l fun v s₁ mv σ₁ ρ₁ r m₁ l₁ st₁ zz => ?_) (he _)
  obtain ⟨i, fr, b, e1, e2, e5, hq⟩ := zz
  subst e1
  obtain ⟨as, ha, ro⟩ := m₁.get e2
  cases r with
  | obj e =>
    rw [ha] at e; cases e
    cases ro with
    | exc h1 h2 res fr =>
      obtain ⟨u, hu, ru⟩ := res.getL_some (show List.lookup ballS [(ballS, b)] = some b by simp)
      refine get_exc hK (C.kin.keeps m₁.stay) h1 h2 (by rw [lookIn_dict, hu]) (ru.handed e5) ?_
      exact ⟨b, σ₁, ρ₁, ru, m₁.same rfl rfl rfl, st₁, hq⟩

/-- x, y = pair -/
theorem x_pair {x y : Str} {px py tpos pos : Pos} {k : Nat} {value : PySem.Expr} (hx : (fdAt C.w.params f).scope.names.lookup x = some .local) (hy : (fdAt C.w.params f).scope.names.lookup y = some .local)
    (h : EvalW C f n true value loc σ (fun mv σ₁ => ∃ a b, mv = .tup [a, b] ∧ QF .next ((y, b) :: (x, a) :: loc) σ₁) (fun b σ₁ => XF b loc σ₁))
    (hs : ∀ env, swapsWithSole [.Tuple [.Name x px, .Name y py] k tpos] value pos.line env = pure false := by intro _; rfl)
    (hw : ∀ env, swappedStores [.Tuple [.Name x px, .Name y py] k tpos] value env = pure none := by intro _; rfl)
    (hk : (fdAt C.w.params f).scope.kind = .function := by kernel_rfl) : ExecW C f n true (.Assign [.Tuple [.Name x px, .Name y py] k tpos] value pos) loc σ QF XF := by
  intro A fs L s ρ hA ok m l
  refine Assign_Tuple (wpAny_mono (seq2 h hA ok m l fun v s₁ mv σ₁ ρ₁ r m₁ l₁ st₁ zz => ?_) (fun _ _ x => x) fun _ _ p => p.toF l) (hs _) (hw _)
  obtain ⟨a, b, e1, hq⟩ := zz
  subst e1
  cases r with
  | tup it rs =>
    cases rs with
    | cons ra rs =>
      cases rs with
      | cons rb rs =>
        cases rs
        rename_i t va vb
        show wpAny _ _ (do standAt tpos; unpack (.ref t) (assignEach [.Name x px, .Name y py] (envAt C.w.params f L))) _ _ _
        refine wpAny_bind (wpAny_standAt ?_)
        refine unpack_tuple (ok.handled rfl) it (by rfl) (by rfl) fun h' ex => ?_
        have fr := fresh_size s₁.heap
        have kp : ∀ b o, s₁.heap.get? b = some o → h'.get? b = some o := fun b o e => ex b o (Nat.ne_of_lt (Heap.lt_size e)) e
        have m₂ := m₁.keeps (d := s₁.drawn) (t := s₁.toks) kp rfl rfl
        have l₂ := l₁.keeps kp
        have tg : TG s₁.heap h' ρ₁ ρ₁ := tg_keeps kp _
        refine wpAny_assignInOrder_more (wpAny_assign_Name (stored_name (s := { s₁ with heap := h' }) hx hk m₂ l₂ (ra.mono tg) fun s₃ m₃ l₃ st₃ => ?_))
        refine wpAny_assignInOrder_more (wpAny_assign_Name (stored_name hy hk m₃ l₃ ((rb.mono tg).mono st₃.tg) fun s₄ m₄ l₄ st₄ => ?_))
        refine wpAny_assignInOrder_none ?_
        exact ⟨.next, _, σ₁, ρ₁, .next, m₄, l₄, (((st₁.mono (by simp)).trans (Step.keeps (s := s₁) kp _ _ _)).trans st₃).trans st₄, hq⟩

theorem call_list_empty (e : σ[i]? = some (.sdict [])) (h : Q (.obj σ.length) (σ ++ [.list []])) : CallW C n true (.type "list") [.obj i] σ Q X := by
  intro A fs s ρ vs hA ok m rs
  cases rs with
  | cons r rs =>
    cases rs
    obtain ⟨as, ha, ro⟩ := m.get e
    cases r with
    | obj e =>
      rw [ha] at e; cases e
      cases ro with
      | sdict dd kv =>
        cases kv
        obtain ⟨ep, hat⟩ := dd.dictAt
        rename_i a
        have lo : (a == sysModules) = false := by
          have : ¬ a = sysModules := fun z => m.nosys (z ▸ mem_flat ha (List.mem_singleton.mpr rfl))
          simpa using this
        refine kdl_call (kdl_dict (knd := strKind C.prog C.w) (kvs := []) (ep := ep) lo) (ok.handled rfl) hat (kdl_size (by simp)) fun h' tk acc' c' hk hD hacc => ?_
        have : acc' = #[] := Array.eq_empty_of_size_eq_zero hacc.1
        subst this
        obtain ⟨m', st⟩ := m.new (d := s.drawn) (t := tk) (as := [s.heap.objs.size]) (mo := .list []) hk (fun b hb => by rw [List.mem_singleton.mp hb]; exact ⟨fresh_size _, _, hD⟩) (by simp) (by simpa using m.sys_size) (fun tg => .list ⟨_, hD⟩ .nil) rfl rfl []
        exact ⟨_, _, _, .obj (r := []) (by rw [← m.len]; simp), m', st, h⟩

theorem ints_are2 {h : Heap} {ρ : Adrs} : ∀ {vs : List Value} {ns : List Int}, RVs h ρ vs (ns.map .int) → IntsAre vs ns
  | _, [], .nil => .nil
  | _, n :: ns, .cons a r => by
    cases a
    exact .cons _ _ (ints_are2 r)
theorem call_index {ns : List Int} {k : Int} (e : σ[i]? = some (.list (ns.map .int))) (hl : PyData.layable0 (.list (ns.map .int)) = true) (hk : k ∈ ns) (h : Q (.int (ns.idxOf k : Nat)) σ) : CallW C n q (.builtin "list.index") [.obj i, .int k] σ Q X := by
  intro A fs s ρ vs hA ok m rs
  cases rs with
  | cons r rs =>
    cases rs with
    | cons rv rs =>
      cases rs
      cases rv
      obtain ⟨a, us, kk, rfl, h1, h2, h3⟩ := obj_list m e r
      exact index_list_ints ⟨_, h2, rfl, kk, rfl⟩ (ints_are2 h3) hl hk (PostV.here m (.int _ _) h)
end

/-! MFunC -/
noncomputable def fnOkC (P : Params) (f : Nat) (ns : List Str) : Bool := match (kf P).lookup f with
  | some ⟨_, _, .func fd, _⟩ => (fd.globals == mainGlobals) && fd.closure.isEmpty && (fd.builtins == builtinsNs) && !fd.scope.isCoroutine && !fd.scope.isGenerator && (fd.scope.kind == .function) &&
      ns.all (fun x => fd.scope.names.lookup x == some .local) && codeIn (kf P) fd.code fd.qualname && (match fd.body with | .stmts _ => true | _ => false) && decide ns.Nodup
  | _ => false
theorem fnOkC_facts {P : Params} {f : Nat} {ns : List Str} (h : fnOkC P f ns = true) : (∃ oc od osl, (kf P).lookup f = some ⟨oc, od, .func (fdAt P f), osl⟩) ∧ (∀ L, callEnvC (fdAt P f) L f = envAt P f L) ∧ (fdAt P f).closure = [] ∧ (fdAt P f).scope.isCoroutine = false ∧ (fdAt P f).scope.isGenerator = false ∧
    (fdAt P f).scope.kind = .function ∧ (∀ x ∈ ns, (fdAt P f).scope.names.lookup x = some .local) ∧ codeIn (kf P) (fdAt P f).code (fdAt P f).qualname = true ∧ (fdAt P f).body = .stmts (bodyAt P f) ∧ ns.Nodup := by
  unfold fnOkC at h
  split at h
  · rename_i oc od fd osl e
    have ef : fdAt P f = fd := by unfold fdAt; rw [e]
    simp only [Bool.and_eq_true, Bool.not_eq_true', beq_iff_eq, List.all_eq_true, decide_eq_true_eq] at h
    obtain ⟨⟨⟨⟨⟨⟨⟨⟨⟨h1, h2⟩, h3⟩, h4⟩, h5⟩, h6⟩, h8⟩, h9⟩, h10⟩, h11⟩ := h
    refine ⟨⟨oc, od, osl, by rw [ef]; exact e⟩, fun L => ?_, by rw [ef]; exact List.isEmpty_iff.mp h2, by rw [ef]; exact h4, by rw [ef]; exact h5, by rw [ef]; exact h6, by rw [ef]; exact h8, by rw [ef]; exact h9, ?_, h11⟩
    · rw [envAt_eq, ef]
      unfold callEnvC newEnv envOfC
      simp [h1, h3]
    · unfold bodyAt; rw [ef]
      cases hb : fd.body with
      | stmts b => rfl
      | expr e => rw [hb] at h10; cases h10
  · cases h

section
variable {C : Cfg} {f : Addr} {n : Nat} {q : Bool} {σ : List MO} {Q : MV → List MO → Prop} {X : MV → List MO → Prop} {a1 a2 : MV} {x1 x2 y1 y2 : Str}
/-- the call of a def with two parameters and two names that a comprehension shares -/
theorem codeW_def_c (hok : fnOkC C.w.params f [x1, x2] = true) (hb : ∀ u v : Value, bindArgs (fdAt C.w.params f) ⟨[u, v], []⟩ = pure [(x1, u), (x2, v)]) (hcs : ∀ L, cellsFrom (L + 1) (fdAt C.w.params f).scope.names [] = [(y2, L + 2), (y1, L + 1)]) (hn : n ≤ 30)
    (hy1 : x1 ≠ y1 ∧ x2 ≠ y1 ∧ x1 ≠ y2 ∧ x2 ≠ y2 ∧ y1 ≠ y2)
    (h : ExecsW C f (n + 1) q (bodyAt C.w.params f) [(x1, a1), (x2, a2), (y1, .box 1 σ.length), (y2, .box 2 (σ.length + 1))] (σ ++ [.cell none] ++ [.cell none]) (fun mf _ σ' => FinF σ Q mf σ') (fun b _ σ' => FinX σ X b σ')) : CodeW C n q (.ref f) [a1, a2] σ Q X := by
  intro A fs s ρ vs hA ok m rs
  cases rs with
  | cons r1 rs =>
    cases rs with
    | cons r2 rs =>
      cases rs
      rename_i v1 v2
      obtain ⟨⟨oc, od, osl, ho⟩, henv, hclo, hco, hgen, hk, hloc, hcd, hbody, hnd⟩ := fnOkC_facts hok
      have KI := C.kin.keeps m.stay
      obtain ⟨p, loose, mg, mb, T⟩ := C.top
      have lx1 := hloc x1 (by simp)
      have lx2 := hloc x2 (by simp)
      refine codeAny_call_cells (fd := fdAt C.w.params f) (body := bodyAt C.w.params f) (by have := ok.depth; show A.depth < 1000; omega) (KI _ _ ho) rfl (T.nolimit.keeps m.stay) (codeRec_of KI hcd) hbody (hb v1 v2) hclo
        (fun x hx => .inl (by rcases List.mem_cons.mp hx with e | hx; · rw [e]; exact lx1
                              · rw [List.mem_singleton.mp hx]; exact lx2)) (fun s₁ IC => ?_) hco hgen hk
      rw [henv] at IC ⊢
      obtain ⟨h₀, tk, rfl, hk₀⟩ := IC.done
      have frame : (envAt C.w.params f s.heap.objs.size).frame = some s.heap.objs.size := envAt_frame _ _ _
      have hL : s.heap.get? s.heap.objs.size = none := fresh_size _
      have hns := IC.toInCall.ns
      rw [envAt_locals] at hns
      have ek1 : (envAt C.w.params f s.heap.objs.size).kindOf x1 = some .local := by rw [envAt_eq]; exact lx1
      have ek2 : (envAt C.w.params f s.heap.objs.size).kindOf x2 = some .local := by rw [envAt_eq]; exact lx2
      have ecs : (envAt C.w.params f s.heap.objs.size).cells = [(y2, s.heap.objs.size + 2), (y1, s.heap.objs.size + 1)] := by rw [envAt_eq]; exact hcs _
      have eyy : (y1 == y2) = false := by simpa using hy1.2.2.2.2
      have bc : bindC (envAt C.w.params f s.heap.objs.size).kindOf [(x1, v1), (x2, v2)] (fun x => none) = fun _ => none := by
        unfold bindC; rw [if_pos ek1]; unfold bindC; rw [if_pos ek2]; rfl
      have bl : bindL (envAt C.w.params f s.heap.objs.size).kindOf [(x1, v1), (x2, v2)] (fun x => none) = fun y => if y = x2 then some v2 else if y = x1 then some v1 else none := by
        unfold bindL; rw [if_pos ek1]; unfold bindL; rw [if_pos ek2]; rfl
      have hc1 := IC.cell y1 (s.heap.objs.size + 1) (by rw [ecs]; simp [List.lookup_cons, eyy])
      have hc2 := IC.cell y2 (s.heap.objs.size + 2) (by rw [ecs]; simp [List.lookup_cons])
      rw [bc] at hc1 hc2
      rw [bl] at hns
      have off : ∀ b o, s.heap.get? b = some o → b ≠ s.heap.objs.size := fun b o e => Nat.ne_of_lt (Heap.lt_size e)
      have f1 : s.heap.get? (s.heap.objs.size + 1) = none := Heap.get?_none_of_le (Nat.le_succ _)
      have f2 : s.heap.get? (s.heap.objs.size + 2) = none := Heap.get?_none_of_le (by omega)
      have faeq : fa (envAt C.w.params f s.heap.objs.size :: fs) = s.heap.objs.size :: fa fs := by simp [fa, frame]
      have m₁ : Mem C (envAt C.w.params f s.heap.objs.size :: fs) ⟨h₀, s.gens, s.drawn, tk, s.os⟩ ρ σ := by
        have m' := m.keeps (d := s.drawn) (t := tk) hk₀ rfl rfl
        refine ⟨m'.stay, m'.gens, m'.os, Heap.FunFrames.cons (by rw [envAt_eq]; show (fdAt C.w.params f).scope.kind ≠ _; rw [hk]; decide) frame hns ?_ m'.frames, m'.objs, m'.nodup, fun b hb => ⟨(m'.off b hb).1, ?_, (m'.off b hb).2.2⟩, m'.nosys⟩
        · cases e : C.base.get? s.heap.objs.size with
          | none => rfl
          | some o => exact absurd rfl (off _ o (m.stay _ o e))
        · rw [faeq]
          intro hm
          obtain ⟨o, e⟩ := (m.off b hb).2.2
          rcases List.mem_cons.mp hm with hm | hm
          · exact off b o e hm
          · exact (m.off b hb).2.1 hm
      have big := m.big (h' := s.heap) (fun _ _ e => e)
      have nf1 : s.heap.objs.size + 1 ∉ fa (envAt C.w.params f s.heap.objs.size :: fs) := by
        rw [faeq]; intro hm
        rcases List.mem_cons.mp hm with hm | hm
        · exact absurd hm (Nat.succ_ne_self _)
        · exact m.not_frame f1 hm
      have nf2 : s.heap.objs.size + 2 ∉ fa (envAt C.w.params f s.heap.objs.size :: fs) := by
        rw [faeq]; intro hm
        rcases List.mem_cons.mp hm with hm | hm
        · have : s.heap.objs.size + 2 = s.heap.objs.size := hm
          omega
        · exact m.not_frame f2 hm
      have m₂ := m₁.join (as := [s.heap.objs.size + 1]) (mo := .cell none) (fun b hb => by rw [List.mem_singleton.mp hb]; exact ⟨m.not_flat f1, m.not_base f1, nf1, let ⟨o, ho, _⟩ := hc1; ⟨o, ho⟩⟩) (by simp) (by
        intro hm
        have : (1 : Nat) = s.heap.objs.size + 1 := List.mem_singleton.mp hm
        omega) (.cell0 hc1)
      have m₃ := m₂.join (as := [s.heap.objs.size + 2]) (mo := .cell none) (fun b hb => by
        rw [List.mem_singleton.mp hb]
        refine ⟨fun hm => ?_, m.not_base f2, nf2, let ⟨o, ho, _⟩ := hc2; ⟨o, ho⟩⟩
        rw [List.flatten_append, List.mem_append] at hm
        rcases hm with hm | hm
        · exact m.not_flat f2 hm
        · have : s.heap.objs.size + 2 = s.heap.objs.size + 1 := by simpa using hm
          omega) (by simp) (by
        intro hm
        have : (1 : Nat) = s.heap.objs.size + 2 := List.mem_singleton.mp hm
        omega) (.cell0 hc2)
      have tg₃ : TG h₀ h₀ ρ (ρ ++ [[s.heap.objs.size + 1]] ++ [[s.heap.objs.size + 2]]) := ⟨by rw [List.append_assoc]; exact List.prefix_append _ _, fun _ _ z => z⟩
      have tg₀ := (tg_keeps hk₀ ρ).trans tg₃
      have l₁ : Loc h₀ (ρ ++ [[s.heap.objs.size + 1]] ++ [[s.heap.objs.size + 2]]) s.heap.objs.size [(x1, a1), (x2, a2), (y1, .box 1 σ.length), (y2, .box 2 (σ.length + 1))] := by
        refine ⟨_, hns, fun x mv e => ?_⟩
        have hx12 : ¬ x1 = x2 := by simpa using hnd
        by_cases e1 : x = x1
        · subst e1
          simp at e; subst e
          exact .inl ⟨v1, by simp [hx12], r1.mono tg₀⟩
        · by_cases e2 : x = x2
          · subst e2
            rw [List.lookup_cons, show (x == x1) = false by simpa using e1, List.lookup_cons, beq_self_eq_true] at e
            cases e
            exact .inl ⟨v2, by simp, r2.mono tg₀⟩
          · rw [List.lookup_cons, show (x == x1) = false by simpa using e1, List.lookup_cons, show (x == x2) = false by simpa using e2, List.lookup_cons] at e
            by_cases e3 : x = y1
            · subst e3
              rw [beq_self_eq_true] at e; cases e
              exact .inr ⟨1, σ.length, rfl, by rw [← m.len]; simp⟩
            · rw [show (x == y1) = false by simpa using e3, List.lookup_cons] at e
              by_cases e4 : x = y2
              · subst e4
                rw [beq_self_eq_true] at e; cases e
                exact .inr ⟨2, σ.length + 1, rfl, by rw [← m.len]; simp⟩
              · rw [show (x == y2) = false by simpa using e4] at e; cases e
      have st₁ : ∀ {h' : Heap} {ρ' : Adrs}, Step (envAt C.w.params f s.heap.objs.size :: fs) [s.heap.objs.size] h₀ h' (ρ ++ [[s.heap.objs.size + 1]] ++ [[s.heap.objs.size + 2]]) ρ' → Step fs [] s.heap h' ρ ρ' := fun {h'} {ρ'} st =>
        ⟨tg₀.trans st.tg, fun b hb => by
          rcases st.new b hb with z | z
          · rw [List.flatten_append, List.flatten_append, List.mem_append, List.mem_append] at z
            rcases z with (z | z) | z
            · exact .inl z
            · have : b = s.heap.objs.size + 1 := by simpa using z
              exact .inr (this ▸ f1)
            · have : b = s.heap.objs.size + 2 := by simpa using z
              exact .inr (this ▸ f2)
          · exact .inr (fresh_none (fun b o e => ⟨o, hk₀ b o e⟩) z),
         fun b o e nr nf => st.keep b o (hk₀ b o e) (by
            intro z
            rw [List.flatten_append, List.flatten_append, List.mem_append, List.mem_append] at z
            rcases z with (z | z) | z
            · exact nr z
            · have : b = s.heap.objs.size + 1 := by simpa using z
              rw [this, f1] at e; cases e
            · have : b = s.heap.objs.size + 2 := by simpa using z
              rw [this, f2] at e; cases e) (by rw [faeq]; exact fun hm => (List.mem_cons.mp hm).elim (off b o e) nf),
         fun b o e hf _ => st.slot b o (hk₀ b o e) (by rw [faeq]; exact List.mem_cons_of_mem _ hf) (by intro hm; exact off b o e (List.mem_singleton.mp hm)),
         fun b o e => st.alive b o (hk₀ b o e)⟩
      have shrink : ∀ {s' : Shared} {ρ' : Adrs} {σ' : List MO}, Mem C (envAt C.w.params f s.heap.objs.size :: fs) s' ρ' σ' → Mem C fs s' ρ' σ' := fun {s'} {ρ'} {σ'} m' =>
        ⟨m'.stay, m'.gens, m'.os, m'.frames.2.2, m'.objs, m'.nodup, fun b hb => ⟨(m'.off b hb).1, fun hf => (m'.off b hb).2.1 (by rw [faeq]; exact List.mem_cons_of_mem _ hf), (m'.off b hb).2.2⟩, m'.nosys⟩
      refine wpAny_mono (h (A.deeper (envAt C.w.params f s.heap.objs.size)) fs s.heap.objs.size ⟨h₀, s.gens, s.drawn, tk, s.os⟩ _ ?_ ⟨ok.handled, ?_, ?_⟩ m₃ l₁) (fun fl s' zz => ?_) fun e s' px => ?_
      · show A.frames.map _ = _; rw [hA]; rfl
      · show A.depth + 1 ≤ _; have := ok.depth; omega
      · show A.units + 3 ≤ _; have := ok.units; omega
      · obtain ⟨mf, loc', σ', ρ', rf, m', l', st, k, dr, hu, hq⟩ := zz
        show PostV C fs s ρ Q _ s'
        refine ⟨mf.val, σ'.take k, ρ'.take k, ?_, m.drop (shrink m') dr, (st₁ st).drop (by rw [m.len]; exact dr.1), hq⟩
        cases rf with
        | ret r => exact r.take hu
        | _ => exact .none
      · obtain ⟨ball, loc', σ', ρ', x, m', l', st, k, dr, hu, hx⟩ := px
        have st₂ := st₁ st
        have x' : Exc C (envAt C.w.params f s.heap.objs.size :: fs) s.heap s'.heap ρ' e ball := x.shift (Step.keeps (s := s) hk₀ fs [] ρ)
        unfold leaving
        refine wpAny_bind (flight x' m' st₂.alive ?_ frame fun h' x'' m'' fly => ?_)
        · show A.frames.map _ = _; rw [hA]; rfl
        · refine ⟨ball, σ'.take k, ρ'.take k, ?_, m.drop (shrink m'') dr, ?_, hx⟩
          · obtain ⟨a, d, us, es, c, z1, z2, z3, z4, z5, z6, z7, z8, z9, z10, z11, z12, z13⟩ := x''
            have sub : ∀ b, b ∈ (ρ'.take k).flatten → b ∈ ρ'.flatten := fun b hb => (flat_take _ _).mem hb
            refine ⟨a, d, us, es, c, z1, z2, z3, z4.take (by simp [fldUnder, hu]), z5.imp id ?_, z6, z7, z8, fun hb => z9 (sub _ hb), fun hb => z10 (sub _ hb), z11, z12, ⟨fun hf => z13.1 (by rw [faeq]; exact List.mem_cons_of_mem _ hf), z13.2⟩⟩
            rintro ⟨T, oT, ts, t1, t2, t3, t4, t5, t6, t7, t8⟩
            exact ⟨T, oT, ts, t1, t2, t3, t4, t5, t6, fun hb => t7 (sub _ hb), t8⟩
          · refine Step.drop ?_ (by rw [m.len]; exact dr.1)
            have fly' : Fly fs s.heap s'.heap h' ρ' := ⟨fly.tg, fun b o hb e nf => by
              by_cases hbL : b = s.heap.objs.size
              · rcases hb with hb | hb
                · exact absurd (hbL ▸ hL) hb
                · exact absurd hb (fun hm => (m'.off b hm).2.1 (by rw [faeq, hbL]; exact List.mem_cons_self))
              · exact fly.keep b o hb e (by rw [faeq]; exact fun hm => (List.mem_cons.mp hm).elim hbL nf),
              fun b o e hf => fly.slot b o e (by rw [faeq]; exact List.mem_cons_of_mem _ hf), fly.alive⟩
            exact st₂.fly fly'
end

/-! MDefs -/
theorem len1 {vs : List Value} (h : vs.length = 1) : ∃ u, vs = [u] := List.length_eq_one_iff.mp h
theorem len2 {vs : List Value} (h : vs.length = 2) : ∃ u v, vs = [u, v] := by
  rcases vs with _ | ⟨u, r⟩
  · cases h
  · obtain ⟨v, rfl⟩ := len1 (Nat.succ.inj h)
    exact ⟨u, v, rfl⟩
theorem len3 {vs : List Value} (h : vs.length = 3) : ∃ u v w, vs = [u, v, w] := by
  rcases vs with _ | ⟨u, r⟩
  · cases h
  · obtain ⟨v, w, rfl⟩ := len2 (Nat.succ.inj h)
    exact ⟨u, v, w, rfl⟩
section
variable {C : Cfg} {f : Addr} {n : Nat} {q : Bool} {σ : List MO} {Q : MV → List MO → Prop} {X : MV → List MO → Prop} {a1 a2 a3 : MV} {x1 x2 x3 : Str}
theorem def0 (hok : fnOk C.w.params f [] = true) (hb : bindArgs (fdAt C.w.params f) ⟨[], []⟩ = pure []) (hn : n ≤ 30)
    (h : ExecsW C f (n + 1) q (bodyAt C.w.params f) [] σ (fun mf _ σ' => FinF σ Q mf σ') (fun b _ σ' => FinX σ X b σ')) : CodeW C n q (.ref f) [] σ Q X :=
  codeW_def (ns := []) (dv := []) (dm := []) hok (fun s vs _ hl => by
    cases vs with
    | nil => exact BindsTo.of_eq hb
    | cons _ _ => cases hl) (fun _ _ => .nil) hn h
theorem def1 (hok : fnOk C.w.params f [x1] = true) (hb : ∀ u, bindArgs (fdAt C.w.params f) ⟨[u], []⟩ = pure [(x1, u)]) (hn : n ≤ 30)
    (h : ExecsW C f (n + 1) q (bodyAt C.w.params f) [(x1, a1)] σ (fun mf _ σ' => FinF σ Q mf σ') (fun b _ σ' => FinX σ X b σ')) : CodeW C n q (.ref f) [a1] σ Q X :=
  codeW_def (ns := [x1]) (dv := []) (dm := []) hok (fun s vs _ hl => by
    obtain ⟨u, rfl⟩ := len1 hl
    exact BindsTo.of_eq (hb u)) (fun _ _ => .nil) hn h
theorem def2 (hok : fnOk C.w.params f [x1, x2] = true) (hb : ∀ u v, bindArgs (fdAt C.w.params f) ⟨[u, v], []⟩ = pure [(x1, u), (x2, v)]) (hn : n ≤ 30)
    (h : ExecsW C f (n + 1) q (bodyAt C.w.params f) [(x1, a1), (x2, a2)] σ (fun mf _ σ' => FinF σ Q mf σ') (fun b _ σ' => FinX σ X b σ')) : CodeW C n q (.ref f) [a1, a2] σ Q X :=
  codeW_def (ns := [x1, x2]) (dv := []) (dm := []) hok (fun s vs _ hl => by
    obtain ⟨u, v, rfl⟩ := len2 hl
    exact BindsTo.of_eq (hb u v)) (fun _ _ => .nil) hn h
theorem def3 (hok : fnOk C.w.params f [x1, x2, x3] = true) (hb : ∀ u v w, bindArgs (fdAt C.w.params f) ⟨[u, v, w], []⟩ = pure [(x1, u), (x2, v), (x3, w)]) (hn : n ≤ 30)
    (h : ExecsW C f (n + 1) q (bodyAt C.w.params f) [(x1, a1), (x2, a2), (x3, a3)] σ (fun mf _ σ' => FinF σ Q mf σ') (fun b _ σ' => FinX σ X b σ')) : CodeW C n q (.ref f) [a1, a2, a3] σ Q X :=
  codeW_def (ns := [x1, x2, x3]) (dv := []) (dm := []) hok (fun s vs _ hl => by
    obtain ⟨u, v, w, rfl⟩ := len3 hl
    exact BindsTo.of_eq (hb u v w)) (fun _ _ => .nil) hn h
end

/-! MNames -/
section
variable {C : Cfg} {f : Addr} {n : Nat} {q : Bool} {loc : List (Str × MV)} {σ : List MO} {Q : MV → List MO → Prop} {X : MV → List MO → Prop} {pos : Pos} {S : Nat} {fs : List (Str × MV)} {P : Value → Prop} {c : Addr} {x : Str} {r : MV}
def MV.notRaw : MV → Bool
  | .raw _ => false
  | _ => true
theorem attr_of {P : MV → Prop} (e : σ[S]? = some (.inst c fs)) (pc : plainCls C.K c x = true) (l : fs.lookup x = some r) (nr : r.notRaw = true) (h : P r) : ∃ i c fs r, MV.obj S = .obj i ∧ σ[i]? = some (.inst c fs) ∧ plainCls C.K c x = true ∧ fs.lookup x = some r ∧ (∀ u, r ≠ .raw u) ∧ P r :=
  ⟨S, c, fs, r, rfl, e, pc, l, (fun u e => by subst e; cases nr), h⟩

theorem gv_A_NIL (P : Params) : ∃ t, nsIn (kf P) mainGlobals (Str.ofString "A_NIL") = some (some (.int 0 t)) := ⟨_, rfl⟩
theorem nm_A_NIL (hl : (fdAt C.w.params f).scope.names.lookup (Str.ofString "A_NIL") = some .globalImplicit) (hk : (fdAt C.w.params f).scope.kind = .function) (h : Q (.int 0) σ) : EvalW C f n q (.Name (Str.ofString "A_NIL") pos) loc σ Q X :=
  let ⟨_, e⟩ := gv_A_NIL C.w.params
  ev_global hl e (fun _ _ => .int _ _) h hk (by decide +kernel)
theorem gv_A_SYSTEM (P : Params) : ∃ t, nsIn (kf P) mainGlobals (Str.ofString "A_SYSTEM") = some (some (.int 25 t)) := ⟨_, rfl⟩
theorem nm_A_SYSTEM (hl : (fdAt C.w.params f).scope.names.lookup (Str.ofString "A_SYSTEM") = some .globalImplicit) (hk : (fdAt C.w.params f).scope.kind = .function) (h : Q (.int 25) σ) : EvalW C f n q (.Name (Str.ofString "A_SYSTEM") pos) loc σ Q X :=
  let ⟨_, e⟩ := gv_A_SYSTEM C.w.params
  ev_global hl e (fun _ _ => .int _ _) h hk (by decide +kernel)
theorem gv_F_DOT (P : Params) : ∃ t, nsIn (kf P) mainGlobals (Str.ofString "F_DOT") = some (some (.int 0 t)) := ⟨_, rfl⟩
theorem nm_F_DOT (hl : (fdAt C.w.params f).scope.names.lookup (Str.ofString "F_DOT") = some .globalImplicit) (hk : (fdAt C.w.params f).scope.kind = .function) (h : Q (.int 0) σ) : EvalW C f n q (.Name (Str.ofString "F_DOT") pos) loc σ Q X :=
  let ⟨_, e⟩ := gv_F_DOT C.w.params
  ev_global hl e (fun _ _ => .int _ _) h hk (by decide +kernel)
theorem gv_F_MINUS1 (P : Params) : ∃ t, nsIn (kf P) mainGlobals (Str.ofString "F_MINUS1") = some (some (.int 12 t)) := ⟨_, rfl⟩
theorem nm_F_MINUS1 (hl : (fdAt C.w.params f).scope.names.lookup (Str.ofString "F_MINUS1") = some .globalImplicit) (hk : (fdAt C.w.params f).scope.kind = .function) (h : Q (.int 12) σ) : EvalW C f n q (.Name (Str.ofString "F_MINUS1") pos) loc σ Q X :=
  let ⟨_, e⟩ := gv_F_MINUS1 C.w.params
  ev_global hl e (fun _ _ => .int _ _) h hk (by decide +kernel)
theorem gv_F_MINUS (P : Params) : ∃ t, nsIn (kf P) mainGlobals (Str.ofString "F_MINUS") = some (some (.int 13 t)) := ⟨_, rfl⟩
theorem nm_F_MINUS (hl : (fdAt C.w.params f).scope.names.lookup (Str.ofString "F_MINUS") = some .globalImplicit) (hk : (fdAt C.w.params f).scope.kind = .function) (h : Q (.int 13) σ) : EvalW C f n q (.Name (Str.ofString "F_MINUS") pos) loc σ Q X :=
  let ⟨_, e⟩ := gv_F_MINUS C.w.params
  ev_global hl e (fun _ _ => .int _ _) h hk (by decide +kernel)
theorem gv_F_ERROR (P : Params) : ∃ t, nsIn (kf P) mainGlobals (Str.ofString "F_ERROR") = some (some (.int 16 t)) := ⟨_, rfl⟩
theorem nm_F_ERROR (hl : (fdAt C.w.params f).scope.names.lookup (Str.ofString "F_ERROR") = some .globalImplicit) (hk : (fdAt C.w.params f).scope.kind = .function) (h : Q (.int 16) σ) : EvalW C f n q (.Name (Str.ofString "F_ERROR") pos) loc σ Q X :=
  let ⟨_, e⟩ := gv_F_ERROR C.w.params
  ev_global hl e (fun _ _ => .int _ _) h hk (by decide +kernel)
theorem gv_F_CATCH (P : Params) : ∃ t, nsIn (kf P) mainGlobals (Str.ofString "F_CATCH") = some (some (.int 18 t)) := ⟨_, rfl⟩
theorem nm_F_CATCH (hl : (fdAt C.w.params f).scope.names.lookup (Str.ofString "F_CATCH") = some .globalImplicit) (hk : (fdAt C.w.params f).scope.kind = .function) (h : Q (.int 18) σ) : EvalW C f n q (.Name (Str.ofString "F_CATCH") pos) loc σ Q X :=
  let ⟨_, e⟩ := gv_F_CATCH C.w.params
  ev_global hl e (fun _ _ => .int _ _) h hk (by decide +kernel)
theorem gv_REF (P : Params) : ∃ t, nsIn (kf P) mainGlobals (Str.ofString "REF") = some (some (.int 0 t)) := ⟨_, rfl⟩
theorem nm_REF (hl : (fdAt C.w.params f).scope.names.lookup (Str.ofString "REF") = some .globalImplicit) (hk : (fdAt C.w.params f).scope.kind = .function) (h : Q (.int 0) σ) : EvalW C f n q (.Name (Str.ofString "REF") pos) loc σ Q X :=
  let ⟨_, e⟩ := gv_REF C.w.params
  ev_global hl e (fun _ _ => .int _ _) h hk (by decide +kernel)
theorem el_REF {scope : Scope} {cl : Addr → List (Str × Addr)} {y : Str} {i : Int} (hl : scope.names.lookup (Str.ofString "REF") = some .globalImplicit) (hk : scope.kind = .function) : EltW C f n scope cl y loc σ i (.Name (Str.ofString "REF") pos) (.int 0) :=
  let ⟨_, e⟩ := gv_REF C.w.params
  el_global hl e (fun _ _ => .int _ _) hk (by decide +kernel)
theorem gv_SRF (P : Params) : ∃ t, nsIn (kf P) mainGlobals (Str.ofString "SRF") = some (some (.int 1 t)) := ⟨_, rfl⟩
theorem nm_SRF (hl : (fdAt C.w.params f).scope.names.lookup (Str.ofString "SRF") = some .globalImplicit) (hk : (fdAt C.w.params f).scope.kind = .function) (h : Q (.int 1) σ) : EvalW C f n q (.Name (Str.ofString "SRF") pos) loc σ Q X :=
  let ⟨_, e⟩ := gv_SRF C.w.params
  ev_global hl e (fun _ _ => .int _ _) h hk (by decide +kernel)
theorem gv_STR (P : Params) : ∃ t, nsIn (kf P) mainGlobals (Str.ofString "STR") = some (some (.int 2 t)) := ⟨_, rfl⟩
theorem nm_STR (hl : (fdAt C.w.params f).scope.names.lookup (Str.ofString "STR") = some .globalImplicit) (hk : (fdAt C.w.params f).scope.kind = .function) (h : Q (.int 2) σ) : EvalW C f n q (.Name (Str.ofString "STR") pos) loc σ Q X :=
  let ⟨_, e⟩ := gv_STR C.w.params
  ev_global hl e (fun _ _ => .int _ _) h hk (by decide +kernel)
theorem gv_LIS (P : Params) : ∃ t, nsIn (kf P) mainGlobals (Str.ofString "LIS") = some (some (.int 3 t)) := ⟨_, rfl⟩
theorem nm_LIS (hl : (fdAt C.w.params f).scope.names.lookup (Str.ofString "LIS") = some .globalImplicit) (hk : (fdAt C.w.params f).scope.kind = .function) (h : Q (.int 3) σ) : EvalW C f n q (.Name (Str.ofString "LIS") pos) loc σ Q X :=
  let ⟨_, e⟩ := gv_LIS C.w.params
  ev_global hl e (fun _ _ => .int _ _) h hk (by decide +kernel)
theorem gv_CON (P : Params) : ∃ t, nsIn (kf P) mainGlobals (Str.ofString "CON") = some (some (.int 4 t)) := ⟨_, rfl⟩
theorem nm_CON (hl : (fdAt C.w.params f).scope.names.lookup (Str.ofString "CON") = some .globalImplicit) (hk : (fdAt C.w.params f).scope.kind = .function) (h : Q (.int 4) σ) : EvalW C f n q (.Name (Str.ofString "CON") pos) loc σ Q X :=
  let ⟨_, e⟩ := gv_CON C.w.params
  ev_global hl e (fun _ _ => .int _ _) h hk (by decide +kernel)
theorem gv_INT (P : Params) : ∃ t, nsIn (kf P) mainGlobals (Str.ofString "INT") = some (some (.int 5 t)) := ⟨_, rfl⟩
theorem nm_INT (hl : (fdAt C.w.params f).scope.names.lookup (Str.ofString "INT") = some .globalImplicit) (hk : (fdAt C.w.params f).scope.kind = .function) (h : Q (.int 5) σ) : EvalW C f n q (.Name (Str.ofString "INT") pos) loc σ Q X :=
  let ⟨_, e⟩ := gv_INT C.w.params
  ev_global hl e (fun _ _ => .int _ _) h hk (by decide +kernel)
theorem el_INT {scope : Scope} {cl : Addr → List (Str × Addr)} {y : Str} {i : Int} (hl : scope.names.lookup (Str.ofString "INT") = some .globalImplicit) (hk : scope.kind = .function) : EltW C f n scope cl y loc σ i (.Name (Str.ofString "INT") pos) (.int 5) :=
  let ⟨_, e⟩ := gv_INT C.w.params
  el_global hl e (fun _ _ => .int _ _) hk (by decide +kernel)
theorem gv_FUN (P : Params) : ∃ t, nsIn (kf P) mainGlobals (Str.ofString "FUN") = some (some (.int 6 t)) := ⟨_, rfl⟩
theorem nm_FUN (hl : (fdAt C.w.params f).scope.names.lookup (Str.ofString "FUN") = some .globalImplicit) (hk : (fdAt C.w.params f).scope.kind = .function) (h : Q (.int 6) σ) : EvalW C f n q (.Name (Str.ofString "FUN") pos) loc σ Q X :=
  let ⟨_, e⟩ := gv_FUN C.w.params
  ev_global hl e (fun _ _ => .int _ _) h hk (by decide +kernel)
theorem gv_PrologError (P : Params) : nsIn (kf P) mainGlobals (Str.ofString "PrologError") = some (some (.ref 51)) := by kernel_rfl
theorem nm_PrologError (hl : (fdAt C.w.params f).scope.names.lookup (Str.ofString "PrologError") = some .globalImplicit) (hk : (fdAt C.w.params f).scope.kind = .function) (h : Q (.raw (.ref 51)) σ) : EvalW C f n q (.Name (Str.ofString "PrologError") pos) loc σ Q X :=
  ev_global hl (gv_PrologError C.w.params) (fun _ _ => .raw _) h hk (by decide +kernel)
theorem gv_fixed_atoms (P : Params) : nsIn (kf P) mainGlobals (Str.ofString "fixed_atoms") = some (some (.ref 60)) := by kernel_rfl
theorem nm_fixed_atoms (hl : (fdAt C.w.params f).scope.names.lookup (Str.ofString "fixed_atoms") = some .globalImplicit) (hk : (fdAt C.w.params f).scope.kind = .function) (h : Q (.raw (.ref 60)) σ) : EvalW C f n q (.Name (Str.ofString "fixed_atoms") pos) loc σ Q X :=
  ev_global hl (gv_fixed_atoms C.w.params) (fun _ _ => .raw _) h hk (by decide +kernel)
theorem gv_fixed_functors (P : Params) : nsIn (kf P) mainGlobals (Str.ofString "fixed_functors") = some (some (.ref 67)) := by kernel_rfl
theorem nm_fixed_functors (hl : (fdAt C.w.params f).scope.names.lookup (Str.ofString "fixed_functors") = some .globalImplicit) (hk : (fdAt C.w.params f).scope.kind = .function) (h : Q (.raw (.ref 67)) σ) : EvalW C f n q (.Name (Str.ofString "fixed_functors") pos) loc σ Q X :=
  ev_global hl (gv_fixed_functors C.w.params) (fun _ _ => .raw _) h hk (by decide +kernel)
theorem gv_Symbols (P : Params) : nsIn (kf P) mainGlobals (Str.ofString "Symbols") = some (some (.ref 154)) := by kernel_rfl
theorem nm_Symbols (hl : (fdAt C.w.params f).scope.names.lookup (Str.ofString "Symbols") = some .globalImplicit) (hk : (fdAt C.w.params f).scope.kind = .function) (h : Q (.raw (.ref 154)) σ) : EvalW C f n q (.Name (Str.ofString "Symbols") pos) loc σ Q X :=
  ev_global hl (gv_Symbols C.w.params) (fun _ _ => .raw _) h hk (by decide +kernel)
theorem gv_system_error (P : Params) : nsIn (kf P) mainGlobals (Str.ofString "system_error") = some (some (.ref 165)) := by kernel_rfl
theorem nm_system_error (hl : (fdAt C.w.params f).scope.names.lookup (Str.ofString "system_error") = some .globalImplicit) (hk : (fdAt C.w.params f).scope.kind = .function) (h : Q (.raw (.ref 165)) σ) : EvalW C f n q (.Name (Str.ofString "system_error") pos) loc σ Q X :=
  ev_global hl (gv_system_error C.w.params) (fun _ _ => .raw _) h hk (by decide +kernel)
theorem gv_formal_of (P : Params) : nsIn (kf P) mainGlobals (Str.ofString "formal_of") = some (some (.ref 172)) := by kernel_rfl
theorem nm_formal_of (hl : (fdAt C.w.params f).scope.names.lookup (Str.ofString "formal_of") = some .globalImplicit) (hk : (fdAt C.w.params f).scope.kind = .function) (h : Q (.raw (.ref 172)) σ) : EvalW C f n q (.Name (Str.ofString "formal_of") pos) loc σ Q X :=
  ev_global hl (gv_formal_of C.w.params) (fun _ _ => .raw _) h hk (by decide +kernel)
theorem gv_resource_error (P : Params) : nsIn (kf P) mainGlobals (Str.ofString "resource_error") = some (some (.ref 179)) := by kernel_rfl
theorem nm_resource_error (hl : (fdAt C.w.params f).scope.names.lookup (Str.ofString "resource_error") = some .globalImplicit) (hk : (fdAt C.w.params f).scope.kind = .function) (h : Q (.raw (.ref 179)) σ) : EvalW C f n q (.Name (Str.ofString "resource_error") pos) loc σ Q X :=
  ev_global hl (gv_resource_error C.w.params) (fun _ _ => .raw _) h hk (by decide +kernel)
theorem gv_Store (P : Params) : nsIn (kf P) mainGlobals (Str.ofString "Store") = some (some (.ref 373)) := by kernel_rfl
theorem nm_Store (hl : (fdAt C.w.params f).scope.names.lookup (Str.ofString "Store") = some .globalImplicit) (hk : (fdAt C.w.params f).scope.kind = .function) (h : Q (.raw (.ref 373)) σ) : EvalW C f n q (.Name (Str.ofString "Store") pos) loc σ Q X :=
  ev_global hl (gv_Store C.w.params) (fun _ _ => .raw _) h hk (by decide +kernel)
theorem gv_law_row (P : Params) : nsIn (kf P) mainGlobals (Str.ofString "_law_row") = some (some (.ref 382)) := by kernel_rfl
theorem nm_law_row (hl : (fdAt C.w.params f).scope.names.lookup (Str.ofString "_law_row") = some .globalImplicit) (hk : (fdAt C.w.params f).scope.kind = .function) (h : Q (.raw (.ref 382)) σ) : EvalW C f n q (.Name (Str.ofString "_law_row") pos) loc σ Q X :=
  ev_global hl (gv_law_row C.w.params) (fun _ _ => .raw _) h hk (by decide +kernel)
theorem gv_law_next (P : Params) : nsIn (kf P) mainGlobals (Str.ofString "_law_next") = some (some (.ref 389)) := by kernel_rfl
theorem nm_law_next (hl : (fdAt C.w.params f).scope.names.lookup (Str.ofString "_law_next") = some .globalImplicit) (hk : (fdAt C.w.params f).scope.kind = .function) (h : Q (.raw (.ref 389)) σ) : EvalW C f n q (.Name (Str.ofString "_law_next") pos) loc σ Q X :=
  ev_global hl (gv_law_next C.w.params) (fun _ _ => .raw _) h hk (by decide +kernel)
theorem gv_law_deed (P : Params) : nsIn (kf P) mainGlobals (Str.ofString "_law_deed") = some (some (.ref 394)) := by kernel_rfl
theorem nm_law_deed (hl : (fdAt C.w.params f).scope.names.lookup (Str.ofString "_law_deed") = some .globalImplicit) (hk : (fdAt C.w.params f).scope.kind = .function) (h : Q (.raw (.ref 394)) σ) : EvalW C f n q (.Name (Str.ofString "_law_deed") pos) loc σ Q X :=
  ev_global hl (gv_law_deed C.w.params) (fun _ _ => .raw _) h hk (by decide +kernel)
theorem gn_len (P : Params) : nsIn (kf P) mainGlobals (Str.ofString "len") = some none := by kernel_rfl
theorem nm_len (hl : (fdAt C.w.params f).scope.names.lookup (Str.ofString "len") = some .globalImplicit) (hk : (fdAt C.w.params f).scope.kind = .function) (h : Q (.raw (.builtin "len")) σ) : EvalW C f n q (.Name (Str.ofString "len") pos) loc σ Q X :=
  ev_builtin hl (gn_len C.w.params) rfl h (by decide +kernel) hk (by decide +kernel)
theorem gn_range (P : Params) : nsIn (kf P) mainGlobals (Str.ofString "range") = some none := by kernel_rfl
theorem nm_range (hl : (fdAt C.w.params f).scope.names.lookup (Str.ofString "range") = some .globalImplicit) (hk : (fdAt C.w.params f).scope.kind = .function) (h : Q (.raw (.type "range")) σ) : EvalW C f n q (.Name (Str.ofString "range") pos) loc σ Q X :=
  ev_builtin hl (gn_range C.w.params) rfl h (by decide +kernel) hk (by decide +kernel)
theorem gn_isinstance (P : Params) : nsIn (kf P) mainGlobals (Str.ofString "isinstance") = some none := by kernel_rfl
theorem nm_isinstance (hl : (fdAt C.w.params f).scope.names.lookup (Str.ofString "isinstance") = some .globalImplicit) (hk : (fdAt C.w.params f).scope.kind = .function) (h : Q (.raw (.builtin "isinstance")) σ) : EvalW C f n q (.Name (Str.ofString "isinstance") pos) loc σ Q X :=
  ev_builtin hl (gn_isinstance C.w.params) rfl h (by decide +kernel) hk (by decide +kernel)
theorem gn_tuple (P : Params) : nsIn (kf P) mainGlobals (Str.ofString "tuple") = some none := by kernel_rfl
theorem nm_tuple (hl : (fdAt C.w.params f).scope.names.lookup (Str.ofString "tuple") = some .globalImplicit) (hk : (fdAt C.w.params f).scope.kind = .function) (h : Q (.raw (.type "tuple")) σ) : EvalW C f n q (.Name (Str.ofString "tuple") pos) loc σ Q X :=
  ev_builtin hl (gn_tuple C.w.params) rfl h (by decide +kernel) hk (by decide +kernel)
theorem gn_list (P : Params) : nsIn (kf P) mainGlobals (Str.ofString "list") = some none := by kernel_rfl
theorem nm_list (hl : (fdAt C.w.params f).scope.names.lookup (Str.ofString "list") = some .globalImplicit) (hk : (fdAt C.w.params f).scope.kind = .function) (h : Q (.raw (.type "list")) σ) : EvalW C f n q (.Name (Str.ofString "list") pos) loc σ Q X :=
  ev_builtin hl (gn_list C.w.params) rfl h (by decide +kernel) hk (by decide +kernel)
theorem gn_str (P : Params) : nsIn (kf P) mainGlobals (Str.ofString "str") = some none := by kernel_rfl
theorem nm_str (hl : (fdAt C.w.params f).scope.names.lookup (Str.ofString "str") = some .globalImplicit) (hk : (fdAt C.w.params f).scope.kind = .function) (h : Q (.raw (.type "str")) σ) : EvalW C f n q (.Name (Str.ofString "str") pos) loc σ Q X :=
  ev_builtin hl (gn_str C.w.params) rfl h (by decide +kernel) hk (by decide +kernel)
theorem el_lenName {scope : Scope} {cl : Addr → List (Str × Addr)} {y : Str} {i : Int} (hl : scope.names.lookup (Str.ofString "len") = some .globalImplicit) (hk : scope.kind = .function) : EltW C f n scope cl y loc σ i (.Name (Str.ofString "len") pos) (.raw (.builtin "len")) :=
  el_builtin hl (gn_len C.w.params) rfl (by decide +kernel) hk (by decide +kernel)
theorem mi_push (P : Params) : methIn (kf P) 373 (Str.ofString "push") 201 = true := by kernel_rfl
theorem mt_push (e : σ[S]? = some (.inst 373 fs)) (l : fs.lookup (Str.ofString "push") = none) (h : P (.ref 201)) : ∃ g, MethOf C σ (.obj S) (Str.ofString "push") g ∧ P g := ⟨_, .inst e (mi_push C.w.params) l, h⟩
theorem mi_new_var (P : Params) : methIn (kf P) 373 (Str.ofString "new_var") 208 = true := by kernel_rfl
theorem mt_new_var (e : σ[S]? = some (.inst 373 fs)) (l : fs.lookup (Str.ofString "new_var") = none) (h : P (.ref 208)) : ∃ g, MethOf C σ (.obj S) (Str.ofString "new_var") g ∧ P g := ⟨_, .inst e (mi_new_var C.w.params) l, h⟩
theorem mi_reserve (P : Params) : methIn (kf P) 373 (Str.ofString "reserve") 215 = true := by kernel_rfl
theorem mt_reserve (e : σ[S]? = some (.inst 373 fs)) (l : fs.lookup (Str.ofString "reserve") = none) (h : P (.ref 215)) : ∃ g, MethOf C σ (.obj S) (Str.ofString "reserve") g ∧ P g := ⟨_, .inst e (mi_reserve C.w.params) l, h⟩
theorem mi_trim (P : Params) : methIn (kf P) 373 (Str.ofString "trim") 222 = true := by kernel_rfl
theorem mt_trim (e : σ[S]? = some (.inst 373 fs)) (l : fs.lookup (Str.ofString "trim") = none) (h : P (.ref 222)) : ∃ g, MethOf C σ (.obj S) (Str.ofString "trim") g ∧ P g := ⟨_, .inst e (mi_trim C.w.params) l, h⟩
theorem mi_deref (P : Params) : methIn (kf P) 373 (Str.ofString "deref") 229 = true := by kernel_rfl
theorem mt_deref (e : σ[S]? = some (.inst 373 fs)) (l : fs.lookup (Str.ofString "deref") = none) (h : P (.ref 229)) : ∃ g, MethOf C σ (.obj S) (Str.ofString "deref") g ∧ P g := ⟨_, .inst e (mi_deref C.w.params) l, h⟩
theorem mi_globalise (P : Params) : methIn (kf P) 373 (Str.ofString "globalise") 257 = true := by kernel_rfl
theorem mt_globalise (e : σ[S]? = some (.inst 373 fs)) (l : fs.lookup (Str.ofString "globalise") = none) (h : P (.ref 257)) : ∃ g, MethOf C σ (.obj S) (Str.ofString "globalise") g ∧ P g := ⟨_, .inst e (mi_globalise C.w.params) l, h⟩
theorem mi_base (P : Params) : methIn (kf P) 373 (Str.ofString "base") 306 = true := by kernel_rfl
theorem mt_base (e : σ[S]? = some (.inst 373 fs)) (l : fs.lookup (Str.ofString "base") = none) (h : P (.ref 306)) : ∃ g, MethOf C σ (.obj S) (Str.ofString "base") g ∧ P g := ⟨_, .inst e (mi_base C.w.params) l, h⟩
theorem mi_new_block (P : Params) : methIn (kf P) 373 (Str.ofString "new_block") 320 = true := by kernel_rfl
theorem mt_new_block (e : σ[S]? = some (.inst 373 fs)) (l : fs.lookup (Str.ofString "new_block") = none) (h : P (.ref 320)) : ∃ g, MethOf C σ (.obj S) (Str.ofString "new_block") g ∧ P g := ⟨_, .inst e (mi_new_block C.w.params) l, h⟩
theorem mi_new_struct (P : Params) : methIn (kf P) 373 (Str.ofString "new_struct") 341 = true := by kernel_rfl
theorem mt_new_struct (e : σ[S]? = some (.inst 373 fs)) (l : fs.lookup (Str.ofString "new_struct") = none) (h : P (.ref 341)) : ∃ g, MethOf C σ (.obj S) (Str.ofString "new_struct") g ∧ P g := ⟨_, .inst e (mi_new_struct C.w.params) l, h⟩
theorem mi_build_list (P : Params) : methIn (kf P) 373 (Str.ofString "build_list") 349 = true := by kernel_rfl
theorem mt_build_list (e : σ[S]? = some (.inst 373 fs)) (l : fs.lookup (Str.ofString "build_list") = none) (h : P (.ref 349)) : ∃ g, MethOf C σ (.obj S) (Str.ofString "build_list") g ∧ P g := ⟨_, .inst e (mi_build_list C.w.params) l, h⟩
theorem mi_put_term (P : Params) : methIn (kf P) 373 (Str.ofString "put_term") 363 = true := by kernel_rfl
theorem mt_put_term (e : σ[S]? = some (.inst 373 fs)) (l : fs.lookup (Str.ofString "put_term") = none) (h : P (.ref 363)) : ∃ g, MethOf C σ (.obj S) (Str.ofString "put_term") g ∧ P g := ⟨_, .inst e (mi_put_term C.w.params) l, h⟩
theorem mi_atom (P : Params) : methIn (kf P) 154 (Str.ofString "atom") 88 = true := by kernel_rfl
theorem mt_atom (e : σ[S]? = some (.inst 154 fs)) (l : fs.lookup (Str.ofString "atom") = none) (h : P (.ref 88)) : ∃ g, MethOf C σ (.obj S) (Str.ofString "atom") g ∧ P g := ⟨_, .inst e (mi_atom C.w.params) l, h⟩
theorem mi_functor (P : Params) : methIn (kf P) 154 (Str.ofString "functor") 102 = true := by kernel_rfl
theorem mt_functor (e : σ[S]? = some (.inst 154 fs)) (l : fs.lookup (Str.ofString "functor") = none) (h : P (.ref 102)) : ∃ g, MethOf C σ (.obj S) (Str.ofString "functor") g ∧ P g := ⟨_, .inst e (mi_functor C.w.params) l, h⟩
theorem mi_func (P : Params) : methIn (kf P) 154 (Str.ofString "func") 109 = true := by kernel_rfl
theorem mt_func (e : σ[S]? = some (.inst 154 fs)) (l : fs.lookup (Str.ofString "func") = none) (h : P (.ref 109)) : ∃ g, MethOf C σ (.obj S) (Str.ofString "func") g ∧ P g := ⟨_, .inst e (mi_func C.w.params) l, h⟩
theorem mi_arity (P : Params) : methIn (kf P) 154 (Str.ofString "arity") 123 = true := by kernel_rfl
theorem mt_arity (e : σ[S]? = some (.inst 154 fs)) (l : fs.lookup (Str.ofString "arity") = none) (h : P (.ref 123)) : ∃ g, MethOf C σ (.obj S) (Str.ofString "arity") g ∧ P g := ⟨_, .inst e (mi_arity C.w.params) l, h⟩
theorem mt_append {xs : List MV} (e : σ[S]? = some (.list xs)) (h : P (.builtin "list.append")) : ∃ g, MethOf C σ (.obj S) (Str.ofString "append") g ∧ P g := ⟨_, .list e PySem.F.slot_list_append PySem.F.type_list_append, h⟩
theorem mt_pop {xs : List MV} (e : σ[S]? = some (.list xs)) (h : P (.builtin "list.pop")) : ∃ g, MethOf C σ (.obj S) (Str.ofString "pop") g ∧ P g := ⟨_, .list e PySem.F.slot_list_pop PySem.F.type_list_pop, h⟩
theorem mt_reverse {xs : List MV} (e : σ[S]? = some (.list xs)) (h : P (.builtin "list.reverse")) : ∃ g, MethOf C σ (.obj S) (Str.ofString "reverse") g ∧ P g := ⟨_, .list e PySem.F.slot_list_reverse PySem.F.type_list_reverse, h⟩
theorem mt_index {xs : List MV} (e : σ[S]? = some (.list xs)) (h : P (.builtin "list.index")) : ∃ g, MethOf C σ (.obj S) (Str.ofString "index") g ∧ P g := ⟨_, .list e PySem.F.slot_list_index PySem.F.type_list_index, h⟩
theorem mt_gets {xs : List (Str × MV)} (e : σ[S]? = some (.sdict xs)) (h : P (.builtin "dict.get")) : ∃ g, MethOf C σ (.obj S) (Str.ofString "get") g ∧ P g := ⟨_, .sdict e PySem.F.slot_dict_get PySem.F.type_dict_get, h⟩
theorem mt_getp {xs : List (List Int × MV)} (e : σ[S]? = some (.pdict xs)) (h : P (.builtin "dict.get")) : ∃ g, MethOf C σ (.obj S) (Str.ofString "get") g ∧ P g := ⟨_, .pdict e PySem.F.slot_dict_get PySem.F.type_dict_get, h⟩
end

/-! MHelp -/
theorem get_set_self {σ : List MO} {i : Nat} {a m : MO} (e : σ[i]? = some m) : (σ.set i a)[i]? = some a := List.getElem?_set_self (List.getElem?_eq_some_iff.mp e).1
theorem get_set_ne {σ : List MO} {i j : Nat} {a m : MO} (h : i ≠ j) (e : σ[j]? = some m) : (σ.set i a)[j]? = some m := by rw [List.getElem?_set_ne h]; exact e
theorem get_last {σ : List MO} {a : MO} : (σ ++ [a])[σ.length]? = some a := by simp
theorem set_last {σ : List MO} {a b : MO} : (σ ++ [a]).set σ.length b = σ ++ [b] := by simp
theorem ExecsW.sub {C : Cfg} {f : Addr} {n : Nat} {q : Bool} {b : List Stmt} {loc loc' : List (Str × MV)} {σ : List MO} {Q : MF → List (Str × MV) → List MO → Prop} {X : MV → List (Str × MV) → List MO → Prop} (s : Sub loc loc') (h : ExecsW C f n q b loc σ Q X) : ExecsW C f n q b loc' σ Q X :=
  fun A fs L st ρ a b c d => h A fs L st ρ a b c (d.sub s)
theorem Sub.refl (loc : List (Str × MV)) : Sub loc loc := fun _ _ e => e
theorem Sub.cons {loc loc' : List (Str × MV)} (s : Sub loc loc') (p : Str × MV) : Sub (p :: loc) (p :: loc') := fun x mv e => by
  rw [List.lookup_cons] at e ⊢
  split
  · rename_i h; rw [h] at e; exact e
  · rename_i h; rw [h] at e; exact s x mv e
theorem Sub.tail {loc : List (Str × MV)} {x : Str} {v : MV} (h : loc.lookup x = none) : Sub loc ((x, v) :: loc) := fun y mv e => by
  rw [List.lookup_cons]
  split
  · rename_i hh
    have : y = x := beq_iff_eq.mp hh
    rw [this, h] at e; cases e
  · exact e
theorem Sub.trans {a b c : List (Str × MV)} (x : Sub a b) (y : Sub b c) : Sub a c := fun n v e => y n v (x n v e)
theorem Sub.nil {loc : List (Str × MV)} : Sub [] loc := fun _ _ e => by cases e
theorem Sub.one {loc r : List (Str × MV)} {x : Str} {v : MV} (h : loc.lookup x = some v) (s : Sub r loc) : Sub ((x, v) :: r) loc := fun y mv e => by
  rw [List.lookup_cons] at e
  split at e
  · rename_i hh
    have : y = x := beq_iff_eq.mp hh
    cases e; rw [this]; exact h
  · exact s y mv e
theorem TestW.sub {C : Cfg} {f : Addr} {n : Nat} {q : Bool} {t : PySem.Expr} {loc loc' : List (Str × MV)} {σ : List MO} {Q : Bool → List MO → Prop} {X : MV → List MO → Prop} (s : Sub loc loc') (h : TestW C f n q t loc σ Q X) : TestW C f n q t loc' σ Q X :=
  fun A fs L st ρ a b c d => h A fs L st ρ a b c (d.sub s)
/-- a statement that ends in one state, then the rest -/
theorem ExecW.mid {C : Cfg} {f : Addr} {n : Nat} {q : Bool} {b : Stmt} {loc loc₁ : List (Str × MV)} {σ σ₁ : List MO} {Q : MF → List (Str × MV) → List MO → Prop} {X : MV → List (Str × MV) → List MO → Prop} (h : ExecW C f n q b loc σ (fun mf l s => mf = .next ∧ l = loc₁ ∧ s = σ₁) X) (k : Q .next loc₁ σ₁) : ExecW C f n q b loc σ Q X :=
  fun A fs L s ρ a b c d => wpAny_mono (h A fs L s ρ a b c d) (fun _ _ zz => by obtain ⟨x1, x2, x3, x4, y1, y2, y3, y4, z1, z2, z3⟩ := zz; exact ⟨x1, x2, x3, x4, y1, y2, y3, y4, by subst z1; subst z2; subst z3; exact k⟩) fun _ _ x => x
theorem callee_fn {C : Cfg} {a : Addr} {P : Value → Prop} (hk : keepIn C.K (.ref a) = true) (h : P (.ref a)) : ∃ u, MV.raw (.ref a) = .raw u ∧ Callee C u ∧ P u := ⟨_, rfl, .inl hk, h⟩
theorem callee_b {C : Cfg} {i : String} {P : Value → Prop} (h : P (.builtin i)) : ∃ u, MV.raw (.builtin i) = .raw u ∧ Callee C u ∧ P u := ⟨_, rfl, .inr (.inl ⟨_, rfl⟩), h⟩
theorem callee_t {C : Cfg} {i : String} {P : Value → Prop} (h : P (.type i)) : ∃ u, MV.raw (.type i) = .raw u ∧ Callee C u ∧ P u := ⟨_, rfl, .inr (.inr ⟨_, rfl⟩), h⟩
theorem callee0 {C : Cfg} {a : Addr} {P : Value → Prop} (hk : keepIn C.K (.ref a) = true) (h : P (.ref a)) : ∃ u, MV.raw (.ref a) = .raw u ∧ keepIn C.K u = true ∧ P u := ⟨_, rfl, hk, h⟩
theorem tup_post {vs : List MV} {P : Prop} (hz : vs.length ≤ 1000) (h : P) : vs.length ≤ 1000 ∧ P := ⟨hz, h⟩
theorem list_post {vs : List MV} {P : Prop} (hz : vs.length ≤ 100000) (h : P) : vs.length ≤ 100000 ∧ P := ⟨hz, h⟩
theorem bool_post {b : Bool} {P : Bool → Prop} (h : P b) : ∃ c, MV.bool b = .bool c ∧ P c := ⟨b, rfl, h⟩
theorem imm_post {m : MV} {P : Prop} (hi : m.imm = true) (h : P) : m.imm = true ∧ P := ⟨hi, h⟩
mutual
/-- a value that speaks of no object -/
def MV.free : MV → Bool
  | .obj _ => false
  | .tup vs => MV.frees vs
  | _ => true
def MV.frees : List MV → Bool
  | [] => true
  | v :: r => v.free && MV.frees r
end
def fldFree {α : Type} : List (α × MV) → Bool
  | [] => true
  | f :: r => f.2.free && fldFree r
def MO.free : MO → Bool
  | .list xs => MV.frees xs
  | .sdict fs => fldFree fs
  | .pdict fs => fldFree fs
  | .dead | .cell none => true
  | .cell (some v) => v.free
  | _ => false
mutual
theorem MV.free_under {k : Nat} : ∀ {m : MV}, m.free = true → m.under k = true
  | .none, _ | .bool _, _ | .int _, _ | .str _, _ | .raw _, _ | .box _ _, _ => by simp [MV.under]
  | .tup vs, f => by simpa [MV.under] using MV.frees_under (ms := vs) (by simpa [MV.free] using f)
  | .obj _, f => by simp [MV.free] at f
theorem MV.frees_under {k : Nat} : ∀ {ms : List MV}, MV.frees ms = true → MV.unders k ms = true
  | [], _ => by simp [MV.unders]
  | m :: r, f => by
    have f' : m.free = true ∧ MV.frees r = true := by simpa [MV.frees] using f
    simp [MV.unders, MV.free_under f'.1, MV.frees_under f'.2]
end
theorem fldFree_under {α : Type} {k : Nat} : ∀ {fs : List (α × MV)}, fldFree fs = true → fldUnder k fs = true
  | [], _ => rfl
  | f :: r, h => by
    simp only [fldFree, fldUnder, Bool.and_eq_true] at h ⊢
    exact ⟨MV.free_under h.1, fldFree_under h.2⟩
theorem MO.free_under {k : Nat} {mo : MO} (f : mo.free = true) : mo.under k = true := by
  cases mo with
  | list xs => exact MV.frees_under f
  | sdict fs => exact fldFree_under f
  | pdict fs => exact fldFree_under f
  | dead => rfl
  | cell o => cases o with
    | none => rfl
    | some v => exact MV.free_under (m := v) f
  | inst c fs => cases f
  | exc c b fs => cases f
theorem frees_app {xs ys : List MV} (h : MV.frees xs = true) (g : MV.frees ys = true) : MV.frees (xs ++ ys) = true := by
  induction xs with
  | nil => exact g
  | cons x r ih =>
    have f' : x.free = true ∧ MV.frees r = true := by simpa [MV.frees] using h
    simp [MV.frees, f'.1, ih f'.2]
theorem fldFree_app {α : Type} {xs ys : List (α × MV)} (h : fldFree xs = true) (g : fldFree ys = true) : fldFree (xs ++ ys) = true := by
  induction xs with
  | nil => exact g
  | cons x r ih =>
    have f' : x.2.free = true ∧ fldFree r = true := by simpa [fldFree] using h
    simp [fldFree, f'.1, ih f'.2]
/-- what a function did to the memory it found: objects as they were, or objects that speak of no object -/
def Chg (σ σ' : List MO) : Prop := σ.length ≤ σ'.length ∧ ∀ i mo, i < σ.length → σ'[i]? = some mo → σ[i]? = some mo ∨ mo.free = true
theorem Chg.refl (σ : List MO) : Chg σ σ := ⟨Nat.le_refl _, fun _ _ _ e => .inl e⟩
theorem Chg.set {σ σ' : List MO} {i : Nat} {mo : MO} (c : Chg σ σ') (f : mo.free = true) : Chg σ (σ'.set i mo) := by
  refine ⟨by rw [List.length_set]; exact c.1, fun j m hj e => ?_⟩
  by_cases h : i = j
  · subst h
    rw [List.getElem?_set_self (Nat.lt_of_lt_of_le hj c.1)] at e; cases e
    exact .inr f
  · rw [List.getElem?_set_ne h] at e
    exact c.2 j m hj e
theorem Chg.app {σ σ' z : List MO} (c : Chg σ σ') : Chg σ (σ' ++ z) := by
  refine ⟨by rw [List.length_append]; exact Nat.le_add_right_of_le c.1, fun j m hj e => ?_⟩
  rw [List.getElem?_append_left (Nat.lt_of_lt_of_le hj c.1)] at e
  exact c.2 j m hj e
theorem Chg.drops {σ σ' : List MO} {k : Nat} (c : Chg σ σ') (hk : k = σ.length) : Drops σ σ' k :=
  ⟨by omega, fun i mo hi e => (c.2 i mo (by omega) e).imp (fun h => ⟨by omega, h⟩) MO.free_under⟩
theorem fin_chg {σ σ' : List MO} {Q : MV → List MO → Prop} {v : MV} (c : Chg σ σ') (u : v.free = true) (h : Q v (σ'.take σ.length)) : FinF σ Q (.ret v) σ' := ⟨σ.length, c.drops rfl, MV.free_under u, h⟩
theorem fin_next {σ σ' : List MO} {Q : MV → List MO → Prop} (c : Chg σ σ') (h : Q .none (σ'.take σ.length)) : FinF σ Q .next σ' := ⟨σ.length, c.drops rfl, rfl, h⟩
/-- nothing changed -/
theorem fin_same {σ : List MO} {Q : MV → List MO → Prop} {v : MV} (u : v.free = true) (h : Q v σ) : FinF σ Q (.ret v) σ := fin_chg (.refl _) u (by rw [List.take_length]; exact h)
/-- garbage behind the memory alone -/
theorem fin_app {σ z : List MO} {Q : MV → List MO → Prop} {v : MV} (u : v.free = true) (h : Q v σ) : FinF σ Q (.ret v) (σ ++ z) := fin_chg (Chg.refl _).app u (by rw [List.take_left' rfl]; exact h)
theorem finx_same {σ : List MO} {X : MV → List MO → Prop} {b : MV} (u : b.free = true) (h : X b σ) : FinX σ X b σ := ⟨σ.length, (Chg.refl _).drops rfl, MV.free_under u, by rw [List.take_length]; exact h⟩
theorem finx_app {σ z : List MO} {X : MV → List MO → Prop} {b : MV} (u : b.free = true) (h : X b σ) : FinX σ X b (σ ++ z) := ⟨σ.length, (Chg.refl _).app.drops rfl, MV.free_under u, by rw [List.take_left' rfl]; exact h⟩
theorem fin_obj {σ : List MO} {Q : MV → List MO → Prop} {mo : MO} (u : mo.under (σ.length + 1) = true) (h : Q (.obj σ.length) (σ ++ [mo])) : FinF σ Q (.ret (.obj σ.length)) (σ ++ [mo]) := by
  refine ⟨σ.length + 1, ⟨Nat.le_succ _, fun i m hi e => ?_⟩, by simp [MF.val, MV.under, Nat.blt_eq], by rw [List.take_of_length_le (by simp)]; exact h⟩
  by_cases hl : i < σ.length
  · rw [List.getElem?_append_left hl] at e; exact .inl ⟨hl, e⟩
  · have : i = σ.length := by omega
    subst this
    simp at e; subst e
    exact .inr u
end Mine

namespace Mine
open PySem PySem.W PySem.Calls PyProof.Rows PySem.Spec
set_option maxHeartbeats 4000000
theorem cell_post {σ : List MO} {i : Nat} {o : Option MV} {P : Prop} (e : σ[i]? = some (.cell o)) (h : P) : ∃ o, σ[i]? = some (.cell o) ∧ P := ⟨o, e, h⟩
local macro_rules | `(tactic| walk_at "o") => `(tactic| first
  | exact Nat.le_of_ble_eq_true rfl
  | exact Nat.le_trans (by assumption) (Nat.le_of_ble_eq_true rfl)
  | exact Nat.le_trans (Nat.succ_le_succ (by assumption)) (Nat.le_of_ble_eq_true rfl)
  | exact Nat.le_trans (Nat.succ_le_succ (Nat.succ_le_succ (by assumption))) (Nat.le_of_ble_eq_true rfl)
  | exact Nat.le_trans (Nat.succ_le_succ (Nat.succ_le_succ (Nat.succ_le_succ (by assumption)))) (Nat.le_of_ble_eq_true rfl)
  | exact Nat.lt_of_le_of_lt (by assumption) (Nat.le_of_ble_eq_true rfl)
  | exact Nat.le_trans (Nat.le_trans (Nat.le_add_right _ _) (by assumption)) (Nat.le_of_ble_eq_true rfl)
  | exact Nat.lt_of_le_of_lt (Nat.le_trans (Nat.le_add_right _ _) (by assumption)) (Nat.le_of_ble_eq_true rfl)
  | exact Nat.lt_of_le_of_lt (Nat.le_trans (Nat.le_add_left _ _) (by assumption)) (Nat.le_of_ble_eq_true rfl)
  | exact le_of_le_of_eq (Nat.le_of_ble_eq_true rfl) (Eq.symm (by assumption))
  | omega)
local macro_rules | `(tactic| walk_at "mem") => `(tactic| first
  | with_reducible assumption
  | ((with_reducible refine get_app ?_); walk_at "mem")
  | with_reducible exact get_last
  | ((with_reducible refine get_set_self (m := ?m) ?e); case e => walk_at "mem")
  | ((with_reducible refine get_set_ne ?ne ?_); case ne => (first | assumption | (apply Ne.symm; assumption) | exact Nat.ne_of_beq_eq_false rfl | omega)
     walk_at "mem"))
local macro_rules | `(tactic| walk_at "m") => `(tactic| first
  | with_reducible refine xs_cons ?_
  | with_reducible refine xs_nil ?_
  | ((with_reducible refine x_assign_cell (k := ?k) (i := ?i) (o := none) ?hx ?hc ?e ?_ ?hs ?hk); case e => exact rfl
     case hx => kernel_rfl
     case hc => (intro _; rfl)
     case hs => (intro _; rfl)
     case hk => kernel_rfl)
  | ((with_reducible refine x_assign ?hx ?_ ?hs ?hk); case hx => kernel_rfl
     case hs => (intro _; rfl)
     case hk => kernel_rfl)
  | ((with_reducible refine x_expr ?_ ?hs ?hk); case hs => (intro _; rfl)
     case hk => kernel_rfl)
  | with_reducible refine x_return ?_
  | with_reducible refine x_if ?_
  | with_reducible refine x_raise ?_
  | with_reducible refine x_continue ?_
  | with_reducible refine x_deltail ?_
  | ((with_reducible refine x_aug (mv := ?mv) ?hx ?hl ?_ ?hb ?hk); case hx => kernel_rfl
     case hl => exact rfl
     case hb => exact rfl
     case hk => kernel_rfl)
  | ((with_reducible refine x_setattr ?_ ?hs); case hs => (intro _; rfl))
  | ((with_reducible refine x_setitem ?_ ?hn ?hs); case hn => walk_at "o"
     case hs => (intro _; rfl))
  | with_reducible refine ev_int ?_
  | with_reducible refine ev_str ?_
  | with_reducible refine ev_none ?_
  | with_reducible refine ev_bool ?_
  | with_reducible refine ev_op2 ?_
  | with_reducible refine ev_tuple ?_
  | with_reducible refine ev_list ?_
  | with_reducible refine ev_if ?_
  | ((with_reducible refine ev_slice_upto ?_ ?ht); case ht => (intro _ _; rfl))
  | ((with_reducible refine ev_item ?_ ?hs); case hs => (intro _ _ _; with_unfolding_all rfl))
  | with_reducible refine ts_all ?_
  | with_reducible refine all_or_nil ?_
  | with_reducible refine all_or ?_
  | with_reducible refine ev_and2 ?_
  | with_reducible refine ev_un ?_
  | ((with_reducible refine ev_cmp ?_ ?hm); case hm => with_unfolding_all rfl)
  | ((with_reducible refine ev_attr ?_ ?he); case he => (intro _; with_unfolding_all rfl))
  | ((with_reducible refine ev_meth (pl := ?pl) ?_ ?hc ?he ?hp); case hc => (intro _; rfl)
     case he => (intro _; rfl)
     case hp => (intro _; rfl))
  | ((with_reducible refine ev_meth0 (pl := ?pl) ?_ ?hc); case hc => (intro _; rfl))
  | ((with_reducible refine ev_call ?_ ?hc ?he ?hp); case hc => (intro _; rfl)
     case he => (intro _; rfl)
     case hp => (intro _; rfl))
  | ((with_reducible refine ev_call0 ?_ ?hc); case hc => (intro _; rfl))
  | with_reducible refine as_nil ?_
  | ((with_reducible refine as_cons ?_ ?he); case he => (intro _; rfl))
  | ((with_reducible refine ts_cmp ?_ ?hm); case hm => with_unfolding_all rfl)
  | ((with_reducible refine ts_value ?_ ?he); case he => (intro _ _; rfl))
  | ((with_reducible refine ev_local (mv := ?mv) ?hl ?e ?_ ?hb ?hk ?hd); case hl => kernel_rfl
     case e => exact rfl
     case hb => exact rfl
     case hk => kernel_rfl
     case hd => decide +kernel)
  | ((with_reducible refine ev_cell (mv := ?mv) (k := ?k) (i := ?i) ?hl ?hc ?e ?e1 ?_ ?hk ?hd); case e => exact rfl
     case hl => kernel_rfl
     case hc => (intro _; rfl)
     case e1 => walk_at "mem"
     case hk => kernel_rfl
     case hd => decide +kernel)
  | ((first
      | with_reducible refine nm_A_NIL ?hl ?hk ?_
      | with_reducible refine nm_A_SYSTEM ?hl ?hk ?_
      | with_reducible refine nm_F_DOT ?hl ?hk ?_
      | with_reducible refine nm_F_MINUS1 ?hl ?hk ?_
      | with_reducible refine nm_F_MINUS ?hl ?hk ?_
      | with_reducible refine nm_F_ERROR ?hl ?hk ?_
      | with_reducible refine nm_F_CATCH ?hl ?hk ?_
      | with_reducible refine nm_REF ?hl ?hk ?_
      | with_reducible refine nm_SRF ?hl ?hk ?_
      | with_reducible refine nm_STR ?hl ?hk ?_
      | with_reducible refine nm_LIS ?hl ?hk ?_
      | with_reducible refine nm_CON ?hl ?hk ?_
      | with_reducible refine nm_INT ?hl ?hk ?_
      | with_reducible refine nm_FUN ?hl ?hk ?_
      | with_reducible refine nm_PrologError ?hl ?hk ?_
      | with_reducible refine nm_fixed_atoms ?hl ?hk ?_
      | with_reducible refine nm_fixed_functors ?hl ?hk ?_
      | with_reducible refine nm_Symbols ?hl ?hk ?_
      | with_reducible refine nm_system_error ?hl ?hk ?_
      | with_reducible refine nm_formal_of ?hl ?hk ?_
      | with_reducible refine nm_resource_error ?hl ?hk ?_
      | with_reducible refine nm_Store ?hl ?hk ?_
      | with_reducible refine nm_law_row ?hl ?hk ?_
      | with_reducible refine nm_law_next ?hl ?hk ?_
      | with_reducible refine nm_law_deed ?hl ?hk ?_
      | with_reducible refine nm_len ?hl ?hk ?_
      | with_reducible refine nm_range ?hl ?hk ?_
      | with_reducible refine nm_isinstance ?hl ?hk ?_
      | with_reducible refine nm_tuple ?hl ?hk ?_
      | with_reducible refine nm_list ?hl ?hk ?_
      | with_reducible refine nm_str ?hl ?hk ?_)
     case hl => kernel_rfl
     case hk => kernel_rfl)
  | ((with_reducible refine attr_of (c := ?c) (fs := ?fs) (r := ?r) ?e ?pc ?l ?nr ?_); case e => walk_at "mem"
     case pc => kernel_rfl
     case l => exact rfl
     case nr => exact rfl)
  | ((with_reducible refine callee_fn ?hk ?_); case hk => kernel_rfl)
  | ((with_reducible refine cell_post (o := ?o) ?e ?_); case e => walk_at "mem")
  | ((with_reducible refine callee0 ?hk ?_); case hk => kernel_rfl)
  | with_reducible refine callee_b ?_
  | with_reducible refine callee_t ?_
  | with_reducible refine op_sub ?_
  | with_reducible refine op_add ?_
  | ((with_reducible refine op_mul ?_ ?hm); case hm => mul_fits)
  | with_reducible refine op_neg ?_
  | with_reducible refine op_iadd ?_
  | with_reducible refine cmp_eq ?_
  | with_reducible refine cmp_lt ?_
  | with_reducible refine cmp_le ?_
  | with_reducible refine cmp_gt ?_
  | with_reducible refine cmp_ge ?_
  | with_reducible refine cmp_eq_str ?_
  | ((with_reducible refine tup_post ?hz ?_); case hz => simp)
  | ((with_reducible refine list_post ?hz ?_); case hz => simp)
  | with_reducible refine bool_post ?_
  | ((with_reducible refine imm_post ?hi ?_); case hi => exact rfl)
  | ((first
      | with_reducible refine mt_push (fs := ?fs) ?e ?l ?_
      | with_reducible refine mt_new_var (fs := ?fs) ?e ?l ?_
      | with_reducible refine mt_reserve (fs := ?fs) ?e ?l ?_
      | with_reducible refine mt_trim (fs := ?fs) ?e ?l ?_
      | with_reducible refine mt_deref (fs := ?fs) ?e ?l ?_
      | with_reducible refine mt_globalise (fs := ?fs) ?e ?l ?_
      | with_reducible refine mt_base (fs := ?fs) ?e ?l ?_
      | with_reducible refine mt_new_block (fs := ?fs) ?e ?l ?_
      | with_reducible refine mt_new_struct (fs := ?fs) ?e ?l ?_
      | with_reducible refine mt_build_list (fs := ?fs) ?e ?l ?_
      | with_reducible refine mt_put_term (fs := ?fs) ?e ?l ?_
      | with_reducible refine mt_atom (fs := ?fs) ?e ?l ?_
      | with_reducible refine mt_functor (fs := ?fs) ?e ?l ?_
      | with_reducible refine mt_func (fs := ?fs) ?e ?l ?_
      | with_reducible refine mt_arity (fs := ?fs) ?e ?l ?_)
     case e => walk_at "mem"
     case l => exact rfl)
  | ((first
      | with_reducible refine mt_append (xs := ?xs) ?e ?_
      | with_reducible refine mt_pop (xs := ?xs) ?e ?_
      | with_reducible refine mt_reverse (xs := ?xs) ?e ?_
      | with_reducible refine mt_index (xs := ?xs) ?e ?_)
     case e => walk_at "mem")
  | ((with_reducible refine mt_gets (xs := ?xs) ?e ?_); case e => walk_at "mem")
  | ((with_reducible refine mt_getp (xs := ?xs) ?e ?_); case e => walk_at "mem"))

/-! MSym -/
theorem ok88 (P : Params) : fnOk P 88 [Str.ofString "self", Str.ofString "text"] = true := by kernel_rfl
theorem b88 (P : Params) (a b : Value) : bindArgs (fdAt P 88) ⟨[a, b], []⟩ = pure [(Str.ofString "self", a), (Str.ofString "text", b)] := by kernel_rfl
theorem ok102 (P : Params) : fnOk P 102 [Str.ofString "self", Str.ofString "atom", Str.ofString "arity"] = true := by kernel_rfl
theorem b102 (P : Params) (a b c : Value) : bindArgs (fdAt P 102) ⟨[a, b, c], []⟩ = pure [(Str.ofString "self", a), (Str.ofString "atom", b), (Str.ofString "arity", c)] := by kernel_rfl
theorem ok109 (P : Params) : fnOk P 109 [Str.ofString "self", Str.ofString "text", Str.ofString "arity"] = true := by kernel_rfl
theorem b109 (P : Params) (a b c : Value) : bindArgs (fdAt P 109) ⟨[a, b, c], []⟩ = pure [(Str.ofString "self", a), (Str.ofString "text", b), (Str.ofString "arity", c)] := by kernel_rfl
/-- the tables of the symbols -/
def symF (T AN FU FN : Nat) : List (Str × MV) := [(Str.ofString "texts", .obj T), (Str.ofString "atom_numbers", .obj AN), (Str.ofString "functors", .obj FU), (Str.ofString "functor_numbers", .obj FN)]

section
variable {C : Cfg} {n : Nat} {q : Bool} {σ : List MO} {Q : MV → List MO → Prop} {X : MV → List MO → Prop} {Y T AN FU FN : Nat} {an : List (Str × MV)} {x : Str} {k : Int}
theorem atom_known (hn : n ≤ 20) (e1 : σ[Y]? = some (.inst 154 (symF T AN FU FN))) (e2 : σ[AN]? = some (.sdict an)) (hx : an.lookup x = some (.int k)) (hk : 0 ≤ k) (h : Q (.int k) σ) : CodeW C n q (.ref 88) [.obj Y, .str x] σ Q X := by
  refine def2 (ok88 _) (b88 _) (by walk_at "o") ?_
  conv in bodyAt _ _ => whnf
  repeat walk_at "m"
  refine call_dict_get (.shit e2 hx) ?_ ?_
  · walk_at "o"
  repeat walk_at "m"
  rw [decide_eq_true hk, if_pos rfl]
  repeat walk_at "m"
  exact fin_same rfl h
theorem atom_new {ts : List MV} (hn : n ≤ 20) (e1 : σ[Y]? = some (.inst 154 (symF T AN FU FN))) (e2 : σ[AN]? = some (.sdict an)) (e3 : σ[T]? = some (.list ts)) (hx : an.lookup x = none) (hta : T ≠ AN) (hty : T ≠ Y) (hz : ts.length ≤ 1000) (hza : an.length ≤ 1000)
    (ft : MV.frees ts = true) (fa : fldFree an = true)
    (h : Q (.int ts.length) ((σ.set T (.list (ts ++ [.str x]))).set AN (.sdict (an ++ [(x, .int ts.length)])))) : CodeW C n q (.ref 88) [.obj Y, .str x] σ Q X := by
  refine def2 (ok88 _) (b88 _) (by walk_at "o") ?_
  conv in bodyAt _ _ => whnf
  repeat walk_at "m"
  refine call_dict_get (.smiss e2 hx) ?_ ?_
  · walk_at "o"
  repeat walk_at "m"
  rw [show decide ((0 : Int) ≤ -1) = false from rfl, if_neg (by decide)]
  repeat walk_at "m"
  refine call_len e3 ?_ ?_
  · walk_at "o"
  repeat walk_at "m"
  refine call_append e3 ?_ ?_
  · walk_at "o"
  repeat walk_at "m"
  refine ⟨_, .sdict ?_ hx ?_, ?_⟩
  · walk_at "mem"
  · walk_at "o"
  repeat walk_at "m"
  refine fin_chg (((Chg.refl _).set ?_).set ?_) rfl ?_
  · exact frees_app ft rfl
  · exact fldFree_app fa rfl
  · rwa [List.take_of_length_le (by simp)]
/-- the functors' tables -/
theorem functor_known {fn : List (List Int × MV)} {a r : Int} (hn : n ≤ 20) (e1 : σ[Y]? = some (.inst 154 (symF T AN FU FN))) (e2 : σ[FN]? = some (.pdict fn)) (hx : fn.lookup [a, r] = some (.int k)) (hk : 0 ≤ k) (h : Q (.int k) σ) : CodeW C n q (.ref 102) [.obj Y, .int a, .int r] σ Q X := by
  refine def3 (ok102 _) (b102 _) (by walk_at "o") ?_
  conv in bodyAt _ _ => whnf
  repeat walk_at "m"
  refine call_dict_get (.phit (k := [a, r]) e2 hx) ?_ ?_
  · walk_at "o"
  repeat walk_at "m"
  rw [decide_eq_true hk, if_pos rfl]
  repeat walk_at "m"
  exact fin_same rfl h
theorem functor_new {fn : List (List Int × MV)} {fu : List MV} {a r : Int} (hn : n ≤ 20) (e1 : σ[Y]? = some (.inst 154 (symF T AN FU FN))) (e2 : σ[FN]? = some (.pdict fn)) (e3 : σ[FU]? = some (.list fu)) (hx : fn.lookup [a, r] = none) (hff : FU ≠ FN) (hfy : FU ≠ Y) (hz : fu.length ≤ 1000) (hza : fn.length ≤ 1000)
    (ft : MV.frees fu = true) (fa : fldFree fn = true)
    (h : Q (.int fu.length) ((σ.set FU (.list (fu ++ [.tup [.int a, .int r]]))).set FN (.pdict (fn ++ [([a, r], .int fu.length)])))) : CodeW C n q (.ref 102) [.obj Y, .int a, .int r] σ Q X := by
  refine def3 (ok102 _) (b102 _) (by walk_at "o") ?_
  conv in bodyAt _ _ => whnf
  repeat walk_at "m"
  refine call_dict_get (.pmiss (k := [a, r]) e2 hx) ?_ ?_
  · walk_at "o"
  repeat walk_at "m"
  rw [show decide ((0 : Int) ≤ -1) = false from rfl, if_neg (by decide)]
  repeat walk_at "m"
  refine call_len e3 ?_ ?_
  · walk_at "o"
  repeat walk_at "m"
  refine call_append e3 ?_ ?_
  · walk_at "o"
  repeat walk_at "m"
  refine ⟨_, .pdict (k := [a, r]) ?_ hx ?_, ?_⟩
  · walk_at "mem"
  · walk_at "o"
  repeat walk_at "m"
  refine fin_chg (((Chg.refl _).set ?_).set ?_) rfl ?_
  · exact frees_app ft rfl
  · exact fldFree_app fa rfl
  · rwa [List.take_of_length_le (by simp)]
/-- func: atom and functor -/
theorem func_of {r : Int} (hn : n ≤ 18) (e1 : σ[Y]? = some (.inst 154 (symF T AN FU FN))) (h : CodeW C (n + 1) q (.ref 88) [.obj Y, .str x] σ (fun a σ₁ => CodeW C (n + 1) q (.ref 102) [.obj Y, a, .int r] σ₁ (fun v σ₂ => v.free = true ∧ Chg σ σ₂ ∧ σ₂.length = σ.length ∧ Q v σ₂) (fun _ _ => False)) (fun _ _ => False)) : CodeW C n q (.ref 109) [.obj Y, .str x, .int r] σ Q X := by
  refine def3 (ok109 _) (b109 _) (by walk_at "o") ?_
  conv in bodyAt _ _ => whnf
  repeat walk_at "m"
  refine CodeW.call (h.mono (fun a σ₁ h₁ => ?_) fun _ _ z => z.elim)
  repeat walk_at "m"
  exact CodeW.call (h₁.mono (fun v σ₂ ⟨f, c, l, hq⟩ => fin_chg c f (by rwa [List.take_of_length_le (by walk_at "o")])) fun _ _ z => z.elim)
theorem ok123 (P : Params) : fnOk P 123 [Str.ofString "self", Str.ofString "functor"] = true := by kernel_rfl
theorem b123 (P : Params) (a b : Value) : bindArgs (fdAt P 123) ⟨[a, b], []⟩ = pure [(Str.ofString "self", a), (Str.ofString "functor", b)] := by kernel_rfl
theorem arity_of {fu : List MV} {k : Nat} {a : MV} {r : Int} (hn : n ≤ 20) (e1 : σ[Y]? = some (.inst 154 (symF T AN FU FN))) (e2 : σ[FU]? = some (.list fu)) (hk : fu[k]? = some (.tup [a, .int r])) (hz : fu.length ≤ 1000) (h : Q (.int r) σ) : CodeW C n q (.ref 123) [.obj Y, .int k] σ Q X := by
  refine def2 (ok123 _) (b123 _) (by walk_at "o") ?_
  conv in bodyAt _ _ => whnf
  repeat walk_at "m"
  refine ⟨_, _, rfl, .list e2 (by walk_at "o") (by simpa using hk) (by walk_at "o"), ?_⟩
  repeat walk_at "m"
  refine ⟨_, _, rfl, .tup (by decide) rfl (by show 2 < _; walk_at "o"), ?_⟩
  exact fin_same rfl h
end

/-! MErr -/
/-- the symbols' object, with the two names that a fault asks for -/
structure IsSym (σ : List MO) (Y : Nat) (am fr : Int) (fu : List MV) : Prop where
  ex : ∃ T AN FU FN an fn ar, σ[Y]? = some (.inst 154 (symF T AN FU FN)) ∧ σ[AN]? = some (.sdict an) ∧ σ[FN]? = some (.pdict fn) ∧ σ[FU]? = some (.list fu) ∧ an.lookup (Str.ofString "memory") = some (.int am) ∧ 0 ≤ am ∧
    an.lookup (Str.ofString "resource_error") = some (.int ar) ∧ 0 ≤ ar ∧ fn.lookup [ar, 1] = some (.int fr) ∧ 0 ≤ fr
def fault (am fr : Int) : MV := .tup [.str (Str.ofString "s"), .int 16, .tup [.tup [.str (Str.ofString "s"), .int fr, .tup [.tup [.str (Str.ofString "a"), .int am]]], .tup [.str (Str.ofString "a"), .int 25]]]
def formal (am fr : Int) : MV := .tup [.str (Str.ofString "s"), .int fr, .tup [.tup [.str (Str.ofString "a"), .int am]]]
theorem ok165 (P : Params) : fnOk P 165 [Str.ofString "formal"] = true := by kernel_rfl
theorem b165 (P : Params) (a : Value) : bindArgs (fdAt P 165) ⟨[a], []⟩ = pure [(Str.ofString "formal", a)] := by kernel_rfl
theorem ok172 (P : Params) : fnOk P 172 [Str.ofString "symbols", Str.ofString "name", Str.ofString "parts"] = true := by kernel_rfl
theorem b172 (P : Params) (a b c : Value) : bindArgs (fdAt P 172) ⟨[a, b, c], []⟩ = pure [(Str.ofString "symbols", a), (Str.ofString "name", b), (Str.ofString "parts", c)] := by kernel_rfl
theorem ok179 (P : Params) : fnOk P 179 [Str.ofString "symbols", Str.ofString "what"] = true := by kernel_rfl
theorem b179 (P : Params) (a b : Value) : bindArgs (fdAt P 179) ⟨[a, b], []⟩ = pure [(Str.ofString "symbols", a), (Str.ofString "what", b)] := by kernel_rfl
section
variable {C : Cfg} {n : Nat} {q : Bool} {σ : List MO} {Q : MV → List MO → Prop} {X : MV → List MO → Prop} {Y : Nat} {am fr : Int} {fu : List MV}
theorem system_err (hn : n ≤ 18) (h : Q (.obj σ.length) (σ ++ [.exc 51 true [(ballS, fault am fr)]])) : CodeW C n q (.ref 165) [formal am fr] σ Q X := by
  refine def1 (ok165 _) (b165 _) (by walk_at "o") ?_
  conv in bodyAt _ _ => whnf
  repeat walk_at "m"
  refine call_make_exc ?_ ?_
  · walk_at "o"
  exact fin_obj (by simp [MO.under, fldUnder, fault, formal, MV.under, MV.unders]) h
theorem formal_is (hn : n ≤ 16) (y : IsSym σ Y am fr fu) (h : Q (formal am fr) σ) : CodeW C n true (.ref 172) [.obj Y, .str (Str.ofString "resource_error"), .tup [.str (Str.ofString "memory")]] σ Q X := by
  obtain ⟨T, AN, FU, FN, an, fn, ar, e1, e2, e3, e4, l1, p1, l2, p2, l3, p3⟩ := y.ex
  refine def3 (ok172 _) (b172 _) (by walk_at "o") ?_
  conv in bodyAt _ _ => whnf
  repeat walk_at "m"
  with_reducible refine x_for_tuple ?hx ?_ ?hs ?hk
  case hx => kernel_rfl
  case hs => (intro _ _; rfl)
  case hk => kernel_rfl
  repeat walk_at "m"
  refine ⟨_, (fun i loc σ' => (i = 0 ∧ loc = [(Str.ofString "args", .obj σ.length), (Str.ofString "symbols", .obj Y), (Str.ofString "name", .str (Str.ofString "resource_error")), (Str.ofString "parts", .tup [.str (Str.ofString "memory")])] ∧ σ' = σ ++ [MO.list []]) ∨
    (i = 1 ∧ loc = [(Str.ofString "part", .str (Str.ofString "memory")), (Str.ofString "args", .obj σ.length), (Str.ofString "symbols", .obj Y), (Str.ofString "name", .str (Str.ofString "resource_error")), (Str.ofString "parts", .tup [.str (Str.ofString "memory")])] ∧
      σ' = σ ++ [MO.list [.tup [.str (Str.ofString "a"), .int am]]])), rfl, .inl ⟨rfl, rfl, rfl⟩, ?_, ?_⟩
  · rintro i v loc σ' (⟨rfl, rfl, rfl⟩ | ⟨rfl, rfl, rfl⟩) hv
    · cases hv
      repeat walk_at "m"
      refine call_isinstance_str ?_
      repeat walk_at "m"
      rw [if_pos rfl]
      repeat walk_at "m"
      refine CodeW.call (atom_known ?_ (get_app e1) (get_app e2) l1 p1 ?_)
      · walk_at "o"
      repeat walk_at "m"
      refine call_append get_last (by simp) ?_
      repeat walk_at "m"
      exact .inr ⟨rfl, rfl, set_last⟩
    · cases hv
  · rintro loc σ' (⟨h0, _, _⟩ | ⟨_, rfl, rfl⟩)
    · cases h0
    repeat walk_at "m"
    refine call_len get_last (by simp) ?_
    repeat walk_at "m"
    refine CodeW.call (func_of ?_ (get_app e1) ?_)
    · walk_at "o"
    refine atom_known ?_ (get_app e1) (get_app e2) l2 p2 ?_
    · walk_at "o"
    refine functor_known ?_ (get_app e1) (get_app e3) l3 p3 ?_
    · walk_at "o"
    refine ⟨rfl, .refl _, rfl, ?_⟩
    repeat walk_at "m"
    refine call_tuple_of get_last (by simp) ?_
    repeat walk_at "m"
    exact fin_app rfl h
theorem resource_err (hn : n ≤ 14) (y : IsSym σ Y am fr fu) (h : Q (.obj σ.length) (σ ++ [.exc 51 true [(ballS, fault am fr)]])) : CodeW C n true (.ref 179) [.obj Y, .str (Str.ofString "memory")] σ Q X := by
  refine def2 (ok179 _) (b179 _) (by walk_at "o") ?_
  conv in bodyAt _ _ => whnf
  repeat walk_at "m"
  refine CodeW.call (formal_is ?_ y ?_)
  · walk_at "o"
  repeat walk_at "m"
  refine CodeW.call (system_err ?_ ?_)
  · walk_at "o"
  exact fin_obj (by simp [MO.under, fldUnder, fault, formal, MV.under, MV.unders]) h
end

/-! MStore -/
def storeF (Y : Nat) (room : Int) (H St Tr : Nat) : List (Str × MV) := [(Str.ofString "symbols", .obj Y), (Str.ofString "max_heap", .int room), (Str.ofString "heap", .obj H), (Str.ofString "stack", .obj St), (Str.ofString "trail", .obj Tr), (Str.ofString "hb", .int 0), (Str.ofString "bb", .int 0)]
def cellv (a b : Int) : MV := .tup [.int a, .int b]
theorem ok201 (P : Params) : fnOk P 201 [Str.ofString "self", Str.ofString "cell"] = true := by kernel_rfl
theorem b201 (P : Params) (a b : Value) : bindArgs (fdAt P 201) ⟨[a, b], []⟩ = pure [(Str.ofString "self", a), (Str.ofString "cell", b)] := by kernel_rfl
theorem ok208 (P : Params) : fnOk P 208 [Str.ofString "self"] = true := by kernel_rfl
theorem b208 (P : Params) (a : Value) : bindArgs (fdAt P 208) ⟨[a], []⟩ = pure [(Str.ofString "self", a)] := by kernel_rfl
theorem ok215 (P : Params) : fnOk P 215 [Str.ofString "self", Str.ofString "count"] = true := by kernel_rfl
theorem b215 (P : Params) (a b : Value) : bindArgs (fdAt P 215) ⟨[a, b], []⟩ = pure [(Str.ofString "self", a), (Str.ofString "count", b)] := by kernel_rfl
theorem ok222 (P : Params) : fnOk P 222 [Str.ofString "self", Str.ofString "h"] = true := by kernel_rfl
theorem b222 (P : Params) (a b : Value) : bindArgs (fdAt P 222) ⟨[a, b], []⟩ = pure [(Str.ofString "self", a), (Str.ofString "h", b)] := by kernel_rfl
theorem ok229 (P : Params) : fnOk P 229 [Str.ofString "self", Str.ofString "cell"] = true := by kernel_rfl
theorem b229 (P : Params) (a b : Value) : bindArgs (fdAt P 229) ⟨[a, b], []⟩ = pure [(Str.ofString "self", a), (Str.ofString "cell", b)] := by kernel_rfl
theorem ok257 (P : Params) : fnOk P 257 [Str.ofString "self", Str.ofString "cell"] = true := by kernel_rfl
theorem b257 (P : Params) (a b : Value) : bindArgs (fdAt P 257) ⟨[a, b], []⟩ = pure [(Str.ofString "self", a), (Str.ofString "cell", b)] := by kernel_rfl
theorem ok306 (P : Params) : fnOk P 306 [Str.ofString "self", Str.ofString "cell"] = true := by kernel_rfl
theorem b306 (P : Params) (a b : Value) : bindArgs (fdAt P 306) ⟨[a, b], []⟩ = pure [(Str.ofString "self", a), (Str.ofString "cell", b)] := by kernel_rfl
theorem ok320 (P : Params) : fnOk P 320 [Str.ofString "self", Str.ofString "f"] = true := by kernel_rfl
theorem b320 (P : Params) (a b : Value) : bindArgs (fdAt P 320) ⟨[a, b], []⟩ = pure [(Str.ofString "self", a), (Str.ofString "f", b)] := by kernel_rfl
section
variable {C : Cfg} {n : Nat} {q : Bool} {σ : List MO} {Q : MV → List MO → Prop} {X : MV → List MO → Prop} {Y S H St Tr : Nat} {room : Int} {xs : List MV} {am fr : Int} {fu : List MV}
theorem push_fits {a b : Int} (hn : n ≤ 20) (e1 : σ[S]? = some (.inst 373 (storeF Y room H St Tr))) (e2 : σ[H]? = some (.list xs)) (hr : (xs.length : Int) < room) (hz : xs.length ≤ 2000) (fx : MV.frees xs = true)
   (h : Q (.int xs.length) (σ.set H (.list (xs ++ [cellv a b])))) : CodeW C n q (.ref 201) [.obj S, cellv a b] σ Q X := by
  refine def2 (ok201 _) (b201 _) (by walk_at "o") ?_
  conv in bodyAt _ _ => whnf
  repeat walk_at "m"
  refine call_len e2 ?_ ?_
  · walk_at "o"
  repeat walk_at "m"
  rw [decide_eq_false (by walk_at "o"), if_neg (by decide)]
  repeat walk_at "m"
  refine call_append e2 ?_ ?_
  · walk_at "o"
  repeat walk_at "m"
  refine fin_chg ((Chg.refl _).set ?_) rfl ?_
  · exact frees_app fx rfl
  · rwa [List.take_of_length_le (by simp)]
theorem push_full {c : MV} (hc : c.isBox = false) (hn : n ≤ 12) (e1 : σ[S]? = some (.inst 373 (storeF Y room H St Tr))) (e2 : σ[H]? = some (.list xs)) (hr : room ≤ (xs.length : Int)) (hz : xs.length ≤ 2000) (y : IsSym σ Y am fr fu)
   (h : X (fault am fr) σ) : CodeW C n true (.ref 201) [.obj S, c] σ Q X := by
  refine def2 (ok201 _) (b201 _) (by walk_at "o") ?_
  conv in bodyAt _ _ => whnf
  repeat walk_at "m"
  refine call_len e2 ?_ ?_
  · walk_at "o"
  repeat walk_at "m"
  rw [decide_eq_true hr, if_pos rfl]
  repeat walk_at "m"
  refine CodeW.call (resource_err ?_ y ?_)
  · walk_at "o"
  refine ⟨σ, fault am fr, rfl, rfl, (Chg.refl σ).app.drops rfl, MV.free_under rfl, finx_same rfl h⟩
theorem new_var_fits (hn : n ≤ 18) (e1 : σ[S]? = some (.inst 373 (storeF Y room H St Tr))) (e2 : σ[H]? = some (.list xs)) (hr : (xs.length : Int) < room) (hz : xs.length ≤ 2000) (fx : MV.frees xs = true)
   (h : Q (cellv 0 xs.length) (σ.set H (.list (xs ++ [cellv 0 xs.length])))) : CodeW C n q (.ref 208) [.obj S] σ Q X := by
  refine def1 (ok208 _) (b208 _) (by walk_at "o") ?_
  conv in bodyAt _ _ => whnf
  repeat walk_at "m"
  refine call_len e2 ?_ ?_
  · walk_at "o"
  repeat walk_at "m"
  refine CodeW.call (push_fits ?_ e1 e2 hr hz fx ?_)
  · walk_at "o"
  repeat walk_at "m"
  refine fin_chg ((Chg.refl _).set ?_) rfl ?_
  · exact frees_app fx rfl
  · rwa [List.take_of_length_le (by simp)]
theorem new_var_full (hn : n ≤ 10) (e1 : σ[S]? = some (.inst 373 (storeF Y room H St Tr))) (e2 : σ[H]? = some (.list xs)) (hr : room ≤ (xs.length : Int)) (hz : xs.length ≤ 2000) (y : IsSym σ Y am fr fu)
   (h : X (fault am fr) σ) : CodeW C n true (.ref 208) [.obj S] σ Q X := by
  refine def1 (ok208 _) (b208 _) (by walk_at "o") ?_
  conv in bodyAt _ _ => whnf
  repeat walk_at "m"
  refine call_len e2 ?_ ?_
  · walk_at "o"
  repeat walk_at "m"
  refine CodeW.call (push_full rfl ?_ e1 e2 hr hz y ?_)
  · walk_at "o"
  exact finx_same rfl h
/-- the unbound cells from place a on -/
def unb (a : Int) (k : Nat) : List MV := (List.range k).map fun (i : Nat) => cellv 0 (a + i)
theorem unb_succ (a : Int) (k : Nat) : unb a (k + 1) = unb a k ++ [cellv 0 (a + k)] := by unfold unb; rw [List.range_succ]; simp
theorem unb_free (a : Int) (k : Nat) : MV.frees (unb a k) = true := by
  induction k with
  | zero => rfl
  | succ k ih => rw [unb_succ]; exact frees_app ih rfl
theorem unb_len (a : Int) (k : Nat) : (unb a k).length = k := by unfold unb; simp
theorem set_same {i : Nat} {m : MO} (e : σ[i]? = some m) : σ.set i m = σ := by
  obtain ⟨h, rfl⟩ := List.getElem?_eq_some_iff.mp e
  exact List.set_getElem_self h
theorem frees_take {xs : List MV} (f : MV.frees xs = true) : ∀ k, MV.frees (xs.take k) = true := by
  induction xs with
  | nil => intro k; simp [MV.frees]
  | cons x r ih =>
    intro k
    have f' : x.free = true ∧ MV.frees r = true := by simpa [MV.frees] using f
    cases k with
    | zero => simp [MV.frees]
    | succ k => simp [MV.frees, f'.1, ih f'.2 k]
theorem reserve_fits {k : Nat} (hn : n ≤ 18) (e1 : σ[S]? = some (.inst 373 (storeF Y room H St Tr))) (e2 : σ[H]? = some (.list xs)) (hr : (xs.length : Int) + k ≤ room) (hz : xs.length + k ≤ 2000) (fx : MV.frees xs = true) (hSH : H ≠ S)
   (h : Q (.int xs.length) (σ.set H (.list (xs ++ unb xs.length k)))) : CodeW C n true (.ref 215) [.obj S, .int k] σ Q X := by
  refine def2 (ok215 _) (b215 _) (by walk_at "o") ?_
  conv in bodyAt _ _ => whnf
  repeat walk_at "m"
  refine call_len e2 ?_ ?_
  · walk_at "o"
  repeat walk_at "m"
  rw [decide_eq_false (by walk_at "o"), if_neg (by decide)]
  repeat walk_at "m"
  with_reducible refine x_for_range ?hx ?_ ?hs ?hc ?he ?hk
  case hx => kernel_rfl
  case hs => (intro _ _; rfl)
  case hc => (intro _; rfl)
  case he => (intro _; rfl)
  case hk => kernel_rfl
  repeat walk_at "m"
  refine ⟨rfl, ?_⟩
  repeat walk_at "m"
  refine ⟨k, rfl, by walk_at "o", fun i loc σ' => Sub [(Str.ofString "first", .int xs.length), (Str.ofString "self", .obj S), (Str.ofString "count", .int k)] loc ∧ σ' = σ.set H (.list (xs ++ unb xs.length i)), ⟨.refl _, ?_⟩, ?_, ?_⟩
  · show σ = σ.set H (.list (xs ++ []))
    rw [List.append_nil, set_same e2]
  · rintro i loc σ' ⟨sb, rfl⟩ hi
    refine ExecsW.sub (sb.cons _) ?_
    repeat walk_at "m"
    refine call_append (get_set_self e2) ?_ ?_
    · rw [List.length_append, unb_len]; walk_at "o"
    repeat walk_at "m"
    refine ⟨.tail rfl, ?_⟩
    rw [List.set_set, List.append_assoc, unb_succ]; rfl
  · rintro loc σ' ⟨sb, rfl⟩
    refine ExecsW.sub sb ?_
    repeat walk_at "m"
    refine fin_chg ((Chg.refl _).set ?_) rfl ?_
    · exact frees_app fx (unb_free _ _)
    · rwa [List.take_of_length_le (by simp)]
theorem reserve_full {k : Nat} (hn : n ≤ 12) (e1 : σ[S]? = some (.inst 373 (storeF Y room H St Tr))) (e2 : σ[H]? = some (.list xs)) (hr : room < (xs.length : Int) + k) (hz : xs.length ≤ 2000) (y : IsSym σ Y am fr fu)
   (h : X (fault am fr) σ) : CodeW C n true (.ref 215) [.obj S, .int k] σ Q X := by
  refine def2 (ok215 _) (b215 _) (by walk_at "o") ?_
  conv in bodyAt _ _ => whnf
  repeat walk_at "m"
  refine call_len e2 ?_ ?_
  · walk_at "o"
  repeat walk_at "m"
  rw [decide_eq_true hr, if_pos rfl]
  repeat walk_at "m"
  refine CodeW.call (resource_err ?_ y ?_)
  · walk_at "o"
  refine ⟨σ, fault am fr, rfl, rfl, (Chg.refl σ).app.drops rfl, MV.free_under rfl, finx_same rfl h⟩
theorem trim_ok {k : Nat} (hn : n ≤ 20) (e1 : σ[S]? = some (.inst 373 (storeF Y room H St Tr))) (e2 : σ[H]? = some (.list xs)) (hk : k ≤ xs.length) (hz : xs.length ≤ 2000) (fx : MV.frees xs = true)
   (h : Q .none (σ.set H (.list (xs.take k)))) : CodeW C n q (.ref 222) [.obj S, .int k] σ Q X := by
  refine def2 (ok222 _) (b222 _) (by walk_at "o") ?_
  conv in bodyAt _ _ => whnf
  repeat walk_at "m"
  refine ⟨H, xs, k, rfl, rfl, e2, hk, by walk_at "o", ?_⟩
  repeat walk_at "m"
  refine fin_next ((Chg.refl _).set (mo := .list (xs.take k)) ?_) ?_
  · exact frees_take fx k
  · rwa [List.take_of_length_le (by simp)]
theorem deref_val {t v : Int} (h0 : t ≠ 0) (h1 : t ≠ 1) (hn : n ≤ 20) (h : Q (cellv t v) σ) : CodeW C n q (.ref 229) [.obj S, cellv t v] σ Q X := by
  refine def2 (ok229 _) (b229 _) (by walk_at "o") ?_
  conv in bodyAt _ _ => whnf
  repeat walk_at "m"
  refine x_while (fun _ loc σ' => loc = [(Str.ofString "self", .obj S), (Str.ofString "cell", cellv t v)] ∧ σ' = σ) 0 ⟨rfl, rfl⟩ ?_
  rintro r loc σ' ⟨rfl, rfl⟩
  repeat walk_at "m"
  rw [if_pos rfl]
  repeat walk_at "m"
  refine ⟨_, _, rfl, .tup (by decide) rfl (by show 2 < _; walk_at "o"), ?_⟩
  repeat walk_at "m"
  rw [show (t == 0) = false by simpa using h0, if_neg (by decide)]
  repeat walk_at "m"
  rw [show (t == 1) = false by simpa using h1, if_neg (by decide)]
  repeat walk_at "m"
  exact fin_same rfl h
theorem globalise_val {t v : Int} (h0 : t ≠ 0) (h1 : t ≠ 1) (hn : n ≤ 18) (e1 : σ[S]? = some (.inst 373 (storeF Y room H St Tr))) (h : Q (cellv t v) σ) : CodeW C n q (.ref 257) [.obj S, cellv t v] σ Q X := by
  refine def2 (ok257 _) (b257 _) (by walk_at "o") ?_
  conv in bodyAt _ _ => whnf
  repeat walk_at "m"
  refine CodeW.call (deref_val h0 h1 ?_ ?_)
  · walk_at "o"
  repeat walk_at "m"
  refine ⟨_, _, rfl, .tup (by decide) rfl (by show 2 < _; walk_at "o"), ?_⟩
  repeat walk_at "m"
  rw [show (t == 1) = false by simpa using h1, if_neg (by decide)]
  repeat walk_at "m"
  exact fin_same rfl h
theorem base_lis {v : Int} (hn : n ≤ 20) (h : Q (.int v) σ) : CodeW C n q (.ref 306) [.obj S, cellv 3 v] σ Q X := by
  refine def2 (ok306 _) (b306 _) (by walk_at "o") ?_
  conv in bodyAt _ _ => whnf
  repeat walk_at "m"
  refine ⟨_, _, rfl, .tup (by decide) rfl (by show 2 < _; walk_at "o"), ?_⟩
  repeat walk_at "m"
  rw [if_pos (by decide)]
  repeat walk_at "m"
  refine ⟨_, _, rfl, .tup (by decide) rfl (by show 2 < _; walk_at "o"), ?_⟩
  exact fin_same rfl h
theorem base_str {v : Int} (hn : n ≤ 20) (h : Q (.int (v + 1)) σ) : CodeW C n q (.ref 306) [.obj S, cellv 2 v] σ Q X := by
  refine def2 (ok306 _) (b306 _) (by walk_at "o") ?_
  conv in bodyAt _ _ => whnf
  repeat walk_at "m"
  refine ⟨_, _, rfl, .tup (by decide) rfl (by show 2 < _; walk_at "o"), ?_⟩
  repeat walk_at "m"
  rw [if_neg (by decide)]
  repeat walk_at "m"
  refine ⟨_, _, rfl, .tup (by decide) rfl (by show 2 < _; walk_at "o"), ?_⟩
  repeat walk_at "m"
  exact fin_same rfl h
end

/-! MBlock -/
theorem ok341 (P : Params) : fnOk P 341 [Str.ofString "self", Str.ofString "f", Str.ofString "cells"] = true := by kernel_rfl
theorem b341 (P : Params) (a b c : Value) : bindArgs (fdAt P 341) ⟨[a, b, c], []⟩ = pure [(Str.ofString "self", a), (Str.ofString "f", b), (Str.ofString "cells", c)] := by kernel_rfl
def preOf (f : Nat) : List MV := if f = 0 then [] else [cellv 6 f]
def madeOf (f len : Nat) : MV := cellv (if f = 0 then 3 else 2) len
theorem pre_free (f : Nat) : MV.frees (preOf f) = true := by unfold preOf; split <;> rfl
/-- a functor with its arity -/
def Fun (fu : List MV) (f k : Nat) : Prop := f = 0 ∧ k = 2 ∨ f ≠ 0 ∧ ∃ a, fu[f]? = some (.tup [a, .int k])
theorem unb_cons (a : Int) (k : Nat) : unb a (k + 1) = cellv 0 a :: unb (a + 1) k := by
  unfold unb
  rw [List.range_succ_eq_map, List.map_cons, List.map_map]
  congr 1
  · simp
  · apply List.map_congr_left
    intro i _
    simp only [Function.comp_apply]
    rw [show a + ((i.succ : Nat) : Int) = a + 1 + (i : Int) by walk_at "o"]
theorem set_mid {α : Type} (A B : List α) (x v : α) (k : Nat) (h : k = A.length) : (A ++ x :: B).set k v = A ++ v :: B := by subst h; simp
section
variable {C : Cfg} {n : Nat} {q : Bool} {σ : List MO} {Q : MV → List MO → Prop} {X : MV → List MO → Prop} {Y S H St Tr : Nat} {room : Int} {xs : List MV} {am fr : Int} {fu : List MV}
theorem new_block_fits {f k : Nat} (hf : Fun fu f k) (hn : n ≤ 14) (e1 : σ[S]? = some (.inst 373 (storeF Y room H St Tr))) (e2 : σ[H]? = some (.list xs)) (hr : (xs.length : Int) + (preOf f).length + k ≤ room) (hz : xs.length + k ≤ 1900) (fx : MV.frees xs = true) (hSH : H ≠ S)
   (y : IsSym σ Y am fr fu) (hfu : fu.length ≤ 1000) (h : Q (madeOf f xs.length) (σ.set H (.list (xs ++ preOf f ++ unb (xs.length + (preOf f).length) k)))) : CodeW C n true (.ref 320) [.obj S, .int f] σ Q X := by
  refine def2 (ok320 _) (b320 _) (by walk_at "o") ?_
  conv in bodyAt _ _ => whnf
  repeat walk_at "m"
  rcases hf with ⟨rfl, rfl⟩ | ⟨hf, a, ha⟩
  · rw [if_pos (by decide)]
    repeat walk_at "m"
    refine CodeW.call (reserve_fits (k := 2) ?_ e1 e2 ?_ ?_ fx hSH ?_)
    · walk_at "o"
    · simp [preOf] at hr; walk_at "o"
    · walk_at "o"
    repeat walk_at "m"
    refine fin_chg ((Chg.refl _).set ?_) rfl ?_
    · exact frees_app fx (unb_free _ _)
    · rw [List.take_of_length_le (by simp)]
      simpa [preOf, madeOf, cellv] using h
  · have hp : preOf f = [cellv 6 f] := by unfold preOf; rw [if_neg hf]
    rw [hp] at hr h
    rw [show ((f : Int) == 0) = false by simpa using hf, if_neg (by decide)]
    obtain ⟨T, AN, FU, FN, an, fn, ar, y1, y2, y3, y4, _⟩ := y.ex
    repeat walk_at "m"
    refine CodeW.call (arity_of ?_ y1 y4 ha ?_ ?_)
    · walk_at "o"
    · walk_at "o"
    repeat walk_at "m"
    rw [show (1 : Int) + (k : Int) = ((1 + k : Nat) : Int) by walk_at "o"]
    refine CodeW.call (reserve_fits (k := 1 + k) ?_ e1 e2 ?_ ?_ fx hSH ?_)
    · walk_at "o"
    · simp at hr; walk_at "o"
    · walk_at "o"
    repeat walk_at "m"
    refine ⟨_, .list (get_set_self e2) (by walk_at "o") (by rw [List.length_append, unb_len]; walk_at "o") (by rw [List.length_append, unb_len]; walk_at "o"), ?_⟩
    repeat walk_at "m"
    rw [List.set_set, Nat.add_comm 1 k, unb_cons, set_mid _ _ _ _ _ (by simp)]
    refine fin_chg ((Chg.refl _).set ?_) rfl ?_
    · refine frees_app fx ?_
      have := unb_free ((xs.length : Int) + 1) k
      simpa [MV.frees, MV.free] using this
    · rw [List.take_of_length_le (by simp)]
      simpa [madeOf, hf, cellv] using h
theorem new_block_full {f k : Nat} (hf : Fun fu f k) (hn : n ≤ 9) (e1 : σ[S]? = some (.inst 373 (storeF Y room H St Tr))) (e2 : σ[H]? = some (.list xs)) (hr : room < (xs.length : Int) + (preOf f).length + k) (hz : xs.length + k ≤ 1900)
   (y : IsSym σ Y am fr fu) (hfu : fu.length ≤ 1000) (h : X (fault am fr) σ) : CodeW C n true (.ref 320) [.obj S, .int f] σ Q X := by
  refine def2 (ok320 _) (b320 _) (by walk_at "o") ?_
  conv in bodyAt _ _ => whnf
  repeat walk_at "m"
  rcases hf with ⟨rfl, rfl⟩ | ⟨hf, a, ha⟩
  · rw [if_pos (by decide)]
    repeat walk_at "m"
    refine CodeW.call (reserve_full (k := 2) ?_ e1 e2 ?_ ?_ y ?_)
    · walk_at "o"
    · simp [preOf] at hr; walk_at "o"
    · walk_at "o"
    exact finx_same rfl h
  · have hp : preOf f = [cellv 6 f] := by unfold preOf; rw [if_neg hf]
    rw [hp] at hr
    rw [show ((f : Int) == 0) = false by simpa using hf, if_neg (by decide)]
    obtain ⟨T, AN, FU, FN, an, fn, ar, y1, y2, y3, y4, _⟩ := id y.ex
    repeat walk_at "m"
    refine CodeW.call (arity_of ?_ y1 y4 ha ?_ ?_)
    · walk_at "o"
    · walk_at "o"
    repeat walk_at "m"
    rw [show (1 : Int) + (k : Int) = ((1 + k : Nat) : Int) by walk_at "o"]
    refine CodeW.call (reserve_full (k := 1 + k) ?_ e1 e2 ?_ ?_ y ?_)
    · walk_at "o"
    · simp at hr; walk_at "o"
    · walk_at "o"
    exact finx_same rfl h
theorem base_of {f len : Nat} (hn : n ≤ 20) (h : Q (.int ((len : Int) + (preOf f).length)) σ) : CodeW C n q (.ref 306) [.obj S, madeOf f len] σ Q X := by
  unfold madeOf preOf at *
  by_cases hf : f = 0
  · rw [if_pos hf] at h ⊢
    exact base_lis hn (by simpa using h)
  · rw [if_neg hf] at h ⊢
    exact base_str hn (by simpa using h)
/-- the integer cells 0, 1, .. -/
def intc (k : Nat) : List MV := (List.range k).map fun (i : Nat) => cellv 5 i
theorem intc_succ (k : Nat) : intc (k + 1) = intc k ++ [cellv 5 k] := by unfold intc; rw [List.range_succ]; simp
theorem intc_len (k : Nat) : (intc k).length = k := by unfold intc; simp
theorem intc_free (k : Nat) : MV.frees (intc k) = true := by
  induction k with
  | zero => rfl
  | succ k ih => rw [intc_succ]; exact frees_app ih rfl
theorem intc_get {k i : Nat} {v : MV} (e : (intc k)[i]? = some v) : i < k ∧ v = cellv 5 i := by
  have hlt := (List.getElem?_eq_some_iff.mp e).1
  rw [intc_len] at hlt
  refine ⟨hlt, ?_⟩
  unfold intc at e
  simpa [hlt] using e.symm
end

/-! MTerm -/
section
variable {C : Cfg} {n : Nat} {q : Bool} {σ : List MO} {Q : MV → List MO → Prop} {X : MV → List MO → Prop} {Y S H St Tr : Nat} {room : Int} {xs : List MV} {am fr : Int} {fu : List MV}
theorem set_app {z : List MO} {i : Nat} {a m : MO} (e : σ[i]? = some m) : (σ ++ z).set i a = σ.set i a ++ z := List.set_append_left _ _ (List.getElem?_eq_some_iff.mp e).1
theorem get_at {l : List MO} {a : MO} {k : Nat} (h : l.length = k) : (l ++ [a])[k]? = some a := by subst h; exact get_last
theorem IsSym.app {z : List MO} (y : IsSym σ Y am fr fu) : IsSym (σ ++ z) Y am fr fu := by
  obtain ⟨T, AN, FU, FN, an, fn, ar, y1, y2, y3, y4, r⟩ := y.ex
  exact ⟨T, AN, FU, FN, an, fn, ar, get_app y1, get_app y2, get_app y3, get_app y4, r⟩
theorem new_struct_fits {f k j : Nat} (hf : Fun fu f k) (h0 : 0 < k) (hn : n ≤ 10) (e1 : σ[S]? = some (.inst 373 (storeF Y room H St Tr))) (e2 : σ[H]? = some (.list xs)) (e3 : σ[j]? = some (.list (intc k))) (hr : (xs.length : Int) + (preOf f).length + k ≤ room) (hz : xs.length + k ≤ 1800) (fx : MV.frees xs = true) (hSH : H ≠ S)
   (y : IsSym σ Y am fr fu) (hfu : fu.length ≤ 1000) (h : Q (madeOf f xs.length) (σ.set H (.list (xs ++ preOf f ++ intc k)))) : CodeW C n true (.ref 341) [.obj S, .int f, .obj j] σ Q X := by
  refine def3 (ok341 _) (b341 _) (by walk_at "o") ?_
  conv in bodyAt _ _ => whnf
  have hp : (preOf f).length ≤ 1 := by unfold preOf; split <;> simp
  repeat walk_at "m"
  refine call_len e3 ?_ ?_
  · rw [intc_len]; walk_at "o"
  repeat walk_at "m"
  rw [intc_len, show ((k : Int) == 0) = false by simp; walk_at "o", if_neg (by decide)]
  repeat walk_at "m"
  with_reducible refine x_for_list ?hx ?_ ?hs ?hk
  case hx => kernel_rfl
  case hs => (intro _ _; rfl)
  case hk => kernel_rfl
  repeat walk_at "m"
  refine ⟨j, intc k, fun i loc σ' => Sub [(Str.ofString "values", .obj σ.length), (Str.ofString "self", .obj S), (Str.ofString "f", .int f), (Str.ofString "cells", .obj j)] loc ∧ σ' = σ ++ [MO.list (intc i)], rfl, get_app e3, ⟨.refl _, rfl⟩, ?_, ?_, ?_⟩
  · rintro i v loc σ' ⟨sb, rfl⟩ hv
    obtain ⟨hi, rfl⟩ := intc_get hv
    refine ExecsW.sub (sb.cons _) ?_
    repeat walk_at "m"
    refine CodeW.call (globalise_val (by decide) (by decide) ?_ (get_app e1) ?_)
    · walk_at "o"
    repeat walk_at "m"
    refine call_append get_last ?_ ?_
    · rw [intc_len]; walk_at "o"
    repeat walk_at "m"
    exact ⟨.tail rfl, by rw [set_last, intc_succ]⟩
  · rintro i loc σ' ⟨sb, rfl⟩
    exact get_app e3
  · rintro loc σ' ⟨sb, rfl⟩
    rw [intc_len]
    refine ExecsW.sub sb ?_
    repeat walk_at "m"
    refine CodeW.call (new_block_fits hf ?_ (get_app e1) (get_app e2) hr (by walk_at "o") fx hSH y.app hfu ?_)
    · walk_at "o"
    rw [set_app e2]
    repeat walk_at "m"
    refine CodeW.call (base_of ?_ ?_)
    · walk_at "o"
    repeat walk_at "m"
    with_reducible refine x_for_list ?hx ?_ ?hs ?hk
    case hx => kernel_rfl
    case hs => (intro _ _; rfl)
    case hk => kernel_rfl
    repeat walk_at "m"
    have hl : (σ.set H (.list (xs ++ preOf f ++ unb (xs.length + (preOf f).length) k))).length = σ.length := by simp
    refine ⟨σ.length, intc k, fun i loc σ' => Sub [(Str.ofString "place", .int ((xs.length : Int) + (preOf f).length + i)), (Str.ofString "made", madeOf f xs.length), (Str.ofString "values", .obj σ.length), (Str.ofString "self", .obj S), (Str.ofString "f", .int f), (Str.ofString "cells", .obj j)] loc ∧
      σ' = σ.set H (.list (xs ++ preOf f ++ intc i ++ unb ((xs.length : Int) + (preOf f).length + i) (k - i))) ++ [MO.list (intc k)], rfl, ?_, ⟨?_, ?_⟩, ?_, ?_, ?_⟩
    · rw [← hl]; exact get_last
    · show Sub _ [(Str.ofString "place", .int ((xs.length : Int) + (preOf f).length)), _, _, _, _, _]
      rw [show ((xs.length : Int) + (preOf f).length + (0 : Nat)) = (xs.length : Int) + (preOf f).length by walk_at "o"]
      exact .refl _
    · show _ = σ.set H (.list (xs ++ preOf f ++ [] ++ unb ((xs.length : Int) + (preOf f).length + (0 : Nat)) (k - 0))) ++ _
      rw [List.append_nil, show ((xs.length : Int) + (preOf f).length + (0 : Nat)) = (xs.length : Int) + (preOf f).length by walk_at "o"]
      rfl
    · rintro i v loc σ' ⟨sb, rfl⟩ hv
      obtain ⟨hi, rfl⟩ := intc_get hv
      refine ExecsW.sub (sb.cons _) ?_
      repeat walk_at "m"
      refine ⟨_, .list (get_app (get_set_self e2)) (by walk_at "o") ?_ ?_, ?_⟩
      · simp only [List.length_append, intc_len, unb_len]; walk_at "o"
      · simp only [List.length_append, intc_len, unb_len]; walk_at "o"
      rw [set_app (get_set_self e2), List.set_set, show k - i = (k - (i + 1)) + 1 by walk_at "o", unb_cons, set_mid _ _ _ _ _ (by simp only [List.length_append, intc_len]; walk_at "o")]
      repeat walk_at "m"
      refine ⟨?_, ?_⟩
      · rw [show (xs.length : Int) + (preOf f).length + i + 1 = (xs.length : Int) + (preOf f).length + ((i + 1 : Nat) : Int) by walk_at "o"]
        exact (Sub.trans (.tail rfl) (.tail rfl)).cons _
      · rw [intc_succ]; simp [Int.add_assoc]
    · rintro i loc σ' ⟨sb, rfl⟩
      exact get_at (by simp)
    · rintro loc σ' ⟨sb, rfl⟩
      rw [intc_len, Nat.sub_self]
      refine ExecsW.sub sb ?_
      repeat walk_at "m"
      refine fin_chg ((Chg.refl _).set ?_).app rfl ?_
      · exact frees_app (frees_app (frees_app fx (pre_free _)) (intc_free _)) rfl
      · rw [List.take_left' (by simp)]
        simpa [unb] using h
theorem new_struct_full {f k j : Nat} (hf : Fun fu f k) (h0 : 0 < k) (hn : n ≤ 7) (e1 : σ[S]? = some (.inst 373 (storeF Y room H St Tr))) (e2 : σ[H]? = some (.list xs)) (e3 : σ[j]? = some (.list (intc k))) (hr : room < (xs.length : Int) + (preOf f).length + k) (hz : xs.length + k ≤ 1800) 
   (y : IsSym σ Y am fr fu) (hfu : fu.length ≤ 1000) (h : X (fault am fr) σ) : CodeW C n true (.ref 341) [.obj S, .int f, .obj j] σ Q X := by
  refine def3 (ok341 _) (b341 _) (by walk_at "o") ?_
  conv in bodyAt _ _ => whnf
  have hp : (preOf f).length ≤ 1 := by unfold preOf; split <;> simp
  repeat walk_at "m"
  refine call_len e3 ?_ ?_
  · rw [intc_len]; walk_at "o"
  repeat walk_at "m"
  rw [intc_len, show ((k : Int) == 0) = false by simp; walk_at "o", if_neg (by decide)]
  repeat walk_at "m"
  with_reducible refine x_for_list ?hx ?_ ?hs ?hk
  case hx => kernel_rfl
  case hs => (intro _ _; rfl)
  case hk => kernel_rfl
  repeat walk_at "m"
  refine ⟨j, intc k, fun i loc σ' => Sub [(Str.ofString "values", .obj σ.length), (Str.ofString "self", .obj S), (Str.ofString "f", .int f), (Str.ofString "cells", .obj j)] loc ∧ σ' = σ ++ [MO.list (intc i)], rfl, get_app e3, ⟨.refl _, rfl⟩, ?_, ?_, ?_⟩
  · rintro i v loc σ' ⟨sb, rfl⟩ hv
    obtain ⟨hi, rfl⟩ := intc_get hv
    refine ExecsW.sub (sb.cons _) ?_
    repeat walk_at "m"
    refine CodeW.call (globalise_val (by decide) (by decide) ?_ (get_app e1) ?_)
    · walk_at "o"
    repeat walk_at "m"
    refine call_append get_last ?_ ?_
    · rw [intc_len]; walk_at "o"
    repeat walk_at "m"
    exact ⟨.tail rfl, by rw [set_last, intc_succ]⟩
  · rintro i loc σ' ⟨sb, rfl⟩
    exact get_app e3
  · rintro loc σ' ⟨sb, rfl⟩
    rw [intc_len]
    refine ExecsW.sub sb ?_
    repeat walk_at "m"
    refine CodeW.call (new_block_full hf ?_ (get_app e1) (get_app e2) hr (by walk_at "o") y.app hfu ?_)
    · walk_at "o"
    exact finx_app rfl h

/-- the term s(f, (i 0, i 1, ..)) -/
def items (k : Nat) : List MV := (List.range k).map fun (i : Nat) => .tup [.str (Str.ofString "i"), .int i]
def termOf (f k : Nat) : MV := .tup [.str (Str.ofString "s"), .int f, .tup (items k)]
theorem items_get {k i : Nat} {v : MV} (e : (items k)[i]? = some v) : i < k ∧ v = .tup [.str (Str.ofString "i"), .int i] := by
  have hlt := (List.getElem?_eq_some_iff.mp e).1
  have hlt' : i < k := by simpa [items] using hlt
  refine ⟨hlt', ?_⟩
  unfold items at e
  simpa [hlt'] using e.symm
theorem items_len (k : Nat) : (items k).length = k := by simp [items]
theorem ok363 (P : Params) : fnOk P 363 [Str.ofString "self", Str.ofString "term", Str.ofString "table"] = true := by kernel_rfl
theorem b363 (P : Params) (a b c : Value) : bindArgs (fdAt P 363) ⟨[a, b, c], []⟩ = pure [(Str.ofString "self", a), (Str.ofString "term", b), (Str.ofString "table", c)] := by kernel_rfl
theorem put_term_fits {f k j : Nat} (hf : Fun fu f k) (hn : n ≤ 10) (e1 : σ[S]? = some (.inst 373 (storeF Y room H St Tr))) (e2 : σ[H]? = some (.list xs)) (e3 : σ[j]? = some (.sdict [])) (hr : (xs.length : Int) + (preOf f).length + k ≤ room) (hz : xs.length + k ≤ 1800) (fx : MV.frees xs = true) (hSH : H ≠ S)
   (y : IsSym σ Y am fr fu) (hfu : fu.length ≤ 1000) (h : Q (madeOf f xs.length) (σ.set H (.list (xs ++ preOf f ++ intc k)))) : CodeW C n true (.ref 363) [.obj S, termOf f k, .obj j] σ Q X := by
  refine def3 (ok363 _) (b363 _) (by walk_at "o") ?_
  conv in bodyAt _ _ => whnf
  have hp : (preOf f).length ≤ 1 := by unfold preOf; split <;> simp
  repeat walk_at "m"
  with_reducible refine x_for_list ?hx ?_ ?hs ?hk
  case hx => kernel_rfl
  case hs => (intro _ _; rfl)
  case hk => kernel_rfl
  repeat walk_at "m"
  refine call_list_empty e3 ?_
  refine ⟨σ.length, [], fun i loc σ' => Sub [(Str.ofString "self", .obj S), (Str.ofString "term", termOf f k), (Str.ofString "table", .obj j)] loc ∧ σ' = σ ++ [MO.list []], rfl, get_last, ⟨.refl _, rfl⟩, ?_, ?_, ?_⟩
  · rintro i v loc σ' _ hv
    cases hv
  · rintro i loc σ' ⟨sb, rfl⟩
    exact get_last
  · rintro loc σ' ⟨sb, rfl⟩
    refine ExecsW.sub sb ?_
    repeat walk_at "m"
    refine ⟨_, _, rfl, .tup (by decide) rfl (by show 3 < _; walk_at "o"), ?_⟩
    repeat walk_at "m"
    rw [if_neg (by decide)]
    repeat walk_at "m"
    rw [if_neg (by decide)]
    repeat walk_at "m"
    rw [if_neg (by decide)]
    repeat walk_at "m"
    refine ⟨_, _, rfl, .tup (by decide) rfl (by show 3 < _; walk_at "o"), ?_⟩
    repeat walk_at "m"
    refine CodeW.call (new_block_fits hf ?_ (get_app e1) (get_app e2) hr (by walk_at "o") fx hSH y.app hfu ?_)
    · walk_at "o"
    rw [set_app e2]
    repeat walk_at "m"
    refine CodeW.call (base_of ?_ ?_)
    · walk_at "o"
    repeat walk_at "m"
    refine ⟨_, _, rfl, .tup (by decide) rfl (by show 3 < _; walk_at "o"), ?_⟩
    repeat walk_at "m"
    have hw : (σ.set H (.list (xs ++ preOf f ++ unb (xs.length + (preOf f).length) k)) ++ [MO.list []]).length = σ.length + 1 := by simp
    rw [hw]
    refine x_while (fun r loc σ' => (r = 1 ∧ loc = [(Str.ofString "at", .int 0), (Str.ofString "waiting", .obj (σ.length + 1)), (Str.ofString "made", madeOf f xs.length), (Str.ofString "kind", .str (Str.ofString "s")), (Str.ofString "self", .obj S), (Str.ofString "term", termOf f k), (Str.ofString "table", .obj j)] ∧
        σ' = σ.set H (.list (xs ++ preOf f ++ unb (xs.length + (preOf f).length) k)) ++ [MO.list []] ++ [MO.list [.tup [.int (xs.length + (preOf f).length), .tup (items k)]]]) ∨
      (r = 0 ∧ Sub [(Str.ofString "at", .int 1), (Str.ofString "waiting", .obj (σ.length + 1)), (Str.ofString "made", madeOf f xs.length), (Str.ofString "self", .obj S)] loc ∧
        σ' = σ.set H (.list (xs ++ preOf f ++ intc k)) ++ [MO.list []] ++ [MO.list [.tup [.int (xs.length + (preOf f).length), .tup (items k)]]])) 1 (.inl ⟨rfl, rfl, rfl⟩) ?_
    rintro r loc σ' (⟨rfl, rfl, rfl⟩ | ⟨rfl, sb, rfl⟩)
    · repeat walk_at "m"
      refine call_len (get_at hw) (by simp) ?_
      repeat walk_at "m"
      rw [if_pos (by simp)]
      repeat walk_at "m"
      with_reducible refine x_pair ?hx ?hy ?_ ?hs ?hw ?hk
      case hx => kernel_rfl
      case hy => kernel_rfl
      case hs => (intro _; rfl)
      case hw => (intro _; rfl)
      case hk => kernel_rfl
      repeat walk_at "m"
      refine ⟨_, _, rfl, .list (get_at hw) (by decide) rfl (by simp), _, _, rfl, ?_⟩
      repeat walk_at "m"
      with_reducible refine x_for_tuple ?hx ?_ ?hs ?hk
      case hx => kernel_rfl
      case hs => (intro _ _; rfl)
      case hk => kernel_rfl
      repeat walk_at "m"
      refine ⟨items k, fun i loc σ' => Sub [(Str.ofString "place", .int ((xs.length : Int) + (preOf f).length + i)), (Str.ofString "at", .int 1), (Str.ofString "waiting", .obj (σ.length + 1)), (Str.ofString "made", madeOf f xs.length), (Str.ofString "self", .obj S), (Str.ofString "table", .obj j)] loc ∧
        σ' = σ.set H (.list (xs ++ preOf f ++ intc i ++ unb ((xs.length : Int) + (preOf f).length + i) (k - i))) ++ [MO.list []] ++ [MO.list [.tup [.int (xs.length + (preOf f).length), .tup (items k)]]], rfl, ⟨?_, ?_⟩, ?_, ?_⟩
      · rw [show ((xs.length : Int) + (preOf f).length + (0 : Nat)) = (xs.length : Int) + (preOf f).length by walk_at "o"]
        exact .one rfl (.one rfl (.one rfl (.one rfl (.one rfl (.one rfl .nil)))))
      · show _ = σ.set H (.list (xs ++ preOf f ++ [] ++ unb ((xs.length : Int) + (preOf f).length + (0 : Nat)) (k - 0))) ++ _ ++ _
        rw [List.append_nil, show ((xs.length : Int) + (preOf f).length + (0 : Nat)) = (xs.length : Int) + (preOf f).length by walk_at "o"]
        rfl
      · rintro i v loc σ' ⟨sb, rfl⟩ hv
        obtain ⟨hi, rfl⟩ := items_get hv
        refine ExecsW.sub (sb.cons _) ?_
        repeat walk_at "m"
        refine ⟨_, _, rfl, .tup (by decide) rfl (by show 2 < _; walk_at "o"), ?_⟩
        repeat walk_at "m"
        rw [if_neg (by decide)]
        repeat walk_at "m"
        rw [if_neg (by decide)]
        repeat walk_at "m"
        rw [if_pos (by decide)]
        repeat walk_at "m"
        refine ⟨_, _, rfl, .tup (by decide) rfl (by show 2 < _; walk_at "o"), ?_⟩
        repeat walk_at "m"
        refine ⟨_, .list (get_app (get_app (get_set_self e2))) (by walk_at "o") ?_ ?_, ?_⟩
        · simp only [List.length_append, intc_len, unb_len]; walk_at "o"
        · simp only [List.length_append, intc_len, unb_len]; walk_at "o"
        rw [set_app (get_app (get_set_self e2)), set_app (get_set_self e2), List.set_set, show k - i = (k - (i + 1)) + 1 by walk_at "o", unb_cons, set_mid _ _ _ _ _ (by simp only [List.length_append, intc_len]; walk_at "o")]
        repeat walk_at "m"
        refine ⟨?_, ?_⟩
        · rw [show (xs.length : Int) + (preOf f).length + ((i + 1 : Nat) : Int) = (xs.length : Int) + (preOf f).length + i + 1 by walk_at "o"]
          exact .one rfl (.one rfl (.one rfl (.one rfl (.one rfl (.one rfl .nil)))))
        · rw [intc_succ]; simp [Int.add_assoc, cellv]
      · rintro loc σ' ⟨sb, rfl⟩
        rw [items_len, Nat.sub_self]
        refine xs_nil ⟨0, by decide, .inr ⟨rfl, ?_, ?_⟩⟩
        · exact .one (sb _ _ rfl) (.one (sb _ _ rfl) (.one (sb _ _ rfl) (.one (sb _ _ rfl) .nil)))
        · simp [unb]
    · refine TestW.sub sb ?_
      repeat walk_at "m"
      refine call_len (get_at (by simp)) (by simp) ?_
      repeat walk_at "m"
      rw [if_neg (by simp)]
      refine ExecsW.sub sb ?_
      repeat walk_at "m"
      rw [List.append_assoc]
      refine fin_chg ((Chg.refl _).set ?_).app rfl ?_
      · exact frees_app (frees_app fx (pre_free _)) (intc_free _)
      · rw [List.take_left' (by simp)]
        exact h
theorem put_term_full {f k j : Nat} (hf : Fun fu f k) (hn : n ≤ 7) (e1 : σ[S]? = some (.inst 373 (storeF Y room H St Tr))) (e2 : σ[H]? = some (.list xs)) (e3 : σ[j]? = some (.sdict [])) (hr : room < (xs.length : Int) + (preOf f).length + k) (hz : xs.length + k ≤ 1800) 
   (y : IsSym σ Y am fr fu) (hfu : fu.length ≤ 1000) (h : X (fault am fr) σ) : CodeW C n true (.ref 363) [.obj S, termOf f k, .obj j] σ Q X := by
  refine def3 (ok363 _) (b363 _) (by walk_at "o") ?_
  conv in bodyAt _ _ => whnf
  have hp : (preOf f).length ≤ 1 := by unfold preOf; split <;> simp
  repeat walk_at "m"
  with_reducible refine x_for_list ?hx ?_ ?hs ?hk
  case hx => kernel_rfl
  case hs => (intro _ _; rfl)
  case hk => kernel_rfl
  repeat walk_at "m"
  refine call_list_empty e3 ?_
  refine ⟨σ.length, [], fun i loc σ' => Sub [(Str.ofString "self", .obj S), (Str.ofString "term", termOf f k), (Str.ofString "table", .obj j)] loc ∧ σ' = σ ++ [MO.list []], rfl, get_last, ⟨.refl _, rfl⟩, ?_, ?_, ?_⟩
  · rintro i v loc σ' _ hv
    cases hv
  · rintro i loc σ' ⟨sb, rfl⟩
    exact get_last
  · rintro loc σ' ⟨sb, rfl⟩
    refine ExecsW.sub sb ?_
    repeat walk_at "m"
    refine ⟨_, _, rfl, .tup (by decide) rfl (by show 3 < _; walk_at "o"), ?_⟩
    repeat walk_at "m"
    rw [if_neg (by decide)]
    repeat walk_at "m"
    rw [if_neg (by decide)]
    repeat walk_at "m"
    rw [if_neg (by decide)]
    repeat walk_at "m"
    refine ⟨_, _, rfl, .tup (by decide) rfl (by show 3 < _; walk_at "o"), ?_⟩
    repeat walk_at "m"
    refine CodeW.call (new_block_full hf ?_ (get_app e1) (get_app e2) hr (by walk_at "o") y.app hfu ?_)
    · walk_at "o"
    exact finx_app rfl h
end

/-! MBuild -/
theorem ok349 (P : Params) : fnOk P 349 [Str.ofString "self", Str.ofString "cells", Str.ofString "tail"] = true := by kernel_rfl
/-- the list's cells, before its end is laid -/
def pairs (a : Int) (k : Nat) : List MV := (List.range k).flatMap fun (i : Nat) => [cellv 5 i, cellv 3 (a + 2 * i + 2)]
theorem pairs_succ (a : Int) (k : Nat) : pairs a (k + 1) = pairs a k ++ [cellv 5 k, cellv 3 (a + 2 * k + 2)] := by unfold pairs; rw [List.range_succ]; simp
theorem pairs_len (a : Int) (k : Nat) : (pairs a k).length = 2 * k := by
  induction k with
  | zero => rfl
  | succ k ih => rw [pairs_succ, List.length_append, ih]; simp; walk_at "o"
theorem pairs_free (a : Int) (k : Nat) : MV.frees (pairs a k) = true := by
  induction k with
  | zero => rfl
  | succ k ih => rw [pairs_succ]; exact frees_app ih rfl
theorem frees_set {xs : List MV} {v : MV} (f : MV.frees xs = true) (g : v.free = true) : ∀ k, MV.frees (xs.set k v) = true := by
  induction xs with
  | nil => intro k; simp [MV.frees]
  | cons x r ih =>
    intro k
    have f' : x.free = true ∧ MV.frees r = true := by simpa [MV.frees] using f
    cases k with
    | zero => simp [MV.frees, g, f'.2]
    | succ k => simp [MV.frees, f'.1, ih f'.2 k]
def lstOf (a : Int) (k : Nat) (e : MV) : List MV := (pairs a k).set (2 * k - 1) e
theorem set_mid2 {α : Type} (A B : List α) (x y v : α) (k : Nat) (h : k = A.length + 1) : (A ++ x :: y :: B).set k v = A ++ x :: v :: B := by
  subst h
  rw [List.set_append_right _ _ (by walk_at "o")]
  simp
section
variable {C : Cfg} {n : Nat} {q : Bool} {σ : List MO} {Q : MV → List MO → Prop} {X : MV → List MO → Prop} {Y S H St Tr : Nat} {room : Int} {xs : List MV} {am fr : Int} {fu : List MV}
/-- the end of a list: the empty list, or the tail's cell -/
def EndOf (t : MV) (c d : Int) : Prop := t = .none ∧ c = 4 ∧ d = 0 ∨ t = cellv 5 9 ∧ c = 5 ∧ d = 9
theorem end_core {k : Nat} {t : MV} {c d : Int} {j : Nat} {QF : MF → List (Str × MV) → List MO → Prop} {XF : MV → List (Str × MV) → List MO → Prop} (he : EndOf t c d) (hn : n ≤ 10) (e1 : σ[S]? = some (.inst 373 (storeF Y room H St Tr))) (e3 : σ[j]? = some (.list (intc k)))
   (h : ∀ b rest, bodyAt C.w.params 349 = b :: rest → ExecsW C 349 (n + 1) q rest [(Str.ofString "end", cellv c d), (Str.ofString "self", .obj S), (Str.ofString "cells", .obj j), (Str.ofString "tail", t)] σ QF XF) : ExecsW C 349 (n + 1) q (bodyAt C.w.params 349) [(Str.ofString "self", .obj S), (Str.ofString "cells", .obj j), (Str.ofString "tail", t)] σ QF XF := by
  have h' := h _ _ (by conv => lhs; whnf)
  conv in bodyAt _ _ => whnf
  refine xs_cons ?_
  refine ExecW.mid (loc₁ := [(Str.ofString "end", cellv c d), (Str.ofString "self", .obj S), (Str.ofString "cells", .obj j), (Str.ofString "tail", t)]) (σ₁ := σ) ?_ h'
  rcases he with ⟨rfl, rfl, rfl⟩ | ⟨rfl, rfl, rfl⟩
  · repeat walk_at "m"
    refine cmp_is_none (.inl ⟨rfl, rfl⟩) ?_
    repeat walk_at "m"
    rw [if_pos rfl]
    repeat walk_at "m"
    exact ⟨rfl, rfl, rfl⟩
  · repeat walk_at "m"
    refine cmp_is_none (.inr ⟨⟨0, .inr ⟨_, rfl⟩⟩, rfl⟩) ?_
    repeat walk_at "m"
    rw [if_neg (by decide)]
    repeat walk_at "m"
    refine CodeW.call (globalise_val (by decide) (by decide) ?_ e1 ?_)
    · walk_at "o"
    repeat walk_at "m"
    exact ⟨rfl, rfl, rfl⟩
theorem list_fits {k j : Nat} {t : MV} {c d : Int} (he : EndOf t c d) (h0 : 0 < k) (hk : k ≤ 10) (hn : n ≤ 10) (e1 : σ[S]? = some (.inst 373 (storeF Y room H St Tr))) (e2 : σ[H]? = some (.list xs)) (e3 : σ[j]? = some (.list (intc k))) (hr : (xs.length : Int) + 2 * k ≤ room) (hz : xs.length ≤ 1800) (fx : MV.frees xs = true) (hSH : H ≠ S)
   (h : Q (cellv 3 xs.length) (σ.set H (.list (xs ++ lstOf xs.length k (cellv c d))))) : ExecsW C 349 (n + 1) true (bodyAt C.w.params 349) [(Str.ofString "self", .obj S), (Str.ofString "cells", .obj j), (Str.ofString "tail", t)] σ (fun mf _ σ' => FinF σ Q mf σ') (fun b _ σ' => FinX σ X b σ') := by
  refine end_core he hn e1 e3 fun b rest hb => ?_
  have hb' : bodyAt C.w.params 349 = b :: rest := hb
  conv at hb' => lhs; whnf
  cases hb'
  repeat walk_at "m"
  with_reducible refine x_for_list ?hx ?_ ?hs ?hk
  case hx => kernel_rfl
  case hs => (intro _ _; rfl)
  case hk => kernel_rfl
  repeat walk_at "m"
  refine ⟨j, intc k, fun i loc σ' => Sub [(Str.ofString "values", .obj σ.length), (Str.ofString "end", cellv c d), (Str.ofString "self", .obj S)] loc ∧ σ' = σ ++ [MO.list (intc i)], rfl, get_app e3, ⟨.one rfl (.one rfl (.one rfl .nil)), rfl⟩, ?_, ?_, ?_⟩
  · rintro i v loc σ' ⟨sb, rfl⟩ hv
    obtain ⟨hi, rfl⟩ := intc_get hv
    refine ExecsW.sub (sb.cons _) ?_
    repeat walk_at "m"
    refine CodeW.call (globalise_val (by decide) (by decide) ?_ (get_app e1) ?_)
    · walk_at "o"
    repeat walk_at "m"
    refine call_append get_last ?_ ?_
    · rw [intc_len]; walk_at "o"
    repeat walk_at "m"
    exact ⟨.tail rfl, by rw [set_last, intc_succ]⟩
  · rintro i loc σ' ⟨sb, rfl⟩
    exact get_app e3
  · rintro loc σ' ⟨sb, rfl⟩
    rw [intc_len]
    refine ExecsW.sub sb ?_
    repeat walk_at "m"
    refine call_len get_last ?_ ?_
    · rw [intc_len]; walk_at "o"
    repeat walk_at "m"
    rw [intc_len, show ((k : Int) == 0) = false by simp; walk_at "o", if_neg (by decide)]
    repeat walk_at "m"
    refine call_len get_last ?_ ?_
    · rw [intc_len]; walk_at "o"
    repeat walk_at "m"
    rw [intc_len, show (2 : Int) * (k : Int) = ((2 * k : Nat) : Int) by walk_at "o"]
    refine CodeW.call (reserve_fits (k := 2 * k) ?_ (get_app e1) (get_app e2) ?_ ?_ fx hSH ?_)
    · walk_at "o"
    · walk_at "o"
    · walk_at "o"
    rw [set_app e2]
    repeat walk_at "m"
    with_reducible refine x_for_list ?hx ?_ ?hs ?hk
    case hx => kernel_rfl
    case hs => (intro _ _; rfl)
    case hk => kernel_rfl
    repeat walk_at "m"
    refine ⟨σ.length, intc k, fun i loc σ' => Sub [(Str.ofString "place", .int ((xs.length : Int) + 2 * i)), (Str.ofString "start", .int xs.length), (Str.ofString "values", .obj σ.length), (Str.ofString "end", cellv c d), (Str.ofString "self", .obj S)] loc ∧
      σ' = σ.set H (.list (xs ++ pairs xs.length i ++ unb ((xs.length : Int) + 2 * i) (2 * (k - i)))) ++ [MO.list (intc k)], rfl, get_at (by simp), ⟨?_, ?_⟩, ?_, ?_, ?_⟩
    · rw [show ((xs.length : Int) + 2 * (0 : Nat)) = (xs.length : Int) by walk_at "o"]
      exact .one rfl (.one rfl (.one rfl (.one rfl (.one rfl .nil))))
    · show _ = σ.set H (.list (xs ++ [] ++ unb ((xs.length : Int) + 2 * (0 : Nat)) (2 * (k - 0)))) ++ _
      rw [List.append_nil, show ((xs.length : Int) + 2 * (0 : Nat)) = (xs.length : Int) by walk_at "o"]
      rfl
    · rintro i v loc σ' ⟨sb, rfl⟩ hv
      obtain ⟨hi, rfl⟩ := intc_get hv
      refine ExecsW.sub (sb.cons _) ?_
      repeat walk_at "m"
      refine ⟨_, .list (get_app (get_set_self e2)) (by walk_at "o") ?_ ?_, ?_⟩
      · simp only [List.length_append, pairs_len, unb_len]; walk_at "o"
      · simp only [List.length_append, pairs_len, unb_len]; walk_at "o"
      rw [set_app (get_set_self e2), List.set_set, show 2 * (k - i) = 2 * (k - (i + 1)) + 1 + 1 by walk_at "o", unb_cons, unb_cons, set_mid _ _ _ _ _ (by simp only [List.length_append, pairs_len]; walk_at "o")]
      repeat walk_at "m"
      refine ⟨_, .list (get_app (get_set_self e2)) (by walk_at "o") ?_ ?_, ?_⟩
      · simp only [List.length_append, List.length_cons, pairs_len, unb_len]; walk_at "o"
      · simp only [List.length_append, List.length_cons, pairs_len, unb_len]; walk_at "o"
      rw [set_app (get_set_self e2), List.set_set, set_mid2 _ _ _ _ _ _ (by simp only [List.length_append, pairs_len]; walk_at "o")]
      repeat walk_at "m"
      refine ⟨?_, ?_⟩
      · rw [show (xs.length : Int) + 2 * ((i + 1 : Nat) : Int) = (xs.length : Int) + 2 * i + 2 by walk_at "o"]
        exact .one rfl (.one rfl (.one rfl (.one rfl (.one rfl .nil))))
      · rw [pairs_succ, show (xs.length : Int) + 2 * ((i + 1 : Nat) : Int) = (xs.length : Int) + 2 * i + 1 + 1 by walk_at "o"]; simp [cellv]
    · rintro i loc σ' ⟨sb, rfl⟩
      exact get_at (by simp)
    · rintro loc σ' ⟨sb, rfl⟩
      rw [intc_len] at sb
      rw [intc_len, Nat.sub_self]
      refine ExecsW.sub sb ?_
      have hx : xs ++ pairs xs.length k ++ unb ((xs.length : Int) + 2 * k) (2 * 0) = xs ++ pairs xs.length k := by simp [unb]
      rw [hx]
      repeat walk_at "m"
      refine ⟨_, .list (get_app (get_set_self e2)) (by walk_at "o") ?_ ?_, ?_⟩
      · simp only [List.length_append, pairs_len]; walk_at "o"
      · simp only [List.length_append, pairs_len]; walk_at "o"
      rw [set_app (get_set_self e2), List.set_set, List.set_append_right _ _ (by walk_at "o")]
      repeat walk_at "m"
      refine fin_chg ((Chg.refl _).set ?_).app rfl ?_
      · exact frees_app fx (frees_set (pairs_free _ _) rfl _)
      · rw [List.take_left' (by simp)]
        have : ((xs.length : Int) + 2 * k - 1).toNat - xs.length = 2 * k - 1 := by walk_at "o"
        rw [this]
        exact h
theorem list_full {k j : Nat} {t : MV} {c d : Int} (he : EndOf t c d) (h0 : 0 < k) (hk : k ≤ 10) (hn : n ≤ 7) (e1 : σ[S]? = some (.inst 373 (storeF Y room H St Tr))) (e2 : σ[H]? = some (.list xs)) (e3 : σ[j]? = some (.list (intc k))) (hr : room < (xs.length : Int) + 2 * k) (hz : xs.length ≤ 1800) (y : IsSym σ Y am fr fu)
   (h : X (fault am fr) σ) : ExecsW C 349 (n + 1) true (bodyAt C.w.params 349) [(Str.ofString "self", .obj S), (Str.ofString "cells", .obj j), (Str.ofString "tail", t)] σ (fun mf _ σ' => FinF σ Q mf σ') (fun b _ σ' => FinX σ X b σ') := by
  refine end_core he (by walk_at "o") e1 e3 fun b rest hb => ?_
  have hb' : bodyAt C.w.params 349 = b :: rest := hb
  conv at hb' => lhs; whnf
  cases hb'
  repeat walk_at "m"
  with_reducible refine x_for_list ?hx ?_ ?hs ?hk
  case hx => kernel_rfl
  case hs => (intro _ _; rfl)
  case hk => kernel_rfl
  repeat walk_at "m"
  refine ⟨j, intc k, fun i loc σ' => Sub [(Str.ofString "values", .obj σ.length), (Str.ofString "end", cellv c d), (Str.ofString "self", .obj S)] loc ∧ σ' = σ ++ [MO.list (intc i)], rfl, get_app e3, ⟨.one rfl (.one rfl (.one rfl .nil)), rfl⟩, ?_, ?_, ?_⟩
  · rintro i v loc σ' ⟨sb, rfl⟩ hv
    obtain ⟨hi, rfl⟩ := intc_get hv
    refine ExecsW.sub (sb.cons _) ?_
    repeat walk_at "m"
    refine CodeW.call (globalise_val (by decide) (by decide) ?_ (get_app e1) ?_)
    · walk_at "o"
    repeat walk_at "m"
    refine call_append get_last ?_ ?_
    · rw [intc_len]; walk_at "o"
    repeat walk_at "m"
    exact ⟨.tail rfl, by rw [set_last, intc_succ]⟩
  · rintro i loc σ' ⟨sb, rfl⟩
    exact get_app e3
  · rintro loc σ' ⟨sb, rfl⟩
    rw [intc_len]
    refine ExecsW.sub sb ?_
    repeat walk_at "m"
    refine call_len get_last ?_ ?_
    · rw [intc_len]; walk_at "o"
    repeat walk_at "m"
    rw [intc_len, show ((k : Int) == 0) = false by simp; walk_at "o", if_neg (by decide)]
    repeat walk_at "m"
    refine call_len get_last ?_ ?_
    · rw [intc_len]; walk_at "o"
    repeat walk_at "m"
    rw [intc_len, show (2 : Int) * (k : Int) = ((2 * k : Nat) : Int) by walk_at "o"]
    refine CodeW.call (reserve_full (k := 2 * k) ?_ (get_app e1) (get_app e2) ?_ ?_ y.app ?_)
    · walk_at "o"
    · walk_at "o"
    · walk_at "o"
    exact finx_app rfl h

/-- how the parameters are bound, with and without a tail -/
theorem binds349 {P : Params} {s : Shared} (X : (kf P).In s.heap) (a b : Value) : BindsTo s (fdAt P 349) ⟨[a, b], []⟩ [(Str.ofString "self", a), (Str.ofString "cells", b), (Str.ofString "tail", .none)] := by
  have ho : (kf P).lookup 342 = some ⟨.type "tuple", none, .seq #[.none] 0, #[]⟩ := by kernel_rfl
  conv in fdAt P 349 => whnf
  exact binds_K (T := 342) X rfl ho rfl rfl rfl
theorem binds349' {P : Params} {s : Shared} (X : (kf P).In s.heap) (a b c : Value) : BindsTo s (fdAt P 349) ⟨[a, b, c], []⟩ [(Str.ofString "self", a), (Str.ofString "cells", b), (Str.ofString "tail", c)] := by
  have ho : (kf P).lookup 342 = some ⟨.type "tuple", none, .seq #[.none] 0, #[]⟩ := by kernel_rfl
  conv in fdAt P 349 => whnf
  exact binds_K (T := 342) X rfl ho rfl rfl rfl
theorem build_nil {j : Nat} (hn : n ≤ 20) (h : ExecsW C 349 (n + 1) q (bodyAt C.w.params 349) [(Str.ofString "self", .obj S), (Str.ofString "cells", .obj j), (Str.ofString "tail", .none)] σ (fun mf _ σ' => FinF σ Q mf σ') (fun b _ σ' => FinX σ X b σ')) : CodeW C n q (.ref 349) [.obj S, .obj j] σ Q X :=
  codeW_def (ns := [Str.ofString "self", Str.ofString "cells", Str.ofString "tail"]) (dv := [.none]) (dm := [.none]) (ok349 _) (fun s vs X hl => by
    obtain ⟨u, v, rfl⟩ := len2 hl
    exact binds349 X u v) (fun _ _ => .cons .none .nil) (by walk_at "o") h
theorem build_tail {j : Nat} {t : MV} (hn : n ≤ 20) (h : ExecsW C 349 (n + 1) q (bodyAt C.w.params 349) [(Str.ofString "self", .obj S), (Str.ofString "cells", .obj j), (Str.ofString "tail", t)] σ (fun mf _ σ' => FinF σ Q mf σ') (fun b _ σ' => FinX σ X b σ')) : CodeW C n q (.ref 349) [.obj S, .obj j, t] σ Q X :=
  codeW_def (ns := [Str.ofString "self", Str.ofString "cells", Str.ofString "tail"]) (dv := []) (dm := []) (ok349 _) (fun s vs X hl => by
    obtain ⟨u, v, w, rfl⟩ := len3 hl
    exact binds349' X u v w) (fun _ _ => .nil) (by walk_at "o") h
end

/-! MRow -/
theorem ok389 (P : Params) : fnOk P 389 [Str.ofString "row"] = true := by kernel_rfl
theorem b389 (P : Params) (a : Value) : bindArgs (fdAt P 389) ⟨[a], []⟩ = pure [(Str.ofString "row", a)] := by kernel_rfl
/-- a row of numbers as a list of the memory -/
def nums (r : List Nat) : List MV := r.map fun (i : Nat) => .int i
theorem nums_free (r : List Nat) : MV.frees (nums r) = true := by
  induction r with
  | nil => rfl
  | cons x r ih => simpa [nums, MV.frees, MV.free] using ih
theorem nums_len (r : List Nat) : (nums r).length = r.length := by simp [nums]
/-- the next number of a row (taken from its end), and the rest -/
def nxt (r : List Nat) : Nat := r.getLast?.getD 0
section
variable {C : Cfg} {n : Nat} {q : Bool} {σ : List MO} {Q : MV → List MO → Prop} {X : MV → List MO → Prop} {j : Nat} {r : List Nat}
theorem nums_flat (r : List Nat) : MV.flats (nums r) = true := by
  induction r with
  | nil => rfl
  | cons x r ih => simpa [nums, MV.flats, MV.flat] using ih
theorem law_next_ok (hn : n ≤ 20) (e : σ[j]? = some (.list (nums r))) (hz : r.length ≤ 1000) (h : Q (.int (nxt r)) (σ.set j (.list (nums r.dropLast)))) : CodeW C n q (.ref 389) [.obj j] σ Q X := by
  refine def1 (ok389 _) (b389 _) (by walk_at "o") ?_
  conv in bodyAt _ _ => whnf
  repeat walk_at "m"
  refine cmp_ne_data (.list (get_app e) (nums_flat r)) (.list get_last rfl) ?_ ?_ ?_
  · exact Nat.le_trans (Nat.min_le_right _ _) (by decide)
  · walk_at "o"
  rcases List.eq_nil_or_concat r with rfl | ⟨init, y, rfl⟩
  · rw [show (!PyData.eqv (.list (MV.pys (nums []))) (.list (MV.pys []))) = false from rfl]
    repeat walk_at "m"
    rw [if_neg (by decide)]
    repeat walk_at "m"
    refine fin_app rfl ?_
    have : σ.set j (.list (nums [])) = σ := set_same e
    rw [List.dropLast_nil, this] at h
    exact h
  · rw [List.concat_eq_append] at *
    have hne : (!PyData.eqv (.list (MV.pys (nums (init ++ [y])))) (.list (MV.pys []))) = true := by
      cases init <;> rfl
    rw [hne]
    repeat walk_at "m"
    rw [if_pos rfl]
    repeat walk_at "m"
    have e' : σ[j]? = some (.list (nums init ++ [.int y])) := by simpa [nums] using e
    refine call_pop (ys := nums init) (get_app e') ?_ ?_
    · rw [nums_len]; simp at hz; walk_at "o"
    refine fin_chg (((Chg.refl _).app).set (nums_free _)) rfl ?_
    rw [set_app e, List.take_left' (by simp)]
    simpa [nxt] using h
end
theorem ints_rvs {h : Heap} {ρ : Adrs} : ∀ {vs : List Value} {ns : List Int}, IntsAre vs ns → RVs h ρ vs (ns.map .int)
  | _, _, .nil => .nil
  | _, _, .cons n t r => .cons (.int n t) (ints_rvs r)
section
variable {C : Cfg} {f : Addr} {n : Nat} {q : Bool} {loc : List (Str × MV)} {σ : List MO} {Q : MV → List MO → Prop} {X : MV → List MO → Prop}
/-- the first k of the list that was given -/
theorem ev_slice_raw {o e : PySem.Expr} {p pos : Pos} {lst : Addr} {vs : List Value} {cs : List Int} (hb : C.base.IsList lst vs.toArray) (hI : IntsAre vs cs) (hz : cs.length ≤ 100000)
    (h : EvalW C f n q o loc σ (fun a σ₁ => EvalW C f n q e loc σ₁ (fun b σ₂ => ∃ (k : Nat), a = .raw (.ref lst) ∧ b = .int (k : Int) ∧ Q (.obj σ₂.length) (σ₂ ++ [.list ((cs.map .int).take k)])) X) X)
    (ht : ∀ u r, letTemporaryGo o u r = pure () := by intro _ _; rfl) : EvalW C f n q (.Subscript o (.Slice none (some e) none p) pos) loc σ Q X := by
  intro A fs L s ρ hA ok m l
  refine wpAny_Subscript_list_slice (seq2 h hA ok m l fun u s₁ a σ₁ ρ₁ ru m₁ l₁ st₁ h₁ => ?_) ht
  refine wpAny_evalPart_none (wpAny_evalPart_some ?_)
  refine wpAny_mono (seq2 h₁ hA ok m₁ l₁ fun v s₂ b σ₂ ρ₂ rv m₂ l₂ st₂ ⟨k, e1, e2, hq⟩ => ?_) (fun _ _ x => x) fun _ _ p => p.lift st₁
  subst e1; subst e2
  cases rv
  cases ru
  rename_i t
  have g3 : RVs s₂.heap ρ₂ vs (cs.map .int) := ints_rvs hI
  have hl := g3.length
  rw [List.length_map] at hl
  have hlist : s₂.heap.IsList lst vs.toArray := let ⟨o, ho, x⟩ := hb; ⟨o, m₂.stay _ _ ho, x⟩
  refine ⟨lst, vs.toArray, none, some (k : Int), rfl, hlist, by rw [List.size_toArray, sizeLine_eq]; walk_at "o", .none, .int _ _, ?_⟩
  have hp : slicePick vs.toArray none (some (k : Int)) none = (vs.take k).toArray := by
    by_cases hk : k ≤ vs.length
    · have := slicePick_upto vs.toArray k (by simpa using hk)
      simpa using this
    · have hb : slicePick vs.toArray none (some (k : Int)) none = slicePick vs.toArray none (some (vs.length : Int)) none := by
        unfold slicePick sliceBounds
        simp only [Option.getD_none, List.size_toArray, show (1 : Int) > 0 from by decide, if_true, show ¬ (k : Int) < 0 from by walk_at "o", show ¬ (vs.length : Int) < 0 from by walk_at "o", if_false]
        rw [show min (k : Int) (vs.length : Int) = min (vs.length : Int) (vs.length : Int) from by walk_at "o"]
      rw [hb]
      have := slicePick_upto vs.toArray vs.length (by simp)
      rw [this]
      simp [List.take_of_length_le (Nat.le_of_not_le hk)]
  rw [hp]
  have k0 : ∀ b o, s₂.heap.get? b = some o → (s₂.heap.push ({ cls := .type "slice", data := .fields #[.none, .int k t, .none] } : Obj)).get? b = some o := fun b o e => Heap.get?_push_of_some _ e
  have k1 : ∀ b o, s₂.heap.get? b = some o → ((s₂.heap.push ({ cls := .type "slice", data := .fields #[.none, .int k t, .none] } : Obj)).push ({ cls := .type "list", data := .seq (vs.take k).toArray } : Obj)).get? b = some o := fun b o e => Heap.get?_push_of_some _ (k0 b o e)
  have sz : (s₂.heap.push ({ cls := .type "slice", data := .fields #[.none, .int k t, .none] } : Obj)).objs.size = s₂.heap.objs.size + 1 := Heap.size_push _ _
  have hn : s₂.heap.get? (s₂.heap.objs.size + 1) = none := by
    cases e : s₂.heap.get? (s₂.heap.objs.size + 1) with
    | none => rfl
    | some o => exact absurd (Heap.lt_size e) (Nat.not_lt.mpr (Nat.le_succ _))
  have hsys : ¬ sysModules = s₂.heap.objs.size + 1 := by
    have := m₂.big (h' := s₂.heap) (fun _ _ e => e)
    show ¬ (1 : Nat) = s₂.heap.objs.size + 1
    walk_at "o"
  obtain ⟨m', st', rv'⟩ := list_new (d := s₂.drawn) (t := s₂.toks) (k := 0) m₂ k1 hn hsys (by
    have := Heap.get?_push_size (s₂.heap.push ({ cls := .type "slice", data := .fields #[.none, .int k t, .none] } : Obj)) (o := ({ cls := .type "list", data := .seq (vs.take k).toArray } : Obj)) rfl
    rw [sz] at this
    exact this) (g3.takeN k) []
  exact ⟨_, _, _, rv', m', (st₁.trans st₂).trans st', hq⟩
end
theorem fmod_nat (m : Nat) : (m : Int).fmod 1013 = ((m % 1013 : Nat) : Int) := by rw [Int.fmod_eq_emod_of_nonneg _ (by decide)]; rfl
theorem fdiv_nat (m : Nat) : (m : Int).fdiv 1013 = ((m / 1013 : Nat) : Int) := by rw [Int.fdiv_eq_ediv_of_nonneg _ (by decide)]; rfl
theorem nums_snoc (r : List Nat) (x : Nat) : nums r ++ [.int x] = nums (r ++ [x]) := by simp [nums]
theorem nums_take (r : List Nat) (k : Nat) : nums (r.take k) = (nums r).take k := by simp [nums, List.map_take]
theorem nums_rev (r : List Nat) : nums r.reverse = (nums r).reverse := by simp [nums]
theorem ints_free (cs : List Int) : MV.frees (cs.map .int) = true := by
  induction cs with
  | nil => rfl
  | cons x r ih => simpa [MV.frees, MV.free] using ih
theorem fin_keep {σ z : List MO} {Q : MV → List MO → Prop} {v : MV} (hz : ∀ mo ∈ z, mo.under (σ.length + z.length) = true) (u : v.under (σ.length + z.length) = true) (h : Q v (σ ++ z)) : FinF σ Q (.ret v) (σ ++ z) := by
  refine ⟨σ.length + z.length, ⟨Nat.le_add_right _ _, fun i mo hi e => ?_⟩, u, by rw [List.take_of_length_le (by simp)]; exact h⟩
  by_cases hl : i < σ.length
  · rw [List.getElem?_append_left hl] at e; exact .inl ⟨hl, e⟩
  · rw [List.getElem?_append_right (by walk_at "o")] at e
    exact .inr (hz mo (List.mem_of_getElem? e))
theorem ok382 (P : Params) : fnOk P 382 [Str.ofString "script"] = true := by kernel_rfl
theorem b382 (P : Params) (a : Value) : bindArgs (fdAt P 382) ⟨[a], []⟩ = pure [(Str.ofString "script", a)] := by kernel_rfl
section
variable {C : Cfg} {n : Nat} {q : Bool} {σ : List MO} {Q : MV → List MO → Prop} {X : MV → List MO → Prop} {j : Nat}
/-- some row comes out, of at most 120 numbers -/
theorem law_row_ok {lst : Addr} {vs : List Value} {cs : List Int} (hn : n ≤ 20) (hb : C.base.IsList lst vs.toArray) (hI : IntsAre vs cs) (hz : cs.length ≤ 100000) (h : ∀ (r : List Nat) (a b : MO), r.length ≤ 120 → Q (.obj (σ.length + 2)) (σ ++ [a] ++ [b] ++ [.list (nums r)])) : CodeW C n true (.ref 382) [.raw (.ref lst)] σ Q X := by
  refine def1 (ok382 _) (b382 _) (by walk_at "o") ?_
  conv in bodyAt _ _ => whnf
  repeat walk_at "m"
  with_reducible refine x_for_list ?hx ?_ ?hs ?hk
  case hx => kernel_rfl
  case hs => (intro _ _; rfl)
  case hk => kernel_rfl
  refine ev_slice_raw hb hI hz ?_ (by intro _ _; rfl)
  repeat walk_at "m"
  refine ⟨40, rfl, rfl, ?_⟩
  refine ⟨σ.length + 1, (cs.take 40).map .int, fun i loc σ' => ∃ r : List Nat, r.length ≤ 31 * i ∧ Sub [(Str.ofString "row", .obj σ.length)] loc ∧ σ' = σ ++ [MO.list (nums r)] ++ [MO.list ((cs.take 40).map .int)], ?_⟩
  have hm : List.take 40 (cs.map MV.int) = (cs.take 40).map .int := by rw [List.map_take]
  rw [hm]
  refine ⟨by simp, get_at (by simp), ⟨[], by simp, .one rfl .nil, rfl⟩, ?_, ?_, ?_⟩
  · rintro i v loc σ' ⟨r, hr, sb, rfl⟩ hv
    obtain ⟨c, hc, rfl⟩ := List.mem_map.mp (List.mem_of_getElem? hv)
    have hi : i < 40 := by
      have := (List.getElem?_eq_some_iff.mp hv).1
      simp at this; walk_at "o"
    refine ExecsW.sub (sb.cons _) ?_
    refine xs_cons ?_
    have hm : ∃ m : Nat, (if 0 ≤ c then c else 7 - c) = (m : Int) := ⟨(if 0 ≤ c then c else 7 - c).toNat, by split <;> walk_at "o"⟩
    obtain ⟨m, hm⟩ := hm
    refine ExecW.mid (loc₁ := [(Str.ofString "number", .int m), (Str.ofString "cell", .int c), (Str.ofString "row", .obj σ.length)]) (σ₁ := σ ++ [MO.list (nums r)] ++ [MO.list ((cs.take 40).map .int)]) ?_ ?_
    · repeat walk_at "m"
      by_cases h0 : 0 ≤ c
      · rw [if_pos h0] at hm
        rw [decide_eq_true h0, if_pos rfl]
        repeat walk_at "m"
        exact ⟨rfl, by rw [hm], rfl⟩
      · rw [if_neg h0] at hm
        rw [decide_eq_false h0, if_neg (by decide)]
        repeat walk_at "m"
        exact ⟨rfl, by rw [hm], rfl⟩
    repeat walk_at "m"
    refine op_mod (by decide) ?_
    repeat walk_at "m"
    refine call_append (get_app get_last) ?_ ?_
    · rw [nums_len]; walk_at "o"
    rw [set_app get_last, set_last, fmod_nat, nums_snoc]
    repeat walk_at "m"
    refine op_div (by decide) (by decide) ?_
    rw [fdiv_nat]
    repeat walk_at "m"
    with_reducible refine x_for_range ?hx ?_ ?hs ?hc ?he ?hk
    case hx => kernel_rfl
    case hs => (intro _ _; rfl)
    case hc => (intro _; rfl)
    case he => (intro _; rfl)
    case hk => kernel_rfl
    repeat walk_at "m"
    refine ⟨rfl, ?_⟩
    repeat walk_at "m"
    refine ⟨30, rfl, by decide, fun t loc σ' => ∃ (r' : List Nat) (m : Nat), r'.length ≤ r.length + 1 + t ∧ Sub [(Str.ofString "number", .int m), (Str.ofString "row", .obj σ.length)] loc ∧ σ' = σ ++ [MO.list (nums r')] ++ [MO.list ((cs.take 40).map .int)], ⟨_, m / 1013, by simp, .one rfl (.one rfl .nil), rfl⟩, ?_, ?_⟩
    · rintro t loc σ' ⟨r', m', hr', sb', rfl⟩ ht
      refine ExecsW.sub (sb'.cons _) ?_
      repeat walk_at "m"
      by_cases h0 : (0 : Int) < m'
      · rw [decide_eq_true h0, if_pos rfl]
        repeat walk_at "m"
        refine op_mod (by decide) ?_
        repeat walk_at "m"
        refine call_append (get_app get_last) ?_ ?_
        · rw [nums_len]; walk_at "o"
        rw [set_app get_last, set_last, fmod_nat, nums_snoc]
        repeat walk_at "m"
        refine op_div (by decide) (by decide) ?_
        rw [fdiv_nat]
        repeat walk_at "m"
        exact ⟨_, m' / 1013, by simp; walk_at "o", .one rfl (.one rfl .nil), rfl⟩
      · rw [decide_eq_false h0, if_neg (by decide)]
        repeat walk_at "m"
        exact ⟨r', m', by walk_at "o", .one rfl (.one rfl .nil), rfl⟩
    · rintro loc σ' ⟨r', m', hr', sb', rfl⟩
      exact xs_nil ⟨r', by walk_at "o", .one (sb' _ _ rfl) .nil, rfl⟩
  · rintro i loc σ' ⟨r, hr, sb, rfl⟩
    exact get_at (by simp)
  · rintro loc σ' ⟨r, hr, sb, rfl⟩
    refine ExecsW.sub sb ?_
    have hl : r.length ≤ 31 * 40 := by simp at hr; walk_at "o"
    repeat walk_at "m"
    refine ⟨σ.length, nums r, 120, rfl, rfl, get_app get_last, by rw [nums_len]; walk_at "o", ?_⟩
    repeat walk_at "m"
    refine call_reverse get_last ?_ ?_
    · rw [← nums_take, nums_len]; simp; walk_at "o"
    rw [set_last, ← nums_take, ← nums_rev]
    repeat walk_at "m"
    have h' := h (r.take 120).reverse (MO.list (nums r)) (MO.list ((cs.take 40).map .int)) (by simp; walk_at "o")
    rw [show (σ ++ [MO.list (nums r)] ++ [MO.list ((cs.take 40).map .int)]).length = σ.length + 2 by simp]
    rw [List.append_assoc, List.append_assoc] at h' ⊢
    refine fin_keep ?_ ?_ h'
    · intro mo hmo
      simp only [List.mem_append, List.mem_cons, List.not_mem_nil, or_false] at hmo
      rcases hmo with rfl | rfl | rfl
      · exact MO.free_under (nums_free _)
      · exact MO.free_under (ints_free _)
      · exact MO.free_under (nums_free _)
    · simp [MF.val, MV.under, Nat.blt_eq]
end

/-! MDeed0 -/
theorem ok394 (P : Params) : fnOkC P 394 [Str.ofString "row", Str.ofString "store"] = true := by kernel_rfl
theorem b394 (P : Params) (a b : Value) : bindArgs (fdAt P 394) ⟨[a, b], []⟩ = pure [(Str.ofString "row", a), (Str.ofString "store", b)] := by kernel_rfl
theorem cs394 (P : Params) (L : Addr) : cellsFrom (L + 1) (fdAt P 394).scope.names [] = [(Str.ofString "head", L + 2), (Str.ofString "base", L + 1)] := by kernel_rfl
theorem fin_deed {σ σ₁ z : List MO} {Q : MV → List MO → Prop} {v : MV} (c : Chg σ σ₁) (hl : σ₁.length = σ.length) (hz : ∀ mo ∈ z, mo.under (σ.length + z.length) = true) (u : v.under (σ.length + z.length) = true) (h : Q v (σ₁ ++ z)) : FinF σ Q (.ret v) (σ₁ ++ z) := by
  refine ⟨σ.length + z.length, ⟨Nat.le_add_right _ _, fun i mo hi e => ?_⟩, u, by rw [List.take_of_length_le (by simp; walk_at "o")]; exact h⟩
  by_cases hlt : i < σ.length
  · rw [List.getElem?_append_left (by walk_at "o")] at e
    exact (c.2 i mo hlt e).imp (fun z => ⟨hlt, z⟩) MO.free_under
  · rw [List.getElem?_append_right (by walk_at "o")] at e
    exact .inr (hz mo (List.mem_of_getElem? e))
theorem fmod7 (m : Nat) : (m : Int).fmod 7 = ((m % 7 : Nat) : Int) := by rw [Int.fmod_eq_emod_of_nonneg _ (by decide)]; rfl
theorem fmod6 (m : Nat) : (m : Int).fmod 6 = ((m % 6 : Nat) : Int) := by rw [Int.fmod_eq_emod_of_nonneg _ (by decide)]; rfl
theorem fmod4 (m : Nat) : (m : Int).fmod 4 = ((m % 4 : Nat) : Int) := by rw [Int.fmod_eq_emod_of_nonneg _ (by decide)]; rfl
theorem fmod2 (m : Nat) : (m : Int).fmod 2 = ((m % 2 : Nat) : Int) := by rw [Int.fmod_eq_emod_of_nonneg _ (by decide)]; rfl
def fnOfN (k : Nat) : Nat := match k with | 0 => 12 | 1 => 13 | 2 => 18 | _ => 0
def wideN (k : Nat) : Nat := match k with | 0 => 1 | 1 => 2 | 2 => 3 | _ => 2
/-- what a deed gives, what it lays, and what it leaves of the row -/
def deed (r : List Nat) (len : Nat) : MV × List MV × List Nat :=
  let r1 := r.dropLast
  let r2 := r1.dropLast
  let f := fnOfN (nxt r1 % 4)
  let w := wideN (nxt r1 % 4)
  match nxt r % 7 with
  | 0 => (.int len, [cellv 5 len], r1)
  | 1 => (cellv 0 len, [cellv 0 len], r1)
  | 2 => (.int len, unb len (nxt r1 % 6), r2)
  | 3 => (madeOf f len, preOf f ++ unb (len + (preOf f).length) w, r2)
  | 4 => (madeOf f len, preOf f ++ intc w, r2)
  | 5 => (madeOf f len, preOf f ++ intc w, r2)
  | _ => (cellv 3 len, lstOf len w (if nxt r2 % 2 = 0 then cellv 4 0 else cellv 5 9), r2.dropLast)
theorem deed_0 {r : List Nat} {len : Nat} (h : nxt r % 7 = 0) : deed r len = (.int len, [cellv 5 len], r.dropLast) := by unfold deed; rw [h]; rfl
theorem deed_1 {r : List Nat} {len : Nat} (h : nxt r % 7 = 1) : deed r len = (cellv 0 len, [cellv 0 len], r.dropLast) := by unfold deed; rw [h]; rfl
theorem deed_2 {r : List Nat} {len : Nat} (h : nxt r % 7 = 2) : deed r len = (.int len, unb len (nxt r.dropLast % 6), r.dropLast.dropLast) := by unfold deed; rw [h]; rfl

/-! MDeedA -/
section
variable {C : Cfg} {n : Nat} {σ : List MO} {QF : MF → List (Str × MV) → List MO → Prop} {XF : MV → List (Str × MV) → List MO → Prop} {Y S H St Tr j : Nat} {room : Int} {xs : List MV} {r : List Nat}
theorem deed_a (hn : n ≤ 3) (e1 : σ[S]? = some (.inst 373 (storeF Y room H St Tr))) (e2 : σ[H]? = some (.list xs)) (e3 : σ[j]? = some (.list (nums r))) (hz : xs.length ≤ 1700) (hzr : r.length ≤ 200) (hjH : j ≠ H) (hjS : j ≠ S)
   (h : ExecsW C 394 (n + 1) true ((bodyAt C.w.params 394).drop 2) [(Str.ofString "kind", .int (nxt r % 7 : Nat)), (Str.ofString "row", .obj j), (Str.ofString "store", .obj S), (Str.ofString "base", .box 1 σ.length), (Str.ofString "head", .box 2 (σ.length + 1))]
     (σ.set j (.list (nums r.dropLast)) ++ [MO.cell (some (.int xs.length))] ++ [MO.cell none]) QF XF) :
   ExecsW C 394 (n + 1) true (bodyAt C.w.params 394) [(Str.ofString "row", .obj j), (Str.ofString "store", .obj S), (Str.ofString "base", .box 1 σ.length), (Str.ofString "head", .box 2 (σ.length + 1))] (σ ++ [.cell none] ++ [.cell none]) QF XF := by
  conv at h in List.drop _ _ => whnf
  conv in bodyAt _ _ => whnf
  repeat walk_at "m"
  refine CodeW.call (law_next_ok ?_ (get_app (get_app e3)) ?_ ?_)
  · walk_at "o"
  · walk_at "o"
  repeat walk_at "m"
  refine op_mod (by decide) ?_
  rw [set_app (get_app e3), set_app e3, fmod7]
  have hl : (σ.set j (.list (nums r.dropLast))).length = σ.length := by simp
  have e1' : (σ.set j (.list (nums r.dropLast)))[S]? = some (.inst 373 (storeF Y room H St Tr)) := get_set_ne hjS e1
  have e2' : (σ.set j (.list (nums r.dropLast)))[H]? = some (.list xs) := get_set_ne hjH e2
  have hc0 : (σ.set j (.list (nums r.dropLast)) ++ [MO.cell none])[σ.length]? = some (.cell none) := get_at hl
  repeat walk_at "m"
  refine call_len (get_app (get_app e2')) ?_ ?_
  · walk_at "o"
  walk_at "m"
  have b1 : ((σ.set j (.list (nums r.dropLast)) ++ [MO.cell none] ++ [MO.cell none]).set σ.length (.cell (some (.int xs.length)))) = σ.set j (.list (nums r.dropLast)) ++ [MO.cell (some (.int xs.length))] ++ [MO.cell none] := by
    rw [← hl, set_app (get_last), set_last]
  rw [b1]
  exact h
theorem deed_b (hn : n ≤ 3) (e3 : σ[j]? = some (.list (nums r))) (hzr : r.length ≤ 200) (hk3 : 3 ≤ nxt r % 7)
   (h : ExecsW C 394 (n + 1) true ((bodyAt C.w.params 394).drop 9) [(Str.ofString "made", madeOf (fnOfN (nxt r.dropLast % 4)) xs.length), (Str.ofString "wide", .int (wideN (nxt r.dropLast % 4))), (Str.ofString "f", .int (fnOfN (nxt r.dropLast % 4))), (Str.ofString "kind", .int (nxt r % 7 : Nat)), (Str.ofString "row", .obj j), (Str.ofString "store", .obj S), (Str.ofString "base", .box 1 σ.length), (Str.ofString "head", .box 2 (σ.length + 1))]
     (σ.set j (.list (nums r.dropLast.dropLast)) ++ [MO.cell (some (.int xs.length))] ++ [MO.cell (some (.obj (σ.length + 5)))] ++ [MO.list [.int 12, .int 13, .int 18, .int 0]] ++ [MO.list [.int 1, .int 2, .int 3, .int 2]] ++ [MO.list [.int 12, .int 13, .int 18, .int 0]] ++ [MO.list (preOf (fnOfN (nxt r.dropLast % 4)))]) QF XF) :
   ExecsW C 394 (n + 1) true ((bodyAt C.w.params 394).drop 2) [(Str.ofString "kind", .int (nxt r % 7 : Nat)), (Str.ofString "row", .obj j), (Str.ofString "store", .obj S), (Str.ofString "base", .box 1 σ.length), (Str.ofString "head", .box 2 (σ.length + 1))]
     (σ.set j (.list (nums r.dropLast)) ++ [MO.cell (some (.int xs.length))] ++ [MO.cell none]) QF XF := by
  conv at h in List.drop _ _ => whnf
  conv in List.drop _ _ => whnf
  generalize nxt r % 7 = kd at *
  have hl : (σ.set j (.list (nums r.dropLast))).length = σ.length := by simp
  have e3' : (σ.set j (.list (nums r.dropLast)))[j]? = some (.list (nums r.dropLast)) := get_set_self e3
  have hz1 : r.dropLast.length ≤ 200 := by simp; walk_at "o"
  have hcb : (σ.set j (.list (nums r.dropLast)) ++ [MO.cell (some (.int xs.length))])[σ.length]? = some (.cell (some (.int xs.length))) := get_at hl
  repeat walk_at "m"
  rw [show (((kd : Nat) : Int) == 0) = false by simp; walk_at "o", if_neg (by decide)]
  repeat walk_at "m"
  rw [show (((kd : Nat) : Int) == 1) = false by simp; walk_at "o", if_neg (by decide)]
  repeat walk_at "m"
  rw [show (((kd : Nat) : Int) == 2) = false by simp; walk_at "o", if_neg (by decide)]
  repeat walk_at "m"
  refine CodeW.call (law_next_ok ?_ (get_app (get_app (get_app e3'))) ?_ ?_)
  · walk_at "o"
  · walk_at "o"
  rw [set_app (get_app (get_app e3')), set_app (get_app e3'), set_app e3', List.set_set]
  repeat walk_at "m"
  refine op_mod (by decide) ?_
  rw [fmod4]
  repeat walk_at "m"
  rw [show (σ.set j (.list (nums r.dropLast)) ++ [MO.cell (some (.int xs.length))] ++ [MO.cell none]).length = σ.length + 2 by simp]
  generalize hfk : nxt r.dropLast % 4 = fk at *
  have hfk4 : fk < 4 := by walk_at "o"
  have hget : ([.int 12, .int 13, .int 18, .int 0] : List MV)[((fk : Int)).toNat]? = some (.int (fnOfN fk)) := by
    rcases (show fk = 0 ∨ fk = 1 ∨ fk = 2 ∨ fk = 3 by walk_at "o") with rfl | rfl | rfl | rfl <;> rfl
  have hl2 : (σ.set j (.list (nums r.dropLast.dropLast))).length = σ.length := by simp
  have hcb2 : (σ.set j (.list (nums r.dropLast.dropLast)) ++ [MO.cell (some (.int xs.length))])[σ.length]? = some (.cell (some (.int xs.length))) := get_at hl2
  refine ⟨_, _, rfl, .list (get_at (by simp)) (by walk_at "o") hget (by show 4 < _; walk_at "o"), ?_⟩
  repeat walk_at "m"
  have hix : ([12, 13, 18, 0] : List Int).idxOf (fnOfN fk : Int) = fk ∧ (fnOfN fk : Int) ∈ ([12, 13, 18, 0] : List Int) ∧ ([.int 1, .int 2, .int 3, .int 2] : List MV)[fk]? = some (.int (wideN fk)) := by
    rcases (show fk = 0 ∨ fk = 1 ∨ fk = 2 ∨ fk = 3 by walk_at "o") with rfl | rfl | rfl | rfl <;> exact ⟨by decide, by decide, rfl⟩
  refine call_index (ns := [12, 13, 18, 0]) get_last (by decide +kernel) hix.2.1 ?_
  rw [hix.1]
  refine ⟨_, _, rfl, .list (get_app get_last) (by walk_at "o") (by simpa using hix.2.2) (by show 4 < _; walk_at "o"), ?_⟩
  generalize σ.set j (.list (nums r.dropLast.dropLast)) = σ₁ at *
  refine xs_cons ?_
  have hM : (σ₁ ++ [MO.cell (some (.int xs.length))] ++ [MO.cell none] ++ [MO.list [.int 12, .int 13, .int 18, .int 0]] ++ [MO.list [.int 1, .int 2, .int 3, .int 2]] ++ [MO.list [.int 12, .int 13, .int 18, .int 0]]).length = σ.length + 5 := by simp [hl2]
  have hset : ∀ v : MO, (σ₁ ++ [MO.cell (some (.int xs.length))] ++ [MO.cell none] ++ [MO.list [.int 12, .int 13, .int 18, .int 0]] ++ [MO.list [.int 1, .int 2, .int 3, .int 2]] ++ [MO.list [.int 12, .int 13, .int 18, .int 0]] ++ [v]).set (σ.length + 1) (MO.cell (some (.obj (σ.length + 5)))) =
      σ₁ ++ [MO.cell (some (.int xs.length))] ++ [MO.cell (some (.obj (σ.length + 5)))] ++ [MO.list [.int 12, .int 13, .int 18, .int 0]] ++ [MO.list [.int 1, .int 2, .int 3, .int 2]] ++ [MO.list [.int 12, .int 13, .int 18, .int 0]] ++ [v] := by
    intro v
    have hb : (σ₁ ++ [MO.cell (some (.int xs.length))] ++ [MO.cell none])[σ.length + 1]? = some (.cell none) := get_at (by simp [hl2])
    rw [set_app (get_app (get_app (get_app hb))), set_app (get_app (get_app hb)), set_app (get_app hb), set_app hb, show σ.length + 1 = (σ₁ ++ [MO.cell (some (.int xs.length))]).length by simp [hl2], set_last]
  refine ExecW.mid (loc₁ := [(Str.ofString "wide", .int (wideN fk)), (Str.ofString "f", .int (fnOfN fk)), (Str.ofString "kind", .int kd), (Str.ofString "row", .obj j), (Str.ofString "store", .obj S), (Str.ofString "base", .box 1 σ.length), (Str.ofString "head", .box 2 (σ.length + 1))])
    (σ₁ := σ₁ ++ [MO.cell (some (.int xs.length))] ++ [MO.cell (some (.obj (σ.length + 5)))] ++ [MO.list [.int 12, .int 13, .int 18, .int 0]] ++ [MO.list [.int 1, .int 2, .int 3, .int 2]] ++ [MO.list [.int 12, .int 13, .int 18, .int 0]] ++ [MO.list (preOf (fnOfN fk))]) ?_ ?_
  · repeat walk_at "m"
    by_cases hf0 : fnOfN fk = 0
    · rw [hf0, if_pos (by decide)]
      repeat walk_at "m"
      refine ⟨none, ?_, rfl, rfl, ?_⟩
      · exact get_app (get_app (get_app (get_app (get_at (by simp [hl2])))))
      · rw [hM, hset]; rfl
    · rw [show ((fnOfN fk : Int) == 0) = false by simpa using hf0, if_neg (by decide)]
      repeat walk_at "m"
      refine ⟨none, ?_, rfl, rfl, ?_⟩
      · exact get_app (get_app (get_app (get_app (get_at (by simp [hl2])))))
      · rw [hM, hset]
        unfold preOf; rw [if_neg hf0]; rfl
  refine xs_cons ?_
  refine ExecW.mid (loc₁ := [(Str.ofString "made", madeOf (fnOfN fk) xs.length), (Str.ofString "wide", .int (wideN fk)), (Str.ofString "f", .int (fnOfN fk)), (Str.ofString "kind", .int kd), (Str.ofString "row", .obj j), (Str.ofString "store", .obj S), (Str.ofString "base", .box 1 σ.length), (Str.ofString "head", .box 2 (σ.length + 1))])
    (σ₁ := σ₁ ++ [MO.cell (some (.int xs.length))] ++ [MO.cell (some (.obj (σ.length + 5)))] ++ [MO.list [.int 12, .int 13, .int 18, .int 0]] ++ [MO.list [.int 1, .int 2, .int 3, .int 2]] ++ [MO.list [.int 12, .int 13, .int 18, .int 0]] ++ [MO.list (preOf (fnOfN fk))]) ?_ ?_
  · repeat walk_at "m"
    by_cases hf0 : fnOfN fk = 0
    · rw [show madeOf (fnOfN fk) xs.length = cellv 3 xs.length by unfold madeOf; rw [if_pos hf0], hf0, if_pos (by decide)]
      repeat walk_at "m"
      exact ⟨rfl, rfl, rfl⟩
    · rw [show madeOf (fnOfN fk) xs.length = cellv 2 xs.length by unfold madeOf; rw [if_neg hf0], show ((fnOfN fk : Int) == 0) = false by simpa using hf0, if_neg (by decide)]
      repeat walk_at "m"
      exact ⟨rfl, rfl, rfl⟩
  exact h
end

/-! MDeedB -/
/-- the memory behind the deed's head -/
structure DM (M : List MO) (Y S H St Tr j kb p : Nat) (room : Int) (xs : List MV) (r : List Nat) (f w : Nat) (am fr : Int) (fu : List MV) : Prop where
  e1 : M[S]? = some (.inst 373 (storeF Y room H St Tr))
  e2 : M[H]? = some (.list xs)
  e3 : M[j]? = some (.list (nums r))
  hb : M[kb]? = some (.cell (some (.int xs.length)))
  hh : M[kb + 1]? = some (.cell (some (.obj p)))
  hp : M[p]? = some (.list (preOf f))
  hSH : H ≠ S
  hjH : j ≠ H
  hjS : j ≠ S
  hHb : H ≠ kb
  hHh : H ≠ kb + 1
  hHp : H ≠ p
  y : IsSym M Y am fr fu
  hfu : fu.length ≤ 1000
  hf : Fun fu f w
  hw : w ≤ 3
  hw0 : 0 < w
  hz : xs.length ≤ 1700
  hzr : r.length ≤ 200
  fx : MV.frees xs = true
def frs : List MO → Bool
  | [] => true
  | m :: r => m.free && frs r
theorem frs_app {a b : List MO} (h : frs a = true) (g : frs b = true) : frs (a ++ b) = true := by
  induction a with
  | nil => exact g
  | cons x r ih =>
    have f' : x.free = true ∧ frs r = true := by simpa [frs] using h
    simp [frs, f'.1, ih f'.2]
theorem frs_one {m : MO} (h : m.free = true) : frs [m] = true := by simp [frs, h]
theorem frs_list {xs : List MV} (h : MV.frees xs = true) : frs [.list xs] = true := frs_one h
def dLoc (S j kb f w len : Nat) (kd : Nat) : List (Str × MV) := [(Str.ofString "made", madeOf f len), (Str.ofString "wide", .int w), (Str.ofString "f", .int f), (Str.ofString "kind", .int kd), (Str.ofString "row", .obj j), (Str.ofString "store", .obj S), (Str.ofString "base", .box 1 kb), (Str.ofString "head", .box 2 (kb + 1))]
theorem items_free (k : Nat) : MV.frees (items k) = true := by
  induction k with
  | zero => rfl
  | succ k ih =>
    unfold items at *
    rw [List.range_succ, List.map_append]
    exact frees_app ih rfl
theorem pre_len (f : Nat) : (preOf f).length ≤ 1 := by unfold preOf; split <;> simp
section
variable {C : Cfg} {n : Nat} {M : List MO} {QF : MF → List (Str × MV) → List MO → Prop} {XF : MV → List (Str × MV) → List MO → Prop} {Y S H St Tr j kb p : Nat} {room : Int} {xs : List MV} {r : List Nat} {f w : Nat} {am fr : Int} {fu : List MV}
theorem kind3_fits (hn : n ≤ 3) (D : DM M Y S H St Tr j kb p room xs r f w am fr fu) (hr : (xs.length : Int) + (preOf f).length + w ≤ room)
   (h : ∀ z L loc, frs z = true → (M.set H (.list (xs ++ (preOf f ++ unb (xs.length + (preOf f).length) w))) ++ z)[L]? = some (.list (preOf f ++ unb (xs.length + (preOf f).length) w)) → M.length ≤ L → QF (.ret (.tup [madeOf f xs.length, madeOf f xs.length, .obj L])) loc (M.set H (.list (xs ++ (preOf f ++ unb (xs.length + (preOf f).length) w))) ++ z)) :
   ExecsW C 394 (n + 1) true ((bodyAt C.w.params 394).drop 9) (dLoc S j kb f w xs.length 3) M QF XF := by
  obtain ⟨e1, e2, e3, hb, hh, hp, hSH, hjH, hjS, hHb, hHh, hHp, y, hfu, hf, hw, hw0, hz, hzr, fx⟩ := D
  conv in List.drop _ _ => whnf
  unfold dLoc
  repeat walk_at "m"
  rw [if_pos (by decide)]
  repeat walk_at "m"
  refine CodeW.call (new_block_fits hf ?_ e1 e2 ?_ ?_ fx hSH y hfu ?_)
  · walk_at "o"
  · walk_at "o"
  · walk_at "o"
  rw [List.append_assoc xs]
  have hb' := get_set_ne (a := .list (xs ++ (preOf f ++ unb (xs.length + (preOf f).length) w))) hHb hb
  have hh' := get_set_ne (a := .list (xs ++ (preOf f ++ unb (xs.length + (preOf f).length) w))) hHh hh
  have hp' := get_set_ne (a := .list (xs ++ (preOf f ++ unb (xs.length + (preOf f).length) w))) hHp hp
  have pl := pre_len f
  repeat walk_at "m"
  refine ev_comp (cl := fun L => [(Str.ofString "head", L + 2), (Str.ofString "base", L + 1)]) (fun L => by kernel_rfl) (by kernel_rfl) (by kernel_rfl) (by kernel_rfl) ?_
  repeat walk_at "m"
  refine ⟨rfl, ?_⟩
  repeat walk_at "m"
  refine ⟨w, rfl, by walk_at "o", fun i => cellv 0 ((xs.length : Int) + (preOf f).length + i), by walk_at "o", fun i hi => ?_, ?_⟩
  · refine el_pair (el_REF (by kernel_rfl) (by kernel_rfl)) (el_add (el_add (el_cell (k := 1) (by kernel_rfl) (fun _ => by rfl) (by kernel_rfl) (by rfl) hb') ?_) (el_x (by kernel_rfl)))
    refine el_len (j := p) (xs := preOf f) ?_ ?_ hp' ?_
    · exact el_lenName (by kernel_rfl) (by kernel_rfl)
    · exact el_cell (k := 2) (by kernel_rfl) (fun _ => by rfl) (by kernel_rfl) (by rfl) hh'
    · walk_at "o"
  rw [show (List.range w).map (fun (i : Nat) => cellv 0 ((xs.length : Int) + (preOf f).length + i)) = unb (xs.length + (preOf f).length) w from rfl]
  repeat walk_at "m"
  refine op_add_list (get_app hp') get_last (by rw [unb_len]; walk_at "o") ?_
  repeat walk_at "m"
  rw [List.append_assoc (M.set H _)]
  exact h _ _ _ (frs_app (frs_list (unb_free _ _)) (frs_list (frees_app (pre_free _) (unb_free _ _)))) (by rw [← List.append_assoc (M.set H _)]; exact get_last) (by simp)
theorem kind3_full (hn : n ≤ 3) (D : DM M Y S H St Tr j kb p room xs r f w am fr fu) (hr : room < (xs.length : Int) + (preOf f).length + w)
   (h : ∀ z loc, frs z = true → XF (fault am fr) loc (M ++ z)) :
   ExecsW C 394 (n + 1) true ((bodyAt C.w.params 394).drop 9) (dLoc S j kb f w xs.length 3) M QF XF := by
  obtain ⟨e1, e2, e3, hb, hh, hp, hSH, hjH, hjS, hHb, hHh, hHp, y, hfu, hf, hw, hw0, hz, hzr, fx⟩ := D
  conv in List.drop _ _ => whnf
  unfold dLoc
  repeat walk_at "m"
  rw [if_pos (by decide)]
  repeat walk_at "m"
  refine CodeW.call (new_block_full hf ?_ e1 e2 ?_ ?_ y hfu ?_)
  · walk_at "o"
  · walk_at "o"
  · walk_at "o"
  have := fun loc => h [] loc rfl
  simp only [List.append_nil] at this
  exact this _
theorem kind4_fits (hn : n ≤ 3) (D : DM M Y S H St Tr j kb p room xs r f w am fr fu) (hr : (xs.length : Int) + (preOf f).length + w ≤ room)
   (h : ∀ z L loc, frs z = true → (M.set H (.list (xs ++ (preOf f ++ intc w))) ++ z)[L]? = some (.list (preOf f ++ intc w)) → M.length ≤ L → QF (.ret (.tup [madeOf f xs.length, madeOf f xs.length, .obj L])) loc (M.set H (.list (xs ++ (preOf f ++ intc w))) ++ z)) :
   ExecsW C 394 (n + 1) true ((bodyAt C.w.params 394).drop 9) (dLoc S j kb f w xs.length 4) M QF XF := by
  obtain ⟨e1, e2, e3, hb, hh, hp, hSH, hjH, hjS, hHb, hHh, hHp, y, hfu, hf, hw, hw0, hz, hzr, fx⟩ := D
  have pl := pre_len f
  conv in List.drop _ _ => whnf
  unfold dLoc
  repeat walk_at "m"
  rw [if_neg (by decide)]
  repeat walk_at "m"
  rw [if_pos (by decide)]
  repeat walk_at "m"
  refine ev_comp (cl := fun L => []) (fun L => by kernel_rfl) (by kernel_rfl) (by kernel_rfl) (by kernel_rfl) ?_
  repeat walk_at "m"
  refine ⟨rfl, ?_⟩
  repeat walk_at "m"
  refine ⟨w, rfl, by walk_at "o", fun i => cellv 5 i, by walk_at "o", fun i hi => el_pair (el_INT (by kernel_rfl) (by kernel_rfl)) (el_x (by kernel_rfl)), ?_⟩
  rw [show (List.range w).map (fun (i : Nat) => cellv 5 i) = intc w from rfl]
  repeat walk_at "m"
  refine CodeW.call (new_struct_fits hf hw0 ?_ (get_app e1) (get_app e2) get_last ?_ ?_ fx hSH y.app hfu ?_)
  · walk_at "o"
  · walk_at "o"
  · walk_at "o"
  rw [List.append_assoc xs, set_app e2]
  have hp' := get_set_ne (a := .list (xs ++ (preOf f ++ intc w))) hHp hp
  have hh' := get_set_ne (a := .list (xs ++ (preOf f ++ intc w))) hHh hh
  repeat walk_at "m"
  refine ev_comp (cl := fun L => []) (fun L => by kernel_rfl) (by kernel_rfl) (by kernel_rfl) (by kernel_rfl) ?_
  repeat walk_at "m"
  refine ⟨rfl, ?_⟩
  repeat walk_at "m"
  refine ⟨w, rfl, by walk_at "o", fun i => cellv 5 i, by walk_at "o", fun i hi => el_pair (el_INT (by kernel_rfl) (by kernel_rfl)) (el_x (by kernel_rfl)), ?_⟩
  rw [show (List.range w).map (fun (i : Nat) => cellv 5 i) = intc w from rfl]
  repeat walk_at "m"
  refine op_add_list (get_app (get_app hp')) get_last (by rw [intc_len]; walk_at "o") ?_
  repeat walk_at "m"
  rw [List.append_assoc (M.set H _), List.append_assoc (M.set H _)]
  exact h _ _ _ (frs_app (frs_app (frs_list (intc_free _)) (frs_list (intc_free _))) (frs_list (frees_app (pre_free _) (intc_free _)))) (by rw [← List.append_assoc (M.set H _), ← List.append_assoc (M.set H _)]; exact get_last) (by simp)
theorem kind4_full (hn : n ≤ 3) (D : DM M Y S H St Tr j kb p room xs r f w am fr fu) (hr : room < (xs.length : Int) + (preOf f).length + w)
   (h : ∀ z loc, frs z = true → XF (fault am fr) loc (M ++ z)) :
   ExecsW C 394 (n + 1) true ((bodyAt C.w.params 394).drop 9) (dLoc S j kb f w xs.length 4) M QF XF := by
  obtain ⟨e1, e2, e3, hb, hh, hp, hSH, hjH, hjS, hHb, hHh, hHp, y, hfu, hf, hw, hw0, hz, hzr, fx⟩ := D
  have pl := pre_len f
  conv in List.drop _ _ => whnf
  unfold dLoc
  repeat walk_at "m"
  rw [if_neg (by decide)]
  repeat walk_at "m"
  rw [if_pos (by decide)]
  repeat walk_at "m"
  refine ev_comp (cl := fun L => []) (fun L => by kernel_rfl) (by kernel_rfl) (by kernel_rfl) (by kernel_rfl) ?_
  repeat walk_at "m"
  refine ⟨rfl, ?_⟩
  repeat walk_at "m"
  refine ⟨w, rfl, by walk_at "o", fun i => cellv 5 i, by walk_at "o", fun i hi => el_pair (el_INT (by kernel_rfl) (by kernel_rfl)) (el_x (by kernel_rfl)), ?_⟩
  rw [show (List.range w).map (fun (i : Nat) => cellv 5 i) = intc w from rfl]
  repeat walk_at "m"
  refine CodeW.call (new_struct_full hf hw0 ?_ (get_app e1) (get_app e2) get_last ?_ ?_ y.app hfu ?_)
  · walk_at "o"
  · walk_at "o"
  · walk_at "o"
  exact h _ _ (frs_list (intc_free _))
theorem kind5_fits (hn : n ≤ 3) (D : DM M Y S H St Tr j kb p room xs r f w am fr fu) (hr : (xs.length : Int) + (preOf f).length + w ≤ room)
   (h : ∀ z L loc, frs z = true → (M.set H (.list (xs ++ (preOf f ++ intc w))) ++ z)[L]? = some (.list (preOf f ++ intc w)) → M.length ≤ L → QF (.ret (.tup [madeOf f xs.length, madeOf f xs.length, .obj L])) loc (M.set H (.list (xs ++ (preOf f ++ intc w))) ++ z)) :
   ExecsW C 394 (n + 1) true ((bodyAt C.w.params 394).drop 9) (dLoc S j kb f w xs.length 5) M QF XF := by
  obtain ⟨e1, e2, e3, hb, hh, hp, hSH, hjH, hjS, hHb, hHh, hHp, y, hfu, hf, hw, hw0, hz, hzr, fx⟩ := D
  have pl := pre_len f
  conv in List.drop _ _ => whnf
  unfold dLoc
  repeat walk_at "m"
  rw [if_neg (by decide)]
  repeat walk_at "m"
  rw [if_neg (by decide)]
  repeat walk_at "m"
  rw [if_pos (by decide)]
  repeat walk_at "m"
  refine ev_comp (cl := fun L => []) (fun L => by kernel_rfl) (by kernel_rfl) (by kernel_rfl) (by kernel_rfl) ?_
  repeat walk_at "m"
  refine ⟨rfl, ?_⟩
  repeat walk_at "m"
  refine ⟨w, rfl, by walk_at "o", fun i => .tup [.str (Str.ofString "i"), .int i], by walk_at "o", fun i hi => el_pair el_str (el_x (by kernel_rfl)), ?_⟩
  rw [show (List.range w).map (fun (i : Nat) => MV.tup [.str (Str.ofString "i"), .int i]) = items w from rfl]
  repeat walk_at "m"
  refine call_tuple_of get_last (by rw [items_len]; walk_at "o") ?_
  repeat walk_at "m"
  refine ev_dict_s ?_
  repeat walk_at "m"
  refine CodeW.call (put_term_fits hf ?_ (get_app (get_app e1)) (get_app (get_app e2)) get_last ?_ ?_ fx hSH y.app.app hfu ?_)
  · walk_at "o"
  · walk_at "o"
  · walk_at "o"
  rw [List.append_assoc xs, set_app (get_app e2), set_app e2]
  have hp' := get_set_ne (a := .list (xs ++ (preOf f ++ intc w))) hHp hp
  have hh' := get_set_ne (a := .list (xs ++ (preOf f ++ intc w))) hHh hh
  repeat walk_at "m"
  refine ev_comp (cl := fun L => []) (fun L => by kernel_rfl) (by kernel_rfl) (by kernel_rfl) (by kernel_rfl) ?_
  repeat walk_at "m"
  refine ⟨rfl, ?_⟩
  repeat walk_at "m"
  refine ⟨w, rfl, by walk_at "o", fun i => cellv 5 i, by walk_at "o", fun i hi => el_pair (el_INT (by kernel_rfl) (by kernel_rfl)) (el_x (by kernel_rfl)), ?_⟩
  rw [show (List.range w).map (fun (i : Nat) => cellv 5 i) = intc w from rfl]
  repeat walk_at "m"
  refine op_add_list (get_app (get_app (get_app hp'))) get_last (by rw [intc_len]; walk_at "o") ?_
  repeat walk_at "m"
  rw [List.append_assoc (M.set H _), List.append_assoc (M.set H _), List.append_assoc (M.set H _)]
  exact h _ _ _ (frs_app (frs_app (frs_app (frs_list (items_free _)) (frs_one rfl)) (frs_list (intc_free _))) (frs_list (frees_app (pre_free _) (intc_free _)))) (by rw [← List.append_assoc (M.set H _), ← List.append_assoc (M.set H _), ← List.append_assoc (M.set H _)]; exact get_last) (by simp)
theorem kind5_full (hn : n ≤ 3) (D : DM M Y S H St Tr j kb p room xs r f w am fr fu) (hr : room < (xs.length : Int) + (preOf f).length + w)
   (h : ∀ z loc, frs z = true → XF (fault am fr) loc (M ++ z)) :
   ExecsW C 394 (n + 1) true ((bodyAt C.w.params 394).drop 9) (dLoc S j kb f w xs.length 5) M QF XF := by
  obtain ⟨e1, e2, e3, hb, hh, hp, hSH, hjH, hjS, hHb, hHh, hHp, y, hfu, hf, hw, hw0, hz, hzr, fx⟩ := D
  have pl := pre_len f
  conv in List.drop _ _ => whnf
  unfold dLoc
  repeat walk_at "m"
  rw [if_neg (by decide)]
  repeat walk_at "m"
  rw [if_neg (by decide)]
  repeat walk_at "m"
  rw [if_pos (by decide)]
  repeat walk_at "m"
  refine ev_comp (cl := fun L => []) (fun L => by kernel_rfl) (by kernel_rfl) (by kernel_rfl) (by kernel_rfl) ?_
  repeat walk_at "m"
  refine ⟨rfl, ?_⟩
  repeat walk_at "m"
  refine ⟨w, rfl, by walk_at "o", fun i => .tup [.str (Str.ofString "i"), .int i], by walk_at "o", fun i hi => el_pair el_str (el_x (by kernel_rfl)), ?_⟩
  rw [show (List.range w).map (fun (i : Nat) => MV.tup [.str (Str.ofString "i"), .int i]) = items w from rfl]
  repeat walk_at "m"
  refine call_tuple_of get_last (by rw [items_len]; walk_at "o") ?_
  repeat walk_at "m"
  refine ev_dict_s ?_
  repeat walk_at "m"
  refine CodeW.call (put_term_full hf ?_ (get_app (get_app e1)) (get_app (get_app e2)) get_last ?_ ?_ y.app.app hfu ?_)
  · walk_at "o"
  · walk_at "o"
  · walk_at "o"
  rw [List.append_assoc M]
  exact h _ _ (frs_app (frs_list (items_free _)) (frs_one rfl))
end

/-! MDeedC -/
section
variable {C : Cfg} {n : Nat} {M : List MO} {QF : MF → List (Str × MV) → List MO → Prop} {XF : MV → List (Str × MV) → List MO → Prop} {Y S H St Tr j kb p : Nat} {room : Int} {xs : List MV} {r : List Nat} {f w : Nat} {am fr : Int} {fu : List MV}
def endC (b : Nat) : MV := if b = 0 then cellv 4 0 else cellv 5 9
theorem endC_free (b : Nat) : (endC b).free = true := by unfold endC; split <;> rfl
theorem endC_box (b : Nat) : (endC b).isBox = false := by unfold endC; split <;> rfl
theorem lstOf_len (a : Int) (k : Nat) (e : MV) : (lstOf a k e).length = 2 * k := by unfold lstOf; rw [List.length_set, pairs_len]
theorem lstOf_free (a : Int) (k : Nat) {e : MV} (h : e.free = true) : MV.frees (lstOf a k e) = true := frees_set (pairs_free _ _) h _
theorem set_mid3 {M z : List MO} {a b : MO} {k : Nat} (h : M.length = k) : (M ++ ([a] ++ z)).set k b = M ++ ([b] ++ z) := by subst h; simp
theorem get_mid3 {M z : List MO} {a : MO} {k : Nat} (h : M.length = k) : (M ++ ([a] ++ z))[k]? = some a := by subst h; simp
/-- up to the statement that stores the end into the last cell -/
theorem kind6_a (hn : n ≤ 3) (D : DM M Y S H St Tr j kb p room xs r f w am fr fu)
   (h : ∀ loc z, frs z = true → Sub ((Str.ofString "end", endC (nxt r % 2)) :: (Str.ofString "cells", .obj M.length) :: dLoc S j kb f w xs.length 6) loc →
     ExecsW C 394 (n + 1) true ((bodyAt C.w.params 394).drop 16) loc (M.set j (.list (nums r.dropLast)) ++ ([.list (lstOf xs.length w (endC (nxt r % 2)))] ++ z)) QF XF) :
   ExecsW C 394 (n + 1) true ((bodyAt C.w.params 394).drop 9) (dLoc S j kb f w xs.length 6) M QF XF := by
  obtain ⟨e1, e2, e3, hb, hh, hp, hSH, hjH, hjS, hHb, hHh, hHp, y, hfu, hf, hw, hw0, hz, hzr, fx⟩ := D
  conv at h in List.drop _ _ => whnf
  conv in List.drop _ _ => whnf
  unfold dLoc
  repeat walk_at "m"
  rw [if_neg (by decide)]
  repeat walk_at "m"
  rw [if_neg (by decide)]
  repeat walk_at "m"
  rw [if_neg (by decide)]
  repeat walk_at "m"
  with_reducible refine x_for_range ?hx ?_ ?hs ?hc ?he ?hk
  case hx => kernel_rfl
  case hs => (intro _ _; rfl)
  case hc => (intro _; rfl)
  case he => (intro _; rfl)
  case hk => kernel_rfl
  repeat walk_at "m"
  refine ⟨rfl, ?_⟩
  repeat walk_at "m"
  refine ⟨w, rfl, by walk_at "o", fun i loc σ => Sub ((Str.ofString "cells", .obj M.length) :: dLoc S j kb f w xs.length 6) loc ∧ ∃ z, frs z = true ∧ σ = M ++ ([.list (pairs xs.length i)] ++ z), ⟨Sub.refl _, [], rfl, rfl⟩, ?_, ?_⟩
  · rintro i loc σ ⟨hs, z, fz, rfl⟩ hi
    unfold dLoc at hs
    refine ExecsW.sub (hs.cons _) ?_
    repeat walk_at "m"
    refine op_iadd_list (get_app (get_mid3 rfl)) get_last ?_ ?_
    · rw [pairs_len]; simp; walk_at "o"
    repeat walk_at "m"
    refine ⟨?_, z ++ [.list [cellv 5 i, cellv 3 (xs.length + 2 * i + 2)]], frs_app fz (frs_list rfl), ?_⟩
    rotate_left 1
    · rw [set_app (get_mid3 rfl), set_mid3 rfl, pairs_succ, List.append_assoc M, List.append_assoc [_]]
      rfl
    · unfold dLoc
      repeat refine Sub.one rfl ?_
      exact Sub.nil
  · rintro loc σ ⟨hs, z, fz, rfl⟩
    unfold dLoc at hs
    refine ExecsW.sub hs ?_
    repeat walk_at "m"
    refine CodeW.call (law_next_ok ?_ (get_app (get_app e3)) ?_ ?_)
    · walk_at "o"
    · walk_at "o"
    repeat walk_at "m"
    refine op_mod (by decide) ?_
    rw [set_app (get_app e3), set_app e3, fmod2]
    have hl : (M.set j (.list (nums r.dropLast))).length = M.length := by simp
    generalize M.set j (.list (nums r.dropLast)) = M' at *
    generalize hbb : nxt r % 2 = b at *
    have hb2 : b < 2 := by walk_at "o"
    have hget : ([cellv 4 0, cellv 5 9] : List MV)[((b : Int)).toNat]? = some (endC b) := by
      rcases (show b = 0 ∨ b = 1 by walk_at "o") with rfl | rfl <;> rfl
    refine ⟨_, _, rfl, .list (get_at (by simp [hl])) (by walk_at "o") hget (by show 2 < _; walk_at "o"), ?_⟩
    repeat walk_at "m"
    refine ev_local (mv := endC b) (by kernel_rfl) rfl ?_ (endC_box b) (by kernel_rfl) (by decide +kernel)
    repeat walk_at "m"
    refine ⟨_, .back (get_app (get_mid3 hl)) (by decide) ?_ ?_, ?_⟩
    · rw [pairs_len]; walk_at "o"
    · rw [pairs_len]; walk_at "o"
    rw [set_app (get_mid3 hl), set_mid3 hl, show (-1 + ((pairs (xs.length : Int) w).length : Int)).toNat = 2 * w - 1 by rw [pairs_len]; walk_at "o", List.append_assoc M', List.append_assoc [_]]
    refine h _ _ (frs_app fz (frs_list rfl)) ?_
    unfold dLoc
    repeat refine Sub.one rfl ?_
    exact Sub.nil
theorem kind6_fits (hn : n ≤ 3) (D : DM M Y S H St Tr j kb p room xs r f w am fr fu) (hr : (xs.length : Int) + 2 * w ≤ room)
   (h : ∀ z L loc, frs z = true → ((M.set j (.list (nums r.dropLast))).set H (.list (xs ++ lstOf xs.length w (endC (nxt r % 2)))) ++ z)[L]? = some (.list (lstOf xs.length w (endC (nxt r % 2)))) → M.length ≤ L →
     QF (.ret (.tup [cellv 3 xs.length, cellv 3 xs.length, .obj L])) loc ((M.set j (.list (nums r.dropLast))).set H (.list (xs ++ lstOf xs.length w (endC (nxt r % 2)))) ++ z)) (hjb : j ≠ kb) :
   ExecsW C 394 (n + 1) true ((bodyAt C.w.params 394).drop 9) (dLoc S j kb f w xs.length 6) M QF XF := by
  refine kind6_a hn D fun loc z fz hs => ?_
  obtain ⟨e1, e2, e3, hb, hh, hp, hSH, hjH, hjS, hHb, hHh, hHp, y, hfu, hf, hw, hw0, hz, hzr, fx⟩ := D
  unfold dLoc at hs
  have e1' := get_set_ne (a := .list (nums r.dropLast)) hjS e1
  have e2' := get_set_ne (a := .list (nums r.dropLast)) hjH e2
  have hb' := get_set_ne (a := .list (nums r.dropLast)) hjb hb
  have hl : (M.set j (.list (nums r.dropLast))).length = M.length := by simp
  generalize M.set j (.list (nums r.dropLast)) = M' at *
  generalize nxt r % 2 = b at *
  conv in List.drop _ _ => whnf
  refine ExecsW.sub hs ?_
  have hend : b = 0 ∨ b ≠ 0 := by walk_at "o"
  rcases hend with rfl | hb0
  · rw [show endC 0 = cellv 4 0 from rfl] at *
    repeat walk_at "m"
    refine cmp_eq_data (.flat rfl) (.flat rfl) (by decide +kernel) (by walk_at "o") ?_
    refine bool_post ?_
    rw [show PyData.eqv (cellv 4 0).py (MV.tup [MV.int 4, MV.int 0]).py = true by decide +kernel]
    rw [if_pos (by decide)]
    repeat walk_at "m"
    refine ev_comp (cl := fun L => []) (fun L => by kernel_rfl) (by kernel_rfl) (by kernel_rfl) (by kernel_rfl) ?_
    repeat walk_at "m"
    refine ⟨rfl, ?_⟩
    repeat walk_at "m"
    refine ⟨w, rfl, by walk_at "o", fun i => cellv 5 i, by walk_at "o", fun i hi => el_pair (el_INT (by kernel_rfl) (by kernel_rfl)) (el_x (by kernel_rfl)), ?_⟩
    rw [show (List.range w).map (fun (i : Nat) => cellv 5 i) = intc w from rfl]
    repeat walk_at "m"
    refine CodeW.call (build_nil (by walk_at "o") (list_fits (t := .none) (c := 4) (d := 0) (.inl ⟨rfl, rfl, rfl⟩) hw0 ?_ ?_ (get_app (get_app e1')) (get_app (get_app e2')) get_last ?_ ?_ fx hSH ?_))
    · walk_at "o"
    · walk_at "o"
    · walk_at "o"
    · walk_at "o"
    rw [set_app (get_app e2'), set_app e2']
    have hb'' := get_set_ne (a := .list (xs ++ lstOf xs.length w (cellv 4 0))) hHb hb'
    repeat walk_at "m"
    rw [List.append_assoc (M'.set H _)]
    exact h _ _ _ (frs_app (frs_app (frs_list (lstOf_free _ _ rfl)) fz) (frs_list (intc_free _))) (by rw [← List.append_assoc (M'.set H _)]; exact get_app (get_mid3 (by simpa using hl))) (Nat.le_refl _)
  · rw [show endC b = cellv 5 9 by unfold endC; rw [if_neg hb0]] at *
    repeat walk_at "m"
    refine cmp_eq_data (.flat rfl) (.flat rfl) (by decide +kernel) (by walk_at "o") ?_
    refine bool_post ?_
    rw [show PyData.eqv (cellv 5 9).py (MV.tup [MV.int 4, MV.int 0]).py = false by decide +kernel]
    rw [if_neg (by decide)]
    repeat walk_at "m"
    refine ev_comp (cl := fun L => []) (fun L => by kernel_rfl) (by kernel_rfl) (by kernel_rfl) (by kernel_rfl) ?_
    repeat walk_at "m"
    refine ⟨rfl, ?_⟩
    repeat walk_at "m"
    refine ⟨w, rfl, by walk_at "o", fun i => cellv 5 i, by walk_at "o", fun i hi => el_pair (el_INT (by kernel_rfl) (by kernel_rfl)) (el_x (by kernel_rfl)), ?_⟩
    rw [show (List.range w).map (fun (i : Nat) => cellv 5 i) = intc w from rfl]
    repeat walk_at "m"
    refine CodeW.call (build_tail (by walk_at "o") (list_fits (t := cellv 5 9) (c := 5) (d := 9) (.inr ⟨rfl, rfl, rfl⟩) hw0 ?_ ?_ (get_app (get_app e1')) (get_app (get_app e2')) get_last ?_ ?_ fx hSH ?_))
    · walk_at "o"
    · walk_at "o"
    · walk_at "o"
    · walk_at "o"
    rw [set_app (get_app e2'), set_app e2']
    have hb'' := get_set_ne (a := .list (xs ++ lstOf xs.length w (cellv 5 9))) hHb hb'
    repeat walk_at "m"
    rw [List.append_assoc (M'.set H _)]
    exact h _ _ _ (frs_app (frs_app (frs_list (lstOf_free _ _ rfl)) fz) (frs_list (intc_free _))) (by rw [← List.append_assoc (M'.set H _)]; exact get_app (get_mid3 (by simpa using hl))) (Nat.le_refl _)
theorem kind6_full (hn : n ≤ 3) (D : DM M Y S H St Tr j kb p room xs r f w am fr fu) (hr : room < (xs.length : Int) + 2 * w)
   (h : ∀ z loc, frs z = true → XF (fault am fr) loc (M.set j (.list (nums r.dropLast)) ++ z))
   (y' : IsSym (M.set j (.list (nums r.dropLast))) Y am fr fu) (hjb : j ≠ kb) :
   ExecsW C 394 (n + 1) true ((bodyAt C.w.params 394).drop 9) (dLoc S j kb f w xs.length 6) M QF XF := by
  refine kind6_a hn D fun loc z fz hs => ?_
  obtain ⟨e1, e2, e3, hb, hh, hp, hSH, hjH, hjS, hHb, hHh, hHp, y, hfu, hf, hw, hw0, hz, hzr, fx⟩ := D
  unfold dLoc at hs
  have e1' := get_set_ne (a := .list (nums r.dropLast)) hjS e1
  have e2' := get_set_ne (a := .list (nums r.dropLast)) hjH e2
  have hb' := get_set_ne (a := .list (nums r.dropLast)) hjb hb
  have hl : (M.set j (.list (nums r.dropLast))).length = M.length := by simp
  generalize M.set j (.list (nums r.dropLast)) = M' at *
  generalize nxt r % 2 = b at *
  conv in List.drop _ _ => whnf
  refine ExecsW.sub hs ?_
  have hend : b = 0 ∨ b ≠ 0 := by walk_at "o"
  rcases hend with rfl | hb0
  · rw [show endC 0 = cellv 4 0 from rfl] at *
    repeat walk_at "m"
    refine cmp_eq_data (.flat rfl) (.flat rfl) (by decide +kernel) (by walk_at "o") ?_
    refine bool_post ?_
    rw [show PyData.eqv (cellv 4 0).py (MV.tup [MV.int 4, MV.int 0]).py = true by decide +kernel]
    rw [if_pos (by decide)]
    repeat walk_at "m"
    refine ev_comp (cl := fun L => []) (fun L => by kernel_rfl) (by kernel_rfl) (by kernel_rfl) (by kernel_rfl) ?_
    repeat walk_at "m"
    refine ⟨rfl, ?_⟩
    repeat walk_at "m"
    refine ⟨w, rfl, by walk_at "o", fun i => cellv 5 i, by walk_at "o", fun i hi => el_pair (el_INT (by kernel_rfl) (by kernel_rfl)) (el_x (by kernel_rfl)), ?_⟩
    rw [show (List.range w).map (fun (i : Nat) => cellv 5 i) = intc w from rfl]
    repeat walk_at "m"
    refine CodeW.call (build_nil (by walk_at "o") (list_full (t := .none) (c := 4) (d := 0) (.inl ⟨rfl, rfl, rfl⟩) hw0 ?_ ?_ (get_app (get_app e1')) (get_app (get_app e2')) get_last ?_ ?_ y'.app.app ?_))
    · walk_at "o"
    · walk_at "o"
    · walk_at "o"
    · walk_at "o"
    rw [List.append_assoc M']
    exact h _ _ (frs_app (frs_app (frs_list (lstOf_free _ _ rfl)) fz) (frs_list (intc_free _)))
  · rw [show endC b = cellv 5 9 by unfold endC; rw [if_neg hb0]] at *
    repeat walk_at "m"
    refine cmp_eq_data (.flat rfl) (.flat rfl) (by decide +kernel) (by walk_at "o") ?_
    refine bool_post ?_
    rw [show PyData.eqv (cellv 5 9).py (MV.tup [MV.int 4, MV.int 0]).py = false by decide +kernel]
    rw [if_neg (by decide)]
    repeat walk_at "m"
    refine ev_comp (cl := fun L => []) (fun L => by kernel_rfl) (by kernel_rfl) (by kernel_rfl) (by kernel_rfl) ?_
    repeat walk_at "m"
    refine ⟨rfl, ?_⟩
    repeat walk_at "m"
    refine ⟨w, rfl, by walk_at "o", fun i => cellv 5 i, by walk_at "o", fun i hi => el_pair (el_INT (by kernel_rfl) (by kernel_rfl)) (el_x (by kernel_rfl)), ?_⟩
    rw [show (List.range w).map (fun (i : Nat) => cellv 5 i) = intc w from rfl]
    repeat walk_at "m"
    refine CodeW.call (build_tail (by walk_at "o") (list_full (t := cellv 5 9) (c := 5) (d := 9) (.inr ⟨rfl, rfl, rfl⟩) hw0 ?_ ?_ (get_app (get_app e1')) (get_app (get_app e2')) get_last ?_ ?_ y'.app.app ?_))
    · walk_at "o"
    · walk_at "o"
    · walk_at "o"
    · walk_at "o"
    rw [List.append_assoc M']
    exact h _ _ (frs_app (frs_app (frs_list (lstOf_free _ _ rfl)) fz) (frs_list (intc_free _)))
end

/-! MDeedD -/
section
variable {C : Cfg} {n : Nat} {M : List MO} {QF : MF → List (Str × MV) → List MO → Prop} {XF : MV → List (Str × MV) → List MO → Prop} {Y S H St Tr j kb : Nat} {room : Int} {xs : List MV} {r : List Nat} {am fr : Int} {fu : List MV}
/-- the memory behind the deed's kind -/
structure DH (M : List MO) (Y S H St Tr j kb : Nat) (room : Int) (xs : List MV) (r : List Nat) (am fr : Int) (fu : List MV) : Prop where
  e1 : M[S]? = some (.inst 373 (storeF Y room H St Tr))
  e2 : M[H]? = some (.list xs)
  e3 : M[j]? = some (.list (nums r))
  hb : M[kb]? = some (.cell (some (.int xs.length)))
  hSH : H ≠ S
  hjH : j ≠ H
  hjS : j ≠ S
  hHb : H ≠ kb
  hjb : j ≠ kb
  y : ∀ r' : List Nat, IsSym (M.set j (.list (nums r'))) Y am fr fu
  hz : xs.length ≤ 1700
  hzr : r.length ≤ 200
  fx : MV.frees xs = true
def aLoc (S j kb kd : Nat) : List (Str × MV) := [(Str.ofString "kind", .int kd), (Str.ofString "row", .obj j), (Str.ofString "store", .obj S), (Str.ofString "base", .box 1 kb), (Str.ofString "head", .box 2 (kb + 1))]
theorem DH.y0 (D : DH M Y S H St Tr j kb room xs r am fr fu) : IsSym M Y am fr fu := by
  have := D.y r
  rwa [set_same D.e3] at this
theorem kind0_fits (hn : n ≤ 3) (D : DH M Y S H St Tr j kb room xs r am fr fu) (hr : (xs.length : Int) + 1 ≤ room)
   (h : ∀ z L loc, frs z = true → (M.set H (.list (xs ++ [cellv 5 xs.length])) ++ z)[L]? = some (.list [cellv 5 xs.length]) → M.length ≤ L → QF (.ret (.tup [.int xs.length, .int xs.length, .obj L])) loc (M.set H (.list (xs ++ [cellv 5 xs.length])) ++ z)) :
   ExecsW C 394 (n + 1) true ((bodyAt C.w.params 394).drop 2) (aLoc S j kb 0) M QF XF := by
  obtain ⟨e1, e2, e3, hb, hSH, hjH, hjS, hHb, hjb, y, hz, hzr, fx⟩ := D
  conv in List.drop _ _ => whnf
  unfold aLoc
  repeat walk_at "m"
  rw [if_pos (by decide)]
  repeat walk_at "m"
  refine CodeW.call (push_fits (a := 5) (b := xs.length) ?_ e1 e2 ?_ ?_ fx ?_)
  · walk_at "o"
  · walk_at "o"
  · walk_at "o"
  have hb' := get_set_ne (a := .list (xs ++ [cellv 5 xs.length])) hHb hb
  repeat walk_at "m"
  exact h _ _ _ (frs_list rfl) get_last (by simp)
theorem kind0_full (hn : n ≤ 3) (D : DH M Y S H St Tr j kb room xs r am fr fu) (hr : room < (xs.length : Int) + 1)
   (h : ∀ loc, XF (fault am fr) loc M) :
   ExecsW C 394 (n + 1) true ((bodyAt C.w.params 394).drop 2) (aLoc S j kb 0) M QF XF := by
  have y0 := D.y0
  obtain ⟨e1, e2, e3, hb, hSH, hjH, hjS, hHb, hjb, y, hz, hzr, fx⟩ := D
  conv in List.drop _ _ => whnf
  unfold aLoc
  repeat walk_at "m"
  rw [if_pos (by decide)]
  repeat walk_at "m"
  refine CodeW.call (push_full rfl ?_ e1 e2 ?_ ?_ y0 ?_)
  · walk_at "o"
  · walk_at "o"
  · walk_at "o"
  exact h _
theorem kind1_fits (hn : n ≤ 3) (D : DH M Y S H St Tr j kb room xs r am fr fu) (hr : (xs.length : Int) + 1 ≤ room)
   (h : ∀ z L loc, frs z = true → (M.set H (.list (xs ++ [cellv 0 xs.length])) ++ z)[L]? = some (.list [cellv 0 xs.length]) → M.length ≤ L → QF (.ret (.tup [cellv 0 xs.length, cellv 0 xs.length, .obj L])) loc (M.set H (.list (xs ++ [cellv 0 xs.length])) ++ z)) :
   ExecsW C 394 (n + 1) true ((bodyAt C.w.params 394).drop 2) (aLoc S j kb 1) M QF XF := by
  obtain ⟨e1, e2, e3, hb, hSH, hjH, hjS, hHb, hjb, y, hz, hzr, fx⟩ := D
  conv in List.drop _ _ => whnf
  unfold aLoc
  repeat walk_at "m"
  rw [if_neg (by decide)]
  repeat walk_at "m"
  rw [if_pos (by decide)]
  repeat walk_at "m"
  refine CodeW.call (new_var_fits ?_ e1 e2 ?_ ?_ fx ?_)
  · walk_at "o"
  · walk_at "o"
  · walk_at "o"
  have hb' := get_set_ne (a := .list (xs ++ [cellv 0 xs.length])) hHb hb
  repeat walk_at "m"
  exact h _ _ _ (frs_list rfl) get_last (by simp)
theorem kind1_full (hn : n ≤ 3) (D : DH M Y S H St Tr j kb room xs r am fr fu) (hr : room < (xs.length : Int) + 1)
   (h : ∀ loc, XF (fault am fr) loc M) :
   ExecsW C 394 (n + 1) true ((bodyAt C.w.params 394).drop 2) (aLoc S j kb 1) M QF XF := by
  have y0 := D.y0
  obtain ⟨e1, e2, e3, hb, hSH, hjH, hjS, hHb, hjb, y, hz, hzr, fx⟩ := D
  conv in List.drop _ _ => whnf
  unfold aLoc
  repeat walk_at "m"
  rw [if_neg (by decide)]
  repeat walk_at "m"
  rw [if_pos (by decide)]
  repeat walk_at "m"
  refine CodeW.call (new_var_full ?_ e1 e2 ?_ ?_ y0 ?_)
  · walk_at "o"
  · walk_at "o"
  · walk_at "o"
  exact h _
theorem kind2_fits (hn : n ≤ 3) (D : DH M Y S H St Tr j kb room xs r am fr fu) (hr : (xs.length : Int) + (nxt r % 6 : Nat) ≤ room)
   (h : ∀ z L loc, frs z = true → ((M.set j (.list (nums r.dropLast))).set H (.list (xs ++ unb xs.length (nxt r % 6))) ++ z)[L]? = some (.list (unb xs.length (nxt r % 6))) → M.length ≤ L → QF (.ret (.tup [.int xs.length, .int xs.length, .obj L])) loc ((M.set j (.list (nums r.dropLast))).set H (.list (xs ++ unb xs.length (nxt r % 6))) ++ z)) :
   ExecsW C 394 (n + 1) true ((bodyAt C.w.params 394).drop 2) (aLoc S j kb 2) M QF XF := by
  obtain ⟨e1, e2, e3, hb, hSH, hjH, hjS, hHb, hjb, y, hz, hzr, fx⟩ := D
  conv in List.drop _ _ => whnf
  unfold aLoc
  repeat walk_at "m"
  rw [if_neg (by decide)]
  repeat walk_at "m"
  rw [if_neg (by decide)]
  repeat walk_at "m"
  rw [if_pos (by decide)]
  repeat walk_at "m"
  refine CodeW.call (law_next_ok ?_ e3 ?_ ?_)
  · walk_at "o"
  · walk_at "o"
  have e1' := get_set_ne (a := .list (nums r.dropLast)) hjS e1
  have e2' := get_set_ne (a := .list (nums r.dropLast)) hjH e2
  have hb' := get_set_ne (a := .list (nums r.dropLast)) hjb hb
  have hl : (M.set j (.list (nums r.dropLast))).length = M.length := by simp
  generalize M.set j (.list (nums r.dropLast)) = M' at *
  repeat walk_at "m"
  refine op_mod (by decide) ?_
  rw [fmod6]
  repeat walk_at "m"
  generalize hm : nxt r % 6 = many at *
  have hm6 : many < 6 := by walk_at "o"
  refine CodeW.call (reserve_fits (k := many) ?_ e1' e2' ?_ ?_ fx hSH ?_)
  · walk_at "o"
  · walk_at "o"
  · walk_at "o"
  have hb'' := get_set_ne (a := .list (xs ++ unb xs.length many)) hHb hb'
  repeat walk_at "m"
  refine ev_comp (cl := fun L => [(Str.ofString "base", L + 1)]) (fun L => by kernel_rfl) (by kernel_rfl) (by kernel_rfl) (by kernel_rfl) ?_
  repeat walk_at "m"
  refine ⟨rfl, ?_⟩
  repeat walk_at "m"
  refine ⟨many, rfl, by walk_at "o", fun i => cellv 0 ((xs.length : Int) + i), by walk_at "o", fun i hi => ?_, ?_⟩
  · exact el_pair (el_REF (by kernel_rfl) (by kernel_rfl)) (el_add (el_cell (k := 1) (by kernel_rfl) (fun _ => by rfl) (by kernel_rfl) (by rfl) hb'') (el_x (by kernel_rfl)))
  rw [show (List.range many).map (fun (i : Nat) => cellv 0 ((xs.length : Int) + i)) = unb xs.length many from rfl]
  repeat walk_at "m"
  exact h _ _ _ (frs_list (unb_free _ _)) get_last (by simp [hl])
theorem kind2_full (hn : n ≤ 3) (D : DH M Y S H St Tr j kb room xs r am fr fu) (hr : room < (xs.length : Int) + (nxt r % 6 : Nat))
   (h : ∀ loc, XF (fault am fr) loc (M.set j (.list (nums r.dropLast)))) :
   ExecsW C 394 (n + 1) true ((bodyAt C.w.params 394).drop 2) (aLoc S j kb 2) M QF XF := by
  obtain ⟨e1, e2, e3, hb, hSH, hjH, hjS, hHb, hjb, y, hz, hzr, fx⟩ := D
  conv in List.drop _ _ => whnf
  unfold aLoc
  repeat walk_at "m"
  rw [if_neg (by decide)]
  repeat walk_at "m"
  rw [if_neg (by decide)]
  repeat walk_at "m"
  rw [if_pos (by decide)]
  repeat walk_at "m"
  refine CodeW.call (law_next_ok ?_ e3 ?_ ?_)
  · walk_at "o"
  · walk_at "o"
  have y' := y r.dropLast
  have e1' := get_set_ne (a := .list (nums r.dropLast)) hjS e1
  have e2' := get_set_ne (a := .list (nums r.dropLast)) hjH e2
  generalize M.set j (.list (nums r.dropLast)) = M' at *
  repeat walk_at "m"
  refine op_mod (by decide) ?_
  rw [fmod6]
  repeat walk_at "m"
  generalize hm : nxt r % 6 = many at *
  refine CodeW.call (reserve_full (k := many) ?_ e1' e2' ?_ ?_ y' ?_)
  · walk_at "o"
  · walk_at "o"
  · walk_at "o"
  exact h _
end

/-! MDeedE -/
section
variable {C : Cfg} {n : Nat} {σ : List MO} {Q : MV → List MO → Prop} {X : MV → List MO → Prop} {Y S H St Tr j : Nat} {room : Int} {xs : List MV} {r : List Nat} {am fr : Int} {fu : List MV}
theorem frs_mem {z : List MO} (f : frs z = true) {m : MO} (hm : m ∈ z) : m.free = true := by
  induction z with
  | nil => cases hm
  | cons x r ih =>
    have f' : x.free = true ∧ frs r = true := by simpa [frs] using f
    rcases List.mem_cons.mp hm with rfl | hm
    · exact f'.1
    · exact ih f'.2 hm
theorem fin_kind {σ₁ zz z : List MO} {L : Nat} {D m0 mL : MO} {v v' : MV} (c : Chg σ σ₁) (hl : σ₁.length = σ.length) (eH : σ₁[H]? = some m0) (fX : D.free = true)
    (hzz : ∀ mo ∈ zz, mo.under (σ.length + zz.length) = true) (fz : frs z = true) (fv : v.free = true) (fv' : v'.free = true) (hL : ((σ₁ ++ zz).set H D ++ z)[L]? = some mL)
    (h : (σ₁.set H D ++ (zz ++ z))[L]? = some mL → Q (.tup [v, v', .obj L]) (σ₁.set H D ++ (zz ++ z))) : FinF σ Q (.ret (.tup [v, v', .obj L])) ((σ₁ ++ zz).set H D ++ z) := by
  rw [set_app eH, List.append_assoc] at *
  refine fin_deed (c.set fX) (by simpa using hl) ?_ ?_ (h hL)
  · intro mo hmo
    rw [List.length_append]
    rcases List.mem_append.mp hmo with hm | hm
    · exact MO.under_mono (by walk_at "o") (hzz mo hm)
    · exact MO.free_under (frs_mem fz hm)
  · have := (List.getElem?_eq_some_iff.mp hL).1
    simp [MV.under, MV.unders, MV.free_under fv, MV.free_under fv', Nat.blt_eq]
    simp at this; walk_at "o"
theorem finx_kind {σ₁ zz : List MO} (c : Chg σ σ₁) (hl : σ₁.length = σ.length) (h : X (fault am fr) σ₁) : FinX σ X (fault am fr) (σ₁ ++ zz) :=
  ⟨σ.length, c.app.drops rfl, MV.free_under rfl, by rw [List.take_left' hl]; exact h⟩
def tailA (len : Nat) : List MO := [.cell (some (.int len)), .cell none]
def tailM (len k f : Nat) : List MO := [.cell (some (.int len)), .cell (some (.obj (k + 5))), .list [.int 12, .int 13, .int 18, .int 0], .list [.int 1, .int 2, .int 3, .int 2], .list [.int 12, .int 13, .int 18, .int 0], .list (preOf f)]
theorem tailA_under (len k : Nat) : ∀ mo ∈ tailA len, mo.under (k + (tailA len).length) = true := by
  intro mo hm
  simp only [tailA, List.mem_cons, List.not_mem_nil, or_false] at hm
  rcases hm with rfl | rfl <;> rfl
theorem tailM_under (len k f : Nat) : ∀ mo ∈ tailM len k f, mo.under (k + (tailM len k f).length) = true := by
  intro mo hm
  simp only [tailM, List.mem_cons, List.not_mem_nil, or_false] at hm
  rcases hm with rfl | rfl | rfl | rfl | rfl | rfl
  · rfl
  · simp [tailM, MO.under, MV.under, Nat.blt_eq]
  · rfl
  · rfl
  · rfl
  · exact MO.free_under (pre_free _)
theorem dh_of (e1 : σ[S]? = some (.inst 373 (storeF Y room H St Tr))) (e2 : σ[H]? = some (.list xs)) (e3 : σ[j]? = some (.list (nums r))) (hz : xs.length ≤ 1700) (hzr : r.length ≤ 200) (fx : MV.frees xs = true) (hSH : H ≠ S) (hjH : j ≠ H) (hjS : j ≠ S)
   (y : ∀ r' : List Nat, IsSym (σ.set j (.list (nums r'))) Y am fr fu) : DH (σ.set j (.list (nums r.dropLast)) ++ tailA xs.length) Y S H St Tr j σ.length room xs r.dropLast am fr fu where
  e1 := get_app (get_set_ne hjS e1)
  e2 := get_app (get_set_ne hjH e2)
  e3 := get_app (get_set_self e3)
  hb := by rw [List.getElem?_append_right (by simp)]; simp [tailA]
  hSH := hSH
  hjH := hjH
  hjS := hjS
  hHb := Nat.ne_of_lt (List.getElem?_eq_some_iff.mp e2).1
  hjb := Nat.ne_of_lt (List.getElem?_eq_some_iff.mp e3).1
  y := fun r' => by rw [set_app (get_set_self e3), List.set_set]; exact (y r').app
  hz := hz
  hzr := by simp; walk_at "o"
  fx := fx
theorem dm_of {f w : Nat} (e1 : σ[S]? = some (.inst 373 (storeF Y room H St Tr))) (e2 : σ[H]? = some (.list xs)) (e3 : σ[j]? = some (.list (nums r))) (hz : xs.length ≤ 1700) (hzr : r.length ≤ 200) (fx : MV.frees xs = true) (hSH : H ≠ S) (hjH : j ≠ H) (hjS : j ≠ S)
   (y : ∀ r' : List Nat, IsSym (σ.set j (.list (nums r'))) Y am fr fu) (hfu : fu.length ≤ 1000) (hf : Fun fu f w) (hw : w ≤ 3) (hw0 : 0 < w) : DM (σ.set j (.list (nums r.dropLast.dropLast)) ++ tailM xs.length σ.length f) Y S H St Tr j σ.length (σ.length + 5) room xs r.dropLast.dropLast f w am fr fu where
  e1 := get_app (get_set_ne hjS e1)
  e2 := get_app (get_set_ne hjH e2)
  e3 := get_app (get_set_self e3)
  hb := by rw [List.getElem?_append_right (by simp)]; simp [tailM]
  hh := by rw [List.getElem?_append_right (by simp)]; simp [tailM]
  hp := by rw [List.getElem?_append_right (by simp)]; simp [tailM]
  hSH := hSH
  hjH := hjH
  hjS := hjS
  hHb := Nat.ne_of_lt (List.getElem?_eq_some_iff.mp e2).1
  hHh := Nat.ne_of_lt (Nat.lt_succ_of_lt (List.getElem?_eq_some_iff.mp e2).1)
  hHp := by have := (List.getElem?_eq_some_iff.mp e2).1; walk_at "o"
  y := (y _).app
  hfu := hfu
  hf := hf
  hw := hw
  hw0 := hw0
  hz := hz
  hzr := by simp; walk_at "o"
  fx := fx
theorem tailA_eq {σ₁ : List MO} {len : Nat} : σ₁ ++ [MO.cell (some (.int len))] ++ [MO.cell none] = σ₁ ++ tailA len := by simp [tailA]
theorem tailM_eq {σ₁ : List MO} {len k f : Nat} : σ₁ ++ [MO.cell (some (.int len))] ++ [MO.cell (some (.obj (k + 5)))] ++ [MO.list [.int 12, .int 13, .int 18, .int 0]] ++ [MO.list [.int 1, .int 2, .int 3, .int 2]] ++ [MO.list [.int 12, .int 13, .int 18, .int 0]] ++ [MO.list (preOf f)] = σ₁ ++ tailM len k f := by simp [tailM]
theorem deed_3 {r : List Nat} {len : Nat} (h : nxt r % 7 = 3) : deed r len = (madeOf (fnOfN (nxt r.dropLast % 4)) len, preOf (fnOfN (nxt r.dropLast % 4)) ++ unb (len + (preOf (fnOfN (nxt r.dropLast % 4))).length) (wideN (nxt r.dropLast % 4)), r.dropLast.dropLast) := by unfold deed; rw [h]; rfl
theorem deed_4 {r : List Nat} {len : Nat} (h : nxt r % 7 = 4) : deed r len = (madeOf (fnOfN (nxt r.dropLast % 4)) len, preOf (fnOfN (nxt r.dropLast % 4)) ++ intc (wideN (nxt r.dropLast % 4)), r.dropLast.dropLast) := by unfold deed; rw [h]; rfl
theorem deed_5 {r : List Nat} {len : Nat} (h : nxt r % 7 = 5) : deed r len = (madeOf (fnOfN (nxt r.dropLast % 4)) len, preOf (fnOfN (nxt r.dropLast % 4)) ++ intc (wideN (nxt r.dropLast % 4)), r.dropLast.dropLast) := by unfold deed; rw [h]; rfl
theorem deed_6 {r : List Nat} {len : Nat} (h : nxt r % 7 = 6) : deed r len = (cellv 3 len, lstOf len (wideN (nxt r.dropLast % 4)) (endC (nxt r.dropLast.dropLast % 2)), r.dropLast.dropLast.dropLast) := by unfold deed; rw [h]; rfl
theorem wide3 (k : Nat) : wideN k ≤ 3 := by unfold wideN; split <;> walk_at "o"
theorem wide0 (k : Nat) : 0 < wideN k := by unfold wideN; split <;> walk_at "o"
theorem deed_fits (hn : n ≤ 3) (e1 : σ[S]? = some (.inst 373 (storeF Y room H St Tr))) (e2 : σ[H]? = some (.list xs)) (e3 : σ[j]? = some (.list (nums r))) (hr : (xs.length : Int) + (deed r xs.length).2.1.length ≤ room) (hz : xs.length ≤ 1700) (hzr : r.length ≤ 200) (fx : MV.frees xs = true) (hSH : H ≠ S) (hjH : j ≠ H) (hjS : j ≠ S)
   (y : ∀ r' : List Nat, IsSym (σ.set j (.list (nums r'))) Y am fr fu) (hfu : fu.length ≤ 1000) (hF : ∀ k, Fun fu (fnOfN k) (wideN k))
   (h : ∀ z L, ((σ.set j (.list (nums (deed r xs.length).2.2))).set H (.list (xs ++ (deed r xs.length).2.1)) ++ z)[L]? = some (.list (deed r xs.length).2.1) → Q (.tup [(deed r xs.length).1, (deed r xs.length).1, .obj L]) ((σ.set j (.list (nums (deed r xs.length).2.2))).set H (.list (xs ++ (deed r xs.length).2.1)) ++ z)) : CodeW C n true (.ref 394) [.obj j, .obj S] σ Q X := by
  refine codeW_def_c (ok394 _) (b394 _) (cs394 _) (by walk_at "o") (by decide +kernel) ?_
  refine deed_a hn e1 e2 e3 hz hzr hjH hjS ?_
  have cj : ∀ r' : List Nat, Chg σ (σ.set j (.list (nums r'))) := fun r' => (Chg.refl _).set (nums_free _)
  have lj : ∀ r' : List Nat, (σ.set j (.list (nums r'))).length = σ.length := fun r' => by simp
  have eHj : ∀ r' : List Nat, (σ.set j (.list (nums r')))[H]? = some (.list xs) := fun r' => get_set_ne hjH e2
  have dh := dh_of e1 e2 e3 hz hzr fx hSH hjH hjS y
  have dm := dm_of e1 e2 e3 hz hzr fx hSH hjH hjS y hfu (hF (nxt r.dropLast % 4)) (wide3 _) (wide0 _)
  have h7 : nxt r % 7 = 0 ∨ nxt r % 7 = 1 ∨ nxt r % 7 = 2 ∨ nxt r % 7 = 3 ∨ nxt r % 7 = 4 ∨ nxt r % 7 = 5 ∨ nxt r % 7 = 6 := by walk_at "o"
  rcases h7 with hq | hq | hq | hq | hq | hq | hq
  · rw [deed_0 hq] at h hr
    dsimp only at h hr
    rw [tailA_eq, hq]
    refine kind0_fits hn dh (by simpa using hr) fun z L loc fz hL _ => fin_kind (cj _) (lj _) (eHj _) (frees_app fx rfl) (tailA_under _ _) fz rfl rfl hL (h _ _)
  · rw [deed_1 hq] at h hr
    dsimp only at h hr
    rw [tailA_eq, hq]
    refine kind1_fits hn dh (by simpa using hr) fun z L loc fz hL _ => fin_kind (cj _) (lj _) (eHj _) (frees_app fx rfl) (tailA_under _ _) fz rfl rfl hL (h _ _)
  · rw [deed_2 hq] at h hr
    dsimp only at h hr
    rw [unb_len] at hr
    rw [tailA_eq, hq]
    refine kind2_fits hn dh hr fun z L loc fz hL _ => ?_
    rw [set_app (get_set_self e3), List.set_set] at hL ⊢
    exact fin_kind (cj _) (lj _) (eHj _) (frees_app fx (unb_free _ _)) (tailA_under _ _) fz rfl rfl hL (h _ _)
  · refine deed_b hn e3 hzr (by walk_at "o") ?_
    rw [deed_3 hq] at h hr
    dsimp only at h hr
    rw [List.length_append, unb_len] at hr
    rw [tailM_eq, hq]
    refine kind3_fits hn dm (by walk_at "o") fun z L loc fz hL _ => ?_
    exact fin_kind (cj _) (lj _) (eHj _) (frees_app fx (frees_app (pre_free _) (unb_free _ _))) (tailM_under _ _ _) fz rfl rfl hL (h _ _)
  · refine deed_b hn e3 hzr (by walk_at "o") ?_
    rw [deed_4 hq] at h hr
    dsimp only at h hr
    rw [List.length_append, intc_len] at hr
    rw [tailM_eq, hq]
    refine kind4_fits hn dm (by walk_at "o") fun z L loc fz hL _ => ?_
    exact fin_kind (cj _) (lj _) (eHj _) (frees_app fx (frees_app (pre_free _) (intc_free _))) (tailM_under _ _ _) fz rfl rfl hL (h _ _)
  · refine deed_b hn e3 hzr (by walk_at "o") ?_
    rw [deed_5 hq] at h hr
    dsimp only at h hr
    rw [List.length_append, intc_len] at hr
    rw [tailM_eq, hq]
    refine kind5_fits hn dm (by walk_at "o") fun z L loc fz hL _ => ?_
    exact fin_kind (cj _) (lj _) (eHj _) (frees_app fx (frees_app (pre_free _) (intc_free _))) (tailM_under _ _ _) fz rfl rfl hL (h _ _)
  · refine deed_b hn e3 hzr (by walk_at "o") ?_
    rw [deed_6 hq] at h hr
    dsimp only at h hr
    rw [lstOf_len] at hr
    rw [tailM_eq, hq]
    refine kind6_fits hn dm (by walk_at "o") (fun z L loc fz hL _ => ?_) dh.hjb
    rw [set_app (get_set_self e3), List.set_set] at hL ⊢
    exact fin_kind (cj _) (lj _) (eHj _) (frees_app fx (lstOf_free _ _ (endC_free _))) (tailM_under _ _ _) fz rfl rfl hL (h _ _)
theorem deed_full (hn : n ≤ 3) (e1 : σ[S]? = some (.inst 373 (storeF Y room H St Tr))) (e2 : σ[H]? = some (.list xs)) (e3 : σ[j]? = some (.list (nums r))) (hr : room < (xs.length : Int) + (deed r xs.length).2.1.length) (hz : xs.length ≤ 1700) (hzr : r.length ≤ 200) (fx : MV.frees xs = true) (hSH : H ≠ S) (hjH : j ≠ H) (hjS : j ≠ S)
   (y : ∀ r' : List Nat, IsSym (σ.set j (.list (nums r'))) Y am fr fu) (hfu : fu.length ≤ 1000) (hF : ∀ k, Fun fu (fnOfN k) (wideN k))
   (h : X (fault am fr) (σ.set j (.list (nums (deed r xs.length).2.2)))) : CodeW C n true (.ref 394) [.obj j, .obj S] σ Q X := by
  refine codeW_def_c (ok394 _) (b394 _) (cs394 _) (by walk_at "o") (by decide +kernel) ?_
  refine deed_a hn e1 e2 e3 hz hzr hjH hjS ?_
  have cj : ∀ r' : List Nat, Chg σ (σ.set j (.list (nums r'))) := fun r' => (Chg.refl _).set (nums_free _)
  have lj : ∀ r' : List Nat, (σ.set j (.list (nums r'))).length = σ.length := fun r' => by simp
  have dh := dh_of e1 e2 e3 hz hzr fx hSH hjH hjS y
  have dm := dm_of e1 e2 e3 hz hzr fx hSH hjH hjS y hfu (hF (nxt r.dropLast % 4)) (wide3 _) (wide0 _)
  have h7 : nxt r % 7 = 0 ∨ nxt r % 7 = 1 ∨ nxt r % 7 = 2 ∨ nxt r % 7 = 3 ∨ nxt r % 7 = 4 ∨ nxt r % 7 = 5 ∨ nxt r % 7 = 6 := by walk_at "o"
  rcases h7 with hq | hq | hq | hq | hq | hq | hq
  · rw [deed_0 hq] at h hr
    dsimp only at h hr
    rw [tailA_eq, hq]
    exact kind0_full hn dh (by simpa using hr) fun loc => finx_kind (cj _) (lj _) h
  · rw [deed_1 hq] at h hr
    dsimp only at h hr
    rw [tailA_eq, hq]
    exact kind1_full hn dh (by simpa using hr) fun loc => finx_kind (cj _) (lj _) h
  · rw [deed_2 hq] at h hr
    dsimp only at h hr
    rw [unb_len] at hr
    rw [tailA_eq, hq]
    refine kind2_full hn dh hr fun loc => ?_
    rw [set_app (get_set_self e3), List.set_set]
    exact finx_kind (cj _) (lj _) h
  · refine deed_b hn e3 hzr (by walk_at "o") ?_
    rw [deed_3 hq] at h hr
    dsimp only at h hr
    rw [List.length_append, unb_len] at hr
    rw [tailM_eq, hq]
    refine kind3_full hn dm (by walk_at "o") fun z loc _ => ?_
    rw [List.append_assoc]
    exact finx_kind (cj _) (lj _) h
  · refine deed_b hn e3 hzr (by walk_at "o") ?_
    rw [deed_4 hq] at h hr
    dsimp only at h hr
    rw [List.length_append, intc_len] at hr
    rw [tailM_eq, hq]
    refine kind4_full hn dm (by walk_at "o") fun z loc _ => ?_
    rw [List.append_assoc]
    exact finx_kind (cj _) (lj _) h
  · refine deed_b hn e3 hzr (by walk_at "o") ?_
    rw [deed_5 hq] at h hr
    dsimp only at h hr
    rw [List.length_append, intc_len] at hr
    rw [tailM_eq, hq]
    refine kind5_full hn dm (by walk_at "o") fun z loc _ => ?_
    rw [List.append_assoc]
    exact finx_kind (cj _) (lj _) h
  · refine deed_b hn e3 hzr (by walk_at "o") ?_
    rw [deed_6 hq] at h hr
    dsimp only at h hr
    rw [lstOf_len] at hr
    rw [tailM_eq, hq]
    refine kind6_full hn dm (by walk_at "o") (fun z loc _ => ?_) ?_ dh.hjb
    · rw [set_app (get_set_self e3), List.set_set, List.append_assoc]
      exact finx_kind (cj _) (lj _) h
    · rw [set_app (get_set_self e3), List.set_set]
      exact (y _).app
end

/-! MInit -/
theorem ok60 (P : Params) : fnOk P 60 [] = true := by kernel_rfl
theorem b60 (P : Params) : bindArgs (fdAt P 60) ⟨[], []⟩ = pure [] := by kernel_rfl
theorem ok67 (P : Params) : fnOk P 67 [] = true := by kernel_rfl
theorem b67 (P : Params) : bindArgs (fdAt P 67) ⟨[], []⟩ = pure [] := by kernel_rfl
theorem ok81 (P : Params) : fnOk P 81 [Str.ofString "self"] = true := by kernel_rfl
theorem b81 (P : Params) (a : Value) : bindArgs (fdAt P 81) ⟨[a], []⟩ = pure [(Str.ofString "self", a)] := by kernel_rfl
def atoms : List Str := [Str.ofString "[]", Str.ofString ".", Str.ofString "{}", Str.ofString "-", Str.ofString "+", Str.ofString "*", Str.ofString "/", Str.ofString ",", Str.ofString "|", Str.ofString ";", Str.ofString "->", Str.ofString "\\+", Str.ofString ":-", Str.ofString "?-", Str.ofString "-->", Str.ofString "!", Str.ofString "true", Str.ofString "fail", Str.ofString "false", Str.ofString "call", Str.ofString "=", Str.ofString "^", Str.ofString "error", Str.ofString "", Str.ofString "end_of_file", Str.ofString "system", Str.ofString "$VAR", Str.ofString "catch", Str.ofString "throw"]
def functs : List (Str × Int) := [(Str.ofString ".", 2), (Str.ofString ",", 2), (Str.ofString ";", 2), (Str.ofString "->", 2), (Str.ofString "\\+", 1), (Str.ofString ":-", 2), (Str.ofString ":-", 1), (Str.ofString "?-", 1), (Str.ofString "-->", 2), (Str.ofString "{}", 1), (Str.ofString "=", 2), (Str.ofString "^", 2), (Str.ofString "-", 1), (Str.ofString "-", 2), (Str.ofString "+", 2), (Str.ofString "/", 2), (Str.ofString "error", 2), (Str.ofString "$VAR", 1), (Str.ofString "catch", 3), (Str.ofString "throw", 1), (Str.ofString "!", 0), (Str.ofString "true", 0), (Str.ofString "fail", 0), (Str.ofString "false", 0), (Str.ofString "call", 1), (Str.ofString "call", 2), (Str.ofString "call", 3), (Str.ofString "call", 4), (Str.ofString "call", 5), (Str.ofString "call", 6), (Str.ofString "call", 7), (Str.ofString "call", 8)]
def fpairs : List (Int × Int) := functs.map fun p => ((atoms.idxOf p.1 : Nat), p.2)
def strOf : PySem.Expr → Option Str
  | .Constant (.str x) _ _ => some x
  | _ => none
def rowOf : PySem.Expr → Option (Str × Int)
  | .Tuple [.Constant (.str x) _ _, .Constant (.int i) _ _] _ _ => some (x, i)
  | _ => none
def rowv (p : Str × Int) : MV := .tup [.str p.1, .int p.2]
section
variable {C : Cfg} {n : Nat} {q : Bool} {σ : List MO} {Q : MV → List MO → Prop} {X : MV → List MO → Prop}
theorem as_strs {f : Addr} {loc : List (Str × MV)} {QS : List MV → List MO → Prop} : ∀ {es : List PySem.Expr} {l : List Str}, es.map strOf = l.map some → QS (l.map .str) σ → ArgsW C f n q es loc σ QS X
  | [], [], _, h => as_nil h
  | [], _ :: _, e, _ => by cases e
  | _ :: _, [], e, _ => by cases e
  | x :: es, y :: l, e, h => by
    rw [List.map_cons, List.map_cons] at e
    injection e with e1 e2
    unfold strOf at e1
    split at e1
    · cases e1
      exact as_cons (ev_str (as_strs (l := l) e2 h))
    · cases e1
theorem as_rows {f : Addr} {loc : List (Str × MV)} {QS : List MV → List MO → Prop} : ∀ {es : List PySem.Expr} {l : List (Str × Int)}, es.map rowOf = l.map some → QS (l.map rowv) σ → ArgsW C f n q es loc σ QS X
  | [], [], _, h => as_nil h
  | [], _ :: _, e, _ => by cases e
  | _ :: _, [], e, _ => by cases e
  | x :: es, y :: l, e, h => by
    rw [List.map_cons, List.map_cons] at e
    injection e with e1 e2
    unfold rowOf at e1
    split at e1
    · cases e1
      exact as_cons (ev_tuple (as_cons (ev_str (as_cons (ev_int (as_nil ⟨by simp, as_rows (l := l) e2 h⟩))))))
    · cases e1
theorem fixed_atoms_ok (hn : n ≤ 20) (h : Q (.tup (atoms.map .str)) σ) : CodeW C n q (.ref 60) [] σ Q X := by
  refine def0 (ok60 _) (b60 _) (by walk_at "o") ?_
  conv in bodyAt _ _ => whnf
  walk_at "m"
  walk_at "m"
  with_reducible refine ev_tuple ?_
  with_reducible refine as_strs (l := atoms) ?_ ?_
  · kernel_rfl
  · refine ⟨?_, ?_⟩
    · rw [List.length_map]; decide
    · exact fin_same (by kernel_rfl) h
theorem fixed_functors_ok (hn : n ≤ 20) (h : Q (.tup (functs.map rowv)) σ) : CodeW C n q (.ref 67) [] σ Q X := by
  refine def0 (ok67 _) (b67 _) (by walk_at "o") ?_
  conv in bodyAt _ _ => whnf
  walk_at "m"
  walk_at "m"
  with_reducible refine ev_tuple ?_
  with_reducible refine as_rows (l := functs) ?_ ?_
  · kernel_rfl
  · refine ⟨?_, ?_⟩
    · rw [List.length_map]; decide
    · exact fin_same (by kernel_rfl) h
end
def txt (i : Nat) : List MV := (atoms.take i).map .str
def anm (i : Nat) : List (Str × MV) := ((atoms.take i).zipIdx).map fun p => (p.1, .int p.2)
def fus (i : Nat) : List MV := (fpairs.take i).map fun p => .tup [.int p.1, .int p.2]
def fnm (i : Nat) : List (List Int × MV) := ((fpairs.take i).zipIdx).map fun p => ([p.1.1, p.1.2], .int p.2)
theorem atoms_len : atoms.length = 29 := by rfl
theorem functs_len : functs.length = 32 := by rfl
theorem fpairs_len : fpairs.length = 32 := by rfl
theorem txt_succ {i : Nat} {a : Str} (e : atoms[i]? = some a) : txt (i + 1) = txt i ++ [.str a] := by
  unfold txt; rw [List.take_add_one, e]; simp
theorem anm_succ {i : Nat} {a : Str} (e : atoms[i]? = some a) : anm (i + 1) = anm i ++ [(a, .int i)] := by
  have hlt := (List.getElem?_eq_some_iff.mp e).1
  unfold anm
  rw [List.take_add_one, e, Option.toList_some, List.zipIdx_append, List.map_append, List.length_take, Nat.min_eq_left (by walk_at "o")]
  simp
theorem fus_succ {i : Nat} {a r : Int} (e : fpairs[i]? = some (a, r)) : fus (i + 1) = fus i ++ [.tup [.int a, .int r]] := by
  unfold fus; rw [List.take_add_one, e]; simp
theorem fnm_succ {i : Nat} {a r : Int} (e : fpairs[i]? = some (a, r)) : fnm (i + 1) = fnm i ++ [([a, r], .int i)] := by
  have hlt := (List.getElem?_eq_some_iff.mp e).1
  unfold fnm
  rw [List.take_add_one, e, Option.toList_some, List.zipIdx_append, List.map_append, List.length_take, Nat.min_eq_left (by walk_at "o")]
  simp
theorem txt_len {i : Nat} (h : i ≤ 29) : (txt i).length = i := by unfold txt; rw [List.length_map, List.length_take, atoms_len]; walk_at "o"
theorem anm_len {i : Nat} (h : i ≤ 29) : (anm i).length = i := by unfold anm; rw [List.length_map, List.length_zipIdx, List.length_take, atoms_len]; walk_at "o"
theorem fus_len {i : Nat} (h : i ≤ 32) : (fus i).length = i := by unfold fus; rw [List.length_map, List.length_take, fpairs_len]; walk_at "o"
theorem fnm_len {i : Nat} (h : i ≤ 32) : (fnm i).length = i := by unfold fnm; rw [List.length_map, List.length_zipIdx, List.length_take, fpairs_len]; walk_at "o"
theorem txt_free (i : Nat) : MV.frees (txt i) = true := by
  unfold txt
  generalize atoms.take i = l
  induction l with
  | nil => rfl
  | cons a r ih => simpa [MV.frees, MV.free] using ih
theorem anm_free (i : Nat) : fldFree (anm i) = true := by
  unfold anm
  generalize (atoms.take i).zipIdx = l
  induction l with
  | nil => rfl
  | cons a r ih => simpa [fldFree, MV.free] using ih
theorem fus_free (i : Nat) : MV.frees (fus i) = true := by
  unfold fus
  generalize fpairs.take i = l
  induction l with
  | nil => rfl
  | cons a r ih => simpa [MV.frees, MV.free] using ih
theorem fnm_free (i : Nat) : fldFree (fnm i) = true := by
  unfold fnm
  generalize (fpairs.take i).zipIdx = l
  induction l with
  | nil => rfl
  | cons a r ih => simpa [fldFree, MV.free] using ih
def chkA (i : Nat) : Bool := match atoms[i]? with
  | some a => ((anm i).lookup a).isNone
  | none => false
def chkF (i : Nat) : Bool := match functs[i]?, fpairs[i]? with
  | some (t, r), some (k, r') => (match (anm 29).lookup t with | some (.int k') => k' == k | _ => false) && decide (0 ≤ k) && r == r' && ((fnm i).lookup [k, r]).isNone
  | _, _ => false
theorem chkA_all : ∀ i, i < 29 → chkA i = true := by decide +kernel
theorem chkF_all : ∀ i, i < 32 → chkF i = true := by decide +kernel
theorem atom_at {i : Nat} (h : i < 29) : ∃ a, atoms[i]? = some a ∧ (anm i).lookup a = none := by
  have := chkA_all i h
  unfold chkA at this
  split at this
  · rename_i a e
    exact ⟨a, e, Option.isNone_iff_eq_none.mp this⟩
  · cases this
theorem funct_at {i : Nat} (h : i < 32) : ∃ t r k, functs[i]? = some (t, r) ∧ fpairs[i]? = some (k, r) ∧ (anm 29).lookup t = some (.int k) ∧ 0 ≤ k ∧ (fnm i).lookup [k, r] = none := by
  have := chkF_all i h
  unfold chkF at this
  split at this
  · rename_i t r k r' e1 e2
    simp only [Bool.and_eq_true, beq_iff_eq, decide_eq_true_eq] at this
    obtain ⟨⟨⟨h1, h2⟩, h3⟩, h4⟩ := this
    subst h3
    split at h1
    · rename_i k' e3
      have : k' = k := by simpa using h1
      subst this
      exact ⟨t, r, k', e1, e2, e3, h2, Option.isNone_iff_eq_none.mp h4⟩
    · cases h1
  · cases this
/-- the symbols' objects with i atoms and m functors -/
def symO (b : Nat) (T : List MV) (AN : List (Str × MV)) (FU : List MV) (FN : List (List Int × MV)) : List MO := [.inst 154 (symF (b + 1) (b + 2) (b + 3) (b + 4)), .list T, .sdict AN, .list FU, .pdict FN]
section
variable {C : Cfg} {n : Nat} {q : Bool} {σ : List MO} {Q : MV → List MO → Prop} {X : MV → List MO → Prop}
theorem getO {z : List MO} {k : Nat} {m : MO} (e : z[k]? = some m) : (σ ++ z)[σ.length + k]? = some m := by rw [List.getElem?_append_right (by walk_at "o")]; simpa using e
theorem setO {z : List MO} {k : Nat} {m : MO} : (σ ++ z).set (σ.length + k) m = σ ++ z.set k m := by rw [List.set_append_right _ _ (by walk_at "o")]; simp
theorem putF_len (x : Str) (m : MV) : ∀ fs : List (Str × MV), (putF x m fs).length ≤ fs.length + 1
  | [] => by simp [putF]
  | p :: r => by
    unfold putF
    split
    · simp
    · simpa using putF_len x m r
theorem putF_lt {x : Str} {m : MV} {fs : List (Str × MV)} {k : Nat} (h : fs.length < k) : (putF x m fs).length < k + 1 := by have := putF_len x m fs; walk_at "o"
theorem make_symbols (hn : n ≤ 10) (h : Q (.obj σ.length) (σ ++ symO σ.length (txt 29) (anm 29) (fus 32) (fnm 32))) : CodeW C n true (.ref 154) [] σ Q X := by
  refine codeW_cls (g := 81) (by kernel_rfl) (by kernel_rfl) (by kernel_rfl) ?_
  refine def1 (ok81 _) (b81 _) (by walk_at "o") ?_
  conv in bodyAt _ _ => whnf
  repeat walk_at "m"
  refine ⟨_, _, _, rfl, get_app get_last, by kernel_rfl, by decide, ?_⟩
  rw [set_app get_last, set_last]
  repeat walk_at "m"
  refine ev_dict_s ?_
  repeat walk_at "m"
  refine ⟨_, _, _, rfl, get_app (get_app get_last), by kernel_rfl, Nat.lt_of_lt_of_le (putF_lt (k := 1) (by decide)) (by decide), ?_⟩
  rw [set_app (get_app get_last), set_app get_last, set_last]
  repeat walk_at "m"
  refine ⟨_, _, _, rfl, get_app (get_app (get_app get_last)), by kernel_rfl, Nat.lt_of_lt_of_le (putF_lt (putF_lt (k := 1) (by decide))) (by decide), ?_⟩
  rw [set_app (get_app (get_app get_last)), set_app (get_app get_last), set_app get_last, set_last]
  repeat walk_at "m"
  refine ev_dict_p ?_
  repeat walk_at "m"
  refine ⟨_, _, _, rfl, get_app (get_app (get_app (get_app get_last))), by kernel_rfl, Nat.lt_of_lt_of_le (putF_lt (putF_lt (putF_lt (k := 1) (by decide)))) (by decide), ?_⟩
  rw [set_app (get_app (get_app (get_app get_last))), set_app (get_app (get_app get_last)), set_app (get_app get_last), set_app get_last, set_last]
  have hM : ∀ fs, fs = symF (σ.length + 1) (σ.length + 2) (σ.length + 3) (σ.length + 4) → σ ++ [MO.inst 154 fs] ++ [MO.list []] ++ [MO.sdict []] ++ [MO.list []] ++ [MO.pdict []] = σ ++ symO σ.length (txt 0) (anm 0) (fus 0) (fnm 0) := by
    rintro fs rfl
    simp [symO, txt, anm, fus, fnm]
  rw [hM _ (by simp [putF, symF] <;> rfl)]
  repeat walk_at "m"
  with_reducible refine x_for_tuple ?hx ?_ ?hs ?hk
  case hx => kernel_rfl
  case hs => (intro _ _; rfl)
  case hk => kernel_rfl
  repeat walk_at "m"
  refine CodeW.call (fixed_atoms_ok (by walk_at "o") ?_)
  refine ⟨_, fun i loc σ' => Sub [(Str.ofString "self", .obj σ.length)] loc ∧ σ' = σ ++ symO σ.length (txt i) (anm i) (fus 0) (fnm 0), rfl, ⟨.refl _, rfl⟩, ?_, ?_⟩
  · rintro i v loc σ' ⟨sb, rfl⟩ hv
    have hi : i < 29 := by
      have := (List.getElem?_eq_some_iff.mp hv).1
      rwa [List.length_map, atoms_len] at this
    obtain ⟨a, ea, na⟩ := atom_at hi
    have : v = .str a := by simpa [ea] using hv.symm
    subst this
    refine ExecsW.sub (sb.cons _) ?_
    have e1 : (σ ++ symO σ.length (txt i) (anm i) (fus 0) (fnm 0))[σ.length]? = some (.inst 154 (symF (σ.length + 1) (σ.length + 2) (σ.length + 3) (σ.length + 4))) := getO (k := 0) rfl
    repeat walk_at "m"
    refine CodeW.call (atom_new (by walk_at "o") e1 (getO (k := 2) rfl) (getO (k := 1) rfl) na (by walk_at "o") (by walk_at "o") (by rw [txt_len (by walk_at "o")]; walk_at "o") (by rw [anm_len (by walk_at "o")]; walk_at "o") (txt_free _) (anm_free _) ?_)
    rw [setO (k := 1), setO (k := 2), txt_len (by walk_at "o")]
    repeat walk_at "m"
    refine ⟨.tail rfl, ?_⟩
    rw [txt_succ ea, anm_succ ea]
    rfl
  · rintro loc σ' ⟨sb, rfl⟩
    rw [List.length_map, atoms_len]
    refine ExecsW.sub sb ?_
    repeat walk_at "m"
    with_reducible refine x_for_tuple ?hx ?_ ?hs ?hk
    case hx => kernel_rfl
    case hs => (intro _ _; rfl)
    case hk => kernel_rfl
    repeat walk_at "m"
    refine CodeW.call (fixed_functors_ok (by walk_at "o") ?_)
    refine ⟨_, fun i loc σ' => Sub [(Str.ofString "self", .obj σ.length)] loc ∧ σ' = σ ++ symO σ.length (txt 29) (anm 29) (fus i) (fnm i), rfl, ⟨.refl _, rfl⟩, ?_, ?_⟩
    · rintro i v loc σ' ⟨sb, rfl⟩ hv
      have hi : i < 32 := by
        have := (List.getElem?_eq_some_iff.mp hv).1
        rwa [List.length_map, functs_len] at this
      obtain ⟨t, r, k, e1, e2, e3, e4, e5⟩ := funct_at hi
      have : v = .tup [.str t, .int r] := by simpa [e1, rowv] using hv.symm
      subst this
      refine ExecsW.sub (sb.cons _) ?_
      have eY : (σ ++ symO σ.length (txt 29) (anm 29) (fus i) (fnm i))[σ.length]? = some (.inst 154 (symF (σ.length + 1) (σ.length + 2) (σ.length + 3) (σ.length + 4))) := getO (k := 0) rfl
      repeat walk_at "m"
      refine ⟨_, _, rfl, .tup (by decide) rfl (by show 2 < _; walk_at "o"), ?_⟩
      repeat walk_at "m"
      refine ⟨_, _, rfl, .tup (by decide) rfl (by show 2 < _; walk_at "o"), ?_⟩
      repeat walk_at "m"
      refine CodeW.call (func_of (by walk_at "o") eY ?_)
      refine atom_known (by walk_at "o") eY (getO (k := 2) rfl) e3 e4 ?_
      refine functor_new (by walk_at "o") eY (getO (k := 4) rfl) (getO (k := 3) rfl) e5 (by walk_at "o") (by walk_at "o") (by rw [fus_len (by walk_at "o")]; walk_at "o") (by rw [fnm_len (by walk_at "o")]; walk_at "o") (fus_free _) (fnm_free _) ?_
      refine ⟨rfl, ((Chg.refl _).set (mo := .list _) (frees_app (fus_free _) rfl)).set (mo := .pdict _) (fldFree_app (fnm_free _) rfl), by simp, ?_⟩
      rw [setO (k := 3), setO (k := 4), fus_len (by walk_at "o")]
      repeat walk_at "m"
      refine ⟨.tail rfl, ?_⟩
      rw [fus_succ e2, fnm_succ e2]
      rfl
    · rintro loc σ' ⟨sb, rfl⟩
      rw [List.length_map, functs_len]
      refine xs_nil ?_
      refine ⟨σ.length + 5, ⟨by simp, fun i mo hi e => ?_⟩, rfl, rfl, by rw [List.take_of_length_le (by simp [symO])]; exact h⟩
      by_cases hl : i < σ.length
      · rw [List.getElem?_append_left hl] at e
        exact .inl ⟨by simp; walk_at "o", by rw [List.getElem?_append_left hl]; exact e⟩
      · rw [List.getElem?_append_right (by walk_at "o")] at e
        have hm := List.mem_of_getElem? e
        simp only [symO, List.mem_cons, List.not_mem_nil, or_false] at hm
        refine .inr ?_
        rcases hm with rfl | rfl | rfl | rfl | rfl
        · simp [MO.under, symF, fldUnder, MV.under, Nat.blt_eq]
        · exact MO.free_under (txt_free _)
        · exact MO.free_under (anm_free _)
        · exact MO.free_under (fus_free _)
        · exact MO.free_under (fnm_free _)
/-- Cells.__init__, Store(symbols, room) -/
theorem ok194 (P : Params) : fnOk P 194 [Str.ofString "self", Str.ofString "symbols", Str.ofString "max_heap"] = true := by kernel_rfl
theorem binds194 {P : Params} {s : Shared} (X : (kf P).In s.heap) (a b c : Value) : BindsTo s (fdAt P 194) ⟨[a, b, c], []⟩ [(Str.ofString "self", a), (Str.ofString "symbols", b), (Str.ofString "max_heap", c)] := by
  have ho : (kf P).lookup 187 = some ⟨.type "tuple", none, .seq #[.int 100000 442] 0, #[]⟩ := by kernel_rfl
  conv in fdAt P 194 => whnf
  exact binds_K (T := 187) X rfl ho rfl rfl rfl
def stoO (b Y : Nat) (room : Int) (xs : List MV) : List MO := [.inst 373 (storeF Y room (b + 1) (b + 2) (b + 3)), .list xs, .list [], .list []]
theorem make_store {Y : Nat} {room : Int} (hn : n ≤ 10) (hY : Y < σ.length) (h : Q (.obj σ.length) (σ ++ stoO σ.length Y room [])) : CodeW C n true (.ref 373) [.obj Y, .int room] σ Q X := by
  refine codeW_cls (g := 194) (by kernel_rfl) (by kernel_rfl) (by kernel_rfl) ?_
  refine codeW_def (ns := [Str.ofString "self", Str.ofString "symbols", Str.ofString "max_heap"]) (dv := []) (dm := []) (ok194 _) (fun s vs X hl => by
    obtain ⟨u, v, w, rfl⟩ := len3 hl
    exact binds194 X u v w) (fun _ _ => .nil) (by walk_at "o") ?_
  conv in bodyAt _ _ => whnf
  repeat walk_at "m"
  refine ⟨_, _, _, rfl, get_last, by kernel_rfl, by decide, ?_⟩
  rw [set_last]
  repeat walk_at "m"
  refine ⟨_, _, _, rfl, get_last, by kernel_rfl, Nat.lt_of_lt_of_le (putF_lt (k := 1) (by decide)) (by decide), ?_⟩
  rw [set_last]
  repeat walk_at "m"
  refine ⟨_, _, _, rfl, get_app get_last, by kernel_rfl, Nat.lt_of_lt_of_le (putF_lt (putF_lt (k := 1) (by decide))) (by decide), ?_⟩
  rw [set_app get_last, set_last]
  repeat walk_at "m"
  refine ⟨_, _, _, rfl, get_app (get_app get_last), by kernel_rfl, Nat.lt_of_lt_of_le (putF_lt (putF_lt (putF_lt (k := 1) (by decide)))) (by decide), ?_⟩
  rw [set_app (get_app get_last), set_app get_last, set_last]
  repeat walk_at "m"
  refine ⟨_, _, _, rfl, get_app (get_app (get_app get_last)), by kernel_rfl, Nat.lt_of_lt_of_le (putF_lt (putF_lt (putF_lt (putF_lt (k := 1) (by decide))))) (by decide), ?_⟩
  rw [set_app (get_app (get_app get_last)), set_app (get_app get_last), set_app get_last, set_last]
  repeat walk_at "m"
  refine ⟨_, _, _, rfl, get_app (get_app (get_app get_last)), by kernel_rfl, Nat.lt_of_lt_of_le (putF_lt (putF_lt (putF_lt (putF_lt (putF_lt (k := 1) (by decide)))))) (by decide), ?_⟩
  rw [set_app (get_app (get_app get_last)), set_app (get_app get_last), set_app get_last, set_last]
  repeat walk_at "m"
  refine ⟨_, _, _, rfl, get_app (get_app (get_app get_last)), by kernel_rfl, Nat.lt_of_lt_of_le (putF_lt (putF_lt (putF_lt (putF_lt (putF_lt (putF_lt (k := 1) (by decide))))))) (by decide), ?_⟩
  rw [set_app (get_app (get_app get_last)), set_app (get_app get_last), set_app get_last, set_last]
  have hM : ∀ fs, fs = storeF Y room (σ.length + 1) (σ.length + 2) (σ.length + 3) → σ ++ [MO.inst 373 fs] ++ [MO.list []] ++ [MO.list []] ++ [MO.list []] = σ ++ stoO σ.length Y room [] := by
    rintro fs rfl
    simp [stoO]
  rw [hM _ (by simp [putF, storeF] <;> rfl)]
  repeat walk_at "m"
  refine ⟨σ.length + 4, ⟨by simp, fun i mo hi e => ?_⟩, rfl, rfl, by rw [List.take_of_length_le (by simp [stoO])]; exact h⟩
  by_cases hl : i < σ.length
  · rw [List.getElem?_append_left hl] at e
    exact .inl ⟨by simp; walk_at "o", by rw [List.getElem?_append_left hl]; exact e⟩
  · rw [List.getElem?_append_right (by walk_at "o")] at e
    have hm := List.mem_of_getElem? e
    simp only [stoO, List.mem_cons, List.not_mem_nil, or_false] at hm
    refine .inr ?_
    rcases hm with rfl | rfl | rfl | rfl
    · simp [MO.under, storeF, fldUnder, MV.under, Nat.blt_eq]; walk_at "o"
    · rfl
    · rfl
    · rfl
end

/-! MLaw0 -/
section
variable {C : Cfg} {f : Addr} {n : Nat} {q : Bool} {loc : List (Str × MV)} {σ : List MO} {Q : MV → List MO → Prop} {X : MV → List MO → Prop} {QF : MF → List (Str × MV) → List MO → Prop} {XF : MV → List (Str × MV) → List MO → Prop} {i : Nat}
/-- x, y, z = triple -/
theorem x_triple {x y w : Str} {px py pw tpos pos : Pos} {k : Nat} {value : PySem.Expr} (hx : (fdAt C.w.params f).scope.names.lookup x = some .local) (hy : (fdAt C.w.params f).scope.names.lookup y = some .local) (hz : (fdAt C.w.params f).scope.names.lookup w = some .local)
    (h : EvalW C f n true value loc σ (fun mv σ₁ => ∃ a b c, mv = .tup [a, b, c] ∧ QF .next ((w, c) :: (y, b) :: (x, a) :: loc) σ₁) (fun b σ₁ => XF b loc σ₁))
    (hs : ∀ env, swapsWithSole [.Tuple [.Name x px, .Name y py, .Name w pw] k tpos] value pos.line env = pure false := by intro _; rfl)
    (hw : ∀ env, swappedStores [.Tuple [.Name x px, .Name y py, .Name w pw] k tpos] value env = pure none := by intro _; rfl)
    (hk : (fdAt C.w.params f).scope.kind = .function := by kernel_rfl) : ExecW C f n true (.Assign [.Tuple [.Name x px, .Name y py, .Name w pw] k tpos] value pos) loc σ QF XF := by
  intro A fs L s ρ hA ok m l
  refine Assign_Tuple (wpAny_mono (seq2 h hA ok m l fun v s₁ mv σ₁ ρ₁ r m₁ l₁ st₁ ⟨a, b, c, e1, hq⟩ => ?_) (fun _ _ x => x) fun _ _ p => p.toF l) (hs _) (hw _)
  subst e1
  cases r with
  | tup it rs =>
    cases rs with
    | cons ra rs =>
      cases rs with
      | cons rb rs =>
        cases rs with
        | cons rc rs =>
          cases rs
          rename_i t va vb vc
          show wpAny _ _ (do standAt tpos; unpack (.ref t) (assignEach [.Name x px, .Name y py, .Name w pw] (envAt C.w.params f L))) _ _ _
          refine wpAny_bind (wpAny_standAt ?_)
          refine unpack_tuple (ok.handled rfl) it (by rfl) (by rfl) fun h' ex => ?_
          have kp : ∀ b o, s₁.heap.get? b = some o → h'.get? b = some o := fun b o e => ex b o (Nat.ne_of_lt (Heap.lt_size e)) e
          have m₂ := m₁.keeps (d := s₁.drawn) (t := s₁.toks) kp rfl rfl
          have l₂ := l₁.keeps kp
          have tg : TG s₁.heap h' ρ₁ ρ₁ := tg_keeps kp _
          refine wpAny_assignInOrder_more (wpAny_assign_Name (stored_name (s := { s₁ with heap := h' }) hx hk m₂ l₂ (ra.mono tg) fun s₃ m₃ l₃ st₃ => ?_))
          refine wpAny_assignInOrder_more (wpAny_assign_Name (stored_name hy hk m₃ l₃ ((rb.mono tg).mono st₃.tg) fun s₄ m₄ l₄ st₄ => ?_))
          refine wpAny_assignInOrder_more (wpAny_assign_Name (stored_name hz hk m₄ l₄ (((rc.mono tg).mono st₃.tg).mono st₄.tg) fun s₅ m₅ l₅ st₅ => ?_))
          refine wpAny_assignInOrder_none ?_
          exact ⟨.next, _, σ₁, ρ₁, .next, m₅, l₅, ((((st₁.mono (by simp)).trans (Step.keeps (s := s₁) kp _ _ _)).trans st₃).trans st₄).trans st₅, hq⟩
end

/-- a list of cells -/
def isCell : MV → Bool
  | .tup [.int _, .int _] => true
  | _ => false
def cellsOk : List MV → Bool
  | [] => true
  | v :: r => isCell v && cellsOk r
theorem isCell_is {v : MV} (h : isCell v = true) : ∃ a b, v = cellv a b := by
  unfold isCell at h
  split at h
  · exact ⟨_, _, rfl⟩
  · cases h
theorem cells_app {xs ys : List MV} (h : cellsOk xs = true) (g : cellsOk ys = true) : cellsOk (xs ++ ys) = true := by
  induction xs with
  | nil => exact g
  | cons x r ih =>
    have f' : isCell x = true ∧ cellsOk r = true := by simpa [cellsOk] using h
    simp [cellsOk, f'.1, ih f'.2]
theorem cells_take {xs : List MV} (f : cellsOk xs = true) : ∀ k, cellsOk (xs.take k) = true := by
  induction xs with
  | nil => intro k; simp [cellsOk]
  | cons x r ih =>
    intro k
    have f' : isCell x = true ∧ cellsOk r = true := by simpa [cellsOk] using f
    cases k with
    | zero => simp [cellsOk]
    | succ k => simp [cellsOk, f'.1, ih f'.2 k]
theorem cells_set {xs : List MV} {v : MV} (f : cellsOk xs = true) (g : isCell v = true) : ∀ k, cellsOk (xs.set k v) = true := by
  induction xs with
  | nil => intro k; simp [cellsOk]
  | cons x r ih =>
    intro k
    have f' : isCell x = true ∧ cellsOk r = true := by simpa [cellsOk] using f
    cases k with
    | zero => simp [cellsOk, g, f'.2]
    | succ k => simp [cellsOk, f'.1, ih f'.2 k]
theorem cells_flats {xs : List MV} (h : cellsOk xs = true) : MV.flats xs = true := by
  induction xs with
  | nil => rfl
  | cons x r ih =>
    have f' : isCell x = true ∧ cellsOk r = true := by simpa [cellsOk] using h
    obtain ⟨a, b, rfl⟩ := isCell_is f'.1
    rw [MV.flats, ih f'.2]; rfl
theorem cells_frees {xs : List MV} (h : cellsOk xs = true) : MV.frees xs = true := by
  induction xs with
  | nil => rfl
  | cons x r ih =>
    have f' : isCell x = true ∧ cellsOk r = true := by simpa [cellsOk] using h
    obtain ⟨a, b, rfl⟩ := isCell_is f'.1
    rw [MV.frees, ih f'.2]; rfl
theorem cells_depth {xs : List MV} (h : cellsOk xs = true) : PyData.depthAll (MV.pys xs) ≤ 1 := by
  induction xs with
  | nil => simp [MV.pys, PyData.depthAll]
  | cons x r ih =>
    have f' : isCell x = true ∧ cellsOk r = true := by simpa [cellsOk] using h
    obtain ⟨a, b, rfl⟩ := isCell_is f'.1
    have := ih f'.2
    simp [MV.pys, PyData.depthAll, cellv, MV.py, PyData.depth]
    walk_at "o"
theorem list_depth {xs : List MV} (h : cellsOk xs = true) (d : PyData) : min (PyData.list (MV.pys xs)).depth d.depth ≤ 50 := by
  have := cells_depth h
  simp only [PyData.depth]
  walk_at "o"
theorem cells_eqv {xs : List MV} (h : cellsOk xs = true) : PyData.eqv (.list (MV.pys xs)) (.list (MV.pys xs)) = true := PySem.SeqAt.eqv_refl _ (by
  have := MV.canLays (cells_flats h)
  simpa [PyData.canLay0] using this)
theorem unb_cells (a : Int) (k : Nat) : cellsOk (unb a k) = true := by
  induction k with
  | zero => rfl
  | succ k ih => rw [unb_succ]; exact cells_app ih rfl
theorem intc_cells (k : Nat) : cellsOk (intc k) = true := by
  induction k with
  | zero => rfl
  | succ k ih => rw [intc_succ]; exact cells_app ih rfl
theorem pairs_cells (a : Int) (k : Nat) : cellsOk (pairs a k) = true := by
  induction k with
  | zero => rfl
  | succ k ih => rw [pairs_succ]; exact cells_app ih rfl
theorem pre_cells (f : Nat) : cellsOk (preOf f) = true := by unfold preOf; split <;> rfl
theorem endC_cell (b : Nat) : isCell (endC b) = true := by unfold endC; split <;> rfl
/-- what a deed tells: an integer or a cell -/
def isTold : MV → Bool
  | .int _ => true
  | v => isCell v
theorem told_flat {v : MV} (h : isTold v = true) : v.flat = true ∧ v.py.depth ≤ 1 ∧ v.isBox = false ∧ PyData.eqv v.py v.py = true := by
  have hf : v.flat = true ∧ v.py.depth ≤ 1 ∧ v.isBox = false := by
    unfold isTold at h
    split at h
    · exact ⟨rfl, by simp [MV.py, PyData.depth], rfl⟩
    · obtain ⟨a, b, rfl⟩ := isCell_is h
      exact ⟨rfl, by simp [cellv, MV.pys, MV.py, PyData.depth, PyData.depthAll], rfl⟩
  exact ⟨hf.1, hf.2.1, hf.2.2, PySem.SeqAt.eqv_refl _ (MV.canLay hf.1)⟩
theorem deed_facts (r : List Nat) (len : Nat) : isTold (deed r len).1 = true ∧ cellsOk (deed r len).2.1 = true ∧ (deed r len).2.1.length ≤ 6 ∧ (deed r len).2.2.length ≤ r.length := by
  have h7 : nxt r % 7 = 0 ∨ nxt r % 7 = 1 ∨ nxt r % 7 = 2 ∨ nxt r % 7 = 3 ∨ nxt r % 7 = 4 ∨ nxt r % 7 = 5 ∨ nxt r % 7 = 6 := by walk_at "o"
  have w3 := wide3 (nxt r.dropLast % 4)
  have p1 := pre_len (fnOfN (nxt r.dropLast % 4))
  rcases h7 with hq | hq | hq | hq | hq | hq | hq
  · rw [deed_0 hq]; exact ⟨rfl, rfl, by simp, by simp⟩
  · rw [deed_1 hq]; exact ⟨rfl, rfl, by simp, by simp⟩
  · rw [deed_2 hq]; exact ⟨rfl, unb_cells _ _, by rw [unb_len]; walk_at "o", by simp; walk_at "o"⟩
  · rw [deed_3 hq]; exact ⟨rfl, cells_app (pre_cells _) (unb_cells _ _), by rw [List.length_append, unb_len]; walk_at "o", by simp; walk_at "o"⟩
  · rw [deed_4 hq]; exact ⟨rfl, cells_app (pre_cells _) (intc_cells _), by rw [List.length_append, intc_len]; walk_at "o", by simp; walk_at "o"⟩
  · rw [deed_5 hq]; exact ⟨rfl, cells_app (pre_cells _) (intc_cells _), by rw [List.length_append, intc_len]; walk_at "o", by simp; walk_at "o"⟩
  · rw [deed_6 hq]; exact ⟨rfl, cells_set (pairs_cells _ _) (endC_cell _) _, by rw [lstOf_len]; walk_at "o", by simp; walk_at "o"⟩

/-! the memory of the law: what stands at its head -/
def tx31 : List MV := txt 29 ++ [.str (Str.ofString "resource_error")] ++ [.str (Str.ofString "memory")]
def an31 : List (Str × MV) := anm 29 ++ [(Str.ofString "resource_error", .int 29)] ++ [(Str.ofString "memory", .int 30)]
def fu33 : List MV := fus 32 ++ [.tup [.int 29, .int 1]]
def fn33 : List (List Int × MV) := fnm 32 ++ [([29, 1], .int 32)]
def core (a0 a1 a2 : MO) (r : List Nat) (room : Int) (xs ys : List MV) (z : List MO) : List MO :=
  a0 :: a1 :: a2 :: .list (nums r) :: .inst 154 (symF 5 6 7 8) :: .list tx31 :: .sdict an31 :: .list fu33 :: .pdict fn33 :: .inst 373 (storeF 4 room 10 11 12) :: .list xs :: .list [] :: .list [] :: .inst 373 (storeF 4 1000 14 15 16) :: .list ys :: .list [] :: .list [] :: z
section
variable {a0 a1 a2 : MO} {r : List Nat} {room : Int} {xs ys : List MV} {z : List MO}
theorem core_sym : IsSym (core a0 a1 a2 r room xs ys z) 4 30 32 fu33 :=
  ⟨5, 6, 7, 8, an31, fn33, 29, rfl, rfl, rfl, rfl, by kernel_rfl, by decide, by kernel_rfl, by decide, by kernel_rfl, by decide⟩
theorem core_app {z' : List MO} : core a0 a1 a2 r room xs ys z ++ z' = core a0 a1 a2 r room xs ys (z ++ z') := rfl
theorem core_len : (core a0 a1 a2 r room xs ys z).length = 17 + z.length := by simp [core]; walk_at "o"
theorem core_row {r' : List Nat} : (core a0 a1 a2 r room xs ys z).set 3 (.list (nums r')) = core a0 a1 a2 r' room xs ys z := rfl
theorem core_heap {xs' : List MV} : (core a0 a1 a2 r room xs ys z).set 10 (.list xs') = core a0 a1 a2 r room xs' ys z := rfl
theorem core_wide {ys' : List MV} : (core a0 a1 a2 r room xs ys z).set 14 (.list ys') = core a0 a1 a2 r room xs ys' z := rfl
theorem core_get {k : Nat} {m : MO} (e : z[k]? = some m) : (core a0 a1 a2 r room xs ys z)[17 + k]? = some m := by
  rw [Nat.add_comm]; exact e
theorem core_put {k : Nat} {m : MO} : (core a0 a1 a2 r room xs ys z).set (17 + k) m = core a0 a1 a2 r room xs ys (z.set k m) := by
  rw [Nat.add_comm]; rfl
theorem core_3 : (core a0 a1 a2 r room xs ys z)[3]? = some (.list (nums r)) := rfl
theorem core_9 : (core a0 a1 a2 r room xs ys z)[9]? = some (.inst 373 (storeF 4 room 10 11 12)) := rfl
theorem core_10 : (core a0 a1 a2 r room xs ys z)[10]? = some (.list xs) := rfl
theorem core_11 : (core a0 a1 a2 r room xs ys z)[11]? = some (.list []) := rfl
theorem core_12 : (core a0 a1 a2 r room xs ys z)[12]? = some (.list []) := rfl
theorem core_13 : (core a0 a1 a2 r room xs ys z)[13]? = some (.inst 373 (storeF 4 1000 14 15 16)) := rfl
theorem core_14 : (core a0 a1 a2 r room xs ys z)[14]? = some (.list ys) := rfl
end
def funOk (k : Nat) : Bool := match fu33[fnOfN k]? with
  | some (.tup [.int _, .int w]) => w == (wideN k : Int)
  | _ => false
theorem fun33 (k : Nat) : Fun fu33 (fnOfN k) (wideN k) := by
  have key : ∀ k, k < 3 → funOk k = true ∧ fnOfN k ≠ 0 := by decide +kernel
  by_cases h : k < 3
  · obtain ⟨h1, h2⟩ := key k h
    refine .inr ⟨h2, ?_⟩
    unfold funOk at h1
    split at h1
    · rename_i a w e
      exact ⟨.int a, by rw [e, beq_iff_eq.mp h1]⟩
    · cases h1
  · refine .inl ?_
    match k, h with
    | k + 3, _ => exact ⟨rfl, rfl⟩
theorem fu33_len : fu33.length ≤ 1000 := by unfold fu33; rw [List.length_append, fus_len (by walk_at "o")]; decide

/-! MLaw1 -/
noncomputable def loopB (P : Params) : List Stmt := match (bodyAt P 401)[6]? with
  | some (Stmt.For _ _ b _ _) => b
  | _ => []
def base (room : Nat) : List (Str × MV) := [(Str.ofString "row", .obj 3), (Str.ofString "signs", .obj 4), (Str.ofString "room", .int room), (Str.ofString "store", .obj 9), (Str.ofString "wide", .obj 13), (Str.ofString "fault", fault 30 32)]
section
variable {C : Cfg} {QF : MF → List (Str × MV) → List MO → Prop} {XF : MV → List (Str × MV) → List MO → Prop} {a0 a1 a2 : MO} {r : List Nat} {room : Nat} {xs : List MV} {z : List MO}
theorem turn_b (hroom : room ≤ 30) (hr : r.length ≤ 120) (hx : cellsOk xs = true) (hl : xs.length ≤ room)
   (h : ∀ mf loc' r' xs' z', (mf = .next ∨ mf = .cont) → r'.length ≤ 120 → cellsOk xs' = true → xs'.length ≤ room → Sub (base room) loc' → QF mf loc' (core a0 a1 a2 r' room xs' xs' z')) :
   ExecsW C 401 1 true ((loopB C.w.params).drop 1) (base room) (core a0 a1 a2 r room xs xs z) QF XF := by
  conv in List.drop _ _ => whnf
  unfold base
  have c9 := core_9 (a0 := a0) (a1 := a1) (a2 := a2) (r := r) (room := room) (xs := xs) (ys := xs) (z := z)
  have c10 := core_10 (a0 := a0) (a1 := a1) (a2 := a2) (r := r) (room := room) (xs := xs) (ys := xs) (z := z)
  repeat walk_at "m"
  refine call_list_copy c10 (by walk_at "o") ?_
  rw [core_app, core_len]
  repeat walk_at "m"
  refine call_list_copy core_3 (by rw [nums_len]; walk_at "o") ?_
  rw [core_app, core_len]
  repeat walk_at "m"
  refine x_triple (by kernel_rfl) (by kernel_rfl) (by kernel_rfl) ?_ (by intro _; rfl) (by intro _; rfl) (by kernel_rfl)
  repeat walk_at "m"
  refine CodeW.call (deed_fits (S := 13) (H := 14) (room := 1000) (by walk_at "o") core_13 core_14 (core_get get_last) ?_ (by walk_at "o") (by walk_at "o") (cells_frees hx) (by walk_at "o") (by walk_at "o") (by walk_at "o") (fun r' => by rw [core_put]; exact core_sym) fu33_len fun33 fun z2 L hL => ?_)
  · have := (deed_facts r xs.length).2.2.1
    walk_at "o"
  obtain ⟨f1, f2, f3, f4⟩ := deed_facts r xs.length
  rw [core_put, core_wide, set_last, core_app] at hL ⊢
  generalize hD : deed r xs.length = D at *
  obtain ⟨v, cs, r'⟩ := D
  dsimp only at *
  obtain ⟨tf, td, tb, te⟩ := told_flat f1
  have hh : (z ++ [MO.list xs] ++ [MO.list (nums r')] ++ z2)[z.length]? = some (.list xs) := get_app (get_app get_last)
  generalize z ++ [MO.list xs] ++ [MO.list (nums r')] ++ z2 = Z at *
  generalize (z ++ [MO.list xs]).length = k2 at *
  generalize z.length = k at *
  have hcs := cells_app hx f2
  refine ⟨_, _, _, rfl, ?_⟩
  have c13 := core_13 (a0 := a0) (a1 := a1) (a2 := a2) (r := r) (room := room) (xs := xs) (ys := xs ++ cs) (z := Z)
  have c14 := core_14 (a0 := a0) (a1 := a1) (a2 := a2) (r := r) (room := room) (xs := xs) (ys := xs ++ cs) (z := Z)
  repeat walk_at "m"
  refine ev_local (mv := v) (by kernel_rfl) rfl ?_ tb (by kernel_rfl) (by decide +kernel)
  refine ev_local (mv := v) (by kernel_rfl) rfl ?_ tb (by kernel_rfl) (by decide +kernel)
  refine cmp_ne_data (.flat tf) (.flat tf) (by walk_at "o") (by walk_at "o") ?_
  rw [te]
  repeat walk_at "m"
  rw [if_neg (by decide)]
  repeat walk_at "m"
  refine op_add_list (core_get hh) hL (by walk_at "o") ?_
  refine cmp_ne_data (.list (get_app c14) (cells_flats hcs)) (.list get_last (cells_flats hcs)) (list_depth hcs _) (by walk_at "o") ?_
  rw [cells_eqv hcs]
  repeat walk_at "m"
  rw [if_neg (by decide)]
  repeat walk_at "m"
  rw [if_neg (by decide)]
  repeat walk_at "m"
  rw [core_app]
  have hh' : (Z ++ [MO.list (xs ++ cs)])[k]? = some (.list xs) := get_app hh
  generalize Z ++ [MO.list (xs ++ cs)] = Z' at *
  clear c9 c10 c13 c14 hL
  refine x_try (by kernel_rfl) (by kernel_rfl) (by kernel_rfl) ?_ (by kernel_rfl) (by decide +kernel)
  by_cases hfit : xs.length + cs.length ≤ room
  · repeat walk_at "m"
    refine CodeW.call (deed_fits (S := 9) (H := 10) (room := room) (by walk_at "o") core_9 core_10 core_3 ?_ (by walk_at "o") (by walk_at "o") (cells_frees hx) (by walk_at "o") (by walk_at "o") (by walk_at "o") (fun r' => by rw [core_row]; exact core_sym) fu33_len fun33 fun z3 L' hL' => ?_)
    · rw [hD]; dsimp only; walk_at "o"
    rw [hD] at hL' ⊢
    dsimp only at hL' ⊢
    rw [core_row, core_heap, core_app] at hL' ⊢
    repeat walk_at "m"
    refine ⟨_, _, rfl, .tup (by decide) rfl (by show 3 < _; walk_at "o"), ?_⟩
    have c9 := core_9 (a0 := a0) (a1 := a1) (a2 := a2) (r := r') (room := room) (xs := xs ++ cs) (ys := xs ++ cs) (z := Z' ++ z3)
    have c10 := core_10 (a0 := a0) (a1 := a1) (a2 := a2) (r := r') (room := room) (xs := xs ++ cs) (ys := xs ++ cs) (z := Z' ++ z3)
    have c13 := core_13 (a0 := a0) (a1 := a1) (a2 := a2) (r := r') (room := room) (xs := xs ++ cs) (ys := xs ++ cs) (z := Z' ++ z3)
    have c14 := core_14 (a0 := a0) (a1 := a1) (a2 := a2) (r := r') (room := room) (xs := xs ++ cs) (ys := xs ++ cs) (z := Z' ++ z3)
    repeat walk_at "m"
    refine ev_local (mv := v) (by kernel_rfl) rfl ?_ tb (by kernel_rfl) (by decide +kernel)
    refine ev_local (mv := v) (by kernel_rfl) rfl ?_ tb (by kernel_rfl) (by decide +kernel)
    refine cmp_ne_data (.flat tf) (.flat tf) (by walk_at "o") (by walk_at "o") ?_
    rw [te]
    repeat walk_at "m"
    rw [if_neg (by decide)]
    repeat walk_at "m"
    refine call_len c14 (by rw [List.length_append]; walk_at "o") ?_
    repeat walk_at "m"
    rw [decide_eq_false (by rw [List.length_append]; walk_at "o"), if_neg (by decide)]
    repeat walk_at "m"
    refine cmp_ne_data (.list c10 (cells_flats hcs)) (.list c14 (cells_flats hcs)) (list_depth hcs _) (by walk_at "o") ?_
    rw [cells_eqv hcs]
    repeat walk_at "m"
    rw [if_neg (by decide)]
    repeat walk_at "m"
    rw [if_neg (by decide)]
    repeat walk_at "m"
    refine h .next _ r' (xs ++ cs) _ (.inl rfl) (by walk_at "o") hcs (by rw [List.length_append]; walk_at "o") ?_
    unfold base
    repeat refine Sub.one rfl ?_
    exact Sub.nil
  · repeat walk_at "m"
    refine CodeW.call (deed_full (S := 9) (H := 10) (room := room) (by walk_at "o") core_9 core_10 core_3 ?_ (by walk_at "o") (by walk_at "o") (cells_frees hx) (by walk_at "o") (by walk_at "o") (by walk_at "o") (fun r' => by rw [core_row]; exact core_sym) fu33_len fun33 ?_)
    · rw [hD]; dsimp only; walk_at "o"
    rw [hD]
    dsimp only
    rw [core_row, core_len, core_app]
    walk_at "m"
    walk_at "m"
    walk_at "m"
    walk_at "m"
    walk_at "m"
    refine ev_ball (excK _) ?_ (by intro _; with_unfolding_all rfl)
    repeat walk_at "m"
    refine ⟨_, false, fault 30 32, rfl, core_get get_last, (fun u e => by cases e), ?_⟩
    have c9 := core_9 (a0 := a0) (a1 := a1) (a2 := a2) (r := r') (room := room) (xs := xs) (ys := xs ++ cs) (z := Z' ++ [MO.exc 51 false [(ballS, fault 30 32)]])
    have c10 := core_10 (a0 := a0) (a1 := a1) (a2 := a2) (r := r') (room := room) (xs := xs) (ys := xs ++ cs) (z := Z' ++ [MO.exc 51 false [(ballS, fault 30 32)]])
    have c13 := core_13 (a0 := a0) (a1 := a1) (a2 := a2) (r := r') (room := room) (xs := xs) (ys := xs ++ cs) (z := Z' ++ [MO.exc 51 false [(ballS, fault 30 32)]])
    have c14 := core_14 (a0 := a0) (a1 := a1) (a2 := a2) (r := r') (room := room) (xs := xs) (ys := xs ++ cs) (z := Z' ++ [MO.exc 51 false [(ballS, fault 30 32)]])
    have ch : (core a0 a1 a2 r' room xs (xs ++ cs) (Z' ++ [MO.exc 51 false [(ballS, fault 30 32)]]))[17 + k]? = some (.list xs) := core_get (get_app hh')
    generalize Z' ++ [MO.exc 51 false [(ballS, fault 30 32)]] = Z2 at *
    repeat walk_at "m"
    refine cmp_ne_data (.flat (by decide +kernel)) (.flat (by decide +kernel)) (by decide +kernel) (by walk_at "o") ?_
    rw [show PyData.eqv (fault 30 32).py (fault 30 32).py = true by decide +kernel]
    repeat walk_at "m"
    rw [if_neg (by decide)]
    repeat walk_at "m"
    refine call_len c14 (by rw [List.length_append]; walk_at "o") ?_
    repeat walk_at "m"
    rw [decide_eq_false (by rw [List.length_append]; walk_at "o"), if_neg (by decide)]
    repeat walk_at "m"
    refine cmp_ne_data (.list c10 (cells_flats hx)) (.list ch (cells_flats hx)) (list_depth hx _) (by walk_at "o") ?_
    rw [cells_eqv hx]
    repeat walk_at "m"
    rw [if_neg (by decide)]
    repeat walk_at "m"
    rw [if_neg (by decide)]
    repeat walk_at "m"
    refine call_len ch (by walk_at "o") ?_
    repeat walk_at "m"
    refine CodeW.call (trim_ok (k := xs.length) (by walk_at "o") c13 c14 (by rw [List.length_append]; walk_at "o") (by rw [List.length_append]; walk_at "o") (cells_frees hcs) ?_)
    rw [core_wide, List.take_left' rfl]
    repeat walk_at "m"
    refine ⟨base room, ?_, by kernel_rfl, h .cont _ r' xs _ (.inr rfl) (by walk_at "o") hx hl (.refl _)⟩
    unfold base
    repeat refine Sub.one rfl ?_
    exact Sub.nil
end

/-! MLaw2 -/
def corT (a0 a1 a2 : MO) (r : List Nat) (room : Int) (T : List MV) (AN : List (Str × MV)) (FU : List MV) (FN : List (List Int × MV)) : List MO :=
  [a0, a1, a2, .list (nums r), .inst 154 (symF 5 6 7 8), .list T, .sdict AN, .list FU, .pdict FN, .inst 373 (storeF 4 room 10 11 12), .list [], .list [], .list [], .inst 373 (storeF 4 1000 14 15 16), .list [], .list [], .list []]
section
variable {a0 a1 a2 : MO} {r : List Nat} {room : Int} {T T' : List MV} {AN AN' : List (Str × MV)} {FU FU' : List MV} {FN FN' : List (List Int × MV)}
theorem corT_4 : (corT a0 a1 a2 r room T AN FU FN)[4]? = some (.inst 154 (symF 5 6 7 8)) := rfl
theorem corT_5 : (corT a0 a1 a2 r room T AN FU FN)[5]? = some (.list T) := rfl
theorem corT_6 : (corT a0 a1 a2 r room T AN FU FN)[6]? = some (.sdict AN) := rfl
theorem corT_7 : (corT a0 a1 a2 r room T AN FU FN)[7]? = some (.list FU) := rfl
theorem corT_8 : (corT a0 a1 a2 r room T AN FU FN)[8]? = some (.pdict FN) := rfl
theorem corT_s5 : (corT a0 a1 a2 r room T AN FU FN).set 5 (.list T') = corT a0 a1 a2 r room T' AN FU FN := rfl
theorem corT_s6 : (corT a0 a1 a2 r room T AN FU FN).set 6 (.sdict AN') = corT a0 a1 a2 r room T AN' FU FN := rfl
theorem corT_s7 : (corT a0 a1 a2 r room T AN FU FN).set 7 (.list FU') = corT a0 a1 a2 r room T AN FU' FN := rfl
theorem corT_s8 : (corT a0 a1 a2 r room T AN FU FN).set 8 (.pdict FN') = corT a0 a1 a2 r room T AN FU FN' := rfl
theorem corT_core : corT a0 a1 a2 r room tx31 an31 fu33 fn33 = core a0 a1 a2 r room [] [] [] := rfl
end
theorem fmod_of (m k : Nat) : (m : Int).fmod (k : Int) = ((m % k : Nat) : Int) := by rw [Int.fmod_eq_emod_of_nonneg _ (by walk_at "o")]; rfl
section
variable {C : Cfg} {QF : MF → List (Str × MV) → List MO → Prop} {XF : MV → List (Str × MV) → List MO → Prop} {a0 a1 a2 : MO} {r : List Nat} {room : Nat} {xs : List MV} {z : List MO}
theorem turn_ok (hroom : room ≤ 30) (hr : r.length ≤ 120) (hx : cellsOk xs = true) (hl : xs.length ≤ room)
   (h : ∀ mf loc' r' xs' z', (mf = .next ∨ mf = .cont) → r'.length ≤ 120 → cellsOk xs' = true → xs'.length ≤ room → Sub (base room) loc' → QF mf loc' (core a0 a1 a2 r' room xs' xs' z')) :
   ExecsW C 401 1 true (loopB C.w.params) (base room) (core a0 a1 a2 r room xs xs z) QF XF := by
  have rest : ∀ (r' : List Nat) (xs' : List MV), r'.length ≤ 120 → cellsOk xs' = true → xs'.length ≤ room → ExecsW C 401 1 true ((loopB C.w.params).drop 1) (base room) (core a0 a1 a2 r' room xs' xs' z) QF XF := fun r' xs' h1 h2 h3 => turn_b hroom h1 h2 h3 h
  conv at rest in List.drop _ _ => whnf
  conv in loopB _ => whnf
  unfold base at rest ⊢
  repeat walk_at "m"
  refine CodeW.call (law_next_ok (by walk_at "o") core_3 (by walk_at "o") ?_)
  rw [core_row]
  repeat walk_at "m"
  refine op_mod (by decide) ?_
  rw [show (5 : Int) = ((5 : Nat) : Int) from rfl, fmod_of]
  have hr1 : r.dropLast.length ≤ 120 := by simp; walk_at "o"
  generalize nxt r % 5 = m5
  generalize r.dropLast = r1 at *
  repeat walk_at "m"
  by_cases h4 : m5 = 4
  · rw [show ((m5 : Int) == 4) = true by simp [h4], if_pos rfl]
    have c9 := core_9 (a0 := a0) (a1 := a1) (a2 := a2) (r := r1.dropLast) (room := room) (xs := xs) (ys := xs) (z := z)
    have c10 := core_10 (a0 := a0) (a1 := a1) (a2 := a2) (r := r1.dropLast) (room := room) (xs := xs) (ys := xs) (z := z)
    repeat walk_at "m"
    refine CodeW.call (law_next_ok (by walk_at "o") core_3 (by walk_at "o") ?_)
    rw [core_row]
    have hr2 : r1.dropLast.length ≤ 120 := by simp; walk_at "o"
    generalize nxt r1 = m1
    generalize r1.dropLast = r2 at *
    repeat walk_at "m"
    refine call_len c10 (by walk_at "o") ?_
    repeat walk_at "m"
    rw [show ((xs.length : Int) + 1) = ((xs.length + 1 : Nat) : Int) by walk_at "o"]
    refine op_mod (by walk_at "o") ?_
    rw [fmod_of]
    have hlow : m1 % (xs.length + 1) ≤ xs.length := Nat.le_of_lt_succ (Nat.mod_lt _ (by walk_at "o"))
    generalize m1 % (xs.length + 1) = low at *
    repeat walk_at "m"
    refine CodeW.call (trim_ok (k := low) (by walk_at "o") c9 c10 hlow (by walk_at "o") (cells_frees hx) ?_)
    rw [core_heap]
    have c13 := core_13 (a0 := a0) (a1 := a1) (a2 := a2) (r := r2) (room := room) (xs := xs.take low) (ys := xs) (z := z)
    have c14 := core_14 (a0 := a0) (a1 := a1) (a2 := a2) (r := r2) (room := room) (xs := xs.take low) (ys := xs) (z := z)
    repeat walk_at "m"
    refine CodeW.call (trim_ok (k := low) (by walk_at "o") c13 c14 hlow (by walk_at "o") (cells_frees hx) ?_)
    rw [core_wide]
    walk_at "m"
    walk_at "m"
    refine ExecsW.sub ?_ (rest r2 (xs.take low) hr2 (cells_take hx _) (by rw [List.length_take]; walk_at "o"))
    repeat refine Sub.one rfl ?_
    exact Sub.nil
  · rw [show ((m5 : Int) == 4) = false by simp; walk_at "o", if_neg (by decide)]
    refine xs_nil ?_
    exact rest r1 xs hr1 hx hl
end
section
variable {C : Cfg}
theorem law_ok {lst : Addr} {vs : List Value} {cs : List Int} (hb : C.base.IsList lst vs.toArray) (hI : IntsAre vs cs) (hz : cs.length ≤ 100000) : ExecsW C 401 1 true (bodyAt C.w.params 401) [(Str.ofString "script", .raw (.ref lst))] [.dead] (fun mf _ σ' => mf = .ret (.bool true) ∧ σ'[0]? = some .dead) (fun _ _ _ => False) := by
  have body : ∀ (room : Nat) {QF : MF → List (Str × MV) → List MO → Prop} {a0 a1 a2 : MO} {r : List Nat} {xs : List MV} {z : List MO}, room ≤ 30 → r.length ≤ 120 → cellsOk xs = true → xs.length ≤ room →
   (∀ mf loc' r' xs' z', (mf = .next ∨ mf = .cont) → r'.length ≤ 120 → cellsOk xs' = true → xs'.length ≤ room → Sub (base room) loc' → QF mf loc' (core a0 a1 a2 r' room xs' xs' z')) →
   ExecsW C 401 1 true (loopB C.w.params) (base room) (core a0 a1 a2 r room xs xs z) QF (fun _ _ _ => False) := fun room => turn_ok
  conv at body in loopB _ => whnf
  conv in bodyAt _ _ => whnf
  repeat walk_at "m"
  generalize ha0 : MO.dead = a0 at *
  refine CodeW.call (law_row_ok (by walk_at "o") hb hI hz fun r a b hr => ?_)
  rw [show [a0].length + 2 = 3 from rfl]
  repeat walk_at "m"
  refine CodeW.call (make_symbols (by walk_at "o") ?_)
  rw [show ([a0] ++ [a] ++ [b] ++ [MO.list (nums r)]).length = 4 from rfl]
  repeat walk_at "m"
  refine CodeW.call (law_next_ok (r := r) (by walk_at "o") rfl (by walk_at "o") ?_)
  rw [show ([a0] ++ [a] ++ [b] ++ [MO.list (nums r)] ++ symO 4 (txt 29) (anm 29) (fus 32) (fnm 32)).set 3 (MO.list (nums r.dropLast)) = [a0] ++ [a] ++ [b] ++ [MO.list (nums r.dropLast)] ++ symO 4 (txt 29) (anm 29) (fus 32) (fnm 32) from rfl]
  repeat walk_at "m"
  refine op_mod (by decide) ?_
  rw [show (31 : Int) = ((31 : Nat) : Int) from rfl, fmod_of]
  have hroom : nxt r % 31 ≤ 30 := by walk_at "o"
  have hr1 : r.dropLast.length ≤ 120 := by simp; walk_at "o"
  generalize nxt r % 31 = room at *
  generalize r.dropLast = r1 at *
  repeat walk_at "m"
  refine CodeW.call (make_store (by walk_at "o") (by show 4 < 9; walk_at "o") ?_)
  rw [show ([a0] ++ [a] ++ [b] ++ [MO.list (nums r1)] ++ symO 4 (txt 29) (anm 29) (fus 32) (fnm 32)).length = 9 from rfl]
  repeat walk_at "m"
  refine CodeW.call (make_store (by walk_at "o") (by show 4 < 13; walk_at "o") ?_)
  rw [show ([a0] ++ [a] ++ [b] ++ [MO.list (nums r1)] ++ symO 4 (txt 29) (anm 29) (fus 32) (fnm 32) ++ stoO 9 4 room []).length = 13 from rfl]
  rw [show [a0] ++ [a] ++ [b] ++ [MO.list (nums r1)] ++ symO 4 (txt 29) (anm 29) (fus 32) (fnm 32) ++ stoO 9 4 room [] ++ stoO 13 4 1000 [] = corT a0 a b r1 room (txt 29) (anm 29) (fus 32) (fnm 32) from rfl]
  have e4 := fun T AN FU FN => corT_4 (a0 := a0) (a1 := a) (a2 := b) (r := r1) (room := room) (T := T) (AN := AN) (FU := FU) (FN := FN)
  have e4' := e4 (txt 29) (anm 29) (fus 32) (fnm 32)
  repeat walk_at "m"
  refine CodeW.call (func_of (by walk_at "o") corT_4 ?_)
  refine atom_new (by walk_at "o") corT_4 corT_6 corT_5 (by kernel_rfl) (by walk_at "o") (by walk_at "o") (by rw [txt_len (by walk_at "o")]; walk_at "o") (by rw [anm_len (by walk_at "o")]; walk_at "o") (txt_free _) (anm_free _) ?_
  refine functor_new (by walk_at "o") (by rw [corT_s5, corT_s6]; exact corT_4) (by rw [corT_s5, corT_s6]; exact corT_8) (by rw [corT_s5, corT_s6]; exact corT_7) ?_ (by walk_at "o") (by walk_at "o") (by rw [fus_len (by walk_at "o")]; walk_at "o") (by rw [fnm_len (by walk_at "o")]; walk_at "o") (fus_free _) (fnm_free _) ?_
  · rw [txt_len (by walk_at "o")]; kernel_rfl
  refine ⟨rfl, ((((Chg.refl _).set (mo := .list _) (frees_app (txt_free _) rfl)).set (mo := .sdict _) (fldFree_app (anm_free _) rfl)).set (mo := .list _) (frees_app (fus_free _) rfl)).set (mo := .pdict _) (fldFree_app (fnm_free _) rfl), by simp, ?_⟩
  rw [corT_s5, corT_s6, corT_s7, corT_s8, txt_len (by walk_at "o"), fus_len (by walk_at "o")]
  have e4'' := e4 (txt 29 ++ [.str (Str.ofString "resource_error")]) (anm 29 ++ [(Str.ofString "resource_error", .int ((29 : Nat) : Int))]) fu33 fn33
  rw [show fus 32 ++ [MV.tup [.int ((29 : Nat) : Int), .int 1]] = fu33 from rfl, show fnm 32 ++ [([((29 : Nat) : Int), 1], MV.int ((32 : Nat) : Int))] = fn33 from rfl]
  repeat walk_at "m"
  refine CodeW.call (atom_new (by walk_at "o") corT_4 corT_6 corT_5 (by kernel_rfl) (by walk_at "o") (by walk_at "o") (by rw [List.length_append, txt_len (by walk_at "o")]; decide) (by rw [List.length_append, anm_len (by walk_at "o")]; decide) (frees_app (txt_free _) rfl) (fldFree_app (anm_free _) rfl) ?_)
  rw [corT_s5, corT_s6, List.length_append, txt_len (by walk_at "o")]
  rw [show corT a0 a b r1 room (txt 29 ++ [.str (Str.ofString "resource_error")] ++ [.str (Str.ofString "memory")]) (anm 29 ++ [(Str.ofString "resource_error", MV.int ((29 : Nat) : Int))] ++ [(Str.ofString "memory", MV.int ((29 + [MV.str (Str.ofString "resource_error")].length : Nat) : Int))]) fu33 fn33 = core a0 a b r1 room [] [] [] from rfl]
  repeat walk_at "m"
  with_reducible refine x_for_range ?hx ?_ ?hs ?hc ?he ?hk
  case hx => kernel_rfl
  case hs => (intro _ _; rfl)
  case hc => (intro _; rfl)
  case he => (intro _; rfl)
  case hk => kernel_rfl
  repeat walk_at "m"
  refine ⟨rfl, ?_⟩
  repeat walk_at "m"
  refine CodeW.call (law_next_ok (by walk_at "o") core_3 (by walk_at "o") ?_)
  rw [core_row]
  repeat walk_at "m"
  refine op_mod (by decide) ?_
  rw [show (13 : Int) = ((13 : Nat) : Int) from rfl, fmod_of]
  have hk : nxt r1 % 13 < 13 := by walk_at "o"
  have hr2 : r1.dropLast.length ≤ 120 := by simp; walk_at "o"
  generalize nxt r1 % 13 = k at *
  generalize r1.dropLast = r2 at *
  repeat walk_at "m"
  refine ⟨k, rfl, by walk_at "o", fun i loc σ' => ∃ r xs z, r.length ≤ 120 ∧ cellsOk xs = true ∧ xs.length ≤ room ∧ Sub (base room) loc ∧ σ' = core a0 a b r room xs xs z, ⟨r2, [], [], hr2, rfl, by simp, ?_, rfl⟩, ?_, ?_⟩
  · unfold base
    repeat refine Sub.one rfl ?_
    exact Sub.nil
  · rintro i loc σ' ⟨r', xs', z', h1, h2, h3, sb, rfl⟩ hi
    refine ExecsW.sub (sb.cons _) ?_
    refine ExecsW.sub (loc := base room) ?_ (body room hroom h1 h2 h3 ?_)
    · unfold base
      repeat refine Sub.one rfl ?_
      exact Sub.nil
    · rintro mf loc' r'' xs'' z'' (rfl | rfl) g1 g2 g3 g4
      · exact ⟨r'', xs'', z'', g1, g2, g3, g4, rfl⟩
      · exact ⟨r'', xs'', z'', g1, g2, g3, g4, rfl⟩
  · rintro loc σ' ⟨r', xs', z', h1, h2, h3, sb, rfl⟩
    unfold base at sb
    refine ExecsW.sub sb ?_
    have c9 := core_9 (a0 := a0) (a1 := a) (a2 := b) (r := r') (room := room) (xs := xs') (ys := xs') (z := z')
    have c11 := core_11 (a0 := a0) (a1 := a) (a2 := b) (r := r') (room := room) (xs := xs') (ys := xs') (z := z')
    have c12 := core_12 (a0 := a0) (a1 := a) (a2 := b) (r := r') (room := room) (xs := xs') (ys := xs') (z := z')
    have c0 : (core a0 a b r' room xs' xs' z')[0]? = some a0 := rfl
    generalize core a0 a b r' room xs' xs' z' = M at *
    repeat walk_at "m"
    refine cmp_eq_data (.list (get_app c12) rfl) (.list get_last rfl) (by decide +kernel) (by walk_at "o") ?_
    rw [show PyData.eqv (.list (MV.pys [])) (.list (MV.pys [])) = true from rfl]
    repeat walk_at "m"
    rw [if_pos rfl]
    repeat walk_at "m"
    refine cmp_eq_data (.list (get_app (get_app c11)) rfl) (.list get_last rfl) (by decide +kernel) (by walk_at "o") ?_
    rw [show PyData.eqv (.list (MV.pys [])) (.list (MV.pys [])) = true from rfl]
    exact ⟨rfl, get_app (get_app c0)⟩
theorem ok401 (P : Params) : fnOk P 401 [Str.ofString "script"] = true := by kernel_rfl
theorem b401 (P : Params) (a : Value) : bindArgs (fdAt P 401) ⟨[a], []⟩ = pure [(Str.ofString "script", a)] := by kernel_rfl
theorem law_call {lst : Addr} {vs : List Value} {cs : List Int} (hb : C.base.IsList lst vs.toArray) (hI : IntsAre vs cs) (hz : cs.length ≤ 100000) : CodeW C 0 true (.ref 401) [.raw (.ref lst)] [.dead] (fun v _ => v = .bool true) (fun _ _ => False) := by
  refine def1 (ok401 _) (b401 _) (by walk_at "o") ?_
  refine (law_ok hb hI hz).mono (fun mf _ σ' h => ?_) fun _ _ _ h => h.elim
  obtain ⟨rfl, h0⟩ := h
  refine ⟨1, ⟨Nat.le_refl _, fun i mo hi e => ?_⟩, rfl, rfl⟩
  have : i = 0 := by walk_at "o"
  subst this
  rw [h0] at e; cases e
  exact .inr rfl
end

/-! MTop -/
theorem law_gv (P : Params) : nsIn (kf P) mainGlobals (Str.ofString "law") = some (some (.ref 401)) := by kernel_rfl
noncomputable def lawD : DefRec := match topSt 32 with
  | some (Stmt.FunctionDef n ps b _ _ _ sc _ _ pos) => { name := n, params := ps, body := b, scope := sc, pos := pos }
  | _ => { name := Str.empty, params := { posonlyargs := [], args := [], vararg := none, kwonlyargs := [], kw_defaults := [], kwarg := none, defaults := [] }, body := [], scope := { kind := .function, names := [], isGenerator := false, isCoroutine := false }, pos := { line := 0, col := 0, endLine := 0, endCol := 0 } }
theorem law_look1 : PySem.W.Fast.tw11788848310118352699 PySem.Challenge.rw_no0170_01.row.prog.main = true := by kernel_rfl
theorem law_look2 : ((PySem.W.Fast.tw9807087744658564304 PySem.Challenge.rw_no0170_01.row.prog.main.body).isEmpty || PySem.W.Fast.tw12862048085361865435 (PySem.W.Fast.tw9807087744658564304 PySem.Challenge.rw_no0170_01.row.prog.main.body) PySem.Challenge.rw_no0170_01.row.prog.main.body) = true := by kernel_rfl
theorem law_look3 : PySem.W.Fast.tw8377067652309620493 PySem.Challenge.rw_no0170_01.row.prog = true := by kernel_rfl
theorem law_look4 : (PySem.W.R.allR (PySem.W.Fast.tw18344453789297297638 PySem.Challenge.rw_no0170_01.row.prog) fun n => !PySem.W.Fast.tw3471404346716756564 PySem.W.Fast.tw14412699480532031325 n) = true := by kernel_rfl
theorem law_look6 : (PySem.W.Fast.tw17119622794617984870 PySem.Challenge.rw_no0170_01.row.prog PySem.Challenge.rw_no0170_01.row.prog.main.body fun _ n => PySem.W.Fast.tw17868728402115742887 n) = true := by kernel_rfl
theorem law_looks : PySem.W.Fast.tw12908688711261696721 PySem.Challenge.rw_no0170_01.row.prog = true := by
  unfold PySem.W.Fast.tw12908688711261696721
  exact look_both (look_both (look_both (look_both (look_both law_look1 law_look2) law_look3) law_look4) (by kernel_rfl)) law_look6
theorem law_part : PySem.W.Fast.tw2436336058641802641 PySem.Challenge.rw_no0170_01.row = true := by
  unfold PySem.W.Fast.tw2436336058641802641
  repeat' (with_reducible refine look_both ?_ ?_)
  · exact law_looks
  all_goals kernel_rfl
theorem law_row : PySem.W.Fast.tw17960256430627541270 (PySem.W.Fast.tw2368527892694137696 PySem.Challenge.rw_no0170_01) = true := by
  unfold PySem.W.Fast.tw17960256430627541270
  exact look_both (look_both law_part (by kernel_rfl)) (by kernel_rfl)
theorem law_saidT : PySem.W.Fast.tw9446332074065402090 PySem.Challenge.rw_no0170_01 = true := by
  unfold PySem.W.Fast.tw9446332074065402090
  repeat' (with_reducible refine look_both ?_ ?_)
  · exact law_row
  all_goals kernel_rfl
theorem law_said : PySem.Challenge.rw_no0170_01.wellSaid = true := (congrFun PySem.W.Fast.te9446332074065402090 _).trans law_saidT
theorem law_opens : (chainsOk viw && opensWell PySem.Challenge.rw_no0170_01.row.prog && (frees PySem.Challenge.rw_no0170_01.row.toRowW && PySem.Challenge.rw_no0170_01.row.within.isEmpty)) = true := by kernel_rfl
theorem law_bare : PySem.Challenge.rw_no0170_01.row.prog.bare := ⟨rfl, rfl, rfl, rfl, rfl, by kernel_rfl⟩
theorem law_def : defOf viw PySem.Challenge.rw_no0170_01.row.name = some (lawD, []) := by kernel_rfl
theorem law_the : PySem.Challenge.rw_no0170_01.row.prog.theDef PySem.Challenge.rw_no0170_01.row.name = some (lawD.params, lawD.body, lawD.scope) := by kernel_rfl
theorem law_kw : kwWritten? lawD.params.kwonlyargs lawD.params.kw_defaults = some [] := by kernel_rfl
end Mine

open Mine PySem PySem.W PySem.Calls PyProof.Rows PySem.Spec in
set_option maxHeartbeats 8000000 in
theorem PySem.Challenge.cw_no0170_01_holds : PySem.Challenge.rw_no0170_01.Holds := by
  refine holds_law law_said fun said => ?_
  refine holds_open (q := viw) (d := lawD) (kwd := []) (loose := looseN) (XP := fun _ _ => True) (YP := InK kf) left (fun w s e => InK.of kfA_eq w s e) InK.keeps (fun _ _ => trivial) (fun _ _ _ _ _ => trivial) law_def law_the law_kw (fun _ _ => recFacts_of rfl) rfl said law_opens law_bare ?hw ?hc
  case hw => w_witness2
  case hc =>
    intro w s₀ s₁ mg mb G Y fa o pm cd doc dV kV ho hfd hcd hD hmg hg args vals as hpre hlay hrd hwl hlo
    have KX : (kf w.params).In s₁.heap := Y
    refine Ground.open G ?_
    intro T B D TE TW
    clear D
    have efa : Value.ref fa = .ref 401 := by
      have e1 := mg_of KX (topRead_of T).g (law_gv _)
      exact Option.some.inj (hmg.symm.trans e1)
    cases efa
    clear ho hfd hcd hD hmg
    wrow_args hpre hlay hrd hwl hlo
    all_goals (first | refine callC_kw (enter_call ?_) | refine enter_call ?_ | refine callC_kw (enter_callW ?_) | refine enter_callW ?_ )
    w_top on
    refine codeAny_mono ?_ (fun _ _ g => GoodW.toG g)
    rename_i cs _ _ _ _ _ _ _ lst vs _ hL _ _ _ hI _ hlen _
    have M : Mem ⟨Challenge.rw_no0170_01.row.prog, w, s₁.heap, s₁.os, KX, ⟨_, _, _, _, topRead_of T⟩⟩ [] s₁ [[]] [.dead] :=
      ⟨fun _ _ e => e, hg, rfl, trivial, .cons .dead .nil, by simp, fun b hb => by simp at hb, by simp⟩
    refine codeAny_mono (law_call (C := ⟨Challenge.rw_no0170_01.row.prog, w, s₁.heap, s₁.os, KX, ⟨_, _, _, _, topRead_of T⟩⟩) hL hI (by omega) callerA [] s₁ [[]] [.ref lst] rfl ⟨fun _ => rfl, by decide, by decide⟩ M (.cons (.raw _) .nil)) fun r s' hr => ?_
    match r with
    | .ok (.ret v) =>
      obtain ⟨mv, σ', ρ', rv, m', st, e⟩ := hr
      subst e
      cases rv
      refine ⟨.inl ⟨_, .bool true, [], rfl, ?_, .bool _, ?_, unshared_nil⟩, m'.stay, m'.os, m'.gens⟩
      · refine raisesW_false ?_
        wrow_none_raised
      · wrow_post
    | .ok .next | .ok .brk | .ok .cont => exact hr.elim
    | .error e =>
      obtain ⟨_, _, _, _, _, _, h⟩ := hr
      exact h.elim
