import PyProof.Rows.All
import Wide.All
import OpenK.AllK
import Wide.FinOn
import PySem.Challenge.RW_nu0279_01
set_option Elab.async false
open PySem PySem.W PyProof.Rows
local macro_rules | `(tactic| omega) => `(tactic| first | lia | omega (config := {}))
namespace Mine
set_option autoImplicit false
set_option maxRecDepth 100000
set_option maxHeartbeats 8000000
/- the top in pieces: states at its cuts, by address; texts of defs are told by their places in the row -/
noncomputable abbrev pw : Program := PySem.Challenge.rw_nu0279_01.row.prog
noncomputable def stA (i : Nat) : Stmt := pw.main.body.getD i (.Pass ⟨0, 0, 0, 0⟩)
noncomputable def stM (i j : Nat) : Stmt := match stA i with
  | .ClassDef _ _ _ b _ _ _ _ _ _ _ => b.getD j (.Pass ⟨0, 0, 0, 0⟩)
  | s => s
noncomputable def fnD (st : Stmt) (q : Str) (dV kV doc pm cd : Value) : FuncData := match st with
  | .FunctionDef n a b _ _ _ sc _ _ _ => { name := n, qualname := q, params := a, body := .stmts b, scope := sc, globals := 3, closure := [], defaults := dV, kwdefaults := kV, doc := doc, pyModule := pm, code := cd }
  | _ => default
noncomputable def dE (P : Params) (x : Str) (t : Tok) (v : Value) : DictEntry := ⟨PyData.keyHash P x, .str x t, v⟩
noncomputable def fnD0 (st : Stmt) (q : Str) : FuncData := match st with
  | .FunctionDef n a b _ _ _ sc _ _ _ => { name := n, qualname := q, params := a, body := .stmts b, scope := sc, globals := 0, closure := [], defaults := .none, kwdefaults := .none, doc := .none, pyModule := .none, code := .none }
  | _ => default
noncomputable def fragP (P : Params) : Frag := [
  (2, ⟨.none, none, .dict #[] 0, #[]⟩),
  (3, ⟨(.type "dict"), none, .dict #[dE P "__name__" 165 (.str "law_nu0279_01" 575), dE P "__doc__" 166 .none, dE P "__package__" 167 .none, dE P "__loader__" 168 (.builtin "__main__.__loader__#opaque"), dE P "__spec__" 169 .none, dE P "__annotations__" 170 (.ref 6), dE P "__builtins__" 171 (.ref 4), dE P "__file__" 173 (.str "/claim/cut.py" 172), dE P "__cached__" 174 .none, dE P "_wall" 193 (.ref 21), dE P "JUMPS" 200 (.ref 22), dE P "ENDS" 206 (.ref 23), dE P "Row" 252 (.ref 48), dE P "Catch" 297 (.ref 76), dE P "Code" 361 (.ref 111), dE P "MOST_ROUNDS" 365 (.int (24) 364), dE P "PLAIN" 373 (.ref 116), dE P "STORES" 378 (.ref 117), dE P "BRANCHES" 381 (.ref 118), dE P "is_op" 389 (.ref 125), dE P "truth" 396 (.ref 132), dE P "marks_of" 407 (.ref 139), dE P "pressed" 413 (.ref 144), dE P "end_of_jumps" 423 (.ref 151), dE P "threaded" 433 (.ref 158), dE P "reached" 445 (.ref 165), dE P "without_dead" 451 (.ref 170), dE P "without_pushes" 461 (.ref 177), dE P "without_copies" 471 (.ref 184), dE P "is_taken" 479 (.ref 191), dE P "with_known_branches" 494 (.ref 198), dE P "with_turned_branches" 507 (.ref 205), dE P "without_short_jumps" 517 (.ref 212), dE P "without_swaps" 527 (.ref 219), dE P "PASSES" 536 (.ref 228), dE P "shape" 542 (.ref 233), dE P "tidied_alone" 553 (.ref 240), dE P "tidy" 559 (.ref 245), dE P "pass_named" 568 (.ref 252), dE P "passed_by" 574 (.ref 257), dE P "_law_box" 585 (.ref 264), dE P "_law_take" 595 (.ref 271), dE P "_law_piece" 617 (.ref 278), dE P "_law_between" 623 (.ref 283), dE P "_law_code" 629 (.ref 288), dE P "_law_rows" 635 (.ref 293), dE P "_law_places" 644 (.ref 300), dE P "_law_scene" 650 (.ref 305), dE P "_law_turned_right" 656 (.ref 310), dE P "_law_pass_right" 662 (.ref 315), dE P "law" 668 (.ref 320)] 51, #[]⟩),
  (15, ⟨(.type "tuple"), none, .seq #[] 0, #[]⟩),
  (17, ⟨(.type "tuple"), none, .seq #[(.str "k" 190)] 0, #[]⟩),
  (18, ⟨(.type "tuple"), none, .seq #[] 0, #[]⟩),
  (20, ⟨(.type "code"), none, .fields #[(.str "_wall" 187), (.str "_wall" 188), (.str "/claim/cut.py" 189), (.int (1) 0), (.int (1) 0), (.int (0) 0), (.int (0) 0), (.int (3) 0), (.ref 15), (.bool true), (.int (181) 0), (.ref 16), .none, (.ref 17), (.ref 18), (.ref 19), (.int (191) 0), (.int (1) 0), (.str "/claim/cut.py" 192)], #[]⟩),
  (21, ⟨(.type "function"), none, .func (fnD (stA 0) "_wall" .none .none .none (.str "__main__" 164) (.ref 20)), #[]⟩),
  (22, ⟨(.type "tuple"), none, .seq #[(.str "jump" 196), (.str "jumpif" 197), (.str "jumpunless" 198), (.str "jumpnil" 199)] 0, #[]⟩),
  (23, ⟨(.type "tuple"), none, .seq #[(.str "jump" 201), (.str "leave" 202), (.str "out" 203), (.str "again" 204), (.str "nomatch" 205)] 0, #[]⟩),
  (31, ⟨(.type "tuple"), none, .seq #[.none, .none, .none, (.int (0) 219)] 0, #[]⟩),
  (32, ⟨(.type "tuple"), none, .seq #[] 0, #[]⟩),
  (34, ⟨(.type "tuple"), none, .seq #[(.str "self" 223), (.str "op" 224), (.str "a" 225), (.str "b" 226), (.str "c" 227), (.str "line" 228)] 0, #[]⟩),
  (35, ⟨(.type "tuple"), none, .seq #[] 0, #[]⟩),
  (37, ⟨(.type "code"), none, .fields #[(.str "__init__" 220), (.str "Row.__init__" 221), (.str "/claim/cut.py" 222), (.int (9) 0), (.int (6) 0), (.int (0) 0), (.int (0) 0), (.int (3) 0), (.ref 32), (.bool true), (.int (181) 0), (.ref 33), .none, (.ref 34), (.ref 35), (.ref 36), (.int (229) 0), (.int (9) 0), (.str "/claim/cut.py" 230)], #[]⟩),
  (38, ⟨(.type "function"), none, .func (fnD (stM 4 0) "Row.__init__" (.ref 31) .none .none (.str "gemrows.rows" 194) (.ref 37)), #[]⟩),
  (39, ⟨(.type "tuple"), none, .seq #[] 0, #[]⟩),
  (41, ⟨(.type "tuple"), none, .seq #[(.str "self" 235), (.str "target" 236)] 0, #[]⟩),
  (42, ⟨(.type "tuple"), none, .seq #[] 0, #[]⟩),
  (44, ⟨(.type "code"), none, .fields #[(.str "with_target" 232), (.str "Row.with_target" 233), (.str "/claim/cut.py" 234), (.int (16) 0), (.int (2) 0), (.int (0) 0), (.int (0) 0), (.int (3) 0), (.ref 39), (.bool true), (.int (181) 0), (.ref 40), .none, (.ref 41), (.ref 42), (.ref 43), (.int (237) 0), (.int (16) 0), (.str "/claim/cut.py" 238)], #[]⟩),
  (45, ⟨(.type "function"), none, .func (fnD (stM 4 1) "Row.with_target" .none .none .none (.str "gemrows.rows" 194) (.ref 44)), #[]⟩),
  (46, ⟨(.type "tuple"), none, .seq #[(.str "a" 240), (.str "b" 241), (.str "c" 242), (.str "line" 243), (.str "op" 244)] 0, #[]⟩),
  (47, ⟨(.type "dict"), none, .dict #[dE P "__module__" 214 (.str "gemrows.rows" 194), dE P "__firstlineno__" 218 (.int (7) 217), dE P "__init__" 231 (.ref 38), dE P "with_target" 239 (.ref 45), dE P "__static_attributes__" 245 (.ref 46), dE P "__dict__" 247 (.ref 49), dE P "__weakref__" 249 (.ref 50), dE P "__doc__" 250 .none] 4, #[]⟩),
  (48, ⟨(.type "type"), none, .cls { name := "Row", bases := [(.type "object")], mro := [(.ref 48), (.type "object")], ns := 47, qualname := "Row", hasDict := true, slotNames := [], subclasses := [], abstract := false, collection := none, hasDel := false }, #[none, none, some (.str "Row" 207), some (.str "Row" 215), some (.builtin "object.__new__"), some (.bool true)]⟩),
  (49, ⟨(.type "getset_descriptor"), none, .fields #[(.str "__dict__" 246), (.ref 48), (.builtin "function.__dict__"), (.builtin "function.__dict__#set")], #[]⟩),
  (50, ⟨(.type "getset_descriptor"), none, .fields #[(.str "__weakref__" 248), (.ref 48), (.builtin "ExceptionGroup.__weakref__"), .none], #[]⟩),
  (60, ⟨(.type "tuple"), none, .seq #[] 0, #[]⟩),
  (62, ⟨(.type "tuple"), none, .seq #[(.str "self" 268), (.str "sort" 269), (.str "first" 270), (.str "last" 271), (.str "target" 272), (.str "depth" 273)] 0, #[]⟩),
  (63, ⟨(.type "tuple"), none, .seq #[] 0, #[]⟩),
  (65, ⟨(.type "code"), none, .fields #[(.str "__init__" 265), (.str "Catch.__init__" 266), (.str "/claim/cut.py" 267), (.int (20) 0), (.int (6) 0), (.int (0) 0), (.int (0) 0), (.int (3) 0), (.ref 60), (.bool true), (.int (181) 0), (.ref 61), .none, (.ref 62), (.ref 63), (.ref 64), (.int (274) 0), (.int (20) 0), (.str "/claim/cut.py" 275)], #[]⟩),
  (66, ⟨(.type "function"), none, .func (fnD (stM 5 0) "Catch.__init__" .none .none .none (.str "gemrows.rows" 194) (.ref 65)), #[]⟩),
  (67, ⟨(.type "tuple"), none, .seq #[] 0, #[]⟩),
  (69, ⟨(.type "tuple"), none, .seq #[(.str "self" 280), (.str "place" 281)] 0, #[]⟩),
  (70, ⟨(.type "tuple"), none, .seq #[] 0, #[]⟩),
  (72, ⟨(.type "code"), none, .fields #[(.str "covers" 277), (.str "Catch.covers" 278), (.str "/claim/cut.py" 279), (.int (27) 0), (.int (2) 0), (.int (0) 0), (.int (0) 0), (.int (3) 0), (.ref 67), (.bool true), (.int (181) 0), (.ref 68), .none, (.ref 69), (.ref 70), (.ref 71), (.int (282) 0), (.int (27) 0), (.str "/claim/cut.py" 283)], #[]⟩),
  (73, ⟨(.type "function"), none, .func (fnD (stM 5 1) "Catch.covers" .none .none .none (.str "gemrows.rows" 194) (.ref 72)), #[]⟩),
  (74, ⟨(.type "tuple"), none, .seq #[(.str "depth" 285), (.str "first" 286), (.str "last" 287), (.str "sort" 288), (.str "target" 289)] 0, #[]⟩),
  (75, ⟨(.type "dict"), none, .dict #[dE P "__module__" 260 (.str "gemrows.rows" 194), dE P "__firstlineno__" 264 (.int (18) 263), dE P "__init__" 276 (.ref 66), dE P "covers" 284 (.ref 73), dE P "__static_attributes__" 290 (.ref 74), dE P "__dict__" 292 (.ref 77), dE P "__weakref__" 294 (.ref 78), dE P "__doc__" 295 .none] 4, #[]⟩),
  (76, ⟨(.type "type"), none, .cls { name := "Catch", bases := [(.type "object")], mro := [(.ref 76), (.type "object")], ns := 75, qualname := "Catch", hasDict := true, slotNames := [], subclasses := [], abstract := false, collection := none, hasDel := false }, #[none, none, some (.str "Catch" 253), some (.str "Catch" 261), some (.builtin "object.__new__"), some (.bool true)]⟩),
  (77, ⟨(.type "getset_descriptor"), none, .fields #[(.str "__dict__" 291), (.ref 76), (.builtin "function.__dict__"), (.builtin "function.__dict__#set")], #[]⟩),
  (78, ⟨(.type "getset_descriptor"), none, .fields #[(.str "__weakref__" 293), (.ref 76), (.builtin "ExceptionGroup.__weakref__"), .none], #[]⟩),
  (88, ⟨(.type "tuple"), none, .seq #[] 0, #[]⟩),
  (90, ⟨(.type "tuple"), none, .seq #[(.str "self" 313), (.str "kind" 314), (.str "name" 315), (.str "params" 316), (.str "slots" 317), (.str "rows" 318), (.str "catches" 319), (.str "children" 320), (.str "starts" 321)] 0, #[]⟩),
  (91, ⟨(.type "tuple"), none, .seq #[] 0, #[]⟩),
  (93, ⟨(.type "code"), none, .fields #[(.str "__init__" 310), (.str "Code.__init__" 311), (.str "/claim/cut.py" 312), (.int (31) 0), (.int (9) 0), (.int (0) 0), (.int (0) 0), (.int (3) 0), (.ref 88), (.bool true), (.int (181) 0), (.ref 89), .none, (.ref 90), (.ref 91), (.ref 92), (.int (322) 0), (.int (31) 0), (.str "/claim/cut.py" 323)], #[]⟩),
  (94, ⟨(.type "function"), none, .func (fnD (stM 6 0) "Code.__init__" .none .none .none (.str "gemrows.rows" 194) (.ref 93)), #[]⟩),
  (95, ⟨(.type "tuple"), none, .seq #[] 0, #[]⟩),
  (97, ⟨(.type "tuple"), none, .seq #[(.str "self" 328), (.str "place" 329), (.str "sorts" 330)] 0, #[]⟩),
  (98, ⟨(.type "tuple"), none, .seq #[] 0, #[]⟩),
  (100, ⟨(.type "code"), none, .fields #[(.str "catch_at" 325), (.str "Code.catch_at" 326), (.str "/claim/cut.py" 327), (.int (42) 0), (.int (3) 0), (.int (0) 0), (.int (0) 0), (.int (3) 0), (.ref 95), (.bool true), (.int (181) 0), (.ref 96), .none, (.ref 97), (.ref 98), (.ref 99), (.int (331) 0), (.int (42) 0), (.str "/claim/cut.py" 332)], #[]⟩),
  (101, ⟨(.type "function"), none, .func (fnD (stM 6 1) "Code.catch_at" .none .none .none (.str "gemrows.rows" 194) (.ref 100)), #[]⟩),
  (102, ⟨(.type "tuple"), none, .seq #[] 0, #[]⟩),
  (104, ⟨(.type "tuple"), none, .seq #[(.str "self" 337), (.str "rows" 338), (.str "catches" 339), (.str "starts" 340), (.str "children" 341)] 0, #[]⟩),
  (105, ⟨(.type "tuple"), none, .seq #[] 0, #[]⟩),
  (107, ⟨(.type "code"), none, .fields #[(.str "with_rows" 334), (.str "Code.with_rows" 335), (.str "/claim/cut.py" 336), (.int (45) 0), (.int (5) 0), (.int (0) 0), (.int (0) 0), (.int (3) 0), (.ref 102), (.bool true), (.int (181) 0), (.ref 103), .none, (.ref 104), (.ref 105), (.ref 106), (.int (342) 0), (.int (45) 0), (.str "/claim/cut.py" 343)], #[]⟩),
  (108, ⟨(.type "function"), none, .func (fnD (stM 6 2) "Code.with_rows" .none .none .none (.str "gemrows.rows" 194) (.ref 107)), #[]⟩),
  (109, ⟨(.type "tuple"), none, .seq #[(.str "catches" 345), (.str "children" 346), (.str "kind" 347), (.str "name" 348), (.str "number" 349), (.str "params" 350), (.str "rows" 351), (.str "slots" 352), (.str "starts" 353)] 0, #[]⟩),
  (110, ⟨(.type "dict"), none, .dict #[dE P "__module__" 305 (.str "gemrows.rows" 194), dE P "__firstlineno__" 309 (.int (29) 308), dE P "__init__" 324 (.ref 94), dE P "catch_at" 333 (.ref 101), dE P "with_rows" 344 (.ref 108), dE P "__static_attributes__" 354 (.ref 109), dE P "__dict__" 356 (.ref 112), dE P "__weakref__" 358 (.ref 113), dE P "__doc__" 359 .none] 4, #[]⟩),
  (111, ⟨(.type "type"), none, .cls { name := "Code", bases := [(.type "object")], mro := [(.ref 111), (.type "object")], ns := 110, qualname := "Code", hasDict := true, slotNames := [], subclasses := [], abstract := false, collection := none, hasDel := false }, #[none, none, some (.str "Code" 298), some (.str "Code" 306), some (.builtin "object.__new__"), some (.bool true)]⟩),
  (112, ⟨(.type "getset_descriptor"), none, .fields #[(.str "__dict__" 355), (.ref 111), (.builtin "function.__dict__"), (.builtin "function.__dict__#set")], #[]⟩),
  (113, ⟨(.type "getset_descriptor"), none, .fields #[(.str "__weakref__" 357), (.ref 111), (.builtin "ExceptionGroup.__weakref__"), .none], #[]⟩),
  (116, ⟨(.type "tuple"), none, .seq #[(.str "push" 366), (.str "self" 367), (.str "getl" 368), (.str "geti" 369), (.str "getg" 370), (.str "dup" 371), (.str "blockgiven" 372)] 0, #[]⟩),
  (117, ⟨(.type "tuple"), none, .seq #[(.str "setl" 374), (.str "seti" 375), (.str "setg" 376), (.str "setc" 377)] 0, #[]⟩),
  (118, ⟨(.type "tuple"), none, .seq #[(.str "jumpif" 379), (.str "jumpunless" 380)] 0, #[]⟩),
  (119, ⟨(.type "tuple"), none, .seq #[] 0, #[]⟩),
  (121, ⟨(.type "tuple"), none, .seq #[(.str "row" 385), (.str "ops" 386)] 0, #[]⟩),
  (122, ⟨(.type "tuple"), none, .seq #[] 0, #[]⟩),
  (124, ⟨(.type "code"), none, .fields #[(.str "is_op" 382), (.str "is_op" 383), (.str "/claim/cut.py" 384), (.int (52) 0), (.int (2) 0), (.int (0) 0), (.int (0) 0), (.int (3) 0), (.ref 119), (.bool true), (.int (181) 0), (.ref 120), .none, (.ref 121), (.ref 122), (.ref 123), (.int (387) 0), (.int (52) 0), (.str "/claim/cut.py" 388)], #[]⟩),
  (125, ⟨(.type "function"), none, .func (fnD (stA 12) "is_op" .none .none .none (.str "gemrows.passes" 362) (.ref 124)), #[]⟩),
  (126, ⟨(.type "tuple"), none, .seq #[] 0, #[]⟩),
  (128, ⟨(.type "tuple"), none, .seq #[(.str "value" 393)] 0, #[]⟩),
  (129, ⟨(.type "tuple"), none, .seq #[] 0, #[]⟩),
  (131, ⟨(.type "code"), none, .fields #[(.str "truth" 390), (.str "truth" 391), (.str "/claim/cut.py" 392), (.int (54) 0), (.int (1) 0), (.int (0) 0), (.int (0) 0), (.int (3) 0), (.ref 126), (.bool true), (.int (181) 0), (.ref 127), .none, (.ref 128), (.ref 129), (.ref 130), (.int (394) 0), (.int (54) 0), (.str "/claim/cut.py" 395)], #[]⟩),
  (132, ⟨(.type "function"), none, .func (fnD (stA 13) "truth" .none .none .none (.str "gemrows.passes" 362) (.ref 131)), #[]⟩),
  (133, ⟨(.type "tuple"), none, .seq #[] 0, #[]⟩),
  (135, ⟨(.type "tuple"), none, .seq #[(.str "code" 400), (.str "found" 401), (.str "row" 402), (.str "one" 403), (.str "start" 404)] 0, #[]⟩),
  (136, ⟨(.type "tuple"), none, .seq #[] 0, #[]⟩),
  (138, ⟨(.type "code"), none, .fields #[(.str "marks_of" 397), (.str "marks_of" 398), (.str "/claim/cut.py" 399), (.int (56) 0), (.int (1) 0), (.int (0) 0), (.int (0) 0), (.int (3) 0), (.ref 133), (.bool true), (.int (181) 0), (.ref 134), .none, (.ref 135), (.ref 136), (.ref 137), (.int (405) 0), (.int (56) 0), (.str "/claim/cut.py" 406)], #[]⟩),
  (139, ⟨(.type "function"), none, .func (fnD (stA 14) "marks_of" .none .none .none (.str "gemrows.passes" 362) (.ref 138)), #[]⟩),
  (140, ⟨(.type "tuple"), none, .seq #[] 0, #[]⟩),
  (143, ⟨(.type "code"), none, .fields #[(.str "pressed" 408), (.str "pressed" 409), (.str "/claim/cut.py" 410), (.int (66) 0), (.int (2) 0), (.int (0) 0), (.int (0) 0), (.int (3) 0), (.ref 140), (.bool true), (.int (181) 0), (.ref 141), .none, .none, .none, (.ref 142), (.int (411) 0), (.int (66) 0), (.str "/claim/cut.py" 412)], #[]⟩),
  (144, ⟨(.type "function"), none, .func (fnD (stA 15) "pressed" .none .none .none (.str "gemrows.passes" 362) (.ref 143)), #[]⟩),
  (145, ⟨(.type "tuple"), none, .seq #[] 0, #[]⟩),
  (147, ⟨(.type "tuple"), none, .seq #[(.str "code" 417), (.str "place" 418), (.str "found" 419), (.str "turn" 420)] 0, #[]⟩),
  (148, ⟨(.type "tuple"), none, .seq #[] 0, #[]⟩),
  (150, ⟨(.type "code"), none, .fields #[(.str "end_of_jumps" 414), (.str "end_of_jumps" 415), (.str "/claim/cut.py" 416), (.int (80) 0), (.int (2) 0), (.int (0) 0), (.int (0) 0), (.int (3) 0), (.ref 145), (.bool true), (.int (181) 0), (.ref 146), .none, (.ref 147), (.ref 148), (.ref 149), (.int (421) 0), (.int (80) 0), (.str "/claim/cut.py" 422)], #[]⟩),
  (151, ⟨(.type "function"), none, .func (fnD (stA 16) "end_of_jumps" .none .none .none (.str "gemrows.passes" 362) (.ref 150)), #[]⟩),
  (152, ⟨(.type "tuple"), none, .seq #[] 0, #[]⟩),
  (154, ⟨(.type "tuple"), none, .seq #[(.str "code" 427), (.str "rows" 428), (.str "row" 429), (.str "target" 430)] 0, #[]⟩),
  (155, ⟨(.type "tuple"), none, .seq #[] 0, #[]⟩),
  (157, ⟨(.type "code"), none, .fields #[(.str "threaded" 424), (.str "threaded" 425), (.str "/claim/cut.py" 426), (.int (87) 0), (.int (1) 0), (.int (0) 0), (.int (0) 0), (.int (3) 0), (.ref 152), (.bool true), (.int (181) 0), (.ref 153), .none, (.ref 154), (.ref 155), (.ref 156), (.int (431) 0), (.int (87) 0), (.str "/claim/cut.py" 432)], #[]⟩),
  (158, ⟨(.type "function"), none, .func (fnD (stA 17) "threaded" .none .none .none (.str "gemrows.passes" 362) (.ref 157)), #[]⟩),
  (159, ⟨(.type "tuple"), none, .seq #[] 0, #[]⟩),
  (161, ⟨(.type "tuple"), none, .seq #[(.str "code" 437), (.str "found" 438), (.str "waiting" 439), (.str "place" 440), (.str "row" 441), (.str "one" 442)] 0, #[]⟩),
  (162, ⟨(.type "tuple"), none, .seq #[] 0, #[]⟩),
  (164, ⟨(.type "code"), none, .fields #[(.str "reached" 434), (.str "reached" 435), (.str "/claim/cut.py" 436), (.int (99) 0), (.int (1) 0), (.int (0) 0), (.int (0) 0), (.int (3) 0), (.ref 159), (.bool true), (.int (181) 0), (.ref 160), .none, (.ref 161), (.ref 162), (.ref 163), (.int (443) 0), (.int (99) 0), (.str "/claim/cut.py" 444)], #[]⟩),
  (165, ⟨(.type "function"), none, .func (fnD (stA 18) "reached" .none .none .none (.str "gemrows.passes" 362) (.ref 164)), #[]⟩),
  (166, ⟨(.type "tuple"), none, .seq #[] 0, #[]⟩),
  (169, ⟨(.type "code"), none, .fields #[(.str "without_dead" 446), (.str "without_dead" 447), (.str "/claim/cut.py" 448), (.int (116) 0), (.int (1) 0), (.int (0) 0), (.int (0) 0), (.int (3) 0), (.ref 166), (.bool true), (.int (181) 0), (.ref 167), .none, .none, .none, (.ref 168), (.int (449) 0), (.int (116) 0), (.str "/claim/cut.py" 450)], #[]⟩),
  (170, ⟨(.type "function"), none, .func (fnD (stA 19) "without_dead" .none .none .none (.str "gemrows.passes" 362) (.ref 169)), #[]⟩),
  (171, ⟨(.type "tuple"), none, .seq #[] 0, #[]⟩),
  (173, ⟨(.type "tuple"), none, .seq #[(.str "code" 455), (.str "rows" 456), (.str "marks" 457), (.str "place" 458)] 0, #[]⟩),
  (174, ⟨(.type "tuple"), none, .seq #[] 0, #[]⟩),
  (176, ⟨(.type "code"), none, .fields #[(.str "without_pushes" 452), (.str "without_pushes" 453), (.str "/claim/cut.py" 454), (.int (118) 0), (.int (1) 0), (.int (0) 0), (.int (0) 0), (.int (3) 0), (.ref 171), (.bool true), (.int (181) 0), (.ref 172), .none, (.ref 173), (.ref 174), (.ref 175), (.int (459) 0), (.int (118) 0), (.str "/claim/cut.py" 460)], #[]⟩),
  (177, ⟨(.type "function"), none, .func (fnD (stA 20) "without_pushes" .none .none .none (.str "gemrows.passes" 362) (.ref 176)), #[]⟩),
  (178, ⟨(.type "tuple"), none, .seq #[] 0, #[]⟩),
  (180, ⟨(.type "tuple"), none, .seq #[(.str "code" 465), (.str "rows" 466), (.str "marks" 467), (.str "place" 468)] 0, #[]⟩),
  (181, ⟨(.type "tuple"), none, .seq #[] 0, #[]⟩),
  (183, ⟨(.type "code"), none, .fields #[(.str "without_copies" 462), (.str "without_copies" 463), (.str "/claim/cut.py" 464), (.int (124) 0), (.int (1) 0), (.int (0) 0), (.int (0) 0), (.int (3) 0), (.ref 178), (.bool true), (.int (181) 0), (.ref 179), .none, (.ref 180), (.ref 181), (.ref 182), (.int (469) 0), (.int (124) 0), (.str "/claim/cut.py" 470)], #[]⟩),
  (184, ⟨(.type "function"), none, .func (fnD (stA 21) "without_copies" .none .none .none (.str "gemrows.passes" 362) (.ref 183)), #[]⟩),
  (185, ⟨(.type "tuple"), none, .seq #[] 0, #[]⟩),
  (187, ⟨(.type "tuple"), none, .seq #[(.str "branch" 475), (.str "value" 476)] 0, #[]⟩),
  (188, ⟨(.type "tuple"), none, .seq #[] 0, #[]⟩),
  (190, ⟨(.type "code"), none, .fields #[(.str "is_taken" 472), (.str "is_taken" 473), (.str "/claim/cut.py" 474), (.int (131) 0), (.int (2) 0), (.int (0) 0), (.int (0) 0), (.int (3) 0), (.ref 185), (.bool true), (.int (181) 0), (.ref 186), .none, (.ref 187), (.ref 188), (.ref 189), (.int (477) 0), (.int (131) 0), (.str "/claim/cut.py" 478)], #[]⟩),
  (191, ⟨(.type "function"), none, .func (fnD (stA 22) "is_taken" .none .none .none (.str "gemrows.passes" 362) (.ref 190)), #[]⟩),
  (192, ⟨(.type "tuple"), none, .seq #[] 0, #[]⟩),
  (194, ⟨(.type "tuple"), none, .seq #[(.str "code" 483), (.str "rows" 484), (.str "marks" 485), (.str "place" 486), (.str "row" 487), (.str "behind" 488), (.str "taken" 489), (.str "branch" 490), (.str "target" 491)] 0, #[]⟩),
  (195, ⟨(.type "tuple"), none, .seq #[] 0, #[]⟩),
  (197, ⟨(.type "code"), none, .fields #[(.str "with_known_branches" 480), (.str "with_known_branches" 481), (.str "/claim/cut.py" 482), (.int (133) 0), (.int (1) 0), (.int (0) 0), (.int (0) 0), (.int (3) 0), (.ref 192), (.bool true), (.int (181) 0), (.ref 193), .none, (.ref 194), (.ref 195), (.ref 196), (.int (492) 0), (.int (133) 0), (.str "/claim/cut.py" 493)], #[]⟩),
  (198, ⟨(.type "function"), none, .func (fnD (stA 23) "with_known_branches" .none .none .none (.str "gemrows.passes" 362) (.ref 197)), #[]⟩),
  (199, ⟨(.type "tuple"), none, .seq #[] 0, #[]⟩),
  (201, ⟨(.type "tuple"), none, .seq #[(.str "code" 498), (.str "rows" 499), (.str "marks" 500), (.str "place" 501), (.str "row" 502), (.str "behind" 503), (.str "op" 504)] 0, #[]⟩),
  (202, ⟨(.type "tuple"), none, .seq #[] 0, #[]⟩),
  (204, ⟨(.type "code"), none, .fields #[(.str "with_turned_branches" 495), (.str "with_turned_branches" 496), (.str "/claim/cut.py" 497), (.int (149) 0), (.int (1) 0), (.int (0) 0), (.int (0) 0), (.int (3) 0), (.ref 199), (.bool true), (.int (181) 0), (.ref 200), .none, (.ref 201), (.ref 202), (.ref 203), (.int (505) 0), (.int (149) 0), (.str "/claim/cut.py" 506)], #[]⟩),
  (205, ⟨(.type "function"), none, .func (fnD (stA 24) "with_turned_branches" .none .none .none (.str "gemrows.passes" 362) (.ref 204)), #[]⟩),
  (206, ⟨(.type "tuple"), none, .seq #[] 0, #[]⟩),
  (208, ⟨(.type "tuple"), none, .seq #[(.str "code" 511), (.str "rows" 512), (.str "place" 513), (.str "row" 514)] 0, #[]⟩),
  (209, ⟨(.type "tuple"), none, .seq #[] 0, #[]⟩),
  (211, ⟨(.type "code"), none, .fields #[(.str "without_short_jumps" 508), (.str "without_short_jumps" 509), (.str "/claim/cut.py" 510), (.int (157) 0), (.int (1) 0), (.int (0) 0), (.int (0) 0), (.int (3) 0), (.ref 206), (.bool true), (.int (181) 0), (.ref 207), .none, (.ref 208), (.ref 209), (.ref 210), (.int (515) 0), (.int (157) 0), (.str "/claim/cut.py" 516)], #[]⟩),
  (212, ⟨(.type "function"), none, .func (fnD (stA 25) "without_short_jumps" .none .none .none (.str "gemrows.passes" 362) (.ref 211)), #[]⟩),
  (213, ⟨(.type "tuple"), none, .seq #[] 0, #[]⟩),
  (215, ⟨(.type "tuple"), none, .seq #[(.str "code" 521), (.str "rows" 522), (.str "marks" 523), (.str "place" 524)] 0, #[]⟩),
  (216, ⟨(.type "tuple"), none, .seq #[] 0, #[]⟩),
  (218, ⟨(.type "code"), none, .fields #[(.str "without_swaps" 518), (.str "without_swaps" 519), (.str "/claim/cut.py" 520), (.int (165) 0), (.int (1) 0), (.int (0) 0), (.int (0) 0), (.int (3) 0), (.ref 213), (.bool true), (.int (181) 0), (.ref 214), .none, (.ref 215), (.ref 216), (.ref 217), (.int (525) 0), (.int (165) 0), (.str "/claim/cut.py" 526)], #[]⟩),
  (219, ⟨(.type "function"), none, .func (fnD (stA 26) "without_swaps" .none .none .none (.str "gemrows.passes" 362) (.ref 218)), #[]⟩),
  (220, ⟨(.type "tuple"), none, .seq #[(.str "threaded" 528), (.ref 158)] 0, #[]⟩),
  (221, ⟨(.type "tuple"), none, .seq #[(.str "known branches" 529), (.ref 198)] 0, #[]⟩),
  (222, ⟨(.type "tuple"), none, .seq #[(.str "turned branches" 530), (.ref 205)] 0, #[]⟩),
  (223, ⟨(.type "tuple"), none, .seq #[(.str "short jumps" 531), (.ref 212)] 0, #[]⟩),
  (224, ⟨(.type "tuple"), none, .seq #[(.str "dead rows" 532), (.ref 170)] 0, #[]⟩),
  (225, ⟨(.type "tuple"), none, .seq #[(.str "pushes" 533), (.ref 177)] 0, #[]⟩),
  (226, ⟨(.type "tuple"), none, .seq #[(.str "copies" 534), (.ref 184)] 0, #[]⟩),
  (227, ⟨(.type "tuple"), none, .seq #[(.str "swaps" 535), (.ref 219)] 0, #[]⟩),
  (228, ⟨(.type "list"), none, .seq #[(.ref 220), (.ref 221), (.ref 222), (.ref 223), (.ref 224), (.ref 225), (.ref 226), (.ref 227)] 0, #[]⟩),
  (229, ⟨(.type "tuple"), none, .seq #[] 0, #[]⟩),
  (232, ⟨(.type "code"), none, .fields #[(.str "shape" 537), (.str "shape" 538), (.str "/claim/cut.py" 539), (.int (176) 0), (.int (1) 0), (.int (0) 0), (.int (0) 0), (.int (3) 0), (.ref 229), (.bool true), (.int (181) 0), (.ref 230), .none, .none, .none, (.ref 231), (.int (540) 0), (.int (176) 0), (.str "/claim/cut.py" 541)], #[]⟩),
  (233, ⟨(.type "function"), none, .func (fnD (stA 28) "shape" .none .none .none (.str "gemrows.passes" 362) (.ref 232)), #[]⟩),
  (234, ⟨(.type "tuple"), none, .seq #[] 0, #[]⟩),
  (236, ⟨(.type "tuple"), none, .seq #[(.str "code" 546), (.str "turn" 547), (.str "before" 548), (.str "name" 549), (.str "step" 550)] 0, #[]⟩),
  (237, ⟨(.type "tuple"), none, .seq #[] 0, #[]⟩),
  (239, ⟨(.type "code"), none, .fields #[(.str "tidied_alone" 543), (.str "tidied_alone" 544), (.str "/claim/cut.py" 545), (.int (178) 0), (.int (1) 0), (.int (0) 0), (.int (0) 0), (.int (3) 0), (.ref 234), (.bool true), (.int (181) 0), (.ref 235), .none, (.ref 236), (.ref 237), (.ref 238), (.int (551) 0), (.int (178) 0), (.str "/claim/cut.py" 552)], #[]⟩),
  (240, ⟨(.type "function"), none, .func (fnD (stA 29) "tidied_alone" .none .none .none (.str "gemrows.passes" 362) (.ref 239)), #[]⟩),
  (241, ⟨(.type "tuple"), none, .seq #[] 0, #[]⟩),
  (244, ⟨(.type "code"), none, .fields #[(.str "tidy" 554), (.str "tidy" 555), (.str "/claim/cut.py" 556), (.int (186) 0), (.int (1) 0), (.int (0) 0), (.int (0) 0), (.int (3) 0), (.ref 241), (.bool true), (.int (181) 0), (.ref 242), .none, .none, .none, (.ref 243), (.int (557) 0), (.int (186) 0), (.str "/claim/cut.py" 558)], #[]⟩),
  (245, ⟨(.type "function"), none, .func (fnD (stA 30) "tidy" .none .none .none (.str "gemrows.passes" 362) (.ref 244)), #[]⟩),
  (246, ⟨(.type "tuple"), none, .seq #[] 0, #[]⟩),
  (248, ⟨(.type "tuple"), none, .seq #[(.str "name" 563), (.str "told" 564), (.str "step" 565)] 0, #[]⟩),
  (249, ⟨(.type "tuple"), none, .seq #[] 0, #[]⟩),
  (251, ⟨(.type "code"), none, .fields #[(.str "pass_named" 560), (.str "pass_named" 561), (.str "/claim/cut.py" 562), (.int (189) 0), (.int (1) 0), (.int (0) 0), (.int (0) 0), (.int (3) 0), (.ref 246), (.bool true), (.int (181) 0), (.ref 247), .none, (.ref 248), (.ref 249), (.ref 250), (.int (566) 0), (.int (189) 0), (.str "/claim/cut.py" 567)], #[]⟩),
  (252, ⟨(.type "function"), none, .func (fnD (stA 31) "pass_named" .none .none .none (.str "gemrows.passes" 362) (.ref 251)), #[]⟩),
  (253, ⟨(.type "tuple"), none, .seq #[] 0, #[]⟩),
  (256, ⟨(.type "code"), none, .fields #[(.str "passed_by" 569), (.str "passed_by" 570), (.str "/claim/cut.py" 571), (.int (194) 0), (.int (2) 0), (.int (0) 0), (.int (0) 0), (.int (3) 0), (.ref 253), (.bool true), (.int (181) 0), (.ref 254), .none, .none, .none, (.ref 255), (.int (572) 0), (.int (194) 0), (.str "/claim/cut.py" 573)], #[]⟩),
  (257, ⟨(.type "function"), none, .func (fnD (stA 32) "passed_by" .none .none .none (.str "gemrows.passes" 362) (.ref 256)), #[]⟩),
  (258, ⟨(.type "tuple"), none, .seq #[] 0, #[]⟩),
  (260, ⟨(.type "tuple"), none, .seq #[(.str "script" 580), (.str "k" 581), (.str "cell" 582)] 0, #[]⟩),
  (261, ⟨(.type "tuple"), none, .seq #[] 0, #[]⟩),
  (263, ⟨(.type "code"), none, .fields #[(.str "_law_box" 577), (.str "_law_box" 578), (.str "/claim/cut.py" 579), (.int (201) 0), (.int (2) 0), (.int (0) 0), (.int (0) 0), (.int (3) 0), (.ref 258), (.bool true), (.int (181) 0), (.ref 259), .none, (.ref 260), (.ref 261), (.ref 262), (.int (583) 0), (.int (201) 0), (.str "/claim/cut.py" 584)], #[]⟩),
  (264, ⟨(.type "function"), none, .func (fnD (stA 34) "_law_box" .none .none .none (.str "law_nu0279_01" 575) (.ref 263)), #[]⟩),
  (265, ⟨(.type "tuple"), none, .seq #[] 0, #[]⟩),
  (267, ⟨(.type "tuple"), none, .seq #[(.str "box" 589), (.str "many" 590), (.str "digit" 591), (.str "blend" 592)] 0, #[]⟩),
  (268, ⟨(.type "tuple"), none, .seq #[] 0, #[]⟩),
  (270, ⟨(.type "code"), none, .fields #[(.str "_law_take" 586), (.str "_law_take" 587), (.str "/claim/cut.py" 588), (.int (204) 0), (.int (2) 0), (.int (0) 0), (.int (0) 0), (.int (3) 0), (.ref 265), (.bool true), (.int (181) 0), (.ref 266), .none, (.ref 267), (.ref 268), (.ref 269), (.int (593) 0), (.int (204) 0), (.str "/claim/cut.py" 594)], #[]⟩),
  (271, ⟨(.type "function"), none, .func (fnD (stA 35) "_law_take" .none .none .none (.str "law_nu0279_01" 575) (.ref 270)), #[]⟩),
  (272, ⟨(.type "tuple"), none, .seq #[] 0, #[]⟩),
  (274, ⟨(.type "tuple"), none, .seq #[(.str "box" 599), (.str "name" 600), (.str "at" 601), (.str "spot" 602), (.str "value" 603), (.str "holds" 604), (.str "branch" 605), (.str "op" 606), (.str "taken" 607), (.str "store" 608), (.str "plain" 609), (.str "pop" 610), (.str "leave" 611), (.str "rows" 612), (.str "flipped" 613), (.str "some" 614)] 0, #[]⟩),
  (275, ⟨(.type "tuple"), none, .seq #[] 0, #[]⟩),
  (277, ⟨(.type "code"), none, .fields #[(.str "_law_piece" 596), (.str "_law_piece" 597), (.str "/claim/cut.py" 598), (.int (213) 0), (.int (3) 0), (.int (0) 0), (.int (0) 0), (.int (3) 0), (.ref 272), (.bool true), (.int (181) 0), (.ref 273), .none, (.ref 274), (.ref 275), (.ref 276), (.int (615) 0), (.int (213) 0), (.str "/claim/cut.py" 616)], #[]⟩),
  (278, ⟨(.type "function"), none, .func (fnD (stA 36) "_law_piece" .none .none .none (.str "law_nu0279_01" 575) (.ref 277)), #[]⟩),
  (279, ⟨(.type "tuple"), none, .seq #[] 0, #[]⟩),
  (282, ⟨(.type "code"), none, .fields #[(.str "_law_between" 618), (.str "_law_between" 619), (.str "/claim/cut.py" 620), (.int (246) 0), (.int (3) 0), (.int (0) 0), (.int (0) 0), (.int (3) 0), (.ref 279), (.bool true), (.int (181) 0), (.ref 280), .none, .none, .none, (.ref 281), (.int (621) 0), (.int (246) 0), (.str "/claim/cut.py" 622)], #[]⟩),
  (283, ⟨(.type "function"), none, .func (fnD (stA 37) "_law_between" .none .none .none (.str "law_nu0279_01" 575) (.ref 282)), #[]⟩),
  (284, ⟨(.type "tuple"), none, .seq #[] 0, #[]⟩),
  (287, ⟨(.type "code"), none, .fields #[(.str "_law_code" 624), (.str "_law_code" 625), (.str "/claim/cut.py" 626), (.int (250) 0), (.int (4) 0), (.int (0) 0), (.int (0) 0), (.int (3) 0), (.ref 284), (.bool true), (.int (181) 0), (.ref 285), .none, .none, .none, (.ref 286), (.int (627) 0), (.int (250) 0), (.str "/claim/cut.py" 628)], #[]⟩),
  (288, ⟨(.type "function"), none, .func (fnD (stA 38) "_law_code" .none .none .none (.str "law_nu0279_01" 575) (.ref 287)), #[]⟩),
  (289, ⟨(.type "tuple"), none, .seq #[] 0, #[]⟩),
  (292, ⟨(.type "code"), none, .fields #[(.str "_law_rows" 630), (.str "_law_rows" 631), (.str "/claim/cut.py" 632), (.int (253) 0), (.int (1) 0), (.int (0) 0), (.int (0) 0), (.int (3) 0), (.ref 289), (.bool true), (.int (181) 0), (.ref 290), .none, .none, .none, (.ref 291), (.int (633) 0), (.int (253) 0), (.str "/claim/cut.py" 634)], #[]⟩),
  (293, ⟨(.type "function"), none, .func (fnD (stA 39) "_law_rows" .none .none .none (.str "law_nu0279_01" 575) (.ref 292)), #[]⟩),
  (294, ⟨(.type "tuple"), none, .seq #[] 0, #[]⟩),
  (296, ⟨(.type "tuple"), none, .seq #[(.str "flags" 639), (.str "found" 640), (.str "flag" 641)] 0, #[]⟩),
  (297, ⟨(.type "tuple"), none, .seq #[] 0, #[]⟩),
  (299, ⟨(.type "code"), none, .fields #[(.str "_law_places" 636), (.str "_law_places" 637), (.str "/claim/cut.py" 638), (.int (255) 0), (.int (1) 0), (.int (0) 0), (.int (0) 0), (.int (3) 0), (.ref 294), (.bool true), (.int (181) 0), (.ref 295), .none, (.ref 296), (.ref 297), (.ref 298), (.int (642) 0), (.int (255) 0), (.str "/claim/cut.py" 643)], #[]⟩),
  (300, ⟨(.type "function"), none, .func (fnD (stA 40) "_law_places" .none .none .none (.str "law_nu0279_01" 575) (.ref 299)), #[]⟩),
  (301, ⟨(.type "tuple"), none, .seq #[] 0, #[]⟩),
  (304, ⟨(.type "code"), none, .fields #[(.str "_law_scene" 645), (.str "_law_scene" 646), (.str "/claim/cut.py" 647), (.int (260) 0), (.int (3) 0), (.int (0) 0), (.int (0) 0), (.int (3) 0), (.ref 301), (.bool true), (.int (181) 0), (.ref 302), .none, .none, .none, (.ref 303), (.int (648) 0), (.int (260) 0), (.str "/claim/cut.py" 649)], #[]⟩),
  (305, ⟨(.type "function"), none, .func (fnD (stA 41) "_law_scene" .none .none .none (.str "law_nu0279_01" 575) (.ref 304)), #[]⟩),
  (306, ⟨(.type "tuple"), none, .seq #[] 0, #[]⟩),
  (309, ⟨(.type "code"), none, .fields #[(.str "_law_turned_right" 651), (.str "_law_turned_right" 652), (.str "/claim/cut.py" 653), (.int (276) 0), (.int (5) 0), (.int (0) 0), (.int (0) 0), (.int (3) 0), (.ref 306), (.bool true), (.int (181) 0), (.ref 307), .none, .none, .none, (.ref 308), (.int (654) 0), (.int (276) 0), (.str "/claim/cut.py" 655)], #[]⟩),
  (310, ⟨(.type "function"), none, .func (fnD (stA 42) "_law_turned_right" .none .none .none (.str "law_nu0279_01" 575) (.ref 309)), #[]⟩),
  (311, ⟨(.type "tuple"), none, .seq #[] 0, #[]⟩),
  (314, ⟨(.type "code"), none, .fields #[(.str "_law_pass_right" 657), (.str "_law_pass_right" 658), (.str "/claim/cut.py" 659), (.int (283) 0), (.int (3) 0), (.int (0) 0), (.int (0) 0), (.int (3) 0), (.ref 311), (.bool true), (.int (181) 0), (.ref 312), .none, .none, .none, (.ref 313), (.int (660) 0), (.int (283) 0), (.str "/claim/cut.py" 661)], #[]⟩),
  (315, ⟨(.type "function"), none, .func (fnD (stA 43) "_law_pass_right" .none .none .none (.str "law_nu0279_01" 575) (.ref 314)), #[]⟩),
  (316, ⟨(.type "tuple"), none, .seq #[] 0, #[]⟩),
  (319, ⟨(.type "code"), none, .fields #[(.str "law" 663), (.str "law" 664), (.str "/claim/cut.py" 665), (.int (295) 0), (.int (1) 0), (.int (0) 0), (.int (0) 0), (.int (3) 0), (.ref 316), (.bool true), (.int (181) 0), (.ref 317), .none, .none, .none, (.ref 318), (.int (666) 0), (.int (295) 0), (.str "/claim/cut.py" 667)], #[]⟩),
  (320, ⟨(.type "function"), none, .func (fnD (stA 44) "law" .none .none .none (.str "law_nu0279_01" 575) (.ref 319)), #[]⟩)
]
noncomputable def asL : List Addr := [2, 3, 15, 17, 18, 20, 21, 22, 23, 31, 32, 34, 35, 37, 38, 39, 41, 42, 44, 45, 46, 47, 48, 49, 50, 60, 62, 63, 65, 66, 67, 69, 70, 72, 73, 74, 75, 76, 77, 78, 88, 90, 91, 93, 94, 95, 97, 98, 100, 101, 102, 104, 105, 107, 108, 109, 110, 111, 112, 113, 116, 117, 118, 119, 121, 122, 124, 125, 126, 128, 129, 131, 132, 133, 135, 136, 138, 139, 140, 143, 144, 145, 147, 148, 150, 151, 152, 154, 155, 157, 158, 159, 161, 162, 164, 165, 166, 169, 170, 171, 173, 174, 176, 177, 178, 180, 181, 183, 184, 185, 187, 188, 190, 191, 192, 194, 195, 197, 198, 199, 201, 202, 204, 205, 206, 208, 209, 211, 212, 213, 215, 216, 218, 219, 220, 221, 222, 223, 224, 225, 226, 227, 228, 229, 232, 233, 234, 236, 237, 239, 240, 241, 244, 245, 246, 248, 249, 251, 252, 253, 256, 257, 258, 260, 261, 263, 264, 265, 267, 268, 270, 271, 272, 274, 275, 277, 278, 279, 282, 283, 284, 287, 288, 289, 292, 293, 294, 296, 297, 299, 300, 301, 304, 305, 306, 309, 310, 311, 314, 315, 316, 319, 320]
noncomputable def viewP : Program := { pw with main := { pw.main with body := ([0, 2, 3, 4, 5, 6, 8, 9, 10, 11, 12, 13, 14, 15, 16, 17, 18, 19, 20, 21, 22, 23, 24, 25, 26, 27, 28, 29, 30, 31, 32, 34, 35, 36, 37, 38, 39, 40, 41, 42, 43, 44] : List Nat).filterMap fun i => pw.main.body[i]? } }
noncomputable abbrev HK : Hook := kHook fragP asL (fun _ => by kernel_rfl)
noncomputable abbrev LO : List Str := [Str.ofString "PASSES"]
noncomputable def g11 (_ : Params) : Obj := ⟨(.type "tuple"), none, .seq #[] 0, #[]⟩
noncomputable def g12 (_ : Params) : Obj := ⟨.none, none, .fields #[], #[]⟩
noncomputable def g13 (_ : Params) : Obj := ⟨(.type "code"), none, .fields #[(.str "<module>" 182), (.str "<module>" 183), (.str "/claim/cut.py" 184), (.int (1) 0), (.int (0) 0), (.int (0) 0), (.int (0) 0), (.int (0) 0), (.ref 11), (.bool false), (.int (181) 0), (.ref 12), .none, .none, .none, .none, (.int (185) 0), (.int (1) 0), (.str "/claim/cut.py" 186)], #[]⟩
noncomputable def g14 (_ : Params) : Obj := ⟨(.type "frame"), none, .plain, #[some (.ref 13), some (.ref 3), some (.ref 3), none, some (.str "__main__" 164), none, some (.ref 0)]⟩
noncomputable def tree_1 (P : Params) : BT := (.node (boot_o_0 P) (.node (boot_o_1 P) (.node (boot_o_3 P) (.node (boot_o_7 P) .nil .nil) (.node (g11 P) .nil .nil)) (.node (boot_o_5 P) (.node (boot_o_9 P) .nil .nil) (.node (g13 P) .nil .nil))) (.node (boot_o_2 P) (.node (boot_o_4 P) (.node (boot_o_8 P) .nil .nil) (.node (g12 P) .nil .nil)) (.node (boot_o_6 P) (.node (boot_o_10 P) .nil .nil) (.node (g14 P) .nil .nil))))
noncomputable def g3_9 (P : Params) : Obj := ⟨(.type "dict"), none, .dict #[dE P "__name__" 165 (.str "gemrows.rows" 194), dE P "__doc__" 166 .none, dE P "__package__" 167 .none, dE P "__loader__" 168 (.builtin "__main__.__loader__#opaque"), dE P "__spec__" 169 .none, dE P "__annotations__" 170 (.ref 6), dE P "__builtins__" 171 (.ref 4), dE P "__file__" 173 (.str "/claim/cut.py" 172), dE P "__cached__" 174 .none, dE P "_wall" 193 (.ref 21), dE P "JUMPS" 200 (.ref 22), dE P "ENDS" 206 (.ref 23), dE P "Row" 252 (.ref 48), dE P "Catch" 297 (.ref 76), dE P "Code" 361 (.ref 111)] 15, #[]⟩
noncomputable def g12_9 (_ : Params) : Obj := ⟨.none, none, .fields #[(.int (1) 0), (.int (0) 0), (.ref 20), (.int (7) 0), (.int (0) 0), (.ref 29), (.int (18) 0), (.int (0) 0), (.ref 58), (.int (29) 0), (.int (0) 0), (.ref 86)], #[]⟩
noncomputable def g15 (_ : Params) : Obj := ⟨(.type "tuple"), none, .seq #[] 0, #[]⟩
noncomputable def g16 (_ : Params) : Obj := ⟨.none, none, .fields #[], #[]⟩
noncomputable def g17 (_ : Params) : Obj := ⟨(.type "tuple"), none, .seq #[(.str "k" 190)] 0, #[]⟩
noncomputable def g18 (_ : Params) : Obj := ⟨(.type "tuple"), none, .seq #[] 0, #[]⟩
noncomputable def g19 (_ : Params) : Obj := ⟨.none, none, .func (fnD0 (stA 0) "_wall"), #[]⟩
noncomputable def g20 (_ : Params) : Obj := ⟨(.type "code"), none, .fields #[(.str "_wall" 187), (.str "_wall" 188), (.str "/claim/cut.py" 189), (.int (1) 0), (.int (1) 0), (.int (0) 0), (.int (0) 0), (.int (3) 0), (.ref 15), (.bool true), (.int (181) 0), (.ref 16), .none, (.ref 17), (.ref 18), (.ref 19), (.int (191) 0), (.int (1) 0), (.str "/claim/cut.py" 192)], #[]⟩
noncomputable def g21 (_ : Params) : Obj := ⟨(.type "function"), none, .func (fnD (stA 0) "_wall" .none .none .none (.str "__main__" 164) (.ref 20)), #[]⟩
noncomputable def g22 (_ : Params) : Obj := ⟨(.type "tuple"), none, .seq #[(.str "jump" 196), (.str "jumpif" 197), (.str "jumpunless" 198), (.str "jumpnil" 199)] 0, #[]⟩
noncomputable def g23 (_ : Params) : Obj := ⟨(.type "tuple"), none, .seq #[(.str "jump" 201), (.str "leave" 202), (.str "out" 203), (.str "again" 204), (.str "nomatch" 205)] 0, #[]⟩
noncomputable def g24 (_ : Params) : Obj := ⟨(.type "tuple"), none, .seq #[] 0, #[]⟩
noncomputable def g25 (_ : Params) : Obj := ⟨(.type "builtin_function_or_method"), none, .fields #[(.builtin "type.__prepare__"), (.type "type")], #[]⟩
noncomputable def g26 (P : Params) : Obj := ⟨(.type "dict"), none, .dict #[dE P "__module__" 214 (.str "gemrows.rows" 194), dE P "__qualname__" 216 (.str "Row" 215), dE P "__firstlineno__" 218 (.int (7) 217), dE P "__init__" 231 (.ref 38), dE P "with_target" 239 (.ref 45), dE P "__static_attributes__" 245 (.ref 46)] 6, #[]⟩
noncomputable def g27 (_ : Params) : Obj := ⟨(.type "tuple"), none, .seq #[] 0, #[]⟩
noncomputable def g28 (_ : Params) : Obj := ⟨.none, none, .fields #[(.int (9) 0), (.int (4) 0), (.ref 37), (.int (16) 0), (.int (4) 0), (.ref 44)], #[]⟩
noncomputable def g29 (_ : Params) : Obj := ⟨(.type "code"), none, .fields #[(.str "Row" 209), (.str "Row" 210), (.str "/claim/cut.py" 211), (.int (7) 0), (.int (0) 0), (.int (0) 0), (.int (0) 0), (.int (0) 0), (.ref 27), (.bool false), (.int (181) 0), (.ref 28), .none, .none, .none, .none, (.int (212) 0), (.int (7) 0), (.str "/claim/cut.py" 213)], #[]⟩
noncomputable def g30 (_ : Params) : Obj := ⟨(.type "frame"), none, .plain, #[some (.ref 29), some (.ref 3), some (.ref 26), none, some (.str "gemrows.rows" 194), none, some (.ref 0)]⟩
noncomputable def g31 (_ : Params) : Obj := ⟨(.type "tuple"), none, .seq #[.none, .none, .none, (.int (0) 219)] 0, #[]⟩
noncomputable def g32 (_ : Params) : Obj := ⟨(.type "tuple"), none, .seq #[] 0, #[]⟩
noncomputable def g33 (_ : Params) : Obj := ⟨.none, none, .fields #[], #[]⟩
noncomputable def g34 (_ : Params) : Obj := ⟨(.type "tuple"), none, .seq #[(.str "self" 223), (.str "op" 224), (.str "a" 225), (.str "b" 226), (.str "c" 227), (.str "line" 228)] 0, #[]⟩
noncomputable def g35 (_ : Params) : Obj := ⟨(.type "tuple"), none, .seq #[] 0, #[]⟩
noncomputable def g36 (_ : Params) : Obj := ⟨.none, none, .func (fnD0 (stM 4 0) "Row.__init__"), #[]⟩
noncomputable def g37 (_ : Params) : Obj := ⟨(.type "code"), none, .fields #[(.str "__init__" 220), (.str "Row.__init__" 221), (.str "/claim/cut.py" 222), (.int (9) 0), (.int (6) 0), (.int (0) 0), (.int (0) 0), (.int (3) 0), (.ref 32), (.bool true), (.int (181) 0), (.ref 33), .none, (.ref 34), (.ref 35), (.ref 36), (.int (229) 0), (.int (9) 0), (.str "/claim/cut.py" 230)], #[]⟩
noncomputable def g38 (_ : Params) : Obj := ⟨(.type "function"), none, .func (fnD (stM 4 0) "Row.__init__" (.ref 31) .none .none (.str "gemrows.rows" 194) (.ref 37)), #[]⟩
noncomputable def g39 (_ : Params) : Obj := ⟨(.type "tuple"), none, .seq #[] 0, #[]⟩
noncomputable def g40 (_ : Params) : Obj := ⟨.none, none, .fields #[], #[]⟩
noncomputable def g41 (_ : Params) : Obj := ⟨(.type "tuple"), none, .seq #[(.str "self" 235), (.str "target" 236)] 0, #[]⟩
noncomputable def g42 (_ : Params) : Obj := ⟨(.type "tuple"), none, .seq #[] 0, #[]⟩
noncomputable def g43 (_ : Params) : Obj := ⟨.none, none, .func (fnD0 (stM 4 1) "Row.with_target"), #[]⟩
noncomputable def g44 (_ : Params) : Obj := ⟨(.type "code"), none, .fields #[(.str "with_target" 232), (.str "Row.with_target" 233), (.str "/claim/cut.py" 234), (.int (16) 0), (.int (2) 0), (.int (0) 0), (.int (0) 0), (.int (3) 0), (.ref 39), (.bool true), (.int (181) 0), (.ref 40), .none, (.ref 41), (.ref 42), (.ref 43), (.int (237) 0), (.int (16) 0), (.str "/claim/cut.py" 238)], #[]⟩
noncomputable def g45 (_ : Params) : Obj := ⟨(.type "function"), none, .func (fnD (stM 4 1) "Row.with_target" .none .none .none (.str "gemrows.rows" 194) (.ref 44)), #[]⟩
noncomputable def g46 (_ : Params) : Obj := ⟨(.type "tuple"), none, .seq #[(.str "a" 240), (.str "b" 241), (.str "c" 242), (.str "line" 243), (.str "op" 244)] 0, #[]⟩
noncomputable def g47 (P : Params) : Obj := ⟨(.type "dict"), none, .dict #[dE P "__module__" 214 (.str "gemrows.rows" 194), dE P "__firstlineno__" 218 (.int (7) 217), dE P "__init__" 231 (.ref 38), dE P "with_target" 239 (.ref 45), dE P "__static_attributes__" 245 (.ref 46), dE P "__dict__" 247 (.ref 49), dE P "__weakref__" 249 (.ref 50), dE P "__doc__" 250 .none] 4, #[]⟩
noncomputable def g48 (_ : Params) : Obj := ⟨(.type "type"), none, .cls { name := "Row", bases := [(.type "object")], mro := [(.ref 48), (.type "object")], ns := 47, qualname := "Row", hasDict := true, slotNames := [], subclasses := [], abstract := false, collection := none, hasDel := false }, #[none, none, some (.str "Row" 207), some (.str "Row" 215), some (.builtin "object.__new__"), some (.bool true)]⟩
noncomputable def g49 (_ : Params) : Obj := ⟨(.type "getset_descriptor"), none, .fields #[(.str "__dict__" 246), (.ref 48), (.builtin "function.__dict__"), (.builtin "function.__dict__#set")], #[]⟩
noncomputable def g50 (_ : Params) : Obj := ⟨(.type "getset_descriptor"), none, .fields #[(.str "__weakref__" 248), (.ref 48), (.builtin "ExceptionGroup.__weakref__"), .none], #[]⟩
noncomputable def g51 (_ : Params) : Obj := ⟨(.type "super"), none, .fields #[(.ref 48), (.ref 48), (.ref 48)], #[]⟩
noncomputable def g52 (_ : Params) : Obj := ⟨(.type "builtin_function_or_method"), none, .fields #[(.builtin "object.__init_subclass__"), (.ref 48)], #[]⟩
noncomputable def g53 (_ : Params) : Obj := ⟨(.type "tuple"), none, .seq #[] 0, #[]⟩
noncomputable def g54 (_ : Params) : Obj := ⟨(.type "builtin_function_or_method"), none, .fields #[(.builtin "type.__prepare__"), (.type "type")], #[]⟩
noncomputable def g55 (P : Params) : Obj := ⟨(.type "dict"), none, .dict #[dE P "__module__" 260 (.str "gemrows.rows" 194), dE P "__qualname__" 262 (.str "Catch" 261), dE P "__firstlineno__" 264 (.int (18) 263), dE P "__init__" 276 (.ref 66), dE P "covers" 284 (.ref 73), dE P "__static_attributes__" 290 (.ref 74)] 6, #[]⟩
noncomputable def g56 (_ : Params) : Obj := ⟨(.type "tuple"), none, .seq #[] 0, #[]⟩
noncomputable def g57 (_ : Params) : Obj := ⟨.none, none, .fields #[(.int (20) 0), (.int (4) 0), (.ref 65), (.int (27) 0), (.int (4) 0), (.ref 72)], #[]⟩
noncomputable def g58 (_ : Params) : Obj := ⟨(.type "code"), none, .fields #[(.str "Catch" 255), (.str "Catch" 256), (.str "/claim/cut.py" 257), (.int (18) 0), (.int (0) 0), (.int (0) 0), (.int (0) 0), (.int (0) 0), (.ref 56), (.bool false), (.int (181) 0), (.ref 57), .none, .none, .none, .none, (.int (258) 0), (.int (18) 0), (.str "/claim/cut.py" 259)], #[]⟩
noncomputable def g59 (_ : Params) : Obj := ⟨(.type "frame"), none, .plain, #[some (.ref 58), some (.ref 3), some (.ref 55), none, some (.str "gemrows.rows" 194), none, some (.ref 0)]⟩
noncomputable def g60 (_ : Params) : Obj := ⟨(.type "tuple"), none, .seq #[] 0, #[]⟩
noncomputable def g61 (_ : Params) : Obj := ⟨.none, none, .fields #[], #[]⟩
noncomputable def g62 (_ : Params) : Obj := ⟨(.type "tuple"), none, .seq #[(.str "self" 268), (.str "sort" 269), (.str "first" 270), (.str "last" 271), (.str "target" 272), (.str "depth" 273)] 0, #[]⟩
noncomputable def g63 (_ : Params) : Obj := ⟨(.type "tuple"), none, .seq #[] 0, #[]⟩
noncomputable def g64 (_ : Params) : Obj := ⟨.none, none, .func (fnD0 (stM 5 0) "Catch.__init__"), #[]⟩
noncomputable def g65 (_ : Params) : Obj := ⟨(.type "code"), none, .fields #[(.str "__init__" 265), (.str "Catch.__init__" 266), (.str "/claim/cut.py" 267), (.int (20) 0), (.int (6) 0), (.int (0) 0), (.int (0) 0), (.int (3) 0), (.ref 60), (.bool true), (.int (181) 0), (.ref 61), .none, (.ref 62), (.ref 63), (.ref 64), (.int (274) 0), (.int (20) 0), (.str "/claim/cut.py" 275)], #[]⟩
noncomputable def g66 (_ : Params) : Obj := ⟨(.type "function"), none, .func (fnD (stM 5 0) "Catch.__init__" .none .none .none (.str "gemrows.rows" 194) (.ref 65)), #[]⟩
noncomputable def g67 (_ : Params) : Obj := ⟨(.type "tuple"), none, .seq #[] 0, #[]⟩
noncomputable def g68 (_ : Params) : Obj := ⟨.none, none, .fields #[], #[]⟩
noncomputable def g69 (_ : Params) : Obj := ⟨(.type "tuple"), none, .seq #[(.str "self" 280), (.str "place" 281)] 0, #[]⟩
noncomputable def g70 (_ : Params) : Obj := ⟨(.type "tuple"), none, .seq #[] 0, #[]⟩
noncomputable def g71 (_ : Params) : Obj := ⟨.none, none, .func (fnD0 (stM 5 1) "Catch.covers"), #[]⟩
noncomputable def g72 (_ : Params) : Obj := ⟨(.type "code"), none, .fields #[(.str "covers" 277), (.str "Catch.covers" 278), (.str "/claim/cut.py" 279), (.int (27) 0), (.int (2) 0), (.int (0) 0), (.int (0) 0), (.int (3) 0), (.ref 67), (.bool true), (.int (181) 0), (.ref 68), .none, (.ref 69), (.ref 70), (.ref 71), (.int (282) 0), (.int (27) 0), (.str "/claim/cut.py" 283)], #[]⟩
noncomputable def g73 (_ : Params) : Obj := ⟨(.type "function"), none, .func (fnD (stM 5 1) "Catch.covers" .none .none .none (.str "gemrows.rows" 194) (.ref 72)), #[]⟩
noncomputable def g74 (_ : Params) : Obj := ⟨(.type "tuple"), none, .seq #[(.str "depth" 285), (.str "first" 286), (.str "last" 287), (.str "sort" 288), (.str "target" 289)] 0, #[]⟩
noncomputable def g75 (P : Params) : Obj := ⟨(.type "dict"), none, .dict #[dE P "__module__" 260 (.str "gemrows.rows" 194), dE P "__firstlineno__" 264 (.int (18) 263), dE P "__init__" 276 (.ref 66), dE P "covers" 284 (.ref 73), dE P "__static_attributes__" 290 (.ref 74), dE P "__dict__" 292 (.ref 77), dE P "__weakref__" 294 (.ref 78), dE P "__doc__" 295 .none] 4, #[]⟩
noncomputable def g76 (_ : Params) : Obj := ⟨(.type "type"), none, .cls { name := "Catch", bases := [(.type "object")], mro := [(.ref 76), (.type "object")], ns := 75, qualname := "Catch", hasDict := true, slotNames := [], subclasses := [], abstract := false, collection := none, hasDel := false }, #[none, none, some (.str "Catch" 253), some (.str "Catch" 261), some (.builtin "object.__new__"), some (.bool true)]⟩
noncomputable def g77 (_ : Params) : Obj := ⟨(.type "getset_descriptor"), none, .fields #[(.str "__dict__" 291), (.ref 76), (.builtin "function.__dict__"), (.builtin "function.__dict__#set")], #[]⟩
noncomputable def g78 (_ : Params) : Obj := ⟨(.type "getset_descriptor"), none, .fields #[(.str "__weakref__" 293), (.ref 76), (.builtin "ExceptionGroup.__weakref__"), .none], #[]⟩
noncomputable def g79 (_ : Params) : Obj := ⟨(.type "super"), none, .fields #[(.ref 76), (.ref 76), (.ref 76)], #[]⟩
noncomputable def g80 (_ : Params) : Obj := ⟨(.type "builtin_function_or_method"), none, .fields #[(.builtin "object.__init_subclass__"), (.ref 76)], #[]⟩
noncomputable def g81 (_ : Params) : Obj := ⟨(.type "tuple"), none, .seq #[] 0, #[]⟩
noncomputable def g82 (_ : Params) : Obj := ⟨(.type "builtin_function_or_method"), none, .fields #[(.builtin "type.__prepare__"), (.type "type")], #[]⟩
noncomputable def g83 (P : Params) : Obj := ⟨(.type "dict"), none, .dict #[dE P "__module__" 305 (.str "gemrows.rows" 194), dE P "__qualname__" 307 (.str "Code" 306), dE P "__firstlineno__" 309 (.int (29) 308), dE P "__init__" 324 (.ref 94), dE P "catch_at" 333 (.ref 101), dE P "with_rows" 344 (.ref 108), dE P "__static_attributes__" 354 (.ref 109)] 7, #[]⟩
noncomputable def g84 (_ : Params) : Obj := ⟨(.type "tuple"), none, .seq #[] 0, #[]⟩
noncomputable def g85 (_ : Params) : Obj := ⟨.none, none, .fields #[(.int (31) 0), (.int (4) 0), (.ref 93), (.int (42) 0), (.int (4) 0), (.ref 100), (.int (45) 0), (.int (4) 0), (.ref 107)], #[]⟩
noncomputable def g86 (_ : Params) : Obj := ⟨(.type "code"), none, .fields #[(.str "Code" 300), (.str "Code" 301), (.str "/claim/cut.py" 302), (.int (29) 0), (.int (0) 0), (.int (0) 0), (.int (0) 0), (.int (0) 0), (.ref 84), (.bool false), (.int (181) 0), (.ref 85), .none, .none, .none, .none, (.int (303) 0), (.int (29) 0), (.str "/claim/cut.py" 304)], #[]⟩
noncomputable def g87 (_ : Params) : Obj := ⟨(.type "frame"), none, .plain, #[some (.ref 86), some (.ref 3), some (.ref 83), none, some (.str "gemrows.rows" 194), none, some (.ref 0)]⟩
noncomputable def g88 (_ : Params) : Obj := ⟨(.type "tuple"), none, .seq #[] 0, #[]⟩
noncomputable def g89 (_ : Params) : Obj := ⟨.none, none, .fields #[], #[]⟩
noncomputable def g90 (_ : Params) : Obj := ⟨(.type "tuple"), none, .seq #[(.str "self" 313), (.str "kind" 314), (.str "name" 315), (.str "params" 316), (.str "slots" 317), (.str "rows" 318), (.str "catches" 319), (.str "children" 320), (.str "starts" 321)] 0, #[]⟩
noncomputable def g91 (_ : Params) : Obj := ⟨(.type "tuple"), none, .seq #[] 0, #[]⟩
noncomputable def g92 (_ : Params) : Obj := ⟨.none, none, .func (fnD0 (stM 6 0) "Code.__init__"), #[]⟩
noncomputable def g93 (_ : Params) : Obj := ⟨(.type "code"), none, .fields #[(.str "__init__" 310), (.str "Code.__init__" 311), (.str "/claim/cut.py" 312), (.int (31) 0), (.int (9) 0), (.int (0) 0), (.int (0) 0), (.int (3) 0), (.ref 88), (.bool true), (.int (181) 0), (.ref 89), .none, (.ref 90), (.ref 91), (.ref 92), (.int (322) 0), (.int (31) 0), (.str "/claim/cut.py" 323)], #[]⟩
noncomputable def g94 (_ : Params) : Obj := ⟨(.type "function"), none, .func (fnD (stM 6 0) "Code.__init__" .none .none .none (.str "gemrows.rows" 194) (.ref 93)), #[]⟩
noncomputable def g95 (_ : Params) : Obj := ⟨(.type "tuple"), none, .seq #[] 0, #[]⟩
noncomputable def g96 (_ : Params) : Obj := ⟨.none, none, .fields #[], #[]⟩
noncomputable def g97 (_ : Params) : Obj := ⟨(.type "tuple"), none, .seq #[(.str "self" 328), (.str "place" 329), (.str "sorts" 330)] 0, #[]⟩
noncomputable def g98 (_ : Params) : Obj := ⟨(.type "tuple"), none, .seq #[] 0, #[]⟩
noncomputable def g99 (_ : Params) : Obj := ⟨.none, none, .func (fnD0 (stM 6 1) "Code.catch_at"), #[]⟩
noncomputable def g100 (_ : Params) : Obj := ⟨(.type "code"), none, .fields #[(.str "catch_at" 325), (.str "Code.catch_at" 326), (.str "/claim/cut.py" 327), (.int (42) 0), (.int (3) 0), (.int (0) 0), (.int (0) 0), (.int (3) 0), (.ref 95), (.bool true), (.int (181) 0), (.ref 96), .none, (.ref 97), (.ref 98), (.ref 99), (.int (331) 0), (.int (42) 0), (.str "/claim/cut.py" 332)], #[]⟩
noncomputable def g101 (_ : Params) : Obj := ⟨(.type "function"), none, .func (fnD (stM 6 1) "Code.catch_at" .none .none .none (.str "gemrows.rows" 194) (.ref 100)), #[]⟩
noncomputable def g102 (_ : Params) : Obj := ⟨(.type "tuple"), none, .seq #[] 0, #[]⟩
noncomputable def g103 (_ : Params) : Obj := ⟨.none, none, .fields #[], #[]⟩
noncomputable def g104 (_ : Params) : Obj := ⟨(.type "tuple"), none, .seq #[(.str "self" 337), (.str "rows" 338), (.str "catches" 339), (.str "starts" 340), (.str "children" 341)] 0, #[]⟩
noncomputable def g105 (_ : Params) : Obj := ⟨(.type "tuple"), none, .seq #[] 0, #[]⟩
noncomputable def g106 (_ : Params) : Obj := ⟨.none, none, .func (fnD0 (stM 6 2) "Code.with_rows"), #[]⟩
noncomputable def g107 (_ : Params) : Obj := ⟨(.type "code"), none, .fields #[(.str "with_rows" 334), (.str "Code.with_rows" 335), (.str "/claim/cut.py" 336), (.int (45) 0), (.int (5) 0), (.int (0) 0), (.int (0) 0), (.int (3) 0), (.ref 102), (.bool true), (.int (181) 0), (.ref 103), .none, (.ref 104), (.ref 105), (.ref 106), (.int (342) 0), (.int (45) 0), (.str "/claim/cut.py" 343)], #[]⟩
noncomputable def g108 (_ : Params) : Obj := ⟨(.type "function"), none, .func (fnD (stM 6 2) "Code.with_rows" .none .none .none (.str "gemrows.rows" 194) (.ref 107)), #[]⟩
noncomputable def g109 (_ : Params) : Obj := ⟨(.type "tuple"), none, .seq #[(.str "catches" 345), (.str "children" 346), (.str "kind" 347), (.str "name" 348), (.str "number" 349), (.str "params" 350), (.str "rows" 351), (.str "slots" 352), (.str "starts" 353)] 0, #[]⟩
noncomputable def g110 (P : Params) : Obj := ⟨(.type "dict"), none, .dict #[dE P "__module__" 305 (.str "gemrows.rows" 194), dE P "__firstlineno__" 309 (.int (29) 308), dE P "__init__" 324 (.ref 94), dE P "catch_at" 333 (.ref 101), dE P "with_rows" 344 (.ref 108), dE P "__static_attributes__" 354 (.ref 109), dE P "__dict__" 356 (.ref 112), dE P "__weakref__" 358 (.ref 113), dE P "__doc__" 359 .none] 4, #[]⟩
noncomputable def g111 (_ : Params) : Obj := ⟨(.type "type"), none, .cls { name := "Code", bases := [(.type "object")], mro := [(.ref 111), (.type "object")], ns := 110, qualname := "Code", hasDict := true, slotNames := [], subclasses := [], abstract := false, collection := none, hasDel := false }, #[none, none, some (.str "Code" 298), some (.str "Code" 306), some (.builtin "object.__new__"), some (.bool true)]⟩
noncomputable def g112 (_ : Params) : Obj := ⟨(.type "getset_descriptor"), none, .fields #[(.str "__dict__" 355), (.ref 111), (.builtin "function.__dict__"), (.builtin "function.__dict__#set")], #[]⟩
noncomputable def g113 (_ : Params) : Obj := ⟨(.type "getset_descriptor"), none, .fields #[(.str "__weakref__" 357), (.ref 111), (.builtin "ExceptionGroup.__weakref__"), .none], #[]⟩
noncomputable def g114 (_ : Params) : Obj := ⟨(.type "super"), none, .fields #[(.ref 111), (.ref 111), (.ref 111)], #[]⟩
noncomputable def g115 (_ : Params) : Obj := ⟨(.type "builtin_function_or_method"), none, .fields #[(.builtin "object.__init_subclass__"), (.ref 111)], #[]⟩
noncomputable def tree_9 (P : Params) : BT := (.node (boot_o_0 P) (.node (boot_o_1 P) (.node (g3_9 P) (.node (boot_o_7 P) (.node (g15 P) (.node (g31 P) (.node (g63 P) .nil .nil) (.node (g95 P) .nil .nil)) (.node (g47 P) (.node (g79 P) .nil .nil) (.node (g111 P) .nil .nil))) (.node (g23 P) (.node (g39 P) (.node (g71 P) .nil .nil) (.node (g103 P) .nil .nil)) (.node (g55 P) (.node (g87 P) .nil .nil) .nil))) (.node (g11 P) (.node (g19 P) (.node (g35 P) (.node (g67 P) .nil .nil) (.node (g99 P) .nil .nil)) (.node (g51 P) (.node (g83 P) .nil .nil) (.node (g115 P) .nil .nil))) (.node (g27 P) (.node (g43 P) (.node (g75 P) .nil .nil) (.node (g107 P) .nil .nil)) (.node (g59 P) (.node (g91 P) .nil .nil) .nil)))) (.node (boot_o_5 P) (.node (boot_o_9 P) (.node (g17 P) (.node (g33 P) (.node (g65 P) .nil .nil) (.node (g97 P) .nil .nil)) (.node (g49 P) (.node (g81 P) .nil .nil) (.node (g113 P) .nil .nil))) (.node (g25 P) (.node (g41 P) (.node (g73 P) .nil .nil) (.node (g105 P) .nil .nil)) (.node (g57 P) (.node (g89 P) .nil .nil) .nil))) (.node (g13 P) (.node (g21 P) (.node (g37 P) (.node (g69 P) .nil .nil) (.node (g101 P) .nil .nil)) (.node (g53 P) (.node (g85 P) .nil .nil) .nil)) (.node (g29 P) (.node (g45 P) (.node (g77 P) .nil .nil) (.node (g109 P) .nil .nil)) (.node (g61 P) (.node (g93 P) .nil .nil) .nil))))) (.node (boot_o_2 P) (.node (boot_o_4 P) (.node (boot_o_8 P) (.node (g16 P) (.node (g32 P) (.node (g64 P) .nil .nil) (.node (g96 P) .nil .nil)) (.node (g48 P) (.node (g80 P) .nil .nil) (.node (g112 P) .nil .nil))) (.node (g24 P) (.node (g40 P) (.node (g72 P) .nil .nil) (.node (g104 P) .nil .nil)) (.node (g56 P) (.node (g88 P) .nil .nil) .nil))) (.node (g12_9 P) (.node (g20 P) (.node (g36 P) (.node (g68 P) .nil .nil) (.node (g100 P) .nil .nil)) (.node (g52 P) (.node (g84 P) .nil .nil) .nil)) (.node (g28 P) (.node (g44 P) (.node (g76 P) .nil .nil) (.node (g108 P) .nil .nil)) (.node (g60 P) (.node (g92 P) .nil .nil) .nil)))) (.node (boot_o_6 P) (.node (boot_o_10 P) (.node (g18 P) (.node (g34 P) (.node (g66 P) .nil .nil) (.node (g98 P) .nil .nil)) (.node (g50 P) (.node (g82 P) .nil .nil) (.node (g114 P) .nil .nil))) (.node (g26 P) (.node (g42 P) (.node (g74 P) .nil .nil) (.node (g106 P) .nil .nil)) (.node (g58 P) (.node (g90 P) .nil .nil) .nil))) (.node (g14 P) (.node (g22 P) (.node (g38 P) (.node (g70 P) .nil .nil) (.node (g102 P) .nil .nil)) (.node (g54 P) (.node (g86 P) .nil .nil) .nil)) (.node (g30 P) (.node (g46 P) (.node (g78 P) .nil .nil) (.node (g110 P) .nil .nil)) (.node (g62 P) (.node (g94 P) .nil .nil) .nil))))))
noncomputable def g3_24 (P : Params) : Obj := ⟨(.type "dict"), none, .dict #[dE P "__name__" 165 (.str "gemrows.passes" 362), dE P "__doc__" 166 .none, dE P "__package__" 167 .none, dE P "__loader__" 168 (.builtin "__main__.__loader__#opaque"), dE P "__spec__" 169 .none, dE P "__annotations__" 170 (.ref 6), dE P "__builtins__" 171 (.ref 4), dE P "__file__" 173 (.str "/claim/cut.py" 172), dE P "__cached__" 174 .none, dE P "_wall" 193 (.ref 21), dE P "JUMPS" 200 (.ref 22), dE P "ENDS" 206 (.ref 23), dE P "Row" 252 (.ref 48), dE P "Catch" 297 (.ref 76), dE P "Code" 361 (.ref 111), dE P "MOST_ROUNDS" 365 (.int (24) 364), dE P "PLAIN" 373 (.ref 116), dE P "STORES" 378 (.ref 117), dE P "BRANCHES" 381 (.ref 118), dE P "is_op" 389 (.ref 125), dE P "truth" 396 (.ref 132), dE P "marks_of" 407 (.ref 139), dE P "pressed" 413 (.ref 144), dE P "end_of_jumps" 423 (.ref 151), dE P "threaded" 433 (.ref 158), dE P "reached" 445 (.ref 165), dE P "without_dead" 451 (.ref 170), dE P "without_pushes" 461 (.ref 177), dE P "without_copies" 471 (.ref 184)] 29, #[]⟩
noncomputable def g12_24 (_ : Params) : Obj := ⟨.none, none, .fields #[(.int (1) 0), (.int (0) 0), (.ref 20), (.int (7) 0), (.int (0) 0), (.ref 29), (.int (18) 0), (.int (0) 0), (.ref 58), (.int (29) 0), (.int (0) 0), (.ref 86), (.int (52) 0), (.int (0) 0), (.ref 124), (.int (54) 0), (.int (0) 0), (.ref 131), (.int (56) 0), (.int (0) 0), (.ref 138), (.int (66) 0), (.int (0) 0), (.ref 143), (.int (80) 0), (.int (0) 0), (.ref 150), (.int (87) 0), (.int (0) 0), (.ref 157), (.int (99) 0), (.int (0) 0), (.ref 164), (.int (116) 0), (.int (0) 0), (.ref 169), (.int (118) 0), (.int (0) 0), (.ref 176), (.int (124) 0), (.int (0) 0), (.ref 183)], #[]⟩
noncomputable def g116 (_ : Params) : Obj := ⟨(.type "tuple"), none, .seq #[(.str "push" 366), (.str "self" 367), (.str "getl" 368), (.str "geti" 369), (.str "getg" 370), (.str "dup" 371), (.str "blockgiven" 372)] 0, #[]⟩
noncomputable def g117 (_ : Params) : Obj := ⟨(.type "tuple"), none, .seq #[(.str "setl" 374), (.str "seti" 375), (.str "setg" 376), (.str "setc" 377)] 0, #[]⟩
noncomputable def g118 (_ : Params) : Obj := ⟨(.type "tuple"), none, .seq #[(.str "jumpif" 379), (.str "jumpunless" 380)] 0, #[]⟩
noncomputable def g119 (_ : Params) : Obj := ⟨(.type "tuple"), none, .seq #[] 0, #[]⟩
noncomputable def g120 (_ : Params) : Obj := ⟨.none, none, .fields #[], #[]⟩
noncomputable def g121 (_ : Params) : Obj := ⟨(.type "tuple"), none, .seq #[(.str "row" 385), (.str "ops" 386)] 0, #[]⟩
noncomputable def g122 (_ : Params) : Obj := ⟨(.type "tuple"), none, .seq #[] 0, #[]⟩
noncomputable def g123 (_ : Params) : Obj := ⟨.none, none, .func (fnD0 (stA 12) "is_op"), #[]⟩
noncomputable def g124 (_ : Params) : Obj := ⟨(.type "code"), none, .fields #[(.str "is_op" 382), (.str "is_op" 383), (.str "/claim/cut.py" 384), (.int (52) 0), (.int (2) 0), (.int (0) 0), (.int (0) 0), (.int (3) 0), (.ref 119), (.bool true), (.int (181) 0), (.ref 120), .none, (.ref 121), (.ref 122), (.ref 123), (.int (387) 0), (.int (52) 0), (.str "/claim/cut.py" 388)], #[]⟩
noncomputable def g125 (_ : Params) : Obj := ⟨(.type "function"), none, .func (fnD (stA 12) "is_op" .none .none .none (.str "gemrows.passes" 362) (.ref 124)), #[]⟩
noncomputable def g126 (_ : Params) : Obj := ⟨(.type "tuple"), none, .seq #[] 0, #[]⟩
noncomputable def g127 (_ : Params) : Obj := ⟨.none, none, .fields #[], #[]⟩
noncomputable def g128 (_ : Params) : Obj := ⟨(.type "tuple"), none, .seq #[(.str "value" 393)] 0, #[]⟩
noncomputable def g129 (_ : Params) : Obj := ⟨(.type "tuple"), none, .seq #[] 0, #[]⟩
noncomputable def g130 (_ : Params) : Obj := ⟨.none, none, .func (fnD0 (stA 13) "truth"), #[]⟩
noncomputable def g131 (_ : Params) : Obj := ⟨(.type "code"), none, .fields #[(.str "truth" 390), (.str "truth" 391), (.str "/claim/cut.py" 392), (.int (54) 0), (.int (1) 0), (.int (0) 0), (.int (0) 0), (.int (3) 0), (.ref 126), (.bool true), (.int (181) 0), (.ref 127), .none, (.ref 128), (.ref 129), (.ref 130), (.int (394) 0), (.int (54) 0), (.str "/claim/cut.py" 395)], #[]⟩
noncomputable def g132 (_ : Params) : Obj := ⟨(.type "function"), none, .func (fnD (stA 13) "truth" .none .none .none (.str "gemrows.passes" 362) (.ref 131)), #[]⟩
noncomputable def g133 (_ : Params) : Obj := ⟨(.type "tuple"), none, .seq #[] 0, #[]⟩
noncomputable def g134 (_ : Params) : Obj := ⟨.none, none, .fields #[], #[]⟩
noncomputable def g135 (_ : Params) : Obj := ⟨(.type "tuple"), none, .seq #[(.str "code" 400), (.str "found" 401), (.str "row" 402), (.str "one" 403), (.str "start" 404)] 0, #[]⟩
noncomputable def g136 (_ : Params) : Obj := ⟨(.type "tuple"), none, .seq #[] 0, #[]⟩
noncomputable def g137 (_ : Params) : Obj := ⟨.none, none, .func (fnD0 (stA 14) "marks_of"), #[]⟩
noncomputable def g138 (_ : Params) : Obj := ⟨(.type "code"), none, .fields #[(.str "marks_of" 397), (.str "marks_of" 398), (.str "/claim/cut.py" 399), (.int (56) 0), (.int (1) 0), (.int (0) 0), (.int (0) 0), (.int (3) 0), (.ref 133), (.bool true), (.int (181) 0), (.ref 134), .none, (.ref 135), (.ref 136), (.ref 137), (.int (405) 0), (.int (56) 0), (.str "/claim/cut.py" 406)], #[]⟩
noncomputable def g139 (_ : Params) : Obj := ⟨(.type "function"), none, .func (fnD (stA 14) "marks_of" .none .none .none (.str "gemrows.passes" 362) (.ref 138)), #[]⟩
noncomputable def g140 (_ : Params) : Obj := ⟨(.type "tuple"), none, .seq #[] 0, #[]⟩
noncomputable def g141 (_ : Params) : Obj := ⟨.none, none, .fields #[], #[]⟩
noncomputable def g142 (_ : Params) : Obj := ⟨.none, none, .func (fnD0 (stA 15) "pressed"), #[]⟩
noncomputable def g143 (_ : Params) : Obj := ⟨(.type "code"), none, .fields #[(.str "pressed" 408), (.str "pressed" 409), (.str "/claim/cut.py" 410), (.int (66) 0), (.int (2) 0), (.int (0) 0), (.int (0) 0), (.int (3) 0), (.ref 140), (.bool true), (.int (181) 0), (.ref 141), .none, .none, .none, (.ref 142), (.int (411) 0), (.int (66) 0), (.str "/claim/cut.py" 412)], #[]⟩
noncomputable def g144 (_ : Params) : Obj := ⟨(.type "function"), none, .func (fnD (stA 15) "pressed" .none .none .none (.str "gemrows.passes" 362) (.ref 143)), #[]⟩
noncomputable def g145 (_ : Params) : Obj := ⟨(.type "tuple"), none, .seq #[] 0, #[]⟩
noncomputable def g146 (_ : Params) : Obj := ⟨.none, none, .fields #[], #[]⟩
noncomputable def g147 (_ : Params) : Obj := ⟨(.type "tuple"), none, .seq #[(.str "code" 417), (.str "place" 418), (.str "found" 419), (.str "turn" 420)] 0, #[]⟩
noncomputable def g148 (_ : Params) : Obj := ⟨(.type "tuple"), none, .seq #[] 0, #[]⟩
noncomputable def g149 (_ : Params) : Obj := ⟨.none, none, .func (fnD0 (stA 16) "end_of_jumps"), #[]⟩
noncomputable def g150 (_ : Params) : Obj := ⟨(.type "code"), none, .fields #[(.str "end_of_jumps" 414), (.str "end_of_jumps" 415), (.str "/claim/cut.py" 416), (.int (80) 0), (.int (2) 0), (.int (0) 0), (.int (0) 0), (.int (3) 0), (.ref 145), (.bool true), (.int (181) 0), (.ref 146), .none, (.ref 147), (.ref 148), (.ref 149), (.int (421) 0), (.int (80) 0), (.str "/claim/cut.py" 422)], #[]⟩
noncomputable def g151 (_ : Params) : Obj := ⟨(.type "function"), none, .func (fnD (stA 16) "end_of_jumps" .none .none .none (.str "gemrows.passes" 362) (.ref 150)), #[]⟩
noncomputable def g152 (_ : Params) : Obj := ⟨(.type "tuple"), none, .seq #[] 0, #[]⟩
noncomputable def g153 (_ : Params) : Obj := ⟨.none, none, .fields #[], #[]⟩
noncomputable def g154 (_ : Params) : Obj := ⟨(.type "tuple"), none, .seq #[(.str "code" 427), (.str "rows" 428), (.str "row" 429), (.str "target" 430)] 0, #[]⟩
noncomputable def g155 (_ : Params) : Obj := ⟨(.type "tuple"), none, .seq #[] 0, #[]⟩
noncomputable def g156 (_ : Params) : Obj := ⟨.none, none, .func (fnD0 (stA 17) "threaded"), #[]⟩
noncomputable def g157 (_ : Params) : Obj := ⟨(.type "code"), none, .fields #[(.str "threaded" 424), (.str "threaded" 425), (.str "/claim/cut.py" 426), (.int (87) 0), (.int (1) 0), (.int (0) 0), (.int (0) 0), (.int (3) 0), (.ref 152), (.bool true), (.int (181) 0), (.ref 153), .none, (.ref 154), (.ref 155), (.ref 156), (.int (431) 0), (.int (87) 0), (.str "/claim/cut.py" 432)], #[]⟩
noncomputable def g158 (_ : Params) : Obj := ⟨(.type "function"), none, .func (fnD (stA 17) "threaded" .none .none .none (.str "gemrows.passes" 362) (.ref 157)), #[]⟩
noncomputable def g159 (_ : Params) : Obj := ⟨(.type "tuple"), none, .seq #[] 0, #[]⟩
noncomputable def g160 (_ : Params) : Obj := ⟨.none, none, .fields #[], #[]⟩
noncomputable def g161 (_ : Params) : Obj := ⟨(.type "tuple"), none, .seq #[(.str "code" 437), (.str "found" 438), (.str "waiting" 439), (.str "place" 440), (.str "row" 441), (.str "one" 442)] 0, #[]⟩
noncomputable def g162 (_ : Params) : Obj := ⟨(.type "tuple"), none, .seq #[] 0, #[]⟩
noncomputable def g163 (_ : Params) : Obj := ⟨.none, none, .func (fnD0 (stA 18) "reached"), #[]⟩
noncomputable def g164 (_ : Params) : Obj := ⟨(.type "code"), none, .fields #[(.str "reached" 434), (.str "reached" 435), (.str "/claim/cut.py" 436), (.int (99) 0), (.int (1) 0), (.int (0) 0), (.int (0) 0), (.int (3) 0), (.ref 159), (.bool true), (.int (181) 0), (.ref 160), .none, (.ref 161), (.ref 162), (.ref 163), (.int (443) 0), (.int (99) 0), (.str "/claim/cut.py" 444)], #[]⟩
noncomputable def g165 (_ : Params) : Obj := ⟨(.type "function"), none, .func (fnD (stA 18) "reached" .none .none .none (.str "gemrows.passes" 362) (.ref 164)), #[]⟩
noncomputable def g166 (_ : Params) : Obj := ⟨(.type "tuple"), none, .seq #[] 0, #[]⟩
noncomputable def g167 (_ : Params) : Obj := ⟨.none, none, .fields #[], #[]⟩
noncomputable def g168 (_ : Params) : Obj := ⟨.none, none, .func (fnD0 (stA 19) "without_dead"), #[]⟩
noncomputable def g169 (_ : Params) : Obj := ⟨(.type "code"), none, .fields #[(.str "without_dead" 446), (.str "without_dead" 447), (.str "/claim/cut.py" 448), (.int (116) 0), (.int (1) 0), (.int (0) 0), (.int (0) 0), (.int (3) 0), (.ref 166), (.bool true), (.int (181) 0), (.ref 167), .none, .none, .none, (.ref 168), (.int (449) 0), (.int (116) 0), (.str "/claim/cut.py" 450)], #[]⟩
noncomputable def g170 (_ : Params) : Obj := ⟨(.type "function"), none, .func (fnD (stA 19) "without_dead" .none .none .none (.str "gemrows.passes" 362) (.ref 169)), #[]⟩
noncomputable def g171 (_ : Params) : Obj := ⟨(.type "tuple"), none, .seq #[] 0, #[]⟩
noncomputable def g172 (_ : Params) : Obj := ⟨.none, none, .fields #[], #[]⟩
noncomputable def g173 (_ : Params) : Obj := ⟨(.type "tuple"), none, .seq #[(.str "code" 455), (.str "rows" 456), (.str "marks" 457), (.str "place" 458)] 0, #[]⟩
noncomputable def g174 (_ : Params) : Obj := ⟨(.type "tuple"), none, .seq #[] 0, #[]⟩
noncomputable def g175 (_ : Params) : Obj := ⟨.none, none, .func (fnD0 (stA 20) "without_pushes"), #[]⟩
noncomputable def g176 (_ : Params) : Obj := ⟨(.type "code"), none, .fields #[(.str "without_pushes" 452), (.str "without_pushes" 453), (.str "/claim/cut.py" 454), (.int (118) 0), (.int (1) 0), (.int (0) 0), (.int (0) 0), (.int (3) 0), (.ref 171), (.bool true), (.int (181) 0), (.ref 172), .none, (.ref 173), (.ref 174), (.ref 175), (.int (459) 0), (.int (118) 0), (.str "/claim/cut.py" 460)], #[]⟩
noncomputable def g177 (_ : Params) : Obj := ⟨(.type "function"), none, .func (fnD (stA 20) "without_pushes" .none .none .none (.str "gemrows.passes" 362) (.ref 176)), #[]⟩
noncomputable def g178 (_ : Params) : Obj := ⟨(.type "tuple"), none, .seq #[] 0, #[]⟩
noncomputable def g179 (_ : Params) : Obj := ⟨.none, none, .fields #[], #[]⟩
noncomputable def g180 (_ : Params) : Obj := ⟨(.type "tuple"), none, .seq #[(.str "code" 465), (.str "rows" 466), (.str "marks" 467), (.str "place" 468)] 0, #[]⟩
noncomputable def g181 (_ : Params) : Obj := ⟨(.type "tuple"), none, .seq #[] 0, #[]⟩
noncomputable def g182 (_ : Params) : Obj := ⟨.none, none, .func (fnD0 (stA 21) "without_copies"), #[]⟩
noncomputable def g183 (_ : Params) : Obj := ⟨(.type "code"), none, .fields #[(.str "without_copies" 462), (.str "without_copies" 463), (.str "/claim/cut.py" 464), (.int (124) 0), (.int (1) 0), (.int (0) 0), (.int (0) 0), (.int (3) 0), (.ref 178), (.bool true), (.int (181) 0), (.ref 179), .none, (.ref 180), (.ref 181), (.ref 182), (.int (469) 0), (.int (124) 0), (.str "/claim/cut.py" 470)], #[]⟩
noncomputable def g184 (_ : Params) : Obj := ⟨(.type "function"), none, .func (fnD (stA 21) "without_copies" .none .none .none (.str "gemrows.passes" 362) (.ref 183)), #[]⟩
noncomputable def tree_24 (P : Params) : BT := (.node (boot_o_0 P) (.node (boot_o_1 P) (.node (g3_24 P) (.node (boot_o_7 P) (.node (g15 P) (.node (g31 P) (.node (g63 P) (.node (g127 P) .nil .nil) .nil) (.node (g95 P) (.node (g159 P) .nil .nil) .nil)) (.node (g47 P) (.node (g79 P) (.node (g143 P) .nil .nil) .nil) (.node (g111 P) (.node (g175 P) .nil .nil) .nil))) (.node (g23 P) (.node (g39 P) (.node (g71 P) (.node (g135 P) .nil .nil) .nil) (.node (g103 P) (.node (g167 P) .nil .nil) .nil)) (.node (g55 P) (.node (g87 P) (.node (g151 P) .nil .nil) .nil) (.node (g119 P) (.node (g183 P) .nil .nil) .nil)))) (.node (g11 P) (.node (g19 P) (.node (g35 P) (.node (g67 P) (.node (g131 P) .nil .nil) .nil) (.node (g99 P) (.node (g163 P) .nil .nil) .nil)) (.node (g51 P) (.node (g83 P) (.node (g147 P) .nil .nil) .nil) (.node (g115 P) (.node (g179 P) .nil .nil) .nil))) (.node (g27 P) (.node (g43 P) (.node (g75 P) (.node (g139 P) .nil .nil) .nil) (.node (g107 P) (.node (g171 P) .nil .nil) .nil)) (.node (g59 P) (.node (g91 P) (.node (g155 P) .nil .nil) .nil) (.node (g123 P) .nil .nil))))) (.node (boot_o_5 P) (.node (boot_o_9 P) (.node (g17 P) (.node (g33 P) (.node (g65 P) (.node (g129 P) .nil .nil) .nil) (.node (g97 P) (.node (g161 P) .nil .nil) .nil)) (.node (g49 P) (.node (g81 P) (.node (g145 P) .nil .nil) .nil) (.node (g113 P) (.node (g177 P) .nil .nil) .nil))) (.node (g25 P) (.node (g41 P) (.node (g73 P) (.node (g137 P) .nil .nil) .nil) (.node (g105 P) (.node (g169 P) .nil .nil) .nil)) (.node (g57 P) (.node (g89 P) (.node (g153 P) .nil .nil) .nil) (.node (g121 P) .nil .nil)))) (.node (g13 P) (.node (g21 P) (.node (g37 P) (.node (g69 P) (.node (g133 P) .nil .nil) .nil) (.node (g101 P) (.node (g165 P) .nil .nil) .nil)) (.node (g53 P) (.node (g85 P) (.node (g149 P) .nil .nil) .nil) (.node (g117 P) (.node (g181 P) .nil .nil) .nil))) (.node (g29 P) (.node (g45 P) (.node (g77 P) (.node (g141 P) .nil .nil) .nil) (.node (g109 P) (.node (g173 P) .nil .nil) .nil)) (.node (g61 P) (.node (g93 P) (.node (g157 P) .nil .nil) .nil) (.node (g125 P) .nil .nil)))))) (.node (boot_o_2 P) (.node (boot_o_4 P) (.node (boot_o_8 P) (.node (g16 P) (.node (g32 P) (.node (g64 P) (.node (g128 P) .nil .nil) .nil) (.node (g96 P) (.node (g160 P) .nil .nil) .nil)) (.node (g48 P) (.node (g80 P) (.node (g144 P) .nil .nil) .nil) (.node (g112 P) (.node (g176 P) .nil .nil) .nil))) (.node (g24 P) (.node (g40 P) (.node (g72 P) (.node (g136 P) .nil .nil) .nil) (.node (g104 P) (.node (g168 P) .nil .nil) .nil)) (.node (g56 P) (.node (g88 P) (.node (g152 P) .nil .nil) .nil) (.node (g120 P) (.node (g184 P) .nil .nil) .nil)))) (.node (g12_24 P) (.node (g20 P) (.node (g36 P) (.node (g68 P) (.node (g132 P) .nil .nil) .nil) (.node (g100 P) (.node (g164 P) .nil .nil) .nil)) (.node (g52 P) (.node (g84 P) (.node (g148 P) .nil .nil) .nil) (.node (g116 P) (.node (g180 P) .nil .nil) .nil))) (.node (g28 P) (.node (g44 P) (.node (g76 P) (.node (g140 P) .nil .nil) .nil) (.node (g108 P) (.node (g172 P) .nil .nil) .nil)) (.node (g60 P) (.node (g92 P) (.node (g156 P) .nil .nil) .nil) (.node (g124 P) .nil .nil))))) (.node (boot_o_6 P) (.node (boot_o_10 P) (.node (g18 P) (.node (g34 P) (.node (g66 P) (.node (g130 P) .nil .nil) .nil) (.node (g98 P) (.node (g162 P) .nil .nil) .nil)) (.node (g50 P) (.node (g82 P) (.node (g146 P) .nil .nil) .nil) (.node (g114 P) (.node (g178 P) .nil .nil) .nil))) (.node (g26 P) (.node (g42 P) (.node (g74 P) (.node (g138 P) .nil .nil) .nil) (.node (g106 P) (.node (g170 P) .nil .nil) .nil)) (.node (g58 P) (.node (g90 P) (.node (g154 P) .nil .nil) .nil) (.node (g122 P) .nil .nil)))) (.node (g14 P) (.node (g22 P) (.node (g38 P) (.node (g70 P) (.node (g134 P) .nil .nil) .nil) (.node (g102 P) (.node (g166 P) .nil .nil) .nil)) (.node (g54 P) (.node (g86 P) (.node (g150 P) .nil .nil) .nil) (.node (g118 P) (.node (g182 P) .nil .nil) .nil))) (.node (g30 P) (.node (g46 P) (.node (g78 P) (.node (g142 P) .nil .nil) .nil) (.node (g110 P) (.node (g174 P) .nil .nil) .nil)) (.node (g62 P) (.node (g94 P) (.node (g158 P) .nil .nil) .nil) (.node (g126 P) .nil .nil)))))))
noncomputable def g3_36 (P : Params) : Obj := ⟨(.type "dict"), none, .dict #[dE P "__name__" 165 (.str "law_nu0279_01" 575), dE P "__doc__" 166 .none, dE P "__package__" 167 .none, dE P "__loader__" 168 (.builtin "__main__.__loader__#opaque"), dE P "__spec__" 169 .none, dE P "__annotations__" 170 (.ref 6), dE P "__builtins__" 171 (.ref 4), dE P "__file__" 173 (.str "/claim/cut.py" 172), dE P "__cached__" 174 .none, dE P "_wall" 193 (.ref 21), dE P "JUMPS" 200 (.ref 22), dE P "ENDS" 206 (.ref 23), dE P "Row" 252 (.ref 48), dE P "Catch" 297 (.ref 76), dE P "Code" 361 (.ref 111), dE P "MOST_ROUNDS" 365 (.int (24) 364), dE P "PLAIN" 373 (.ref 116), dE P "STORES" 378 (.ref 117), dE P "BRANCHES" 381 (.ref 118), dE P "is_op" 389 (.ref 125), dE P "truth" 396 (.ref 132), dE P "marks_of" 407 (.ref 139), dE P "pressed" 413 (.ref 144), dE P "end_of_jumps" 423 (.ref 151), dE P "threaded" 433 (.ref 158), dE P "reached" 445 (.ref 165), dE P "without_dead" 451 (.ref 170), dE P "without_pushes" 461 (.ref 177), dE P "without_copies" 471 (.ref 184), dE P "is_taken" 479 (.ref 191), dE P "with_known_branches" 494 (.ref 198), dE P "with_turned_branches" 507 (.ref 205), dE P "without_short_jumps" 517 (.ref 212), dE P "without_swaps" 527 (.ref 219), dE P "PASSES" 536 (.ref 228), dE P "shape" 542 (.ref 233), dE P "tidied_alone" 553 (.ref 240), dE P "tidy" 559 (.ref 245), dE P "pass_named" 568 (.ref 252), dE P "passed_by" 574 (.ref 257)] 40, #[]⟩
noncomputable def g12_36 (_ : Params) : Obj := ⟨.none, none, .fields #[(.int (1) 0), (.int (0) 0), (.ref 20), (.int (7) 0), (.int (0) 0), (.ref 29), (.int (18) 0), (.int (0) 0), (.ref 58), (.int (29) 0), (.int (0) 0), (.ref 86), (.int (52) 0), (.int (0) 0), (.ref 124), (.int (54) 0), (.int (0) 0), (.ref 131), (.int (56) 0), (.int (0) 0), (.ref 138), (.int (66) 0), (.int (0) 0), (.ref 143), (.int (80) 0), (.int (0) 0), (.ref 150), (.int (87) 0), (.int (0) 0), (.ref 157), (.int (99) 0), (.int (0) 0), (.ref 164), (.int (116) 0), (.int (0) 0), (.ref 169), (.int (118) 0), (.int (0) 0), (.ref 176), (.int (124) 0), (.int (0) 0), (.ref 183), (.int (131) 0), (.int (0) 0), (.ref 190), (.int (133) 0), (.int (0) 0), (.ref 197), (.int (149) 0), (.int (0) 0), (.ref 204), (.int (157) 0), (.int (0) 0), (.ref 211), (.int (165) 0), (.int (0) 0), (.ref 218), (.int (176) 0), (.int (0) 0), (.ref 232), (.int (178) 0), (.int (0) 0), (.ref 239), (.int (186) 0), (.int (0) 0), (.ref 244), (.int (189) 0), (.int (0) 0), (.ref 251), (.int (194) 0), (.int (0) 0), (.ref 256)], #[]⟩
noncomputable def g185 (_ : Params) : Obj := ⟨(.type "tuple"), none, .seq #[] 0, #[]⟩
noncomputable def g186 (_ : Params) : Obj := ⟨.none, none, .fields #[], #[]⟩
noncomputable def g187 (_ : Params) : Obj := ⟨(.type "tuple"), none, .seq #[(.str "branch" 475), (.str "value" 476)] 0, #[]⟩
noncomputable def g188 (_ : Params) : Obj := ⟨(.type "tuple"), none, .seq #[] 0, #[]⟩
noncomputable def g189 (_ : Params) : Obj := ⟨.none, none, .func (fnD0 (stA 22) "is_taken"), #[]⟩
noncomputable def g190 (_ : Params) : Obj := ⟨(.type "code"), none, .fields #[(.str "is_taken" 472), (.str "is_taken" 473), (.str "/claim/cut.py" 474), (.int (131) 0), (.int (2) 0), (.int (0) 0), (.int (0) 0), (.int (3) 0), (.ref 185), (.bool true), (.int (181) 0), (.ref 186), .none, (.ref 187), (.ref 188), (.ref 189), (.int (477) 0), (.int (131) 0), (.str "/claim/cut.py" 478)], #[]⟩
noncomputable def g191 (_ : Params) : Obj := ⟨(.type "function"), none, .func (fnD (stA 22) "is_taken" .none .none .none (.str "gemrows.passes" 362) (.ref 190)), #[]⟩
noncomputable def g192 (_ : Params) : Obj := ⟨(.type "tuple"), none, .seq #[] 0, #[]⟩
noncomputable def g193 (_ : Params) : Obj := ⟨.none, none, .fields #[], #[]⟩
noncomputable def g194 (_ : Params) : Obj := ⟨(.type "tuple"), none, .seq #[(.str "code" 483), (.str "rows" 484), (.str "marks" 485), (.str "place" 486), (.str "row" 487), (.str "behind" 488), (.str "taken" 489), (.str "branch" 490), (.str "target" 491)] 0, #[]⟩
noncomputable def g195 (_ : Params) : Obj := ⟨(.type "tuple"), none, .seq #[] 0, #[]⟩
noncomputable def g196 (_ : Params) : Obj := ⟨.none, none, .func (fnD0 (stA 23) "with_known_branches"), #[]⟩
noncomputable def g197 (_ : Params) : Obj := ⟨(.type "code"), none, .fields #[(.str "with_known_branches" 480), (.str "with_known_branches" 481), (.str "/claim/cut.py" 482), (.int (133) 0), (.int (1) 0), (.int (0) 0), (.int (0) 0), (.int (3) 0), (.ref 192), (.bool true), (.int (181) 0), (.ref 193), .none, (.ref 194), (.ref 195), (.ref 196), (.int (492) 0), (.int (133) 0), (.str "/claim/cut.py" 493)], #[]⟩
noncomputable def g198 (_ : Params) : Obj := ⟨(.type "function"), none, .func (fnD (stA 23) "with_known_branches" .none .none .none (.str "gemrows.passes" 362) (.ref 197)), #[]⟩
noncomputable def g199 (_ : Params) : Obj := ⟨(.type "tuple"), none, .seq #[] 0, #[]⟩
noncomputable def g200 (_ : Params) : Obj := ⟨.none, none, .fields #[], #[]⟩
noncomputable def g201 (_ : Params) : Obj := ⟨(.type "tuple"), none, .seq #[(.str "code" 498), (.str "rows" 499), (.str "marks" 500), (.str "place" 501), (.str "row" 502), (.str "behind" 503), (.str "op" 504)] 0, #[]⟩
noncomputable def g202 (_ : Params) : Obj := ⟨(.type "tuple"), none, .seq #[] 0, #[]⟩
noncomputable def g203 (_ : Params) : Obj := ⟨.none, none, .func (fnD0 (stA 24) "with_turned_branches"), #[]⟩
noncomputable def g204 (_ : Params) : Obj := ⟨(.type "code"), none, .fields #[(.str "with_turned_branches" 495), (.str "with_turned_branches" 496), (.str "/claim/cut.py" 497), (.int (149) 0), (.int (1) 0), (.int (0) 0), (.int (0) 0), (.int (3) 0), (.ref 199), (.bool true), (.int (181) 0), (.ref 200), .none, (.ref 201), (.ref 202), (.ref 203), (.int (505) 0), (.int (149) 0), (.str "/claim/cut.py" 506)], #[]⟩
noncomputable def g205 (_ : Params) : Obj := ⟨(.type "function"), none, .func (fnD (stA 24) "with_turned_branches" .none .none .none (.str "gemrows.passes" 362) (.ref 204)), #[]⟩
noncomputable def g206 (_ : Params) : Obj := ⟨(.type "tuple"), none, .seq #[] 0, #[]⟩
noncomputable def g207 (_ : Params) : Obj := ⟨.none, none, .fields #[], #[]⟩
noncomputable def g208 (_ : Params) : Obj := ⟨(.type "tuple"), none, .seq #[(.str "code" 511), (.str "rows" 512), (.str "place" 513), (.str "row" 514)] 0, #[]⟩
noncomputable def g209 (_ : Params) : Obj := ⟨(.type "tuple"), none, .seq #[] 0, #[]⟩
noncomputable def g210 (_ : Params) : Obj := ⟨.none, none, .func (fnD0 (stA 25) "without_short_jumps"), #[]⟩
noncomputable def g211 (_ : Params) : Obj := ⟨(.type "code"), none, .fields #[(.str "without_short_jumps" 508), (.str "without_short_jumps" 509), (.str "/claim/cut.py" 510), (.int (157) 0), (.int (1) 0), (.int (0) 0), (.int (0) 0), (.int (3) 0), (.ref 206), (.bool true), (.int (181) 0), (.ref 207), .none, (.ref 208), (.ref 209), (.ref 210), (.int (515) 0), (.int (157) 0), (.str "/claim/cut.py" 516)], #[]⟩
noncomputable def g212 (_ : Params) : Obj := ⟨(.type "function"), none, .func (fnD (stA 25) "without_short_jumps" .none .none .none (.str "gemrows.passes" 362) (.ref 211)), #[]⟩
noncomputable def g213 (_ : Params) : Obj := ⟨(.type "tuple"), none, .seq #[] 0, #[]⟩
noncomputable def g214 (_ : Params) : Obj := ⟨.none, none, .fields #[], #[]⟩
noncomputable def g215 (_ : Params) : Obj := ⟨(.type "tuple"), none, .seq #[(.str "code" 521), (.str "rows" 522), (.str "marks" 523), (.str "place" 524)] 0, #[]⟩
noncomputable def g216 (_ : Params) : Obj := ⟨(.type "tuple"), none, .seq #[] 0, #[]⟩
noncomputable def g217 (_ : Params) : Obj := ⟨.none, none, .func (fnD0 (stA 26) "without_swaps"), #[]⟩
noncomputable def g218 (_ : Params) : Obj := ⟨(.type "code"), none, .fields #[(.str "without_swaps" 518), (.str "without_swaps" 519), (.str "/claim/cut.py" 520), (.int (165) 0), (.int (1) 0), (.int (0) 0), (.int (0) 0), (.int (3) 0), (.ref 213), (.bool true), (.int (181) 0), (.ref 214), .none, (.ref 215), (.ref 216), (.ref 217), (.int (525) 0), (.int (165) 0), (.str "/claim/cut.py" 526)], #[]⟩
noncomputable def g219 (_ : Params) : Obj := ⟨(.type "function"), none, .func (fnD (stA 26) "without_swaps" .none .none .none (.str "gemrows.passes" 362) (.ref 218)), #[]⟩
noncomputable def g220 (_ : Params) : Obj := ⟨(.type "tuple"), none, .seq #[(.str "threaded" 528), (.ref 158)] 0, #[]⟩
noncomputable def g221 (_ : Params) : Obj := ⟨(.type "tuple"), none, .seq #[(.str "known branches" 529), (.ref 198)] 0, #[]⟩
noncomputable def g222 (_ : Params) : Obj := ⟨(.type "tuple"), none, .seq #[(.str "turned branches" 530), (.ref 205)] 0, #[]⟩
noncomputable def g223 (_ : Params) : Obj := ⟨(.type "tuple"), none, .seq #[(.str "short jumps" 531), (.ref 212)] 0, #[]⟩
noncomputable def g224 (_ : Params) : Obj := ⟨(.type "tuple"), none, .seq #[(.str "dead rows" 532), (.ref 170)] 0, #[]⟩
noncomputable def g225 (_ : Params) : Obj := ⟨(.type "tuple"), none, .seq #[(.str "pushes" 533), (.ref 177)] 0, #[]⟩
noncomputable def g226 (_ : Params) : Obj := ⟨(.type "tuple"), none, .seq #[(.str "copies" 534), (.ref 184)] 0, #[]⟩
noncomputable def g227 (_ : Params) : Obj := ⟨(.type "tuple"), none, .seq #[(.str "swaps" 535), (.ref 219)] 0, #[]⟩
noncomputable def g228 (_ : Params) : Obj := ⟨(.type "list"), none, .seq #[(.ref 220), (.ref 221), (.ref 222), (.ref 223), (.ref 224), (.ref 225), (.ref 226), (.ref 227)] 0, #[]⟩
noncomputable def g229 (_ : Params) : Obj := ⟨(.type "tuple"), none, .seq #[] 0, #[]⟩
noncomputable def g230 (_ : Params) : Obj := ⟨.none, none, .fields #[], #[]⟩
noncomputable def g231 (_ : Params) : Obj := ⟨.none, none, .func (fnD0 (stA 28) "shape"), #[]⟩
noncomputable def g232 (_ : Params) : Obj := ⟨(.type "code"), none, .fields #[(.str "shape" 537), (.str "shape" 538), (.str "/claim/cut.py" 539), (.int (176) 0), (.int (1) 0), (.int (0) 0), (.int (0) 0), (.int (3) 0), (.ref 229), (.bool true), (.int (181) 0), (.ref 230), .none, .none, .none, (.ref 231), (.int (540) 0), (.int (176) 0), (.str "/claim/cut.py" 541)], #[]⟩
noncomputable def g233 (_ : Params) : Obj := ⟨(.type "function"), none, .func (fnD (stA 28) "shape" .none .none .none (.str "gemrows.passes" 362) (.ref 232)), #[]⟩
noncomputable def g234 (_ : Params) : Obj := ⟨(.type "tuple"), none, .seq #[] 0, #[]⟩
noncomputable def g235 (_ : Params) : Obj := ⟨.none, none, .fields #[], #[]⟩
noncomputable def g236 (_ : Params) : Obj := ⟨(.type "tuple"), none, .seq #[(.str "code" 546), (.str "turn" 547), (.str "before" 548), (.str "name" 549), (.str "step" 550)] 0, #[]⟩
noncomputable def g237 (_ : Params) : Obj := ⟨(.type "tuple"), none, .seq #[] 0, #[]⟩
noncomputable def g238 (_ : Params) : Obj := ⟨.none, none, .func (fnD0 (stA 29) "tidied_alone"), #[]⟩
noncomputable def g239 (_ : Params) : Obj := ⟨(.type "code"), none, .fields #[(.str "tidied_alone" 543), (.str "tidied_alone" 544), (.str "/claim/cut.py" 545), (.int (178) 0), (.int (1) 0), (.int (0) 0), (.int (0) 0), (.int (3) 0), (.ref 234), (.bool true), (.int (181) 0), (.ref 235), .none, (.ref 236), (.ref 237), (.ref 238), (.int (551) 0), (.int (178) 0), (.str "/claim/cut.py" 552)], #[]⟩
noncomputable def g240 (_ : Params) : Obj := ⟨(.type "function"), none, .func (fnD (stA 29) "tidied_alone" .none .none .none (.str "gemrows.passes" 362) (.ref 239)), #[]⟩
noncomputable def g241 (_ : Params) : Obj := ⟨(.type "tuple"), none, .seq #[] 0, #[]⟩
noncomputable def g242 (_ : Params) : Obj := ⟨.none, none, .fields #[], #[]⟩
noncomputable def g243 (_ : Params) : Obj := ⟨.none, none, .func (fnD0 (stA 30) "tidy"), #[]⟩
noncomputable def g244 (_ : Params) : Obj := ⟨(.type "code"), none, .fields #[(.str "tidy" 554), (.str "tidy" 555), (.str "/claim/cut.py" 556), (.int (186) 0), (.int (1) 0), (.int (0) 0), (.int (0) 0), (.int (3) 0), (.ref 241), (.bool true), (.int (181) 0), (.ref 242), .none, .none, .none, (.ref 243), (.int (557) 0), (.int (186) 0), (.str "/claim/cut.py" 558)], #[]⟩
noncomputable def g245 (_ : Params) : Obj := ⟨(.type "function"), none, .func (fnD (stA 30) "tidy" .none .none .none (.str "gemrows.passes" 362) (.ref 244)), #[]⟩
noncomputable def g246 (_ : Params) : Obj := ⟨(.type "tuple"), none, .seq #[] 0, #[]⟩
noncomputable def g247 (_ : Params) : Obj := ⟨.none, none, .fields #[], #[]⟩
noncomputable def g248 (_ : Params) : Obj := ⟨(.type "tuple"), none, .seq #[(.str "name" 563), (.str "told" 564), (.str "step" 565)] 0, #[]⟩
noncomputable def g249 (_ : Params) : Obj := ⟨(.type "tuple"), none, .seq #[] 0, #[]⟩
noncomputable def g250 (_ : Params) : Obj := ⟨.none, none, .func (fnD0 (stA 31) "pass_named"), #[]⟩
noncomputable def g251 (_ : Params) : Obj := ⟨(.type "code"), none, .fields #[(.str "pass_named" 560), (.str "pass_named" 561), (.str "/claim/cut.py" 562), (.int (189) 0), (.int (1) 0), (.int (0) 0), (.int (0) 0), (.int (3) 0), (.ref 246), (.bool true), (.int (181) 0), (.ref 247), .none, (.ref 248), (.ref 249), (.ref 250), (.int (566) 0), (.int (189) 0), (.str "/claim/cut.py" 567)], #[]⟩
noncomputable def g252 (_ : Params) : Obj := ⟨(.type "function"), none, .func (fnD (stA 31) "pass_named" .none .none .none (.str "gemrows.passes" 362) (.ref 251)), #[]⟩
noncomputable def g253 (_ : Params) : Obj := ⟨(.type "tuple"), none, .seq #[] 0, #[]⟩
noncomputable def g254 (_ : Params) : Obj := ⟨.none, none, .fields #[], #[]⟩
noncomputable def g255 (_ : Params) : Obj := ⟨.none, none, .func (fnD0 (stA 32) "passed_by"), #[]⟩
noncomputable def g256 (_ : Params) : Obj := ⟨(.type "code"), none, .fields #[(.str "passed_by" 569), (.str "passed_by" 570), (.str "/claim/cut.py" 571), (.int (194) 0), (.int (2) 0), (.int (0) 0), (.int (0) 0), (.int (3) 0), (.ref 253), (.bool true), (.int (181) 0), (.ref 254), .none, .none, .none, (.ref 255), (.int (572) 0), (.int (194) 0), (.str "/claim/cut.py" 573)], #[]⟩
noncomputable def g257 (_ : Params) : Obj := ⟨(.type "function"), none, .func (fnD (stA 32) "passed_by" .none .none .none (.str "gemrows.passes" 362) (.ref 256)), #[]⟩
noncomputable def tree_36 (P : Params) : BT := (.node (boot_o_0 P) (.node (boot_o_1 P) (.node (g3_36 P) (.node (boot_o_7 P) (.node (g15 P) (.node (g31 P) (.node (g63 P) (.node (g127 P) (.node (g255 P) .nil .nil) .nil) (.node (g191 P) .nil .nil)) (.node (g95 P) (.node (g159 P) .nil .nil) (.node (g223 P) .nil .nil))) (.node (g47 P) (.node (g79 P) (.node (g143 P) .nil .nil) (.node (g207 P) .nil .nil)) (.node (g111 P) (.node (g175 P) .nil .nil) (.node (g239 P) .nil .nil)))) (.node (g23 P) (.node (g39 P) (.node (g71 P) (.node (g135 P) .nil .nil) (.node (g199 P) .nil .nil)) (.node (g103 P) (.node (g167 P) .nil .nil) (.node (g231 P) .nil .nil))) (.node (g55 P) (.node (g87 P) (.node (g151 P) .nil .nil) (.node (g215 P) .nil .nil)) (.node (g119 P) (.node (g183 P) .nil .nil) (.node (g247 P) .nil .nil))))) (.node (g11 P) (.node (g19 P) (.node (g35 P) (.node (g67 P) (.node (g131 P) .nil .nil) (.node (g195 P) .nil .nil)) (.node (g99 P) (.node (g163 P) .nil .nil) (.node (g227 P) .nil .nil))) (.node (g51 P) (.node (g83 P) (.node (g147 P) .nil .nil) (.node (g211 P) .nil .nil)) (.node (g115 P) (.node (g179 P) .nil .nil) (.node (g243 P) .nil .nil)))) (.node (g27 P) (.node (g43 P) (.node (g75 P) (.node (g139 P) .nil .nil) (.node (g203 P) .nil .nil)) (.node (g107 P) (.node (g171 P) .nil .nil) (.node (g235 P) .nil .nil))) (.node (g59 P) (.node (g91 P) (.node (g155 P) .nil .nil) (.node (g219 P) .nil .nil)) (.node (g123 P) (.node (g187 P) .nil .nil) (.node (g251 P) .nil .nil)))))) (.node (boot_o_5 P) (.node (boot_o_9 P) (.node (g17 P) (.node (g33 P) (.node (g65 P) (.node (g129 P) (.node (g257 P) .nil .nil) .nil) (.node (g193 P) .nil .nil)) (.node (g97 P) (.node (g161 P) .nil .nil) (.node (g225 P) .nil .nil))) (.node (g49 P) (.node (g81 P) (.node (g145 P) .nil .nil) (.node (g209 P) .nil .nil)) (.node (g113 P) (.node (g177 P) .nil .nil) (.node (g241 P) .nil .nil)))) (.node (g25 P) (.node (g41 P) (.node (g73 P) (.node (g137 P) .nil .nil) (.node (g201 P) .nil .nil)) (.node (g105 P) (.node (g169 P) .nil .nil) (.node (g233 P) .nil .nil))) (.node (g57 P) (.node (g89 P) (.node (g153 P) .nil .nil) (.node (g217 P) .nil .nil)) (.node (g121 P) (.node (g185 P) .nil .nil) (.node (g249 P) .nil .nil))))) (.node (g13 P) (.node (g21 P) (.node (g37 P) (.node (g69 P) (.node (g133 P) .nil .nil) (.node (g197 P) .nil .nil)) (.node (g101 P) (.node (g165 P) .nil .nil) (.node (g229 P) .nil .nil))) (.node (g53 P) (.node (g85 P) (.node (g149 P) .nil .nil) (.node (g213 P) .nil .nil)) (.node (g117 P) (.node (g181 P) .nil .nil) (.node (g245 P) .nil .nil)))) (.node (g29 P) (.node (g45 P) (.node (g77 P) (.node (g141 P) .nil .nil) (.node (g205 P) .nil .nil)) (.node (g109 P) (.node (g173 P) .nil .nil) (.node (g237 P) .nil .nil))) (.node (g61 P) (.node (g93 P) (.node (g157 P) .nil .nil) (.node (g221 P) .nil .nil)) (.node (g125 P) (.node (g189 P) .nil .nil) (.node (g253 P) .nil .nil))))))) (.node (boot_o_2 P) (.node (boot_o_4 P) (.node (boot_o_8 P) (.node (g16 P) (.node (g32 P) (.node (g64 P) (.node (g128 P) (.node (g256 P) .nil .nil) .nil) (.node (g192 P) .nil .nil)) (.node (g96 P) (.node (g160 P) .nil .nil) (.node (g224 P) .nil .nil))) (.node (g48 P) (.node (g80 P) (.node (g144 P) .nil .nil) (.node (g208 P) .nil .nil)) (.node (g112 P) (.node (g176 P) .nil .nil) (.node (g240 P) .nil .nil)))) (.node (g24 P) (.node (g40 P) (.node (g72 P) (.node (g136 P) .nil .nil) (.node (g200 P) .nil .nil)) (.node (g104 P) (.node (g168 P) .nil .nil) (.node (g232 P) .nil .nil))) (.node (g56 P) (.node (g88 P) (.node (g152 P) .nil .nil) (.node (g216 P) .nil .nil)) (.node (g120 P) (.node (g184 P) .nil .nil) (.node (g248 P) .nil .nil))))) (.node (g12_36 P) (.node (g20 P) (.node (g36 P) (.node (g68 P) (.node (g132 P) .nil .nil) (.node (g196 P) .nil .nil)) (.node (g100 P) (.node (g164 P) .nil .nil) (.node (g228 P) .nil .nil))) (.node (g52 P) (.node (g84 P) (.node (g148 P) .nil .nil) (.node (g212 P) .nil .nil)) (.node (g116 P) (.node (g180 P) .nil .nil) (.node (g244 P) .nil .nil)))) (.node (g28 P) (.node (g44 P) (.node (g76 P) (.node (g140 P) .nil .nil) (.node (g204 P) .nil .nil)) (.node (g108 P) (.node (g172 P) .nil .nil) (.node (g236 P) .nil .nil))) (.node (g60 P) (.node (g92 P) (.node (g156 P) .nil .nil) (.node (g220 P) .nil .nil)) (.node (g124 P) (.node (g188 P) .nil .nil) (.node (g252 P) .nil .nil)))))) (.node (boot_o_6 P) (.node (boot_o_10 P) (.node (g18 P) (.node (g34 P) (.node (g66 P) (.node (g130 P) .nil .nil) (.node (g194 P) .nil .nil)) (.node (g98 P) (.node (g162 P) .nil .nil) (.node (g226 P) .nil .nil))) (.node (g50 P) (.node (g82 P) (.node (g146 P) .nil .nil) (.node (g210 P) .nil .nil)) (.node (g114 P) (.node (g178 P) .nil .nil) (.node (g242 P) .nil .nil)))) (.node (g26 P) (.node (g42 P) (.node (g74 P) (.node (g138 P) .nil .nil) (.node (g202 P) .nil .nil)) (.node (g106 P) (.node (g170 P) .nil .nil) (.node (g234 P) .nil .nil))) (.node (g58 P) (.node (g90 P) (.node (g154 P) .nil .nil) (.node (g218 P) .nil .nil)) (.node (g122 P) (.node (g186 P) .nil .nil) (.node (g250 P) .nil .nil))))) (.node (g14 P) (.node (g22 P) (.node (g38 P) (.node (g70 P) (.node (g134 P) .nil .nil) (.node (g198 P) .nil .nil)) (.node (g102 P) (.node (g166 P) .nil .nil) (.node (g230 P) .nil .nil))) (.node (g54 P) (.node (g86 P) (.node (g150 P) .nil .nil) (.node (g214 P) .nil .nil)) (.node (g118 P) (.node (g182 P) .nil .nil) (.node (g246 P) .nil .nil)))) (.node (g30 P) (.node (g46 P) (.node (g78 P) (.node (g142 P) .nil .nil) (.node (g206 P) .nil .nil)) (.node (g110 P) (.node (g174 P) .nil .nil) (.node (g238 P) .nil .nil))) (.node (g62 P) (.node (g94 P) (.node (g158 P) .nil .nil) (.node (g222 P) .nil .nil)) (.node (g126 P) (.node (g190 P) .nil .nil) (.node (g254 P) .nil .nil))))))))
noncomputable def g3_47 (P : Params) : Obj := ⟨(.type "dict"), none, .dict #[dE P "__name__" 165 (.str "law_nu0279_01" 575), dE P "__doc__" 166 .none, dE P "__package__" 167 .none, dE P "__loader__" 168 (.builtin "__main__.__loader__#opaque"), dE P "__spec__" 169 .none, dE P "__annotations__" 170 (.ref 6), dE P "__builtins__" 171 (.ref 4), dE P "__file__" 173 (.str "/claim/cut.py" 172), dE P "__cached__" 174 .none, dE P "_wall" 193 (.ref 21), dE P "JUMPS" 200 (.ref 22), dE P "ENDS" 206 (.ref 23), dE P "Row" 252 (.ref 48), dE P "Catch" 297 (.ref 76), dE P "Code" 361 (.ref 111), dE P "MOST_ROUNDS" 365 (.int (24) 364), dE P "PLAIN" 373 (.ref 116), dE P "STORES" 378 (.ref 117), dE P "BRANCHES" 381 (.ref 118), dE P "is_op" 389 (.ref 125), dE P "truth" 396 (.ref 132), dE P "marks_of" 407 (.ref 139), dE P "pressed" 413 (.ref 144), dE P "end_of_jumps" 423 (.ref 151), dE P "threaded" 433 (.ref 158), dE P "reached" 445 (.ref 165), dE P "without_dead" 451 (.ref 170), dE P "without_pushes" 461 (.ref 177), dE P "without_copies" 471 (.ref 184), dE P "is_taken" 479 (.ref 191), dE P "with_known_branches" 494 (.ref 198), dE P "with_turned_branches" 507 (.ref 205), dE P "without_short_jumps" 517 (.ref 212), dE P "without_swaps" 527 (.ref 219), dE P "PASSES" 536 (.ref 228), dE P "shape" 542 (.ref 233), dE P "tidied_alone" 553 (.ref 240), dE P "tidy" 559 (.ref 245), dE P "pass_named" 568 (.ref 252), dE P "passed_by" 574 (.ref 257), dE P "_law_box" 585 (.ref 264), dE P "_law_take" 595 (.ref 271), dE P "_law_piece" 617 (.ref 278), dE P "_law_between" 623 (.ref 283), dE P "_law_code" 629 (.ref 288), dE P "_law_rows" 635 (.ref 293), dE P "_law_places" 644 (.ref 300), dE P "_law_scene" 650 (.ref 305), dE P "_law_turned_right" 656 (.ref 310), dE P "_law_pass_right" 662 (.ref 315), dE P "law" 668 (.ref 320)] 51, #[]⟩
noncomputable def g12_47 (_ : Params) : Obj := ⟨.none, none, .fields #[(.int (1) 0), (.int (0) 0), (.ref 20), (.int (7) 0), (.int (0) 0), (.ref 29), (.int (18) 0), (.int (0) 0), (.ref 58), (.int (29) 0), (.int (0) 0), (.ref 86), (.int (52) 0), (.int (0) 0), (.ref 124), (.int (54) 0), (.int (0) 0), (.ref 131), (.int (56) 0), (.int (0) 0), (.ref 138), (.int (66) 0), (.int (0) 0), (.ref 143), (.int (80) 0), (.int (0) 0), (.ref 150), (.int (87) 0), (.int (0) 0), (.ref 157), (.int (99) 0), (.int (0) 0), (.ref 164), (.int (116) 0), (.int (0) 0), (.ref 169), (.int (118) 0), (.int (0) 0), (.ref 176), (.int (124) 0), (.int (0) 0), (.ref 183), (.int (131) 0), (.int (0) 0), (.ref 190), (.int (133) 0), (.int (0) 0), (.ref 197), (.int (149) 0), (.int (0) 0), (.ref 204), (.int (157) 0), (.int (0) 0), (.ref 211), (.int (165) 0), (.int (0) 0), (.ref 218), (.int (176) 0), (.int (0) 0), (.ref 232), (.int (178) 0), (.int (0) 0), (.ref 239), (.int (186) 0), (.int (0) 0), (.ref 244), (.int (189) 0), (.int (0) 0), (.ref 251), (.int (194) 0), (.int (0) 0), (.ref 256), (.int (201) 0), (.int (0) 0), (.ref 263), (.int (204) 0), (.int (0) 0), (.ref 270), (.int (213) 0), (.int (0) 0), (.ref 277), (.int (246) 0), (.int (0) 0), (.ref 282), (.int (250) 0), (.int (0) 0), (.ref 287), (.int (253) 0), (.int (0) 0), (.ref 292), (.int (255) 0), (.int (0) 0), (.ref 299), (.int (260) 0), (.int (0) 0), (.ref 304), (.int (276) 0), (.int (0) 0), (.ref 309), (.int (283) 0), (.int (0) 0), (.ref 314), (.int (295) 0), (.int (0) 0), (.ref 319)], #[]⟩
noncomputable def g258 (_ : Params) : Obj := ⟨(.type "tuple"), none, .seq #[] 0, #[]⟩
noncomputable def g259 (_ : Params) : Obj := ⟨.none, none, .fields #[], #[]⟩
noncomputable def g260 (_ : Params) : Obj := ⟨(.type "tuple"), none, .seq #[(.str "script" 580), (.str "k" 581), (.str "cell" 582)] 0, #[]⟩
noncomputable def g261 (_ : Params) : Obj := ⟨(.type "tuple"), none, .seq #[] 0, #[]⟩
noncomputable def g262 (_ : Params) : Obj := ⟨.none, none, .func (fnD0 (stA 34) "_law_box"), #[]⟩
noncomputable def g263 (_ : Params) : Obj := ⟨(.type "code"), none, .fields #[(.str "_law_box" 577), (.str "_law_box" 578), (.str "/claim/cut.py" 579), (.int (201) 0), (.int (2) 0), (.int (0) 0), (.int (0) 0), (.int (3) 0), (.ref 258), (.bool true), (.int (181) 0), (.ref 259), .none, (.ref 260), (.ref 261), (.ref 262), (.int (583) 0), (.int (201) 0), (.str "/claim/cut.py" 584)], #[]⟩
noncomputable def g264 (_ : Params) : Obj := ⟨(.type "function"), none, .func (fnD (stA 34) "_law_box" .none .none .none (.str "law_nu0279_01" 575) (.ref 263)), #[]⟩
noncomputable def g265 (_ : Params) : Obj := ⟨(.type "tuple"), none, .seq #[] 0, #[]⟩
noncomputable def g266 (_ : Params) : Obj := ⟨.none, none, .fields #[], #[]⟩
noncomputable def g267 (_ : Params) : Obj := ⟨(.type "tuple"), none, .seq #[(.str "box" 589), (.str "many" 590), (.str "digit" 591), (.str "blend" 592)] 0, #[]⟩
noncomputable def g268 (_ : Params) : Obj := ⟨(.type "tuple"), none, .seq #[] 0, #[]⟩
noncomputable def g269 (_ : Params) : Obj := ⟨.none, none, .func (fnD0 (stA 35) "_law_take"), #[]⟩
noncomputable def g270 (_ : Params) : Obj := ⟨(.type "code"), none, .fields #[(.str "_law_take" 586), (.str "_law_take" 587), (.str "/claim/cut.py" 588), (.int (204) 0), (.int (2) 0), (.int (0) 0), (.int (0) 0), (.int (3) 0), (.ref 265), (.bool true), (.int (181) 0), (.ref 266), .none, (.ref 267), (.ref 268), (.ref 269), (.int (593) 0), (.int (204) 0), (.str "/claim/cut.py" 594)], #[]⟩
noncomputable def g271 (_ : Params) : Obj := ⟨(.type "function"), none, .func (fnD (stA 35) "_law_take" .none .none .none (.str "law_nu0279_01" 575) (.ref 270)), #[]⟩
noncomputable def g272 (_ : Params) : Obj := ⟨(.type "tuple"), none, .seq #[] 0, #[]⟩
noncomputable def g273 (_ : Params) : Obj := ⟨.none, none, .fields #[], #[]⟩
noncomputable def g274 (_ : Params) : Obj := ⟨(.type "tuple"), none, .seq #[(.str "box" 599), (.str "name" 600), (.str "at" 601), (.str "spot" 602), (.str "value" 603), (.str "holds" 604), (.str "branch" 605), (.str "op" 606), (.str "taken" 607), (.str "store" 608), (.str "plain" 609), (.str "pop" 610), (.str "leave" 611), (.str "rows" 612), (.str "flipped" 613), (.str "some" 614)] 0, #[]⟩
noncomputable def g275 (_ : Params) : Obj := ⟨(.type "tuple"), none, .seq #[] 0, #[]⟩
noncomputable def g276 (_ : Params) : Obj := ⟨.none, none, .func (fnD0 (stA 36) "_law_piece"), #[]⟩
noncomputable def g277 (_ : Params) : Obj := ⟨(.type "code"), none, .fields #[(.str "_law_piece" 596), (.str "_law_piece" 597), (.str "/claim/cut.py" 598), (.int (213) 0), (.int (3) 0), (.int (0) 0), (.int (0) 0), (.int (3) 0), (.ref 272), (.bool true), (.int (181) 0), (.ref 273), .none, (.ref 274), (.ref 275), (.ref 276), (.int (615) 0), (.int (213) 0), (.str "/claim/cut.py" 616)], #[]⟩
noncomputable def g278 (_ : Params) : Obj := ⟨(.type "function"), none, .func (fnD (stA 36) "_law_piece" .none .none .none (.str "law_nu0279_01" 575) (.ref 277)), #[]⟩
noncomputable def g279 (_ : Params) : Obj := ⟨(.type "tuple"), none, .seq #[] 0, #[]⟩
noncomputable def g280 (_ : Params) : Obj := ⟨.none, none, .fields #[], #[]⟩
noncomputable def g281 (_ : Params) : Obj := ⟨.none, none, .func (fnD0 (stA 37) "_law_between"), #[]⟩
noncomputable def g282 (_ : Params) : Obj := ⟨(.type "code"), none, .fields #[(.str "_law_between" 618), (.str "_law_between" 619), (.str "/claim/cut.py" 620), (.int (246) 0), (.int (3) 0), (.int (0) 0), (.int (0) 0), (.int (3) 0), (.ref 279), (.bool true), (.int (181) 0), (.ref 280), .none, .none, .none, (.ref 281), (.int (621) 0), (.int (246) 0), (.str "/claim/cut.py" 622)], #[]⟩
noncomputable def g283 (_ : Params) : Obj := ⟨(.type "function"), none, .func (fnD (stA 37) "_law_between" .none .none .none (.str "law_nu0279_01" 575) (.ref 282)), #[]⟩
noncomputable def g284 (_ : Params) : Obj := ⟨(.type "tuple"), none, .seq #[] 0, #[]⟩
noncomputable def g285 (_ : Params) : Obj := ⟨.none, none, .fields #[], #[]⟩
noncomputable def g286 (_ : Params) : Obj := ⟨.none, none, .func (fnD0 (stA 38) "_law_code"), #[]⟩
noncomputable def g287 (_ : Params) : Obj := ⟨(.type "code"), none, .fields #[(.str "_law_code" 624), (.str "_law_code" 625), (.str "/claim/cut.py" 626), (.int (250) 0), (.int (4) 0), (.int (0) 0), (.int (0) 0), (.int (3) 0), (.ref 284), (.bool true), (.int (181) 0), (.ref 285), .none, .none, .none, (.ref 286), (.int (627) 0), (.int (250) 0), (.str "/claim/cut.py" 628)], #[]⟩
noncomputable def g288 (_ : Params) : Obj := ⟨(.type "function"), none, .func (fnD (stA 38) "_law_code" .none .none .none (.str "law_nu0279_01" 575) (.ref 287)), #[]⟩
noncomputable def g289 (_ : Params) : Obj := ⟨(.type "tuple"), none, .seq #[] 0, #[]⟩
noncomputable def g290 (_ : Params) : Obj := ⟨.none, none, .fields #[], #[]⟩
noncomputable def g291 (_ : Params) : Obj := ⟨.none, none, .func (fnD0 (stA 39) "_law_rows"), #[]⟩
noncomputable def g292 (_ : Params) : Obj := ⟨(.type "code"), none, .fields #[(.str "_law_rows" 630), (.str "_law_rows" 631), (.str "/claim/cut.py" 632), (.int (253) 0), (.int (1) 0), (.int (0) 0), (.int (0) 0), (.int (3) 0), (.ref 289), (.bool true), (.int (181) 0), (.ref 290), .none, .none, .none, (.ref 291), (.int (633) 0), (.int (253) 0), (.str "/claim/cut.py" 634)], #[]⟩
noncomputable def g293 (_ : Params) : Obj := ⟨(.type "function"), none, .func (fnD (stA 39) "_law_rows" .none .none .none (.str "law_nu0279_01" 575) (.ref 292)), #[]⟩
noncomputable def g294 (_ : Params) : Obj := ⟨(.type "tuple"), none, .seq #[] 0, #[]⟩
noncomputable def g295 (_ : Params) : Obj := ⟨.none, none, .fields #[], #[]⟩
noncomputable def g296 (_ : Params) : Obj := ⟨(.type "tuple"), none, .seq #[(.str "flags" 639), (.str "found" 640), (.str "flag" 641)] 0, #[]⟩
noncomputable def g297 (_ : Params) : Obj := ⟨(.type "tuple"), none, .seq #[] 0, #[]⟩
noncomputable def g298 (_ : Params) : Obj := ⟨.none, none, .func (fnD0 (stA 40) "_law_places"), #[]⟩
noncomputable def g299 (_ : Params) : Obj := ⟨(.type "code"), none, .fields #[(.str "_law_places" 636), (.str "_law_places" 637), (.str "/claim/cut.py" 638), (.int (255) 0), (.int (1) 0), (.int (0) 0), (.int (0) 0), (.int (3) 0), (.ref 294), (.bool true), (.int (181) 0), (.ref 295), .none, (.ref 296), (.ref 297), (.ref 298), (.int (642) 0), (.int (255) 0), (.str "/claim/cut.py" 643)], #[]⟩
noncomputable def g300 (_ : Params) : Obj := ⟨(.type "function"), none, .func (fnD (stA 40) "_law_places" .none .none .none (.str "law_nu0279_01" 575) (.ref 299)), #[]⟩
noncomputable def g301 (_ : Params) : Obj := ⟨(.type "tuple"), none, .seq #[] 0, #[]⟩
noncomputable def g302 (_ : Params) : Obj := ⟨.none, none, .fields #[], #[]⟩
noncomputable def g303 (_ : Params) : Obj := ⟨.none, none, .func (fnD0 (stA 41) "_law_scene"), #[]⟩
noncomputable def g304 (_ : Params) : Obj := ⟨(.type "code"), none, .fields #[(.str "_law_scene" 645), (.str "_law_scene" 646), (.str "/claim/cut.py" 647), (.int (260) 0), (.int (3) 0), (.int (0) 0), (.int (0) 0), (.int (3) 0), (.ref 301), (.bool true), (.int (181) 0), (.ref 302), .none, .none, .none, (.ref 303), (.int (648) 0), (.int (260) 0), (.str "/claim/cut.py" 649)], #[]⟩
noncomputable def g305 (_ : Params) : Obj := ⟨(.type "function"), none, .func (fnD (stA 41) "_law_scene" .none .none .none (.str "law_nu0279_01" 575) (.ref 304)), #[]⟩
noncomputable def g306 (_ : Params) : Obj := ⟨(.type "tuple"), none, .seq #[] 0, #[]⟩
noncomputable def g307 (_ : Params) : Obj := ⟨.none, none, .fields #[], #[]⟩
noncomputable def g308 (_ : Params) : Obj := ⟨.none, none, .func (fnD0 (stA 42) "_law_turned_right"), #[]⟩
noncomputable def g309 (_ : Params) : Obj := ⟨(.type "code"), none, .fields #[(.str "_law_turned_right" 651), (.str "_law_turned_right" 652), (.str "/claim/cut.py" 653), (.int (276) 0), (.int (5) 0), (.int (0) 0), (.int (0) 0), (.int (3) 0), (.ref 306), (.bool true), (.int (181) 0), (.ref 307), .none, .none, .none, (.ref 308), (.int (654) 0), (.int (276) 0), (.str "/claim/cut.py" 655)], #[]⟩
noncomputable def g310 (_ : Params) : Obj := ⟨(.type "function"), none, .func (fnD (stA 42) "_law_turned_right" .none .none .none (.str "law_nu0279_01" 575) (.ref 309)), #[]⟩
noncomputable def g311 (_ : Params) : Obj := ⟨(.type "tuple"), none, .seq #[] 0, #[]⟩
noncomputable def g312 (_ : Params) : Obj := ⟨.none, none, .fields #[], #[]⟩
noncomputable def g313 (_ : Params) : Obj := ⟨.none, none, .func (fnD0 (stA 43) "_law_pass_right"), #[]⟩
noncomputable def g314 (_ : Params) : Obj := ⟨(.type "code"), none, .fields #[(.str "_law_pass_right" 657), (.str "_law_pass_right" 658), (.str "/claim/cut.py" 659), (.int (283) 0), (.int (3) 0), (.int (0) 0), (.int (0) 0), (.int (3) 0), (.ref 311), (.bool true), (.int (181) 0), (.ref 312), .none, .none, .none, (.ref 313), (.int (660) 0), (.int (283) 0), (.str "/claim/cut.py" 661)], #[]⟩
noncomputable def g315 (_ : Params) : Obj := ⟨(.type "function"), none, .func (fnD (stA 43) "_law_pass_right" .none .none .none (.str "law_nu0279_01" 575) (.ref 314)), #[]⟩
noncomputable def g316 (_ : Params) : Obj := ⟨(.type "tuple"), none, .seq #[] 0, #[]⟩
noncomputable def g317 (_ : Params) : Obj := ⟨.none, none, .fields #[], #[]⟩
noncomputable def g318 (_ : Params) : Obj := ⟨.none, none, .func (fnD0 (stA 44) "law"), #[]⟩
noncomputable def g319 (_ : Params) : Obj := ⟨(.type "code"), none, .fields #[(.str "law" 663), (.str "law" 664), (.str "/claim/cut.py" 665), (.int (295) 0), (.int (1) 0), (.int (0) 0), (.int (0) 0), (.int (3) 0), (.ref 316), (.bool true), (.int (181) 0), (.ref 317), .none, .none, .none, (.ref 318), (.int (666) 0), (.int (295) 0), (.str "/claim/cut.py" 667)], #[]⟩
noncomputable def g320 (_ : Params) : Obj := ⟨(.type "function"), none, .func (fnD (stA 44) "law" .none .none .none (.str "law_nu0279_01" 575) (.ref 319)), #[]⟩
noncomputable def tree_47 (P : Params) : BT := (.node (boot_o_0 P) (.node (boot_o_1 P) (.node (g3_47 P) (.node (boot_o_7 P) (.node (g15 P) (.node (g31 P) (.node (g63 P) (.node (g127 P) (.node (g255 P) .nil .nil) .nil) (.node (g191 P) (.node (g319 P) .nil .nil) .nil)) (.node (g95 P) (.node (g159 P) (.node (g287 P) .nil .nil) .nil) (.node (g223 P) .nil .nil))) (.node (g47 P) (.node (g79 P) (.node (g143 P) (.node (g271 P) .nil .nil) .nil) (.node (g207 P) .nil .nil)) (.node (g111 P) (.node (g175 P) (.node (g303 P) .nil .nil) .nil) (.node (g239 P) .nil .nil)))) (.node (g23 P) (.node (g39 P) (.node (g71 P) (.node (g135 P) (.node (g263 P) .nil .nil) .nil) (.node (g199 P) .nil .nil)) (.node (g103 P) (.node (g167 P) (.node (g295 P) .nil .nil) .nil) (.node (g231 P) .nil .nil))) (.node (g55 P) (.node (g87 P) (.node (g151 P) (.node (g279 P) .nil .nil) .nil) (.node (g215 P) .nil .nil)) (.node (g119 P) (.node (g183 P) (.node (g311 P) .nil .nil) .nil) (.node (g247 P) .nil .nil))))) (.node (g11 P) (.node (g19 P) (.node (g35 P) (.node (g67 P) (.node (g131 P) (.node (g259 P) .nil .nil) .nil) (.node (g195 P) .nil .nil)) (.node (g99 P) (.node (g163 P) (.node (g291 P) .nil .nil) .nil) (.node (g227 P) .nil .nil))) (.node (g51 P) (.node (g83 P) (.node (g147 P) (.node (g275 P) .nil .nil) .nil) (.node (g211 P) .nil .nil)) (.node (g115 P) (.node (g179 P) (.node (g307 P) .nil .nil) .nil) (.node (g243 P) .nil .nil)))) (.node (g27 P) (.node (g43 P) (.node (g75 P) (.node (g139 P) (.node (g267 P) .nil .nil) .nil) (.node (g203 P) .nil .nil)) (.node (g107 P) (.node (g171 P) (.node (g299 P) .nil .nil) .nil) (.node (g235 P) .nil .nil))) (.node (g59 P) (.node (g91 P) (.node (g155 P) (.node (g283 P) .nil .nil) .nil) (.node (g219 P) .nil .nil)) (.node (g123 P) (.node (g187 P) (.node (g315 P) .nil .nil) .nil) (.node (g251 P) .nil .nil)))))) (.node (boot_o_5 P) (.node (boot_o_9 P) (.node (g17 P) (.node (g33 P) (.node (g65 P) (.node (g129 P) (.node (g257 P) .nil .nil) .nil) (.node (g193 P) .nil .nil)) (.node (g97 P) (.node (g161 P) (.node (g289 P) .nil .nil) .nil) (.node (g225 P) .nil .nil))) (.node (g49 P) (.node (g81 P) (.node (g145 P) (.node (g273 P) .nil .nil) .nil) (.node (g209 P) .nil .nil)) (.node (g113 P) (.node (g177 P) (.node (g305 P) .nil .nil) .nil) (.node (g241 P) .nil .nil)))) (.node (g25 P) (.node (g41 P) (.node (g73 P) (.node (g137 P) (.node (g265 P) .nil .nil) .nil) (.node (g201 P) .nil .nil)) (.node (g105 P) (.node (g169 P) (.node (g297 P) .nil .nil) .nil) (.node (g233 P) .nil .nil))) (.node (g57 P) (.node (g89 P) (.node (g153 P) (.node (g281 P) .nil .nil) .nil) (.node (g217 P) .nil .nil)) (.node (g121 P) (.node (g185 P) (.node (g313 P) .nil .nil) .nil) (.node (g249 P) .nil .nil))))) (.node (g13 P) (.node (g21 P) (.node (g37 P) (.node (g69 P) (.node (g133 P) (.node (g261 P) .nil .nil) .nil) (.node (g197 P) .nil .nil)) (.node (g101 P) (.node (g165 P) (.node (g293 P) .nil .nil) .nil) (.node (g229 P) .nil .nil))) (.node (g53 P) (.node (g85 P) (.node (g149 P) (.node (g277 P) .nil .nil) .nil) (.node (g213 P) .nil .nil)) (.node (g117 P) (.node (g181 P) (.node (g309 P) .nil .nil) .nil) (.node (g245 P) .nil .nil)))) (.node (g29 P) (.node (g45 P) (.node (g77 P) (.node (g141 P) (.node (g269 P) .nil .nil) .nil) (.node (g205 P) .nil .nil)) (.node (g109 P) (.node (g173 P) (.node (g301 P) .nil .nil) .nil) (.node (g237 P) .nil .nil))) (.node (g61 P) (.node (g93 P) (.node (g157 P) (.node (g285 P) .nil .nil) .nil) (.node (g221 P) .nil .nil)) (.node (g125 P) (.node (g189 P) (.node (g317 P) .nil .nil) .nil) (.node (g253 P) .nil .nil))))))) (.node (boot_o_2 P) (.node (boot_o_4 P) (.node (boot_o_8 P) (.node (g16 P) (.node (g32 P) (.node (g64 P) (.node (g128 P) (.node (g256 P) .nil .nil) .nil) (.node (g192 P) (.node (g320 P) .nil .nil) .nil)) (.node (g96 P) (.node (g160 P) (.node (g288 P) .nil .nil) .nil) (.node (g224 P) .nil .nil))) (.node (g48 P) (.node (g80 P) (.node (g144 P) (.node (g272 P) .nil .nil) .nil) (.node (g208 P) .nil .nil)) (.node (g112 P) (.node (g176 P) (.node (g304 P) .nil .nil) .nil) (.node (g240 P) .nil .nil)))) (.node (g24 P) (.node (g40 P) (.node (g72 P) (.node (g136 P) (.node (g264 P) .nil .nil) .nil) (.node (g200 P) .nil .nil)) (.node (g104 P) (.node (g168 P) (.node (g296 P) .nil .nil) .nil) (.node (g232 P) .nil .nil))) (.node (g56 P) (.node (g88 P) (.node (g152 P) (.node (g280 P) .nil .nil) .nil) (.node (g216 P) .nil .nil)) (.node (g120 P) (.node (g184 P) (.node (g312 P) .nil .nil) .nil) (.node (g248 P) .nil .nil))))) (.node (g12_47 P) (.node (g20 P) (.node (g36 P) (.node (g68 P) (.node (g132 P) (.node (g260 P) .nil .nil) .nil) (.node (g196 P) .nil .nil)) (.node (g100 P) (.node (g164 P) (.node (g292 P) .nil .nil) .nil) (.node (g228 P) .nil .nil))) (.node (g52 P) (.node (g84 P) (.node (g148 P) (.node (g276 P) .nil .nil) .nil) (.node (g212 P) .nil .nil)) (.node (g116 P) (.node (g180 P) (.node (g308 P) .nil .nil) .nil) (.node (g244 P) .nil .nil)))) (.node (g28 P) (.node (g44 P) (.node (g76 P) (.node (g140 P) (.node (g268 P) .nil .nil) .nil) (.node (g204 P) .nil .nil)) (.node (g108 P) (.node (g172 P) (.node (g300 P) .nil .nil) .nil) (.node (g236 P) .nil .nil))) (.node (g60 P) (.node (g92 P) (.node (g156 P) (.node (g284 P) .nil .nil) .nil) (.node (g220 P) .nil .nil)) (.node (g124 P) (.node (g188 P) (.node (g316 P) .nil .nil) .nil) (.node (g252 P) .nil .nil)))))) (.node (boot_o_6 P) (.node (boot_o_10 P) (.node (g18 P) (.node (g34 P) (.node (g66 P) (.node (g130 P) (.node (g258 P) .nil .nil) .nil) (.node (g194 P) .nil .nil)) (.node (g98 P) (.node (g162 P) (.node (g290 P) .nil .nil) .nil) (.node (g226 P) .nil .nil))) (.node (g50 P) (.node (g82 P) (.node (g146 P) (.node (g274 P) .nil .nil) .nil) (.node (g210 P) .nil .nil)) (.node (g114 P) (.node (g178 P) (.node (g306 P) .nil .nil) .nil) (.node (g242 P) .nil .nil)))) (.node (g26 P) (.node (g42 P) (.node (g74 P) (.node (g138 P) (.node (g266 P) .nil .nil) .nil) (.node (g202 P) .nil .nil)) (.node (g106 P) (.node (g170 P) (.node (g298 P) .nil .nil) .nil) (.node (g234 P) .nil .nil))) (.node (g58 P) (.node (g90 P) (.node (g154 P) (.node (g282 P) .nil .nil) .nil) (.node (g218 P) .nil .nil)) (.node (g122 P) (.node (g186 P) (.node (g314 P) .nil .nil) .nil) (.node (g250 P) .nil .nil))))) (.node (g14 P) (.node (g22 P) (.node (g38 P) (.node (g70 P) (.node (g134 P) (.node (g262 P) .nil .nil) .nil) (.node (g198 P) .nil .nil)) (.node (g102 P) (.node (g166 P) (.node (g294 P) .nil .nil) .nil) (.node (g230 P) .nil .nil))) (.node (g54 P) (.node (g86 P) (.node (g150 P) (.node (g278 P) .nil .nil) .nil) (.node (g214 P) .nil .nil)) (.node (g118 P) (.node (g182 P) (.node (g310 P) .nil .nil) .nil) (.node (g246 P) .nil .nil)))) (.node (g30 P) (.node (g46 P) (.node (g78 P) (.node (g142 P) (.node (g270 P) .nil .nil) .nil) (.node (g206 P) .nil .nil)) (.node (g110 P) (.node (g174 P) (.node (g302 P) .nil .nil) .nil) (.node (g238 P) .nil .nil))) (.node (g62 P) (.node (g94 P) (.node (g158 P) (.node (g286 P) .nil .nil) .nil) (.node (g222 P) .nil .nil)) (.node (g126 P) (.node (g190 P) (.node (g318 P) .nil .nil) .nil) (.node (g254 P) .nil .nil))))))))
noncomputable def heap_47 (P : Params) : Heap := ⟨#[boot_o_0 P, boot_o_1 P, boot_o_2 P, g3_47 P, boot_o_4 P, boot_o_5 P, boot_o_6 P, boot_o_7 P, boot_o_8 P, boot_o_9 P, boot_o_10 P, g11 P, g12_47 P, g13 P, g14 P, g15 P, g16 P, g17 P, g18 P, g19 P, g20 P, g21 P, g22 P, g23 P, g24 P, g25 P, g26 P, g27 P, g28 P, g29 P, g30 P, g31 P, g32 P, g33 P, g34 P, g35 P, g36 P, g37 P, g38 P, g39 P, g40 P, g41 P, g42 P, g43 P, g44 P, g45 P, g46 P, g47 P, g48 P, g49 P, g50 P, g51 P, g52 P, g53 P, g54 P, g55 P, g56 P, g57 P, g58 P, g59 P, g60 P, g61 P, g62 P, g63 P, g64 P, g65 P, g66 P, g67 P, g68 P, g69 P, g70 P, g71 P, g72 P, g73 P, g74 P, g75 P, g76 P, g77 P, g78 P, g79 P, g80 P, g81 P, g82 P, g83 P, g84 P, g85 P, g86 P, g87 P, g88 P, g89 P, g90 P, g91 P, g92 P, g93 P, g94 P, g95 P, g96 P, g97 P, g98 P, g99 P, g100 P, g101 P, g102 P, g103 P, g104 P, g105 P, g106 P, g107 P, g108 P, g109 P, g110 P, g111 P, g112 P, g113 P, g114 P, g115 P, g116 P, g117 P, g118 P, g119 P, g120 P, g121 P, g122 P, g123 P, g124 P, g125 P, g126 P, g127 P, g128 P, g129 P, g130 P, g131 P, g132 P, g133 P, g134 P, g135 P, g136 P, g137 P, g138 P, g139 P, g140 P, g141 P, g142 P, g143 P, g144 P, g145 P, g146 P, g147 P, g148 P, g149 P, g150 P, g151 P, g152 P, g153 P, g154 P, g155 P, g156 P, g157 P, g158 P, g159 P, g160 P, g161 P, g162 P, g163 P, g164 P, g165 P, g166 P, g167 P, g168 P, g169 P, g170 P, g171 P, g172 P, g173 P, g174 P, g175 P, g176 P, g177 P, g178 P, g179 P, g180 P, g181 P, g182 P, g183 P, g184 P, g185 P, g186 P, g187 P, g188 P, g189 P, g190 P, g191 P, g192 P, g193 P, g194 P, g195 P, g196 P, g197 P, g198 P, g199 P, g200 P, g201 P, g202 P, g203 P, g204 P, g205 P, g206 P, g207 P, g208 P, g209 P, g210 P, g211 P, g212 P, g213 P, g214 P, g215 P, g216 P, g217 P, g218 P, g219 P, g220 P, g221 P, g222 P, g223 P, g224 P, g225 P, g226 P, g227 P, g228 P, g229 P, g230 P, g231 P, g232 P, g233 P, g234 P, g235 P, g236 P, g237 P, g238 P, g239 P, g240 P, g241 P, g242 P, g243 P, g244 P, g245 P, g246 P, g247 P, g248 P, g249 P, g250 P, g251 P, g252 P, g253 P, g254 P, g255 P, g256 P, g257 P, g258 P, g259 P, g260 P, g261 P, g262 P, g263 P, g264 P, g265 P, g266 P, g267 P, g268 P, g269 P, g270 P, g271 P, g272 P, g273 P, g274 P, g275 P, g276 P, g277 P, g278 P, g279 P, g280 P, g281 P, g282 P, g283 P, g284 P, g285 P, g286 P, g287 P, g288 P, g289 P, g290 P, g291 P, g292 P, g293 P, g294 P, g295 P, g296 P, g297 P, g298 P, g299 P, g300 P, g301 P, g302 P, g303 P, g304 P, g305 P, g306 P, g307 P, g308 P, g309 P, g310 P, g311 P, g312 P, g313 P, g314 P, g315 P, g316 P, g317 P, g318 P, g319 P, g320 P], {}⟩

noncomputable def bd : List Stmt := behindTheImports pw
noncomputable def env0 : Env := { scope := pw.main.scope, locals := mainNs, globals := mainNs, cells := [], code := .ref 13, frame := some 14 }
noncomputable def cdB : Code := .body bd env0
noncomputable abbrev annV : Option Value := some (.ref 6)
noncomputable abbrev gs0 : Array GenState := Array.mk []
noncomputable def pos0 : Pos := ⟨0, 0, 0, 0⟩
noncomputable def S0 (w : World) (os : OsState) : SharedT := ⟨tree_1 w.params, 15, {}, gs0, {}, 187, os⟩
noncomputable def pos1 : Pos := ⟨29, 0, 46, 99⟩
noncomputable def S1 (w : World) (os : OsState) : SharedT := ⟨tree_9 w.params, 116, {}, gs0, {}, 362, os⟩
noncomputable def pos2 : Pos := ⟨124, 0, 130, 30⟩
noncomputable def S2 (w : World) (os : OsState) : SharedT := ⟨tree_24 w.params, 185, {}, gs0, {}, 472, os⟩
noncomputable def pos3 : Pos := ⟨200, 0, 200, 8⟩
noncomputable def S3 (w : World) (os : OsState) : SharedT := ⟨tree_36 w.params, 258, {}, gs0, {}, 577, os⟩
noncomputable def pos4 : Pos := ⟨295, 0, 305, 15⟩
noncomputable def S4 (w : World) (os : OsState) : SharedT := ⟨tree_47 w.params, 321, {}, gs0, {}, 669, os⟩
noncomputable abbrev thr (i k : Nat) (q : Pos) : Thread := piecesOf ((bd.drop i).take k) env0 cdB q [topFrame pos0]
noncomputable abbrev sB (w : World) (os : OsState) : Shared := ⟨boot_heap w.params, gs0, boot_drawn, boot_toks, os⟩
noncomputable abbrev hE (w : World) : Heap := heap_47 w.params
noncomputable abbrev sE (w : World) (os : OsState) : Shared := ⟨heap_47 w.params, gs0, {}, 669, os⟩
theorem openE : opening pw = plainProg pw.main.scope.names := by kernel_rfl
theorem fenceE (s : Shared) : fenceModules? pw s = some s := by kernel_rfl
theorem preT (w : World) (os : OsState) : topGo treeTable pw w 11 annV 12 (sB w os) (topStub pw) = some ((S0 w os).abs, ⟨denote treeTable cdB, cdB, pos0, [topFrame pos0]⟩) := by kernel_rfl
theorem blockT (w : World) (os : OsState) : segRun treeTable pw w 11 annV 1 1 (S0 w os).abs (blockOf bd env0 cdB pos0 [topFrame pos0]) = some (.next, (S0 w os).abs, cdB, pos0) := by kernel_rfl
theorem piece0 (w : World) (os : OsState) : segRunT treeTable pw w 11 annV 1 899 (S0 w os) (thr 0 7 pos0) = some (.next, S1 w os, cdB, pos1) := by kernel_rfl
theorem piece1 (w : World) (os : OsState) : segRunT treeTable pw w 11 annV 1 368 (S1 w os) (thr 7 15 pos1) = some (.next, S2 w os, cdB, pos2) := by kernel_rfl
theorem piece2 (w : World) (os : OsState) : segRunT treeTable pw w 11 annV 1 368 (S2 w os) (thr 22 12 pos2) = some (.next, S3 w os, cdB, pos3) := by kernel_rfl
theorem piece3 (w : World) (os : OsState) : segRunT treeTable pw w 11 annV 1 321 (S3 w os) (thr 34 11 pos3) = some (.next, S4 w os, cdB, pos4) := by kernel_rfl
theorem finT (w : World) (os : OsState) : topRun treeTable pw w 11 annV 2 (S4 w os).abs ⟨doneF .next, cdB, pos4, [topFrame pos0]⟩ = some (sE w os) := by kernel_rfl
theorem bd45 : bd.drop 45 = [] := by kernel_rfl
theorem go_piece {w : World} {n N i k : Nat} {s s' : SharedT} {r : Shared} {q q' : Pos} (h : segRunT treeTable pw w 11 annV 1 n s (thr i k q) = some (.next, s', cdB, q'))
    (z : topRun treeTable pw w 11 annV N s'.abs (restOf (bd.drop (i + k)) env0 cdB q' [topFrame pos0]) = some r) : topRun treeTable pw w 11 annV (n + N) s.abs (restOf (bd.drop i) env0 cdB q [topFrame pos0]) = some r := by
  have e : bd.drop i = (bd.drop i).take k ++ bd.drop (i + k) := by rw [← List.drop_drop, List.take_append_drop]
  rw [e]
  exact piece_app (segRun_of h) z
theorem run0 (w : World) (os : OsState) : topRun treeTable pw w 11 annV (12 + (1 + (899 + (368 + (368 + (321 + 2)))))) (sB w os) (topStub pw) = some (sE w os) := by
  refine go_top (preT w os) ?_
  refine piece_block (blockT w os) ?_
  show topRun treeTable pw w 11 annV _ (S0 w os).abs (restOf (bd.drop 0) env0 cdB pos0 [topFrame pos0]) = _
  refine go_piece (piece0 w os) ?_
  refine go_piece (piece1 w os) ?_
  refine go_piece (piece2 w os) ?_
  refine go_piece (piece3 w os) ?_
  show topRun treeTable pw w 11 annV _ (S4 w os).abs (restOf (bd.drop 45) env0 cdB pos4 [topFrame pos0]) = _
  rw [bd45]
  exact piece_nil (finT w os)
noncomputable abbrev modsP : List Str := importedModules pw.main.body
noncomputable abbrev XtP (s : Shared) : Bool := xlAt viewP [] s && recOk (RowW.records PySem.Challenge.rw_nu0279_01.row.toRowW) s
theorem look01 (w : World) : staticsOk modsP (boot_heap w.params) (hE w) = true := by kernel_rfl
theorem look02 (w : World) : namesBound pw (hE w) = true := by kernel_rfl
theorem look03 (w : World) : laidKept (boot_heap w.params) (hE w) = true := by kernel_rfl
theorem look1 (w : World) (os : OsState) : seen ((recsOf viewP).map (·.name)) (ownsOf viewP) [] { sE w os with gens := #[] } = expectedOf viewP := by kernel_rfl
theorem look2 (w : World) : (hE w).bltView = bltViewBooted := by kernel_rfl
theorem look3 (w : World) : (hE w).keysOk (looseW viewP LO) ((recsOf viewP).map (·.name)) ((litsOf viewP).map (·.1)) ((clssOf viewP (looseW viewP LO)).map (·.name)) = true := by kernel_rfl
theorem look4 (w : World) : (hE w).accountedOkI modsP = true := by kernel_rfl
theorem look5 (w : World) : ((hE w).isNs mainGlobals && (hE w).isNs builtinsNs) = true := by kernel_rfl
theorem look6 (w : World) : tablesOk viewP (hE w) = true := by kernel_rfl
theorem look7 (w : World) (os : OsState) : xlAt viewP [] (sE w os) = true := by kernel_rfl
theorem look8 (w : World) (os : OsState) : recOk (RowW.records PySem.Challenge.rw_nu0279_01.row.toRowW) (sE w os) = true := by kernel_rfl
theorem look9 (w : World) (os : OsState) : tabsOk viewP (sE w os) = true := by kernel_rfl
theorem look10 (w : World) (os : OsState) : pinSeenD viewP (drecsOf viewP) (sE w os) = pinGoodD (drecsOf viewP) := by kernel_rfl
theorem look11 (w : World) (os : OsState) : plainSeenE viewP (looseW viewP LO) (sE w os) = plainGoodE viewP (looseW viewP LO) := by kernel_rfl
theorem look12 (w : World) (os : OsState) : plainSeenD viewP LO (sE w os) = plainGoodD viewP LO := by kernel_rfl
theorem look13 (w : World) (os : OsState) : wideSeen viewP (sE w os) = wideGood viewP := by kernel_rfl
theorem look14 (w : World) (os : OsState) : clsSeenW viewP LO (sE w os) = clsGoodW viewP LO := by kernel_rfl
theorem look15 (w : World) (os : OsState) : Hook.obs HK (sE w os) = Hook.val HK w := by kernel_rfl
theorem look0 (w : World) (os : OsState) : (staticsOk modsP (boot_heap w.params) (hE w) && namesBound pw (hE w) && gensDone (sE w os) && laidKept (boot_heap w.params) (hE w)) = true := by
  rw [look01, look02, look03]
  rfl
theorem look3A (w : World) (os : OsState) : ((hE w).keysOk (looseW viewP LO) ((recsOf viewP).map (·.name)) ((litsOf viewP).map (·.1)) ((clssOf viewP (looseW viewP LO)).map (·.name)) && (hE w).accountedOkI modsP && (hE w).isNs mainGlobals && (hE w).isNs builtinsNs && tablesOk viewP (hE w) && XtP (sE w os) && (if true then (sE w os).gens.size == 0 else !leftWithCleanup (sE w os).gens)) = true := by
  have e := look5 w
  rw [Bool.and_eq_true] at e
  rw [look3, look4, e.1, e.2, look6]
  show (true && (xlAt viewP [] (sE w os) && recOk (RowW.records PySem.Challenge.rw_nu0279_01.row.toRowW) (sE w os)) && true) = true
  rw [look7, look8]
  rfl
theorem looksO (w : World) (os : OsState) : openSeen viewP LO modsP XtP true (sE w os) = openGood viewP LO := by
  unfold openSeen openGood
  refine looks_pair (look1 w os) ?_
  refine looks_pair (look2 w) ?_
  refine looks_pair (look3A w os) ?_
  refine looks_pair (look9 w os) ?_
  refine looks_pair (look10 w os) ?_
  refine looks_pair (look11 w os) ?_
  refine looks_pair (look12 w os) ?_
  exact looks_pair (look13 w os) (look14 w os)
theorem looks0 (w : World) : (fun os => ((staticsOk modsP (boot_heap w.params) (hE w) && namesBound pw (hE w) && gensDone (sE w os) && laidKept (boot_heap w.params) (hE w)), openSeen viewP LO modsP XtP true (sE w os), Hook.obs HK (sE w os))) = fun _ => (true, openGood viewP LO, Hook.val HK w) := by
  funext os
  exact looks_pair (look0 w os) (looks_pair (looksO w os) (look15 w os))
theorem sizeE (w : World) : ((boot_heap w.params).isNs mainGlobals && gs0.size == 0, (boot_heap w.params).objs.size, (boot_heap w.params).nsMap mainGlobals "__annotations__") = (true, 11, annV) := by kernel_rfl
theorem left0 : LeftO pw viewP LO (fun s => xlAt viewP [] s && recOk (RowW.records PySem.Challenge.rw_nu0279_01.row.toRowW) s) (Hook.obs HK) (Hook.val HK) 4030 :=
  @LeftO.of_pieces pw viewP LO XtP _ (Hook.obs HK) (Hook.val HK) 4030 true boot_heap heap_47 gs0 gs0 boot_drawn {} boot_toks 669 11 annV _ (boot_open openE rfl fenceE) sizeE run0 (by kernel_rfl) looks0
end Mine
namespace Mine
set_option maxRecDepth 100000
set_option maxHeartbeats 8000000
theorem wsd : PySem.Challenge.rw_nu0279_01.wellSaid = true := by
  unfold OpenLaw.wellSaid OpenRow.wellSaid OpenRow.partSaid looksOpen
  repeat' (with_reducible refine look_both ?_ ?_)
  all_goals decide +kernel
end Mine
namespace Mine
set_option autoImplicit false
set_option genSizeOf false
set_option genInjectivity false
set_option linter.unusedSectionVars false
set_option linter.unusedVariables false

theorem exx4 {α : Type} {a : α → Prop} {b : Prop} {c : α → Prop} {P : Prop} (q : ∃ x, a x ∧ b ∧ c x) (k : ∀ x, a x → b → c x → P) : P := q.elim fun x q => k x q.1 q.2.1 q.2.2
theorem one_of {α β : Type} {l : List α} {b : β} (h : l.length = [b].length) : ∃ a, l = [a] := List.length_eq_one_iff.mp h
theorem two_of {α β : Type} {l : List α} {b c : β} (h : l.length = [b, c].length) : ∃ a d, l = [a, d] := by
  cases l with
  | nil => cases h
  | cons a l => exact (one_of (b := c) (Nat.succ.inj h)).elim fun d e => ⟨a, d, congrArg _ e⟩
set_option genInjectivity true
/-- data -/
inductive D where
  | none | bool (b : Bool) | int (i : Int) | str (s : Str)
  | tup (l : List D) | list (l : List D)
  | inst (C : Addr) (fs : List (Str × D)) | fn (v : Value) | rng (n : Int)
set_option genInjectivity false

mutual
/-- value v shows data d in heap h, through objects that are not in Fb -/
inductive Rep (h : Heap) (Fb : Addr → Prop) : Value → D → Prop where
  | none : Rep h Fb .none .none
  | bool (b : Bool) : Rep h Fb (.bool b) (.bool b)
  | int (i : Int) (t : Tok) : Rep h Fb (.int i t) (.int i)
  | str (s : Str) (t : Tok) : Rep h Fb (.str s t) (.str s)
  | fn (v : Value) : handedIn v = true → Rep h Fb v (.fn v)
  | rng {a : Addr} {n : Int} {t u v : Tok} : ¬ Fb a → IsRange h a 0 n 1 t u v → Rep h Fb (.ref a) (.rng n)
  | tup {a : Addr} {vs : List Value} {ds : List D} : ¬ Fb a → h.IsTuple a vs.toArray → Reps h Fb vs ds → Rep h Fb (.ref a) (.tup ds)
  | list {a : Addr} {vs : List Value} {ds : List D} : ¬ Fb a → h.IsList a vs.toArray → Reps h Fb vs ds → Rep h Fb (.ref a) (.list ds)
  | inst {x C dx : Addr} {es : List DictEntry} {n : Nat} {fs : List (Str × D)} : ¬ Fb x → ¬ Fb dx → h.get? x = some (instObj C dx) → h.get? dx = some (dictOf es n) →
      RepF h Fb es fs → Rep h Fb (.ref x) (.inst C fs)
inductive Reps (h : Heap) (Fb : Addr → Prop) : List Value → List D → Prop where
  | nil : Reps h Fb [] []
  | cons {v : Value} {d : D} {vs : List Value} {ds : List D} : Rep h Fb v d → Reps h Fb vs ds → Reps h Fb (v :: vs) (d :: ds)
inductive RepF (h : Heap) (Fb : Addr → Prop) : List DictEntry → List (Str × D) → Prop where
  | nil : RepF h Fb [] []
  | cons {hs : Int} {x : Str} {t : Tok} {v : Value} {d : D} {es : List DictEntry} {fs : List (Str × D)} : Rep h Fb v d → RepF h Fb es fs → RepF h Fb (⟨hs, .str x t, v⟩ :: es) ((x, d) :: fs)
end

section
variable {h h' : Heap} {Fb Fb' : Addr → Prop} (hk : ∀ b o, h.get? b = some o → ¬ Fb b → h'.get? b = some o) (hF : ∀ a, Fb' a → Fb a ∨ h.get? a = .none)
include hk hF
theorem notFb {a : Addr} {o : Obj} (e : h.get? a = some o) (n : ¬ Fb a) : ¬ Fb' a := fun q => (hF a q).elim n fun z => by rw [z] at e; cases e
theorem Rep.mono {v : Value} {d : D} (r : Rep h Fb v d) : Rep h' Fb' v d :=
  Rep.rec (motive_1 := fun v d _ => Rep h' Fb' v d) (motive_2 := fun vs ds _ => Reps h' Fb' vs ds) (motive_3 := fun es fs _ => RepF h' Fb' es fs)
    .none .bool .int .str .fn (fun n e => .rng (notFb hk hF e n) (hk _ _ e n))
    (fun n e _ q => e.elim fun o ho => .tup (notFb hk hF ho.1 n) ⟨o, hk _ _ ho.1 n, ho.2⟩ q)
    (fun n e _ q => e.elim fun o ho => .list (notFb hk hF ho.1 n) ⟨o, hk _ _ ho.1 n, ho.2⟩ q)
    (fun n1 n2 h1 h2 _ q => .inst (notFb hk hF h1 n1) (notFb hk hF h2 n2) (hk _ _ h1 n1) (hk _ _ h2 n2) q)
    .nil (fun _ _ a b => .cons a b) .nil (fun _ _ a b => .cons a b) r
omit hk hF in
theorem Reps.ind {P : List Value → List D → Prop} (nil : P [] []) (cons : ∀ {v : Value} {d : D} {vs : List Value} {ds : List D}, Rep h Fb v d → Reps h Fb vs ds → P vs ds → P (v :: vs) (d :: ds)) {vs : List Value} {ds : List D} (r : Reps h Fb vs ds) : P vs ds :=
  Reps.rec (motive_1 := fun _ _ _ => True) (motive_2 := fun vs ds _ => P vs ds) (motive_3 := fun _ _ _ => True)
    trivial (fun _ => trivial) (fun _ _ => trivial) (fun _ _ => trivial) (fun _ _ => trivial) (fun _ _ => trivial) (fun _ _ _ _ => trivial) (fun _ _ _ _ => trivial) (fun _ _ _ _ _ _ => trivial)
    nil (fun a r _ q => cons a r q) trivial (fun _ _ _ _ => trivial) r
omit hk hF in
theorem RepF.ind {P : List DictEntry → List (Str × D) → Prop} (nil : P [] []) (cons : ∀ {hs : Int} {x : Str} {t : Tok} {v : Value} {d : D} {es : List DictEntry} {fs : List (Str × D)}, Rep h Fb v d → RepF h Fb es fs → P es fs → P (⟨hs, .str x t, v⟩ :: es) ((x, d) :: fs))
    {es : List DictEntry} {fs : List (Str × D)} (r : RepF h Fb es fs) : P es fs :=
  RepF.rec (motive_1 := fun _ _ _ => True) (motive_2 := fun _ _ _ => True) (motive_3 := fun es fs _ => P es fs)
    trivial (fun _ => trivial) (fun _ _ => trivial) (fun _ _ => trivial) (fun _ _ => trivial) (fun _ _ => trivial) (fun _ _ _ _ => trivial) (fun _ _ _ _ => trivial) (fun _ _ _ _ _ _ => trivial)
    trivial (fun _ _ _ _ => trivial) nil (fun a r _ q => cons a r q) r
theorem Reps.mono {vs : List Value} {ds : List D} (r : Reps h Fb vs ds) : Reps h' Fb' vs ds := r.ind (P := Reps h' Fb') .nil fun a _ q => .cons (Rep.mono hk hF a) q
end

theorem Reps.length {h : Heap} {Fb : Addr → Prop} {vs : List Value} {ds : List D} (r : Reps h Fb vs ds) : vs.length = ds.length := r.ind (P := fun vs ds => vs.length = ds.length) rfl fun _ _ q => congrArg Nat.succ q
theorem Reps.get {h : Heap} {Fb : Addr → Prop} {vs : List Value} {ds : List D} {i : Nat} {d : D} (r : Reps h Fb vs ds) : ds[i]? = some d → ∃ v, vs[i]? = some v ∧ Rep h Fb v d :=
  r.ind (P := fun vs ds => ∀ j : Nat, ds[j]? = some d → ∃ v, vs[j]? = some v ∧ Rep h Fb v d) (fun _ e => by cases e) (fun a _ q j e => by
    cases j with
    | zero => cases e; exact ⟨_, rfl, a⟩
    | succ j => exact q j e) i
theorem Reps.append {h : Heap} {Fb : Addr → Prop} {vs ws : List Value} {ds es : List D} (r : Reps h Fb vs ds) (b : Reps h Fb ws es) : Reps h Fb (vs ++ ws) (ds ++ es) := r.ind (P := fun vs ds => Reps h Fb (vs ++ ws) (ds ++ es)) b fun a _ q => .cons a q
theorem Reps.set {h : Heap} {Fb : Addr → Prop} {vs : List Value} {ds : List D} {v : Value} {d : D} (i : Nat) (r : Reps h Fb vs ds) (b : Rep h Fb v d) : Reps h Fb (vs.set i v) (ds.set i d) :=
  r.ind (P := fun vs ds => ∀ i, Reps h Fb (vs.set i v) (ds.set i d)) (fun _ => .nil) (fun a r q i => by
    cases i with
    | zero => exact .cons b r
    | succ i => exact .cons a (q i)) i

section
variable {h : Heap} {Fb : Addr → Prop} {v : Value}
noncomputable def Rep.Out (h : Heap) (Fb : Addr → Prop) (v : Value) : D → Prop
  | .none => v = .none
  | .bool b => v = .bool b
  | .int i => ∃ t, v = .int i t
  | .str s => ∃ t, v = .str s t
  | .tup l => ∃ a vs, v = .ref a ∧ ¬ Fb a ∧ h.IsTuple a vs.toArray ∧ Reps h Fb vs l
  | .list l => ∃ a vs, v = .ref a ∧ ¬ Fb a ∧ h.IsList a vs.toArray ∧ Reps h Fb vs l
  | .inst C fs => ∃ x dx es n, v = .ref x ∧ ¬ Fb x ∧ ¬ Fb dx ∧ h.get? x = some (instObj C dx) ∧ h.get? dx = some (dictOf es n) ∧ RepF h Fb es fs
  | .fn f => v = f
  | .rng n => ∃ a t u w, v = .ref a ∧ ¬ Fb a ∧ IsRange h a 0 n 1 t u w
theorem Rep.out {d : D} (r : Rep h Fb v d) : Rep.Out h Fb v d :=
  Rep.rec (motive_1 := fun v d _ => Rep.Out h Fb v d) (motive_2 := fun _ _ _ => True) (motive_3 := fun _ _ _ => True)
    rfl (fun _ => rfl) (fun _ t => ⟨t, rfl⟩) (fun _ t => ⟨t, rfl⟩) (fun _ _ => rfl) (fun n e => ⟨_, _, _, _, rfl, n, e⟩) (fun n e q _ => ⟨_, _, rfl, n, e, q⟩) (fun n e q _ => ⟨_, _, rfl, n, e, q⟩)
    (fun n1 n2 h1 h2 q _ => ⟨_, _, _, _, rfl, n1, n2, h1, h2, q⟩) trivial (fun _ _ _ _ => trivial) trivial (fun _ _ _ _ => trivial) r
theorem Rep.ofInt {i : Int} (r : Rep h Fb v (.int i)) : ∃ t, v = .int i t := r.out
theorem Rep.ofStr {s : Str} (r : Rep h Fb v (.str s)) : ∃ t, v = .str s t := r.out
theorem Rep.ofBool {b : Bool} (r : Rep h Fb v (.bool b)) : v = .bool b := r.out
theorem Rep.ofNone (r : Rep h Fb v .none) : v = .none := r.out
theorem Rep.ofFn {f : Value} (r : Rep h Fb v (.fn f)) : v = f := r.out
theorem Rep.ofList {l : List D} (r : Rep h Fb v (.list l)) : ∃ a vs, v = .ref a ∧ ¬ Fb a ∧ h.IsList a vs.toArray ∧ Reps h Fb vs l := r.out
theorem Rep.ofTup {l : List D} (r : Rep h Fb v (.tup l)) : ∃ a vs, v = .ref a ∧ ¬ Fb a ∧ h.IsTuple a vs.toArray ∧ Reps h Fb vs l := r.out
theorem Rep.ofRng {n : Int} (r : Rep h Fb v (.rng n)) : ∃ a t u w, v = .ref a ∧ ¬ Fb a ∧ IsRange h a 0 n 1 t u w := r.out
theorem Rep.ofInst {C : Addr} {fs : List (Str × D)} (r : Rep h Fb v (.inst C fs)) : ∃ x dx es n, v = .ref x ∧ ¬ Fb x ∧ ¬ Fb dx ∧ h.get? x = some (instObj C dx) ∧ h.get? dx = some (dictOf es n) ∧ RepF h Fb es fs := r.out
theorem Reps.uncons {vs : List Value} {d : D} {ds : List D} (r : Reps h Fb vs (d :: ds)) : ∃ v ws, vs = v :: ws ∧ Rep h Fb v d ∧ Reps h Fb ws ds :=
  r.ind (P := fun vs l => ∀ d ds, l = d :: ds → ∃ v ws, vs = v :: ws ∧ Rep h Fb v d ∧ Reps h Fb ws ds) (fun _ _ e => by cases e) (fun a r _ _ _ e => by cases e; exact ⟨_, _, rfl, a, r⟩) _ _ rfl
theorem Reps.nilv {vs : List Value} (r : Reps h Fb vs []) : vs = [] := List.length_eq_zero_iff.mp r.length
theorem Reps.one {vs : List Value} {d : D} (r : Reps h Fb vs [d]) : ∃ v, vs = [v] ∧ Rep h Fb v d := r.uncons.elim fun v q => q.elim fun _ q => ⟨v, by rw [q.1, q.2.2.nilv], q.2.1⟩
theorem Reps.two {vs : List Value} {d e : D} (r : Reps h Fb vs [d, e]) : ∃ v w, vs = [v, w] ∧ Rep h Fb v d ∧ Rep h Fb w e :=
  r.uncons.elim fun v q => q.elim fun _ q => q.2.2.one.elim fun w p => ⟨v, w, by rw [q.1, p.1], q.2.1, p.2⟩
end

set_option genInjectivity true
/-- what an address that may not be looked at as data is -/
inductive Role where
  | ext | frame | cell (x : Str) | own (x : Str) | temp (k : Nat) | dead
  deriving DecidableEq
set_option genInjectivity false

structure Wd where
  prog : Program
  w : World
  K : Frag
  hB : Heap
  p : Program
  loose : List Str
  mean : ExcName → Option Value
  mg : Str → Option Value
  mb : Str → Option Value
  X : K.In hB
  T : Top p loose mean mg mb hB

structure Fx (W : Wd) where
  env : Env
  hE : Heap
  bx : Option Addr
  Fb : Addr → Prop
  kind : env.scope.kind = .function
  glob : env.globals = mainGlobals
  blt : env.builtins = builtinsNs
  base : W.hB.StaysIn hE
  bxB : ∀ a, bx = some a → W.hB.get? a = .none
  FbE : ∀ a, Fb a → ∃ o, hE.get? a = some o

/-- a local: data, or a list of the frame's own that may still change -/
inductive Loc where
  | val (d : D) | own (l : List D)
noncomputable abbrev LS := List (Str × Loc)
/-- a value that is held: data, the own list of a name, a fresh list, an object kept as it is (nobody else's) -/
inductive Tmp where
  | val (d : D) | own (x : Str) | fresh (l : List D) | obj (o : Obj) | kept (o : Obj)

noncomputable def Bound (h : Heap) (env : Env) (x : Str) (v : Value) : Prop :=
  (env.kindOf x = some .local ∧ ∃ m, h.Ns env.locals m ∧ m x = some v) ∨
  (env.kindOf x = some .cell ∧ ∃ c, env.cells.lookup x = some c ∧ h.IsCell c (some v))

noncomputable abbrev FbOf (ρ : Addr → Option Role) : Addr → Prop := fun a => ρ a ≠ .none

noncomputable def LocOk (h : Heap) (ρ : Addr → Option Role) (x : Str) (v : Value) : Loc → Prop
  | .val d => Rep h (FbOf ρ) v d
  | .own l => ∃ a vs, v = .ref a ∧ ρ a = some (.own x) ∧ h.PlainList a vs ∧ Reps h (FbOf ρ) vs.toList l
noncomputable def TmpOk (h : Heap) (ρ : Addr → Option Role) (k : Nat) (v : Value) : Tmp → Prop
  | .val d => Rep h (FbOf ρ) v d
  | .own x => ∃ a, v = .ref a ∧ ρ a = some (.own x)
  | .fresh l => ∃ a vs, v = .ref a ∧ ρ a = some (.temp k) ∧ h.PlainList a vs ∧ Reps h (FbOf ρ) vs.toList l
  | .obj o => ∃ a, v = .ref a ∧ ρ a = some (.temp k) ∧ h.get? a = some o
  | .kept o => ∃ a, v = .ref a ∧ ρ a = .none ∧ h.get? a = some o
noncomputable def TsOk (h : Heap) (ρ : Addr → Option Role) : List (Value × Tmp) → Prop
  | [] => True
  | (v, t) :: r => TmpOk h ρ r.length v t ∧ TsOk h ρ r

noncomputable abbrev Only (s s' : Shared) : Prop := s'.gens = s.gens ∧ s'.drawn = s.drawn ∧ s'.os = s.os
theorem Only.refl (s : Shared) : Only s s := ⟨rfl, rfl, rfl⟩
theorem Only.trans {s₁ s₂ s₃ : Shared} (a : Only s₁ s₂) (b : Only s₂ s₃) : Only s₁ s₃ := ⟨b.1.trans a.1, b.2.1.trans a.2.1, b.2.2.trans a.2.2⟩

structure StR {W : Wd} (C : Fx W) (ρ : Addr → Option Role) (σ : LS) (s : Shared) (T : List (Value × Tmp)) : Prop where
  alive : ∀ a, ρ a ≠ .none → ∃ o, s.heap.get? a = some o
  top : ∀ a o, W.hB.get? a = some o → ρ a = .none
  ext : ∀ a, C.Fb a → ρ a ≠ .none
  new : ∀ a r, ρ a = some r → r ≠ .ext → C.bx ≠ some a → C.hE.get? a = .none
  keep : ∀ b o, C.hE.get? b = some o → C.bx ≠ some b → s.heap.get? b = some o
  ns : ∃ m, s.heap.Ns C.env.locals m
  frρ : ρ C.env.locals = some .frame
  cells : ∀ x c, C.env.kindOf x = some .cell → C.env.cells.lookup x = some c → (ρ c = some (.cell x) ∨ (ρ c ≠ .none ∧ ∃ o, C.hE.get? c = some o ∧ C.bx ≠ some c)) ∧ ∃ v, s.heap.IsCell c v
  box : ∀ a, C.bx = some a → ρ a = some (.own "box")
  uniq : ∀ a b r, r ≠ .ext → r ≠ .dead → ρ a = some r → ρ b = some r → a = b
  tlt : ∀ a k, ρ a = some (.temp k) → k < T.length
  vars : ∀ x l, σ.lookup x = some l → ∃ v, Bound s.heap C.env x v ∧ LocOk s.heap ρ x v l
  temps : TsOk s.heap ρ T

noncomputable def St {W : Wd} (C : Fx W) (σ : LS) (s : Shared) (T : List (Value × Tmp)) : Prop := ∃ ρ, StR C ρ σ s T

noncomputable abbrev Kp (h h' : Heap) : Prop := ∀ b o, h.get? b = some o → h'.get? b = some o

section
variable {h h' : Heap} {ρ ρ' : Addr → Option Role}
theorem Rep.keep {Fb : Addr → Prop} {v : Value} {d : D} (r : Rep h Fb v d) (hk : Kp h h') : Rep h' Fb v d := Rep.mono (fun b o e _ => hk b o e) (fun _ => .inl) r
theorem Reps.keep {Fb : Addr → Prop} {v : List Value} {d : List D} (r : Reps h Fb v d) (hk : Kp h h') : Reps h' Fb v d := Reps.mono (fun b o e _ => hk b o e) (fun _ => .inl) r
/-- all but the objects of one role stay; the roles are renamed -/
theorem Rep.off {r₀ : Role} {f : Role → Role} {v : Value} {d : D} (r : Rep h (FbOf ρ) v d) (hk : ∀ b o, h.get? b = some o → ρ b ≠ some r₀ → h'.get? b = some o) : Rep h' (FbOf fun a => (ρ a).map f) v d :=
  Rep.mono (fun b o e n => hk b o e fun q => n (by rw [q]; intro z; cases z)) (fun a q => .inl fun z => q (by simp [z])) r
theorem Reps.off {r₀ : Role} {f : Role → Role} {v : List Value} {d : List D} (r : Reps h (FbOf ρ) v d) (hk : ∀ b o, h.get? b = some o → ρ b ≠ some r₀ → h'.get? b = some o) : Reps h' (FbOf fun a => (ρ a).map f) v d :=
  Reps.mono (fun b o e n => hk b o e fun q => n (by rw [q]; intro z; cases z)) (fun a q => .inl fun z => q (by simp [z])) r

theorem PlainList.at_ {a : Addr} {items : Array Value} (x : h.PlainList a items) (hk : ∀ o, h.get? a = some o → h'.get? a = some o) : h'.PlainList a items := let ⟨n, e⟩ := x; ⟨n, hk _ e⟩

theorem LocOk.off {r₀ : Role} {f : Role → Role} {x : Str} {v : Value} {l : Loc} (q : LocOk h ρ x v l) (hk : ∀ b o, h.get? b = some o → ρ b ≠ some r₀ → h'.get? b = some o)
    (ho : ∀ l', l = .own l' → r₀ ≠ .own x ∧ f (.own x) = .own x) : LocOk h' (fun a => (ρ a).map f) x v l := by
  cases l with
  | val d => exact Rep.off (r₀ := r₀) q hk
  | own l =>
    obtain ⟨a, vs, e, hr, hl, hR⟩ := q
    obtain ⟨h1, h2⟩ := ho l rfl
    exact ⟨a, vs, e, by simp only [hr, Option.map_some, h2], PlainList.at_ hl fun o e => hk a o e (by rw [hr]; intro z; exact h1 (Option.some.inj z).symm), Reps.off (r₀ := r₀) hR hk⟩
theorem TmpOk.off {r₀ : Role} {f : Role → Role} {k : Nat} {v : Value} {t : Tmp} (q : TmpOk h ρ k v t) (hk : ∀ b o, h.get? b = some o → ρ b ≠ some r₀ → h'.get? b = some o)
    (ho : ∀ x, t = .own x → f (.own x) = .own x) (ht : r₀ ≠ .temp k ∧ f (.temp k) = .temp k) : TmpOk h' (fun a => (ρ a).map f) k v t := by
  cases t with
  | val d => exact Rep.off (r₀ := r₀) q hk
  | own x => obtain ⟨a, e, hr⟩ := q; exact ⟨a, e, by simp only [hr, Option.map_some, ho x rfl]⟩
  | fresh l =>
    obtain ⟨a, vs, e, hr, hl, hR⟩ := q
    exact ⟨a, vs, e, by simp only [hr, Option.map_some, ht.2], PlainList.at_ hl fun o e => hk a o e (by rw [hr]; intro z; exact ht.1 (Option.some.inj z).symm), Reps.off (r₀ := r₀) hR hk⟩
  | obj o => obtain ⟨a, e, hr, hl⟩ := q; exact ⟨a, e, by simp only [hr, Option.map_some, ht.2], hk a o hl (by rw [hr]; intro z; exact ht.1 (Option.some.inj z).symm)⟩
  | kept o => obtain ⟨a, e, hr, hl⟩ := q; exact ⟨a, e, by simp only [hr, Option.map_none], hk a o hl (by rw [hr]; intro z; cases z)⟩
theorem TsOk.off {r₀ : Role} {f : Role → Role} (hk : ∀ b o, h.get? b = some o → ρ b ≠ some r₀ → h'.get? b = some o) : ∀ {T : List (Value × Tmp)}, TsOk h ρ T →
    (∀ p ∈ T, ∀ x, p.2 = .own x → f (.own x) = .own x) → (∀ k, k < T.length → r₀ ≠ .temp k ∧ f (.temp k) = .temp k) → TsOk h' (fun a => (ρ a).map f) T
  | [], _, _, _ => trivial
  | (v, t) :: r, q, ho, ht => ⟨TmpOk.off q.1 hk (ho (v, t) (.head _)) (ht _ (by simp)), TsOk.off hk q.2 (fun p hp => ho p (.tail _ hp)) fun k hk' => ht k (by simp; omega)⟩
theorem TsOk.tail {T : List (Value × Tmp)} : ∀ {E : List (Value × Tmp)}, TsOk h ρ (E ++ T) → TsOk h ρ T
  | [], q => q
  | (_, _) :: _, q => TsOk.tail q.2
end

section
variable {W : Wd} {C : Fx W} {ρ : Addr → Option Role} {σ σ' : LS} {s s' : Shared} {T : List (Value × Tmp)}

theorem Bound.off {h h' : Heap} {env : Env} {r₀ : Role} {x : Str} {v : Value} (q : Bound h env x v) (hk : ∀ b o, h.get? b = some o → ρ b ≠ some r₀ → h'.get? b = some o)
    (hf : env.kindOf x = some .local → ρ env.locals ≠ some r₀) (hc : ∀ c, env.kindOf x = some .cell → env.cells.lookup x = some c → ρ c ≠ some r₀) : Bound h' env x v := by
  rcases q with ⟨k, m, hn, hm⟩ | ⟨k, c, hc', hv⟩
  · obtain ⟨o, es, ep, ho, r⟩ := hn
    exact .inl ⟨k, m, ⟨o, es, ep, hk _ _ ho (hf k), r⟩, hm⟩
  · obtain ⟨o, ho, hd⟩ := hv
    exact .inr ⟨k, c, hc', o, hk _ _ ho (hc c k hc'), hd⟩

/-- nothing that stood has changed; roles renamed; the held ones are fewer -/
theorem StR.off {E : List (Value × Tmp)} (S : StR C ρ σ s (E ++ T)) (hk : Kp s.heap s'.heap) (f : Role → Role) (h1 : f .frame = .frame) (h2 : ∀ x, f (.cell x) = .cell x) (h3 : ∀ x, f (.own x) = .own x)
    (h4 : f .ext = .ext) (h5 : ∀ k, k < T.length → f (.temp k) = .temp k) (h6 : ∀ r k, f r = .temp k → k < T.length) (h7 : ∀ r, f r = r ∨ f r = .dead) :
    StR C (fun a => (ρ a).map f) σ s' T := by
  have hk' : ∀ b o, s.heap.get? b = some o → ρ b ≠ some (.temp (E ++ T).length) → s'.heap.get? b = some o := fun b o e _ => hk b o e
  refine ⟨fun a n => ?_, fun a o e => by simp only [S.top a o e, Option.map_none], fun a n => ?_, fun a r e n nb => ?_, fun b o e nb => hk _ _ (S.keep b o e nb), ?_, by simp only [S.frρ, Option.map_some, h1], fun x c k hc => ?_, fun a e => by simp only [S.box a e, Option.map_some, h3],
    fun a b r n n' ea eb => ?_, fun a k e => ?_, fun x l e => ?_, ?_⟩
  · obtain ⟨o, e⟩ := S.alive a (fun z => n (by simp [z])); exact ⟨o, hk _ _ e⟩
  · have := S.ext a n; intro z; exact this (by simpa using z)
  · obtain ⟨r', e', rfl⟩ := Option.map_eq_some_iff.mp e
    exact S.new a r' e' (fun z => n (z ▸ h4)) nb
  · obtain ⟨m, hm⟩ := S.ns; exact ⟨m, hm.keeps hk⟩
  · obtain ⟨hr, v, hv⟩ := S.cells x c k hc
    refine ⟨hr.imp (fun z => by simp only [z, Option.map_some, h2]) (fun z => ⟨fun q => z.1 (by simpa using q), z.2⟩), v, hv.keeps hk⟩
  · obtain ⟨ra, e1, e2⟩ := Option.map_eq_some_iff.mp ea
    obtain ⟨rb, e3, e4⟩ := Option.map_eq_some_iff.mp eb
    have p : ∀ x, f x = r → x = r := fun x e => by
      rcases h7 x with q | q
      · rw [← q]; exact e
      · rw [q] at e; exact absurd e.symm n'
    exact S.uniq a b r n n' (by rw [e1, p _ e2]) (by rw [e3, p _ e4])
  · obtain ⟨ra, e1, e2⟩ := Option.map_eq_some_iff.mp e
    exact h6 _ _ e2
  · obtain ⟨v, hb, hl⟩ := S.vars x l e
    refine ⟨v, hb.off (ρ := ρ) hk' (fun _ => by rw [S.frρ]; intro z; cases z) (fun c k hc => ?_), hl.off hk' fun l' _ => ⟨by simp, h3 x⟩⟩
    intro z
    exact Nat.lt_irrefl _ (S.tlt _ _ z)
  · refine TsOk.off hk' (TsOk.tail S.temps) (fun _ _ x _ => h3 x) fun k hk => ⟨by simp; omega, h5 k hk⟩

noncomputable def dropF (n : Nat) : Role → Role
  | .temp k => if k < n then .temp k else .dead
  | r => r
theorem StR.drop {E : List (Value × Tmp)} (S : StR C ρ σ s (E ++ T)) (hk : Kp s.heap s'.heap) : StR C (fun a => (ρ a).map (dropF T.length)) σ s' T := by
  refine S.off hk (dropF T.length) rfl (fun _ => rfl) (fun _ => rfl) rfl (fun k h => if_pos h) (fun r k e => ?_) (fun r => ?_)
  · cases r <;> simp only [dropF] at e <;> try cases e
    split at e <;> cases e
    assumption
  · cases r with
    | temp k => by_cases h : k < T.length
                · exact .inl (if_pos h)
                · exact .inr (if_neg h)
    | _ => exact .inl rfl
theorem fbOf_map (ρ : Addr → Option Role) (f : Role → Role) : FbOf (fun a => (ρ a).map f) = FbOf ρ := by
  funext a
  simp only [FbOf, ne_eq, Option.map_eq_none_iff]

theorem StR.weaken (S : StR C ρ σ s T) (hs : ∀ x l, σ'.lookup x = some l → σ.lookup x = some l) : StR C ρ σ' s T :=
  { S with vars := fun x l e => S.vars x l (hs x l e) }
theorem StR.push {v : Value} {d : D} (S : StR C ρ σ s T) (r : Rep s.heap (FbOf ρ) v d) : StR C ρ σ s ((v, .val d) :: T) :=
  { S with tlt := fun a k e => Nat.lt_succ_of_lt (S.tlt a k e), temps := ⟨r, S.temps⟩ }
theorem StR.pushOwn {a : Addr} {x : Str} (S : StR C ρ σ s T) (r : ρ a = some (.own x)) : StR C ρ σ s ((.ref a, .own x) :: T) :=
  { S with tlt := fun a k e => Nat.lt_succ_of_lt (S.tlt a k e), temps := ⟨⟨a, rfl, r⟩, S.temps⟩ }
/-- a step that keeps all: what was held on top is dropped -/
theorem StR.step {E : List (Value × Tmp)} (S : StR C ρ σ s (E ++ T)) (hk : Kp s.heap s'.heap) {v : Value} {d : D} (r : Rep s'.heap (FbOf ρ) v d) : St C σ s' ((v, .val d) :: T) :=
  ⟨_, (S.drop hk).push (by rw [fbOf_map]; exact r)⟩
theorem StR.kept (S : StR C ρ σ s T) (hk : Kp s.heap s'.heap) : St C σ s' T := ⟨_, StR.drop (E := []) S hk⟩

theorem fresh_none (S : StR C ρ σ s T) : ρ s.heap.objs.size = .none := by
  cases h : ρ s.heap.objs.size with
  | none => rfl
  | some r => obtain ⟨o, e⟩ := S.alive s.heap.objs.size (by rw [h]; intro z; cases z); exact absurd (Heap.lt_size e) (Nat.lt_irrefl _)
end
end Mine
namespace Mine
set_option autoImplicit false
set_option genSizeOf false
set_option genInjectivity false
set_option linter.unusedSectionVars false
set_option linter.unusedVariables false

noncomputable abbrev Wd.M (W : Wd) : Model := model W.prog W.w
noncomputable abbrev NoE : Value → Shared → Prop := fun _ _ => False

/-- room for n calls yet -/
structure Room (A : Around) (n : Nat) : Prop where
  handled : A.handled = none
  depth : A.depth + 2 * n + 2 < recursionLimit
  units : A.units + 20 * n + 100 < cLine
theorem Room.le {A : Around} {n m : Nat} (R : Room A n) (h : m ≤ n) : Room A m := ⟨R.handled, by have := R.depth; omega, by have := R.units; omega⟩
theorem Room.deeper {A : Around} {n : Nat} (R : Room A (n + 1)) (env : Env) : Room (A.deeper env) n :=
  ⟨R.handled, by have := R.depth; show A.depth + 1 + 2 * n + 2 < _; omega, by have := R.units; show A.units + 3 + 20 * n + 100 < _; omega⟩

section
variable {W : Wd}

noncomputable def EvPost (C : Fx W) (s : Shared) (T : List (Value × Tmp)) (Φ : Tmp → LS → Prop) (v : Value) (s' : Shared) : Prop := ∃ t σ', Φ t σ' ∧ Only s s' ∧ St C σ' s' ((v, t) :: T)
theorem EvPost.trans {C : Fx W} {s s₁ s' : Shared} {T : List (Value × Tmp)} {Φ : Tmp → LS → Prop} {v : Value} (o : Only s s₁) : EvPost C s₁ T Φ v s' → EvPost C s T Φ v s' :=
  fun p => p.elim fun t p => p.elim fun σ' q => ⟨t, σ', q.1, o.trans q.2.1, q.2.2⟩

theorem EvPost.elim {C : Fx W} {s s' : Shared} {T : List (Value × Tmp)} {Φ : Tmp → LS → Prop} {v : Value} {P : Prop} (q : EvPost C s T Φ v s') (k : ∀ t σ', Φ t σ' → Only s s' → St C σ' s' ((v, t) :: T) → P) : P := by
  obtain ⟨t, σ', a, b, c⟩ := q
  exact k t σ' a b c
noncomputable def Ev (C : Fx W) (A : Around) (e : Expr) (σ : LS) (Φ : Tmp → LS → Prop) : Prop :=
  ∀ s T, St C σ s T → wpAny W.M A (eval e C.env) (EvPost C s T Φ) NoE s
noncomputable def EvBPost (C : Fx W) (s : Shared) (T : List (Value × Tmp)) (Φ : Bool → LS → Prop) (b : Bool) (s' : Shared) : Prop := ∃ σ', Φ b σ' ∧ Only s s' ∧ St C σ' s' T
theorem EvBPost.elim {C : Fx W} {s s' : Shared} {T : List (Value × Tmp)} {Φ : Bool → LS → Prop} {v : Bool} {P : Prop} (q : EvBPost C s T Φ v s') (k : ∀ σ', Φ v σ' → Only s s' → St C σ' s' T → P) : P := by
  obtain ⟨σ', a, b, c⟩ := q
  exact k σ' a b c
theorem EvBPost.trans {C : Fx W} {s s₁ s' : Shared} {T : List (Value × Tmp)} {Φ : Bool → LS → Prop} {v : Bool} (o : Only s s₁) : EvBPost C s₁ T Φ v s' → EvBPost C s T Φ v s' :=
  fun p2 => p2.elim fun σ' h o' S => Exists.intro σ' ⟨h, o.trans o', S⟩
noncomputable def EvB (C : Fx W) (A : Around) (e : Expr) (σ : LS) (Φ : Bool → LS → Prop) : Prop :=
  ∀ s T, St C σ s T → wpAny W.M A (isTrue e C.env (eval e C.env)) (EvBPost C s T Φ) NoE s
/-- one or two held values go in -/
noncomputable def Op1 (C : Fx W) (A : Around) (f : Value → Sem Value) (t : Tmp) (σ : LS) (Φ : Tmp → LS → Prop) : Prop :=
  ∀ s T v, St C σ s ((v, t) :: T) → wpAny W.M A (f v) (EvPost C s T Φ) NoE s
noncomputable def Op2 (C : Fx W) (A : Around) (f : Value → Value → Sem Value) (t₁ t₂ : Tmp) (σ : LS) (Φ : Tmp → LS → Prop) : Prop :=
  ∀ s T v₁ v₂, St C σ s ((v₂, t₂) :: (v₁, t₁) :: T) → wpAny W.M A (f v₁ v₂) (EvPost C s T Φ) NoE s

inductive Fl where
  | next | brk | cont | ret (d : D)
noncomputable def Safe (T : List (Value × Tmp)) : Prop := ∀ p ∈ T, ∀ x, p.2 ≠ .own x
noncomputable def ExPost (C : Fx W) (s : Shared) (T : List (Value × Tmp)) (Φ : Fl → LS → Prop) (f : Flow) (s' : Shared) : Prop := match f with
  | .next => ∃ σ', Φ .next σ' ∧ Only s s' ∧ St C σ' s' T
  | .brk => ∃ σ', Φ .brk σ' ∧ Only s s' ∧ St C σ' s' T
  | .cont => ∃ σ', Φ .cont σ' ∧ Only s s' ∧ St C σ' s' T
  | .ret v => ∃ d σ', Φ (.ret d) σ' ∧ Only s s' ∧ St C σ' s' ((v, .val d) :: T)
theorem ExPost.trans {C : Fx W} {s s₁ s' : Shared} {T : List (Value × Tmp)} {Φ : Fl → LS → Prop} {f : Flow} (o : Only s s₁) (h : ExPost C s₁ T Φ f s') : ExPost C s T Φ f s' := by
  cases f with
  | ret v => obtain ⟨d, σ', a, b, c⟩ := h; exact ⟨d, σ', a, o.trans b, c⟩
  | next => obtain ⟨σ', a, b, c⟩ := h; exact ⟨σ', a, o.trans b, c⟩
  | brk => obtain ⟨σ', a, b, c⟩ := h; exact ⟨σ', a, o.trans b, c⟩
  | cont => obtain ⟨σ', a, b, c⟩ := h; exact ⟨σ', a, o.trans b, c⟩
noncomputable def Ex (C : Fx W) (A : Around) (st : Stmt) (σ : LS) (Φ : Fl → LS → Prop) : Prop :=
  ∀ s T, Safe T → St C σ s T → wpAny W.M A (exec st C.env) (ExPost C s T Φ) NoE s
noncomputable def Exs (C : Fx W) (A : Around) (ss : List Stmt) (σ : LS) (Φ : Fl → LS → Prop) : Prop :=
  ∀ s T, Safe T → St C σ s T → wpAny W.M A (execs ss C.env) (ExPost C s T Φ) NoE s

theorem wpNo {α : Type} {A : Around} {t : Sem α} {s : Shared} {Q Q' : α → Shared → Prop} (h : wpAny W.M A t Q NoE s) (hQ : ∀ a s', Q a s' → Q' a s') : wpAny W.M A t Q' NoE s := wpAny_mono h hQ fun _ _ e => e

variable {C : Fx W} {A : Around} {σ : LS} {s : Shared} {T : List (Value × Tmp)}

theorem Ev.mono {e : Expr} {Φ Ψ : Tmp → LS → Prop} (h : Ev C A e σ Φ) (hm : ∀ t σ', Φ t σ' → Ψ t σ') : Ev C A e σ Ψ := fun s T S => wpNo (h s T S) fun _ _ ⟨t, σ', a, b⟩ => ⟨t, σ', hm t σ' a, b⟩
theorem EvB.mono {e : Expr} {Φ Ψ : Bool → LS → Prop} (h : EvB C A e σ Φ) (hm : ∀ t σ', Φ t σ' → Ψ t σ') : EvB C A e σ Ψ := fun s T S => wpNo (h s T S) fun _ _ ⟨σ', a, b⟩ => ⟨σ', hm _ σ' a, b⟩
theorem Exs.mono {e : List Stmt} {Φ Ψ : Fl → LS → Prop} (h : Exs C A e σ Φ) (hm : ∀ t σ', Φ t σ' → Ψ t σ') : Exs C A e σ Ψ := fun s T sf S => wpNo (h s T sf S) fun f _ q => by
  cases f with
  | ret v => obtain ⟨d, σ', a, b⟩ := q; exact ⟨d, σ', hm _ _ a, b⟩
  | next => obtain ⟨σ', a, b⟩ := q; exact ⟨σ', hm _ _ a, b⟩
  | brk => obtain ⟨σ', a, b⟩ := q; exact ⟨σ', hm _ _ a, b⟩
  | cont => obtain ⟨σ', a, b⟩ := q; exact ⟨σ', hm _ _ a, b⟩

theorem St.ret {σ' : LS} {Φ : Tmp → LS → Prop} {s' : Shared} {v : Value} {t : Tmp} (h : Φ t σ') (o : Only s s') (S : St C σ' s' ((v, t) :: T)) : EvPost C s T Φ v s' := ⟨t, σ', h, o, S⟩
/-- a state that differs in its toks alone -/
theorem St.toks {E : List (Value × Tmp)} (S : St C σ s (E ++ T)) (n : Nat) {v : Value} {d : D} (r : ∀ ρ, StR C ρ σ s (E ++ T) → Rep s.heap (FbOf ρ) v d) : St C σ { s with toks := n } ((v, .val d) :: T) := by
  obtain ⟨ρ, S⟩ := S
  exact S.step (s' := { s with toks := n }) (fun _ _ e => e) (r ρ S)

/- constants -/
theorem Ev_none {k : Nat} {pos : Pos} {Φ : Tmp → LS → Prop} (h : Φ (.val .none) σ) : Ev C A (.Constant .none k pos) σ Φ :=
  fun s T ⟨ρ, S⟩ => wpAny_Constant_none (St.ret h (.refl s) ⟨ρ, S.push .none⟩)
theorem Ev_bool {b : Bool} {k : Nat} {pos : Pos} {Φ : Tmp → LS → Prop} (h : Φ (.val (.bool b)) σ) : Ev C A (.Constant (.bool b) k pos) σ Φ :=
  fun s T ⟨ρ, S⟩ => wpAny_Constant_bool (St.ret h (.refl s) ⟨ρ, S.push (.bool b)⟩)
theorem Ev_int {i : Int} {k : Nat} {pos : Pos} {Φ : Tmp → LS → Prop} (h : Φ (.val (.int i)) σ) : Ev C A (.Constant (.int i) k pos) σ Φ :=
  fun s T S => wpAny_Constant_int (St.ret h ⟨rfl, rfl, rfl⟩ (St.toks (E := []) S _ fun _ _ => .int i _))
theorem Ev_str {x : Str} {k : Nat} {pos : Pos} {Φ : Tmp → LS → Prop} (h : Φ (.val (.str x)) σ) : Ev C A (.Constant (.str x) k pos) σ Φ :=
  fun s T S => wpAny_Constant_str (St.ret h ⟨rfl, rfl, rfl⟩ (St.toks (E := []) S _ fun _ _ => .str x _))

/- names -/
theorem loadBound {x : Str} {v : Value} {Q : Value → Shared → Prop} (hb : Bound s.heap C.env x v) (h : Q v s) : wpAny W.M A (loadName C.env x) Q NoE s := by
  rcases hb with ⟨k, m, hn, hm⟩ | ⟨k, c, hc, hv⟩
  · exact wpAny_loadName_local C.kind k hn hm h
  · exact wpAny_loadName_cell C.kind k hc hv h
theorem Ev_name {x : Str} {pos : Pos} {d : D} {Φ : Tmp → LS → Prop} (e : σ.lookup x = some (.val d)) (h : Φ (.val d) σ) (hd : (x == ("__debug__" : Str)) = false := by decide) : Ev C A (.Name x pos) σ Φ := by
  rintro s T ⟨ρ, S⟩
  obtain ⟨v, hb, hr⟩ := S.vars x _ e
  exact wpAny_Name (loadBound hb (St.ret h (.refl s) ⟨ρ, S.push hr⟩)) hd
theorem Ev_own {x : Str} {pos : Pos} {l : List D} {Φ : Tmp → LS → Prop} (e : σ.lookup x = some (.own l)) (h : Φ (.own x) σ) (hd : (x == ("__debug__" : Str)) = false := by decide) : Ev C A (.Name x pos) σ Φ := by
  rintro s T ⟨ρ, S⟩
  obtain ⟨v, hb, a, vs, rfl, hr, _⟩ := S.vars x _ e
  exact wpAny_Name (loadBound hb (St.ret h (.refl s) ⟨ρ, S.pushOwn hr⟩)) hd

theorem StR.baseKeep {ρ : Addr → Option Role} (S : StR C ρ σ s T) : Kp W.hB s.heap := fun b o e => S.keep b o (C.base b o e) fun q => by
  have := C.bxB b q; rw [this] at e; cases e
theorem StR.inK {ρ : Addr → Option Role} (S : StR C ρ σ s T) : W.K.In s.heap := W.X.keeps S.baseKeep
/-- a global name of the text, or a builtin -/
theorem Ev_glob {x : Str} {pos : Pos} {v : Value} {d : D} {Φ : Tmp → LS → Prop} (k : C.env.kindOf x = some .globalImplicit) (e : nsIn W.K mainGlobals x = some (some v))
    (r : ∀ Fb, (∀ a o, W.hB.get? a = some o → ¬ Fb a) → Rep W.hB Fb v d) (h : Φ (.val d) σ) (hd : (x == ("__debug__" : Str)) = false := by decide) : Ev C A (.Name x pos) σ Φ := by
  rintro s T ⟨ρ, S⟩
  have hg : s.heap.Ns C.env.globals W.mg := by rw [C.glob]; exact W.T.g.keeps S.baseKeep
  exact Calls.Name_function_global C.kind k (Calls.loadGlobal_global hg (mg_of W.X W.T.g e) (St.ret h (.refl s) ⟨ρ, S.push ((r _ fun a o e q => q (S.top a o e)).keep S.baseKeep)⟩)) hd
theorem Ev_fn {x : Str} {pos : Pos} {v : Value} {Φ : Tmp → LS → Prop} (k : C.env.kindOf x = some .globalImplicit) (e : nsIn W.K mainGlobals x = some (some v))
    (hv : handedIn v = true) (h : Φ (.val (.fn v)) σ) (hd : (x == ("__debug__" : Str)) = false := by decide) : Ev C A (.Name x pos) σ Φ := Ev_glob k e (fun _ _ => .fn v hv) h hd
theorem Ev_builtin {x : Str} {pos : Pos} {v : Value} {Φ : Tmp → LS → Prop} (k : C.env.kindOf x = some .globalImplicit) (e : nsIn W.K mainGlobals x = some none) (hv : bootBuiltins x = some v) (hn : x ≠ "__name__")
    (hh : handedIn v = true) (h : Φ (.val (.fn v)) σ) (hd : (x == ("__debug__" : Str)) = false := by decide) : Ev C A (.Name x pos) σ Φ := by
  rintro s T ⟨ρ, S⟩
  have hg : s.heap.Ns C.env.globals W.mg := by rw [C.glob]; exact W.T.g.keeps S.baseKeep
  have hb : s.heap.Ns C.env.builtins W.mb := by rw [C.blt]; exact W.T.b.keeps S.baseKeep
  exact Calls.Name_function_global C.kind k (Calls.loadGlobal_builtin hg (mg_none_of W.X W.T.g e) hb ((W.T.builtins x hn).trans hv) (St.ret h (.refl s) ⟨ρ, S.push (.fn v hh)⟩)) hd
end
end Mine
namespace Mine
set_option autoImplicit false
set_option linter.unusedSectionVars false
set_option linter.unusedVariables false
section
variable {W : Wd} {C : Fx W} {A : Around} {σ : LS} {s : Shared} {T : List (Value × Tmp)}

/- what is held -/
theorem St.top1 {v : Value} {d : D} (S : St C σ s ((v, .val d) :: T)) : ∃ ρ, StR C ρ σ s ((v, .val d) :: T) ∧ Rep s.heap (FbOf ρ) v d := let ⟨ρ, S⟩ := S; ⟨ρ, S, S.temps.1⟩
theorem St.top2 {v u : Value} {d e : D} (S : St C σ s ((v, .val d) :: (u, .val e) :: T)) : ∃ ρ, StR C ρ σ s ((v, .val d) :: (u, .val e) :: T) ∧ Rep s.heap (FbOf ρ) v d ∧ Rep s.heap (FbOf ρ) u e :=
  let ⟨ρ, S⟩ := S; ⟨ρ, S, S.temps.1, S.temps.2.1⟩
/-- a plain value comes out, the heap as it was -/
theorem St.out {E : List (Value × Tmp)} {Φ : Tmp → LS → Prop} {v : Value} {d : D} {ρ : Addr → Option Role} (S : StR C ρ σ s (E ++ T)) (n : Nat) (h : Φ (.val d) σ) (r : Rep s.heap (FbOf ρ) v d) :
    EvPost C s T Φ v { s with toks := n } := ⟨_, _, h, ⟨rfl, rfl, rfl⟩, S.step (s' := { s with toks := n }) (fun _ _ e => e) r⟩
theorem St.out0 {E : List (Value × Tmp)} {Φ : Tmp → LS → Prop} {v : Value} {d : D} {ρ : Addr → Option Role} (S : StR C ρ σ s (E ++ T)) (h : Φ (.val d) σ) (r : Rep s.heap (FbOf ρ) v d) :
    EvPost C s T Φ v s := ⟨_, _, h, ⟨rfl, rfl, rfl⟩, S.step (s' := s) (fun _ _ e => e) r⟩

theorem Ev_BinOp {l r : Expr} {op : Operator} {pos : Pos} {Φ : Tmp → LS → Prop} (h : Ev C A l σ fun t₁ σ₁ => Ev C A r σ₁ fun t₂ σ₂ => Op2 C A (binaryOp op) t₁ t₂ σ₂ Φ) : Ev C A (.BinOp l op r pos) σ Φ :=
  fun s T S => wpAny_BinOp (wpNo (h s T S) fun v₁ s₁ qq1 => qq1.elim fun t₁ σ₁ h₁ o₁ S₁ => wpNo (h₁ s₁ _ S₁) fun v₂ s₂ qq2 => qq2.elim fun t₂ σ₂ h₂ o₂ S₂ => wpNo (h₂ s₂ T v₁ v₂ S₂) fun v s₃ q => q.trans (o₁.trans o₂))
theorem Ev_Compare {l r : Expr} {op : CmpOp} {pos : Pos} {Φ : Tmp → LS → Prop} (h : Ev C A l σ fun t₁ σ₁ => Ev C A r σ₁ fun t₂ σ₂ => Op2 C A (compareOp op) t₁ t₂ σ₂ Φ)
    (hm : behindInMarks op r = false := by with_unfolding_all rfl) : Ev C A (.Compare l [op] [r] pos) σ Φ :=
  fun s T S => wpAny_Compare1 (wpNo (h s T S) fun v₁ s₁ qq3 => qq3.elim fun t₁ σ₁ h₁ o₁ S₁ => wpNo (h₁ s₁ _ S₁) fun v₂ s₂ qq4 => qq4.elim fun t₂ σ₂ h₂ o₂ S₂ => wpNo (h₂ s₂ T v₁ v₂ S₂) fun v s₃ q => q.trans (o₁.trans o₂)) hm
theorem Ev_Unary {x : Expr} {op : UnaryOp} {pos : Pos} {Φ : Tmp → LS → Prop} (h : Ev C A x σ fun t σ₁ => Op1 C A (unaryOp op) t σ₁ Φ) : Ev C A (.UnaryOp op x pos) σ Φ :=
  fun s T S => wpAny_UnaryOp (wpNo (h s T S) fun v₁ s₁ qq5 => qq5.elim fun t₁ σ₁ h₁ o₁ S₁ => wpNo (h₁ s₁ T v₁ S₁) fun v s₃ q => q.trans o₁)
theorem Ev_IfExp {c a b : Expr} {pos : Pos} {Φ : Tmp → LS → Prop} (h : EvB C A c σ fun t σ₁ => if t then Ev C A a σ₁ Φ else Ev C A b σ₁ Φ) : Ev C A (.IfExp c a b pos) σ Φ :=
  fun s T S => wpAny_IfExp (wpNo (h s T S) fun t s₁ qq6 => qq6.elim fun σ₁ h₁ o₁ S₁ => by
    cases t
    · exact wpNo (h₁ s₁ T S₁) fun v s₃ q => q.trans o₁
    · exact wpNo (h₁ s₁ T S₁) fun v s₃ q => q.trans o₁)
theorem Ev_Attr {e : Expr} {n : Str} {pos : Pos} {Φ : Tmp → LS → Prop} (h : Ev C A e σ fun t σ₁ => Op1 C A (fun v => getAttr v n true) t σ₁ Φ)
    (he : eval (.Attribute e n pos) C.env = (do
      let o ← eval e C.env
      standAt pos.atName
      let r ← holding [o] (getAttr o n true)
      letTemporaryGo e o r
      pure r) := by with_unfolding_all rfl) : Ev C A (.Attribute e n pos) σ Φ :=
  fun s T S => Attribute_any_ (wpNo (h s T S) fun v₁ s₁ qq7 => qq7.elim fun t₁ σ₁ h₁ o₁ S₁ => wpNo (h₁ s₁ T v₁ S₁) fun v s₃ q => q.trans o₁) he
theorem Ev_Sub {e i : Expr} {pos : Pos} {Φ : Tmp → LS → Prop} (h : Ev C A e σ fun t₁ σ₁ => Ev C A i σ₁ fun t₂ σ₂ => Op2 C A (subscriptTail e i) t₁ t₂ σ₂ Φ) : Ev C A (.Subscript e i pos) σ Φ :=
  fun s T S => Subscript_ (wpNo (h s T S) fun v₁ s₁ qq8 => qq8.elim fun t₁ σ₁ h₁ o₁ S₁ => wpNo (h₁ s₁ _ S₁) fun v₂ s₂ qq9 => qq9.elim fun t₂ σ₂ h₂ o₂ S₂ => wpNo (h₂ s₂ T v₁ v₂ S₂) fun v s₃ q => q.trans (o₁.trans o₂))

/- tests -/
noncomputable def BoolTo (Φ : Bool → LS → Prop) (t : Tmp) (σ : LS) : Prop := ∃ b, t = .val (.bool b) ∧ Φ b σ
theorem truthy_bool {b : Bool} {Φ : Bool → LS → Prop} {v : Value} {s₀ : Shared} (o : Only s₀ s) (S : St C σ s ((v, .val (.bool b)) :: T)) (h : Φ b σ) : wpAny W.M A (truthy v) (EvBPost C s₀ T Φ) NoE s := by
  obtain ⟨ρ, S, r⟩ := S.top1
  (first | (obtain ⟨_, rfl⟩ := Rep.ofInt r) | (obtain ⟨_, rfl⟩ := Rep.ofStr r) | (obtain rfl := Rep.ofBool r) | (obtain rfl := Rep.ofNone r) | (obtain rfl := Rep.ofFn r) | cases r)
  exact wpAny_truthy_bool ⟨σ, h, o, StR.kept (StR.drop (E := [_]) S fun _ _ e => e) fun _ _ e => e⟩
theorem EvB_val {e : Expr} {Φ : Bool → LS → Prop} (h : Ev C A e σ (BoolTo Φ)) (he : ∀ whole, isTrue e C.env whole = (do let v ← whole; standAt e.pos; holding [v] (truthy v)) := by intro _; rfl) : EvB C A e σ Φ :=
  fun s T S => wpAny_isTrue_value (wpNo (h s T S) fun v s₁ p11 => p11.elim fun t σ₁ p11i o₁ S₁ => by obtain ⟨b, ht, h₁⟩ := p11i; subst ht; exact truthy_bool o₁ S₁ h₁) (he _)
theorem EvB_Not {e : Expr} {pos : Pos} {Φ : Bool → LS → Prop} (h : EvB C A e σ fun b σ₁ => Φ (!b) σ₁) : EvB C A (.UnaryOp .Not e pos) σ Φ :=
  fun s T S => wpAny_isTrue_Not (wpNo (h s T S) fun b s₁ q => q)
theorem EvB_Compare {l r : Expr} {op : CmpOp} {pos : Pos} {Φ : Bool → LS → Prop} (h : Ev C A l σ fun t₁ σ₁ => Ev C A r σ₁ fun t₂ σ₂ => Op2 C A (compareOp op) t₁ t₂ σ₂ (BoolTo Φ))
    (hm : behindInMarks op r = false := by with_unfolding_all rfl) : EvB C A (.Compare l [op] [r] pos) σ Φ :=
  fun s T S => wpAny_isTrue_Compare1 (wpNo (h s T S) fun v₁ s₁ qq10 => qq10.elim fun t₁ σ₁ h₁ o₁ S₁ => wpNo (h₁ s₁ _ S₁) fun v₂ s₂ qq11 => qq11.elim fun t₂ σ₂ h₂ o₂ S₂ => wpNo (h₂ s₂ T v₁ v₂ S₂) fun v s₃ p12 => p12.elim fun t σ₃ p12i o₃ S₃ => by
    obtain ⟨b, ht, h₃⟩ := p12i
    subst ht; exact truthy_bool ((o₁.trans o₂).trans o₃) S₃ h₃) hm
noncomputable def EvAll (C : Fx W) (A : Around) (op : BoolOp) (es : List Expr) (σ : LS) (Φ : Bool → LS → Prop) : Prop := ∀ s T, St C σ s T → wpAny W.M A (allTrue op es C.env) (EvBPost C s T Φ) NoE s
theorem EvB_BoolOp {op : BoolOp} {es : List Expr} {pos : Pos} {Φ : Bool → LS → Prop} (h : EvAll C A op es σ Φ) : EvB C A (.BoolOp op es pos) σ Φ := fun s T S => wpAny_isTrue_BoolOp (h s T S)
theorem EvAll_nilA {Φ : Bool → LS → Prop} (h : Φ true σ) : EvAll C A .And [] σ Φ := fun s T S => wpAny_allTrue_And_nil ⟨σ, h, .refl s, S⟩
theorem EvAll_nilO {Φ : Bool → LS → Prop} (h : Φ false σ) : EvAll C A .Or [] σ Φ := fun s T S => wpAny_allTrue_Or_nil ⟨σ, h, .refl s, S⟩
theorem EvAll_consA {e : Expr} {es : List Expr} {Φ : Bool → LS → Prop} (h : EvB C A e σ fun b σ₁ => if b then EvAll C A .And es σ₁ Φ else Φ false σ₁) : EvAll C A .And (e :: es) σ Φ :=
  fun s T S => wpAny_allTrue_And_cons (wpNo (h s T S) fun b s₁ qq12 => qq12.elim fun σ₁ h₁ o₁ S₁ => by
    cases b
    · exact ⟨σ₁, h₁, o₁, S₁⟩
    · exact wpNo (h₁ s₁ T S₁) fun _ _ q => q.trans o₁)
theorem EvAll_consO {e : Expr} {es : List Expr} {Φ : Bool → LS → Prop} (h : EvB C A e σ fun b σ₁ => if b then Φ true σ₁ else EvAll C A .Or es σ₁ Φ) : EvAll C A .Or (e :: es) σ Φ :=
  fun s T S => wpAny_allTrue_Or_cons (wpNo (h s T S) fun b s₁ qq13 => qq13.elim fun σ₁ h₁ o₁ S₁ => by
    cases b
    · exact wpNo (h₁ s₁ T S₁) fun _ _ q => q.trans o₁
    · exact ⟨σ₁, h₁, o₁, S₁⟩)

/- and, or as values: of bools -/
noncomputable def EvBo (C : Fx W) (A : Around) (op : BoolOp) (es : List Expr) (σ : LS) (Φ : Bool → LS → Prop) : Prop := ∀ s T pos, St C σ s T → wpAny W.M A (boolOp pos op (evalEach es C.env)) (EvPost C s T fun t σ' => ∃ b, t = .val (.bool b) ∧ Φ b σ') NoE s
theorem Ev_BoolOp {op : BoolOp} {es : List Expr} {pos : Pos} {Φ : Tmp → LS → Prop} (h : EvBo C A op es σ fun b σ' => Φ (.val (.bool b)) σ') : Ev C A (.BoolOp op es pos) σ Φ :=
  fun s T S => wpNo (show wpAny W.M A (boolOp pos op (evalEach es C.env)) _ NoE s from h s T pos S) fun v s₁ ⟨t, σ₁, ⟨b, ht, h₁⟩, r⟩ => by subst ht; exact ⟨_, σ₁, h₁, r⟩
theorem EvBo_one {op : BoolOp} {e : Expr} {Φ : Bool → LS → Prop} (h : Ev C A e σ (BoolTo Φ)) : EvBo C A op [e] σ Φ := fun s T pos S => h s T S
theorem EvBo_consA {e e' : Expr} {es : List Expr} {Φ : Bool → LS → Prop} (h : Ev C A e σ (BoolTo fun b σ₁ => if b then EvBo C A .And (e' :: es) σ₁ Φ else Φ false σ₁)) : EvBo C A .And (e :: e' :: es) σ Φ := by
  intro s T pos S
  show wpAny W.M A (do
    let v ← eval e C.env
    standAt pos
    let t ← holding [v] (truthy v)
    match BoolOp.And, t with
    | .And, false | .Or, true => pure v
    | _, _ => boolOp pos .And (evalEach (e' :: es) C.env)) _ NoE s
  refine wpAny_bind (wpNo (h s T S) fun v s₁ ⟨t, σ₁, ⟨b, ht, h₁⟩, o₁, S₁⟩ => wpAny_bind (wpAny_standAt (wpAny_bind (wpAny_holding ?_))))
  subst ht
  have q := S₁
  obtain ⟨ρ, S₁', r⟩ := S₁.top1
  (first | (obtain ⟨_, rfl⟩ := Rep.ofInt r) | (obtain ⟨_, rfl⟩ := Rep.ofStr r) | (obtain rfl := Rep.ofBool r) | (obtain rfl := Rep.ofNone r) | (obtain rfl := Rep.ofFn r) | cases r)
  refine wpAny_truthy_bool ?_
  cases b
  · exact wpAny_pure ⟨_, σ₁, ⟨false, rfl, h₁⟩, o₁, q⟩
  · exact wpNo (h₁ s₁ T pos ⟨_, StR.drop (E := [_]) S₁' fun _ _ e => e⟩) fun _ _ q => q.trans o₁
theorem EvBo_consO {e e' : Expr} {es : List Expr} {Φ : Bool → LS → Prop} (h : Ev C A e σ (BoolTo fun b σ₁ => if b then Φ true σ₁ else EvBo C A .Or (e' :: es) σ₁ Φ)) : EvBo C A .Or (e :: e' :: es) σ Φ := by
  intro s T pos S
  show wpAny W.M A (do
    let v ← eval e C.env
    standAt pos
    let t ← holding [v] (truthy v)
    match BoolOp.Or, t with
    | .And, false | .Or, true => pure v
    | _, _ => boolOp pos .Or (evalEach (e' :: es) C.env)) _ NoE s
  refine wpAny_bind (wpNo (h s T S) fun v s₁ ⟨t, σ₁, ⟨b, ht, h₁⟩, o₁, S₁⟩ => wpAny_bind (wpAny_standAt (wpAny_bind (wpAny_holding ?_))))
  subst ht
  have q := S₁
  obtain ⟨ρ, S₁', r⟩ := S₁.top1
  (first | (obtain ⟨_, rfl⟩ := Rep.ofInt r) | (obtain ⟨_, rfl⟩ := Rep.ofStr r) | (obtain rfl := Rep.ofBool r) | (obtain rfl := Rep.ofNone r) | (obtain rfl := Rep.ofFn r) | cases r)
  refine wpAny_truthy_bool ?_
  cases b
  · exact wpNo (h₁ s₁ T pos ⟨_, StR.drop (E := [_]) S₁' fun _ _ e => e⟩) fun _ _ q => q.trans o₁
  · exact wpAny_pure ⟨_, σ₁, ⟨true, rfl, h₁⟩, o₁, q⟩
theorem Op1_not {b : Bool} {Φ : Tmp → LS → Prop} (h : Φ (.val (.bool !b)) σ) : Op1 C A (unaryOp .Not) (.val (.bool b)) σ Φ := by
  intro s T v S
  obtain ⟨ρ, S, r⟩ := S.top1
  (first | (obtain ⟨_, rfl⟩ := Rep.ofInt r) | (obtain ⟨_, rfl⟩ := Rep.ofStr r) | (obtain rfl := Rep.ofBool r) | (obtain rfl := Rep.ofNone r) | (obtain rfl := Rep.ofFn r) | cases r)
  exact not_of (wpAny_truthy_bool (St.out0 (E := [_]) S h (.bool _)))
theorem Op1_neg {i : Int} {Φ : Tmp → LS → Prop} (h : Φ (.val (.int (-i))) σ) : Op1 C A (unaryOp .USub) (.val (.int i)) σ Φ := by
  intro s T v S
  obtain ⟨ρ, S, r⟩ := S.top1
  (first | (obtain ⟨_, rfl⟩ := Rep.ofInt r) | (obtain ⟨_, rfl⟩ := Rep.ofStr r) | (obtain rfl := Rep.ofBool r) | (obtain rfl := Rep.ofNone r) | (obtain rfl := Rep.ofFn r) | cases r)
  exact neg_int (St.out (E := [_]) S _ h (.int _ _))

/- int by int -/
theorem Op2_int {f : Value → Value → Sem Value} {i j r : Int} {Φ : Tmp → LS → Prop}
    (hf : ∀ (s : Shared) t u (Q : Value → Shared → Prop), Q (.int r s.toks) { s with toks := s.toks + 1 } → wpAny W.M A (f (.int i t) (.int j u)) Q NoE s)
    (h : Φ (.val (.int r)) σ) : Op2 C A f (.val (.int i)) (.val (.int j)) σ Φ := by
  intro s T v₁ v₂ S
  obtain ⟨ρ, S, r₁, r₂⟩ := S.top2
  (first | (obtain ⟨_, rfl⟩ := Rep.ofInt r₁) | (obtain ⟨_, rfl⟩ := Rep.ofStr r₁) | (obtain rfl := Rep.ofBool r₁) | (obtain rfl := Rep.ofNone r₁) | (obtain rfl := Rep.ofFn r₁) | cases r₁)
  (first | (obtain ⟨_, rfl⟩ := Rep.ofInt r₂) | (obtain ⟨_, rfl⟩ := Rep.ofStr r₂) | (obtain rfl := Rep.ofBool r₂) | (obtain rfl := Rep.ofNone r₂) | (obtain rfl := Rep.ofFn r₂) | cases r₂)
  exact hf s _ _ _ (St.out (E := [_, _]) S _ h (.int _ _))
theorem Op2_add {i j : Int} {Φ : Tmp → LS → Prop} (h : Φ (.val (.int (i + j))) σ) : Op2 C A (binaryOp .Add) (.val (.int i)) (.val (.int j)) σ Φ := Op2_int (fun s t u Q q => wpAny_add_int q) h
theorem Op2_sub {i j : Int} {Φ : Tmp → LS → Prop} (h : Φ (.val (.int (i - j))) σ) : Op2 C A (binaryOp .Sub) (.val (.int i)) (.val (.int j)) σ Φ := Op2_int (fun s t u Q q => sub_int q) h
theorem Op2_mul {i j : Int} {Φ : Tmp → LS → Prop} (hm : IntMulOk i j) (h : Φ (.val (.int (i * j))) σ) : Op2 C A (binaryOp .Mult) (.val (.int i)) (.val (.int j)) σ Φ := Op2_int (fun s t u Q q => mul_int q hm) h
theorem Op2_mod {i j : Int} {Φ : Tmp → LS → Prop} (hj : j ≠ 0) (h : Φ (.val (.int (i.fmod j))) σ) : Op2 C A (binaryOp .Mod) (.val (.int i)) (.val (.int j)) σ Φ := Op2_int (fun s t u Q q => mod_int' hj q) h
theorem Op2_fdiv {i j : Int} {Φ : Tmp → LS → Prop} (hj : j ≠ 0) (hp : Builtin.divisionGoesByPylong i j = false) (h : Φ (.val (.int (i.fdiv j))) σ) : Op2 C A (binaryOp .FloorDiv) (.val (.int i)) (.val (.int j)) σ Φ :=
  Op2_int (fun s t u Q q => floordiv_int hj q (.inl hp)) h
theorem Op2_pow {i j : Int} {Φ : Tmp → LS → Prop} (hn : 0 ≤ j) (hsz : (Builtin.Int.intBits i : Int) * j ≤ 2 ^ 27) (h : Φ (.val (.int (i ^ j.toNat))) σ) : Op2 C A (binaryOp .Pow) (.val (.int i)) (.val (.int j)) σ Φ :=
  Op2_int (fun s t u Q q => pow_int hn hsz q) h
theorem Op2_cmp {f : Value → Value → Sem Value} {i j : Int} {r : Bool} {Φ : Tmp → LS → Prop}
    (hf : ∀ (s : Shared) t u (Q : Value → Shared → Prop), Q (.bool r) s → wpAny W.M A (f (.int i t) (.int j u)) Q NoE s)
    (h : Φ (.val (.bool r)) σ) : Op2 C A f (.val (.int i)) (.val (.int j)) σ Φ := by
  intro s T v₁ v₂ S
  obtain ⟨ρ, S, r₁, r₂⟩ := S.top2
  (first | (obtain ⟨_, rfl⟩ := Rep.ofInt r₁) | (obtain ⟨_, rfl⟩ := Rep.ofStr r₁) | (obtain rfl := Rep.ofBool r₁) | (obtain rfl := Rep.ofNone r₁) | (obtain rfl := Rep.ofFn r₁) | cases r₁)
  (first | (obtain ⟨_, rfl⟩ := Rep.ofInt r₂) | (obtain ⟨_, rfl⟩ := Rep.ofStr r₂) | (obtain rfl := Rep.ofBool r₂) | (obtain rfl := Rep.ofNone r₂) | (obtain rfl := Rep.ofFn r₂) | cases r₂)
  exact hf s _ _ _ (St.out0 (E := [_, _]) S h (.bool _))
theorem Op2_lt {i j : Int} {Φ : Tmp → LS → Prop} (h : Φ (.val (.bool (decide (i < j)))) σ) : Op2 C A (compareOp .Lt) (.val (.int i)) (.val (.int j)) σ Φ := Op2_cmp (fun s t u Q q => wpAny_lt_int q) h
theorem Op2_gt {i j : Int} {Φ : Tmp → LS → Prop} (h : Φ (.val (.bool (decide (i > j)))) σ) : Op2 C A (compareOp .Gt) (.val (.int i)) (.val (.int j)) σ Φ := Op2_cmp (fun s t u Q q => gt_int q) h
theorem Op2_ge {i j : Int} {Φ : Tmp → LS → Prop} (h : Φ (.val (.bool (decide (i ≥ j)))) σ) : Op2 C A (compareOp .GtE) (.val (.int i)) (.val (.int j)) σ Φ := Op2_cmp (fun s t u Q q => ge_int q) h
theorem Op2_eq {i j : Int} {Φ : Tmp → LS → Prop} (h : Φ (.val (.bool (i == j))) σ) : Op2 C A (compareOp .Eq) (.val (.int i)) (.val (.int j)) σ Φ := Op2_cmp (fun s t u Q q => eq_int q) h
theorem Op2_eqS {x y : Str} {Φ : Tmp → LS → Prop} (h : Φ (.val (.bool (x == y))) σ) : Op2 C A (compareOp .Eq) (.val (.str x)) (.val (.str y)) σ Φ := by
  intro s T v₁ v₂ S
  obtain ⟨ρ, S, r₁, r₂⟩ := S.top2
  (first | (obtain ⟨_, rfl⟩ := Rep.ofInt r₁) | (obtain ⟨_, rfl⟩ := Rep.ofStr r₁) | (obtain rfl := Rep.ofBool r₁) | (obtain rfl := Rep.ofNone r₁) | (obtain rfl := Rep.ofFn r₁) | cases r₁)
  (first | (obtain ⟨_, rfl⟩ := Rep.ofInt r₂) | (obtain ⟨_, rfl⟩ := Rep.ofStr r₂) | (obtain rfl := Rep.ofBool r₂) | (obtain rfl := Rep.ofNone r₂) | (obtain rfl := Rep.ofFn r₂) | cases r₂)
  exact eq_str (St.out0 (E := [_, _]) S h (.bool _))
theorem Op2_neS {x y : Str} {Φ : Tmp → LS → Prop} (h : Φ (.val (.bool (x != y))) σ) : Op2 C A (compareOp .NotEq) (.val (.str x)) (.val (.str y)) σ Φ := by
  intro s T v₁ v₂ S
  obtain ⟨ρ, S, r₁, r₂⟩ := S.top2
  (first | (obtain ⟨_, rfl⟩ := Rep.ofInt r₁) | (obtain ⟨_, rfl⟩ := Rep.ofStr r₁) | (obtain rfl := Rep.ofBool r₁) | (obtain rfl := Rep.ofNone r₁) | (obtain rfl := Rep.ofFn r₁) | cases r₁)
  (first | (obtain ⟨_, rfl⟩ := Rep.ofInt r₂) | (obtain ⟨_, rfl⟩ := Rep.ofStr r₂) | (obtain rfl := Rep.ofBool r₂) | (obtain rfl := Rep.ofNone r₂) | (obtain rfl := Rep.ofFn r₂) | cases r₂)
  exact ne_str (St.out0 (E := [_, _]) S h (.bool _))
theorem Op2_eqB {x y : Bool} {Φ : Tmp → LS → Prop} (h : Φ (.val (.bool (x == y))) σ) : Op2 C A (compareOp .Eq) (.val (.bool x)) (.val (.bool y)) σ Φ := by
  intro s T v₁ v₂ S
  obtain ⟨ρ, S, r₁, r₂⟩ := S.top2
  (first | (obtain ⟨_, rfl⟩ := Rep.ofInt r₁) | (obtain ⟨_, rfl⟩ := Rep.ofStr r₁) | (obtain rfl := Rep.ofBool r₁) | (obtain rfl := Rep.ofNone r₁) | (obtain rfl := Rep.ofFn r₁) | cases r₁)
  (first | (obtain ⟨_, rfl⟩ := Rep.ofInt r₂) | (obtain ⟨_, rfl⟩ := Rep.ofStr r₂) | (obtain rfl := Rep.ofBool r₂) | (obtain rfl := Rep.ofNone r₂) | (obtain rfl := Rep.ofFn r₂) | cases r₂)
  exact eq_bool (St.out0 (E := [_, _]) S h (.bool _))
/- is None, is True -/
noncomputable def D.isNone : D → Bool
  | .none => true
  | _ => false
theorem Rep.isNone {h : Heap} {Fb : Addr → Prop} {v : Value} {d : D} (r : Rep h Fb v d) (hd : ∀ u, d ≠ .fn u) : (v == Value.none) = d.isNone := by
  cases r <;> first | rfl | exact absurd rfl (hd _)
theorem Op2_isNone {d : D} {Φ : Tmp → LS → Prop} (hd : ∀ u, d ≠ .fn u) (h : Φ (.val (.bool d.isNone)) σ) : Op2 C A (compareOp .Is) (.val d) (.val .none) σ Φ := by
  intro s T v₁ v₂ S
  obtain ⟨ρ, S, r₁, r₂⟩ := S.top2
  (first | (obtain ⟨_, rfl⟩ := Rep.ofInt r₁) | (obtain ⟨_, rfl⟩ := Rep.ofStr r₁) | (obtain rfl := Rep.ofBool r₁) | (obtain rfl := Rep.ofNone r₁) | (obtain rfl := Rep.ofFn r₁) | cases r₁)
  exact is_none (by rw [r₂.isNone hd]; exact St.out0 (E := [_, _]) S h (.bool _))
theorem Op2_isNotNone {d : D} {Φ : Tmp → LS → Prop} (hd : ∀ u, d ≠ .fn u) (h : Φ (.val (.bool !d.isNone)) σ) : Op2 C A (compareOp .IsNot) (.val d) (.val .none) σ Φ := by
  intro s T v₁ v₂ S
  obtain ⟨ρ, S, r₁, r₂⟩ := S.top2
  (first | (obtain ⟨_, rfl⟩ := Rep.ofInt r₁) | (obtain ⟨_, rfl⟩ := Rep.ofStr r₁) | (obtain rfl := Rep.ofBool r₁) | (obtain rfl := Rep.ofNone r₁) | (obtain rfl := Rep.ofFn r₁) | cases r₁)
  exact isNot_none (by rw [r₂.isNone hd]; exact St.out0 (E := [_, _]) S h (.bool _))
end
end Mine
namespace Mine
set_option autoImplicit false
set_option linter.unusedSectionVars false
set_option linter.unusedVariables false

theorem getL_cons {n x : Str} {hs : Int} {t : Tok} {v : Value} {es : List DictEntry} : getL n (⟨hs, .str x t, v⟩ :: es) = if (n == x) = true then some (some v) else getL n es := by
  have hk : (DictEntry.mk hs (.str x t) v).key.isStr n = (n == x) := by
    show (x == n) = (n == x)
    rw [Bool.eq_iff_iff, beq_iff_eq, beq_iff_eq]; exact eq_comm
  unfold getL
  rw [List.find?_cons, hk, List.any_cons]
  cases n == x <;> rfl
theorem RepF.get {h : Heap} {Fb : Addr → Prop} {n : Str} {es : List DictEntry} {fs : List (Str × D)} {d : D} (r : RepF h Fb es fs) : fs.lookup n = some d → ∃ v, getL n es = some (some v) ∧ Rep h Fb v d :=
  r.ind (P := fun es fs => fs.lookup n = some d → ∃ v, getL n es = some (some v) ∧ Rep h Fb v d) (fun e => by cases e) fun {_ x _ _ _ _ _} r _ q e => by
    rw [getL_cons]
    rw [List.lookup_cons] at e
    cases hb : n == x with
    | true => rw [hb] at e; cases e; exact ⟨_, rfl, r⟩
    | false => rw [hb] at e; exact q e
theorem Rep.handed {h : Heap} {Fb : Addr → Prop} {v : Value} {d : D} (r : Rep h Fb v d) : handedIn v = true := by
  cases r <;> first | rfl | assumption
theorem Reps.app {h : Heap} {Fb : Addr → Prop} {ds es : List D} : ∀ {vs : List Value}, Reps h Fb vs (ds ++ es) → ∃ us ws, vs = us ++ ws ∧ Reps h Fb us ds ∧ Reps h Fb ws es := by
  induction ds with
  | nil => exact fun {vs} r => ⟨[], vs, rfl, .nil, r⟩
  | cons d ds ih =>
    intro vs r
    cases r with
    | cons a r =>
      obtain ⟨us, ws, e, h1, h2⟩ := ih r
      exact ⟨_ :: us, ws, congrArg _ e, .cons a h1, h2⟩
section
variable {W : Wd} {C : Fx W} {A : Around} {σ : LS} {s : Shared} {T : List (Value × Tmp)}

noncomputable def attrOk (K : Frag) (Ca : Addr) (n : Str) : Bool := plainGet K Ca n && hasDictIn K Ca && (findIn K (.ref Ca) n == some none)
theorem Op1_attr {Ca : Addr} {fs : List (Str × D)} {n : Str} {d : D} {Φ : Tmp → LS → Prop} (hk : attrOk W.K Ca n = true) (e : fs.lookup n = some d) (h : Φ (.val d) σ) : Op1 C A (fun v => getAttr v n true) (.val (.inst Ca fs)) σ Φ := by
  intro s T v S
  obtain ⟨ρ, S, r⟩ := S.top1
  simp only [attrOk, Bool.and_eq_true, beq_iff_eq] at hk
  obtain ⟨_, _, _, _, rfl, n1, n2, h1, h2, q⟩ := Rep.ofInst r
  obtain ⟨v', g1, g2⟩ := q.get e
  exact get_value S.inK ⟨h1, rfl, rfl, h2⟩ (plainGet_of hk.1.1).1 (findObj_own hk.1.2 hk.2 rfl (lookIn_dict n _ _ ▸ g1)) g2.handed (St.out (E := [_]) S _ h g2)

noncomputable abbrev SubPlain (i : Expr) : Prop := ∀ o v, subscripted i false o v = operate [o, v] (getItem o v)
theorem Op2_subList {e i : Expr} {ds : List D} {k : Int} {d : D} {Φ : Tmp → LS → Prop} (h0 : 0 ≤ k) (hk : k < 2 ^ 63) (hx : ds[k.toNat]? = some d) (h : Φ (.val d) σ) (hs : SubPlain i := by intro _ _; rfl) :
    Op2 C A (subscriptTail e i) (.val (.list ds)) (.val (.int k)) σ Φ := by
  intro s T v₁ v₂ S
  obtain ⟨ρ, S, r₁, r₂⟩ := S.top2
  (first | (obtain ⟨_, rfl⟩ := Rep.ofInt r₁) | (obtain ⟨_, rfl⟩ := Rep.ofStr r₁) | (obtain rfl := Rep.ofBool r₁) | (obtain rfl := Rep.ofNone r₁) | (obtain rfl := Rep.ofFn r₁) | cases r₁)
  obtain ⟨_, _, rfl, n, hl, q⟩ := Rep.ofList r₂
  obtain ⟨v, g1, g2⟩ := q.get hx
  exact tail_any hl.typeIs slot_list_getitem.lookup (wpAny_getItem_list hl h0 hk (by simpa using g1) (St.out0 (E := [_, _]) S h g2)) (hs _ _)
theorem Op2_subTup {e i : Expr} {ds : List D} {k : Int} {d : D} {Φ : Tmp → LS → Prop} (h0 : 0 ≤ k) (hk : k < 2 ^ 63) (hx : ds[k.toNat]? = some d) (h : Φ (.val d) σ) (hs : SubPlain i := by intro _ _; rfl) :
    Op2 C A (subscriptTail e i) (.val (.tup ds)) (.val (.int k)) σ Φ := by
  intro s T v₁ v₂ S
  obtain ⟨ρ, S, r₁, r₂⟩ := S.top2
  (first | (obtain ⟨_, rfl⟩ := Rep.ofInt r₁) | (obtain ⟨_, rfl⟩ := Rep.ofStr r₁) | (obtain rfl := Rep.ofBool r₁) | (obtain rfl := Rep.ofNone r₁) | (obtain rfl := Rep.ofFn r₁) | cases r₁)
  obtain ⟨a, vs, rfl, n, hl, q⟩ := Rep.ofTup r₂
  obtain ⟨v, g1, g2⟩ := q.get hx
  have hlt : k.toNat < vs.length := (List.getElem?_eq_some_iff.mp g1).1
  refine tail_any hl.typeIs slot_tuple_getitem.lookup (getItem_tuple (show IsTup s.heap a vs.toArray from hl) (by omega) hk (j := k.toNat) ?_ (by simpa using g1) (St.out0 (E := [_, _]) S h g2)) (hs _ _)
  have h1 : ¬ k < 0 := by omega
  have h2 : k < (vs.length : Int) := by omega
  simp only [PySem.seqIndex?, List.size_toArray]
  simp [h1, h2]
/-- an own list's item -/
theorem Op2_subOwn {e i : Expr} {x : Str} {ds : List D} {k : Int} {d : D} {Φ : Tmp → LS → Prop} (ho : σ.lookup x = some (.own ds)) (h0 : 0 ≤ k) (hk : k < 2 ^ 63) (hx : ds[k.toNat]? = some d) (h : Φ (.val d) σ)
    (hs : SubPlain i := by intro _ _; rfl) : Op2 C A (subscriptTail e i) (.own x) (.val (.int k)) σ Φ := by
  rintro s T v₁ v₂ ⟨ρ, S⟩
  obtain ⟨r₁, ⟨a, rfl, hr⟩, _⟩ := S.temps
  (first | (obtain ⟨_, rfl⟩ := Rep.ofInt r₁) | (obtain ⟨_, rfl⟩ := Rep.ofStr r₁) | (obtain rfl := Rep.ofBool r₁) | (obtain rfl := Rep.ofNone r₁) | (obtain rfl := Rep.ofFn r₁) | cases r₁)
  obtain ⟨v, hb, a', vs, rfl, hr', ⟨n, hl⟩, q⟩ := S.vars x _ ho
  obtain rfl := S.uniq a a' (.own x) (by simp) (by simp) hr hr'
  have hl' : s.heap.IsList a vs := ⟨_, hl, rfl, n, rfl⟩
  obtain ⟨v, g1, g2⟩ := q.get hx
  exact tail_any hl'.typeIs slot_list_getitem.lookup (wpAny_getItem_list hl' h0 hk (by simpa using g1) (St.out0 (E := [_, _]) S h g2)) (hs _ _)
theorem Op2_subOwnNeg {e i : Expr} {x : Str} {ds : List D} {k : Int} {d : D} {Φ : Tmp → LS → Prop} (ho : σ.lookup x = some (.own ds)) (h0 : k < 0) (hk : -(ds.length : Int) ≤ k) (hk' : -(2 ^ 63) ≤ k) (hx : ds[(k + ds.length).toNat]? = some d) (h : Φ (.val d) σ)
    (hs : SubPlain i := by intro _ _; rfl) : Op2 C A (subscriptTail e i) (.own x) (.val (.int k)) σ Φ := by
  rintro s T v₁ v₂ ⟨ρ, S⟩
  obtain ⟨r₁, ⟨a, rfl, hr⟩, _⟩ := S.temps
  (first | (obtain ⟨_, rfl⟩ := Rep.ofInt r₁) | (obtain ⟨_, rfl⟩ := Rep.ofStr r₁) | (obtain rfl := Rep.ofBool r₁) | (obtain rfl := Rep.ofNone r₁) | (obtain rfl := Rep.ofFn r₁) | cases r₁)
  obtain ⟨v, hb, a', vs, rfl, hr', ⟨n, hl⟩, q⟩ := S.vars x _ ho
  obtain rfl := S.uniq a a' (.own x) (by simp) (by simp) hr hr'
  have hl' : s.heap.IsList a vs := ⟨_, hl, rfl, n, rfl⟩
  have hlen : vs.size = ds.length := by rw [← q.length]; simp
  obtain ⟨v, g1, g2⟩ := q.get hx
  exact tail_any hl'.typeIs slot_list_getitem.lookup (wpAny_getItem_list_neg hl' h0 (by rw [hlen]; exact hk) hk' (by rw [hlen]; simpa using g1) (St.out0 (E := [_, _]) S h g2)) (hs _ _)

/- several expressions, one behind the other -/
noncomputable def held (vs : List Value) (ts : List Tmp) (T : List (Value × Tmp)) : List (Value × Tmp) := (vs.zip ts).reverse ++ T
theorem held_cons (v : Value) (t : Tmp) (vs : List Value) (ts : List Tmp) (T : List (Value × Tmp)) : held (v :: vs) (t :: ts) T = held vs ts ((v, t) :: T) := by simp [held]
noncomputable def SpPost (C : Fx W) (s : Shared) (T : List (Value × Tmp)) (Φ : List Tmp → LS → Prop) (vs : List Value) (s' : Shared) : Prop := ∃ ts σ', Φ ts σ' ∧ vs.length = ts.length ∧ Only s s' ∧ St C σ' s' (held vs ts T)
theorem SpPost.elim {C : Fx W} {s s' : Shared} {T : List (Value × Tmp)} {Φ : List Tmp → LS → Prop} {vs : List Value} {P : Prop} (q : SpPost C s T Φ vs s') (k : ∀ ts σ', Φ ts σ' → vs.length = ts.length → Only s s' → St C σ' s' (held vs ts T) → P) : P := by
  obtain ⟨ts, σ', a, b, c, d⟩ := q
  exact k ts σ' a b c d
noncomputable def EvSp (C : Fx W) (A : Around) (es : List Expr) (σ : LS) (Φ : List Tmp → LS → Prop) : Prop := ∀ s T pos, St C σ s T → wpAny W.M A (spliced (backTo pos (starEach es C.env))) (SpPost C s T Φ) NoE s
theorem EvSp_nil {Φ : List Tmp → LS → Prop} (h : Φ [] σ) : EvSp C A [] σ Φ := fun s T pos S => wpAny_pure ⟨[], σ, h, rfl, .refl s, S⟩
theorem EvSp_cons {e : Expr} {es : List Expr} {Φ : List Tmp → LS → Prop} (h : Ev C A e σ fun t σ₁ => EvSp C A es σ₁ fun ts σ₂ => Φ (t :: ts) σ₂)
    (he : ∀ env, starEach (e :: es) env = (false, eval e env) :: starEach es env := by intro _; rfl) : EvSp C A (e :: es) σ Φ := by
  intro s T pos S
  rw [he]
  show wpAny W.M A (do
    let v ← eval e C.env
    let here ← (pure [v] : Sem (List Value))
    return here ++ (← holding here (spliced (backTo pos (starEach es C.env))))) _ NoE s
  refine wpAny_bind (wpNo (h s T S) fun v s₁ qq14 => qq14.elim fun t σ₁ h₁ o₁ S₁ => wpAny_bind (wpAny_pure (wpAny_bind (wpAny_holding (wpNo (h₁ s₁ _ pos S₁) fun vs s₂ qq15 => qq15.elim fun ts σ₂ h₂ hl o₂ S₂ => wpAny_pure ?_)))))
  exact ⟨t :: ts, σ₂, h₂, by simp [hl], o₁.trans o₂, by rw [List.singleton_append, held_cons]; exact S₂⟩

theorem TsOk.vals {h : Heap} {ρ : Addr → Option Role} {T : List (Value × Tmp)} {ds : List D} {vs : List Value} (hl : vs.length = ds.length) (q : TsOk h ρ ((vs.zip (ds.map Tmp.val)).reverse ++ T)) : Reps h (FbOf ρ) vs ds := by
  induction ds generalizing vs T with
  | nil => rw [List.length_eq_zero_iff.mp hl]; exact .nil
  | cons d ds ih =>
    cases vs with
    | nil => cases hl
    | cons v vs =>
      rw [List.map_cons, List.zip_cons_cons, List.reverse_cons, List.append_assoc, List.singleton_append] at q
      exact .cons (TsOk.tail q).1 (ih (Nat.succ.inj hl) q)
theorem StR.vals {ρ : Addr → Option Role} {vs : List Value} {ds : List D} (S : StR C ρ σ s (held vs (ds.map Tmp.val) T)) (hl : vs.length = ds.length) : Reps s.heap (FbOf ρ) vs ds := TsOk.vals hl S.temps

/- displays -/
theorem isTuple_new (h : Heap) (vs : List Value) : (h.push { cls := .type "tuple", data := .seq vs.toArray }).IsTuple h.objs.size vs.toArray := ⟨_, Heap.get?_push_size _ rfl, rfl, 0, rfl⟩
theorem isList_new (h : Heap) (vs : List Value) : (h.push { cls := .type "list", data := .seq vs.toArray }).IsList h.objs.size vs.toArray := ⟨_, Heap.get?_push_size _ rfl, rfl, 0, rfl⟩
theorem kp_push (h : Heap) (o : Obj) : Kp h (h.push o) := fun _ _ e => Heap.get?_push_of_some _ e

theorem Ev_Tuple {es : List Expr} {k : Nat} {pos : Pos} {Φ : Tmp → LS → Prop} (h : EvSp C A es σ fun ts σ₁ => ∃ ds, ts = ds.map Tmp.val ∧ ds.length ≤ sizeLine ∧ Φ (.val (.tup ds)) σ₁) : Ev C A (.Tuple es k pos) σ Φ :=
  fun s T S => Tuple_ (wpNo (h s T pos S) fun vs s₁ p17 => p17.elim fun ts σ₁ p17i hl o₁ S₁ => by
    obtain ⟨ds, ht, hz, h₁⟩ := p17i
    obtain ⟨ρ, S₁⟩ := S₁
    subst ht
    rw [List.length_map] at hl
    have R := S₁.vals hl
    refine wpAny_newTuple ?_ (by rw [hl]; exact hz)
    refine ⟨_, σ₁, h₁, o₁.trans ⟨rfl, rfl, rfl⟩, S₁.step (s' := { s₁ with heap := _ }) (kp_push _ _) ?_⟩
    exact .tup (fun q => q (fresh_none S₁)) (isTuple_new _ _) (R.keep (kp_push _ _)))
/-- a list that is not to change -/
theorem Ev_List {es : List Expr} {pos : Pos} {Φ : Tmp → LS → Prop} (h : EvSp C A es σ fun ts σ₁ => ∃ ds, ts = ds.map Tmp.val ∧ ds.length ≤ sizeLine ∧ Φ (.val (.list ds)) σ₁) : Ev C A (.List es pos) σ Φ :=
  fun s T S => List_ (wpNo (h s T pos S) fun vs s₁ p18 => p18.elim fun ts σ₁ p18i hl o₁ S₁ => by
    obtain ⟨ds, ht, hz, h₁⟩ := p18i
    obtain ⟨ρ, S₁⟩ := S₁
    subst ht
    rw [List.length_map] at hl
    have R := S₁.vals hl
    refine wpAny_newList ?_ (by rw [hl]; exact hz)
    refine ⟨_, σ₁, h₁, o₁.trans ⟨rfl, rfl, rfl⟩, S₁.step (s' := { s₁ with heap := _ }) (kp_push _ _) ?_⟩
    exact .list (fun q => q (fresh_none S₁)) (isList_new _ _) (R.keep (kp_push _ _)))

noncomputable def setR (ρ : Addr → Option Role) (a : Addr) (r : Role) : Addr → Option Role := fun b => if b = a then some r else ρ b
theorem setR_self (ρ : Addr → Option Role) (a : Addr) (r : Role) : setR ρ a r a = some r := if_pos rfl
theorem setR_ne {ρ : Addr → Option Role} {a b : Addr} {r : Role} (h : b ≠ a) : setR ρ a r b = ρ b := if_neg h

theorem StR.nowhere {ρ : Addr → Option Role} (S : StR C ρ σ s T) {a : Addr} (ha : s.heap.get? a = none) : ρ a = none ∧ C.hE.get? a = none ∧ W.hB.get? a = none := by
  have h1 : ρ a = none := by
    cases h : ρ a with
    | none => rfl
    | some r => obtain ⟨o, e⟩ := S.alive a (by rw [h]; intro z; cases z); rw [ha] at e; cases e
  refine ⟨h1, ?_, ?_⟩
  · cases h : C.hE.get? a with
    | none => rfl
    | some o =>
      by_cases hb : C.bx = some a
      · rw [S.box a hb] at h1; cases h1
      · have := S.keep a o h hb; rw [ha] at this; cases this
  · cases h : W.hB.get? a with
    | none => rfl
    | some o => have := S.baseKeep a o h; rw [ha] at this; cases this
/-- a new object at a fresh address becomes the top of what is held -/
theorem StR.alloc {ρ : Addr → Option Role} {s' : Shared} {a : Addr} {t : Tmp} (S : StR C ρ σ s T) (hk : Kp s.heap s'.heap) (ha : s.heap.get? a = none) (hal : ∃ o, s'.heap.get? a = some o)
    (ht : TmpOk s'.heap (setR ρ a (.temp T.length)) T.length (.ref a) t) : StR C (setR ρ a (.temp T.length)) σ s' ((.ref a, t) :: T) := by
  obtain ⟨hr, hE, hB⟩ := S.nowhere ha
  have ne : ∀ {b : Addr} {r : Role}, ρ b = some r → b ≠ a := fun e q => by rw [q, hr] at e; cases e
  have hF : ∀ b, FbOf (setR ρ a (.temp T.length)) b → FbOf ρ b ∨ s.heap.get? b = none := fun b q => by
    by_cases hb : b = a
    · exact .inr (hb ▸ ha)
    · exact .inl (by simpa only [FbOf, setR_ne hb] using q)
  have rep : ∀ {v : Value} {d : D}, Rep s.heap (FbOf ρ) v d → Rep s'.heap (FbOf (setR ρ a (.temp T.length))) v d := fun q => Rep.mono (fun b o e _ => hk b o e) hF q
  have reps : ∀ {v : List Value} {d : List D}, Reps s.heap (FbOf ρ) v d → Reps s'.heap (FbOf (setR ρ a (.temp T.length))) v d := fun q => Reps.mono (fun b o e _ => hk b o e) hF q
  have tok : ∀ {T' : List (Value × Tmp)}, TsOk s.heap ρ T' → TsOk s'.heap (setR ρ a (.temp T.length)) T' := by
    intro T'
    induction T' with
    | nil => intro _; trivial
    | cons p r ih =>
      obtain ⟨v, t⟩ := p
      intro q
      refine ⟨?_, ih q.2⟩
      have q1 := q.1
      cases t with
      | val d => exact rep q1
      | own x => obtain ⟨b, e, hr⟩ := q1; exact ⟨b, e, by rw [setR_ne (ne hr)]; exact hr⟩
      | fresh l => obtain ⟨b, vs, e, hr, hl, hR⟩ := q1; exact ⟨b, vs, e, by rw [setR_ne (ne hr)]; exact hr, PlainList.at_ hl (hk b), reps hR⟩
      | obj o => obtain ⟨b, e, hr, hl⟩ := q1; exact ⟨b, e, by rw [setR_ne (ne hr)]; exact hr, hk _ _ hl⟩
      | kept o => obtain ⟨b, e, hr, hl⟩ := q1; exact ⟨b, e, by rw [setR_ne (fun z => by rw [z, ha] at hl; cases hl)]; exact hr, hk _ _ hl⟩
  refine ⟨fun b n => ?_, fun b o e => ?_, fun b n => ?_, fun b r e n nb => ?_, fun b o e nb => hk _ _ (S.keep b o e nb), let ⟨m, hm⟩ := S.ns; ⟨m, hm.keeps hk⟩, ?_, fun x c k hc => ?_, fun b e => ?_, fun b b' r n n' e e' => ?_, fun b k e => ?_, fun x l e => ?_, ⟨ht, tok S.temps⟩⟩
  · by_cases hb : b = a
    · rw [hb]; exact hal
    · rw [setR_ne hb] at n; obtain ⟨o, e⟩ := S.alive b n; exact ⟨o, hk _ _ e⟩
  · rw [setR_ne (fun z => by rw [z, hB] at e; cases e)]; exact S.top b o e
  · by_cases hb : b = a
    · rw [hb, setR_self]; intro z; cases z
    · rw [setR_ne hb]; exact S.ext b n
  · by_cases hb : b = a
    · rw [hb]; exact hE
    · rw [setR_ne hb] at e; exact S.new b r e n nb
  · rw [setR_ne (ne S.frρ)]; exact S.frρ
  · obtain ⟨h1, v, h2⟩ := S.cells x c k hc
    have hca : c ≠ a := by
      rintro rfl
      rcases h1 with h1 | h1
      · rw [hr] at h1; cases h1
      · exact h1.1 hr
    refine ⟨?_, v, h2.keeps hk⟩
    simp only [setR_ne hca]
    exact h1
  · rw [setR_ne (ne (S.box b e))]; exact S.box b e
  · by_cases hb : b = a
    · by_cases hb' : b' = a
      · rw [hb, hb']
      · rw [hb, setR_self] at e; cases e
        rw [setR_ne hb'] at e'; exact absurd (S.tlt b' _ e') (Nat.lt_irrefl _)
    · rw [setR_ne hb] at e
      by_cases hb' : b' = a
      · rw [hb', setR_self] at e'; cases e'; exact absurd (S.tlt b _ e) (Nat.lt_irrefl _)
      · rw [setR_ne hb'] at e'; exact S.uniq b b' r n n' e e'
  · by_cases hb : b = a
    · rw [hb, setR_self] at e; cases e; exact Nat.lt_succ_self _
    · rw [setR_ne hb] at e; exact Nat.lt_succ_of_lt (S.tlt b k e)
  · obtain ⟨v, hb, hl⟩ := S.vars x l e
    refine ⟨v, hb.off (ρ := ρ) (r₀ := .temp T.length) (fun b o e _ => hk b o e) (fun _ => by rw [S.frρ]; intro z; cases z) (fun c k hc => ?_), ?_⟩
    · intro z; exact Nat.lt_irrefl _ (S.tlt _ _ z)
    cases l with
    | val d => exact rep hl
    | own l => obtain ⟨b, vs, e, hr, hl, hR⟩ := hl; exact ⟨b, vs, e, by rw [setR_ne (ne hr)]; exact hr, PlainList.at_ hl (hk b), reps hR⟩
end
end Mine
namespace Mine
set_option autoImplicit false
set_option linter.unusedSectionVars false
set_option linter.unusedVariables false

/- the locals as a list -/
noncomputable def upd : LS → Str → Loc → LS
  | [], x, l => [(x, l)]
  | (y, m) :: r, x, l => if x == y then (y, l) :: r else (y, m) :: upd r x l
theorem lookup_upd (x : Str) (l : Loc) (y : Str) : ∀ σ : LS, (upd σ x l).lookup y = if y == x then some l else σ.lookup y
  | [] => by simp only [upd, List.lookup_cons, List.lookup_nil]; cases y == x <;> rfl
  | (z, m) :: r => by
    simp only [upd]
    by_cases h : x == z
    · rw [if_pos h]
      obtain rfl := beq_iff_eq.mp h
      simp only [List.lookup_cons]
      cases y == x <;> rfl
    · rw [if_neg h]
      simp only [List.lookup_cons, lookup_upd x l y r]
      by_cases hz : y == z
      · have : (y == x) = false := by
          obtain rfl := beq_iff_eq.mp hz
          cases q : y == x with
          | false => rfl
          | true => obtain rfl := beq_iff_eq.mp q; exact absurd (beq_self_eq_true _) h
        rw [hz, this]; rfl
      · rw [show (y == z) = false by simpa using hz]
noncomputable def Sub (τ : LS) (σ : LS) : Prop := match τ with
  | [] => True
  | (x, l) :: r => σ.lookup x = some l ∧ Sub r σ
theorem Sub.look {σ : LS} : ∀ {τ : LS}, Sub τ σ → ∀ x l, τ.lookup x = some l → σ.lookup x = some l
  | [], _, x, l, e => by cases e
  | (y, m) :: r, h, x, l, e => by
    rw [List.lookup_cons] at e
    cases hb : x == y with
    | true => rw [hb] at e; cases e; rw [beq_iff_eq.mp hb]; exact h.1
    | false => rw [hb] at e; exact Sub.look h.2 x l e

theorem RepF.miss {h : Heap} {Fb : Addr → Prop} {n : Str} {es : List DictEntry} {fs : List (Str × D)} (r : RepF h Fb es fs) : fs.lookup n = none → getL n es = some none :=
  r.ind (P := fun es fs => fs.lookup n = none → getL n es = some none) (fun _ => rfl) fun {_ x _ _ _ _ _} _ _ q e => by
    rw [getL_cons]
    rw [List.lookup_cons] at e
    cases hb : n == x with
    | true => rw [hb] at e; cases e
    | false => rw [hb] at e; exact q e
/- calls -/
noncomputable def Calls (W : Wd) (n : Nat) (f : Value) (ds : List D) (Φ : D → Prop) : Prop :=
  ∀ (A : Around) (s : Shared) (Fb : Addr → Prop) (vs : List Value), Room A n → Kp W.hB s.heap → (∀ a, Fb a → ∃ o, s.heap.get? a = some o) → (∀ a, Fb a → W.hB.get? a = none) → Reps s.heap Fb vs ds →
    wpAny W.M A (call f vs) (fun v s' => ∃ d, Φ d ∧ Only s s' ∧ Kp s.heap s'.heap ∧ Rep s'.heap Fb v d) NoE s
/-- the first argument is the box, a list that the call may change -/
noncomputable def CallsB (W : Wd) (n : Nat) (f : Value) (b : List D) (ds : List D) (Φ : D → List D → Prop) : Prop :=
  ∀ (A : Around) (s : Shared) (Fb : Addr → Prop) (a : Addr) (bs : Array Value) (vs : List Value), Room A n → Kp W.hB s.heap → (∀ a, Fb a → ∃ o, s.heap.get? a = some o) → (∀ a, Fb a → W.hB.get? a = none) →
    Fb a → s.heap.PlainList a bs → Reps s.heap Fb bs.toList b → Reps s.heap Fb vs ds →
    wpAny W.M A (call f (.ref a :: vs)) (fun v s' => ∃ d b' bs', Φ d b' ∧ Only s s' ∧ (∀ c o, s.heap.get? c = some o → c ≠ a → s'.heap.get? c = some o) ∧ s'.heap.PlainList a bs' ∧ Reps s'.heap Fb bs'.toList b' ∧ Rep s'.heap Fb v d) NoE s
theorem Calls.mono {W : Wd} {n m : Nat} {f : Value} {ds : List D} {Φ Ψ : D → Prop} (h : Calls W n f ds Φ) (hn : n ≤ m) (hm : ∀ d, Φ d → Ψ d) : Calls W m f ds Ψ :=
  fun A s Fb vs R a b c d => wpNo (h A s Fb vs (R.le hn) a b c d) fun v s' ⟨d, h, r⟩ => ⟨d, hm d h, r⟩
theorem CallsB.mono {W : Wd} {n m : Nat} {f : Value} {b ds : List D} {Φ Ψ : D → List D → Prop} (h : CallsB W n f b ds Φ) (hn : n ≤ m) (hm : ∀ d b, Φ d b → Ψ d b) : CallsB W m f b ds Ψ :=
  fun A s Fb a bs vs R p q r t u v w => wpNo (h A s Fb a bs vs (R.le hn) p q r t u v w) fun v s' ⟨d, b, bs', h, r⟩ => ⟨d, b, bs', hm d b h, r⟩

section
variable {W : Wd} {C : Fx W} {A : Around} {σ : LS} {s : Shared} {T : List (Value × Tmp)}

noncomputable def keepOk (K : Frag) (f : Value) : Bool := match f with
  | .ref _ => keepIn K f
  | _ => true
theorem keeps_any {M : Model} {K : Frag} {f : Value} (hk : keepOk K f = true) (h : Heap) (X : K.In h) : ∃ k, (k = Keeper.frame ∨ k = Keeper.machine ∨ k = Keeper.boundFrame) ∧ Looks M h (keeperOf f) k := by
  cases f with
  | ref a => exact keeps_K (show keepIn K (.ref a) = true from hk) h X
  | _ => exact ⟨.machine, .inr (.inl rfl), Looks.of_pure rfl⟩
theorem wpCallWith {f : Value} {first : List Value} {es : List Expr} {pos : Pos} {Q : Value → Shared → Prop} (hk : keepOk W.K f = true) (X : W.K.In s.heap)
    (h : wpAny W.M A (spliced (backTo pos (starEach es C.env))) (fun vs s₁ => W.K.In s₁.heap ∧ wpAny W.M A (call f (first ++ vs)) Q NoE s₁) NoE s)
    (hp : (backTo pos (starEach es C.env)).any (·.1) = false) : wpAny W.M A (callWith pos f first (backTo pos (starEach es C.env)) []) Q NoE s := by
  refine callWith_of (by rw [hp]; rfl) (keeps_any hk) ?_
  cases hb : backTo pos (starEach es C.env) with
  | nil =>
    rw [hb] at h
    unfold evalArgs
    show wpAny W.M A (spliced [] >>= _) _ NoE s
    refine wpAny_bind (wpAny_mono h (fun vs s' h' => ?_) fun _ _ x => x)
    refine wpAny_bind (wpAny_pure ?_)
    refine wpAny_holding ?_
    exact wpAny_bind (wpAny_pure (wpAny_bind (wpAny_pure (wpAny_pure h'))))
  | cons p r =>
    rw [hb] at h hp
    obtain ⟨b, t⟩ := p
    simp only [List.any_cons, Bool.or_eq_false_iff] at hp
    obtain ⟨rfl, hr⟩ := hp
    exact Calls.evalArgs_plain h

theorem StR.fbTop {ρ : Addr → Option Role} (S : StR C ρ σ s T) : ∀ a, FbOf ρ a → W.hB.get? a = none := fun a n => by
  cases h : W.hB.get? a with
  | none => rfl
  | some o => exact absurd (S.top a o h) n
/-- a call of what is at hand, the arguments as data -/
theorem Op_call {n : Nat} {f : Value} {ds : List D} {vs : List Value} {E : List (Value × Tmp)} {ρ : Addr → Option Role} {Φ : Tmp → LS → Prop} (R : Room A n) (S : StR C ρ σ s (E ++ T)) (r : Reps s.heap (FbOf ρ) vs ds)
    (h : Calls W n f ds fun d => Φ (.val d) σ) : wpAny W.M A (call f vs) (EvPost C s T Φ) NoE s :=
  wpNo (h A s (FbOf ρ) vs R S.baseKeep (fun a n => S.alive a n) S.fbTop r) fun v s' ⟨d, h, o, k, r'⟩ => ⟨_, _, h, o, S.step k r'⟩

theorem Ev_Call {n : Nat} {fe : Expr} {es : List Expr} {pos : Pos} {Φ : Tmp → LS → Prop} (R : Room A n)
    (h : Ev C A fe σ fun t σ₁ => ∃ f, t = .val (.fn f) ∧ keepOk W.K f = true ∧ EvSp C A es σ₁ fun ts σ₂ => ∃ ds, ts = ds.map Tmp.val ∧ Calls W n f ds fun d => Φ (.val d) σ₂)
    (hp : (backTo pos (starEach es C.env)).any (·.1) = false := by rfl)
    (he : eval (.Call fe es [] pos) C.env = (do callWith pos (← eval fe C.env) [] (backTo pos (starEach es C.env)) []) := by rfl) : Ev C A (.Call fe es [] pos) σ Φ := by
  intro s T S
  rw [he]
  refine wpAny_bind (wpNo (h s T S) fun fv s₁ qq1 => ?_)
  refine qq1.elim fun t σ₁ q₀ o₁ S₁ => ?_
  obtain ⟨f, ht, hk, h₁⟩ := q₀
  subst ht
  obtain ⟨ρ, S₁, r⟩ := S₁.top1
  (first | (obtain ⟨_, rfl⟩ := Rep.ofInt r) | (obtain ⟨_, rfl⟩ := Rep.ofStr r) | (obtain rfl := Rep.ofBool r) | (obtain rfl := Rep.ofNone r) | (obtain rfl := Rep.ofFn r) | cases r)
  refine wpCallWith hk S₁.inK (wpNo (h₁ s₁ _ pos ⟨ρ, S₁⟩) fun vs s₂ qq2 => ?_) hp
  refine qq2.elim fun ts σ₂ q₀ hl o₂ S₂ => ?_
  obtain ⟨ds, ht, h₂⟩ := q₀
  obtain ⟨ρ₂, S₂⟩ := S₂
  subst ht
  rw [List.length_map] at hl
  refine ⟨S₂.inK, ?_⟩
  rw [List.nil_append]
  refine wpNo (Op_call (E := (vs.zip (ds.map Tmp.val)).reverse ++ [(fv, .val (.fn fv))]) R (by simpa [held] using S₂) (S₂.vals hl) h₂) fun v s₃ q => q.trans (o₁.trans o₂)

/-- a method of an own class -/
theorem Ev_Meth {n : Nat} {o : Expr} {name : Str} {apos pos : Pos} {es : List Expr} {pl : Sem Bool} {Φ : Tmp → LS → Prop} (R : Room A n)
    (h : Ev C A o σ fun t σ₁ => ∃ Ca fs f, t = .val (.inst Ca fs) ∧ plainGet W.K Ca name = true ∧ findIn W.K (.ref Ca) name = some (some (.ref f)) ∧ isFn W.K (.ref f) = true ∧ keepIn W.K (.ref f) = true ∧ fs.lookup name = none ∧
      EvSp C A es σ₁ fun ts σ₂ => ∃ ds, ts = ds.map Tmp.val ∧ Calls W n (.ref f) (.inst Ca fs :: ds) fun d => Φ (.val d) σ₂)
    (hp : (backTo pos (starEach es C.env)).any (·.1) = false := by rfl)
    (he : eval (.Call (.Attribute o name apos) es [] pos) C.env = (do
      let ov ← eval o C.env
      standAt apos.atName
      let (f, first) ← holding [ov] (getMethod ov name pl)
      callWith pos f first (backTo pos (starEach es C.env)) []) := by rfl) : Ev C A (.Call (.Attribute o name apos) es [] pos) σ Φ := by
  intro s T S
  refine MethodCall_ (wpNo (h s T S) fun ov s₁ qq3 => ?_) he
  refine qq3.elim fun t σ₁ q₀ o₁ S₁ => ?_
  obtain ⟨Ca, fs, f, ht, h1, h2, h3, h4, h5, h₁⟩ := q₀
  subst ht
  obtain ⟨ρ, S₁, r⟩ := S₁.top1
  have hg := plainGet_of h1
  have r0 := r
  obtain ⟨x, dx, entries, nn, rfl, n1, n2, g1, g2, q⟩ := Rep.ofInst r
  have hl : getL name entries = some none := q.miss h5
  have I : InstAt s₁.heap x (instObj Ca dx) Ca (some (dictOf entries nn)) := ⟨g1, rfl, rfl, g2⟩
  refine method_fn S₁.inK I hg.1 hg.2 h2 (beq_iff_eq.mp h3) (by show (lookIn name (dictOf entries nn)).map _ = _; rw [lookIn_dict, hl]; rfl) ?_
  refine wpCallWith (show keepOk W.K (.ref f) = true from h4) S₁.inK (wpNo (h₁ s₁ _ pos ⟨ρ, S₁⟩) fun vs s₂ qq4 => ?_) hp
  refine qq4.elim fun ts σ₂ q₀ hl' o₂ S₂ => ?_
  obtain ⟨ds, ht, h₂⟩ := q₀
  obtain ⟨ρ₂, S₂⟩ := S₂
  subst ht
  rw [List.length_map] at hl'
  refine ⟨S₂.inK, ?_⟩
  have R2 := S₂.vals hl'
  have R1 : Rep s₂.heap (FbOf ρ₂) (.ref x) (.inst Ca fs) := (TsOk.tail S₂.temps).1
  refine wpNo (Op_call (E := (vs.zip (ds.map Tmp.val)).reverse ++ [(.ref x, .val (.inst Ca fs))]) R (by simpa [held] using S₂) (.cons R1 R2) h₂) fun v s₃ q => q.trans (o₁.trans o₂)
end
end Mine
namespace Mine
set_option autoImplicit false
set_option linter.unusedSectionVars false
set_option linter.unusedVariables false
section
variable {W : Wd} {C : Fx W} {A : Around} {σ σ' : LS} {s s' : Shared} {T : List (Value × Tmp)} {ρ ρ' : Addr → Option Role}

theorem mapId (ρ : Addr → Option Role) : (fun a => (ρ a).map id) = ρ := by funext a; simp
theorem LocOk.still {h h' : Heap} {r₀ : Role} {x : Str} {v : Value} {l : Loc} (q : LocOk h ρ x v l) (hk : ∀ b o, h.get? b = some o → ρ b ≠ some r₀ → h'.get? b = some o) (ho : ∀ l', l = .own l' → r₀ ≠ .own x) : LocOk h' ρ x v l := by
  have := q.off (f := id) hk fun l' e => ⟨ho l' e, rfl⟩
  rwa [mapId] at this
theorem TsOk.still {h h' : Heap} {r₀ : Role} (q : TsOk h ρ T) (hk : ∀ b o, h.get? b = some o → ρ b ≠ some r₀ → h'.get? b = some o) (ht : ∀ k, k < T.length → r₀ ≠ .temp k) : TsOk h' ρ T := by
  have := TsOk.off (f := id) hk q (fun _ _ _ _ => rfl) fun k h => ⟨ht k h, rfl⟩
  rwa [mapId] at this
theorem Rep.still {h h' : Heap} {r₀ : Role} {v : Value} {d : D} (q : Rep h (FbOf ρ) v d) (hk : ∀ b o, h.get? b = some o → ρ b ≠ some r₀ → h'.get? b = some o) : Rep h' (FbOf ρ) v d :=
  Rep.mono (fun b o e n => hk b o e fun z => n (show ρ b ≠ Option.none by rw [z]; intro z; cases z)) (fun _ => .inl) q
theorem Reps.still {h h' : Heap} {r₀ : Role} {v : List Value} {d : List D} (q : Reps h (FbOf ρ) v d) (hk : ∀ b o, h.get? b = some o → ρ b ≠ some r₀ → h'.get? b = some o) : Reps h' (FbOf ρ) v d :=
  Reps.mono (fun b o e n => hk b o e fun z => n (show ρ b ≠ Option.none by rw [z]; intro z; cases z)) (fun _ => .inl) q

/-- the objects of one role have changed, all else stays -/
theorem StR.mut {r₀ : Role} (S : StR C ρ σ s T) (hk : ∀ b o, s.heap.get? b = some o → ρ b ≠ some r₀ → s'.heap.get? b = some o) (hal : ∀ a, ρ a = some r₀ → ∃ o, s'.heap.get? a = some o) (hr : r₀ ≠ .ext)
    (hns : ∃ m, s'.heap.Ns C.env.locals m) (hcells : ∀ x c, C.env.kindOf x = some .cell → C.env.cells.lookup x = some c → ∃ v, s'.heap.IsCell c v) (hT : TsOk s'.heap ρ T)
    (hv : ∀ x l, σ'.lookup x = some l → ∃ v, Bound s'.heap C.env x v ∧ LocOk s'.heap ρ x v l) : StR C ρ σ' s' T where
  alive := fun a n => by
    by_cases h : ρ a = some r₀
    · exact hal a h
    · obtain ⟨o, e⟩ := S.alive a n; exact ⟨o, hk _ _ e h⟩
  top := S.top
  ext := S.ext
  new := S.new
  keep := fun b o e nb => hk b o (S.keep b o e nb) fun z => by have := S.new b r₀ z hr nb; rw [this] at e; cases e
  ns := hns
  frρ := S.frρ
  cells := fun x c k hc => ⟨(S.cells x c k hc).1, hcells x c k hc⟩
  box := S.box
  uniq := S.uniq
  tlt := S.tlt
  vars := hv
  temps := hT

theorem cellsStill {r₀ : Role} (S : StR C ρ σ s T) (hk : ∀ b o, s.heap.get? b = some o → ρ b ≠ some r₀ → s'.heap.get? b = some o) (x : Str) (c : Addr) (k : C.env.kindOf x = some .cell) (hc : C.env.cells.lookup x = some c) (hn : ρ c ≠ some r₀) :
    ∃ v, s'.heap.IsCell c v := by
  obtain ⟨_, v, o, ho, hd⟩ := S.cells x c k hc
  exact ⟨v, o, hk _ _ ho hn, hd⟩

/-- what may be said of a name's value: it may be stored as data -/
theorem StR.storeL {x : Str} {v : Value} {l : Loc} {h' : Heap} {m : Str → Option Value} (S : StR C ρ σ s T) (k : C.env.kindOf x = some .local) (hm : s.heap.Ns C.env.locals m)
    (hn : h'.Ns C.env.locals fun y => if y = x then some v else m y) (hs : Heap.SameBut C.env.locals s.heap h') (hl : LocOk s.heap ρ x v l) (he : s'.heap = h') : StR C ρ (upd σ x l) s' T := by
  subst he
  have hk : ∀ b o, s.heap.get? b = some o → ρ b ≠ some .frame → s'.heap.get? b = some o := fun b o e n => (hs.2 b fun z => n (by rw [z, S.frρ])).trans e
  refine S.mut hk (fun a e => ?_) (by simp) ⟨_, hn⟩ (fun y c ky hc => ?_) (S.temps.still hk fun _ _ => by simp) fun y l' e => ?_
  · obtain ⟨o, eo⟩ := S.alive a (by rw [e]; intro z; cases z)
    by_cases ha : a = C.env.locals
    · obtain ⟨o, es, ep, ho, _⟩ := hn; exact ⟨o, ha ▸ ho⟩
    · exact ⟨o, (hs.2 a ha).trans eo⟩
  · refine cellsStill S hk y c ky hc fun z => ?_
    rcases (S.cells y c ky hc).1 with h | ⟨_, o, ho, hb⟩
    · rw [h] at z; cases z
    · have := S.new c _ z (by simp) hb; rw [this] at ho; cases ho
  · rw [lookup_upd] at e
    by_cases hy : y == x
    · rw [if_pos hy] at e; cases e
      obtain rfl := beq_iff_eq.mp hy
      exact ⟨v, .inl ⟨k, _, hn, if_pos rfl⟩, hl.still hk fun _ _ => by simp⟩
    · rw [if_neg hy] at e
      obtain ⟨u, hb, hl'⟩ := S.vars y l' e
      refine ⟨u, ?_, hl'.still hk fun _ _ => by simp⟩
      rcases hb with ⟨ky, m', hm', hu⟩ | ⟨ky, c, hc, hv⟩
      · refine .inl ⟨ky, _, hn, ?_⟩
        rw [if_neg (by simpa using hy)]
        obtain ⟨o, es, ep, ho, hd, _, hf⟩ := hm
        obtain ⟨o', es', ep', ho', hd', _, hf'⟩ := hm'
        rw [ho] at ho'; cases ho'
        rw [hd] at hd'; cases hd'
        rw [← hf, hf']; exact hu
      · obtain ⟨o, ho, hd⟩ := hv
        refine .inr ⟨ky, c, hc, o, hk _ _ ho fun z => ?_, hd⟩
        rcases (S.cells y c ky hc).1 with h | ⟨_, o, ho, hb⟩
        · rw [h] at z; cases z
        · have := S.new c _ z (by simp) hb; rw [this] at ho; cases ho
theorem StR.storeC {x : Str} {v : Value} {l : Loc} {h' : Heap} {c : Addr} (S : StR C ρ σ s T) (k : C.env.kindOf x = some .cell) (hc : C.env.cells.lookup x = some c) (hr : ρ c = some (.cell x))
    (hn : h'.IsCell c (some v)) (hs : Heap.SameBut c s.heap h') (hl : LocOk s.heap ρ x v l) (he : s'.heap = h') : StR C ρ (upd σ x l) s' T := by
  subst he
  have hu : ∀ a, ρ a = some (.cell x) → a = c := fun a e => S.uniq a c (.cell x) (by simp) (by simp) e hr
  have hk : ∀ b o, s.heap.get? b = some o → ρ b ≠ some (.cell x) → s'.heap.get? b = some o := fun b o e n => (hs.2 b fun z => n (by rw [z, hr])).trans e
  refine S.mut hk (fun a e => ?_) (by simp) ?_ (fun y c' ky hc' => ?_) (S.temps.still hk fun _ _ => by simp) fun y l' e => ?_
  · obtain rfl := hu a e
    obtain ⟨o, ho, _⟩ := hn; exact ⟨o, ho⟩
  · obtain ⟨m, o, es, ep, ho, r⟩ := S.ns
    exact ⟨m, o, es, ep, hk _ _ ho (by rw [S.frρ]; simp), r⟩
  · by_cases h : c' = c
    · exact ⟨_, h ▸ hn⟩
    · refine cellsStill S hk y c' ky hc' fun z => h (hu c' z)
  · rw [lookup_upd] at e
    by_cases hy : y == x
    · rw [if_pos hy] at e; cases e
      obtain rfl := beq_iff_eq.mp hy
      exact ⟨v, .inr ⟨k, c, hc, hn⟩, hl.still hk fun _ _ => by simp⟩
    · rw [if_neg hy] at e
      obtain ⟨u, hb, hl'⟩ := S.vars y l' e
      refine ⟨u, hb.off hk (fun _ => by rw [S.frρ]; simp) (fun c' ky hc' z => ?_), hl'.still hk fun _ _ => by simp⟩
      rcases (S.cells y c' ky hc').1 with h | ⟨_, o, ho, hb⟩
      · rw [h] at z; cases z; exact hy (beq_self_eq_true _)
      · have := S.new c' _ z (by simp) hb; rw [this] at ho; cases ho

/-- assign: the value on top becomes a name's data -/
theorem assignVal {x : Str} {v : Value} {d : D} {Q : Unit → Shared → Prop} (S : StR C ρ σ s ((v, .val d) :: T)) (k : C.env.kindOf x = some .local ∨ (C.env.kindOf x = some .cell ∧ ∃ c, C.env.cells.lookup x = some c ∧ ρ c = some (.cell x)))
    (hQ : ∀ s', Only s s' → St C (upd σ x (.val d)) s' T → Q () s') : wpAny W.M A (storeName C.env x v) Q NoE s := by
  have r : Rep s.heap (FbOf ρ) v d := S.temps.1
  rcases k with k | ⟨k, c, hc, hr⟩
  · obtain ⟨m, hm⟩ := S.ns
    exact wpAny_storeName_local k hm (fun h' hn hs => hQ { s with heap := h', toks := _ } ⟨rfl, rfl, rfl⟩ (StR.kept (StR.drop (E := [_]) (S.storeL k hm hn hs r rfl) fun _ _ e => e) fun _ _ e => e))
      (by simp [C.kind])
  · obtain ⟨_, v₀, hv⟩ := S.cells x c k hc
    exact wpAny_storeName_cell C.kind k hc hv fun h' hn hs => hQ { s with heap := h' } ⟨rfl, rfl, rfl⟩ (StR.kept (StR.drop (E := [_]) (S.storeC k hc hr hn hs r rfl) fun _ _ e => e) fun _ _ e => e)

/-- a fresh list on top becomes the own list of a name; what the name was is gone -/
noncomputable def adoptF (x : Str) (r : Role) : Role := if r = .own x then .dead else r
theorem StR.adopt {x : Str} {a : Addr} {l : List D} (S : StR C ρ σ s ((.ref a, .fresh l) :: T)) (hT : Safe T) (hb : C.bx = none ∨ x ≠ "box") :
    ∃ ρ', StR C ρ' (σ.filter fun p => !(p.1 == x)) s T ∧ ρ' a = some (.own x) ∧ LocOk s.heap ρ' x (.ref a) (.own l) := by
  obtain ⟨⟨a', vs, e, hra, hpl, hR⟩, hTs⟩ := S.temps
  cases e
  let ρ' : Addr → Option Role := setR (fun b => (ρ b).map (adoptF x)) a (.own x)
  have hρa : ρ' a = some (.own x) := setR_self _ _ _
  have hfb : FbOf ρ' = FbOf ρ := by
    funext b
    by_cases hb : b = a
    · subst hb; simp only [FbOf, hρa, hra]; simp
    · simp only [FbOf, ρ', setR_ne hb, ne_eq, Option.map_eq_none_iff]
  have keepR : ∀ {b : Addr} {r : Role}, ρ b = some r → r ≠ .own x → r ≠ .temp T.length → ρ' b = some r := fun {b r} e n n' => by
    have hb : b ≠ a := fun q => by rw [q, hra] at e; cases e; exact n' rfl
    simp only [ρ', setR_ne hb, e, Option.map_some, adoptF, if_neg n]
  have back : ∀ {b : Addr} {r : Role}, ρ' b = some r → r ≠ .own x → r ≠ .dead → ρ b = some r := fun {b r} e n n' => by
    by_cases hb : b = a
    · rw [hb, hρa] at e; cases e; exact absurd rfl n
    · simp only [ρ', setR_ne hb] at e
      obtain ⟨r', e1, e2⟩ := Option.map_eq_some_iff.mp e
      unfold adoptF at e2
      split at e2
      · exact absurd e2.symm n'
      · rw [e1, e2]
  have hTs' : TsOk s.heap ρ' T := by
    clear hR
    revert hTs hT
    have : ∀ T' : List (Value × Tmp), T'.length ≤ T.length → Safe T' → TsOk s.heap ρ T' → TsOk s.heap ρ' T' := by
      intro T'
      induction T' with
      | nil => intro _ _ _; trivial
      | cons p r ih =>
        obtain ⟨v, t⟩ := p
        intro hlen hs q
        have hlen' : r.length < T.length := hlen
        refine ⟨?_, ih (Nat.le_of_lt hlen') (fun p hp => hs p (.tail _ hp)) q.2⟩
        have q1 := q.1
        cases t with
        | val d => show Rep _ _ _ _; rw [hfb]; exact q1
        | own y => exact absurd rfl (hs _ (.head _) y)
        | fresh l => obtain ⟨b, ws, e, hr, hl, hR⟩ := q1; exact ⟨b, ws, e, keepR hr (by simp) (by simp; omega), hl, by rw [hfb]; exact hR⟩
        | obj o => obtain ⟨b, e, hr, hl⟩ := q1; exact ⟨b, e, keepR hr (by simp) (by simp; omega), hl⟩
        | kept o =>
          obtain ⟨b, e, hr, hl⟩ := q1
          have hb : b ≠ a := fun q => by rw [q, hra] at hr; cases hr
          exact ⟨b, e, by simp only [ρ', setR_ne hb, hr, Option.map_none], hl⟩
    exact fun hs q => this T (Nat.le_refl _) hs q
  refine ⟨ρ', ⟨fun b n => S.alive b (by have : FbOf ρ' b := n; rw [hfb] at this; exact this), fun b o e => ?_, fun b n => by have := S.ext b n; have h2 : FbOf ρ b := this; rw [← hfb] at h2; exact h2, fun b r e n nb => ?_, S.keep, S.ns, keepR S.frρ (by simp) (by simp), fun y c k hc => ?_,
    fun b e => ?_, fun b b' r n n' e e' => ?_, fun b k e => ?_, fun y l' e => ?_, hTs'⟩, hρa, a, vs, rfl, hρa, hpl, by rw [hfb]; exact hR⟩
  · have h0 := S.top b o e
    have : ¬ FbOf ρ b := fun q => q h0
    rw [← hfb] at this
    cases h : ρ' b with
    | none => rfl
    | some r => exact absurd (show FbOf ρ' b by rw [FbOf, h]; simp) this
  · have hn : FbOf ρ' b := by rw [FbOf, e]; simp
    rw [hfb] at hn
    cases h : ρ b with
    | none => exact absurd h hn
    | some r' =>
      refine S.new b r' h (fun z => ?_) nb
      subst z
      rw [keepR h (by simp) (by simp)] at e; cases e; exact n rfl
  · obtain ⟨h1, h2⟩ := S.cells y c k hc
    refine ⟨h1.imp (fun z => keepR z (by simp) (by simp)) fun z => ⟨?_, z.2⟩, h2⟩
    have q : FbOf ρ c := z.1
    rw [← hfb] at q; exact q
  · refine keepR (S.box b e) (fun z => ?_) (by simp)
    cases z
    rcases hb with h | h
    · rw [h] at e; cases e
    · exact h rfl
  · by_cases hr : r = .own x
    · subst hr
      have p : ∀ c, ρ' c = some (.own x) → c = a := fun c q => by
        by_cases hc : c = a
        · exact hc
        · simp only [ρ', setR_ne hc] at q
          obtain ⟨r', e1, e2⟩ := Option.map_eq_some_iff.mp q
          unfold adoptF at e2
          split at e2
          · cases e2
          · rename_i h; exact absurd e2 h
      rw [p b e, p b' e']
    · exact S.uniq b b' r n n' (back e hr n') (back e' hr n')
  · have h1 := back e (by simp) (by simp)
    have h2 := S.tlt b k h1
    rcases Nat.lt_succ_iff_lt_or_eq.mp h2 with h | h
    · exact h
    · subst h
      have : b = a := S.uniq b a _ (by simp) (by simp) h1 hra
      rw [this, hρa] at e; cases e
  · have hy : y ≠ x ∧ σ.lookup y = some l' := by
      clear hfb keepR back hTs' S
      induction σ with
      | nil => cases e
      | cons p r ih =>
        obtain ⟨z, m⟩ := p
        by_cases hz : z == x
        · simp only [List.filter_cons, hz, Bool.not_true, Bool.false_eq_true, if_false] at e
          obtain ⟨h1, h2⟩ := ih e
          refine ⟨h1, ?_⟩
          rw [List.lookup_cons]
          have : (y == z) = false := by
            obtain rfl := beq_iff_eq.mp hz
            simpa using h1
          rw [this]; exact h2
        · simp only [List.filter_cons, show (z == x) = false by simpa using hz, Bool.not_false, if_true] at e
          rw [List.lookup_cons] at e ⊢
          cases hq : y == z with
          | true =>
            rw [hq] at e; cases e
            obtain rfl := beq_iff_eq.mp hq
            exact ⟨by simpa using hz, rfl⟩
          | false => rw [hq] at e; exact ih e
    obtain ⟨v, hb, hl⟩ := S.vars y l' hy.2
    refine ⟨v, hb, ?_⟩
    cases l' with
    | val d => show Rep _ _ _ _; rw [hfb]; exact hl
    | own l'' => obtain ⟨b, ws, e, hr, hl, hR⟩ := hl; exact ⟨b, ws, e, keepR hr (by simp [hy.1]) (by simp), hl, by rw [hfb]; exact hR⟩
theorem lookup_filter (x : Str) : ∀ (σ : LS) (y : Str), y ≠ x → (σ.filter fun p => !(p.1 == x)).lookup y = σ.lookup y
  | [], _, _ => rfl
  | (z, m) :: r, y, h => by
    by_cases hz : z == x
    · simp only [List.filter_cons, hz, Bool.not_true, Bool.false_eq_true, if_false]
      rw [List.lookup_cons, show (y == z) = false by obtain rfl := beq_iff_eq.mp hz; simpa using h]
      exact lookup_filter x r y h
    · simp only [List.filter_cons, show (z == x) = false by simpa using hz, Bool.not_false, if_true]
      rw [List.lookup_cons, List.lookup_cons, lookup_filter x r y h]
theorem assignFresh {x : Str} {v : Value} {l : List D} {Q : Unit → Shared → Prop} (S : StR C ρ σ s ((v, .fresh l) :: T)) (hT : Safe T) (hb : C.bx = none ∨ x ≠ "box")
    (k : C.env.kindOf x = some .local ∨ (C.env.kindOf x = some .cell ∧ ∃ c, C.env.cells.lookup x = some c ∧ ρ c = some (.cell x)))
    (hQ : ∀ s', Only s s' → St C (upd σ x (.own l)) s' T → Q () s') : wpAny W.M A (storeName C.env x v) Q NoE s := by
  obtain ⟨⟨a, vs, rfl, hra, _⟩, _⟩ := id S.temps
  obtain ⟨ρ', S', hρ, hl⟩ := S.adopt hT hb
  have fin : ∀ s', Only s s' → StR C ρ' (upd (σ.filter fun p => !(p.1 == x)) x (.own l)) s' T → Q () s' := fun s' o S'' => hQ s' o ⟨ρ', S''.weaken fun y l' e => by
    rw [lookup_upd] at e ⊢
    by_cases hy : y == x
    · rw [if_pos hy] at e ⊢; exact e
    · rw [if_neg hy] at e ⊢; rw [lookup_filter x σ y (by simpa using hy)]; exact e⟩
  rcases k with k | ⟨k, c, hc, hr⟩
  · obtain ⟨m, hm⟩ := S'.ns
    exact wpAny_storeName_local k hm (fun h' hn hs => fin { s with heap := h', toks := _ } ⟨rfl, rfl, rfl⟩ (S'.storeL k hm hn hs hl rfl)) (by simp [C.kind])
  · obtain ⟨h1, v₀, hv⟩ := S'.cells x c k hc
    have hr' : ρ' c = some (.cell x) := by
      rcases h1 with h1 | ⟨_, o, ho, hb'⟩
      · exact h1
      · have := S.new c _ hr (by simp) hb'; rw [this] at ho; cases ho
    exact wpAny_storeName_cell C.kind k hc hv fun h' hn hs => fin { s with heap := h' } ⟨rfl, rfl, rfl⟩ (S'.storeC k hc hr' hn hs hl rfl)

/-- an own list has changed -/
theorem StR.ownUpd {x : Str} {a : Addr} {l l' : List D} {vs' : Array Value} (S : StR C ρ σ s T) (ho : σ.lookup x = some (.own l)) (hra : ρ a = some (.own x)) (hk : ∀ b o, b ≠ a → s.heap.get? b = some o → s'.heap.get? b = some o)
    (hpl : s'.heap.PlainList a vs') (hR : Reps s'.heap (FbOf ρ) vs'.toList l') : StR C ρ (upd σ x (.own l')) s' T := by
  have hk' : ∀ b o, s.heap.get? b = some o → ρ b ≠ some (.own x) → s'.heap.get? b = some o := fun b o e n => hk b o (fun z => n (by rw [z, hra])) e
  have hu : ∀ b, ρ b = some (.own x) → b = a := fun b e => S.uniq b a _ (by simp) (by simp) e hra
  have hLa : C.env.locals ≠ a := fun z => by have := S.frρ; rw [z, hra] at this; cases this
  refine S.mut hk' (fun b e => ?_) (by simp) ?_ (fun y c ky hc => ?_) (S.temps.still hk' fun _ _ => by simp) fun y l'' e => ?_
  · obtain rfl := hu b e
    obtain ⟨n, e⟩ := hpl; exact ⟨_, e⟩
  · obtain ⟨m, o, es, ep, ho, r⟩ := S.ns
    exact ⟨m, o, es, ep, hk _ _ hLa ho, r⟩
  · have hca : c ≠ a := by
      rintro rfl
      obtain ⟨_, v, o, hoc, hd⟩ := S.cells y c ky hc
      obtain ⟨u, hb, b, ws, rfl, hrb, ⟨n, hpb⟩, _⟩ := S.vars x _ ho
      obtain rfl := hu b hrb
      rw [hoc] at hpb; cases hpb; cases hd
    obtain ⟨_, v, o, hoc, hd⟩ := S.cells y c ky hc
    exact ⟨v, o, hk _ _ hca hoc, hd⟩
  · obtain ⟨u, hbx, b, ws, eu, hrb, ⟨n, hpb⟩, _⟩ := S.vars x _ ho
    obtain rfl := hu b hrb
    have bnd : ∀ y v, Bound s.heap C.env y v → Bound s'.heap C.env y v := fun y v hb => by
      rcases hb with ⟨k, m, hn, hm⟩ | ⟨k, c, hc, o, hoc, hd⟩
      · obtain ⟨o, es, ep, ho, r⟩ := hn; exact .inl ⟨k, m, ⟨o, es, ep, hk _ _ hLa ho, r⟩, hm⟩
      · refine .inr ⟨k, c, hc, o, hk _ _ ?_ hoc, hd⟩
        rintro rfl
        rw [hoc] at hpb; cases hpb; cases hd
    rw [lookup_upd] at e
    by_cases hy : y == x
    · rw [if_pos hy] at e; cases e
      obtain rfl := beq_iff_eq.mp hy
      exact ⟨u, bnd _ _ hbx, b, vs', eu, hra, hpl, hR⟩
    · rw [if_neg hy] at e
      obtain ⟨v, hb, hl⟩ := S.vars y l'' e
      exact ⟨v, bnd _ _ hb, hl.still hk' fun _ _ => by simp; exact fun z => hy (by rw [z]; exact beq_self_eq_true _)⟩
end
end Mine
namespace Mine
set_option autoImplicit false
set_option linter.unusedSectionVars false
set_option linter.unusedVariables false
section
variable {W : Wd} {C : Fx W} {A : Around} {σ σ' : LS} {s s' : Shared} {T : List (Value × Tmp)} {ρ ρ' : Addr → Option Role}

/-- an own list is not to change any more -/
theorem StR.freeze {x : Str} {l : List D} (S : StR C ρ σ s T) (hT : Safe T) (hb : C.bx = none ∨ x ≠ "box") (ho : σ.lookup x = some (.own l)) : St C (upd σ x (.val (.list l))) s T := by
  obtain ⟨v, hbd, a, vs, rfl, hra, hpl, hR⟩ := S.vars x _ ho
  have hLa : C.env.locals ≠ a := fun z => by have := S.frρ; rw [z, hra] at this; cases this
  let ρ' : Addr → Option Role := fun b => if b = a then none else ρ b
  have sa : ρ' a = none := if_pos rfl
  have sn : ∀ {b : Addr}, b ≠ a → ρ' b = ρ b := fun h => if_neg h
  have ne : ∀ {b : Addr} {r : Role}, ρ b = some r → r ≠ .own x → b ≠ a := fun e n q => by rw [q, hra] at e; cases e; exact n rfl
  have hF : ∀ b, FbOf ρ' b → FbOf ρ b := fun b q => by
    by_cases h : b = a
    · exact absurd (h ▸ sa) q
    · rwa [FbOf, sn h] at q
  have rep : ∀ {v : Value} {d : D}, Rep s.heap (FbOf ρ) v d → Rep s.heap (FbOf ρ') v d := fun q => Rep.mono (fun b o e _ => e) (fun b q => .inl (hF b q)) q
  have reps : ∀ {v : List Value} {d : List D}, Reps s.heap (FbOf ρ) v d → Reps s.heap (FbOf ρ') v d := fun q => Reps.mono (fun b o e _ => e) (fun b q => .inl (hF b q)) q
  have tok : ∀ {T' : List (Value × Tmp)}, Safe T' → TsOk s.heap ρ T' → TsOk s.heap ρ' T' := by
    intro T'
    induction T' with
    | nil => intro _ _; trivial
    | cons p r ih =>
      obtain ⟨v, t⟩ := p
      intro hs q
      refine ⟨?_, ih (fun p hp => hs p (.tail _ hp)) q.2⟩
      have q1 := q.1
      cases t with
      | val d => exact rep q1
      | own y => exact absurd rfl (hs _ (.head _) y)
      | fresh l => obtain ⟨b, ws, e, hr, hl, hR⟩ := q1; exact ⟨b, ws, e, by rw [sn (ne hr (by simp))]; exact hr, hl, reps hR⟩
      | obj o => obtain ⟨b, e, hr, hl⟩ := q1; exact ⟨b, e, by rw [sn (ne hr (by simp))]; exact hr, hl⟩
      | kept o => obtain ⟨b, e, hr, hl⟩ := q1; exact ⟨b, e, by rw [sn (fun z => by rw [z, hra] at hr; cases hr)]; exact hr, hl⟩
  have hbx : C.bx ≠ some a := fun z => by
    have := S.box a z; rw [hra] at this; cases this
    rcases hb with h | h
    · rw [h] at z; cases z
    · exact h rfl
  refine ⟨ρ', fun b n => S.alive b (hF b n), fun b o e => ?_, fun b n => ?_, fun b r e n nb => ?_, S.keep, S.ns, by rw [sn hLa]; exact S.frρ, fun y c k hc => ?_, fun b e => ?_, fun b b' r n n' e e' => ?_, fun b k e => ?_, fun y l' e => ?_, tok hT S.temps⟩
  · by_cases h : b = a
    · rw [h]; exact sa
    · rw [sn h]; exact S.top b o e
  · by_cases h : b = a
    · exfalso
      subst h
      obtain ⟨o, ho⟩ := C.FbE b n
      have := S.new b _ hra (by simp) hbx
      rw [this] at ho; cases ho
    · rw [sn h]; exact S.ext b n
  · by_cases h : b = a
    · rw [h, sa] at e; cases e
    · rw [sn h] at e; exact S.new b r e n nb
  · obtain ⟨h1, h2⟩ := S.cells y c k hc
    have hca : c ≠ a := by
      rintro rfl
      obtain ⟨v, o, hoc, hd⟩ := h2
      obtain ⟨n, hpb⟩ := hpl
      rw [hoc] at hpb; cases hpb; cases hd
    refine ⟨?_, h2⟩
    rw [sn hca]; exact h1
  · rw [sn (fun z => hbx (z ▸ e))]; exact S.box b e
  · by_cases h : b = a
    · rw [h, sa] at e; cases e
    · by_cases h' : b' = a
      · rw [h', sa] at e'; cases e'
      · rw [sn h] at e; rw [sn h'] at e'; exact S.uniq b b' r n n' e e'
  · by_cases h : b = a
    · rw [h, sa] at e; cases e
    · rw [sn h] at e; exact S.tlt b k e
  · rw [lookup_upd] at e
    by_cases hy : y == x
    · rw [if_pos hy] at e; cases e
      obtain rfl := beq_iff_eq.mp hy
      obtain ⟨n, hpb⟩ := hpl
      refine ⟨.ref a, hbd, ?_⟩
      refine Rep.list (vs := vs.toList) (fun q => q sa) ?_ (reps hR)
      exact ⟨_, hpb, rfl, n, rfl⟩
    · rw [if_neg hy] at e
      obtain ⟨v, hb, hl⟩ := S.vars y l' e
      refine ⟨v, hb, ?_⟩
      cases l' with
      | val d => exact rep hl
      | own l'' =>
        obtain ⟨b, ws, e, hr, hl, hR⟩ := hl
        exact ⟨b, ws, e, by rw [sn (ne hr (by simp; exact fun z => hy (by rw [z]; exact beq_self_eq_true _)))]; exact hr, hl, reps hR⟩

/- a set of roles whose objects may have changed -/
section
variable {R : Role → Prop} {h h' : Heap}
noncomputable abbrev Off (ρ : Addr → Option Role) (R : Role → Prop) (h h' : Heap) : Prop := ∀ b o, h.get? b = some o → (∀ r, ρ b = some r → ¬ R r) → h'.get? b = some o
theorem Rep.stillR {v : Value} {d : D} (q : Rep h (FbOf ρ) v d) (hk : Off ρ R h h') : Rep h' (FbOf ρ) v d :=
  Rep.mono (fun b o e n => hk b o e fun r z => (n (show ρ b ≠ Option.none by rw [z]; intro z; cases z)).elim) (fun _ => .inl) q
theorem Reps.stillR {v : List Value} {d : List D} (q : Reps h (FbOf ρ) v d) (hk : Off ρ R h h') : Reps h' (FbOf ρ) v d :=
  Reps.mono (fun b o e n => hk b o e fun r z => (n (show ρ b ≠ Option.none by rw [z]; intro z; cases z)).elim) (fun _ => .inl) q
theorem LocOk.stillR {x : Str} {v : Value} {l : Loc} (q : LocOk h ρ x v l) (hk : Off ρ R h h') (ho : ¬ R (.own x)) : LocOk h' ρ x v l := by
  cases l with
  | val d => exact Rep.stillR q hk
  | own l => obtain ⟨a, vs, e, hr, hl, hR⟩ := q; exact ⟨a, vs, e, hr, PlainList.at_ hl fun o e => hk a o e fun r z => by rw [hr] at z; cases z; exact ho, hR.stillR hk⟩
theorem TmpOk.stillR {k : Nat} {v : Value} {t : Tmp} (q : TmpOk h ρ k v t) (hk : Off ρ R h h') (ho : ¬ R (.temp k)) : TmpOk h' ρ k v t := by
  cases t with
  | val d => exact Rep.stillR q hk
  | own x => exact q
  | fresh l => obtain ⟨a, vs, e, hr, hl, hR⟩ := q; exact ⟨a, vs, e, hr, PlainList.at_ hl fun o e => hk a o e fun r z => by rw [hr] at z; cases z; exact ho, hR.stillR hk⟩
  | obj o => obtain ⟨a, e, hr, hl⟩ := q; exact ⟨a, e, hr, hk _ _ hl fun r z => by rw [hr] at z; cases z; exact ho⟩
  | kept o => obtain ⟨a, e, hr, hl⟩ := q; exact ⟨a, e, hr, hk _ _ hl fun r z => by rw [hr] at z; cases z⟩
theorem TsOk.stillR (hk : Off ρ R h h') : ∀ {T : List (Value × Tmp)}, TsOk h ρ T → (∀ k, k < T.length → ¬ R (.temp k)) → TsOk h' ρ T
  | [], _, _ => trivial
  | (v, t) :: r, q, ho => ⟨TmpOk.stillR q.1 hk (ho _ (by simp)), TsOk.stillR hk q.2 fun k h => ho k (by simp; omega)⟩
end

/-- objects of temporaries (or dead ones) have changed -/
theorem StR.mutR {R : Role → Prop} {T' : List (Value × Tmp)} (S : StR C ρ σ s T) (hk : Off ρ R s.heap s'.heap) (hal : ∀ a r, ρ a = some r → R r → ∃ o, s'.heap.get? a = some o) (h1 : ¬ R .ext) (h2 : ¬ R .frame) (h3 : ∀ x, ¬ R (.cell x)) (h4 : ∀ x, ¬ R (.own x))
    (hlen : T'.length = T.length) (hT : TsOk s'.heap ρ T') : StR C ρ σ s' T' where
  alive := fun a n => by
    obtain ⟨o, e⟩ := S.alive a n
    cases h : ρ a with
    | none => exact absurd h n
    | some r =>
      by_cases hr : R r
      · exact hal a r h hr
      · exact ⟨o, hk _ _ e fun r' z => by rw [h] at z; cases z; exact hr⟩
  top := S.top
  ext := S.ext
  new := S.new
  keep := fun b o e nb => hk b o (S.keep b o e nb) fun r z hr => by
    have := S.new b r z (fun q => h1 (q ▸ hr)) nb; rw [this] at e; cases e
  ns := by
    obtain ⟨m, o, es, ep, ho, r⟩ := S.ns
    exact ⟨m, o, es, ep, hk _ _ ho fun r z => by rw [S.frρ] at z; cases z; exact h2, r⟩
  frρ := S.frρ
  cells := fun x c k hc => by
    obtain ⟨p, v, o, ho, hd⟩ := S.cells x c k hc
    refine ⟨p, v, o, hk _ _ ho fun r z hr => ?_, hd⟩
    rcases p with p | ⟨_, o', ho', hb⟩
    · rw [p] at z; cases z; exact h3 _ hr
    · have := S.new c r z (fun q => h1 (q ▸ hr)) hb; rw [this] at ho'; cases ho'
  box := S.box
  uniq := S.uniq
  tlt := fun a k e => by rw [hlen]; exact S.tlt a k e
  vars := fun x l e => by
    obtain ⟨v, hb, hl⟩ := S.vars x l e
    refine ⟨v, ?_, hl.stillR hk (h4 x)⟩
    rcases hb with ⟨k, m, ⟨o, es, ep, ho, r⟩, hm⟩ | ⟨k, c, hc, o, ho, hd⟩
    · exact .inl ⟨k, m, ⟨o, es, ep, hk _ _ ho fun r z => by rw [S.frρ] at z; cases z; exact h2, r⟩, hm⟩
    · refine .inr ⟨k, c, hc, o, hk _ _ ho fun r z hr => ?_, hd⟩
      rcases (S.cells x c k hc).1 with p | ⟨_, o', ho', hb⟩
      · rw [p] at z; cases z; exact h3 _ hr
      · have := S.new c r z (fun q => h1 (q ▸ hr)) hb; rw [this] at ho'; cases ho'
  temps := hT

open Classical in
noncomputable def buryF (ρ : Addr → Option Role) (B : Addr → Prop) : Addr → Option Role := fun b => if B b then some .dead else ρ b
theorem bury_in {B : Addr → Prop} {b : Addr} (h : B b) : buryF ρ B b = some .dead := if_pos h
theorem bury_out {B : Addr → Prop} {b : Addr} (h : ¬ B b) : buryF ρ B b = ρ b := if_neg h
/-- new objects that nobody looks at -/
theorem StR.bury {B : Addr → Prop} (S : StR C ρ σ s T) (hk : Kp s.heap s'.heap) (hB : ∀ a, B a → s.heap.get? a = none ∧ ∃ o, s'.heap.get? a = some o) : StR C (buryF ρ B) σ s' T := by
  have out : ∀ {b : Addr} {r : Role}, ρ b = some r → ¬ B b := fun e q => by
    have := (S.nowhere (hB _ q).1).1; rw [e] at this; cases this
  have hF : ∀ b, FbOf (buryF ρ B) b → FbOf ρ b ∨ s.heap.get? b = none := fun b q => by
    by_cases hb : B b
    · exact .inr (hB b hb).1
    · exact .inl (by rwa [FbOf, bury_out hb] at q)
  have rep : ∀ {v : Value} {d : D}, Rep s.heap (FbOf ρ) v d → Rep s'.heap (FbOf (buryF ρ B)) v d := fun q => Rep.mono (fun b o e _ => hk b o e) hF q
  have reps : ∀ {v : List Value} {d : List D}, Reps s.heap (FbOf ρ) v d → Reps s'.heap (FbOf (buryF ρ B)) v d := fun q => Reps.mono (fun b o e _ => hk b o e) hF q
  have same : ∀ {b : Addr} {r : Role}, ρ b = some r → buryF ρ B b = some r := fun e => by rw [bury_out (out e)]; exact e
  have back : ∀ {b : Addr} {r : Role}, buryF ρ B b = some r → r ≠ .dead → ρ b = some r := fun {b r} e n => by
    by_cases hb : B b
    · rw [bury_in hb] at e; cases e; exact absurd rfl n
    · rwa [bury_out hb] at e
  have tok : ∀ {T' : List (Value × Tmp)}, TsOk s.heap ρ T' → TsOk s'.heap (buryF ρ B) T' := by
    intro T'
    induction T' with
    | nil => intro _; trivial
    | cons p r ih =>
      obtain ⟨v, t⟩ := p
      intro q
      refine ⟨?_, ih q.2⟩
      have q1 := q.1
      cases t with
      | val d => exact rep q1
      | own x => obtain ⟨b, e, hr⟩ := q1; exact ⟨b, e, same hr⟩
      | fresh l => obtain ⟨b, vs, e, hr, hl, hR⟩ := q1; exact ⟨b, vs, e, same hr, PlainList.at_ hl (hk b), reps hR⟩
      | obj o => obtain ⟨b, e, hr, hl⟩ := q1; exact ⟨b, e, same hr, hk _ _ hl⟩
      | kept o => obtain ⟨b, e, hr, hl⟩ := q1; exact ⟨b, e, by rw [bury_out fun z => by rw [(hB b z).1] at hl; cases hl]; exact hr, hk _ _ hl⟩
  refine ⟨fun b n => ?_, fun b o e => ?_, fun b n => ?_, fun b r e n nb => ?_, fun b o e nb => hk _ _ (S.keep b o e nb), let ⟨m, hm⟩ := S.ns; ⟨m, hm.keeps hk⟩, same S.frρ, fun x c k hc => ?_, fun b e => same (S.box b e), fun b b' r n n' e e' => S.uniq b b' r n n' (back e n') (back e' n'),
    fun b k e => S.tlt b k (back e (by simp)), fun x l e => ?_, tok S.temps⟩
  · by_cases hb : B b
    · exact (hB b hb).2
    · rw [bury_out hb] at n; obtain ⟨o, e⟩ := S.alive b n; exact ⟨o, hk _ _ e⟩
  · rw [bury_out fun z => by have := (S.nowhere (hB b z).1).2.2; rw [this] at e; cases e]; exact S.top b o e
  · by_cases hb : B b
    · rw [bury_in hb]; intro z; cases z
    · rw [bury_out hb]; exact S.ext b n
  · by_cases hb : B b
    · exact (S.nowhere (hB b hb).1).2.1
    · rw [bury_out hb] at e; exact S.new b r e n nb
  · obtain ⟨h1, v, h2⟩ := S.cells x c k hc
    refine ⟨h1.imp same fun z => ⟨?_, z.2⟩, v, h2.keeps hk⟩
    intro q
    by_cases hb : B c
    · rw [bury_in hb] at q; cases q
    · rw [bury_out hb] at q; exact z.1 q
  · obtain ⟨v, hb, hl⟩ := S.vars x l e
    refine ⟨v, hb.off (ρ := ρ) (r₀ := .temp T.length) (fun b o e _ => hk b o e) (fun _ => by rw [S.frρ]; intro z; cases z) (fun c k hc => ?_), ?_⟩
    · intro z; exact Nat.lt_irrefl _ (S.tlt _ _ z)
    cases l with
    | val d => exact rep hl
    | own l => obtain ⟨b, vs, e, hr, hl, hR⟩ := hl; exact ⟨b, vs, e, same hr, PlainList.at_ hl (hk b), reps hR⟩
/-- a dead object is held -/
theorem StR.unbury {a : Addr} {t : Tmp} (S : StR C ρ σ s T) (ha : ρ a = some .dead) (ht : TmpOk s.heap (setR ρ a (.temp T.length)) T.length (.ref a) t) : StR C (setR ρ a (.temp T.length)) σ s ((.ref a, t) :: T) := by
  have hfb : FbOf (setR ρ a (.temp T.length)) = FbOf ρ := by
    funext b
    by_cases hb : b = a
    · subst hb; simp only [FbOf, setR_self, ha]; simp
    · simp only [FbOf, setR_ne hb]
  have ne : ∀ {b : Addr} {r : Role}, ρ b = some r → r ≠ .dead → b ≠ a := fun e n q => by rw [q, ha] at e; cases e; exact n rfl
  have same : ∀ {b : Addr} {r : Role}, ρ b = some r → r ≠ .dead → setR ρ a (.temp T.length) b = some r := fun e n => by rw [setR_ne (ne e n)]; exact e
  have tok : ∀ {T' : List (Value × Tmp)}, TsOk s.heap ρ T' → TsOk s.heap (setR ρ a (.temp T.length)) T' := by
    intro T'
    induction T' with
    | nil => intro _; trivial
    | cons p r ih =>
      obtain ⟨v, t⟩ := p
      intro q
      refine ⟨?_, ih q.2⟩
      have q1 := q.1
      cases t with
      | val d => show Rep _ _ _ _; rw [hfb]; exact q1
      | own x => obtain ⟨b, e, hr⟩ := q1; exact ⟨b, e, same hr (by simp)⟩
      | fresh l => obtain ⟨b, vs, e, hr, hl, hR⟩ := q1; exact ⟨b, vs, e, same hr (by simp), hl, by rw [hfb]; exact hR⟩
      | obj o => obtain ⟨b, e, hr, hl⟩ := q1; exact ⟨b, e, same hr (by simp), hl⟩
      | kept o => obtain ⟨b, e, hr, hl⟩ := q1; exact ⟨b, e, by rw [setR_ne (fun z => by rw [z, ha] at hr; cases hr)]; exact hr, hl⟩
  refine ⟨fun b n => S.alive b (by have : FbOf _ b := n; rw [hfb] at this; exact this), fun b o e => ?_, fun b n => by have : FbOf ρ b := S.ext b n; rw [← hfb] at this; exact this, fun b r e n nb => ?_, S.keep, S.ns, same S.frρ (by simp), fun x c k hc => ?_, fun b e => same (S.box b e) (by simp),
    fun b b' r n n' e e' => ?_, fun b k e => ?_, fun x l e => ?_, ⟨ht, tok S.temps⟩⟩
  · have h0 := S.top b o e
    rw [setR_ne (fun z => by rw [z, ha] at h0; cases h0)]; exact h0
  · by_cases hb : b = a
    · subst hb; exact S.new b .dead ha (by simp) nb
    · rw [setR_ne hb] at e; exact S.new b r e n nb
  · obtain ⟨h1, h2⟩ := S.cells x c k hc
    refine ⟨h1.imp (fun z => same z (by simp)) fun z => ⟨?_, z.2⟩, h2⟩
    have q : FbOf ρ c := z.1
    rw [← hfb] at q; exact q
  · by_cases hb : b = a
    · by_cases hb' : b' = a
      · rw [hb, hb']
      · rw [hb, setR_self] at e; cases e
        rw [setR_ne hb'] at e'; exact absurd (S.tlt b' _ e') (Nat.lt_irrefl _)
    · rw [setR_ne hb] at e
      by_cases hb' : b' = a
      · rw [hb', setR_self] at e'; cases e'; exact absurd (S.tlt b _ e) (Nat.lt_irrefl _)
      · rw [setR_ne hb'] at e'; exact S.uniq b b' r n n' e e'
  · by_cases hb : b = a
    · rw [hb, setR_self] at e; cases e; exact Nat.lt_succ_self _
    · rw [setR_ne hb] at e; exact Nat.lt_succ_of_lt (S.tlt b k e)
  · obtain ⟨v, hb, hl⟩ := S.vars x l e
    refine ⟨v, hb, ?_⟩
    cases l with
    | val d => show Rep _ _ _ _; rw [hfb]; exact hl
    | own l => obtain ⟨b, vs, e, hr, hl, hR⟩ := hl; exact ⟨b, vs, e, same hr (by simp), hl, by rw [hfb]; exact hR⟩
end
end Mine
namespace Mine
set_option autoImplicit false
set_option linter.unusedSectionVars false
set_option linter.unusedVariables false
section
variable {W : Wd} {C : Fx W} {A : Around} {σ σ' : LS} {s s' : Shared} {T : List (Value × Tmp)} {ρ ρ' : Addr → Option Role}

theorem Exs_nil {Φ : Fl → LS → Prop} (h : Φ .next σ) : Exs C A [] σ Φ := fun s T _ S => wpAny_execs_nil ⟨σ, h, .refl s, S⟩
noncomputable def SeqΦ (C : Fx W) (A : Around) (rest : List Stmt) (Φ : Fl → LS → Prop) (fl : Fl) (σ : LS) : Prop := match fl with
  | .next => Exs C A rest σ Φ
  | .brk => Φ .brk σ
  | .cont => Φ .cont σ
  | .ret d => Φ (.ret d) σ
theorem Exs_cons {st : Stmt} {rest : List Stmt} {Φ : Fl → LS → Prop} (h : Ex C A st σ (SeqΦ C A rest Φ)) : Exs C A (st :: rest) σ Φ :=
  fun s T sf S => wpAny_execs_cons (wpNo (h s T sf S) fun f s₁ q => by
    cases f with
    | next => obtain ⟨σ₁, h₁, o₁, S₁⟩ := q; exact wpNo (h₁ s₁ T sf S₁) fun f s₂ q => q.trans o₁
    | brk => exact q
    | cont => exact q
    | ret v => exact q)
theorem Exs_freeze {ss : List Stmt} {Φ : Fl → LS → Prop} (x : Str) {l : List D} (ho : σ.lookup x = some (.own l)) (hb : C.bx = none ∨ x ≠ "box") (h : Exs C A ss (upd σ x (.val (.list l))) Φ) : Exs C A ss σ Φ :=
  fun s T sf ⟨ρ, S⟩ => h s T sf (S.freeze sf hb ho)
theorem Exs_weaken {ss : List Stmt} {Φ : Fl → LS → Prop} {τ : LS} (hs : Sub τ σ) (h : Exs C A ss τ Φ) : Exs C A ss σ Φ := fun s T sf ⟨ρ, S⟩ => h s T sf ⟨ρ, S.weaken hs.look⟩
theorem Ex_Return {e : Expr} {pos : Pos} {Φ : Fl → LS → Prop} (h : Ev C A e σ fun t σ₁ => ∃ d, t = .val d ∧ Φ (.ret d) σ₁) : Ex C A (.Return (some e) pos) σ Φ :=
  fun s T _ S => wpAny_Return_some (wpNo (h s T S) fun v s₁ p21 => p21.elim fun t σ₁ p21i o₁ S₁ => by obtain ⟨d, ht, h₁⟩ := p21i; subst ht; exact ⟨d, σ₁, h₁, o₁, S₁⟩)
theorem Ex_If {c : Expr} {a b : List Stmt} {pos : Pos} {Φ : Fl → LS → Prop} (h : EvB C A c σ fun t σ₁ => if t then Exs C A a σ₁ Φ else Exs C A b σ₁ Φ) : Ex C A (.If c a b pos) σ Φ :=
  fun s T sf S => wpAny_If (wpNo (h s T S) fun t s₁ qq3 => qq3.elim fun σ₁ h₁ o₁ S₁ => by
    cases t
    · exact wpNo (h₁ s₁ T sf S₁) fun f s₂ q => q.trans o₁
    · exact wpNo (h₁ s₁ T sf S₁) fun f s₂ q => q.trans o₁)
theorem Ex_Continue {pos : Pos} {Φ : Fl → LS → Prop} (h : Φ .cont σ) : Ex C A (.Continue pos) σ Φ := fun s T _ S => wpAny_Continue ⟨σ, h, .refl s, S⟩
theorem Ex_Expr {e : Expr} {pos : Pos} {Φ : Fl → LS → Prop} (h : Ev C A e σ fun t σ₁ => Φ .next σ₁) (hi : interactive C.env = false := by rfl) (hs : swapsWith e none pos.line C.env = pure false := by rfl) : Ex C A (.Expr e pos) σ Φ :=
  fun s T _ S => wpAny_Expr_any (wpNo (h s T S) fun v s₁ ⟨t, σ₁, h₁, o₁, ρ, S₁⟩ => ⟨σ₁, h₁, o₁, _, StR.drop (E := [_]) S₁ fun _ _ e => e⟩) hi hs

/-- a name that may be stored to -/
noncomputable def Bind (C : Fx W) (x : Str) : Prop := C.env.kindOf x = some .local ∨ (C.env.kindOf x = some .cell ∧ ∃ c, C.env.cells.lookup x = some c ∧ C.hE.get? c = none)
theorem Bind.at_ {x : Str} (b : Bind C x) (S : StR C ρ σ s T) : C.env.kindOf x = some .local ∨ (C.env.kindOf x = some .cell ∧ ∃ c, C.env.cells.lookup x = some c ∧ ρ c = some (.cell x)) := by
  rcases b with b | ⟨k, c, hc, hn⟩
  · exact .inl b
  · refine .inr ⟨k, c, hc, ?_⟩
    rcases (S.cells x c k hc).1 with h | ⟨_, o, ho, _⟩
    · exact h
    · rw [hn] at ho; cases ho

/-- an assignment of a held value -/
noncomputable def Asg (C : Fx W) (A : Around) (t : Expr) (d : D) (σ : LS) (Ψ : LS → Prop) : Prop :=
  ∀ s T v, Safe T → St C σ s T → (v, Tmp.val d) ∈ T → wpAny W.M A (assign t C.env v) (fun _ s' => ∃ σ', Ψ σ' ∧ Only s s' ∧ St C σ' s' T) NoE s
theorem TsOk.mem {h : Heap} {v : Value} {d : D} {T : List (Value × Tmp)} (q : TsOk h ρ T) (m : (v, Tmp.val d) ∈ T) : Rep h (FbOf ρ) v d := by
  induction T with
  | nil => cases m
  | cons p r ih =>
    obtain ⟨w, t⟩ := p
    rcases List.mem_cons.mp m with e | m
    · cases e; exact q.1
    · exact ih q.2 m
theorem storeMem {x : Str} {v : Value} {d : D} {Q : Unit → Shared → Prop} (b : Bind C x) (S : St C σ s T) (hm : (v, Tmp.val d) ∈ T) (hQ : ∀ s', Only s s' → St C (upd σ x (.val d)) s' T → Q () s') : wpAny W.M A (storeName C.env x v) Q NoE s := by
  obtain ⟨ρ, S⟩ := S
  have r : Rep s.heap (FbOf ρ) v d := S.temps.mem hm
  rcases b.at_ S with k | ⟨k, c, hc, hr⟩
  · obtain ⟨m, hm⟩ := S.ns
    exact wpAny_storeName_local k hm (fun h' hn hs => hQ { s with heap := h', toks := _ } ⟨rfl, rfl, rfl⟩ ⟨ρ, S.storeL k hm hn hs r rfl⟩) (by simp [C.kind])
  · obtain ⟨_, v₀, hv⟩ := S.cells x c k hc
    exact wpAny_storeName_cell C.kind k hc hv fun h' hn hs => hQ { s with heap := h' } ⟨rfl, rfl, rfl⟩ ⟨ρ, S.storeC k hc hr hn hs r rfl⟩
theorem Asg_name {x : Str} {pos : Pos} {d : D} {Ψ : LS → Prop} (b : Bind C x) (h : Ψ (upd σ x (.val d))) : Asg C A (.Name x pos) d σ Ψ :=
  fun s T v _ S hm => wpAny_assign_Name (storeMem b S hm fun s' o S' => ⟨_, h, o, S'⟩)
set_option maxRecDepth 20000 in
/-- storing into a plain list leaves a plain list -/
theorem setItem_plain {l : Addr} {vs : Array Value} {k : Int} {t : Tok} {v : Value} {Q : Unit → Shared → Prop} (hpl : s.heap.PlainList l vs) (h0 : 0 ≤ k) (hk : k < vs.size) (hfit : k < 2 ^ 63)
    (hQ : ∀ h', h'.PlainList l (vs.setIfInBounds k.toNat v) → Heap.SameBut l s.heap h' → Q () { s with heap := h' }) : wpAny W.M A (setItem (.ref l) (.int k t) v) Q NoE s := by
  obtain ⟨n, ho⟩ := hpl
  have hT : s.TypeIs (.ref l) "list" := ⟨_, ho, rfl⟩
  have hfin : ∀ j : Nat, (s.heap.update l (Obj.mapSeq (·.setIfInBounds j v))).PlainList l (vs.setIfInBounds j v) := fun j => by
    refine ⟨n, ?_⟩
    rw [Heap.get?_update_self _ ho (by rfl)]
    show some _ = some _
    simp only [Obj.mapSeq, Array.size_setIfInBounds, beq_self_eq_true, if_true]
  unfold setItem
  refine wpAny_holding (wpAny_bind (wpAny_sequenceKey hT (by decide) ?_))
  refine wpAny_bind (wpAny_callSpecial?_slot (name := Str.ofString "__setitem__") hT slot_list_setitem (wpAny_call_entry slot_list_setitem hT entry_list_setitem ?_ (args_list_setitem _ _ _)))
  show wpAny _ _ (Builtin.List.listSubscript? (.int k t) >>= _) _ _ s
  refine wpAny_bind (wpAny_listSubscript_int (fitsIndex_of h0 hfit) ?_)
  clear hfit
  obtain ⟨j, rfl⟩ := Int.eq_ofNat_of_zero_le h0
  have hj : j < vs.size := by omega
  have hfin := hfin j
  show wpAny _ _ ((seqItemAt l j >>= fun r => pure (r.map (j, ·))) >>= _) _ _ s
  refine wpAny_bind (wpAny_bind (wpAny_seqItemAt ho rfl (wpAny_pure ?_)))
  rw [Array.getElem?_eq_getElem hj]
  show wpAny _ _ (setSeqItemAt l j v >>= _) _ _ s
  refine wpAny_bind (wpAny_setSeqItemAt ho rfl ?_)
  first
    | exact wpAny_pure ⟨.none, rfl, wpAny_pure (hQ _ hfin (Heap.SameBut.update ..))⟩
    | exact wpAny_bind (wpAny_pure (wpAny_pure ⟨.none, rfl, wpAny_pure (hQ _ hfin (Heap.SameBut.update ..))⟩))
/-- x[i] = d for an own list -/
theorem Asg_sub {x : Str} {xp : Pos} {i : Expr} {pos : Pos} {d : D} {Ψ : LS → Prop} {l : List D} {k : Int}
    (h : Ev C A i σ fun t σ₁ => t = .val (.int k) ∧ σ₁.lookup x = some (.own l) ∧ 0 ≤ k ∧ k < 2 ^ 63 ∧ k < l.length ∧ Ψ (upd σ₁ x (.own (l.set k.toNat d)))) (ho : σ.lookup x = some (.own l)) (hd : (x == ("__debug__" : Str)) = false := by decide) :
    Asg C A (.Subscript (.Name x xp) i pos) d σ Ψ := by
  intro s T v sf S hm
  refine kas_sub (wpNo (Ev_own (Φ := fun t σ₁ => t = .own x ∧ σ₁ = σ) ho ⟨rfl, rfl⟩ hd s T S) fun ov s₁ qq1 => ?_)
  refine qq1.elim fun t σ₁ q₀ o₁ S₁ => ?_
  obtain ⟨ht, hσ⟩ := q₀
  subst ht hσ
  refine wpNo (h s₁ _ S₁) fun iv s₂ qq2 => ?_
  refine qq2.elim fun t σ₂ q₀ o₂ S₂ => ?_
  obtain ⟨ht, ho₂, h0, hk, hl, h₂⟩ := q₀
  obtain ⟨ρ, S₂⟩ := S₂
  subst ht
  obtain ⟨r₁, ⟨a, rfl, hra⟩, hT⟩ := id S₂.temps
  have rv : Rep s₂.heap (FbOf ρ) v d := hT.mem hm
  (first | (obtain ⟨_, rfl⟩ := Rep.ofInt r₁) | (obtain ⟨_, rfl⟩ := Rep.ofStr r₁) | (obtain rfl := Rep.ofBool r₁) | (obtain rfl := Rep.ofNone r₁) | (obtain rfl := Rep.ofFn r₁) | cases r₁)
  obtain ⟨u, hb, a', vs, rfl, hra', ⟨n, hpl⟩, hR⟩ := S₂.vars x _ ho₂
  obtain rfl := S₂.uniq a a' _ (by simp) (by simp) hra hra'
  have hsz : vs.size = l.length := by rw [← hR.length]; simp
  refine setItem_plain ⟨n, hpl⟩ h0 (by omega) hk fun h' hl' hs' => ?_
  have kk : ∀ b o, b ≠ a → s₂.heap.get? b = some o → h'.get? b = some o := fun b o hb e => (hs'.2 b hb).trans e
  refine ⟨_, h₂, (o₁.trans o₂).trans ⟨rfl, rfl, rfl⟩, ?_⟩
  have S₃ := StR.drop (E := [_, _]) S₂ (s' := s₂) fun _ _ e => e
  have S₄ : StR C _ _ { s₂ with heap := h' } T := S₃.ownUpd (s' := { s₂ with heap := h' }) ho₂ (by rw [hra]; rfl) kk hl' (l' := l.set k.toNat d) (by
    rw [fbOf_map]
    have q := (Reps.set k.toNat hR rv)
    have q' : Reps h' (FbOf ρ) (vs.toList.set k.toNat v) (l.set k.toNat d) := Reps.mono (fun b o e nb => kk b o (fun z => nb (by rw [z, FbOf, hra]; simp)) e) (fun _ => .inl) q
    simpa using q')
  exact ⟨_, S₄⟩
end
end Mine
namespace Mine
set_option autoImplicit false
set_option linter.unusedSectionVars false
set_option linter.unusedVariables false
section
variable {W : Wd} {C : Fx W} {A : Around} {σ σ' : LS} {s s' : Shared} {T : List (Value × Tmp)} {ρ ρ' : Addr → Option Role}

/-- the own list that a held reference is -/
theorem StR.ownAt {x : Str} {v : Value} {l : List D} {E : List (Value × Tmp)} (S : StR C ρ σ s (E ++ (v, .own x) :: T)) (ho : σ.lookup x = some (.own l)) :
    ∃ a vs, v = .ref a ∧ ρ a = some (.own x) ∧ s.heap.PlainList a vs ∧ Reps s.heap (FbOf ρ) vs.toList l := by
  obtain ⟨a, rfl, hra⟩ := (TsOk.tail S.temps).1
  obtain ⟨u, hb, a', vs, rfl, hra', hpl, hR⟩ := S.vars x _ ho
  obtain rfl := S.uniq a a' _ (by simp) (by simp) hra hra'
  exact ⟨a, vs, rfl, hra, hpl, hR⟩
theorem StR.ownSet {x : Str} {a : Addr} {l l' : List D} {vs' : Array Value} {E : List (Value × Tmp)} {h' : Heap} {n : Nat} (S : StR C ρ σ s (E ++ T)) (ho : σ.lookup x = some (.own l)) (hra : ρ a = some (.own x)) (hs : Heap.SameBut a s.heap h')
    (hpl : h'.PlainList a vs') (hR : Reps s.heap (FbOf ρ) vs'.toList l') : ∃ ρ', StR C ρ' (upd σ x (.own l')) { s with heap := h', toks := n } T ∧ FbOf ρ' = FbOf ρ := by
  have kk : ∀ b o, b ≠ a → s.heap.get? b = some o → h'.get? b = some o := fun b o hb e => (hs.2 b hb).trans e
  have S₃ := StR.drop S (s' := s) fun _ _ e => e
  refine ⟨_, S₃.ownUpd (s' := { s with heap := h', toks := n }) ho (by rw [hra]; rfl) kk hpl (l' := l') ?_, fbOf_map _ _⟩
  rw [fbOf_map]
  exact Reps.mono (fun b o e nb => kk b o (fun z => nb (by rw [z, FbOf, hra]; simp)) e) (fun _ => .inl) hR

theorem Ev_append {x : Str} {xp apos pos : Pos} {e : Expr} {pl : Sem Bool} {l : List D} {Φ : Tmp → LS → Prop} (ho : σ.lookup x = some (.own l))
    (h : Ev C A e σ fun t σ₁ => ∃ d l₁, t = .val d ∧ σ₁.lookup x = some (.own l₁) ∧ l₁.length ≤ sizeLine ∧ Φ (.val .none) (upd σ₁ x (.own (l₁ ++ [d]))))
    (hd : (x == ("__debug__" : Str)) = false := by decide)
    (hst : starEach [e] C.env = [(false, eval e C.env)] := by rfl)
    (he : eval (.Call (.Attribute (.Name x xp) "append" apos) [e] [] pos) C.env = (do
      let ov ← eval (.Name x xp) C.env
      standAt apos.atName
      let (f, first) ← holding [ov] (getMethod ov "append" pl)
      callWith pos f first (backTo pos (starEach [e] C.env)) []) := by rfl) : Ev C A (.Call (.Attribute (.Name x xp) "append" apos) [e] [] pos) σ Φ := by
  intro s T S
  refine MethodCall_ (wpNo (Ev_own (Φ := fun t σ₁ => t = .own x ∧ σ₁ = σ) ho ⟨rfl, rfl⟩ hd s T S) fun ov s₁ qq1 => ?_) he
  refine qq1.elim fun t σ₁ q₀ o₁ S₁ => ?_
  obtain ⟨ht, hσ⟩ := q₀
  obtain ⟨ρ₁, S₁⟩ := S₁
  subst ht hσ
  obtain ⟨a, vs, rfl, hra, ⟨n, hpl⟩, _⟩ := S₁.ownAt (E := []) ho
  refine getMethod_builtin ⟨_, hpl, rfl⟩ PySem.F.plainAttrs_list PySem.F.slot_list_append PySem.F.type_list_append (fun b e => by cases e; exact ⟨_, hpl, rfl⟩) ?_
  refine callWith_method1 ?_ (by rw [hst]; rfl) rfl
  rw [hst]
  refine Calls.spliced_cons (wpNo (h s₁ _ ⟨ρ₁, S₁⟩) fun v s₂ ⟨t, σ₂, ⟨d, l₁, ht, ho₁, hz, h₂⟩, o₂, ρ₂, S₂⟩ => Calls.spliced_nil ?_)
  subst ht
  have rv : Rep s₂.heap (FbOf ρ₂) v d := S₂.temps.1
  obtain ⟨a', ws, e, hra₂, hpl₂, hR⟩ := S₂.ownAt (E := [_]) ho₁
  cases e
  have hsz : ws.size = l₁.length := by rw [← hR.length]; simp
  refine wpAny_list_append_plain hpl₂ (fun h' hl' hs' => ?_) (by omega)
  obtain ⟨ρ₃, S₃, _⟩ := S₂.ownSet (E := [_, _]) (n := s₂.toks) ho₁ hra₂ hs' hl' (l' := l₁ ++ [d]) (by simpa using hR.append (.cons rv .nil))
  exact ⟨_, _, h₂, (o₁.trans o₂).trans ⟨rfl, rfl, rfl⟩, ρ₃, S₃.push .none⟩

theorem Ev_pop {x : Str} {xp apos pos : Pos} {pl : Sem Bool} {l : List D} {d : D} {Φ : Tmp → LS → Prop} (ho : σ.lookup x = some (.own (l ++ [d]))) (hz : l.length + 1 ≤ sizeLine)
    (h : Φ (.val d) (upd σ x (.own l))) (hd : (x == ("__debug__" : Str)) = false := by decide)
    (he : eval (.Call (.Attribute (.Name x xp) "pop" apos) [] [] pos) C.env = (do
      let ov ← eval (.Name x xp) C.env
      standAt apos.atName
      let (f, first) ← holding [ov] (getMethod ov "pop" pl)
      callWith pos f first (backTo pos (starEach [] C.env)) []) := by rfl) : Ev C A (.Call (.Attribute (.Name x xp) "pop" apos) [] [] pos) σ Φ := by
  intro s T S
  refine MethodCall_ (wpNo (Ev_own (Φ := fun t σ₁ => t = .own x ∧ σ₁ = σ) ho ⟨rfl, rfl⟩ hd s T S) fun ov s₁ qq2 => ?_) he
  refine qq2.elim fun t σ₁ q₀ o₁ S₁ => ?_
  obtain ⟨ht, hσ⟩ := q₀
  obtain ⟨ρ₁, S₁⟩ := S₁
  subst ht hσ
  obtain ⟨a, vs, rfl, hra, ⟨n, hpl⟩, hR⟩ := S₁.ownAt (E := []) ho
  refine getMethod_builtin ⟨_, hpl, rfl⟩ PySem.F.plainAttrs_list PySem.F.slot_list_pop PySem.F.type_list_pop (fun b e => by cases e; exact ⟨_, hpl, rfl⟩) ?_
  refine callWith_method0 ?_
  obtain ⟨us, ws, e, h1, h2⟩ := Reps.app hR
  cases h2 with
  | @cons y _ ys _ ry rn =>
  (first | (obtain ⟨_, rfl⟩ := Rep.ofInt rn) | (obtain ⟨_, rfl⟩ := Rep.ofStr rn) | (obtain rfl := Rep.ofBool rn) | (obtain rfl := Rep.ofNone rn) | (obtain rfl := Rep.ofFn rn) | cases rn)
  obtain rfl : vs = (us ++ [y]).toArray := by rw [← e, Array.toArray_toList]
  have hlen := h1.length
  have hk : (us ++ [y]).toArray.size - 1 = us.length := by rw [List.size_toArray, List.length_append]; rfl
  refine call_meets PySem.F.slot_list_pop ⟨_, hpl, rfl⟩ PySem.F.entry_list_pop (PySem.F.args_list_pop_1 _) (PySem.MeetsSeq.list_pop_last a _ n y (by rw [hk]; simp) (by simp; omega)) ⟨hpl, ?_⟩
  have q : (s₁.heap.update a (Obj.mapSeq fun xs => xs.eraseIdxIfInBounds ((us ++ [y]).toArray.size - 1))).PlainList a us.toArray := by
    have q := PySem.IsL.update hpl (fun xs => xs.eraseIdxIfInBounds ((us ++ [y]).toArray.size - 1))
    refine ⟨n + 1, ?_⟩
    rw [hk] at q ⊢
    rw [kl_erase, List.append_nil, if_neg (by simp)] at q
    exact q
  obtain ⟨ρ₃, S₃, hf⟩ := S₁.ownSet (E := [_]) (n := s₁.toks) ho hra (Heap.SameBut.update ..) q (l' := l) (by simpa using h1)
  refine ⟨_, _, h, o₁.trans ⟨rfl, rfl, rfl⟩, ρ₃, S₃.push ?_⟩
  rw [hf]
  exact Rep.mono (fun b o e nb => (Heap.get?_update_other _ _ (fun z => nb (by rw [← z, FbOf, hra]; simp))).trans e) (fun _ => .inl) ry

/- assignments -/
theorem Ex_Assign {x : Str} {xp pos : Pos} {value : Expr} {Φ : Fl → LS → Prop} (b : Bind C x) (h : Ev C A value σ fun t σ₁ => ∃ d, t = .val d ∧ Φ .next (upd σ₁ x (.val d)))
    (hs : swapsWith value (some (.Name x xp)) pos.line C.env = pure false := by rfl) : Ex C A (.Assign [.Name x xp] value pos) σ Φ :=
  fun s T _ S => wpAny_Assign_Name (wpNo (h s T S) fun v s₁ p22 => p22.elim fun t σ₁ p22i o₁ S₁ => by
    obtain ⟨d, ht, h₁⟩ := p22i
    subst ht
    obtain ⟨ρ, S₁⟩ := S₁
    exact assignVal S₁ (b.at_ S₁) fun s' o S' => ⟨_, h₁, o₁.trans o, S'⟩) hs
/-- the value is a fresh list that only this name has -/
theorem Ex_AssignF {x : Str} {xp pos : Pos} {value : Expr} {Φ : Fl → LS → Prop} (b : Bind C x) (hb : C.bx = none ∨ x ≠ "box") (h : Ev C A value σ fun t σ₁ => ∃ l, t = .fresh l ∧ Φ .next (upd σ₁ x (.own l)))
    (hs : swapsWith value (some (.Name x xp)) pos.line C.env = pure false := by rfl) : Ex C A (.Assign [.Name x xp] value pos) σ Φ :=
  fun s T sf S => wpAny_Assign_Name (wpNo (h s T S) fun v s₁ p23 => p23.elim fun t σ₁ p23i o₁ S₁ => by
    obtain ⟨l, ht, h₁⟩ := p23i
    subst ht
    obtain ⟨ρ, S₁⟩ := S₁
    exact assignFresh S₁ sf hb (b.at_ S₁) fun s' o S' => ⟨_, h₁, o₁.trans o, S'⟩) hs
theorem Ex_AssignSub {x : Str} {xp pos p' : Pos} {i value : Expr} {Φ : Fl → LS → Prop} (h : Ev C A value σ fun t σ₁ => ∃ d, t = .val d ∧ Asg C A (.Subscript (.Name x xp) i p') d σ₁ (Φ .next))
    (hs : swapsWith value (some (.Subscript (.Name x xp) i p')) pos.line C.env = pure false := by rfl) (hw : swappedStores [.Subscript (.Name x xp) i p'] value C.env = pure none := by rfl) : Ex C A (.Assign [.Subscript (.Name x xp) i p'] value pos) σ Φ :=
  fun s T sf S => wpAny_Assign_stores (wpNo (h s T S) fun v s₁ p24 => p24.elim fun t σ₁ p24i o₁ S₁ => by
    obtain ⟨d, ht, h₁⟩ := p24i
    subst ht
    have sf' : Safe ((v, Tmp.val d) :: T) := fun p hp => by
      rcases List.mem_cons.mp hp with rfl | hp
      · intro y e; cases e
      · exact sf p hp
    exact wpNo (h₁ s₁ _ v sf' S₁ (.head _)) fun _ s₂ ⟨σ₂, h₂, o₂, ρ, S₂⟩ => ⟨σ₂, h₂, o₁.trans o₂, _, StR.drop (E := [_]) S₂ fun _ _ e => e⟩) hs hw

theorem Safe.held {vs : List Value} {ds : List D} (sf : Safe T) : Safe (held vs (ds.map Tmp.val) T) := fun p hp x e => by
  rcases List.mem_append.mp hp with h | h
  · have h2 := (List.of_mem_zip (List.mem_reverse.mp h)).2
    obtain ⟨d, _, hd⟩ := List.mem_map.mp h2
    rw [← hd] at e; cases e
  · exact sf p h x e
/-- several targets, their values held -/
noncomputable def AsgAll (C : Fx W) (A : Around) : List (Expr × D) → LS → (LS → Prop) → Prop
  | [], σ, Ψ => Ψ σ
  | (t, d) :: r, σ, Ψ => Asg C A t d σ fun σ₁ => AsgAll C A r σ₁ Ψ
theorem assignInOrder_all : ∀ {ts : List Expr} {ds : List D} {vs : List Value} {σ : LS} {Ψ : LS → Prop} {s : Shared} {T : List (Value × Tmp)}, Safe T → St C σ s T → ts.length = ds.length → vs.length = ds.length → (∀ p ∈ vs.zip ds, (p.1, Tmp.val p.2) ∈ T) →
    AsgAll C A (ts.zip ds) σ Ψ → wpAny W.M A (assignInOrder (ts.map fun t => assign t C.env) vs) (fun _ s' => ∃ σ', Ψ σ' ∧ Only s s' ∧ St C σ' s' T) NoE s := by
  intro ts
  induction ts with
  | nil =>
    intro ds vs σ Ψ s T sf S h1 h2 hm h
    cases ds with
    | nil =>
      cases vs with
      | nil => exact wpAny_pure ⟨σ, h, .refl s, S⟩
      | cons _ _ => cases h2
    | cons _ _ => cases h1
  | cons t ts ih =>
    intro ds vs σ Ψ s T sf S h1 h2 hm h
    cases ds with
    | nil => cases h1
    | cons d ds =>
      cases vs with
      | nil => cases h2
      | cons v vs =>
        show wpAny W.M A (do holding vs (assign t C.env v); assignInOrder (ts.map fun t => assign t C.env) vs) _ NoE s
        refine wpAny_bind (wpAny_holding (wpNo (h s T v sf S (hm (v, d) (.head _))) fun _ s₁ qq3 => ?_))
        refine exx4 qq3 fun σ₁ h₁ o₁ S₁ => ?_
        exact wpNo (ih sf S₁ (by simpa using h1) (by simpa using h2) (fun p hp => hm p (.tail _ hp)) h₁) fun _ s₂ p25 => exx4 p25 fun σ₂ h₂ o₂ S₂ => ⟨σ₂, h₂, o₁.trans o₂, S₂⟩
theorem tuple_split (S : StR C ρ σ s T) {v : Value} {ds : List D} (r : Rep s.heap (FbOf ρ) v (.tup ds)) : ∃ a vs, v = .ref a ∧ s.heap.IsTuple a vs.toArray ∧ vs.length = ds.length ∧ Reps s.heap (FbOf ρ) vs ds := by
  obtain ⟨_, _, rfl, n, ht, q⟩ := Rep.ofTup r
  exact ⟨_, _, rfl, ht, q.length, q⟩
/-- hold the items of what is at hand -/
theorem StR.holdAll {vs : List Value} {ds : List D} {T : List (Value × Tmp)} (S : StR C ρ σ s T) (r : Reps s.heap (FbOf ρ) vs ds) : StR C ρ σ s (held vs (ds.map Tmp.val) T) :=
  r.ind (P := fun vs ds => ∀ T, StR C ρ σ s T → StR C ρ σ s (held vs (ds.map Tmp.val) T)) (fun _ S => S) (fun a _ q T S => by
    rw [List.map_cons, held_cons]
    exact q _ (S.push a)) T S
theorem held_mem {vs : List Value} {ds : List D} : ∀ p ∈ vs.zip ds, (p.1, Tmp.val p.2) ∈ held vs (ds.map Tmp.val) T := fun p hp => by
  refine List.mem_append_left _ (List.mem_reverse.mpr ?_)
  rw [List.zip_map_right]
  exact List.mem_map.mpr ⟨p, hp, rfl⟩
/-- (t1, t2, ..) = a held tuple -/
theorem Asg_tuple {es : List Expr} {k : Nat} {pos : Pos} {ds : List D} {Ψ : LS → Prop} (hh : A.handled = none) (e : assignEach es C.env = es.map fun t => (false, assign t C.env)) (hl : es.length = ds.length) (h : AsgAll C A (es.zip ds) σ Ψ) : Asg C A (.Tuple es k pos) (.tup ds) σ Ψ := by
  intro s T v sf ⟨ρ, S⟩ hm
  obtain ⟨a, vs, rfl, ht, hlen, q⟩ := tuple_split S (S.temps.mem hm)
  refine wpAny_assign_Tuple hh ht (by rw [e]; simp [hl, hlen]) (by rw [e]; simp [List.findIdx?_eq_none_iff]) fun h' hk => ?_
  have kp : Kp s.heap h' := fun b o e => hk b o (Nat.ne_of_lt (Heap.lt_size e)) e
  rw [e, List.map_map]
  have S₁ := StR.drop (E := []) S (s' := { s with heap := h' }) kp
  have S₂ := S₁.holdAll (T := T) (vs := vs) (ds := ds) (by rw [fbOf_map]; exact q.keep kp)
  refine wpNo (assignInOrder_all (T := held vs (ds.map Tmp.val) T) sf.held ⟨_, S₂⟩ hl hlen (held_mem (T := T)) h) fun _ s₂ qq4 => ?_
  refine exx4 qq4 fun σ₂ h₂ o₂ S₃ => ?_
  obtain ⟨ρ₂, S₃⟩ := S₃
  exact ⟨σ₂, h₂, Only.trans ⟨rfl, rfl, rfl⟩ o₂, _, StR.drop S₃ fun _ _ e => e⟩
theorem Safe.cons {v : Value} {d : D} (sf : Safe T) : Safe ((v, Tmp.val d) :: T) := fun p hp => by
  rcases List.mem_cons.mp hp with rfl | hp
  · intro y e; cases e
  · exact sf p hp
theorem Ex_AssignTup {es : List Expr} {k : Nat} {tp pos : Pos} {value : Expr} {Φ : Fl → LS → Prop} (h : Ev C A value σ fun t σ₁ => ∃ d, t = .val d ∧ Asg C A (.Tuple es k tp) d σ₁ (Φ .next))
    (hs : swapsWithSole [.Tuple es k tp] value pos.line C.env = pure false := by rfl) (hw : swappedStores [.Tuple es k tp] value C.env = pure none := by rfl) : Ex C A (.Assign [.Tuple es k tp] value pos) σ Φ :=
  fun s T sf S => Assign_Tuple (wpNo (h s T S) fun v s₁ p26 => p26.elim fun t σ₁ p26i o₁ S₁ => by
    obtain ⟨d, ht, h₁⟩ := p26i
    subst ht
    exact wpNo (h₁ s₁ _ v sf.cons S₁ (.head _)) fun _ s₂ ⟨σ₂, h₂, o₂, ρ, S₂⟩ => ⟨σ₂, h₂, o₁.trans o₂, _, StR.drop (E := [_]) S₂ fun _ _ e => e⟩) hs hw
/-- bindings in order -/
noncomputable def BindAll (C : Fx W) : List (Str × D) → LS → (LS → Prop) → Prop
  | [], σ, Ψ => Ψ σ
  | (x, d) :: r, σ, Ψ => Bind C x ∧ BindAll C r (upd σ x (.val d)) Ψ
theorem bindInOrder_all : ∀ {xs : List Str} {ds : List D} {vs : List Value} {σ : LS} {Ψ : LS → Prop} {s : Shared} {T : List (Value × Tmp)}, St C σ s T → xs.length = ds.length → vs.length = ds.length → (∀ p ∈ vs.zip ds, (p.1, Tmp.val p.2) ∈ T) →
    BindAll C (xs.zip ds) σ Ψ → wpAny W.M A (assignInOrder (xs.map fun n => bindName C.env n) vs) (fun _ s' => ∃ σ', Ψ σ' ∧ Only s s' ∧ St C σ' s' T) NoE s := by
  intro xs
  induction xs with
  | nil =>
    intro ds vs σ Ψ s T S h1 h2 hm h
    cases ds with
    | nil =>
      cases vs with
      | nil => exact wpAny_pure ⟨σ, h, .refl s, S⟩
      | cons _ _ => cases h2
    | cons _ _ => cases h1
  | cons x xs ih =>
    intro ds vs σ Ψ s T S h1 h2 hm h
    cases ds with
    | nil => cases h1
    | cons d ds =>
      cases vs with
      | nil => cases h2
      | cons v vs =>
        show wpAny W.M A (do holding vs (bindName C.env x v); assignInOrder (xs.map fun n => bindName C.env n) vs) _ NoE s
        refine wpAny_bind (wpAny_holding (bindName_ (storeMem h.1 S (hm (v, d) (.head _)) fun s₁ o₁ S₁ => ?_)))
        exact wpNo (ih S₁ (by simpa using h1) (by simpa using h2) (fun p hp => hm p (.tail _ hp)) h.2) fun _ s₂ p27 => exx4 p27 fun σ₂ h₂ o₂ S₂ => ⟨σ₂, h₂, o₁.trans o₂, S₂⟩
theorem Reps.rev {h : Heap} {Fb : Addr → Prop} {vs : List Value} {ds : List D} (r : Reps h Fb vs ds) : Reps h Fb vs.reverse ds.reverse :=
  r.ind (P := fun vs ds => Reps h Fb vs.reverse ds.reverse) .nil fun a _ q => by rw [List.reverse_cons, List.reverse_cons]; exact q.append (.cons a .nil)
/-- x, y = e1, e2 as the compiler turns it: the last is stored first -/
theorem Ex_AssignSw {es : List Expr} {k : Nat} {tp pos : Pos} {value : Expr} {names : List Str} {Φ : Fl → LS → Prop} (hh : A.handled = none)
    (hw : swappedStores [.Tuple es k tp] value C.env = pure (some names))
    (h : Ev C A value σ fun t σ₁ => ∃ ds, t = .val (.tup ds) ∧ names.length = ds.length ∧ BindAll C (names.reverse.zip ds.reverse) σ₁ (Φ .next))
    (hs : swapsWithSole [.Tuple es k tp] value pos.line C.env = pure false := by rfl) : Ex C A (.Assign [.Tuple es k tp] value pos) σ Φ :=
  fun s T sf S => Assign_Tuple_swapped (wpNo (h s T S) fun v s₁ p28 => p28.elim fun t σ₁ p28i o₁ S₁ => by
    obtain ⟨ds, ht, hn, h₁⟩ := p28i
    obtain ⟨ρ, S₁⟩ := S₁
    subst ht
    obtain ⟨a, vs, rfl, ht, hlen, q⟩ := tuple_split S₁ S₁.temps.1
    have hsz : names.length = vs.toArray.size := by simp [hn, hlen]
    rw [hsz]
    refine wpAny_unpackItems_tuple hh ht fun h' hk => ?_
    have kp : Kp s₁.heap h' := fun b o e => hk b o (Nat.ne_of_lt (Heap.lt_size e)) e
    have S₂ := StR.drop (E := [_]) S₁ (s' := { s₁ with heap := h' }) kp
    have S₃ := S₂.holdAll (T := T) (vs := vs.reverse) (ds := ds.reverse) (by rw [fbOf_map]; exact (q.keep kp).rev)
    rw [List.toList_toArray]
    refine wpNo (bindInOrder_all (T := held vs.reverse (ds.reverse.map Tmp.val) T) ⟨_, S₃⟩ (by simp [hn]) (by simp [hlen]) (held_mem (T := T)) h₁) fun _ s₂ qq5 => ?_
    refine exx4 qq5 fun σ₂ h₂ o₂ S₄ => ?_
    obtain ⟨ρ₂, S₄⟩ := S₄
    exact ⟨σ₂, h₂, o₁.trans (Only.trans ⟨rfl, rfl, rfl⟩ o₂), _, StR.drop S₄ fun _ _ e => e⟩) hs hw
end
end Mine
namespace Mine
set_option autoImplicit false
set_option linter.unusedSectionVars false
set_option linter.unusedVariables false

/-- what a loop over d takes -/
inductive Items : D → List D → Prop where
  | list (l : List D) : Items (.list l) l
  | rng (n : Int) : n < 2 ^ 62 → Items (.rng n) ((List.range n.toNat).map fun (i : Nat) => D.int i)
/-- the iterator's object -/
noncomputable def IterObj (v : Value) (d : D) (o : Obj) (i : Nat) : Prop := match d with
  | .list _ => o.cls = .type "list_iterator" ∧ o.data = .fields #[v, .int i 0]
  | .rng n => o = { cls := .type "range_iterator", dict := none, data := .fields #[rawInt i, rawInt (n.toNat - i : Int), rawInt 1], slots := #[] }
  | _ => False

section
variable {W : Wd} {C : Fx W} {A : Around} {σ σ' : LS} {s s' : Shared} {T : List (Value × Tmp)} {ρ ρ' : Addr → Option Role}

theorem small_range {n : Int} (h : n < 2 ^ 62) (h' : -(2 ^ 62) ≤ n) : Builtin.Range.small 0 n 1 = true := by
  have e : Builtin.Range.rangeSize 0 n 1 = if 0 < n then n - 0 else 0 := rangeSize_one 0 n
  unfold Builtin.Range.small
  rw [e]
  simp only [Builtin.Range.rangeFitsLong, Bool.and_eq_true, Bool.or_eq_true, decide_eq_true_eq, beq_iff_eq]
  refine ⟨⟨⟨⟨by decide, by omega, by omega⟩, by decide⟩, ?_⟩, ?_⟩
  · split <;> omega
  · right
    rw [if_pos (by decide)]
    simp only [decide_eq_true_eq, Bool.and_eq_true]
    omega

/-- an iterator is made -/
theorem iterStart {Fb : Addr → Prop} {v : Value} {d : D} {ds : List D} {Q : Value → Shared → Prop} (r : Rep s.heap Fb v d) (hi : Items d ds)
    (hlo : ∀ n, d = .rng n → -(2 ^ 62) ≤ n)
    (hQ : ∀ o, o.isFreed = false → IterObj v d o 0 → Q (.ref s.heap.objs.size) { s with heap := s.heap.push o }) : wpAny W.M A (pyIter v) Q NoE s := by
  cases hi with
  | list l =>
    obtain ⟨_, _, rfl, n, hl, q⟩ := Rep.ofList r
    exact wpAny_pyIter_list hl (hQ _ rfl ⟨rfl, rfl⟩)
  | rng n hn =>
    obtain ⟨_, _, _, _, rfl, nf, hr⟩ := Rep.ofRng r
    refine wpAny_pyIter_range hr (small_range hn (hlo n rfl)) (hQ _ rfl ?_)
    have e : Builtin.Range.rangeSize 0 n 1 = (n.toNat : Int) := by
      rw [rangeSize_one]; split <;> omega
    show _ = _
    rw [e]; simp [rawInt]
theorem iterSelf {I : Addr} {o : Obj} {v : Value} {d : D} {i : Nat} {Q : Value → Shared → Prop} (ho : s.heap.get? I = some o) (hv : ∃ a, v = .ref a) (h : IterObj v d o i) (hq : Q (.ref I) s) : wpAny W.M A (pyIter (.ref I)) Q NoE s := by
  obtain ⟨a, rfl⟩ := hv
  cases d <;> try exact h.elim
  · exact wpAny_pyIter_listiter ⟨o, ho, h⟩ hq
  · rw [show o = _ from h] at ho; exact wpAny_pyIter_rangeiter ho hq
theorem Rep.isRef {h : Heap} {Fb : Addr → Prop} {v : Value} {d : D} {ds : List D} (r : Rep h Fb v d) (hi : Items d ds) : ∃ a, v = .ref a := by
  cases hi with
  | list l => cases r with | list => exact ⟨_, rfl⟩
  | rng n => cases r with | rng => exact ⟨_, rfl⟩

theorem tempAt {I : Addr} {o : Obj} {E : List (Value × Tmp)} (S : StR C ρ σ s (E ++ (.ref I, .obj o) :: T)) : ρ I = some (.temp T.length) ∧ s.heap.get? I = some o := by
  obtain ⟨a, e, h1, h2⟩ := (TsOk.tail S.temps).1
  cases e; exact ⟨h1, h2⟩
/-- the iterator has moved on -/
theorem StR.advance {I : Addr} {o o' : Obj} (S : StR C ρ σ s ((.ref I, .obj o) :: T)) (hk : ∀ b x, b ≠ I → s.heap.get? b = some x → s'.heap.get? b = some x) (ho : s'.heap.get? I = some o') : StR C ρ σ s' ((.ref I, .obj o') :: T) := by
  obtain ⟨hI, hIo⟩ := tempAt (E := []) S
  have off : Off ρ (· = .temp T.length) s.heap s'.heap := fun b x e n => hk b x (fun z => n _ (z ▸ hI) rfl) e
  refine S.mutR (R := (· = .temp T.length)) off (fun a r e hr => ?_) (by simp) (by simp) (by simp) (by simp) rfl ⟨⟨I, rfl, hI, ho⟩, TsOk.stillR off S.temps.2 fun k h z => ?_⟩
  · have : a = I := S.uniq a I r (by subst hr; simp) (by subst hr; simp) e (by subst hr; exact hI)
    exact ⟨o', this ▸ ho⟩
  · cases z; exact Nat.lt_irrefl _ h

/- temporary objects are gone, whatever became of them -/
open Classical in
theorem StR.forgetS {I : Addr → Prop} {E : List (Value × Tmp)} (S : StR C ρ σ s (E ++ T)) (hI : ∀ a, I a → ∃ k, ρ a = some (.temp k) ∧ T.length ≤ k) (hkk : ∀ b x, ¬ I b → s.heap.get? b = some x → s'.heap.get? b = some x) : St C σ s' T := by
  let ρ' : Addr → Option Role := fun b => if I b then none else (ρ b).map (dropF T.length)
  have sI : ∀ {b : Addr}, I b → ρ' b = none := fun h => if_pos h
  have sn : ∀ {b : Addr}, ¬ I b → ρ' b = (ρ b).map (dropF T.length) := fun h => if_neg h
  have ne : ∀ {b : Addr} {r : Role}, ρ b = some r → (∀ k, T.length ≤ k → r ≠ .temp k) → ¬ I b := fun e n q => by
    obtain ⟨k, h1, h2⟩ := hI _ q
    rw [h1] at e; cases e; exact n k h2 rfl
  have hF : ∀ b, FbOf ρ' b → FbOf ρ b := fun b q => by
    by_cases h : I b
    · exact absurd (sI h) q
    · rw [FbOf, sn h] at q; exact fun z => q (by rw [z]; rfl)
  have nI : ∀ {b : Addr}, ¬ FbOf ρ b → ¬ I b := fun n q => n (by obtain ⟨k, h1, _⟩ := hI _ q; rw [FbOf, h1]; simp)
  have rep : ∀ {v : Value} {d : D}, Rep s.heap (FbOf ρ) v d → Rep s'.heap (FbOf ρ') v d := fun q => Rep.mono (fun b o e n => hkk b o (nI n) e) (fun b q => .inl (hF b q)) q
  have reps : ∀ {v : List Value} {d : List D}, Reps s.heap (FbOf ρ) v d → Reps s'.heap (FbOf ρ') v d := fun q => Reps.mono (fun b o e n => hkk b o (nI n) e) (fun b q => .inl (hF b q)) q
  have same : ∀ {b : Addr} {r : Role}, ρ b = some r → dropF T.length r = r → (∀ k, T.length ≤ k → r ≠ .temp k) → ρ' b = some r := fun e d n => by rw [sn (ne e n), e, Option.map_some, d]
  have lt : ∀ {j : Nat}, j < T.length → dropF T.length (.temp j) = .temp j := fun h => if_pos h
  have tok : ∀ {T' : List (Value × Tmp)}, T'.length ≤ T.length → TsOk s.heap ρ T' → TsOk s'.heap ρ' T' := by
    intro T'
    induction T' with
    | nil => intro _ _; trivial
    | cons p r ih =>
      obtain ⟨v, t⟩ := p
      intro hl q
      have hl' : r.length < T.length := hl
      refine ⟨?_, ih (Nat.le_of_lt hl') q.2⟩
      have q1 := q.1
      have nk : ∀ k, T.length ≤ k → Role.temp r.length ≠ .temp k := fun k h => by simp; omega
      cases t with
      | val d => exact rep q1
      | own y => obtain ⟨b, e, hr⟩ := q1; exact ⟨b, e, same hr rfl (fun _ _ => by simp)⟩
      | fresh l => obtain ⟨b, ws, e, hr, hl, hR⟩ := q1; exact ⟨b, ws, e, same hr (lt hl') nk, PlainList.at_ hl fun o e => hkk b o (ne hr nk) e, reps hR⟩
      | obj o => obtain ⟨b, e, hr, hl⟩ := q1; exact ⟨b, e, same hr (lt hl') nk, hkk b o (ne hr nk) hl⟩
      | kept o =>
        obtain ⟨b, e, hr, hl⟩ := q1
        have hb : ¬ I b := fun z => by obtain ⟨k, h1, _⟩ := hI _ z; rw [h1] at hr; cases hr
        exact ⟨b, e, by rw [sn hb, hr]; rfl, hkk b o hb hl⟩
  have back : ∀ {b : Addr} {r : Role}, ρ' b = some r → r ≠ .dead → ρ b = some r := fun {b r} e n => by
    by_cases h : I b
    · rw [sI h] at e; cases e
    · rw [sn h] at e
      obtain ⟨r', e1, e2⟩ := Option.map_eq_some_iff.mp e
      cases r' <;> simp only [dropF] at e2 <;> try (rw [e1, e2])
      split at e2
      · rw [e1, e2]
      · exact absurd e2.symm n
  refine ⟨ρ', fun b n => ?_, fun b o e => ?_, fun b n => ?_, fun b r e n nb => ?_, fun b o e nb => ?_, ?_, same S.frρ rfl (fun _ _ => by simp), fun y c ky hc => ?_, fun b e => same (S.box b e) rfl (fun _ _ => by simp), fun b b' r n n' e e' => S.uniq b b' r n n' (back e n') (back e' n'), fun b j e => ?_, fun y l e => ?_, tok (Nat.le_refl _) (TsOk.tail S.temps)⟩
  · obtain ⟨o, e⟩ := S.alive b (hF b n)
    exact ⟨o, hkk b o (fun z => n (sI z)) e⟩
  · have h0 := S.top b o e
    have hb : ¬ I b := fun z => by obtain ⟨k, h1, _⟩ := hI _ z; rw [h1] at h0; cases h0
    rw [sn hb, h0]; rfl
  · have hb : ¬ I b := fun z => by
      obtain ⟨k, hI, _⟩ := hI b z
      obtain ⟨o, ho⟩ := C.FbE b n
      by_cases hx : C.bx = some b
      · have := S.box b hx; rw [hI] at this; cases this
      · have := S.new b _ hI (by simp) hx; rw [this] at ho; cases ho
    rw [sn hb]; intro z
    exact S.ext b n (by simpa using z)
  · by_cases h : I b
    · rw [sI h] at e; cases e
    · rw [sn h] at e
      obtain ⟨r', e1, e2⟩ := Option.map_eq_some_iff.mp e
      refine S.new b r' e1 (fun z => n ?_) nb
      rw [z] at e2; exact e2.symm
  · refine hkk b o (fun z => ?_) (S.keep b o e nb)
    obtain ⟨k, hI, _⟩ := hI b z
    have := S.new b _ hI (by simp) nb; rw [this] at e; cases e
  · obtain ⟨m, o, es, ep, ho, r⟩ := S.ns
    exact ⟨m, o, es, ep, hkk _ _ (ne S.frρ (fun _ _ => by simp)) ho, r⟩
  · obtain ⟨h1, v, o, ho, hd⟩ := S.cells y c ky hc
    have hcI : ¬ I c := by
      intro z
      obtain ⟨k, hI, _⟩ := hI c z
      rcases h1 with h1 | ⟨_, o', ho', hb⟩
      · rw [hI] at h1; cases h1
      · have := S.new c _ hI (by simp) hb; rw [this] at ho'; cases ho'
    refine ⟨h1.imp (fun z => same z rfl (fun _ _ => by simp)) fun z => ⟨?_, z.2⟩, v, o, hkk _ _ hcI ho, hd⟩
    rw [sn hcI]; intro q; exact z.1 (by simpa using q)
  · have h1 := back e (by simp)
    by_cases hj : j < T.length
    · exact hj
    · exfalso
      by_cases h : I b
      · rw [sI h] at e; cases e
      · rw [sn h, h1, Option.map_some] at e
        simp only [dropF, if_neg hj] at e; cases e
  · obtain ⟨v, hb, hl⟩ := S.vars y l e
    refine ⟨v, ?_, ?_⟩
    · rcases hb with ⟨ky, m, ⟨o, es, ep, ho, r⟩, hm⟩ | ⟨ky, c, hc, o, ho, hd⟩
      · exact .inl ⟨ky, m, ⟨o, es, ep, hkk _ _ (ne S.frρ (fun _ _ => by simp)) ho, r⟩, hm⟩
      · refine .inr ⟨ky, c, hc, o, hkk _ _ ?_ ho, hd⟩
        intro z
        obtain ⟨k, hI, _⟩ := hI c z
        rcases (S.cells y c ky hc).1 with h1 | ⟨_, o', ho', hb⟩
        · rw [hI] at h1; cases h1
        · have := S.new c _ hI (by simp) hb; rw [this] at ho'; cases ho'
    · cases l with
      | val d => exact rep hl
      | own l' => obtain ⟨b, ws, e, hr, hl, hR⟩ := hl; exact ⟨b, ws, e, same hr rfl (fun _ _ => by simp), PlainList.at_ hl fun o e => hkk b o (ne hr (fun _ _ => by simp)) e, reps hR⟩
theorem StR.forget {I : Addr} {k : Nat} {E : List (Value × Tmp)} (S : StR C ρ σ s (E ++ T)) (hI : ρ I = some (.temp k)) (hk : T.length ≤ k) (hkk : ∀ b x, b ≠ I → s.heap.get? b = some x → s'.heap.get? b = some x) : St C σ s' T := 
  S.forgetS (I := fun b => b = I) (fun a e => ⟨k, e ▸ hI, hk⟩) fun b x n => hkk b x n

/-- the next item of a list or a range -/
theorem iterNext {I : Addr} {o : Obj} {v : Value} {d x : D} {ds : List D} {i : Nat} {Q : Option Value → Shared → Prop} (hi : Items d ds) (hx : ds[i]? = some x) (ho : IterObj v d o i) (S : StR C ρ σ s ((.ref I, .obj o) :: (v, .val d) :: T))
    (hQ : ∀ u o' s', Only s s' → IterObj v d o' (i + 1) → StR C ρ σ s' ((.ref I, .obj o') :: (v, .val d) :: T) → Rep s'.heap (FbOf ρ) u x → Q (some u) s') : wpAny W.M A (pyNext (.ref I)) Q NoE s := by
  obtain ⟨hI, hIo⟩ := tempAt (E := []) S
  have r : Rep s.heap (FbOf ρ) v d := S.temps.2.1
  cases hi with
  | list l =>
    obtain ⟨a, vs, rfl, n, hl, q⟩ := Rep.ofList r
    obtain ⟨u, hu, ru⟩ := q.get hx
    refine wpAny_pyNext_list_item ⟨o, hIo, ho⟩ hl (x := u) (by simpa using hu) fun h' hit' hs' => ?_
    obtain ⟨o', ho', hc', hd'⟩ := hit'
    have kk : ∀ b y, b ≠ I → s.heap.get? b = some y → h'.get? b = some y := fun b y hb e => (hs'.2 b hb).trans e
    have S' : StR C ρ σ { s with heap := h' } ((.ref I, .obj o') :: (.ref a, .val (.list ds)) :: T) := S.advance (s' := { s with heap := h' }) kk ho'
    refine hQ u o' _ ⟨rfl, rfl, rfl⟩ ⟨hc', hd'⟩ S' ?_
    exact Rep.mono (fun b y e nb => kk b y (fun z => nb (by rw [z]; show ρ I ≠ none; rw [hI]; simp)) e) (fun _ => .inl) ru
  | rng n hn =>
    have hlt : i < n.toNat := by
      have := (List.getElem?_eq_some_iff.mp hx).1; simpa using this
    have hxe : x = .int i := by
      rw [List.getElem?_map, List.getElem?_range hlt] at hx; simpa using hx.symm
    subst hxe
    rw [show o = _ from ho] at hIo
    refine wpAny_pyNext_range_item hIo (by omega) fun h' hit' hs' => ?_
    have kk : ∀ b y, b ≠ I → s.heap.get? b = some y → h'.get? b = some y := fun b y hb e => (hs'.2 b hb).trans e
    have S' := S.advance (s' := { s with heap := h', toks := s.toks + 1 }) kk hit'
    refine hQ _ _ _ ⟨rfl, rfl, rfl⟩ ?_ S' (.int _ _)
    show _ = _
    have e2 : ((n.toNat : Int) - i - 1) = (n.toNat : Int) - ((i + 1 : Nat) : Int) := by omega
    rw [e2]; rfl
theorem iterEnd {I : Addr} {o : Obj} {v : Value} {d : D} {ds : List D} {i : Nat} {Q : Option Value → Shared → Prop} (hh : A.handled = none) (hi : Items d ds) (hx : ds.length ≤ i) (ho : IterObj v d o i) (S : StR C ρ σ s ((.ref I, .obj o) :: (v, .val d) :: T))
    (hQ : ∀ s', Only s s' → St C σ s' T → Q none s') : wpAny W.M A (pyNext (.ref I)) Q NoE s := by
  obtain ⟨hI, hIo⟩ := tempAt (E := []) S
  have fin : ∀ h' : Heap, Heap.ExtBut I s.heap h' → Q none { s with heap := h' } := fun h' he =>
    hQ { s with heap := h' } ⟨rfl, rfl, rfl⟩ (S.forget (E := [(.ref I, .obj o), (v, .val d)]) (k := T.length + 1) (s' := { s with heap := h' }) hI (Nat.le_succ _) fun b y hb e => he b y hb e)
  have r : Rep s.heap (FbOf ρ) v d := S.temps.2.1
  cases hi with
  | list l =>
    obtain ⟨_, _, rfl, n, hl, q⟩ := Rep.ofList r
    exact wpAny_pyNext_list_end hh ⟨o, hIo, ho⟩ hl (by have := q.length; simp; omega) fin
  | rng n hn =>
    have hlen : n.toNat ≤ i := by simpa using hx
    rw [show o = _ from ho] at hIo
    exact wpAny_pyNext_range_end hh hIo (by omega) fin

/-- for the targets of a loop -/
noncomputable def GoOk (target : Expr) (d : D) (ds : List D) : Prop := (∃ x p, target = .Name x p) ∨ (∃ es k p, target = .Tuple es k p ∧ (∃ l, d = .list l) ∧ ∀ x ∈ ds, ∃ l, x = .tup l)
theorem goOk {target : Expr} {d x : D} {ds : List D} {I : Addr} {o : Obj} {u v : Value} {i j : Nat} {Fb : Addr → Prop} {Q : Unit → Shared → Prop} (hg : GoOk target d ds) (ho : s.heap.get? I = some o) (hv : ∃ a, v = .ref a) (h : IterObj v d o j) (hx : ds[i]? = some x) (r : Rep s.heap Fb u x)
    (hQ : Q () s) : wpAny W.M A (letOwnedTupleGo target (.ref I) u) Q NoE s := by
  rcases hg with ⟨y, p, rfl⟩ | ⟨es, k, p, rfl, ⟨l, rfl⟩, hds⟩
  · exact wpAny_pure hQ
  · obtain ⟨l', rfl⟩ := hds x (List.mem_of_getElem? hx)
    obtain ⟨a, rfl⟩ := hv
    obtain ⟨_, _, rfl, n, ht, q⟩ := Rep.ofTup r
    exact wpAny_letOwnedTupleGo_listiter ⟨o, ho, h⟩ hQ

noncomputable def LoopΦ (Inv : Nat → LS → Prop) (Φ : Fl → LS → Prop) (i : Nat) (fl : Fl) (σ : LS) : Prop := match fl with
  | .next => Inv (i + 1) σ
  | .cont => Inv (i + 1) σ
  | .brk => Φ .next σ
  | .ret d => Φ (.ret d) σ
theorem Safe.obj {I : Addr} {o : Obj} (sf : Safe T) : Safe ((.ref I, Tmp.obj o) :: T) := fun p hp => by
  rcases List.mem_cons.mp hp with rfl | hp
  · intro y e; cases e
  · exact sf p hp
/-- for target in d: body -/
theorem Ex_For {target iter : Expr} {body : List Stmt} {pos : Pos} {Φ : Fl → LS → Prop} (Inv : Nat → LS → Prop) (hh : A.handled = none)
    (h : Ev C A iter σ fun t σ₁ => ∃ d ds, t = .val d ∧ Items d ds ∧ (∀ n, d = .rng n → -(2 ^ 62) ≤ n) ∧ GoOk target d ds ∧ Inv 0 σ₁ ∧ (∀ i x σ₂, ds[i]? = some x → Inv i σ₂ → Asg C A target x σ₂ fun σ₃ => Exs C A body σ₃ (LoopΦ Inv Φ i)) ∧
      ∀ σ₂, Inv ds.length σ₂ → Φ .next σ₂)
    (hs : ∀ x, foldedSetIterable iter C.env x = pure x := by intro _; rfl) : Ex C A (.For target iter body [] pos) σ Φ := by
  intro s T sf S
  refine wpAny_For (wpNo (h s T S) fun v s₁ qq1 => ?_) hs
  refine qq1.elim fun t σ₁ q₀ o₁ S₁ => ?_
  obtain ⟨d, ds, ht, hi, hlo, hg, h0, hturn, hend⟩ := q₀
  obtain ⟨ρ₁, S₁⟩ := S₁
  subst ht
  have rd : Rep s₁.heap (FbOf ρ₁) v d := S₁.temps.1
  have hv := rd.isRef hi
  refine iterStart rd hi hlo fun o hfr hio => ?_
  have S₂ : StR C _ σ₁ { s₁ with heap := s₁.heap.push o } ((.ref s₁.heap.objs.size, .obj o) :: (v, .val d) :: T) :=
    S₁.alloc (s' := { s₁ with heap := s₁.heap.push o }) (kp_push _ _) (Heap.get?_none_of_le (Nat.le_refl _)) ⟨o, Heap.get?_push_size _ hfr⟩ ⟨_, rfl, setR_self _ _ _, Heap.get?_push_size _ hfr⟩
  generalize s₁.heap.objs.size = I at S₂
  refine codeAny_forLoop_any (fun k s' => ∃ i σ₂ o, k = ds.length + 1 - i ∧ i ≤ ds.length ∧ Inv i σ₂ ∧ Only s s' ∧ IterObj v d o i ∧ St C σ₂ s' ((.ref I, .obj o) :: (v, .val d) :: T)) ?_ (ds.length + 1)
    ⟨0, σ₁, o, rfl, Nat.zero_le _, h0, o₁.trans ⟨rfl, rfl, rfl⟩, hio, _, S₂⟩
  rintro k s' ⟨i, σ₂, o, rfl, hle, hI, o₂, hio, ρ₂, S₂⟩
  by_cases hlt : i < ds.length
  · have hx := List.getElem?_eq_getElem hlt
    refine wpAny_mono (iterNext (Q := fun r s₃ => ∃ u o', r = some u ∧ Only s' s₃ ∧ IterObj v d o' (i + 1) ∧ StR C ρ₂ σ₂ s₃ ((.ref I, .obj o') :: (v, .val d) :: T) ∧ Rep s₃.heap (FbOf ρ₂) u ds[i]) hi hx hio S₂ fun u o' s₃ a b c e => ⟨u, o', rfl, a, b, c, e⟩)
      (fun r s₃ ⟨u, o', hr, o₃, hio', S₃, ru⟩ => ?_) fun _ _ e => e.elim
    subst hr
    have ho' := (tempAt (E := []) S₃).2
    refine wpAny_mono (goOk (W := W) (A := A) hg ho' hv hio' hx ru (Q := fun _ s₄ => s₄ = s₃) rfl) (fun _ s₄ e => ?_) fun _ _ e => e.elim
    subst e
    have S₄ := S₃.push ru
    refine wpAny_mono (hturn i _ σ₂ hx hI s₄ ((u, .val _) :: (.ref I, .obj o') :: (v, .val d) :: T) u sf.cons.obj.cons ⟨ρ₂, S₄⟩ (.head _)) (fun _ s₅ qq2 => ?_) fun _ _ e => e.elim
    refine exx4 qq2 fun σ₅ h₅ o₅ S₅ => ?_
    obtain ⟨ρ₅, S₅⟩ := S₅
    have S₅' := StR.drop (E := [_]) S₅ (s' := s₅) fun _ _ e => e
    refine wpAny_mono (h₅ s₅ _ sf.cons.obj ⟨_, S₅'⟩) (fun f s₆ q => ?_) fun _ _ e => e.elim
    have oo : Only s s₅ := (o₂.trans o₃).trans o₅
    cases f with
    | next => obtain ⟨σ₆, h₆, o₆, S₆⟩ := q; exact ⟨_, by omega, i + 1, σ₆, o', rfl, hlt, h₆, oo.trans o₆, hio', S₆⟩
    | cont => obtain ⟨σ₆, h₆, o₆, S₆⟩ := q; exact ⟨_, by omega, i + 1, σ₆, o', rfl, hlt, h₆, oo.trans o₆, hio', S₆⟩
    | brk => obtain ⟨σ₆, h₆, o₆, ρ₆, S₆⟩ := q; exact ⟨σ₆, h₆, oo.trans o₆, _, StR.drop (E := [_, _]) S₆ fun _ _ e => e⟩
    | ret w => obtain ⟨dd, σ₆, h₆, o₆, ρ₆, S₆⟩ := q; exact ⟨dd, σ₆, h₆, oo.trans o₆, S₆.step (E := [_, _, _]) (fun _ _ e => e) S₆.temps.1⟩
  · have : i = ds.length := by omega
    subst this
    refine wpAny_mono (iterEnd (Q := fun r s₃ => r = none ∧ Only s' s₃ ∧ St C σ₂ s₃ T) hh hi (Nat.le_refl _) hio S₂ fun s₃ o₃ S₃ => ⟨rfl, o₃, S₃⟩) (fun r s₃ qq3 => ?_) fun _ _ e => e.elim
    obtain ⟨hr, o₃, S₃⟩ := qq3
    subst hr
    exact wpAny_execs_nil ⟨σ₂, hend σ₂ hI, o₂.trans o₃, S₃⟩
/-- while test: body -/
theorem Ex_While {test : Expr} {body : List Stmt} {pos : Pos} {Φ : Fl → LS → Prop} (Inv : Nat → LS → Prop) (n : Nat) (h0 : Inv n σ)
    (h : ∀ k σ₁, Inv k σ₁ → EvB C A test σ₁ fun b σ₂ => if b then Exs C A body σ₂ fun fl σ₃ => match fl with
      | .next => ∃ j, j < k ∧ Inv j σ₃
      | .cont => ∃ j, j < k ∧ Inv j σ₃
      | .brk => Φ .next σ₃
      | .ret d => Φ (.ret d) σ₃ else Φ .next σ₂) : Ex C A (.While test body [] pos) σ Φ := by
  intro s T sf S
  refine wpAny_While (codeAny_whileLoop (fun k s' => ∃ σ₁, Inv k σ₁ ∧ Only s s' ∧ St C σ₁ s' T) ?_ n ⟨σ, h0, .refl s, S⟩)
  rintro k s₁ ⟨σ₁, hI, o₁, S₁⟩
  refine wpAny_mono (h k σ₁ hI s₁ T S₁) (fun b s₂ qq4 => ?_) fun _ _ e => e.elim
  refine exx4 qq4 fun σ₂ h₂ o₂ S₂ => ?_
  cases b with
  | false => exact wpAny_execs_nil ⟨σ₂, h₂, o₁.trans o₂, S₂⟩
  | true =>
    refine wpAny_mono (h₂ s₂ T sf S₂) (fun f s₃ q => ?_) fun _ _ e => e.elim
    cases f with
    | next => obtain ⟨σ₃, ⟨j, hj, h₃⟩, o₃, S₃⟩ := q; exact ⟨j, hj, σ₃, h₃, (o₁.trans o₂).trans o₃, S₃⟩
    | cont => obtain ⟨σ₃, ⟨j, hj, h₃⟩, o₃, S₃⟩ := q; exact ⟨j, hj, σ₃, h₃, (o₁.trans o₂).trans o₃, S₃⟩
    | brk => obtain ⟨σ₃, h₃, o₃, S₃⟩ := q; exact ⟨σ₃, h₃, (o₁.trans o₂).trans o₃, S₃⟩
    | ret w => obtain ⟨d, σ₃, h₃, o₃, S₃⟩ := q; exact ⟨d, σ₃, h₃, (o₁.trans o₂).trans o₃, S₃⟩
end
end Mine
namespace Mine
set_option autoImplicit false
set_option linter.unusedSectionVars false
set_option linter.unusedVariables false
section
variable {W : Wd} {C : Fx W} {A : Around} {σ σ' : LS} {s s' : Shared} {T : List (Value × Tmp)} {ρ ρ' : Addr → Option Role}

/-- a fresh list on top is data from here on -/
theorem StR.thaw {v : Value} {l : List D} (S : StR C ρ σ s ((v, .fresh l) :: T)) : St C σ s ((v, .val (.list l)) :: T) := by
  obtain ⟨⟨a, vs, rfl, hra, ⟨n, hpl⟩, hR⟩, hTs⟩ := S.temps
  let ρ' : Addr → Option Role := fun b => if b = a then none else ρ b
  have sa : ρ' a = none := if_pos rfl
  have sn : ∀ {b : Addr}, b ≠ a → ρ' b = ρ b := fun h => if_neg h
  have ne : ∀ {b : Addr} {r : Role}, ρ b = some r → r ≠ .temp T.length → b ≠ a := fun e n q => by rw [q, hra] at e; cases e; exact n rfl
  have hF : ∀ b, FbOf ρ' b → FbOf ρ b := fun b q => by
    by_cases h : b = a
    · exact absurd (h ▸ sa) q
    · rwa [FbOf, sn h] at q
  have rep : ∀ {v : Value} {d : D}, Rep s.heap (FbOf ρ) v d → Rep s.heap (FbOf ρ') v d := fun q => Rep.mono (fun b o e _ => e) (fun b q => .inl (hF b q)) q
  have reps : ∀ {v : List Value} {d : List D}, Reps s.heap (FbOf ρ) v d → Reps s.heap (FbOf ρ') v d := fun q => Reps.mono (fun b o e _ => e) (fun b q => .inl (hF b q)) q
  have tok : ∀ {T' : List (Value × Tmp)}, T'.length ≤ T.length → TsOk s.heap ρ T' → TsOk s.heap ρ' T' := by
    intro T'
    induction T' with
    | nil => intro _ _; trivial
    | cons p r ih =>
      obtain ⟨v, t⟩ := p
      intro hl q
      have hl' : r.length < T.length := hl
      have nk : Role.temp r.length ≠ .temp T.length := by simp; omega
      refine ⟨?_, ih (Nat.le_of_lt hl') q.2⟩
      have q1 := q.1
      cases t with
      | val d => exact rep q1
      | own y => obtain ⟨b, e, hr⟩ := q1; exact ⟨b, e, by rw [sn (ne hr (by simp))]; exact hr⟩
      | fresh l => obtain ⟨b, ws, e, hr, hl, hR⟩ := q1; exact ⟨b, ws, e, by rw [sn (ne hr nk)]; exact hr, hl, reps hR⟩
      | obj o => obtain ⟨b, e, hr, hl⟩ := q1; exact ⟨b, e, by rw [sn (ne hr nk)]; exact hr, hl⟩
      | kept o => obtain ⟨b, e, hr, hl⟩ := q1; exact ⟨b, e, by rw [sn (fun z => by rw [z, hra] at hr; cases hr)]; exact hr, hl⟩
  refine ⟨ρ', fun b n => S.alive b (hF b n), fun b o e => ?_, fun b n => ?_, fun b r e n nb => ?_, S.keep, S.ns, by rw [sn (ne S.frρ (by simp))]; exact S.frρ, fun y c k hc => ?_, fun b e => by rw [sn (ne (S.box b e) (by simp))]; exact S.box b e, fun b b' r n n' e e' => ?_, fun b k e => ?_, fun y l' e => ?_, ⟨?_, tok (Nat.le_refl _) hTs⟩⟩
  · by_cases h : b = a
    · rw [h]; exact sa
    · rw [sn h]; exact S.top b o e
  · have hb : b ≠ a := fun z => by
      subst z
      obtain ⟨o, ho⟩ := C.FbE b n
      by_cases hx : C.bx = some b
      · have := S.box b hx; rw [hra] at this; cases this
      · have := S.new b _ hra (by simp) hx; rw [this] at ho; cases ho
    rw [sn hb]; exact S.ext b n
  · by_cases h : b = a
    · rw [h, sa] at e; cases e
    · rw [sn h] at e; exact S.new b r e n nb
  · obtain ⟨h1, h2⟩ := S.cells y c k hc
    have hca : c ≠ a := by
      rintro rfl
      obtain ⟨v, o, hoc, hd⟩ := h2
      rw [hoc] at hpl; cases hpl; cases hd
    refine ⟨?_, h2⟩
    rw [sn hca]; exact h1
  · by_cases h : b = a
    · rw [h, sa] at e; cases e
    · by_cases h' : b' = a
      · rw [h', sa] at e'; cases e'
      · rw [sn h] at e; rw [sn h'] at e'; exact S.uniq b b' r n n' e e'
  · by_cases h : b = a
    · rw [h, sa] at e; cases e
    · rw [sn h] at e; exact S.tlt b k e
  · obtain ⟨v, hb, hl⟩ := S.vars y l' e
    refine ⟨v, hb, ?_⟩
    cases l' with
    | val d => exact rep hl
    | own l'' => obtain ⟨b, ws, e, hr, hl, hR⟩ := hl; exact ⟨b, ws, e, by rw [sn (ne hr (by simp))]; exact hr, hl, reps hR⟩
  · exact Rep.list (vs := vs.toList) (fun q => q sa) ⟨_, hpl, rfl, n, rfl⟩ (reps hR)
theorem Ev.thaw {e : Expr} {Φ : Tmp → LS → Prop} (h : Ev C A e σ fun t σ₁ => ∃ l, t = .fresh l ∧ Φ (.val (.list l)) σ₁) : Ev C A e σ Φ :=
  fun s T S => wpNo (h s T S) fun v s₁ p5 => p5.elim fun t σ₁ p5i o₁ S₁ => by obtain ⟨l, ht, h₁⟩ := p5i; obtain ⟨ρ₁, S₁⟩ := S₁; subst ht; exact ⟨_, σ₁, h₁, o₁, S₁.thaw⟩

/- comprehensions -/
noncomputable def fxComp (C : Fx W) (scope : Scope) (cl : List (Str × Addr)) (hk : scope.kind = .function) (L : Addr) (bx : Option Addr) (hE : Heap) (Fb : Addr → Prop) (hb : W.hB.StaysIn hE) (hx : ∀ a, bx = some a → W.hB.get? a = .none) (hF : ∀ a, Fb a → ∃ o, hE.get? a = some o) : Fx W :=
  { env := compEnvC scope cl L C.env, hE := hE, bx := bx, Fb := Fb, kind := hk, glob := C.glob, blt := C.blt, base := hb, bxB := hx, FbE := hF }
/-- what a comprehension sees of the frame around it -/
noncomputable def CapOk (C : Fx W) (scope : Scope) (cl : List (Str × Addr)) (bx : Option Addr) (σ : LS) : LS → Prop
  | [] => True
  | (x, l) :: r => σ.lookup x = some l ∧ ((∃ d, l = .val d) ∨ (x = "box" ∧ bx ≠ none)) ∧ C.env.kindOf x = some .cell ∧ (relabel scope C.env).names.lookup x = some .cell ∧ cl.lookup x = C.env.cells.lookup x ∧ CapOk C scope cl bx σ r
theorem CapOk.look {scope : Scope} {cl : List (Str × Addr)} {bx : Option Addr} : ∀ {τ : LS}, CapOk C scope cl bx σ τ → ∀ x l, τ.lookup x = some l → σ.lookup x = some l ∧ ((∃ d, l = .val d) ∨ (x = "box" ∧ bx ≠ none)) ∧ C.env.kindOf x = some .cell ∧ (relabel scope C.env).names.lookup x = some .cell ∧ cl.lookup x = C.env.cells.lookup x
  | (y, m) :: r, h, x, l, e => by
    rw [List.lookup_cons] at e
    cases hb : x == y with
    | true => rw [hb] at e; cases e; rw [beq_iff_eq.mp hb]; exact ⟨h.1, h.2.1, h.2.2.1, h.2.2.2.1, h.2.2.2.2.1⟩
    | false => rw [hb] at e; exact CapOk.look h.2.2.2.2.2 x l e
noncomputable def EvIfs (C : Fx W) (A : Around) (ifs : List Expr) (σ : LS) (Ψ : Bool → LS → Prop) : Prop := match ifs with
  | [] => Ψ true σ
  | [c] => EvB C A c σ Ψ
  | _ => False

open Classical in
noncomputable def enterF (ρ : Addr → Option Role) (L : Addr) (B : Addr → Prop) (bx : Option Addr) : Addr → Option Role := fun a => if a = L then some .frame else if B a then some .dead else if bx = some a then some (.own "box") else if FbOf ρ a then some .ext else none
theorem StR.enter {τ : LS} {scope : Scope} {cl : List (Str × Addr)} {hk : scope.kind = .function} {L : Addr} {B : Addr → Prop} {bx : Option Addr} {hb : W.hB.StaysIn s.heap} {hx} {hF : ∀ a, FbOf ρ a → ∃ o, s.heap.get? a = some o} {m : Str → Option Value} (S : StR C ρ σ s T) (kp : Kp s.heap s'.heap)
    (hbx : ∀ a, bx = some a → ρ a = some (.own "box")) (hL : s.heap.get? L = none) (hn : s'.heap.Ns L m) (hB : ∀ a, B a → s.heap.get? a = none ∧ (∃ o, s'.heap.get? a = some o) ∧ a ≠ L) (hcl : ∀ p ∈ cl, C.env.kindOf p.1 = some .cell ∧ C.env.cells.lookup p.1 = some p.2) (hc : CapOk C scope cl bx σ τ) :
    StR (fxComp C scope cl hk L bx s.heap (FbOf ρ) hb hx hF) (enterF ρ L B bx) τ s' [] := by
  have nL : ∀ {a : Addr}, FbOf ρ a → a ≠ L := fun n z => by obtain ⟨o, e⟩ := S.alive _ n; rw [z, hL] at e; cases e
  have nB : ∀ {a : Addr}, FbOf ρ a → ¬ B a := fun n z => by obtain ⟨o, e⟩ := S.alive _ n; rw [(hB _ z).1] at e; cases e
  have fbx : ∀ {a : Addr}, bx = some a → FbOf ρ a := fun e => by rw [FbOf, hbx _ e]; simp
  have eL : enterF ρ L B bx L = some .frame := if_pos rfl
  have eX : ∀ {a : Addr}, bx = some a → enterF ρ L B bx a = some (.own "box") := fun e => by unfold enterF; rw [if_neg (nL (fbx e)), if_neg (nB (fbx e)), if_pos e]
  have eE : ∀ {a : Addr}, FbOf ρ a → bx ≠ some a → enterF ρ L B bx a = some .ext := fun n e => by unfold enterF; rw [if_neg (nL n), if_neg (nB n), if_neg e, if_pos n]
  have eN : ∀ {a : Addr}, FbOf ρ a → enterF ρ L B bx a ≠ none := fun {a} n => by
    by_cases e : bx = some a
    · rw [eX e]; simp
    · rw [eE n e]; simp
  have cases4 : ∀ {a : Addr} {r : Role}, enterF ρ L B bx a = some r → (a = L ∧ r = .frame) ∨ (B a ∧ r = .dead) ∨ (bx = some a ∧ r = .own "box") ∨ (FbOf ρ a ∧ r = .ext) := fun {a r} e => by
    unfold enterF at e
    split at e
    · cases e; exact .inl ⟨‹_›, rfl⟩
    · split at e
      · cases e; exact .inr (.inl ⟨‹_›, rfl⟩)
      · split at e
        · cases e; exact .inr (.inr (.inl ⟨‹_›, rfl⟩))
        · split at e
          · cases e; exact .inr (.inr (.inr ⟨‹_›, rfl⟩))
          · cases e
  have hsome : ∀ {a : Addr}, enterF ρ L B bx a ≠ none → ∃ r, enterF ρ L B bx a = some r := fun n => Option.ne_none_iff_exists'.mp n
  have back : ∀ {a : Addr}, FbOf (enterF ρ L B bx) a → FbOf ρ a ∨ s.heap.get? a = none := fun {a} n => by
    obtain ⟨r, e⟩ := hsome n
    rcases cases4 e with ⟨rfl, _⟩ | ⟨h, _⟩ | ⟨h, _⟩ | ⟨h, _⟩
    · exact .inr hL
    · exact .inr (hB a h).1
    · exact .inl (fbx h)
    · exact .inl h
  refine ⟨fun a n => ?_, fun a o e => ?_, fun a n => eN n, fun a r e n nb => ?_, fun b o e _ => kp b o e, ⟨m, hn⟩, eL, fun x c kx hcx => ?_, fun a e => eX e, fun a b r n n' e e' => ?_, fun a k e => ?_, fun x l e => ?_, trivial⟩
  · obtain ⟨r, e⟩ := hsome n
    rcases cases4 e with ⟨rfl, _⟩ | ⟨h, _⟩ | ⟨h, _⟩ | ⟨h, _⟩
    · obtain ⟨o, _, _, ho, _⟩ := hn; exact ⟨o, ho⟩
    · exact (hB a h).2.1
    · obtain ⟨o, e⟩ := S.alive a (fbx h); exact ⟨o, kp _ _ e⟩
    · obtain ⟨o, e⟩ := S.alive a h; exact ⟨o, kp _ _ e⟩
  · cases h : enterF ρ L B bx a with
    | none => rfl
    | some r =>
      have e0 := S.baseKeep a o e
      rcases cases4 h with ⟨rfl, _⟩ | ⟨h, _⟩ | ⟨h, _⟩ | ⟨h, _⟩
      · rw [hL] at e0; cases e0
      · rw [(hB a h).1] at e0; cases e0
      · exact absurd (S.top a o e) (fbx h)
      · exact absurd (S.top a o e) h
  · rcases cases4 e with ⟨rfl, _⟩ | ⟨h, _⟩ | ⟨h, hr⟩ | ⟨h, hr⟩
    · exact hL
    · exact (hB a h).1
    · exact absurd h nb
    · exact absurd hr n
  · have hm := hcl _ (mem_of_lookup hcx)
    obtain ⟨h1, v, o, ho, hd⟩ := S.cells x c hm.1 hm.2
    have hn : FbOf ρ c := by
      rcases h1 with h1 | h1
      · rw [FbOf, h1]; simp
      · exact h1.1
    have hcb : bx ≠ some c := fun q => by
      have q' := hbx c q
      rcases h1 with h1 | ⟨_, o', h1, h2⟩
      · rw [h1] at q'; cases q'
      · have := S.new c _ q' (by simp) h2; rw [this] at h1; cases h1
    exact ⟨.inr ⟨eN hn, o, ho, hcb⟩, v, o, kp _ _ ho, hd⟩
  · rcases cases4 e with ⟨h, hr⟩ | ⟨h, hr⟩ | ⟨h, hr⟩ | ⟨h, hr⟩
    · rcases cases4 e' with ⟨h', hr'⟩ | ⟨h', hr'⟩ | ⟨h', hr'⟩ | ⟨h', hr'⟩
      · rw [h, h']
      · exact absurd hr' n'
      · rw [hr] at hr'; cases hr'
      · exact absurd hr' n
    · exact absurd hr n'
    · rcases cases4 e' with ⟨h', hr'⟩ | ⟨h', hr'⟩ | ⟨h', hr'⟩ | ⟨h', hr'⟩
      · rw [hr] at hr'; cases hr'
      · exact absurd hr' n'
      · rw [h] at h'; cases h'; rfl
      · exact absurd hr' n
    · exact absurd hr n
  · rcases cases4 e with ⟨h, hr⟩ | ⟨h, hr⟩ | ⟨h, hr⟩ | ⟨h, hr⟩ <;> cases hr
  · obtain ⟨hd, hv, k1, k2, k3⟩ := hc.look x l e
    obtain ⟨v, hbd, hl⟩ := S.vars x _ hd
    have hbd' : Bound s'.heap (compEnvC scope cl L C.env) x v := by
      rcases hbd with ⟨k, _⟩ | ⟨_, c, hcc, o, ho, hdd⟩
      · rw [k1] at k; cases k
      · exact .inr ⟨k2, c, k3.trans hcc, o, kp _ _ ho, hdd⟩
    refine ⟨v, hbd', ?_⟩
    cases l with
    | val d => exact Rep.mono (fun b o e _ => kp b o e) (fun b q => back q) hl
    | own l =>
      rcases hv with ⟨d, hv⟩ | ⟨rfl, hv⟩
      · cases hv
      · obtain ⟨a, vs, rfl, hra, hpl, hR⟩ := hl
        obtain ⟨a', ha'⟩ := Option.ne_none_iff_exists'.mp hv
        have := S.uniq a a' _ (by simp) (by simp) hra (hbx a' ha')
        subst this
        exact ⟨a, vs, rfl, eX ha', PlainList.at_ hpl (kp _), Reps.mono (fun b o e _ => kp b o e) (fun b q => back q) hR⟩
end
end Mine
namespace Mine
set_option autoImplicit false
set_option linter.unusedSectionVars false
set_option linter.unusedVariables false

theorem compLoop_go {prog : Program} {w : World} {A : Around} {R : Result → Shared → Prop} {s : Shared} {elt target iter : Expr} {ifs : List Expr} {scope : Scope} {pos : Pos} {it acc : Value} {env : Env} (I : Nat → Shared → Prop)
    (turn : ∀ n s, I n s → wpAny (model prog w) A (pyNext it) (fun r s₁ => match r with
      | none => R (.ok .next) s₁
      | some v => wpAny (model prog w) A (letOwnedTupleGo target it v) (fun _ s₁ => wpAny (model prog w) A (assign target env v) (fun _ s₂ =>
          wpAny (model prog w) A (forIn ifs true fun c r => if r = true then do let ok ← isTrue c env (eval c env); pure (ForInStep.yield ok) else pure (ForInStep.yield r)) (fun ok s₃ =>
            if ok = true then wpAny (model prog w) A (eval elt env) (fun x s₄ =>
              wpAny (model prog w) A (call (.builtin "list.append") [acc, x]) (fun _ s₅ => ∃ m, m < n ∧ I m s₅) (notedBy (model prog w) A env fun e s' => R (.error e) s') s₄) (notedBy (model prog w) A env fun e s' => R (.error e) s') s₃
            else ∃ m, m < n ∧ I m s₃) (notedBy (model prog w) A env fun e s' => R (.error e) s') s₂) (notedBy (model prog w) A env fun e s' => R (.error e) s') s₁) (notedBy (model prog w) A env fun e s' => R (.error e) s') s₁) (notedBy (model prog w) A env fun e s' => R (.error e) s') s)
    (n : Nat) (h : I n s) : codeAny (model prog w) A (.compLoop (.ListComp elt [⟨target, iter, ifs, 0⟩] scope pos) 0 it acc env) R s := by
  refine codeAny_loop rfl I (fun n s hI => ?_) n h
  show wpAny _ A ((compTurn (.ListComp elt [⟨target, iter, ifs, 0⟩] scope pos) 0 it acc env).onRaise (fun x => do noteFrame x env; theTreesLotGoes x)) _ _ s
  refine wpAny_noted ?_
  rw [compTurn_list]
  refine wpAny_bind (wpAny_standAt (wpAny_bind (wpAny_mono (turn n s hI) (fun r s₁ h₁ => ?_) fun _ _ h' => h')))
  cases r with
  | none => exact wpAny_pure h₁
  | some v =>
    refine wpAny_bind (wpAny_mono h₁ (fun _ s₂ h₂ => ?_) fun _ _ h' => h')
    refine wpAny_bind (wpAny_mono h₂ (fun _ s₂ h₂ => wpAny_bind (wpAny_mono h₂ (fun ok s₃ h₃ => ?_) fun _ _ h' => h')) fun _ _ h' => h')
    cases ok with
    | false => exact wpAny_pure ⟨rfl, h₃⟩
    | true =>
      exact wpAny_bind (wpAny_bind (wpAny_mono h₃ (fun x s₄ h₄ => wpAny_bind (wpAny_mono h₄ (fun _ s₅ h₅ => wpAny_pure (wpAny_pure ⟨rfl, h₅⟩)) fun _ _ h' => h')) fun _ _ h' => h'))

section
variable {W : Wd} {C : Fx W} {A : Around} {σ σ' : LS} {s s' : Shared} {T : List (Value × Tmp)} {ρ ρ' : Addr → Option Role}

theorem EvIfs.run {ifs : List Expr} {Ψ : Bool → LS → Prop} (h : EvIfs C A ifs σ Ψ) (S : St C σ s T) :
    wpAny W.M A (forIn ifs true fun c r => if r = true then do let ok ← isTrue c C.env (eval c C.env); pure (ForInStep.yield ok) else pure (ForInStep.yield r)) (EvBPost C s T Ψ) NoE s := by
  cases ifs with
  | nil => exact wpAny_tests_nil ⟨σ, h, .refl s, S⟩
  | cons c r =>
    cases r with
    | nil => exact wpAny_tests_one (h s T S)
    | cons _ _ => exact False.elim h
theorem EvIfs.mono {ifs : List Expr} {Ψ Ψ' : Bool → LS → Prop} (h : EvIfs C A ifs σ Ψ) (hm : ∀ b σ', Ψ b σ' → Ψ' b σ') : EvIfs C A ifs σ Ψ' := by
  cases ifs with
  | nil => exact hm _ _ h
  | cons c r =>
    cases r with
    | nil => exact EvB.mono h hm
    | cons _ _ => exact False.elim h

/-- a held fresh list has grown -/
theorem StR.freshAppend {E : List (Value × Tmp)} {D₀ : Addr} {acc : List D} {x : Value} {d : D} {A' : Around} {Q : Value → Shared → Prop} (S : StR C ρ σ s (E ++ (.ref D₀, .fresh acc) :: T)) (r : Rep s.heap (FbOf ρ) x d) (hz : acc.length ≤ sizeLine)
    (hQ : ∀ s', Only s s' → StR C ρ σ s' (E ++ (.ref D₀, .fresh (acc ++ [d])) :: T) → Q .none s') : wpAny W.M A' (call (.builtin "list.append") [.ref D₀, x]) Q NoE s := by
  obtain ⟨⟨a, vs, e, hra, hpl, hR⟩, hTs⟩ := TsOk.tail S.temps
  cases e
  have hsz : vs.size = acc.length := by rw [← hR.length]; simp
  refine wpAny_list_append_plain hpl (fun h' hl' hs' => ?_) (by omega)
  have kk : ∀ b o, b ≠ D₀ → s.heap.get? b = some o → h'.get? b = some o := fun b o hb e => (hs'.2 b hb).trans e
  have off : Off ρ (· = .temp T.length) s.heap h' := fun b o e n => kk b o (fun z => n _ (z ▸ hra) rfl) e
  refine hQ { s with heap := h' } ⟨rfl, rfl, rfl⟩ ?_
  have hR' : Reps h' (FbOf ρ) (vs.push x).toList (acc ++ [d]) := by
    have q := (hR.append (.cons r .nil))
    simpa using q.stillR off
  have hT0 : TsOk h' ρ T := TsOk.stillR off hTs fun k h z => by cases z; exact Nat.lt_irrefl _ h
  refine S.mutR (s' := { s with heap := h' }) (R := (· = .temp T.length)) off (fun b r e hr => ?_) (by simp) (by simp) (by simp) (by simp) (by simp) ?_
  · have : b = D₀ := S.uniq b D₀ r (by subst hr; simp) (by subst hr; simp) e (by subst hr; exact hra)
    obtain ⟨n, q⟩ := hl'
    exact ⟨_, this ▸ q⟩
  · have hS := S.temps
    clear hQ S hTs
    show TsOk h' ρ _
    induction E with
    | nil => exact ⟨⟨D₀, _, rfl, hra, hl', hR'⟩, hT0⟩
    | cons p E ih =>
      obtain ⟨v, t⟩ := p
      refine ⟨?_, ih hS.2⟩
      have q1 := hS.1
      have q2 := TmpOk.stillR q1 off (by simp; omega)
      simpa using q2

/-- the turns of a comprehension -/
noncomputable def Turns (C : Fx W) (A : Around) (elt target : Expr) (ifs : List Expr) (ds : List D) (Inv : Nat → List D → LS → Prop) : Prop :=
  ∀ i x acc σ₂, ds[i]? = some x → Inv i acc σ₂ → Asg C A target x σ₂ fun σ₃ => EvIfs C A ifs σ₃ fun b σ₄ => if b then Ev C A elt σ₄ (fun t σ₅ => ∃ d, t = .val d ∧ Inv (i + 1) (acc ++ [d]) σ₅) else Inv (i + 1) acc σ₄

theorem compLoopA {elt target iter : Expr} {ifs : List Expr} {scope : Scope} {pos : Pos} {I D₀ : Addr} {v : Value} {d : D} {ds : List D} {o : Obj} {R : Result → Shared → Prop} (Inv : Nat → List D → LS → Prop) (hh : A.handled = none) (hi : Items d ds) (hg : GoOk target d ds) (hz : ds.length ≤ sizeLine)
    (hturn : Turns C A elt target ifs ds Inv) (h0 : Inv 0 [] σ) (hv : ∃ a, v = .ref a) (hio : IterObj v d o 0) (S : StR C ρ σ s [(.ref I, .obj o), (v, .val d), (.ref D₀, .fresh [])])
    (hR : ∀ acc σ' s', Inv ds.length acc σ' → Only s s' → St C σ' s' [(.ref D₀, .fresh acc)] → R (.ok .next) s') :
    codeAny W.M A (.compLoop (.ListComp elt [⟨target, iter, ifs, 0⟩] scope pos) 0 (.ref I) (.ref D₀) C.env) R s := by
  refine compLoop_go (fun k s' => ∃ i acc σ₂ o, k = ds.length + 1 - i ∧ i ≤ ds.length ∧ acc.length ≤ i ∧ Inv i acc σ₂ ∧ Only s s' ∧ IterObj v d o i ∧ St C σ₂ s' [(.ref I, .obj o), (v, .val d), (.ref D₀, .fresh acc)]) ?_ (ds.length + 1)
    ⟨0, [], σ, o, rfl, Nat.zero_le _, Nat.le_refl _, h0, .refl s, hio, ρ, S⟩
  rintro k s' ⟨i, acc, σ₂, o, rfl, hle, hal, hI, o₂, hio, ρ₂, S₂⟩
  by_cases hlt : i < ds.length
  · have hx := List.getElem?_eq_getElem hlt
    refine wpAny_mono (iterNext (Q := fun r s₃ => ∃ u o', r = some u ∧ Only s' s₃ ∧ IterObj v d o' (i + 1) ∧ StR C ρ₂ σ₂ s₃ [(.ref I, .obj o'), (v, .val d), (.ref D₀, .fresh acc)] ∧ Rep s₃.heap (FbOf ρ₂) u ds[i]) hi hx hio S₂ fun u o' s₃ a b c e => ⟨u, o', rfl, a, b, c, e⟩)
      (fun r s₃ ⟨u, o', hr, o₃, hio', S₃, ru⟩ => ?_) fun _ _ e => e.elim
    subst hr
    have ho' := (tempAt (E := []) S₃).2
    refine wpAny_mono (goOk (W := W) (A := A) hg ho' hv hio' hx ru (Q := fun _ s₄ => s₄ = s₃) rfl) (fun _ s₄ e => ?_) fun _ _ e => e.elim
    subst e
    have S₄ := S₃.push ru
    have sf : Safe [(u, Tmp.val ds[i]), (.ref I, .obj o'), (v, .val d), (.ref D₀, .fresh acc)] := fun p hp x e => by
      simp only [List.mem_cons, List.not_mem_nil, or_false] at hp
      rcases hp with rfl | rfl | rfl | rfl <;> cases e
    refine wpAny_mono (hturn i _ acc σ₂ hx hI s₄ _ u sf ⟨ρ₂, S₄⟩ (.head _)) (fun _ s₅ qq1 => ?_) fun _ _ e => e.elim
    refine exx4 qq1 fun σ₅ h₅ o₅ S₅ => ?_
    obtain ⟨ρ₅, S₅⟩ := S₅
    refine wpAny_mono (h₅.run ⟨_, StR.drop (E := [_]) S₅ fun _ _ e => e⟩) (fun ok s₆ qq2 => ?_) fun _ _ e => e.elim
    refine exx4 qq2 fun σ₆ h₆ o₆ S₆ => ?_
    have oo : Only s s₆ := ((o₂.trans o₃).trans o₅).trans o₆
    cases ok with
    | false => exact ⟨_, by omega, i + 1, acc, σ₆, o', rfl, hlt, Nat.le_succ_of_le hal, h₆, oo, hio', S₆⟩
    | true =>
      refine wpAny_mono (h₆ s₆ _ S₆) (fun x s₇ qq3 => ?_) fun _ _ e => e.elim
      refine qq3.elim fun t σ₇ q₀ o₇ S₇ => ?_
      obtain ⟨dd, ht, h₇⟩ := q₀
      obtain ⟨ρ₇, S₇⟩ := S₇
      subst ht
      have rx : Rep s₇.heap (FbOf ρ₇) x dd := S₇.temps.1
      refine wpAny_mono (StR.freshAppend (A' := A) (Q := fun _ s₈ => Only s₇ s₈ ∧ StR C ρ₇ σ₇ s₈ ([(x, .val dd), (.ref I, .obj o'), (v, .val d)] ++ [(.ref D₀, .fresh (acc ++ [dd]))])) (E := [_, _, _]) S₇ rx (by omega) fun s₈ o₈ S₈ => ⟨o₈, S₈⟩) (fun _ s₈ qq4 => ?_) fun _ _ e => e.elim
      obtain ⟨o₈, S₈⟩ := qq4
      exact ⟨_, by omega, i + 1, acc ++ [dd], σ₇, o', rfl, hlt, by simp; omega, h₇, (oo.trans o₇).trans o₈, hio', _, StR.drop (E := [_]) S₈ fun _ _ e => e⟩
  · have : i = ds.length := by omega
    subst this
    refine wpAny_mono (iterEnd (Q := fun r s₃ => r = none ∧ Only s' s₃ ∧ St C σ₂ s₃ [(.ref D₀, .fresh acc)]) hh hi (Nat.le_refl _) hio S₂ fun s₃ o₃ S₃ => ⟨rfl, o₃, S₃⟩) (fun r s₃ qq5 => ?_) fun _ _ e => e.elim
    obtain ⟨hr, o₃, S₃⟩ := qq5
    subst hr
    exact hR acc σ₂ s₃ hI (o₂.trans o₃) S₃
end
end Mine
namespace Mine
set_option autoImplicit false
set_option linter.unusedSectionVars false
set_option linter.unusedVariables false
section
variable {W : Wd} {C : Fx W} {A : Around} {σ σ' : LS} {s s' : Shared} {T : List (Value × Tmp)} {ρ ρ' : Addr → Option Role}

/-- a comprehension, from the iterable on -/
theorem compBlock {elt target iter : Expr} {ifs : List Expr} {scope : Scope} {pos : Pos} {cl : List (Str × Addr)} {bx : Option Addr} {v : Value} {d : D} {ds : List D} {τ : LS} (Inv : Nat → List D → LS → Prop) (RR : Value → Addr → Result → Shared → Prop)
    (hh : A.handled = none) (hk : scope.kind = .function) (hcell : ∀ y ∈ scope.names, y.2 ≠ .cell) (hcl : ∀ p ∈ cl, C.env.kindOf p.1 = some .cell ∧ C.env.cells.lookup p.1 = some p.2)
    (S : StR C ρ σ s T) (rd : Rep s.heap (FbOf ρ) v d) (hi : Items d ds) (hlo : ∀ n, d = .rng n → -(2 ^ 62) ≤ n) (hg : GoOk target d ds) (hz : ds.length ≤ sizeLine) (hbx : ∀ a, bx = some a → ρ a = some (.own "box")) (hc : CapOk C scope cl bx σ τ) (h0 : Inv 0 [] τ)
    (hturn : ∀ L hE Fb hb hx hF, Turns (fxComp C scope cl hk L bx hE Fb hb hx hF) A elt target ifs ds Inv)
    (hRR : ∀ D₀ L acc σ' s' (C' : Fx W) ρ', Inv ds.length acc σ' → Only s s' → s.heap.get? D₀ = none → s.heap.get? L = none → D₀ ≠ L → C'.env.locals = L → C'.bx = bx → C'.hE = s.heap → C'.Fb = FbOf ρ → StR C' ρ' σ' s' [(.ref D₀, .fresh acc)] → RR (.ref D₀) L (.ok .next) s') :
    wpAny W.M A (pyIter v) (fun it s₂ => wpAny W.M A (newList []) (fun acc s₃ => wpAny W.M A (newFunctionEnv scope C.env.globals cl [] C.env.qual none .none (some C.env)) (fun cenv s₄ =>
      codeAny W.M A (.compStart (.ListComp elt [⟨target, iter, ifs, 0⟩] scope pos) 0 it acc { cenv with scope := relabel scope C.env }) (RR acc cenv.locals) s₄) NoE s₃) NoE s₂) NoE s := by
  refine iterStart rd hi hlo fun o hfr hio => ?_
  refine wpAny_newObj_type (wpAny_newFunctionEnv hcell (by intro y hy; simp at hy) (fun h₁ hns₁ hsb₁ => ?_) hk)
  dsimp only at hns₁ hsb₁ ⊢
  generalize hH2 : (s.heap.push o).push { cls := .type "list", dict := none, data := .seq ([] : List Value).toArray } = H2 at hns₁ hsb₁ ⊢
  have sI : (s.heap.push o).objs.size = s.heap.objs.size + 1 := by rw [Heap.size_push]
  have sL : H2.objs.size = s.heap.objs.size + 2 := by rw [← hH2, Heap.size_push, sI]
  have fresh : ∀ a, s.heap.objs.size ≤ a → s.heap.get? a = none := fun a ha => Heap.get?_none_of_le ha
  have kp0 : Kp s.heap H2 := fun b x e => hH2 ▸ Heap.get?_push_of_some _ (Heap.get?_push_of_some _ e)
  have old : ∀ b x, H2.get? b = some x → h₁.get? b = some x := fun b x e => hsb₁.extBut b x (Nat.ne_of_lt (Heap.lt_size e)) (Heap.get?_push_of_some _ e)
  have kp : Kp s.heap h₁ := fun b x e => old b x (kp0 b x e)
  have gI : h₁.get? s.heap.objs.size = some o := old _ _ (hH2 ▸ Heap.get?_push_of_some _ (Heap.get?_push_size _ hfr))
  have gD : h₁.get? (s.heap.push o).objs.size = some { cls := .type "list", dict := none, data := .seq ([] : List Value).toArray } := old _ _ (hH2 ▸ Heap.get?_push_size _ rfl)
  have hL : s.heap.get? H2.objs.size = none := fresh _ (by rw [sL]; exact Nat.le_add_right _ _)
  have nIL : s.heap.objs.size ≠ H2.objs.size := by rw [sL]; exact Nat.ne_of_lt (by omega)
  have nDL : (s.heap.push o).objs.size ≠ H2.objs.size := by rw [sL, sI]; exact Nat.ne_of_lt (by omega)
  have nID : s.heap.objs.size ≠ (s.heap.push o).objs.size := by rw [sI]; exact Nat.ne_of_lt (by omega)
  have hD : s.heap.get? (s.heap.push o).objs.size = none := fresh _ (by rw [sI]; exact Nat.le_succ _)
  let C' := fxComp C scope cl hk H2.objs.size bx s.heap (FbOf ρ) S.baseKeep (fun a e => S.fbTop a (by rw [FbOf, hbx a e]; simp)) fun a n => S.alive a n
  let B : Addr → Prop := fun a => a = s.heap.objs.size ∨ a = (s.heap.push o).objs.size
  have S₀ : StR C' (enterF ρ H2.objs.size B bx) τ { s with heap := h₁, toks := s.toks + ([] : List (Str × Value)).length } [] := S.enter (s' := { s with heap := h₁, toks := s.toks + ([] : List (Str × Value)).length }) kp hbx hL hns₁ (fun a ha => by
    rcases ha with rfl | rfl
    · exact ⟨fresh _ (Nat.le_refl _), ⟨_, gI⟩, nIL⟩
    · exact ⟨hD, ⟨_, gD⟩, nDL⟩) hcl hc
  have dD : enterF ρ H2.objs.size B bx (s.heap.push o).objs.size = some .dead := by
    unfold enterF; rw [if_neg nDL, if_pos (Or.inr rfl)]
  have dI : enterF ρ H2.objs.size B bx s.heap.objs.size = some .dead := by
    unfold enterF; rw [if_neg nIL, if_pos (Or.inl rfl)]
  have S₁ := S₀.unbury (t := .fresh []) dD ⟨_, #[], rfl, setR_self _ _ _, ⟨_, gD⟩, .nil⟩
  have rv : Rep h₁ (FbOf (setR (enterF ρ H2.objs.size B bx) (s.heap.push o).objs.size (.temp 0))) v d := by
    refine Rep.mono (fun b x e _ => kp b x e) (fun b q => ?_) rd
    by_cases hbD : b = (s.heap.push o).objs.size
    · exact .inr (hbD ▸ hD)
    · rw [FbOf, setR_ne hbD] at q
      unfold enterF at q
      split at q
      · subst b; exact .inr hL
      · split at q
        · rename_i hB
          rcases hB with rfl | rfl
          · exact .inr (fresh _ (Nat.le_refl _))
          · exact .inr hD
        · split at q
          · rename_i hb'; exact .inl (by rw [FbOf, hbx _ hb']; simp)
          · split at q
            · exact .inl ‹_›
            · exact absurd rfl q
  have S₂ := S₁.push (d := d) rv
  have S₃ := S₂.unbury (a := s.heap.objs.size) (t := .obj o) (by rw [setR_ne nID]; exact dI) ⟨_, rfl, setR_self _ _ _, gI⟩
  have hIt : (setR (setR (enterF ρ H2.objs.size B bx) (s.heap.push o).objs.size (Role.temp 0)) s.heap.objs.size (Role.temp 2)) s.heap.objs.size = some (.temp 2) := setR_self _ _ _
  have loop : codeAny W.M A (.compLoop (.ListComp elt [⟨target, iter, ifs, 0⟩] scope pos) 0 (.ref s.heap.objs.size) (.ref (s.heap.push o).objs.size) C'.env) (RR (.ref (s.heap.push o).objs.size) H2.objs.size) { s with heap := h₁, toks := s.toks + ([] : List (Str × Value)).length } :=
    compLoopA (C := C') Inv hh hi hg hz (hturn _ _ _ _ _ _) h0 (rd.isRef hi) hio S₃ fun acc σ' s' hI ho ⟨ρ', S'⟩ => hRR _ _ acc σ' s' C' ρ' hI (Only.trans ⟨rfl, rfl, rfl⟩ ho) hD hL nDL rfl rfl rfl rfl S'
  refine codeAny_compStart_list loop (wpAny_mono (iterSelf (W := W) (A := A) (s := { s with heap := h₁, toks := s.toks + ([] : List (Str × Value)).length }) (Q := fun r s' => r = .ref s.heap.objs.size ∧ s' = { s with heap := h₁, toks := s.toks + ([] : List (Str × Value)).length }) gI (rd.isRef hi) hio ⟨rfl, rfl⟩) (fun r s' qq1 => ?_) fun _ _ e => e.elim)
  obtain ⟨h1, h2⟩ := qq1
  rw [h1, h2]
  exact loop

/-- what a list comprehension leaves in the frame around it -/
theorem compAfter {C' : Fx W} {D₀ L : Addr} {acc : List D} {bx : Option Addr} (S : StR C ρ σ s T) (S' : StR C' ρ' σ' s' [(.ref D₀, .fresh acc)]) (hD : s.heap.get? D₀ = none) (hL : s.heap.get? L = none) (hn : D₀ ≠ L) (e1 : C'.env.locals = L) (e2 : C'.bx = none) (e3 : C'.hE = s.heap) (e4 : C'.Fb = FbOf ρ) :
    ∃ m, s'.heap.Ns L m ∧ ∀ h', Heap.SameBut L s'.heap h' → StR C (setR (buryF ρ fun a => a = D₀) D₀ (.temp T.length)) σ { s' with heap := h' } ((.ref D₀, .fresh acc) :: T) := by
  obtain ⟨⟨a, vs, e, hra, ⟨n, hpl⟩, hR⟩, _⟩ := S'.temps
  cases e
  obtain ⟨m, hm⟩ := S'.ns
  rw [e1] at hm
  refine ⟨m, hm, fun h' hs' => ?_⟩
  have kk : ∀ b o, b ≠ L → s'.heap.get? b = some o → h'.get? b = some o := fun b o hb e => (hs'.2 b hb).trans e
  have kp : Kp s.heap h' := fun b o e => kk b o (fun z => by rw [z, hL] at e; cases e) (S'.keep b o (by rw [e3]; exact e) (by rw [e2]; simp))
  have gD : h'.PlainList D₀ vs := ⟨n, kk _ _ hn hpl⟩
  have S₁ := S.bury (s' := { s' with heap := h' }) (B := fun a => a = D₀) kp fun a ha => by
    subst ha
    exact ⟨hD, ⟨_, gD.choose_spec⟩⟩
  refine S₁.unbury (t := .fresh acc) (bury_in rfl) ⟨D₀, vs, rfl, setR_self _ _ _, gD, ?_⟩
  refine Reps.mono (fun b o e nb => kk b o (fun z => nb (by rw [z, FbOf, ← e1, S'.frρ]; simp)) e) (fun b q => .inl ?_) hR
  by_cases hb : b = D₀
  · rw [hb, FbOf, hra]; simp
  · rw [FbOf, setR_ne hb] at q
    rw [bury_out (B := fun a => a = D₀) hb] at q
    exact S'.ext b (by rw [e4]; exact q)
end
end Mine
namespace Mine
set_option autoImplicit false
set_option linter.unusedSectionVars false
set_option linter.unusedVariables false
section
variable {W : Wd} {C : Fx W} {A : Around} {σ σ' : LS} {s s' : Shared} {T : List (Value × Tmp)} {ρ ρ' : Addr → Option Role}

theorem compAfter2 {C' : Fx W} {D₀ L : Addr} {acc : List D} (S : StR C ρ σ s T) (S' : StR C' ρ' σ' s' [(.ref D₀, .fresh acc)]) (hD : s.heap.get? D₀ = none) (hL : s.heap.get? L = none) (hn : D₀ ≠ L) (e1 : C'.env.locals = L) (e2 : C'.bx = none) (e3 : C'.hE = s.heap) (e4 : C'.Fb = FbOf ρ) :
    ∃ m oL ρ'', (∀ h : Heap, h.get? L = some oL → h.Ns L m) ∧ StR C ρ'' σ s' ((.ref D₀, .fresh acc) :: (.ref L, .obj oL) :: T) := by
  obtain ⟨⟨a, vs, e, hra, ⟨n, hpl⟩, hR⟩, _⟩ := S'.temps
  cases e
  obtain ⟨m, oL, es, ep, hoL, hr⟩ := S'.ns
  rw [e1] at hoL
  have kp : Kp s.heap s'.heap := fun b o e => S'.keep b o (by rw [e3]; exact e) (by rw [e2]; simp)
  have S₁ := S.bury (s' := s') (B := fun a => a = D₀ ∨ a = L) kp fun a ha => by
    rcases ha with rfl | rfl
    · exact ⟨hD, _, hpl⟩
    · exact ⟨hL, _, hoL⟩
  have S₂ := S₁.unbury (t := .obj oL) (bury_in (.inr rfl)) ⟨L, rfl, setR_self _ _ _, hoL⟩
  have S₃ := S₂.unbury (a := D₀) (t := .fresh acc) (by rw [setR_ne hn]; exact bury_in (.inl rfl)) ⟨D₀, vs, rfl, setR_self _ _ _, ⟨n, hpl⟩, ?_⟩
  · exact ⟨m, oL, _, fun h ho => ⟨oL, es, ep, ho, hr⟩, S₃⟩
  · refine Reps.mono (fun b o e nb => e) (fun b q => .inl ?_) hR
    by_cases hb : b = D₀
    · rw [hb, FbOf, hra]; simp
    · rw [FbOf, setR_ne hb] at q
      by_cases hb' : b = L
      · rw [hb', FbOf, ← e1, S'.frρ]; simp
      · rw [setR_ne hb', bury_out (B := fun a => a = D₀ ∨ a = L) (by rintro (h | h) <;> contradiction)] at q
        exact S'.ext b (by rw [e4]; exact q)

/-- the iterable and the turns of a comprehension that changes nothing around it -/
noncomputable def CompH (C : Fx W) (A : Around) (elt target iter : Expr) (ifs : List Expr) (scope : Scope) (cl : List (Str × Addr)) (hk : scope.kind = .function) (τ : LS) (Inv : Nat → List D → LS → Prop) (σ : LS) (Ψ : List D → LS → Prop) : Prop :=
  Ev C A iter σ fun t σ₁ => ∃ d ds, t = .val d ∧ Items d ds ∧ (∀ n, d = .rng n → -(2 ^ 62) ≤ n) ∧ GoOk target d ds ∧ ds.length ≤ sizeLine ∧ CapOk C scope cl none σ₁ τ ∧ Inv 0 [] τ ∧
    (∀ L hE Fb hb hx hF, Turns (fxComp C scope cl hk L none hE Fb hb hx hF) A elt target ifs ds Inv) ∧ ∀ acc σ', Inv ds.length acc σ' → Ψ acc σ₁

theorem Ev_Comp {elt target iter : Expr} {ifs : List Expr} {scope : Scope} {pos : Pos} {cl : List (Str × Addr)} {τ : LS} {Φ : Tmp → LS → Prop} (Inv : Nat → List D → LS → Prop) (hh : A.handled = none) (hk : scope.kind = .function)
    (hclos : closureFor scope C.env = pure cl) (hcell : ∀ y ∈ scope.names, y.2 ≠ .cell) (hnames : ∀ x ∈ scope.names, x.2 = .local → scope.names.lookup x.1 = some .local) (hcl : ∀ p ∈ cl, C.env.kindOf p.1 = some .cell ∧ C.env.cells.lookup p.1 = some p.2)
    (h : CompH C A elt target iter ifs scope cl hk τ Inv σ fun acc σ₁ => Φ (.fresh acc) σ₁) (hs : ∀ x, foldedSetIterable iter C.env x = pure x := by intro _; rfl) :
    Ev C A (.ListComp elt [⟨target, iter, ifs, 0⟩] scope pos) σ Φ := by
  intro s T S
  rw [eval_ListComp]
  refine wpAny_comprehension_free (use := none) rfl hs hclos hk hnames (wpNo (h s T S) fun v s₁ qq1 => ?_)
  refine qq1.elim fun t σ₁ q₀ o₁ S₁ => ?_
  obtain ⟨d, ds, ht, hi, hlo, hg, hz, hc, h0, hturn, hend⟩ := q₀
  obtain ⟨ρ₁, S₁⟩ := S₁
  subst ht
  have S₁' := StR.drop (E := [_]) S₁ (s' := s₁) fun _ _ e => e
  refine compBlock (bx := none) Inv (fun acc L r s' => compPost W.M A NoE none (EvPost C s T Φ) acc L r s') hh hk hcell hcl S₁' (by rw [fbOf_map]; exact S₁.temps.1) hi hlo hg hz (fun _ e => nomatch e) hc h0 hturn
    fun D₀ L acc σ' s' C' ρ' hI o hD hL hn e1 e2 e3 e4 S' => ?_
  obtain ⟨m, hm, hS⟩ := compAfter (bx := none) S₁' S' hD hL hn e1 e2 e3 e4
  exact ⟨m, hm, fun h' hs' => ⟨_, _, hend acc σ' hI, (o₁.trans o).trans ⟨rfl, rfl, rfl⟩, _, hS h' hs'⟩⟩

/-- the same, when only the iterable's value tells what the turns do -/
noncomputable def CompE (C : Fx W) (A : Around) (elt target iter : Expr) (ifs : List Expr) (scope : Scope) (cl : List (Str × Addr)) (hk : scope.kind = .function) (σ : LS) (Ψ : List D → LS → Prop) : Prop :=
  Ev C A iter σ fun t σ₁ => ∃ (τ : LS) (Inv : Nat → List D → LS → Prop) (d : D) (ds : List D), t = .val d ∧ Items d ds ∧ (∀ n, d = .rng n → -(2 ^ 62) ≤ n) ∧ GoOk target d ds ∧ ds.length ≤ sizeLine ∧ CapOk C scope cl none σ₁ τ ∧ Inv 0 [] τ ∧
    (∀ L hE Fb hb hx hF, Turns (fxComp C scope cl hk L none hE Fb hb hx hF) A elt target ifs ds Inv) ∧ ∀ acc σ', Inv ds.length acc σ' → Ψ acc σ₁

theorem Ex_AssignCompE {y : Str} {yp spos : Pos} {elt target iter : Expr} {ifs : List Expr} {scope : Scope} {pos : Pos} {cl : List (Str × Addr)} {Φ : Fl → LS → Prop} (hh : A.handled = none) (hk : scope.kind = .function)
    (hclos : closureFor scope C.env = pure cl) (hcell : ∀ y ∈ scope.names, y.2 ≠ .cell) (hnames : ∀ x ∈ scope.names, x.2 = .local → scope.names.lookup x.1 = some .local) (hcl : ∀ p ∈ cl, C.env.kindOf p.1 = some .cell ∧ C.env.cells.lookup p.1 = some p.2)
    (b : Bind C y) (hb : C.bx = none ∨ y ≠ "box")
    (h : CompE C A elt target iter ifs scope cl hk σ fun acc σ₁ => Φ .next (upd σ₁ y (.own acc))) (hs : ∀ x, foldedSetIterable iter C.env x = pure x := by intro _; rfl)
    (hsw : swapsWith (.ListComp elt [⟨target, iter, ifs, 0⟩] scope pos) (some (.Name y yp)) spos.line C.env = pure true := by rfl) :
    Ex C A (.Assign [.Name y yp] (.ListComp elt [⟨target, iter, ifs, 0⟩] scope pos) spos) σ Φ := by
  intro s T sf S
  rw [exec_Assign_Name_used _ _ _ _ hsw]
  refine wpAny_bind (wpAny_standAt (wpAny_bind ?_))
  show wpAny _ A (do let _ ← comprehension (.ListComp elt [⟨target, iter, ifs, 0⟩] scope pos) scope C.env _ (newList []) false (eval iter C.env) (some (assign (.Name y yp) C.env))) _ _ s
  refine wpAny_bind (wpNo (wpAny_comprehension_free (use := some (assign (.Name y yp) C.env)) (Q := fun _ s' => ExPost C s T Φ .next s') rfl hs hclos hk hnames
    (wpNo (h s T S) fun v s₁ q₁ => ?_)) (fun _ s' hq => wpAny_pure (wpAny_pure hq)))
  obtain ⟨t, σ₁, ⟨τ, Inv, d, ds, ht, hi, hlo, hg, hz, hc, h0, hturn, hend⟩, o₁, ρ₁, S₁⟩ := q₁
  subst ht
  have S₁' := StR.drop (E := [_]) S₁ (s' := s₁) fun _ _ e => e
  refine compBlock (bx := none) Inv (fun acc L r s' => compPost W.M A NoE (some (assign (.Name y yp) C.env)) (fun _ s' => ExPost C s T Φ .next s') acc L r s') hh hk hcell hcl S₁' (by rw [fbOf_map]; exact S₁.temps.1) hi hlo hg hz (fun _ e => nomatch e) hc h0 hturn
    fun D₀ L acc σ' s' C' ρ' hI o hD hL hn e1 e2 e3 e4 S' => ?_
  obtain ⟨m, oL, ρ₂, hm, S₂⟩ := compAfter2 S₁' S' hD hL hn e1 e2 e3 e4
  show wpAny _ A (assign (.Name y yp) C.env (.ref D₀)) _ _ s'
  refine wpAny_assign_Name (assignFresh S₂ sf.obj hb (b.at_ S₂) fun s₃ o₃ qq1 => ?_)
  obtain ⟨ρ₃, S₃⟩ := qq1
  obtain ⟨hI3, hL3⟩ := tempAt (E := []) S₃
  refine ⟨m, hm _ hL3, fun h' hs' => ⟨_, hend acc σ' hI, ((o₁.trans o).trans o₃).trans ⟨rfl, rfl, rfl⟩, ?_⟩⟩
  exact S₃.forget (E := [_]) (s' := { s₃ with heap := h' }) hI3 (Nat.le_refl _) fun b o hb e => (hs'.2 b hb).trans e

theorem Ex_AssignComp {y : Str} {yp spos : Pos} {elt target iter : Expr} {ifs : List Expr} {scope : Scope} {pos : Pos} {cl : List (Str × Addr)} {τ : LS} {Φ : Fl → LS → Prop} (Inv : Nat → List D → LS → Prop) (hh : A.handled = none) (hk : scope.kind = .function)
    (hclos : closureFor scope C.env = pure cl) (hcell : ∀ y ∈ scope.names, y.2 ≠ .cell) (hnames : ∀ x ∈ scope.names, x.2 = .local → scope.names.lookup x.1 = some .local) (hcl : ∀ p ∈ cl, C.env.kindOf p.1 = some .cell ∧ C.env.cells.lookup p.1 = some p.2)
    (b : Bind C y) (hb : C.bx = none ∨ y ≠ "box")
    (h : CompH C A elt target iter ifs scope cl hk τ Inv σ fun acc σ₁ => Φ .next (upd σ₁ y (.own acc))) (hs : ∀ x, foldedSetIterable iter C.env x = pure x := by intro _; rfl)
    (hsw : swapsWith (.ListComp elt [⟨target, iter, ifs, 0⟩] scope pos) (some (.Name y yp)) spos.line C.env = pure true := by rfl) :
    Ex C A (.Assign [.Name y yp] (.ListComp elt [⟨target, iter, ifs, 0⟩] scope pos) spos) σ Φ :=
  Ex_AssignCompE hh hk hclos hcell hnames hcl b hb (h.mono fun t σ₁ q => ⟨τ, Inv, q⟩) hs hsw
end
end Mine
namespace Mine
set_option autoImplicit false
set_option linter.unusedSectionVars false
set_option linter.unusedVariables false

theorem bindL_out (k : Str → Option NameKind) (x : Str) : ∀ (l : List (Str × Value)) (m : Str → Option Value), x ∉ l.map (·.1) → bindL k l m x = m x
  | [], _, _ => rfl
  | (n, v) :: r, m, h => by
    have hn : x ≠ n := fun e => h (by simp [e])
    have hr : x ∉ r.map (·.1) := fun e => h (by simp at e; simp [e])
    show bindL k r _ x = m x
    rw [bindL_out k x r _ hr]
    split
    · exact if_neg hn
    · rfl
theorem bindC_out (k : Str → Option NameKind) (x : Str) : ∀ (l : List (Str × Value)) (m : Str → Option Value), x ∉ l.map (·.1) → bindC k l m x = m x
  | [], _, _ => rfl
  | (n, v) :: r, m, h => by
    have hn : x ≠ n := fun e => h (by simp [e])
    have hr : x ∉ r.map (·.1) := fun e => h (by simp at e; simp [e])
    show bindC k r _ x = m x
    rw [bindC_out k x r _ hr]
    split
    · rfl
    · exact if_neg hn
theorem bindL_in (k : Str → Option NameKind) (x : Str) (v : Value) (hk : k x = some .local) : ∀ (l : List (Str × Value)) (m : Str → Option Value), (l.map (·.1)).Nodup → (x, v) ∈ l → bindL k l m x = some v
  | (n, u) :: r, m, hn, h => by
    obtain ⟨h1, h2⟩ := List.nodup_cons.mp hn
    show bindL k r _ x = some v
    rcases List.mem_cons.mp h with e | h
    · cases e
      rw [bindL_out k x r _ h1, if_pos hk, if_pos rfl]
    · exact bindL_in k x v hk r _ h2 h
theorem bindC_in (k : Str → Option NameKind) (x : Str) (v : Value) (hk : k x ≠ some .local) : ∀ (l : List (Str × Value)) (m : Str → Option Value), (l.map (·.1)).Nodup → (x, v) ∈ l → bindC k l m x = some v
  | (n, u) :: r, m, hn, h => by
    obtain ⟨h1, h2⟩ := List.nodup_cons.mp hn
    show bindC k r _ x = some v
    rcases List.mem_cons.mp h with e | h
    · cases e
      rw [bindC_out k x r _ h1, if_neg hk, if_pos rfl]
    · exact bindC_in k x v hk r _ h2 h

noncomputable def cellRole (cs : List (Str × Addr)) (a : Addr) : Option Role := match cs.find? fun p => p.2 == a with
  | some p => if cs.lookup p.1 = some a then some (.cell p.1) else none
  | none => none
theorem cellRole_none {cs : List (Str × Addr)} {a : Addr} (h : ∀ p ∈ cs, p.2 ≠ a) : cellRole cs a = none := by
  have : cs.find? (fun p => p.2 == a) = none := List.find?_eq_none.mpr fun p hp q => h p hp (beq_iff_eq.mp q)
  unfold cellRole; rw [this]
theorem cellRole_of {cs : List (Str × Addr)} (hp : cs.Pairwise fun x y => x.2 ≠ y.2) {x : Str} {a : Addr} (h : cs.lookup x = some a) : cellRole cs a = some (.cell x) := by
  unfold cellRole
  have hm := mem_of_lookup h
  cases e : cs.find? (fun p => p.2 == a) with
  | none => exact absurd (beq_self_eq_true _) (List.find?_eq_none.mp e _ hm)
  | some p =>
    obtain ⟨y, b⟩ := p
    have h1 := List.find?_some e
    have h2 := List.mem_of_find?_eq_some e
    obtain rfl : b = a := beq_iff_eq.mp h1
    obtain rfl := name_of_addr hp hm h2
    exact if_pos h
theorem cellRole_some {cs : List (Str × Addr)} {a : Addr} {r : Role} (h : cellRole cs a = some r) : ∃ x, r = .cell x ∧ cs.lookup x = some a := by
  unfold cellRole at h
  split at h
  · rename_i p e
    split at h
    · cases h; exact ⟨p.1, rfl, ‹_›⟩
    · cases h
  · cases h

section
variable {W : Wd} {C : Fx W} {A : Around} {σ σ' : LS} {s s' : Shared} {T : List (Value × Tmp)} {ρ ρ' : Addr → Option Role}

noncomputable def fxFn (W : Wd) (qual : Str) (scope : Scope) (L f : Addr) (cdv : Value) (hk : scope.kind = .function) (bx : Option Addr) (hE : Heap) (Fb : Addr → Prop) (hb : W.hB.StaysIn hE) (hx : ∀ a, bx = some a → W.hB.get? a = .none) (hF : ∀ a, Fb a → ∃ o, hE.get? a = some o) : Fx W :=
  { env := envOfC qual scope L f cdv, hE := hE, bx := bx, Fb := Fb, kind := hk, glob := rfl, blt := rfl, base := hb, bxB := hx, FbE := hF }

open Classical in
noncomputable def enterFn (L : Addr) (cs : List (Str × Addr)) (bx : Option Addr) (Fb : Addr → Prop) : Addr → Option Role := fun a =>
  if a = L then some .frame else match cellRole cs a with
    | some r => some r
    | none => if bx = some a then some (.own "box") else if Fb a then some .ext else none

open Classical in
theorem enter_fn {qual : Str} {scope : Scope} {L f : Addr} {cdv : Value} {hk : scope.kind = .function} {bx : Option Addr} {Fb : Addr → Prop} {h₀ : Heap} {hb : W.hB.StaysIn h₀} {hx} {hF : ∀ a, Fb a → ∃ o, h₀.get? a = some o} {binds : List (Str × Value)}
    (kp : Kp h₀ s.heap) (hL : ∀ a, L ≤ a → h₀.get? a = none) (hFbB : ∀ a, Fb a → W.hB.get? a = none) (hbx : ∀ a, bx = some a → Fb a)
    (hns : s.heap.Ns L (bindL (envOfC qual scope L f cdv).kindOf binds fun _ => none)) (hcl : ∀ n c, (cellsFrom (L + 1) scope.names []).lookup n = some c → s.heap.IsCell c (bindC (envOfC qual scope L f cdv).kindOf binds (fun _ => none) n))
    (hap : (cellsFrom (L + 1) scope.names []).Pairwise fun x y => x.2 ≠ y.2) (hab : ∀ n c, (n, c) ∈ cellsFrom (L + 1) scope.names [] → L < c)
    (hnd : (binds.map (·.1)).Nodup) (hkind : ∀ x ∈ binds, scope.names.lookup x.1 = some .local ∨ (scope.names.lookup x.1 = some .cell ∧ ((cellsFrom (L + 1) scope.names []).lookup x.1).isSome = true))
    (hv : ∀ x l, σ.lookup x = some l → ∃ v, (x, v) ∈ binds ∧ match l with
      | .val d => Rep h₀ Fb v d
      | .own b => x = "box" ∧ ∃ a bs, v = .ref a ∧ bx = some a ∧ h₀.PlainList a bs ∧ Reps h₀ Fb bs.toList b) :
    StR (fxFn W qual scope L f cdv hk bx h₀ Fb hb hx hF) (enterFn L (cellsFrom (L + 1) scope.names []) bx Fb) σ s [] := by
  generalize hcs : cellsFrom (L + 1) scope.names [] = cs at *
  have old : ∀ {a : Addr} {o : Obj}, h₀.get? a = some o → a < L := fun {a o} e => by
    rcases Nat.lt_or_ge a L with h | h
    · exact h
    · rw [hL a h] at e; cases e
  have oldC : ∀ {a : Addr} {o : Obj}, h₀.get? a = some o → cellRole cs a = none := fun e => cellRole_none fun p hp q => Nat.lt_asymm (old e) (q ▸ hab p.1 p.2 hp)
  have eL : enterFn L cs bx Fb L = some .frame := if_pos rfl
  have eOld : ∀ {a : Addr} {o : Obj}, h₀.get? a = some o → enterFn L cs bx Fb a = if bx = some a then some (.own "box") else if Fb a then some .ext else none := fun e => by
    unfold enterFn; rw [if_neg (Nat.ne_of_lt (old e)), oldC e]
  have cases5 : ∀ {a : Addr} {r : Role}, enterFn L cs bx Fb a = some r → (a = L ∧ r = .frame) ∨ (∃ x, r = .cell x ∧ cs.lookup x = some a) ∨ (bx = some a ∧ r = .own "box") ∨ (Fb a ∧ r = .ext) := fun {a r} e => by
    unfold enterFn at e
    split at e
    · cases e; exact .inl ⟨‹_›, rfl⟩
    · split at e
      · rename_i r' h; cases e; exact .inr (.inl (cellRole_some h))
      · split at e
        · cases e; exact .inr (.inr (.inl ⟨‹_›, rfl⟩))
        · split at e
          · cases e; exact .inr (.inr (.inr ⟨‹_›, rfl⟩))
          · cases e
  have hsome : ∀ {a : Addr}, enterFn L cs bx Fb a ≠ none → ∃ r, enterFn L cs bx Fb a = some r := fun n => Option.ne_none_iff_exists'.mp n
  have eFb : ∀ {a : Addr}, Fb a → enterFn L cs bx Fb a ≠ none := fun {a} n => by
    obtain ⟨o, e⟩ := hF _ n
    rw [eOld e]
    by_cases hb' : bx = some a
    · rw [if_pos hb']; simp
    · rw [if_neg hb', if_pos n]; simp
  have eX : ∀ {a : Addr}, bx = some a → enterFn L cs bx Fb a = some (.own "box") := fun e => by
    obtain ⟨o, ho⟩ := hF _ (hbx _ e)
    rw [eOld ho, if_pos e]
  have newC : ∀ {x : Str} {a : Addr}, (x, a) ∈ cs → h₀.get? a = none := fun hm => hL _ (Nat.le_of_lt (hab _ _ hm))
  have back : ∀ {a : Addr}, FbOf (enterFn L cs bx Fb) a → Fb a ∨ h₀.get? a = none := fun {a} n => by
    obtain ⟨r, e⟩ := hsome n
    rcases cases5 e with ⟨rfl, _⟩ | ⟨x, _, h⟩ | ⟨h, _⟩ | ⟨h, _⟩
    · exact .inr (hL _ (Nat.le_refl _))
    · exact .inr (newC (mem_of_lookup h))
    · exact .inl (hbx _ h)
    · exact .inl h
  refine ⟨fun a n => ?_, fun a o e => ?_, fun a n => eFb n, fun a r e n nb => ?_, fun b o e _ => kp b o e, ⟨_, hns⟩, eL, fun x c kx hcx => ?_, fun a e => eX e, fun a b r n n' e e' => ?_, fun a k e => ?_, fun x l e => ?_, trivial⟩
  · obtain ⟨r, e⟩ := hsome n
    rcases cases5 e with ⟨rfl, _⟩ | ⟨x, _, h⟩ | ⟨h, _⟩ | ⟨h, _⟩
    · obtain ⟨o, _, _, ho, _⟩ := hns; exact ⟨o, ho⟩
    · obtain ⟨o, ho, _⟩ := hcl _ _ h; exact ⟨o, ho⟩
    · obtain ⟨o, e⟩ := hF a (hbx _ h); exact ⟨o, kp _ _ e⟩
    · obtain ⟨o, e⟩ := hF a h; exact ⟨o, kp _ _ e⟩
  · cases h : enterFn L cs bx Fb a with
    | none => rfl
    | some r =>
      have e0 := hb a o e
      rcases cases5 h with ⟨rfl, _⟩ | ⟨x, _, h⟩ | ⟨h, _⟩ | ⟨h, _⟩
      · rw [hL _ (Nat.le_refl _)] at e0; cases e0
      · rw [newC (mem_of_lookup h)] at e0; cases e0
      · rw [hFbB _ (hbx _ h)] at e; cases e
      · rw [hFbB _ h] at e; cases e
  · rcases cases5 e with ⟨rfl, _⟩ | ⟨x, _, h⟩ | ⟨h, hr⟩ | ⟨h, hr⟩
    · exact hL _ (Nat.le_refl _)
    · exact newC (mem_of_lookup h)
    · exact absurd h nb
    · exact absurd hr n
  · have hcx' : cs.lookup x = some c := hcs ▸ hcx
    refine ⟨.inl ?_, _, hcl x c hcx'⟩
    unfold enterFn
    rw [if_neg (Nat.ne_of_gt (hab _ _ (mem_of_lookup hcx'))), cellRole_of hap hcx']
  · rcases cases5 e with ⟨h, hr⟩ | ⟨x, hr, h⟩ | ⟨h, hr⟩ | ⟨h, hr⟩
    · rcases cases5 e' with ⟨h', hr'⟩ | ⟨x', hr', h'⟩ | ⟨h', hr'⟩ | ⟨h', hr'⟩
      · rw [h, h']
      · rw [hr] at hr'; cases hr'
      · rw [hr] at hr'; cases hr'
      · exact absurd hr' n
    · rcases cases5 e' with ⟨h', hr'⟩ | ⟨x', hr', h'⟩ | ⟨h', hr'⟩ | ⟨h', hr'⟩
      · rw [hr] at hr'; cases hr'
      · rw [hr] at hr'; cases hr'; rw [h] at h'; cases h'; rfl
      · rw [hr] at hr'; cases hr'
      · exact absurd hr' n
    · rcases cases5 e' with ⟨h', hr'⟩ | ⟨x', hr', h'⟩ | ⟨h', hr'⟩ | ⟨h', hr'⟩
      · rw [hr] at hr'; cases hr'
      · rw [hr] at hr'; cases hr'
      · rw [h] at h'; cases h'; rfl
      · exact absurd hr' n
    · exact absurd hr n
  · rcases cases5 e with ⟨h, hr⟩ | ⟨x, hr, h⟩ | ⟨h, hr⟩ | ⟨h, hr⟩ <;> cases hr
  · obtain ⟨v, hm, hl⟩ := hv x l e
    have hbd : Bound s.heap (envOfC qual scope L f cdv) x v := by
      rcases hkind _ hm with hk' | ⟨hk', hc⟩
      · exact .inl ⟨hk', _, hns, bindL_in _ x v hk' _ _ hnd hm⟩
      · obtain ⟨c, hc⟩ := Option.isSome_iff_exists.mp hc
        refine .inr ⟨hk', c, by show (cellsFrom (L + 1) scope.names []).lookup x = some c; rw [hcs]; exact hc, ?_⟩
        have q := hcl x c hc
        rwa [bindC_in (envOfC qual scope L f cdv).kindOf x v (fun z => by rw [show (envOfC qual scope L f cdv).kindOf x = some .cell from hk'] at z; cases z) binds _ hnd hm] at q
    refine ⟨v, hbd, ?_⟩
    cases l with
    | val d => exact Rep.mono (fun b o e _ => kp b o e) (fun b q => back q) hl
    | own b =>
      obtain ⟨rfl, a, bs, rfl, ha, hpl, hR⟩ := hl
      exact ⟨a, bs, rfl, eX ha, PlainList.at_ hpl (kp _), Reps.mono (fun b o e _ => kp b o e) (fun b q => back q) hR⟩
end
end Mine
namespace Mine
set_option autoImplicit false
set_option linter.unusedSectionVars false
set_option linter.unusedVariables false

/-- an own function at an address -/
structure FnAt (K : Frag) (f : Addr) (qual : Str) (body : List Stmt) (scope : Scope) (cdv : Value) (xs : List Str) : Prop where
  fn : ∃ oc od osl name params dV kV doc pm an ct, K.lookup f = some ⟨oc, od, .func (fnOf name qual params body scope dV kV doc pm an cdv ct), osl⟩ ∧
    ∀ vs : List Value, vs.length = xs.length → bindArgs (fnOf name qual params body scope dV kV doc pm an cdv ct) ⟨vs, []⟩ = pure (xs.zip vs)
  code : codeIn K cdv qual = true
  co : scope.isCoroutine = false
  gen : scope.isGenerator = false
  kind : scope.kind = .function
  nd : xs.Nodup
  kinds : ∀ x ∈ xs, scope.names.lookup x = some .local ∨ (scope.names.lookup x = some .cell ∧ ∀ n, ((cellsFrom n scope.names []).lookup x).isSome = true)

noncomputable def RetΦ (Φ : D → Prop) (fl : Fl) (σ : LS) : Prop := match fl with
  | .ret d => Φ d
  | .next => Φ .none
  | _ => False
noncomputable def RetB (Φ : D → List D → Prop) (fl : Fl) (σ : LS) : Prop := match fl with
  | .ret d => ∃ b, σ.lookup ("box" : Str) = some (.own b) ∧ Φ d b
  | .next => ∃ b, σ.lookup ("box" : Str) = some (.own b) ∧ Φ .none b
  | _ => False

theorem map_fst_zip {α β : Type} : ∀ {xs : List α} {vs : List β}, xs.length = vs.length → (xs.zip vs).map (·.1) = xs
  | [], [], _ => rfl
  | x :: xs, v :: vs, h => by simp at h; simp [map_fst_zip h]

section
variable {W : Wd} {C : Fx W} {A : Around} {σ σ' : LS} {s s' : Shared} {T : List (Value × Tmp)} {ρ ρ' : Addr → Option Role}

theorem call_fn {f : Addr} {qual : Str} {body : List Stmt} {scope : Scope} {cdv : Value} {xs : List Str} {n : Nat} {bx : Option Addr} {Fb : Addr → Prop} {vs : List Value} {Q : Value → Shared → Prop} (F : FnAt W.K f qual body scope cdv xs) (R : Room A (n + 1))
    (hbase : Kp W.hB s.heap) (hF : ∀ a, Fb a → ∃ o, s.heap.get? a = some o) (hFbB : ∀ a, Fb a → W.hB.get? a = none) (hbx : ∀ a, bx = some a → Fb a) (hlen : vs.length = xs.length)
    (hv : ∀ x l, σ.lookup x = some l → ∃ v, (x, v) ∈ xs.zip vs ∧ match l with
      | .val d => Rep s.heap Fb v d
      | .own b => x = "box" ∧ ∃ a bs, v = .ref a ∧ bx = some a ∧ s.heap.PlainList a bs ∧ Reps s.heap Fb bs.toList b)
    {Φ : Fl → LS → Prop} (h : ∀ A L hb hx, (∀ a, L ≤ a → s.heap.get? a = none) → Room A n → Exs (fxFn W qual scope L f cdv F.kind bx s.heap Fb hb hx hF) A body σ Φ)
    (hQ : ∀ L hb hx fl s', Only s s' → ExPost (fxFn W qual scope L f cdv F.kind bx s.heap Fb hb hx hF) s [] Φ fl s' → Q (match fl with | .ret v => v | _ => .none) s') : wpAny W.M A (call (.ref f) vs) Q NoE s := by
  obtain ⟨oc, od, osl, name, params, dV, kV, doc, pm, an, ct, hl, hbind⟩ := F.fn
  have X := W.X.keeps hbase
  refine wpAny_call (codeAny_call_cells (fd := fnOf name qual params body scope dV kV doc pm an cdv ct) (by have := R.depth; omega) (X _ _ hl) rfl (W.T.nolimit.keeps hbase) (codeRec_of X F.code) rfl (hbind vs hlen) rfl (fun p hp => ?_) (fun s₁ IC => ?_) F.co F.gen F.kind)
  · have := (List.of_mem_zip (show (p.1, p.2) ∈ xs.zip vs from hp)).1
    rcases F.kinds _ this with h | ⟨h1, h2⟩
    · exact .inl h
    · exact .inr ⟨h1, h2 _⟩
  · obtain ⟨h₁, tk, rfl, kp⟩ := IC.done
    have hbx' : ∀ a, bx = some a → W.hB.get? a = none := fun a e => hFbB a (hbx a e)
    have kinds : ∀ p ∈ xs.zip vs, scope.names.lookup p.1 = some .local ∨ (scope.names.lookup p.1 = some .cell ∧ ((cellsFrom (s.heap.objs.size + 1) scope.names []).lookup p.1).isSome = true) := fun p hp => by
      have := (List.of_mem_zip (show (p.1, p.2) ∈ xs.zip vs from hp)).1
      rcases F.kinds _ this with h | ⟨h1, h2⟩
      · exact .inl h
      · exact .inr ⟨h1, h2 _⟩
    have IC' : InCallC s s.heap.objs.size (bindL (envOfC qual scope s.heap.objs.size f cdv).kindOf (xs.zip vs) fun _ => none) (cellsFrom (s.heap.objs.size + 1) scope.names []) (bindC (envOfC qual scope s.heap.objs.size f cdv).kindOf (xs.zip vs) fun _ => none) { s with heap := h₁, toks := tk } := IC
    have S := enter_fn (W := W) (σ := σ) (s := { s with heap := h₁, toks := tk }) (qual := qual) (scope := scope) (L := s.heap.objs.size) (f := f) (cdv := cdv) (hk := F.kind) (bx := bx) (Fb := Fb) (h₀ := s.heap) (hb := hbase) (hx := hbx') (hF := hF) (binds := xs.zip vs) kp
      (fun a ha => Heap.get?_none_of_le ha) hFbB hbx IC'.toInCall.ns IC'.cell IC'.apart IC'.above (by rw [map_fst_zip hlen.symm]; exact F.nd) kinds hv
    · refine wpAny_mono (h _ s.heap.objs.size hbase hbx' (fun a ha => Heap.get?_none_of_le ha) (R.deeper _) _ [] (fun p hp => nomatch hp) ⟨_, S⟩) (fun fl s' q => ?_) fun _ _ e => e.elim
      have o : Only s s' ∧ ExPost (fxFn W qual scope s.heap.objs.size f cdv F.kind bx s.heap Fb hbase hbx' hF) s [] Φ fl s' := by
        have q' : ExPost (fxFn W qual scope s.heap.objs.size f cdv F.kind bx s.heap Fb hbase hbx' hF) s [] Φ fl s' := q.trans ⟨rfl, rfl, rfl⟩
        refine ⟨?_, q'⟩
        cases fl with
        | ret v => obtain ⟨_, _, _, o, _⟩ := q'; exact o
        | next => obtain ⟨_, _, o, _⟩ := q'; exact o
        | brk => obtain ⟨_, _, o, _⟩ := q'; exact o
        | cont => obtain ⟨_, _, o, _⟩ := q'; exact o
      exact hQ _ hbase hbx' fl s' o.1 o.2

theorem Fx.fbMono {C : Fx W} {v : Value} {d : D} (S : StR C ρ σ s T) (r : Rep s.heap (FbOf ρ) v d) : Rep s.heap C.Fb v d := Rep.mono (fun b o e _ => e) (fun b q => .inl (S.ext b q)) r
theorem Calls_fnC {f : Addr} {qual : Str} {body : List Stmt} {scope : Scope} {cdv : Value} {xs : List Str} {n : Nat} {ds : List D} {Φ : D → Prop} (F : FnAt W.K f qual body scope cdv xs) (hlen : ds.length = xs.length)
    (h : ∀ A L hE Fb hb hx hF, (∀ a, L ≤ a → hE.get? a = none) → Room A n → Exs (fxFn W qual scope L f cdv F.kind none hE Fb hb hx hF) A body (xs.zip (ds.map Loc.val)) (RetΦ Φ)) : Calls W (n + 1) (.ref f) ds Φ := by
  intro A s Fb vs R hbase hF hFbB r
  refine call_fn (σ := xs.zip (ds.map Loc.val)) (bx := none) F R hbase hF hFbB (fun _ e => nomatch e) (by rw [r.length, hlen]) (fun x l e => ?_) (fun A L hb hx hL R => h A L _ _ hb hx hF hL R) fun L hb hx fl s' o q => ?_
  · have : ∀ {xs : List Str} {vs : List Value} {ds : List D}, Reps s.heap Fb vs ds → (xs.zip (ds.map Loc.val)).lookup x = some l → ∃ v d, l = .val d ∧ (x, v) ∈ xs.zip vs ∧ Rep s.heap Fb v d := by
      intro xs
      induction xs with
      | nil => intro vs ds _ e; cases e
      | cons y xs ih =>
        intro vs ds r e
        cases r with
        | nil => cases e
        | cons a r =>
          rw [List.map_cons, List.zip_cons_cons, List.lookup_cons] at e
          cases hb : x == y with
          | true => rw [hb] at e; cases e; exact ⟨_, _, rfl, by rw [beq_iff_eq.mp hb]; exact .head _, a⟩
          | false => rw [hb] at e; obtain ⟨v, d, h1, h2, h3⟩ := ih r e; exact ⟨v, d, h1, .tail _ h2, h3⟩
    obtain ⟨v, d, rfl, h2, h3⟩ := this r e
    exact ⟨v, h2, h3⟩
  · cases fl with
    | ret v => obtain ⟨d, σ', hΦ, _, ρ', S'⟩ := q; exact ⟨d, hΦ, o, fun b x e => S'.keep b x e (fun z => nomatch z), Fx.fbMono S' S'.temps.1⟩
    | next => obtain ⟨σ', hΦ, _, ρ', S'⟩ := q; exact ⟨.none, hΦ, o, fun b x e => S'.keep b x e (fun z => nomatch z), .none⟩
    | brk => obtain ⟨σ', hΦ, _⟩ := q; exact hΦ.elim
    | cont => obtain ⟨σ', hΦ, _⟩ := q; exact hΦ.elim

theorem Calls_fn {f : Addr} {qual : Str} {body : List Stmt} {scope : Scope} {cdv : Value} {xs : List Str} {n : Nat} {ds : List D} {Φ : D → Prop} (F : FnAt W.K f qual body scope cdv xs) (hlen : ds.length = xs.length)
    (h : ∀ A L hE Fb hb hx hF, Room A n → Exs (fxFn W qual scope L f cdv F.kind none hE Fb hb hx hF) A body (xs.zip (ds.map Loc.val)) (RetΦ Φ)) : Calls W (n + 1) (.ref f) ds Φ := Calls_fnC F hlen fun A L hE Fb hb hx hF _ R => h A L hE Fb hb hx hF R

theorem boxOut {a : Addr} {b : List D} (S : StR C ρ σ s T) (hbx : C.bx = some a) (hb : σ.lookup ("box" : Str) = some (.own b)) : ∃ bs, s.heap.PlainList a bs ∧ Reps s.heap C.Fb bs.toList b := by
  obtain ⟨v, _, a', bs, rfl, hra, hpl, hR⟩ := S.vars _ _ hb
  obtain rfl := S.uniq a a' _ (by simp) (by simp) (S.box a hbx) hra
  exact ⟨bs, hpl, Reps.mono (fun b o e _ => e) (fun b q => .inl (S.ext b q)) hR⟩
theorem CallsB_fnC {f : Addr} {qual : Str} {body : List Stmt} {scope : Scope} {cdv : Value} {xs : List Str} {n : Nat} {b : List D} {ds : List D} {Φ : D → List D → Prop} (F : FnAt W.K f qual body scope cdv ("box" :: xs)) (hlen : ds.length = xs.length)
    (h : ∀ A L bx hE Fb hb hx hF, (∀ a, L ≤ a → hE.get? a = none) → Room A n → Exs (fxFn W qual scope L f cdv F.kind bx hE Fb hb hx hF) A body (("box", .own b) :: xs.zip (ds.map Loc.val)) (RetB Φ)) : CallsB W (n + 1) (.ref f) b ds Φ := by
  intro A s Fb a bs vs R hbase hF hFbB ha hpl hR r
  refine call_fn (σ := ("box", .own b) :: xs.zip (ds.map Loc.val)) (bx := some a) F R hbase hF hFbB (fun _ e => by cases e; exact ha) (by simp [r.length, hlen]) (fun x l e => ?_) (fun A L hb hx hL R => h A L _ _ _ hb hx hF hL R) fun L hb hx fl s' o q => ?_
  · rw [List.lookup_cons] at e
    cases hb : x == "box" with
    | true => rw [hb] at e; cases e; obtain rfl := beq_iff_eq.mp hb; exact ⟨.ref a, .head _, rfl, a, bs, rfl, rfl, hpl, hR⟩
    | false =>
      rw [hb] at e
      have : ∀ {xs : List Str} {vs : List Value} {ds : List D}, Reps s.heap Fb vs ds → (xs.zip (ds.map Loc.val)).lookup x = some l → ∃ v d, l = .val d ∧ (x, v) ∈ xs.zip vs ∧ Rep s.heap Fb v d := by
        intro xs
        induction xs with
        | nil => intro vs ds _ e; cases e
        | cons y xs ih =>
          intro vs ds r e
          cases r with
          | nil => cases e
          | cons a r =>
            rw [List.map_cons, List.zip_cons_cons, List.lookup_cons] at e
            cases hb : x == y with
            | true => rw [hb] at e; cases e; exact ⟨_, _, rfl, by rw [beq_iff_eq.mp hb]; exact .head _, a⟩
            | false => rw [hb] at e; obtain ⟨v, d, h1, h2, h3⟩ := ih r e; exact ⟨v, d, h1, .tail _ h2, h3⟩
      obtain ⟨v, d, rfl, h2, h3⟩ := this r e
      exact ⟨v, .tail _ h2, h3⟩
  · have kk : ∀ {v : Value} {ρ' : Addr → Option Role} {σ' : LS} {T' : List (Value × Tmp)}, StR (fxFn W qual scope L f cdv F.kind (some a) s.heap Fb hb hx hF) ρ' σ' s' T' → ∀ c o, s.heap.get? c = some o → c ≠ a → s'.heap.get? c = some o :=
      fun S' c x e n => S'.keep c x e (fun z => n (Option.some.inj z).symm)
    cases fl with
    | ret v => obtain ⟨d, σ', ⟨b', hb', hΦ⟩, _, ρ', S'⟩ := q; obtain ⟨bs', h1, h2⟩ := boxOut S' rfl hb'; exact ⟨d, b', bs', hΦ, o, kk (v := v) S', h1, h2, Fx.fbMono S' S'.temps.1⟩
    | next => obtain ⟨σ', ⟨b', hb', hΦ⟩, _, ρ', S'⟩ := q; obtain ⟨bs', h1, h2⟩ := boxOut S' rfl hb'; exact ⟨.none, b', bs', hΦ, o, kk (v := .none) S', h1, h2, .none⟩
    | brk => obtain ⟨σ', hΦ, _⟩ := q; exact hΦ.elim
    | cont => obtain ⟨σ', hΦ, _⟩ := q; exact hΦ.elim

theorem CallsB_fn {f : Addr} {qual : Str} {body : List Stmt} {scope : Scope} {cdv : Value} {xs : List Str} {n : Nat} {b : List D} {ds : List D} {Φ : D → List D → Prop} (F : FnAt W.K f qual body scope cdv ("box" :: xs)) (hlen : ds.length = xs.length)
    (h : ∀ A L bx hE Fb hb hx hF, Room A n → Exs (fxFn W qual scope L f cdv F.kind bx hE Fb hb hx hF) A body (("box", .own b) :: xs.zip (ds.map Loc.val)) (RetB Φ)) : CallsB W (n + 1) (.ref f) b ds Φ := CallsB_fnC F hlen fun A L bx hE Fb hb hx hF _ R => h A L bx hE Fb hb hx hF R
/-- a call that hands the box on -/
theorem Ev_CallB {n : Nat} {fe : Expr} {xp : Pos} {es : List Expr} {pos : Pos} {Φ : Tmp → LS → Prop} (R : Room A n)
    (h : Ev C A fe σ fun t σ₁ => ∃ f b, t = .val (.fn f) ∧ keepOk W.K f = true ∧ σ₁.lookup ("box" : Str) = some (.own b) ∧ EvSp C A es σ₁ fun ts σ₂ => ∃ ds b₂, ts = ds.map Tmp.val ∧ σ₂.lookup ("box" : Str) = some (.own b₂) ∧ CallsB W n f b₂ ds fun d b' => Φ (.val d) (upd σ₂ "box" (.own b')))
    (hp : (backTo pos (starEach (.Name "box" xp :: es) C.env)).any (·.1) = false := by rfl)
    (he : eval (.Call fe (.Name "box" xp :: es) [] pos) C.env = (do callWith pos (← eval fe C.env) [] (backTo pos (starEach (.Name "box" xp :: es) C.env)) []) := by rfl) : Ev C A (.Call fe (.Name "box" xp :: es) [] pos) σ Φ := by
  intro s T S
  rw [he]
  refine wpAny_bind (wpNo (h s T S) fun fv s₁ qq1 => ?_)
  refine qq1.elim fun t σ₁ q₀ o₁ S₁ => ?_
  obtain ⟨f, b, ht, hk, hb, h₁⟩ := q₀
  subst ht
  obtain ⟨ρ, S₁, r⟩ := S₁.top1
  (first | (obtain ⟨_, rfl⟩ := Rep.ofInt r) | (obtain ⟨_, rfl⟩ := Rep.ofStr r) | (obtain rfl := Rep.ofBool r) | (obtain rfl := Rep.ofNone r) | (obtain rfl := Rep.ofFn r) | cases r)
  have hsp : EvSp C A (.Name "box" xp :: es) σ₁ fun ts σ₂ => ∃ ds b₂, ts = .own "box" :: ds.map Tmp.val ∧ σ₂.lookup ("box" : Str) = some (.own b₂) ∧ CallsB W n fv b₂ ds fun d b' => Φ (.val d) (upd σ₂ "box" (.own b')) :=
    EvSp_cons (Ev_own hb (fun s T p S => wpNo (h₁ s T p S) fun vs s' ⟨ts, σ', ⟨ds, b₂, e, q⟩, r⟩ => ⟨ts, σ', ⟨ds, b₂, by rw [e], q⟩, r⟩))
  refine wpCallWith hk S₁.inK (wpNo (hsp s₁ _ pos ⟨ρ, S₁⟩) fun vs s₂ qq2 => ?_) hp
  refine qq2.elim fun ts σ₂ q₀ hl o₂ S₂ => ?_
  obtain ⟨ds, b₂, ht, hb₂, h₂⟩ := q₀
  obtain ⟨ρ₂, S₂⟩ := S₂
  subst ht
  refine ⟨S₂.inK, ?_⟩
  rw [List.nil_append]
  cases vs with
  | nil => simp at hl
  | cons v vs =>
    rw [held_cons] at S₂
    have hl' : vs.length = ds.length := by simpa using hl
    obtain ⟨a, bs, rfl, hra, hpl, hR⟩ := StR.ownAt (E := (vs.zip (ds.map Tmp.val)).reverse) (T := (fv, .val (.fn fv)) :: T) S₂ hb₂
    refine wpNo (h₂ A s₂ (FbOf ρ₂) a bs vs R S₂.baseKeep (fun a n => S₂.alive a n) S₂.fbTop (by rw [FbOf, hra]; simp) hpl hR (S₂.vals hl')) fun v s₃ qq3 => ?_
    obtain ⟨d, b', bs', hΦ, o, kk, hpl', hR', rv⟩ := qq3
    have S₃ := StR.drop (E := (vs.zip (ds.map Tmp.val)).reverse ++ [(.ref a, .own "box"), (fv, .val (.fn fv))]) (T := T) (by simpa [held] using S₂) (s' := s₂) fun _ _ e => e
    have S₄ := S₃.ownUpd (s' := s₃) hb₂ (by rw [hra]; rfl) (fun b o n e => kk b o e n) hpl' (l' := b') (by rw [fbOf_map]; exact hR')
    exact ⟨_, _, hΦ, (o₁.trans o₂).trans o, _, S₄.push (by rw [fbOf_map]; exact rv)⟩
end
end Mine
namespace Mine
set_option autoImplicit false
set_option linter.unusedSectionVars false
set_option linter.unusedVariables false

/-- a body of __init__ -/
inductive InitB : List Stmt → List (Str × Option Str) → Prop where
  | nil : InitB [] []
  | name {r : List Stmt} {fs : List (Str × Option Str)} {fld prm : Str} {p1 p2 p3 p4 : Pos} : InitB r fs → InitB (.Assign [.Attribute (.Name "self" p1) fld p2] (.Name prm p3) p4 :: r) ((fld, some prm) :: fs)
  | none {r : List Stmt} {fs : List (Str × Option Str)} {fld : Str} {k : Nat} {p1 p2 p3 p4 : Pos} : InitB r fs → InitB (.Assign [.Attribute (.Name "self" p1) fld p2] (.Constant .none k p3) p4 :: r) ((fld, none) :: fs)
inductive EntF : List DictEntry → List (Str × Value) → Prop where
  | nil : EntF [] []
  | cons {hs : Int} {x : Str} {t : Tok} {v : Value} {es : List DictEntry} {fs : List (Str × Value)} : EntF es fs → EntF (⟨hs, .str x t, v⟩ :: es) ((x, v) :: fs)
theorem EntF.snoc {hs : Int} {x : Str} {t : Tok} {v : Value} {es : List DictEntry} {fs : List (Str × Value)} (r : EntF es fs) : EntF (es ++ [⟨hs, .str x t, v⟩]) (fs ++ [(x, v)]) := by
  induction r with
  | nil => exact .cons .nil
  | cons _ ih => exact .cons ih
theorem EntF.none {x : Str} {es : List DictEntry} {fs : List (Str × Value)} (r : EntF es fs) : x ∉ fs.map (·.1) → (es.any fun e => e.key.isStr x) = false ∧ getL x es = some none ∧ ∀ h k v, putL x h k v es = es ++ [⟨h, k, v⟩] := by
  induction r with
  | nil => exact fun _ => ⟨rfl, rfl, fun _ _ _ => rfl⟩
  | @cons hs y t u es fs r ih =>
    intro n
    have hne : y ≠ x := fun e => n (e ▸ .head _)
    have hk : (Value.str y t).isStr x = false := beq_false_of_ne hne
    have q := ih fun e => n (List.mem_cons_of_mem _ e)
    refine ⟨?_, ?_, fun h k v => ?_⟩
    · rw [List.any_cons, hk, q.1]; rfl
    · rw [getL_cons, if_neg fun e => hne (beq_iff_eq.mp e).symm]; exact q.2.1
    · unfold putL; rw [hk, q.2.2]; rfl
theorem EntF.repF {h : Heap} {Fb : Addr → Prop} {es : List DictEntry} {fs : List (Str × Value)} {ds : List (Str × D)} (r : EntF es fs) : fs.map (·.1) = ds.map (·.1) → Reps h Fb (fs.map (·.2)) (ds.map (·.2)) → RepF h Fb es ds := by
  induction r generalizing ds with
  | nil =>
    intro e _
    cases ds with
    | nil => exact .nil
    | cons _ _ => cases e
  | cons r ih =>
    intro e q
    cases ds with
    | nil => cases e
    | cons p ds =>
      obtain ⟨y, d⟩ := p
      cases q with
      | cons a q =>
        have e1 := List.cons.inj e
        cases e1.1
        exact .cons a (ih e1.2 q)

section
variable {W : Wd} {A : Around} {s : Shared}

theorem initWalk {h₀ : Heap} {L x dx Ca : Addr} {env : Env} {m : Str → Option Value} (hk : env.scope.kind = .function) (hL : env.locals = L) (hself : env.kindOf "self" = some .local) (hm : m "self" = some (.ref x)) (hxd : dx ≠ x)
    (hp : plainOver W.K Ca = true) (hh : (clsIn W.K Ca).any (·.hasDict) = true) (hs : findIn W.K (.ref Ca) "__setattr__" = some (some (.builtin "object.__setattr__"))) :
    ∀ {body : List Stmt} {flds : List (Str × Option Str)}, InitB body flds → ∀ (s : Shared) (es : List DictEntry) (n : Nat) (fv : List (Str × Value)), W.K.In s.heap → Kp h₀ s.heap → W.K.In h₀ → Fr h₀ L s.heap m → News h₀ L s.heap [(x, instObj Ca dx), (dx, dictOf es n)] → EntF es fv →
      (flds.map (·.1)).Nodup → (∀ f ∈ flds, f.1 ∉ fv.map (·.1)) → fv.length + flds.length ≤ 1000 → (∀ f ∈ flds, takerIn W.K Ca f.1 = some none) → (∀ f ∈ flds, ∀ p, f.2 = some p → env.kindOf p = some .local ∧ (m p).isSome = true ∧ (p == ("__debug__" : Str)) = false) →
      wpAny W.M A (execs body env) (fun fl s' => fl = .next ∧ Only s s' ∧ ∃ es' n', Fr h₀ L s'.heap m ∧ News h₀ L s'.heap [(x, instObj Ca dx), (dx, dictOf es' n')] ∧ EntF es' (fv ++ flds.map fun f => (f.1, match f.2 with | some p => (m p).getD .none | none => .none))) NoE s := by
  intro body flds hb
  have step : ∀ (s : Shared) (es : List DictEntry) (n : Nat) (fv : List (Str × Value)) (fld : Str) (v : Value) (p1 p2 : Pos) (Q : Unit → Shared → Prop), W.K.In h₀ → Fr h₀ L s.heap m → News h₀ L s.heap [(x, instObj Ca dx), (dx, dictOf es n)] → EntF es fv → fld ∉ fv.map (·.1) → fv.length < 1000 → takerIn W.K Ca fld = some none →
      (∀ s' es' n', Only s s' → Fr h₀ L s'.heap m → News h₀ L s'.heap [(x, instObj Ca dx), (dx, dictOf es' n')] → EntF es' (fv ++ [(fld, v)]) → Q () s') → wpAny W.M A (eval (.Name "self" p1) env) (fun ov s₂ => wpAny W.M A (setAttr ov fld v) Q NoE s₂) NoE s := by
    intro s es n fv fld v p1 p2 Q X₀ F N hE hn hlen ht hQ
    have X : W.K.In s.heap := X₀.keeps F.keep
    refine wpAny_Name (wpAny_loadName_local hk hself (by rw [hL]; exact F.ns) hm ?_) (by decide)
    have I : InstAt s.heap x (instObj Ca dx) Ca (some (dictOf es n)) := ⟨(N _ (.head _)).1, rfl, rfl, (N _ (.tail _ (.head _))).1⟩
    obtain ⟨h1, h2, h3⟩ := hE.none hn
    have hlen' : es.length = fv.length := by
      clear hQ hn hlen N I h2 h3 h1
      induction hE with
      | nil => rfl
      | cons r ih => simp [ih]
    refine set_plain X I hs ?_
    refine osa_dict (s := { s with toks := s.toks + 1 }) (pre := [(x, instObj Ca dx)]) (post := []) (od' := dictOf (es ++ [⟨PyData.keyHash W.w.params fld, .str fld (s.toks + 1), v⟩]) (n + 1)) (es := es ++ [⟨PyData.keyHash W.w.params fld, .str fld (s.toks + 1), v⟩]) (n := n + 1) F N X I rfl hp ht hh (by rw [lookIn_dict, h2]; rfl) (fun p hp => ?_) (fun p hp => nomatch hp) (by rw [putName_dict, h3]; unfold putN; rw [h1]; rfl) rfl (by simp; omega) fun h' F' N' => ?_
    · simp only [List.mem_singleton] at hp; subst hp; exact Ne.symm hxd
    · exact hQ { s with heap := h', toks := s.toks + 1 + 1 } _ _ ⟨rfl, rfl, rfl⟩ F' N' hE.snoc
  induction hb with
  | nil =>
    intro s es n fv X hkp X₀ F N hE _ _ _ _ _
    exact wpAny_execs_nil ⟨rfl, .refl s, es, n, F, N, by simpa using hE⟩
  | @name r fs fld prm p1 p2 p3 p4 hb ih =>
    intro s es n fv X hkp X₀ F N hE hnd hnew hlen ht hprm
    obtain ⟨k1, k2, k3⟩ := hprm _ (.head _) prm rfl
    obtain ⟨v, hv⟩ := Option.isSome_iff_exists.mp k2
    refine wpAny_execs_cons (plainObj_wpAny_Assign_Attribute (wpAny_Name (wpAny_loadName_local hk k1 (by rw [hL]; exact F.ns) hv ?_) k3))
    refine step s es n fv fld v p1 p2 _ X₀ F N hE (hnew _ (.head _)) (by simp at hlen; omega) (ht _ (.head _)) fun s' es' n' o F' N' hE' => ?_
    refine wpNo (ih s' es' n' _ (X₀.keeps F'.keep) F'.keep X₀ F' N' hE' (List.nodup_cons.mp hnd).2 (fun f hf q => ?_) (by simp at hlen ⊢; omega) (fun f hf => ht f (.tail _ hf)) fun f hf => hprm f (.tail _ hf)) fun fl s'' ⟨h1, h2, h3⟩ => ?_
    · rw [List.map_append, List.mem_append] at q
      rcases q with q | q
      · exact hnew f (.tail _ hf) q
      · simp only [List.map_cons, List.map_nil, List.mem_singleton] at q
        exact (List.nodup_cons.mp hnd).1 (List.mem_map.mpr ⟨f, hf, q⟩)
    · refine ⟨h1, o.trans h2, ?_⟩
      simpa [hv] using h3
  | @none r fs fld k p1 p2 p3 p4 hb ih =>
    intro s es n fv X hkp X₀ F N hE hnd hnew hlen ht hprm
    refine wpAny_execs_cons (plainObj_wpAny_Assign_Attribute (wpAny_Constant_none ?_))
    refine step s es n fv fld .none p1 p2 _ X₀ F N hE (hnew _ (.head _)) (by simp at hlen; omega) (ht _ (.head _)) fun s' es' n' o F' N' hE' => ?_
    refine wpNo (ih s' es' n' _ (X₀.keeps F'.keep) F'.keep X₀ F' N' hE' (List.nodup_cons.mp hnd).2 (fun f hf q => ?_) (by simp at hlen ⊢; omega) (fun f hf => ht f (.tail _ hf)) fun f hf => hprm f (.tail _ hf)) fun fl s'' ⟨h1, h2, h3⟩ => ?_
    · rw [List.map_append, List.mem_append] at q
      rcases q with q | q
      · exact hnew f (.tail _ hf) q
      · simp only [List.map_cons, List.map_nil, List.mem_singleton] at q
        exact (List.nodup_cons.mp hnd).1 (List.mem_map.mpr ⟨f, hf, q⟩)
    · refine ⟨h1, o.trans h2, ?_⟩
      simpa using h3
end
end Mine
namespace Mine
set_option autoImplicit false
set_option linter.unusedSectionVars false
set_option linter.unusedVariables false

/-- an own class with a plain __init__ -/
structure ClsAt (K : Frag) (Ca fI : Addr) (qual : Str) (body : List Stmt) (scope : Scope) (cdv : Value) (xs : List Str) (flds : List (Str × Option Str)) : Prop where
  makes : makesIn K Ca = true
  init : findIn K (.ref Ca) "__init__" = some (some (.ref fI))
  fn : ∃ oc od osl name params dV kV doc pm an ct, K.lookup fI = some ⟨oc, od, .func (fnOf name qual params body scope dV kV doc pm an cdv ct), osl⟩ ∧
    ∀ (s : Shared) (vs : List Value), K.In s.heap → vs.length = xs.length + 1 → BindsTo s (fnOf name qual params body scope dV kV doc pm an cdv ct) ⟨vs, []⟩ ((("self" : Str) :: xs).zip vs)
  isFn : typeIn K (.ref fI) = some (.type "function")
  code : codeIn K cdv qual = true
  co : scope.isCoroutine = false
  gen : scope.isGenerator = false
  kind : scope.kind = .function
  cell : ∀ x ∈ scope.names, x.2 ≠ .cell
  loc : ∀ x ∈ ("self" : Str) :: xs, scope.names.lookup x = some .local
  dbg : ∀ x ∈ xs, (x == ("__debug__" : Str)) = false
  nd : (("self" : Str) :: xs).Nodup
  body : InitB body flds
  fnd : (flds.map (·.1)).Nodup
  small : flds.length ≤ 1000
  prm : ∀ f ∈ flds, ∀ p, f.2 = some p → p ∈ xs
  plain : plainOver K Ca = true
  taker : ∀ f ∈ flds, takerIn K Ca f.1 = some none
  dict : (clsIn K Ca).any (·.hasDict) = true
  set : findIn K (.ref Ca) "__setattr__" = some (some (.builtin "object.__setattr__"))

noncomputable def made (xs : List Str) (flds : List (Str × Option Str)) (ds : List D) : List (Str × D) := flds.map fun f => (f.1, match f.2 with | some p => ((xs.zip ds).lookup p).getD .none | none => .none)

theorem lookup_zip_mem {α : Type} {x : Str} : ∀ {xs : List Str} {vs : List α}, x ∈ xs → vs.length = xs.length → ∃ v, (xs.zip vs).lookup x = some v
  | [], _, h, _ => nomatch h
  | y :: xs, [], _, e => by simp at e
  | y :: xs, v :: vs, h, e => by
    rw [List.zip_cons_cons, List.lookup_cons]
    cases hb : x == y with
    | true => exact ⟨v, rfl⟩
    | false =>
      refine lookup_zip_mem ?_ (by simpa using e)
      rcases List.mem_cons.mp h with rfl | h
      · simp at hb
      · exact h
theorem reps_zip {h : Heap} {Fb : Addr → Prop} {x : Str} : ∀ {xs : List Str} {vs : List Value} {ds : List D}, Reps h Fb vs ds → Rep h Fb (((xs.zip vs).lookup x).getD .none) (((xs.zip ds).lookup x).getD .none)
  | [], _, _, _ => .none
  | y :: xs, _, _, .nil => .none
  | y :: xs, _, _, .cons a r => by
    rw [List.zip_cons_cons, List.zip_cons_cons, List.lookup_cons, List.lookup_cons]
    cases x == y with
    | true => exact a
    | false => exact reps_zip r
theorem lookup_reverse_nodup {α : Type} {x : Str} {v : α} : ∀ {l : List (Str × α)}, (l.map (·.1)).Nodup → l.lookup x = some v → l.reverse.lookup x = some v
  | [], _, e => by cases e
  | (y, u) :: l, hn, e => by
    rw [List.reverse_cons, List.lookup_append]
    obtain ⟨h1, h2⟩ := List.nodup_cons.mp hn
    rw [List.lookup_cons] at e
    cases hb : x == y with
    | true =>
      rw [hb] at e; cases e
      obtain rfl := beq_iff_eq.mp hb
      have : l.reverse.lookup x = none := by
        cases q : l.reverse.lookup x with
        | none => rfl
        | some w => exact absurd (List.mem_map.mpr ⟨_, List.mem_reverse.mp (mem_of_lookup q), rfl⟩) h1
      rw [this, List.lookup_cons, hb]; rfl
    | false =>
      rw [hb] at e
      rw [lookup_reverse_nodup h2 e]; rfl

section
variable {W : Wd} {A : Around} {s : Shared}
theorem Calls_cls {Ca fI : Addr} {qual : Str} {body : List Stmt} {scope : Scope} {cdv : Value} {xs : List Str} {flds : List (Str × Option Str)} {n : Nat} {ds : List D} {Φ : D → Prop} (F : ClsAt W.K Ca fI qual body scope cdv xs flds) (hlen : ds.length = xs.length)
    (h : Φ (.inst Ca (made xs flds ds))) : Calls W n (.ref Ca) ds Φ := by
  rintro A ⟨hp, g, d, t, os⟩ Fb vs R hbase hF hFbB r
  obtain ⟨oc, od, osl, name, params, dV, kV, doc, pm, an, ct, hl, hbind⟩ := F.fn
  have X : W.K.In hp := W.X.keeps hbase
  refine wpAny_call (make_core (makes_of X F.makes) (looks_findIn X F.init) (fun self => bind_fn X self F.isFn) (.inl rfl) ?_)
  have k2 : Kp hp ((hp.push emptyDict).push (instObj Ca hp.objs.size)) := fun b o e => Heap.get?_push_of_some _ (Heap.get?_push_of_some _ e)
  have X2 := X.keeps k2
  have hvl : vs.length = xs.length := by rw [r.length, hlen]
  have gI : ((hp.push emptyDict).push (instObj Ca hp.objs.size)).get? (hp.objs.size + 1) = some (instObj Ca hp.objs.size) := by
    have := Heap.get?_push_size (hp.push emptyDict) (o := instObj Ca hp.objs.size) rfl
    rwa [Heap.size_push] at this
  have gD : ((hp.push emptyDict).push (instObj Ca hp.objs.size)).get? hp.objs.size = some (dictOf [] 0) := Heap.get?_push_of_some _ (Heap.get?_push_size _ rfl)
  have sz : ((hp.push emptyDict).push (instObj Ca hp.objs.size)).objs.size = hp.objs.size + 2 := by rw [Heap.size_push, Heap.size_push]
  refine codeAny_call_def (fd := fnOf name qual params body scope dV kV doc pm an cdv ct) (body := body) (binds := (("self" : Str) :: xs).zip (.ref (hp.objs.size + 1) :: vs)) (by have := R.depth; show A.depth + 1 < _; omega) (X2 _ _ hl) rfl (W.T.nolimit.keeps fun b o e => k2 b o (hbase b o e)) (codeRec_of X2 F.code) rfl
    (hbind _ _ X2 (by simp [hvl])) F.cell (fun p hp => F.loc _ (List.of_mem_zip (show (p.1, p.2) ∈ _ from hp)).1) (fun h₁ hns k₁ => ?_) F.co F.gen F.kind
  have hnd : (((("self" : Str) :: xs).zip (.ref (hp.objs.size + 1) :: vs)).map (·.1)).Nodup := by rw [map_fst_zip (by simp [hvl])]; exact F.nd
  have hmm : ∀ {p : Str} {v : Value}, ((("self" : Str) :: xs).zip (.ref (hp.objs.size + 1) :: vs)).lookup p = some v → ((("self" : Str) :: xs).zip (.ref (hp.objs.size + 1) :: vs)).reverse.lookup p = some v := fun e => lookup_reverse_nodup hnd e
  have hprm : ∀ p ∈ xs, ∃ v, ((("self" : Str) :: xs).zip (.ref (hp.objs.size + 1) :: vs)).reverse.lookup p = some v ∧ (xs.zip vs).lookup p = some v := fun p hpx => by
    obtain ⟨v, hv⟩ := lookup_zip_mem hpx hvl
    refine ⟨v, hmm ?_, hv⟩
    rw [List.zip_cons_cons, List.lookup_cons]
    have : (p == ("self" : Str)) = false := by
      have := (List.nodup_cons.mp F.nd).1
      cases q : p == ("self" : Str) with
      | false => rfl
      | true => rw [beq_iff_eq.mp q] at hpx; exact absurd hpx this
    rw [this]; exact hv
  rw [sz] at hns
  have N : News hp (hp.objs.size + 2) h₁ [(hp.objs.size + 1, instObj Ca hp.objs.size), (hp.objs.size, dictOf [] 0)] := fun p hp' => by
    simp only [List.mem_cons, List.not_mem_nil, or_false] at hp'
    rcases hp' with rfl | rfl
    · exact ⟨k₁ _ _ gI, Nat.ne_of_lt (Nat.lt_succ_self _), Heap.get?_none_of_le (Nat.le_succ _)⟩
    · exact ⟨k₁ _ _ gD, Nat.ne_of_lt (by omega), Heap.get?_none_of_le (Nat.le_refl _)⟩
  have Fr₁ : Fr hp (hp.objs.size + 2) h₁ (fun x => ((("self" : Str) :: xs).zip (.ref (hp.objs.size + 1) :: vs)).reverse.lookup x) := ⟨hns, fun b o e => k₁ b o (k2 b o e), Nat.le_add_right _ _⟩
  have hk0 : (callEnv (fnOf name qual params body scope dV kV doc pm an cdv ct) ((hp.push emptyDict).push (instObj Ca hp.objs.size)).objs.size fI).scope.kind = .function := F.kind
  refine wpAny_mono (initWalk (W := W) (h₀ := hp) (L := hp.objs.size + 2) (x := hp.objs.size + 1) (dx := hp.objs.size) (Ca := Ca) hk0 sz (F.loc _ (.head _)) (hmm (by rw [List.zip_cons_cons, List.lookup_cons]; simp)) (Nat.ne_of_lt (Nat.lt_succ_self _)) F.plain F.dict F.set
    F.body _ [] 0 [] (X.keeps Fr₁.keep) Fr₁.keep X Fr₁ N .nil F.fnd (fun f _ q => nomatch q) (by simpa using F.small) F.taker (fun f hf p hp' => ?_)) (fun fl s' ⟨h1, o, es', n', F', N', hE⟩ => ?_) fun _ _ e => e.elim
  · have hpx := F.prm f hf p hp'
    obtain ⟨v, hv, _⟩ := hprm p hpx
    exact ⟨F.loc _ (.tail _ hpx), by rw [hv]; rfl, F.dbg p hpx⟩
  · subst h1
    refine ⟨rfl, .inst Ca (made xs flds ds), h, Only.trans ⟨rfl, rfl, rfl⟩ o, F'.keep, ?_⟩
    have nFb : ∀ {b : Addr} {o : Obj}, s'.heap.get? b = some o → hp.get? b = none → ¬ Fb b := fun _ e q => by obtain ⟨o, ho⟩ := hF _ q; rw [e] at ho; cases ho
    refine Rep.inst (nFb (N' _ (.head _)).1 (N' _ (.head _)).2.2) (nFb (N' _ (.tail _ (.head _))).1 (N' _ (.tail _ (.head _))).2.2) (N' _ (.head _)).1 (N' _ (.tail _ (.head _))).1 ?_
    refine hE.repF ?_ ?_
    · simp [made]
    · have r' := Reps.keep (h' := s'.heap) r F'.keep
      have : ∀ {flds : List (Str × Option Str)}, (∀ f ∈ flds, ∀ p, f.2 = some p → p ∈ xs) → Reps s'.heap Fb ((flds.map fun f => (f.1, match f.2 with | some p => (((("self" : Str) :: xs).zip (.ref (hp.objs.size + 1) :: vs)).reverse.lookup p).getD .none | none => Value.none)).map (·.2)) ((made xs flds ds).map (·.2)) := by
        intro flds
        induction flds with
        | nil => intro _; exact .nil
        | cons f fs ih =>
          intro hq
          refine .cons ?_ (ih fun g hg => hq g (.tail _ hg))
          obtain ⟨fn, fp⟩ := f
          cases fp with
          | none => exact .none
          | some p =>
            obtain ⟨v, h1, h2⟩ := hprm p (hq _ (.head _) p rfl)
            show Rep _ _ ((List.lookup p _).getD .none) _
            rw [h1, ← h2]
            exact reps_zip r'
      exact this F.prm
end
end Mine
namespace Mine
set_option autoImplicit false
set_option linter.unusedSectionVars false
set_option linter.unusedVariables false
set_option maxRecDepth 100000

theorem strsAre_of {h : Heap} {Fb : Addr → Prop} : ∀ {vs : List Value} {ys : List Str}, Reps h Fb vs (ys.map D.str) → StrsAre vs ys
  | _, [], .nil => .nil
  | _, y :: ys, .cons a r => by cases a; exact .cons _ _ (strsAre_of r)
theorem Reps.replicate {h : Heap} {Fb : Addr → Prop} {v : Value} {d : D} (r : Rep h Fb v d) : ∀ n : Nat, Reps h Fb (List.replicate n v) (List.replicate n d)
  | 0 => .nil
  | n + 1 => .cons r (Reps.replicate r n)

section
variable {W : Wd} {C : Fx W} {A : Around} {σ σ' : LS} {s s' : Shared} {T : List (Value × Tmp)} {ρ ρ' : Addr → Option Role}

/-- a new list is made, and nothing else has changed -/
theorem StR.newList {E : List (Value × Tmp)} {vs : List Value} {ds : List D} (S : StR C ρ σ s (E ++ T)) (R : Reps s.heap (FbOf ρ) vs ds) {h' : Heap} {a : Addr} {n tk : Nat} (hk : Kp s.heap h') (ha : s.heap.get? a = none) (hg : h'.get? a = some { cls := .type "list", dict := none, data := .seq vs.toArray n, slots := #[] }) :
    St C σ { s with heap := h', toks := tk } ((.ref a, .fresh ds) :: T) := by
  have S₁ := StR.drop S (s' := s) fun _ _ e => e
  refine ⟨_, S₁.alloc (s' := { s with heap := h', toks := tk }) hk ha ⟨_, hg⟩ ⟨a, vs.toArray, rfl, setR_self _ _ _, ⟨n, hg⟩, ?_⟩⟩
  refine Reps.mono (fun b o e _ => hk b o e) (fun b q => ?_) R
  by_cases hb : b = a
  · exact .inr (hb ▸ ha)
  · rw [FbOf, setR_ne hb] at q
    exact .inl fun z => q (by rw [z]; rfl)
theorem StR.newList0 {E : List (Value × Tmp)} {vs : List Value} {ds : List D} (S : StR C ρ σ s (E ++ T)) (R : Reps s.heap (FbOf ρ) vs ds) (tk : Nat) :
    St C σ { s with heap := s.heap.push { cls := .type "list", data := .seq vs.toArray }, toks := tk } ((.ref s.heap.objs.size, .fresh ds) :: T) :=
  S.newList R (kp_push _ _) (Heap.get?_none_of_le (Nat.le_refl _)) (Heap.get?_push_size _ rfl)
/-- a list expression, new and nobody else's -/
theorem Ev_ListF {es : List Expr} {pos : Pos} {Φ : Tmp → LS → Prop} (h : EvSp C A es σ fun ts σ₁ => ∃ ds, ts = ds.map Tmp.val ∧ ds.length ≤ sizeLine ∧ Φ (.fresh ds) σ₁) : Ev C A (.List es pos) σ Φ :=
  fun s T S => List_ (wpNo (h s T pos S) fun vs s₁ p7 => p7.elim fun ts σ₁ p7i hl o₁ S₁ => by
    obtain ⟨ds, ht, hz, h₁⟩ := p7i
    obtain ⟨ρ, S₁⟩ := S₁
    subst ht
    rw [List.length_map] at hl
    refine wpAny_newList ?_ (by rw [hl]; exact hz)
    exact ⟨_, σ₁, h₁, o₁.trans ⟨rfl, rfl, rfl⟩, S₁.newList0 (S₁.vals hl) _⟩)
theorem Op2.thaw {f : Value → Value → Sem Value} {t₁ t₂ : Tmp} {Φ : Tmp → LS → Prop} (h : Op2 C A f t₁ t₂ σ fun t σ₁ => ∃ l, t = .fresh l ∧ Φ (.val (.list l)) σ₁) : Op2 C A f t₁ t₂ σ Φ :=
  fun s T v₁ v₂ S => wpNo (h s T v₁ v₂ S) fun v s₁ p8 => p8.elim fun t σ₁ p8i o₁ S₁ => by obtain ⟨l, ht, h₁⟩ := p8i; obtain ⟨ρ₁, S₁⟩ := S₁; subst ht; exact ⟨_, σ₁, h₁, o₁, S₁.thaw⟩

theorem Op2_addList {l m : List D} {Φ : Tmp → LS → Prop} (hz : l.length + m.length ≤ sizeLine) (h : Φ (.fresh (l ++ m)) σ) : Op2 C A (binaryOp .Add) (.val (.list l)) (.val (.list m)) σ Φ := by
  intro s T v₁ v₂ S
  obtain ⟨ρ, S, r₁, r₂⟩ := S.top2
  obtain ⟨a, vs, rfl, na, ha, qa⟩ := Rep.ofList r₂
  obtain ⟨b, ws, rfl, nb, hb, qb⟩ := Rep.ofList r₁
  obtain ⟨⟨cls, dd, data, sl⟩, ho, hc, n, hd⟩ := id ha
  obtain ⟨⟨cls2, dd2, data2, sl2⟩, ho2, hc2, n2, hd2⟩ := id hb
  simp only at hc hd hc2 hd2
  subst hc hd hc2 hd2
  have e : vs.toArray ++ ws.toArray = (vs ++ ws).toArray := by simp
  refine concat_meets ⟨_, ho, rfl⟩ ⟨_, ho2, rfl⟩ noFill_list_add seq_list_add PySem.F.slot_list_add PySem.F.entry_list_add (PySem.F.args_list_add_2 _ _) (list_addW a b vs.toArray ws.toArray n n2 dd dd2 sl sl2 (by simp [qa.length, qb.length]; exact hz)) ⟨ho, ho2, ?_⟩
  rw [e]
  exact ⟨_, σ, h, ⟨rfl, rfl, rfl⟩, S.newList0 (E := [_, _]) (qa.append qb) _⟩
theorem mulList_core {l : Addr} {vs : List Value} {x : Int} {u : Tok} {Q : Value → Shared → Prop} (hl : s.heap.IsList l vs.toArray) (hlo : -(2 ^ 63 : Int) ≤ x) (hhi : x < 2 ^ 63) (hsz : vs.length * x.toNat ≤ 2 ^ 24)
    (h : Q (.ref s.heap.objs.size) { s with heap := s.heap.push { cls := .type "list", data := .seq (List.replicate x.toNat vs).flatten.toArray } }) : wpAny W.M A (binaryOp .Mult (.ref l) (.int x u)) Q NoE s := by
  obtain ⟨⟨cls, d, data, sl⟩, ho, hcl, k, hd⟩ := id hl
  simp only at hcl hd
  subst hcl hd
  have hsz' : vs.toArray.size * x.toNat ≤ 2 ^ 24 := by simpa using hsz
  refine wpAny_binaryOp_repeat_ref (T := "list") (U := "int") (by decide) ⟨_, ho, rfl⟩ (fun s' => typeIs_int s' x u) noFill_list_mul F.fills_int_mul F.slot_int_rmul repeat_list F.slot_int_index.lookup
    (call_meets F.slot_int_rmul (typeIs_int s x u) F.entry_int_rmul (F.args_int_rmul_2 _ _) (lm_int_rmul_list_any x u l vs.toArray k d sl)
      ⟨ho, rfl, ⟨_, ho, rfl⟩, call_meets F.slot_list_mul ⟨_, ho, rfl⟩ F.entry_list_mul (F.args_list_mul_2 _ _)
        (lm_list_mul_any l vs.toArray k d sl x u (by simp [Builtin.List.listFitsIndex]; omega) (by omega) (by simp [Builtin.List.listTooLong, sizeLine]; omega))
        ⟨ho, ?_⟩⟩)
  rw [listMul_foldl_if]
  exact h
theorem rep_one {α : Type} (v : α) : ∀ k : Nat, (List.replicate k [v]).flatten = List.replicate k v
  | 0 => rfl
  | n + 1 => by simp [List.replicate_succ, rep_one v n]
theorem Op2_mulList {d : D} {k : Int} {Φ : Tmp → LS → Prop} (h0 : 0 ≤ k) (hz : k ≤ 16777216) (h : Φ (.fresh (List.replicate k.toNat d)) σ) : Op2 C A (binaryOp .Mult) (.val (.list [d])) (.val (.int k)) σ Φ := by
  intro s T v₁ v₂ S
  obtain ⟨ρ, S, r₁, r₂⟩ := S.top2
  obtain ⟨u, rfl⟩ := Rep.ofInt r₁
  obtain ⟨l, vs, rfl, na, hl, qa⟩ := Rep.ofList r₂
  cases qa with
  | @cons v _ _ _ rv rn =>
  (first | (obtain ⟨_, rfl⟩ := Rep.ofInt rn) | (obtain ⟨_, rfl⟩ := Rep.ofStr rn) | (obtain rfl := Rep.ofBool rn) | (obtain rfl := Rep.ofNone rn) | (obtain rfl := Rep.ofFn rn) | cases rn)
  refine mulList_core hl (by omega) (by omega) (by simp; omega) ?_
  rw [rep_one]
  exact ⟨_, σ, h, ⟨rfl, rfl, rfl⟩, S.newList0 (E := [_, _]) (Reps.replicate rv _) _⟩

theorem Op2_inTup {x : Str} {ys : List Str} {Φ : Tmp → LS → Prop} (h : Φ (.val (.bool (ys.any (· == x)))) σ) : Op2 C A (compareOp .In) (.val (.str x)) (.val (.tup (ys.map D.str))) σ Φ := by
  intro s T v₁ v₂ S
  obtain ⟨ρ, S, r₁, r₂⟩ := S.top2
  (first | (obtain ⟨_, rfl⟩ := Rep.ofInt r₂) | (obtain ⟨_, rfl⟩ := Rep.ofStr r₂) | (obtain rfl := Rep.ofBool r₂) | (obtain rfl := Rep.ofNone r₂) | (obtain rfl := Rep.ofFn r₂) | cases r₂)
  obtain ⟨a, vs, rfl, n, ht, q⟩ := Rep.ofTup r₁
  exact in_tuple_strs ht (by simpa using strsAre_of q) (St.out0 (E := [_, _]) S h (.bool _))
/- calls of builtins on data -/
theorem Calls_len {n : Nat} {l : List D} {Φ : D → Prop} (hz : l.length < 2 ^ 63) (h : Φ (.int l.length)) : Calls W n (.builtin "len") [.list l] Φ := by
  intro A s Fb vs R hb hF hB r
  obtain ⟨_, rfl, a⟩ := Reps.one r
  obtain ⟨a, vs, rfl, nf, hl, q⟩ := Rep.ofList a
  have e : vs.toArray.size = l.length := by simp [q.length]
  refine Calls.call_len_list hl (by rw [e]; exact_mod_cast hz) ?_
  rw [e]
  exact ⟨_, h, ⟨rfl, rfl, rfl⟩, fun _ _ e => e, .int _ _⟩
theorem Calls_range {n : Nat} {k : Int} {Φ : D → Prop} (h : Φ (.rng k)) : Calls W n (.type "range") [.int k] Φ := by
  intro A s Fb vs R hb hF hB r
  obtain ⟨_, rfl, a⟩ := Reps.one r
  cases a
  refine call_range_1 ⟨_, h, ⟨rfl, rfl, rfl⟩, kp_push _ _, .rng (fun q => ?_) (IsRange.new _ _ _ _ _ _ _)⟩
  obtain ⟨o, ho⟩ := hF _ q
  exact Nat.lt_irrefl _ (Heap.lt_size ho)
theorem Calls_abs {n : Nat} {k : Int} {Φ : D → Prop} (h : Φ (.int (if k < 0 then -k else k))) : Calls W n (.builtin "abs") [.int k] Φ := by
  intro A s Fb vs R hb hF hB r
  obtain ⟨_, rfl, a⟩ := Reps.one r
  cases a
  exact call_abs_int fun u tk => ⟨_, h, ⟨rfl, rfl, rfl⟩, fun _ _ e => e, .int _ _⟩
theorem Calls_max {n : Nat} {a b : Int} {Φ : D → Prop} (h : Φ (.int (if b > a then b else a))) : Calls W n (.builtin "max") [.int a, .int b] Φ := by
  intro A s Fb vs R hb hF hB r
  obtain ⟨_, _, rfl, x, y⟩ := Reps.two r
  cases x; cases y
  refine max_two_ints R.handled fun h' tk hk => ⟨_, h, ⟨rfl, rfl, rfl⟩, hk, ?_⟩
  split
  · exact .int _ _
  · exact .int _ _
theorem Calls_intBool {n : Nat} {b : Bool} {Φ : D → Prop} (h : Φ (.int (if b then 1 else 0))) : Calls W n (.type "int") [.bool b] Φ := by
  intro A s Fb vs R hb hF hB r
  obtain ⟨_, rfl, x⟩ := Reps.one r
  cases x
  exact call_int_bool ⟨_, h, ⟨rfl, rfl, rfl⟩, fun _ _ e => e, .int _ _⟩
noncomputable def D.isBool : D → Bool
  | .bool _ => true
  | _ => false
/-- the plain values -/
noncomputable def D.scalar : D → Bool
  | .none | .bool _ | .int _ | .str _ => true
  | _ => false
theorem Calls_isBool {n : Nat} {d : D} {Φ : D → Prop} (hd : d.scalar = true) (h : Φ (.bool d.isBool)) : Calls W n (.builtin "isinstance") [d, .fn (.type "bool")] Φ := by
  intro A s Fb vs R hb hF hB r
  obtain ⟨_, _, rfl, x, y⟩ := Reps.two r
  cases y
  cases x with
  | none => exact IsiPair.NoneType_bool ⟨_, h, ⟨rfl, rfl, rfl⟩, fun _ _ e => e, .bool _⟩
  | bool b => exact IsiPair.bool_bool ⟨_, h, ⟨rfl, rfl, rfl⟩, fun _ _ e => e, .bool _⟩
  | int i t => exact IsiPair.int_bool ⟨_, h, ⟨rfl, rfl, rfl⟩, fun _ _ e => e, .bool _⟩
  | str x t => exact IsiPair.str_bool ⟨_, h, ⟨rfl, rfl, rfl⟩, fun _ _ e => e, .bool _⟩
  | _ => cases hd
end
end Mine
namespace Mine
set_option autoImplicit false
set_option linter.unusedSectionVars false
set_option linter.unusedVariables false
set_option maxRecDepth 100000
theorem any_strs (x : Str) {vs : List Value} {ys : List Str} (h : StrsAre vs ys) : (vs.any fun v => match v with | .str y _ => y == x | _ => false) = ys.any (· == x) := by
  induction h with
  | nil => rfl
  | cons y t r ih => simp only [List.any_cons, ih]
section
variable {W : Wd} {C : Fx W} {A : Around} {σ σ' : LS} {s s' : Shared} {T : List (Value × Tmp)} {ρ ρ' : Addr → Option Role}

/- a <= b < c on ints -/
theorem Ev_Chain {l m r : Expr} {pos : Pos} {i j k : Int} {Φ : Tmp → LS → Prop}
    (h : Ev C A l σ fun t₁ σ₁ => t₁ = .val (.int i) ∧ Ev C A m σ₁ fun t₂ σ₂ => t₂ = .val (.int j) ∧ (¬ i ≤ j → Φ (.val (.bool false)) σ₂) ∧ (i ≤ j → Ev C A r σ₂ fun t₃ σ₃ => t₃ = .val (.int k) ∧ Φ (.val (.bool (decide (j < k)))) σ₃))
    (hm : lastMarks [.LtE, .Lt] [m, r] = false := by with_unfolding_all rfl) : Ev C A (.Compare l [.LtE, .Lt] [m, r] pos) σ Φ :=
  fun s T S => Compare_chain (wpNo (h s T S) fun v₁ s₁ ⟨t₁, σ₁, ⟨e₁, h₁⟩, o₁, S₁⟩ => chain_link (wpNo (h₁ s₁ _ S₁) fun v₂ s₂ p9 => p9.elim fun t₂ σ₂ p9i o₂ S₂ => by
    obtain ⟨e₂, hn, hy⟩ := p9i
    subst e₁ e₂
    obtain ⟨ρ₂, S₂, r₁, r₂⟩ := S₂.top2
    obtain ⟨tj, rfl⟩ := Rep.ofInt r₁
    obtain ⟨ti, rfl⟩ := Rep.ofInt r₂
    refine le_int (wpAny_truthy_bool ?_)
    by_cases hij : i ≤ j
    · rw [decide_eq_true hij, if_pos rfl]
      have S₂' := StR.drop (E := [_, _]) S₂ (s' := s₂) fun _ _ e => e
      have S₃ := S₂'.push (v := Value.int j tj) (d := .int j) (.int j tj)
      exact chain_last (wpNo (hy hij s₂ _ ⟨_, S₃⟩) fun v₃ s₃ p10 => p10.elim fun t₃ σ₃ p10i o₃ S₄ => by
        obtain ⟨e₃, h₃⟩ := p10i
        subst e₃
        obtain ⟨ρ₃, S₄, r₃, r₄⟩ := S₄.top2
        (first | (obtain ⟨_, rfl⟩ := Rep.ofInt r₃) | (obtain ⟨_, rfl⟩ := Rep.ofStr r₃) | (obtain rfl := Rep.ofBool r₃) | (obtain rfl := Rep.ofNone r₃) | (obtain rfl := Rep.ofFn r₃) | cases r₃)
        (first | (obtain ⟨_, rfl⟩ := Rep.ofInt r₄) | (obtain ⟨_, rfl⟩ := Rep.ofStr r₄) | (obtain rfl := Rep.ofBool r₄) | (obtain rfl := Rep.ofNone r₄) | (obtain rfl := Rep.ofFn r₄) | cases r₄)
        exact wpAny_lt_int ⟨_, _, h₃, (o₁.trans o₂).trans o₃, S₄.step (E := [_, _]) (fun _ _ e => e) (.bool _)⟩)
    · rw [decide_eq_false hij, if_neg (by decide)]
      exact ⟨_, _, hn hij, o₁.trans o₂, S₂.step (E := [_, _]) (fun _ _ e => e) (.bool _)⟩)) hm

noncomputable def D.isTrue : D → Bool
  | .bool b => b
  | _ => false
theorem Op2_isTrue {d : D} {Φ : Tmp → LS → Prop} (hd : d.scalar = true) (h : Φ (.val (.bool d.isTrue)) σ) : Op2 C A (compareOp .Is) (.val d) (.val (.bool true)) σ Φ := by
  intro s T v₁ v₂ S
  obtain ⟨ρ, S, r₁, r₂⟩ := S.top2
  (first | (obtain ⟨_, rfl⟩ := Rep.ofInt r₁) | (obtain ⟨_, rfl⟩ := Rep.ofStr r₁) | (obtain rfl := Rep.ofBool r₁) | (obtain rfl := Rep.ofNone r₁) | (obtain rfl := Rep.ofFn r₁) | cases r₁)
  have out : EvPost C s T Φ (.bool d.isTrue) s := St.out0 (E := [_, _]) S h (.bool _)
  cases r₂ with
  | none => exact wpAny_is_plain rfl out
  | bool b => refine wpAny_is_plain rfl ?_; cases b <;> exact out
  | int i t => exact wpAny_is_plain rfl out
  | str x t => exact wpAny_is_plain rfl out
  | _ => cases hd

theorem Op2_inList {x : Str} {ys : List Str} {Φ : Tmp → LS → Prop} (h : Φ (.val (.bool (ys.any (· == x)))) σ) : Op2 C A (compareOp .In) (.val (.str x)) (.val (.list (ys.map D.str))) σ Φ := by
  intro s T v₁ v₂ S
  obtain ⟨ρ, S, r₁, r₂⟩ := S.top2
  obtain ⟨t, rfl⟩ := Rep.ofStr r₂
  obtain ⟨a, vs, rfl, n, hl, q⟩ := Rep.ofList r₁
  have qs := strsAre_of q
  refine SeqAt.in_listAt (fun v => match v with | .str y _ => y == x | _ => false) hl (fun y hy => ?_) ?_
  · obtain ⟨z, u, rfl⟩ := qs.all y (by simpa using hy)
    exact SeqAt.EqAt.str_str _ _ _ _
  · have e := any_strs x qs
    rw [List.any_toArray]
    rw [e]
    exact St.out0 (E := [_, _]) S h (.bool _)

/- slices up to a number -/
theorem Ev_SliceNil {e : Expr} {j : Int} {k : Nat} {p p' pos : Pos} {Φ : Tmp → LS → Prop} (h : Ev C A e σ fun t σ₁ => t = .val (.list []) ∧ Φ (.val (.list [])) σ₁)
    (ht : ∀ o r, letTemporaryGo e o r = pure () := by intro _ _; rfl) : Ev C A (.Subscript e (.Slice none (some (.Constant (.int j) k p)) none p') pos) σ Φ := by
  intro s T S
  refine wpAny_Subscript_list_slice (wpNo (h s T S) fun v s₁ ⟨t, σ₁, ⟨e, h₁⟩, o₁, ρ₁, S₁⟩ => wpAny_pure ?_) ht
  show wpAny _ _ (eval (.Constant (.int j) k p) C.env) _ _ _
  refine wpAny_Constant_int ?_
  subst e
  have r := S₁.temps.1
  obtain ⟨a, vs, rfl, n, hl, q⟩ := Rep.ofList r
  cases q
  refine ⟨a, #[], none, some j, rfl, hl, Nat.zero_le _, .none, .int _ _, _, _, h₁, o₁.trans ⟨rfl, rfl, rfl⟩, ?_⟩
  have e0 : slicePick #[] none (some j) none = #[] := by
    unfold slicePick
    simp only [Array.size_empty]
    congr 1
    exact List.filterMap_eq_nil_iff.mpr fun i _ => by simp
  rw [e0]
  have hk : Kp s₁.heap ((s₁.heap.push { cls := .type "slice", data := .fields #[.none, .int j s₁.toks, .none] }).push { cls := .type "list", data := .seq #[] }) := fun b o e => Heap.get?_push_of_some _ (Heap.get?_push_of_some _ e)
  have hg := Heap.get?_push_size (s₁.heap.push { cls := .type "slice", data := .fields #[.none, .int j s₁.toks, .none] }) (o := { cls := .type "list", data := .seq #[] }) rfl
  rw [Heap.size_push] at hg
  refine S₁.step (E := [_]) (s' := { s₁ with heap := _, toks := _ }) hk (.list (vs := []) (fun q => ?_) ⟨_, hg, rfl, 0, rfl⟩ .nil)
  obtain ⟨o, ho⟩ := S₁.alive _ q
  exact absurd (Heap.lt_size ho) (Nat.not_lt.mpr (Nat.le_succ _))

/-- len of an own list -/
theorem Ev_lenOwn {fe : Expr} {x : Str} {xp pos : Pos} {l : List D} {Φ : Tmp → LS → Prop} (h : Ev C A fe σ fun t σ₁ => t = .val (.fn (.builtin "len")) ∧ σ₁.lookup x = some (.own l) ∧ l.length < 2 ^ 63 ∧ Φ (.val (.int l.length)) σ₁) (hd : (x == ("__debug__" : Str)) = false := by decide)
    (hp : (backTo pos (starEach [.Name x xp] C.env)).any (·.1) = false := by rfl)
    (he : eval (.Call fe [.Name x xp] [] pos) C.env = (do callWith pos (← eval fe C.env) [] (backTo pos (starEach [.Name x xp] C.env)) []) := by rfl) : Ev C A (.Call fe [.Name x xp] [] pos) σ Φ := by
  intro s T S
  rw [he]
  refine wpAny_bind (wpNo (h s T S) fun fv s₁ qq1 => ?_)
  refine qq1.elim fun t σ₁ q₀ o₁ S₁ => ?_
  obtain ⟨ht, ho, hz, h₁⟩ := q₀
  subst ht
  obtain ⟨ρ, S₁, r⟩ := S₁.top1
  (first | (obtain ⟨_, rfl⟩ := Rep.ofInt r) | (obtain ⟨_, rfl⟩ := Rep.ofStr r) | (obtain rfl := Rep.ofBool r) | (obtain rfl := Rep.ofNone r) | (obtain rfl := Rep.ofFn r) | cases r)
  have hsp : EvSp C A [.Name x xp] σ₁ fun ts σ₂ => ts = [.own x] ∧ σ₂ = σ₁ := EvSp_cons (Ev_own ho (EvSp_nil ⟨rfl, rfl⟩) hd)
  refine wpCallWith rfl S₁.inK (wpNo (hsp s₁ _ pos ⟨ρ, S₁⟩) fun vs s₂ qq2 => ?_) hp
  refine qq2.elim fun ts σ₂ q₀ hl o₂ S₂ => ?_
  obtain ⟨ht, e₂⟩ := q₀
  obtain ⟨ρ₂, S₂⟩ := S₂
  subst ht e₂
  refine ⟨S₂.inK, ?_⟩
  obtain ⟨v, rfl⟩ := one_of hl
  · obtain ⟨a, ws, rfl, hra, ⟨n, hpl⟩, hR⟩ := S₂.ownAt (E := []) ho
    have e : ws.size = l.length := by rw [← hR.length]; simp
    refine Calls.call_len_list ⟨_, hpl, rfl, n, rfl⟩ (by rw [e]; exact_mod_cast hz) ?_
    rw [e]
    exact ⟨_, _, h₁, (o₁.trans o₂).trans ⟨rfl, rfl, rfl⟩, S₂.step (E := [_, _]) (s' := { s₂ with toks := s₂.toks + 1 + 1 }) (fun _ _ e => e) (.int _ _)⟩

/- calls whose result is a list of nobody else's -/
noncomputable def CallsF (W : Wd) (n : Nat) (f : Value) (ds : List D) (Φ : List D → Prop) : Prop :=
  ∀ (A : Around) (s : Shared) (Fb : Addr → Prop) (vs : List Value), Room A n → Kp W.hB s.heap → (∀ a, Fb a → ∃ o, s.heap.get? a = some o) → (∀ a, Fb a → W.hB.get? a = none) → Reps s.heap Fb vs ds →
    wpAny W.M A (call f vs) (fun v s' => ∃ l a ws n, v = .ref a ∧ Φ l ∧ Only s s' ∧ Kp s.heap s'.heap ∧ s.heap.get? a = none ∧ s'.heap.get? a = some { cls := .type "list", dict := none, data := .seq ws.toArray n, slots := #[] } ∧ Reps s'.heap (fun b => Fb b ∨ b = a) ws l) NoE s
theorem Ev_CallF {n : Nat} {fe : Expr} {es : List Expr} {pos : Pos} {Φ : Tmp → LS → Prop} (R : Room A n)
    (h : Ev C A fe σ fun t σ₁ => ∃ f, t = .val (.fn f) ∧ keepOk W.K f = true ∧ EvSp C A es σ₁ fun ts σ₂ => ∃ ds, ts = ds.map Tmp.val ∧ CallsF W n f ds fun l => Φ (.fresh l) σ₂)
    (hp : (backTo pos (starEach es C.env)).any (·.1) = false := by rfl)
    (he : eval (.Call fe es [] pos) C.env = (do callWith pos (← eval fe C.env) [] (backTo pos (starEach es C.env)) []) := by rfl) : Ev C A (.Call fe es [] pos) σ Φ := by
  intro s T S
  rw [he]
  refine wpAny_bind (wpNo (h s T S) fun fv s₁ qq3 => ?_)
  refine qq3.elim fun t σ₁ q₀ o₁ S₁ => ?_
  obtain ⟨f, ht, hk, h₁⟩ := q₀
  subst ht
  obtain ⟨ρ, S₁, r⟩ := S₁.top1
  (first | (obtain ⟨_, rfl⟩ := Rep.ofInt r) | (obtain ⟨_, rfl⟩ := Rep.ofStr r) | (obtain rfl := Rep.ofBool r) | (obtain rfl := Rep.ofNone r) | (obtain rfl := Rep.ofFn r) | cases r)
  refine wpCallWith hk S₁.inK (wpNo (h₁ s₁ _ pos ⟨ρ, S₁⟩) fun vs s₂ qq4 => ?_) hp
  refine qq4.elim fun ts σ₂ q₀ hl o₂ S₂ => ?_
  obtain ⟨ds, ht, h₂⟩ := q₀
  obtain ⟨ρ₂, S₂⟩ := S₂
  subst ht
  rw [List.length_map] at hl
  refine ⟨S₂.inK, ?_⟩
  rw [List.nil_append]
  refine wpNo (h₂ A s₂ (FbOf ρ₂) vs R S₂.baseKeep (fun a n => S₂.alive a n) S₂.fbTop (S₂.vals hl)) fun v s₃ qq5 => ?_
  obtain ⟨l, a, ws, n, e, hΦ, o₃, hk, ha, hg, hR⟩ := qq5
  subst e
  have S₃ := StR.drop (E := (vs.zip (ds.map Tmp.val)).reverse ++ [(fv, .val (.fn fv))]) (T := T) (by simpa [held] using S₂) (s' := s₂) fun _ _ e => e
  refine ⟨_, _, hΦ, (o₁.trans o₂).trans o₃, _, S₃.alloc (s' := s₃) hk ha ⟨_, hg⟩ ⟨a, ws.toArray, rfl, setR_self _ _ _, ⟨n, hg⟩, ?_⟩⟩
  refine Reps.mono (fun b o e _ => e) (fun b q => .inl ?_) hR
  by_cases hb : b = a
  · exact .inr hb
  · rw [FbOf, setR_ne hb] at q
    exact .inl fun z => q (by rw [z]; rfl)
theorem Reps.fresh {h h' : Heap} {Fb : Addr → Prop} {vs : List Value} {ds : List D} {a : Addr} (R : Reps h Fb vs ds) (hk : Kp h h') (ha : h.get? a = none) : Reps h' (fun b => Fb b ∨ b = a) vs ds :=
  Reps.mono (fun b o e _ => hk b o e) (fun b q => q.elim .inl fun e => .inr (e ▸ ha)) R
theorem Calls_list {n : Nat} {l : List D} {Φ : List D → Prop} (hz : l.length ≤ sizeLine) (h : Φ l) : CallsF W n (.type "list") [.list l] Φ := by
  intro A s Fb vs R hb hF hB r
  obtain ⟨_, rfl, a⟩ := Reps.one r
  obtain ⟨ad, vs, rfl, nf, hl, q⟩ := Rep.ofList a
  obtain ⟨o, ho, hc, k, hd⟩ := hl
  refine call_list_seq ad (.inl rfl) ho hc hd (fun h' c' hk hg => ?_) (by simp [q.length]; exact hz)
  exact ⟨_, _, vs, c', rfl, h, ⟨rfl, rfl, rfl⟩, hk, Heap.get?_none_of_le (Nat.le_refl _), hg, q.fresh hk (Heap.get?_none_of_le (Nat.le_refl _))⟩
end
end Mine
namespace Mine
set_option autoImplicit false
set_option linter.unusedSectionVars false
set_option linter.unusedVariables false

section
variable {W : Wd} {C : Fx W} {A : Around} {σ σ' : LS} {s s' : Shared} {T : List (Value × Tmp)} {ρ ρ' : Addr → Option Role}

noncomputable def tobj (l : List (Addr × Obj)) : List (Value × Tmp) := l.map fun p => (.ref p.1, .obj p.2)
theorem tobj_at {l : List (Addr × Obj)} : ∀ {h : Heap}, TsOk h ρ (tobj l ++ T) → ∀ p ∈ l, (∃ k, ρ p.1 = some (.temp k) ∧ T.length ≤ k) ∧ h.get? p.1 = some p.2 := by
  induction l with
  | nil => intro h _ p hp; cases hp
  | cons q r ih =>
    intro h hS p hp
    rcases List.mem_cons.mp hp with rfl | hp
    · obtain ⟨a, e, h1, h2⟩ := hS.1
      cases e
      exact ⟨⟨_, h1, by simp [tobj]⟩, h2⟩
    · exact ih hS.2 p hp
/-- held objects have changed, each is there -/
theorem StR.advances {l l' : List (Addr × Obj)} (S : StR C ρ σ s (tobj l ++ T)) (hk : ∀ b x, b ∉ l.map (·.1) → s.heap.get? b = some x → s'.heap.get? b = some x) (ha : l'.map (·.1) = l.map (·.1)) (ho : ∀ p ∈ l', s'.heap.get? p.1 = some p.2) : StR C ρ σ s' (tobj l' ++ T) := by
  have hl := tobj_at S.temps
  have off : Off ρ (fun r => ∃ a ∈ l.map (·.1), ρ a = some r) s.heap s'.heap := fun b o e n => hk b o (fun z => by
    obtain ⟨p, hp, rfl⟩ := List.mem_map.mp z
    obtain ⟨⟨k, h1, _⟩, _⟩ := hl p hp
    exact n _ h1 ⟨_, z, h1⟩) e
  have nt : ∀ r, (∃ a ∈ l.map (·.1), ρ a = some r) → ∃ k, r = .temp k ∧ T.length ≤ k := fun r ⟨a, ha, e⟩ => by
    obtain ⟨p, hp, rfl⟩ := List.mem_map.mp ha
    obtain ⟨⟨k, h1, h2⟩, _⟩ := hl p hp
    rw [h1] at e; cases e; exact ⟨k, rfl, h2⟩
  have hlen : l'.length = l.length := by rw [← List.length_map (f := (·.1)), ha, List.length_map]
  have hT0 : TsOk s'.heap ρ T := TsOk.stillR off (TsOk.tail S.temps) fun k h z => by obtain ⟨j, e, hj⟩ := nt _ z; cases e; omega
  refine S.mutR off (fun a r e hr => ?_) (fun z => by obtain ⟨_, e, _⟩ := nt _ z; cases e) (fun z => by obtain ⟨_, e, _⟩ := nt _ z; cases e) (fun _ z => by obtain ⟨_, e, _⟩ := nt _ z; cases e) (fun _ z => by obtain ⟨_, e, _⟩ := nt _ z; cases e) (by simp [tobj, hlen]) ?_
  · obtain ⟨b, hb, hb'⟩ := hr
    obtain ⟨k, rfl, _⟩ := nt r ⟨b, hb, hb'⟩
    have : a = b := S.uniq a b _ (by simp) (by simp) e hb'
    rw [← ha] at hb
    obtain ⟨p, hp, rfl⟩ := List.mem_map.mp hb
    exact ⟨_, this ▸ ho p hp⟩
  · have hS := S.temps
    clear hl off nt S hk
    induction l' generalizing l with
    | nil => simpa [tobj] using hT0
    | cons p r ih =>
      cases l with
      | nil => simp at hlen
      | cons q r' =>
        simp only [List.map_cons, List.cons.injEq] at ha
        refine ⟨?_, ih ha.2 (fun p hp => ho p (.tail _ hp)) (by simpa using hlen) hS.2⟩
        obtain ⟨a, e, h1, h2⟩ := hS.1
        cases e
        have hlen' : (tobj r ++ T).length = (tobj r' ++ T).length := by simp [tobj] at hlen ⊢; omega
        exact ⟨p.1, rfl, by show ρ p.1 = some (.temp (tobj r ++ T).length); rw [hlen', ha.1]; exact h1, ho p (.head _)⟩
theorem StR.forgets {l : List (Addr × Obj)} {E : List (Value × Tmp)} (S : StR C ρ σ s (tobj l ++ (E ++ T))) (hk : ∀ b x, b ∉ l.map (·.1) → s.heap.get? b = some x → s'.heap.get? b = some x) : St C σ s' T := by
  have hl := tobj_at S.temps
  refine StR.forgetS (E := tobj l ++ E) (I := fun b => b ∈ l.map (·.1)) (by rw [List.append_assoc]; exact S) (fun a ha => ?_) hk
  obtain ⟨p, hp, rfl⟩ := List.mem_map.mp ha
  obtain ⟨⟨k, h1, h2⟩, _⟩ := hl p hp
  exact ⟨k, h1, by simp at h2; omega⟩
end
end Mine
namespace Mine
set_option autoImplicit false
set_option linter.unusedSectionVars false
set_option linter.unusedVariables false

noncomputable abbrev zipObj (TI TO : Addr) (f0 : Value) : Obj := { cls := .type "zip", dict := none, data := .fields #[f0, .bool false, .bool false, .ref TI, .ref TO], slots := #[] }
noncomputable abbrev pairObj (a b : Value) : Obj := { cls := .type "tuple", data := .seq #[a, b] }
noncomputable def isIter (o : Obj) (l : Addr) (i : Nat) : Prop := o.cls = .type "list_iterator" ∧ o.data = .fields #[.ref l, .int i 0]
inductive ZipO (z TI TO i1 i2 a1 a2 : Addr) (i : Nat) : List (Addr × Obj) → Prop where
  | mk {a b : Value} {o1 o2 : Obj} : isIter o1 a1 i → isIter o2 a2 i → ZipO z TI TO i1 i2 a1 a2 i [(z, zipObj TI TO .none), (TI, pairObj (.ref i1) (.ref i2)), (TO, pairObj a b), (i1, o1), (i2, o2)]

section
variable {W : Wd} {C : Fx W} {A : Around} {σ σ' : LS} {s s' : Shared} {T : List (Value × Tmp)} {ρ ρ' : Addr → Option Role}

noncomputable def pairs (l m : List D) : List D := (l.zip m).map fun p => D.tup [p.1, p.2]
theorem listAt {a : Addr} {l : List D} {E : List (Value × Tmp)} (S : StR C ρ σ s (E ++ (.ref a, .val (.list l)) :: T)) : ρ a = none ∧ ∃ vs : List Value, s.heap.IsList a vs.toArray ∧ Reps s.heap (FbOf ρ) vs l := by
  have r : Rep s.heap (FbOf ρ) (.ref a) (.list l) := (TsOk.tail S.temps).1
  obtain ⟨_, _, e, n, hl, q⟩ := Rep.ofList r; cases e
  exact ⟨by simpa using n, _, hl, q⟩
theorem neTemp {a b : Addr} {k : Nat} (ha : ρ a = none) (hb : ρ b = some (.temp k)) : a ≠ b := fun e => by rw [e, hb] at ha; cases ha

theorem zipNext {z TI TO i1 i2 a1 a2 : Addr} {l1 l2 : List D} {objs : List (Addr × Obj)} {i : Nat} {x y : D} {elts : List Expr} {k : Nat} {pos : Pos} {Q : Value → Shared → Prop} (Dz : ∀ l1 l2, l1 ≠ z → l1 ≠ TO → l1 ≠ i1 → l1 ≠ i2 → l2 ≠ z → l2 ≠ TO → l2 ≠ i1 → l2 ≠ i2 → ZipApart z TI TO i1 i2 l1 l2)
    (hO : ZipO z TI TO i1 i2 a1 a2 i objs) (hx : l1[i]? = some x) (hy : l2[i]? = some y) (S : StR C ρ σ s (tobj objs ++ (.ref a1, .val (.list l1)) :: (.ref a2, .val (.list l2)) :: T))
    (hQ : ∀ u s' objs', ZipO z TI TO i1 i2 a1 a2 (i + 1) objs' → Only s s' → StR C ρ σ s' (tobj objs' ++ (.ref a1, .val (.list l1)) :: (.ref a2, .val (.list l2)) :: T) → Rep s'.heap (FbOf ρ) u (.tup [x, y]) → Q u s') :
    wpAny W.M A (pyNext (.ref z)) (fun r s₁ => ∃ u, r = some u ∧ wpAny W.M A (letOwnedTupleGo (.Tuple elts k pos) (.ref z) u) (fun _ s₂ => Q u s₂) NoE s₁) NoE s := by
  cases hO with
  | @mk a b o1 o2 h1 h2 =>
  have at_ := tobj_at S.temps
  obtain ⟨⟨kz, rz, -⟩, gz⟩ := at_ (z, _) (.head _)
  obtain ⟨⟨kTI, rTI, -⟩, gTI⟩ := at_ (TI, _) (.tail _ (.head _))
  obtain ⟨⟨kTO, rTO, -⟩, gTO⟩ := at_ (TO, _) (.tail _ (.tail _ (.head _)))
  obtain ⟨⟨k1, r1, -⟩, g1⟩ := at_ (i1, _) (.tail _ (.tail _ (.tail _ (.head _))))
  obtain ⟨⟨k2, r2, -⟩, g2⟩ := at_ (i2, _) (.tail _ (.tail _ (.tail _ (.tail _ (.head _)))))
  obtain ⟨n1, vs1, hl1, q1⟩ := listAt (E := tobj _) S
  obtain ⟨n2, vs2, hl2, q2⟩ := listAt (E := tobj _ ++ [_]) (by rw [List.append_assoc]; exact S)
  have D := Dz a1 a2 (neTemp n1 rz) (neTemp n1 rTO) (neTemp n1 r1) (neTemp n1 r2) (neTemp n2 rz) (neTemp n2 rTO) (neTemp n2 r1) (neTemp n2 r2)
  obtain ⟨ux, hux, rux⟩ := q1.get hx
  obtain ⟨uy, huy, ruy⟩ := q2.get hy
  refine wpAny_pyNext_zip_item D gz gTI gTO ⟨o1, g1, h1⟩ ⟨o2, g2, h2⟩ hl1 hl2 (x := ux) (y := uy) (by simpa using hux) (by simpa using huy) fun h' e1 e2 e3 e4 e5 e6 hk => ?_
  refine ⟨_, rfl, wpAny_letOwnedTupleGo_zip e1 fun h'' f1 f2 => ?_⟩
  have lt : ∀ {c o}, s.heap.get? c = some o → c ≠ s.heap.objs.size := fun e => Nat.ne_of_lt (Heap.lt_size e)
  have up : ∀ c o, c ≠ z → h'.get? c = some o → h''.get? c = some o := fun c o hc e => (f2.2 c hc).trans e
  obtain ⟨o1', g1', c1'⟩ := e3
  obtain ⟨o2', g2', c2'⟩ := e4
  have kk : ∀ b o, b ∉ ([z, TI, TO, i1, i2] : List Addr) → s.heap.get? b = some o → h''.get? b = some o := fun b o hb e => up b o (fun z => hb (by simp [z])) (hk b o (fun z => hb (by simp [z])) (fun z => hb (by simp [z])) (fun z => hb (by simp [z])) (fun z => hb (by simp [z])) e)
  have S' : StR C ρ σ { s with heap := h'' } (tobj [(z, zipObj TI TO .none), (TI, pairObj (.ref i1) (.ref i2)), (TO, pairObj ux uy), (i1, o1'), (i2, o2')] ++ (.ref a1, .val (.list l1)) :: (.ref a2, .val (.list l2)) :: T) := by
    refine S.advances (s' := { s with heap := h'' }) (fun b x hb e => kk b x hb e) rfl fun p hp => ?_
    simp only [List.mem_cons, List.not_mem_nil, or_false] at hp
    rcases hp with rfl | rfl | rfl | rfl | rfl
    · exact f1
    · exact up _ _ D.TIz (hk _ _ D.TIz D.TITO D.TIi1 D.TIi2 gTI)
    · exact up _ _ D.TOz e2
    · exact up _ _ D.i1z g1'
    · exact up _ _ D.i2z g2'
  refine hQ _ _ _ (.mk c1' c2') ⟨rfl, rfl, rfl⟩ S' ?_
  have hnew : ¬ FbOf ρ s.heap.objs.size := fun q => by obtain ⟨o, ho⟩ := S.alive _ q; exact Nat.lt_irrefl _ (Heap.lt_size ho)
  have mv : ∀ {v d}, Rep s.heap (FbOf ρ) v d → Rep h'' (FbOf ρ) v d := fun r => Rep.mono (fun b o e nb => kk b o (fun hb => nb (by
    simp only [List.mem_cons, List.not_mem_nil, or_false] at hb
    rcases hb with rfl | rfl | rfl | rfl | rfl
    · rw [FbOf, rz]; simp
    · rw [FbOf, rTI]; simp
    · rw [FbOf, rTO]; simp
    · rw [FbOf, r1]; simp
    · rw [FbOf, r2]; simp)) e) (fun _ => .inl) r
  exact Rep.tup (vs := [ux, uy]) hnew ⟨_, up _ _ (Ne.symm (lt gz)) e5, rfl, 0, rfl⟩ (.cons (mv rux) (.cons (mv ruy) .nil))
theorem zipDone {z TI TO i1 i2 a1 a2 : Addr} {l1 l2 : List D} {objs : List (Addr × Obj)} {i : Nat} {Q : Option Value → Shared → Prop} (hh : A.handled = none) (Dz : ∀ l1 l2, l1 ≠ z → l1 ≠ TO → l1 ≠ i1 → l1 ≠ i2 → l2 ≠ z → l2 ≠ TO → l2 ≠ i1 → l2 ≠ i2 → ZipApart z TI TO i1 i2 l1 l2)
    (hO : ZipO z TI TO i1 i2 a1 a2 i objs) (hx : l1.length ≤ i ∨ l2.length ≤ i) (S : StR C ρ σ s (tobj objs ++ ([(.ref a1, .val (.list l1)), (.ref a2, .val (.list l2))] ++ T)))
    (hQ : ∀ s', Only s s' → St C σ s' T → Q none s') : wpAny W.M A (pyNext (.ref z)) Q NoE s := by
  cases hO with
  | @mk a b o1 o2 h1 h2 =>
  have at_ := tobj_at S.temps
  obtain ⟨⟨kz, rz, -⟩, gz⟩ := at_ (z, _) (.head _)
  obtain ⟨⟨kTI, rTI, -⟩, gTI⟩ := at_ (TI, _) (.tail _ (.head _))
  obtain ⟨⟨kTO, rTO, -⟩, gTO⟩ := at_ (TO, _) (.tail _ (.tail _ (.head _)))
  obtain ⟨⟨k1, r1, -⟩, g1⟩ := at_ (i1, _) (.tail _ (.tail _ (.tail _ (.head _))))
  obtain ⟨⟨k2, r2, -⟩, g2⟩ := at_ (i2, _) (.tail _ (.tail _ (.tail _ (.tail _ (.head _)))))
  obtain ⟨n1, vs1, hl1, q1⟩ := listAt (E := tobj _) S
  obtain ⟨n2, vs2, hl2, q2⟩ := listAt (E := tobj _ ++ [_]) (by rw [List.append_assoc]; exact S)
  have D := Dz a1 a2 (neTemp n1 rz) (neTemp n1 rTO) (neTemp n1 r1) (neTemp n1 r2) (neTemp n2 rz) (neTemp n2 rTO) (neTemp n2 r1) (neTemp n2 r2)
  refine wpAny_pyNext_zip_end hh D gz gTI gTO ⟨o1, g1, h1⟩ ⟨o2, g2, h2⟩ hl1 hl2 ?_ fun h' hk => hQ { s with heap := h' } ⟨rfl, rfl, rfl⟩ (S.forgets (s' := { s with heap := h' }) fun b x hb e => ?_)
  · rcases hx with h | h
    · exact .inl (by have := q1.length; simp; omega)
    · exact .inr (by have := q2.length; simp; omega)
  · exact hk b x (fun z => hb (by simp [z])) (fun z => hb (by simp [z])) (fun z => hb (by simp [z])) (fun z => hb (by simp [z])) e
end
end Mine
namespace Mine
set_option autoImplicit false
set_option linter.unusedSectionVars false
set_option linter.unusedVariables false
section
variable {W : Wd} {C : Fx W} {A : Around} {σ σ' : LS} {s s' : Shared} {T : List (Value × Tmp)} {ρ ρ' : Addr → Option Role}

theorem Safe.tobj {l : List (Addr × Obj)} (sf : Safe T) : Safe (tobj l ++ T) := fun p hp x e => by
  rcases List.mem_append.mp hp with h | h
  · obtain ⟨q, _, rfl⟩ := List.mem_map.mp h; cases e
  · exact sf p h x e
theorem pairs_get {l m : List D} {i : Nat} {x : D} (h : (pairs l m)[i]? = some x) : ∃ a b, l[i]? = some a ∧ m[i]? = some b ∧ x = .tup [a, b] := by
  unfold pairs at h
  rw [List.getElem?_map] at h
  obtain ⟨⟨a, b⟩, h1, rfl⟩ := Option.map_eq_some_iff.mp h
  rw [List.getElem?_zip_eq_some] at h1
  exact ⟨a, b, h1.1, h1.2, rfl⟩
theorem pairs_len {l m : List D} : (pairs l m).length = min l.length m.length := by simp [pairs]

theorem compLoopZ {elt iter : Expr} {elts : List Expr} {kk : Nat} {tpos : Pos} {ifs : List Expr} {scope : Scope} {pos : Pos} {z TI TO i1 i2 a1 a2 D₀ : Addr} {l1 l2 : List D} {objs : List (Addr × Obj)} {R : Result → Shared → Prop} (Inv : Nat → List D → LS → Prop) (hh : A.handled = none)
    (Dz : ∀ l1 l2, l1 ≠ z → l1 ≠ TO → l1 ≠ i1 → l1 ≠ i2 → l2 ≠ z → l2 ≠ TO → l2 ≠ i1 → l2 ≠ i2 → ZipApart z TI TO i1 i2 l1 l2) (hz : (pairs l1 l2).length ≤ sizeLine)
    (hturn : Turns C A elt (.Tuple elts kk tpos) ifs (pairs l1 l2) Inv) (h0 : Inv 0 [] σ) (hO : ZipO z TI TO i1 i2 a1 a2 0 objs) (S : StR C ρ σ s (tobj objs ++ (.ref a1, .val (.list l1)) :: (.ref a2, .val (.list l2)) :: [(.ref D₀, .fresh [])]))
    (hR : ∀ acc σ' s', Inv (pairs l1 l2).length acc σ' → Only s s' → St C σ' s' [(.ref D₀, .fresh acc)] → R (.ok .next) s') :
    codeAny W.M A (.compLoop (.ListComp elt [⟨.Tuple elts kk tpos, iter, ifs, 0⟩] scope pos) 0 (.ref z) (.ref D₀) C.env) R s := by
  refine compLoop_go (fun k s' => ∃ i acc σ₂ objs, k = (pairs l1 l2).length + 1 - i ∧ i ≤ (pairs l1 l2).length ∧ acc.length ≤ i ∧ Inv i acc σ₂ ∧ Only s s' ∧ ZipO z TI TO i1 i2 a1 a2 i objs ∧ St C σ₂ s' (tobj objs ++ (.ref a1, .val (.list l1)) :: (.ref a2, .val (.list l2)) :: [(.ref D₀, .fresh acc)])) ?_ ((pairs l1 l2).length + 1)
    ⟨0, [], σ, objs, rfl, Nat.zero_le _, Nat.le_refl _, h0, .refl s, hO, ρ, S⟩
  rintro k s' ⟨i, acc, σ₂, objs, rfl, hle, hal, hI, o₂, hO, ρ₂, S₂⟩
  by_cases hlt : i < (pairs l1 l2).length
  · have hx := List.getElem?_eq_getElem hlt
    obtain ⟨x, y, hx1, hy1, hxy⟩ := pairs_get hx
    refine wpAny_mono (zipNext (elts := elts) (k := kk) (pos := tpos) (Q := fun u s₃ => ∃ objs', ZipO z TI TO i1 i2 a1 a2 (i + 1) objs' ∧ Only s' s₃ ∧ StR C ρ₂ σ₂ s₃ (tobj objs' ++ (.ref a1, .val (.list l1)) :: (.ref a2, .val (.list l2)) :: [(.ref D₀, .fresh acc)]) ∧ Rep s₃.heap (FbOf ρ₂) u (.tup [x, y])) Dz hO hx1 hy1 S₂ fun u s₃ objs' a b c e => ⟨objs', a, b, c, e⟩)
      (fun r s₃ ⟨u, hr, h₃⟩ => ?_) fun _ _ e => e.elim
    subst hr
    refine wpAny_mono h₃ (fun _ s₄ qq1 => ?_) fun _ _ e => e.elim
    obtain ⟨objs', hO', o₃, S₃, ru⟩ := qq1
    have S₄ := S₃.push ru
    rw [← hxy] at S₄
    have sf : Safe ((u, Tmp.val (pairs l1 l2)[i]) :: (tobj objs' ++ (.ref a1, .val (.list l1)) :: (.ref a2, .val (.list l2)) :: [(.ref D₀, .fresh acc)])) := by
      refine Safe.cons (Safe.tobj (Safe.cons (Safe.cons ?_)))
      intro p hp x e
      simp only [List.mem_singleton] at hp; subst hp; cases e
    refine wpAny_mono (hturn i _ acc σ₂ hx hI s₄ _ u sf ⟨ρ₂, S₄⟩ (.head _)) (fun _ s₅ qq2 => ?_) fun _ _ e => e.elim
    refine exx4 qq2 fun σ₅ h₅ o₅ S₅ => ?_
    obtain ⟨ρ₅, S₅⟩ := S₅
    refine wpAny_mono (h₅.run ⟨_, StR.drop (E := [_]) S₅ fun _ _ e => e⟩) (fun ok s₆ qq3 => ?_) fun _ _ e => e.elim
    refine exx4 qq3 fun σ₆ h₆ o₆ S₆ => ?_
    have oo : Only s s₆ := ((o₂.trans o₃).trans o₅).trans o₆
    cases ok with
    | false => exact ⟨_, by omega, i + 1, acc, σ₆, objs', rfl, hlt, Nat.le_succ_of_le hal, h₆, oo, hO', S₆⟩
    | true =>
      refine wpAny_mono (h₆ s₆ _ S₆) (fun x s₇ qq4 => ?_) fun _ _ e => e.elim
      refine qq4.elim fun t σ₇ q₀ o₇ S₇ => ?_
      obtain ⟨dd, ht, h₇⟩ := q₀
      obtain ⟨ρ₇, S₇⟩ := S₇
      subst ht
      have rx : Rep s₇.heap (FbOf ρ₇) x dd := S₇.temps.1
      have S₇' : StR C ρ₇ σ₇ s₇ (((x, .val dd) :: (tobj objs' ++ [(.ref a1, .val (.list l1)), (.ref a2, .val (.list l2))])) ++ [(.ref D₀, .fresh acc)]) := by simpa using S₇
      refine wpAny_mono (StR.freshAppend (A' := A) (Q := fun _ s₈ => Only s₇ s₈ ∧ StR C ρ₇ σ₇ s₈ (((x, .val dd) :: (tobj objs' ++ [(.ref a1, .val (.list l1)), (.ref a2, .val (.list l2))])) ++ [(.ref D₀, .fresh (acc ++ [dd]))])) S₇' rx (by omega) fun s₈ o₈ S₈ => ⟨o₈, S₈⟩) (fun _ s₈ qq5 => ?_) fun _ _ e => e.elim
      obtain ⟨o₈, S₈⟩ := qq5
      have S₈' : StR C ρ₇ σ₇ s₈ ([(x, .val dd)] ++ (tobj objs' ++ (.ref a1, .val (.list l1)) :: (.ref a2, .val (.list l2)) :: [(.ref D₀, .fresh (acc ++ [dd]))])) := by simpa using S₈
      exact ⟨_, by omega, i + 1, acc ++ [dd], σ₇, objs', rfl, hlt, by simp; omega, h₇, (oo.trans o₇).trans o₈, hO', _, StR.drop S₈' fun _ _ e => e⟩
  · have : i = (pairs l1 l2).length := by omega
    subst this
    have hend : l1.length ≤ (pairs l1 l2).length ∨ l2.length ≤ (pairs l1 l2).length := by rw [pairs_len]; omega
    refine wpAny_mono (zipDone (Q := fun r s₃ => r = none ∧ Only s' s₃ ∧ St C σ₂ s₃ [(.ref D₀, .fresh acc)]) hh Dz hO hend S₂ fun s₃ o₃ S₃ => ⟨rfl, o₃, S₃⟩) (fun r s₃ qq6 => ?_) fun _ _ e => e.elim
    obtain ⟨hr, o₃, S₃⟩ := qq6
    subst hr
    exact hR acc σ₂ s₃ hI (o₂.trans o₃) S₃

theorem or6 {P : Nat → Prop} {a x1 x2 x3 x4 x5 x6 : Nat} (h : a = x1 ∨ a = x2 ∨ a = x3 ∨ a = x4 ∨ a = x5 ∨ a = x6) (h1 : P x1) (h2 : P x2) (h3 : P x3) (h4 : P x4) (h5 : P x5) (h6 : P x6) : P a := by
  rcases h with h | h | h | h | h | h <;> rw [h] <;> assumption
theorem nN {N i j : Nat} (h : Nat.beq i j = false) : N + i ≠ N + j := fun e => Nat.ne_of_beq_eq_false h (Nat.add_left_cancel e)
theorem nN0 {N j : Nat} : N ≠ N + (j + 1) := Nat.ne_of_lt (Nat.lt_add_of_pos_right (Nat.succ_pos j))
theorem nN1 {N j : Nat} : N + (j + 1) ≠ N := Nat.ne_of_gt (Nat.lt_add_of_pos_right (Nat.succ_pos j))

theorem Ev_CompZip {elt ze : Expr} {x1 x2 : Expr} {zpos : Pos} {elts : List Expr} {kk : Nat} {tpos : Pos} {ifs : List Expr} {scope : Scope} {pos : Pos} {cl : List (Str × Addr)} {τ : LS} {Φ : Tmp → LS → Prop} (Inv : Nat → List D → LS → Prop) (hh : A.handled = none) (hk : scope.kind = .function)
    (hclos : closureFor scope C.env = pure cl) (hcell : ∀ y ∈ scope.names, y.2 ≠ .cell) (hnames : ∀ x ∈ scope.names, x.2 = .local → scope.names.lookup x.1 = some .local) (hcl : ∀ p ∈ cl, C.env.kindOf p.1 = some .cell ∧ C.env.cells.lookup p.1 = some p.2)
    (h : Ev C A ze σ fun t σ₁ => t = .val (.fn (.type "zip")) ∧ EvSp C A [x1, x2] σ₁ fun ts σ₂ => ∃ l1 l2, ts = [.val (.list l1), .val (.list l2)] ∧ (pairs l1 l2).length ≤ sizeLine ∧ CapOk C scope cl none σ₂ τ ∧ Inv 0 [] τ ∧
      (∀ L hE Fb hb hx hF, Turns (fxComp C scope cl hk L none hE Fb hb hx hF) A elt (.Tuple elts kk tpos) ifs (pairs l1 l2) Inv) ∧ ∀ acc σ', Inv (pairs l1 l2).length acc σ' → Φ (.fresh acc) σ₂)
    (hs : ∀ x, foldedSetIterable (.Call ze [x1, x2] [] zpos) C.env x = pure x := by intro _; rfl)
    (hp : (backTo zpos (starEach [x1, x2] C.env)).any (·.1) = false := by rfl)
    (he : eval (.Call ze [x1, x2] [] zpos) C.env = (do callWith zpos (← eval ze C.env) [] (backTo zpos (starEach [x1, x2] C.env)) []) := by rfl) :
    Ev C A (.ListComp elt [⟨.Tuple elts kk tpos, .Call ze [x1, x2] [] zpos, ifs, 0⟩] scope pos) σ Φ := by
  intro s T S
  rw [eval_ListComp]
  refine wpAny_comprehension_free (use := none) rfl hs hclos hk hnames ?_
  show wpAny _ _ (eval (.Call ze [x1, x2] [] zpos) C.env) _ _ s
  rw [he]
  refine wpAny_bind (wpNo (h s T S) fun fv s₁ qq7 => ?_)
  refine qq7.elim fun t σ₁ q₀ o₁ S₁ => ?_
  obtain ⟨ht, h₁⟩ := q₀
  subst ht
  obtain ⟨ρ, S₁, r⟩ := S₁.top1
  (first | (obtain ⟨_, rfl⟩ := Rep.ofInt r) | (obtain ⟨_, rfl⟩ := Rep.ofStr r) | (obtain rfl := Rep.ofBool r) | (obtain rfl := Rep.ofNone r) | (obtain rfl := Rep.ofFn r) | cases r)
  refine wpCallWith rfl S₁.inK (wpNo (h₁ s₁ _ zpos ⟨ρ, S₁⟩) fun vs s₂ qq8 => ?_) hp
  refine qq8.elim fun ts σ₂ q₀ hl o₂ S₂ => ?_
  obtain ⟨l1, l2, ht, hz, hc, h0, hturn, hend⟩ := q₀
  obtain ⟨ρ₂, S₂⟩ := S₂
  subst ht
  refine ⟨S₂.inK, ?_⟩
  obtain ⟨v1, v2, rfl⟩ := two_of hl
  have r1 : Rep s₂.heap (FbOf ρ₂) v1 (.list l1) := S₂.temps.2.1
  have r2 : Rep s₂.heap (FbOf ρ₂) v2 (.list l2) := S₂.temps.1
  have S₃ : StR C _ σ₂ s₂ T := StR.drop (E := [(v2, .val (.list l2)), (v1, .val (.list l1)), (.type "zip", .val (.fn (.type "zip")))]) S₂ (s' := s₂) fun _ _ e => e
  have r1' := r1
  have r2' := r2
  rw [← fbOf_map ρ₂ (dropF T.length)] at r1' r2'
  generalize (fun a => Option.map (dropF T.length) (ρ₂ a)) = ρ₃ at S₃ r1' r2'
  obtain ⟨a1, vs1, rfl, n1, hl1, q1⟩ := Rep.ofList r1
  obtain ⟨a2, vs2, rfl, n2, hl2, q2⟩ := Rep.ofList r2
  refine call_zip_2 hl1 hl2 fun h' e1 e2 e3 e4 e5 e6 hk' => ?_
  obtain ⟨o1, g1, c1⟩ := e4
  obtain ⟨o2, g2, c2⟩ := e5
  refine wpAny_pyIter_zip e1 ?_
  have fresh : ∀ k, s₂.heap.get? (s₂.heap.objs.size + k) = none := fun k => Heap.get?_none_of_le (Nat.le_add_right _ _)
  refine wpAny_newObj_type (wpAny_newFunctionEnv hcell (by intro y hy; simp at hy) (fun h₁ hns₁ hsb₁ => ?_) hk)
  dsimp only at hns₁ hsb₁ ⊢
  generalize hN : s₂.heap.objs.size = N at *
  have sL : (h'.push { cls := .type "list", dict := none, data := .seq ([] : List Value).toArray }).objs.size = N + 6 := by rw [Heap.size_push, e6]
  generalize hH2 : h'.push { cls := .type "list", dict := none, data := .seq ([] : List Value).toArray } = H2 at hns₁ hsb₁ sL ⊢
  rw [sL] at hns₁ hsb₁
  rw [e6]
  have old : ∀ b x, H2.get? b = some x → h₁.get? b = some x := fun b x e => hsb₁.extBut b x (Nat.ne_of_lt (sL ▸ Heap.lt_size e)) (Heap.get?_push_of_some _ e)
  have up : ∀ b x, h'.get? b = some x → h₁.get? b = some x := fun b x e => old b x (hH2 ▸ Heap.get?_push_of_some _ e)
  have kp : Kp s₂.heap h₁ := fun b x e => up b x (hk' b x e)
  have gD : h₁.get? (N + 5) = some { cls := .type "list", dict := none, data := .seq ([] : List Value).toArray } := old _ _ (by rw [← hH2, ← e6]; exact Heap.get?_push_size _ rfl)
  let B : Addr → Prop := fun a => a = N + 4 ∨ a = N + 2 ∨ a = N + 3 ∨ a = N ∨ a = N + 1 ∨ a = N + 5
  let C' := fxComp C scope cl hk (N + 6) none s₂.heap (FbOf ρ₃) S₃.baseKeep (fun _ e => nomatch e) fun a n => S₃.alive a n
  let s₄ : Shared := { s₂ with heap := h₁, toks := s₂.toks + ([] : List (Str × Value)).length }
  have S₀ : StR C' (enterF ρ₃ (N + 6) B none) τ s₄ [] := S₃.enter (s' := s₄) kp (fun _ e => nomatch e) (fresh 6) hns₁ (fun a ha => by
    exact or6 (P := fun a => s₂.heap.get? a = none ∧ (∃ o, s₄.heap.get? a = some o) ∧ a ≠ N + 6) ha ⟨fresh 4, ⟨_, up _ _ e1⟩, nN rfl⟩ ⟨fresh 2, ⟨_, up _ _ e2⟩, nN rfl⟩ ⟨fresh 3, ⟨_, up _ _ e3⟩, nN rfl⟩ ⟨fresh 0, ⟨_, up _ _ g1⟩, nN0⟩ ⟨fresh 1, ⟨_, up _ _ g2⟩, nN rfl⟩ ⟨fresh 5, ⟨_, gD⟩, nN rfl⟩) hcl hc
  have nm : ∀ {a b : Nat}, a ≠ b → (a : Addr) ≠ b := fun h => h
  have dead : ∀ {a : Addr}, B a → a ≠ N + 6 → enterF ρ₃ (N + 6) B none a = some .dead := fun hB hn => by unfold enterF; rw [if_neg hn, if_pos hB]
  have S₁' := S₀.unbury (a := N + 5) (t := .fresh []) (dead (.inr (.inr (.inr (.inr (.inr rfl))))) (nm (by first | exact nN rfl | exact nN0 | exact nN1))) ⟨_, #[], rfl, setR_self _ _ _, ⟨_, gD⟩, .nil⟩
  have back : ∀ b, FbOf (setR (enterF ρ₃ (N + 6) B none) (N + 5) (.temp 0)) b → FbOf ρ₃ b ∨ s₂.heap.get? b = none := fun b q => by
    by_cases hbD : b = N + 5
    · exact .inr (hbD ▸ fresh 5)
    · rw [FbOf, setR_ne hbD] at q
      unfold enterF at q
      split at q
      · subst b; exact .inr (fresh 6)
      · split at q
        · rename_i hB
          exact .inr (or6 (P := fun a => s₂.heap.get? a = none) hB (fresh 4) (fresh 2) (fresh 3) (fresh 0) (fresh 1) (fresh 5))
        · split at q
          · rename_i e; cases e
          · split at q
            · exact .inl ‹_›
            · exact absurd rfl q
  have S₂' := S₁'.push (v := .ref a2) (d := .list l2) (Rep.mono (fun b x e _ => kp b x e) back r2')
  have S₃' := S₂'.push (v := .ref a1) (d := .list l1) (Rep.mono (fun b x e _ => kp b x e) back r1')
  have S₄' := S₃'.unbury (a := N + 1) (t := .obj o2) (by rw [setR_ne (nm (by first | exact nN rfl | exact nN0 | exact nN1))]; exact dead (.inr (.inr (.inr (.inr (.inl rfl))))) (nm (by first | exact nN rfl | exact nN0 | exact nN1))) ⟨_, rfl, setR_self _ _ _, up _ _ g2⟩
  have S₅' := S₄'.unbury (a := N) (t := .obj o1) (by rw [setR_ne (nm (by first | exact nN rfl | exact nN0 | exact nN1)), setR_ne (nm (by first | exact nN rfl | exact nN0 | exact nN1))]; exact dead (.inr (.inr (.inr (.inl rfl)))) (nm (by first | exact nN rfl | exact nN0 | exact nN1))) ⟨_, rfl, setR_self _ _ _, up _ _ g1⟩
  have S₆' := S₅'.unbury (a := N + 3) (t := .obj (pairObj .none .none)) (by rw [setR_ne (nm (by first | exact nN rfl | exact nN0 | exact nN1)), setR_ne (nm (by first | exact nN rfl | exact nN0 | exact nN1)), setR_ne (nm (by first | exact nN rfl | exact nN0 | exact nN1))]; exact dead (.inr (.inr (.inl rfl))) (nm (by first | exact nN rfl | exact nN0 | exact nN1))) ⟨_, rfl, setR_self _ _ _, up _ _ e3⟩
  have S₇' := S₆'.unbury (a := N + 2) (t := .obj (pairObj (.ref N) (.ref (N + 1)))) (by rw [setR_ne (nm (by first | exact nN rfl | exact nN0 | exact nN1)), setR_ne (nm (by first | exact nN rfl | exact nN0 | exact nN1)), setR_ne (nm (by first | exact nN rfl | exact nN0 | exact nN1)), setR_ne (nm (by first | exact nN rfl | exact nN0 | exact nN1))]; exact dead (.inr (.inl rfl)) (nm (by first | exact nN rfl | exact nN0 | exact nN1))) ⟨_, rfl, setR_self _ _ _, up _ _ e2⟩
  have S₈' := S₇'.unbury (a := N + 4) (t := .obj (zipObj (N + 2) (N + 3) .none)) (by rw [setR_ne (nm (by first | exact nN rfl | exact nN0 | exact nN1)), setR_ne (nm (by first | exact nN rfl | exact nN0 | exact nN1)), setR_ne (nm (by first | exact nN rfl | exact nN0 | exact nN1)), setR_ne (nm (by first | exact nN rfl | exact nN0 | exact nN1)), setR_ne (nm (by first | exact nN rfl | exact nN0 | exact nN1))]; exact dead (.inl rfl) (nm (by first | exact nN rfl | exact nN0 | exact nN1))) ⟨_, rfl, setR_self _ _ _, up _ _ e1⟩
  have Dz : ∀ l1 l2, l1 ≠ N + 4 → l1 ≠ N + 3 → l1 ≠ N → l1 ≠ N + 1 → l2 ≠ N + 4 → l2 ≠ N + 3 → l2 ≠ N → l2 ≠ N + 1 → ZipApart (N + 4) (N + 2) (N + 3) N (N + 1) l1 l2 :=
    fun _ _ p1 p2 p3 p4 p5 p6 p7 p8 => ⟨nm (by first | exact nN rfl | exact nN0 | exact nN1), nm (by first | exact nN rfl | exact nN0 | exact nN1), nm (by first | exact nN rfl | exact nN0 | exact nN1), nm (by first | exact nN rfl | exact nN0 | exact nN1), nm (by first | exact nN rfl | exact nN0 | exact nN1), nm (by first | exact nN rfl | exact nN0 | exact nN1), nm (by first | exact nN rfl | exact nN0 | exact nN1), nm (by first | exact nN rfl | exact nN0 | exact nN1), nm (by first | exact nN rfl | exact nN0 | exact nN1), nm (by first | exact nN rfl | exact nN0 | exact nN1), p1, p2, p3, p4, p5, p6, p7, p8⟩
  have loop : codeAny W.M A (.compLoop (.ListComp elt [⟨.Tuple elts kk tpos, .Call ze [x1, x2] [] zpos, ifs, 0⟩] scope pos) 0 (.ref (N + 4)) (.ref (N + 5)) C'.env) (compPost W.M A NoE none (EvPost C s T Φ) (.ref (N + 5)) (N + 6)) s₄ :=
    compLoopZ (C := C') (σ := τ) (objs := [(N + 4, zipObj (N + 2) (N + 3) .none), (N + 2, pairObj (.ref N) (.ref (N + 1))), (N + 3, pairObj .none .none), (N, o1), (N + 1, o2)]) Inv hh Dz hz (hturn _ _ _ _ _ _) h0 (.mk c1 c2) S₈' fun acc σ' s' hI ho ⟨ρ', S'⟩ => by
      obtain ⟨m, hm, hS⟩ := compAfter (bx := none) S₃ S' (fresh 5) (fresh 6) (nm (by first | exact nN rfl | exact nN0 | exact nN1)) rfl rfl rfl rfl
      exact ⟨m, hm, fun h' hs' => ⟨_, _, hend acc σ' hI, ((o₁.trans o₂).trans (Only.trans (s₂ := s₄) ⟨rfl, rfl, rfl⟩ ho)).trans ⟨rfl, rfl, rfl⟩, _, hS h' hs'⟩⟩
  rw [sL]
  refine codeAny_compStart_list loop ?_
  exact wpAny_mono (wpAny_pyIter_zip (E := NoE) (Q := fun r s' => r = .ref (N + 4) ∧ s' = s₄) (up _ _ e1) ⟨rfl, rfl⟩) (fun r s' ⟨p1, p2⟩ => by rw [p1, p2]; exact loop) fun _ _ e => e.elim
end
end Mine
namespace Mine
set_option autoImplicit false
set_option linter.unusedSectionVars false
set_option linter.unusedVariables false
noncomputable abbrev enumObj (it : Addr) (i : Int) (old : Value) : Obj := { cls := .type "enumerate", dict := none, data := .fields #[.none, .bool false, .ref it, rawInt i, .none, old], slots := #[] }
inductive EnumO (e it a : Addr) (i : Nat) : List (Addr × Obj) → Prop where
  | mk {o : Obj} {old : Value} : isIter o a i → EnumO e it a i [(e, enumObj it i old), (it, o)]
theorem EnumO.at_ {e it a : Addr} {i : Nat} {objs : List (Addr × Obj)} {h : Heap} (x : EnumO e it a i objs) (g : ∀ p ∈ objs, h.get? p.1 = some p.2) : ∃ oe o old, objs = [(e, oe), (it, o)] ∧ IsEnum h e it i old ∧ h.IsListIter it a i := by
  cases x with
  | @mk o old h3 => exact ⟨_, _, old, rfl, g _ (.head _), ⟨_, g _ (.tail _ (.head _)), h3⟩⟩
section
variable {W : Wd} {C : Fx W} {A : Around} {σ σ' : LS} {s s' : Shared} {T : List (Value × Tmp)} {ρ ρ' : Addr → Option Role}

noncomputable def numbered : Nat → List D → List D
  | _, [] => []
  | n, d :: r => .tup [.int n, d] :: numbered (n + 1) r
theorem numbered_len : ∀ {n : Nat} {l : List D}, (numbered n l).length = l.length
  | _, [] => rfl
  | _, _ :: r => by simp [numbered, numbered_len (l := r)]
theorem numbered_get : ∀ {n : Nat} {l : List D} {i : Nat} {x : D}, (numbered n l)[i]? = some x → ∃ d, l[i]? = some d ∧ x = .tup [.int ((n + i : Nat) : Int), d]
  | n, d :: r, 0, x, h => by simp [numbered] at h; exact ⟨d, rfl, h.symm⟩
  | n, d :: r, i + 1, x, h => by
    simp only [numbered, List.getElem?_cons_succ] at h ⊢
    obtain ⟨d', h1, h2⟩ := numbered_get h
    exact ⟨d', h1, by rw [h2]; congr 3; omega⟩

theorem enumNext {e it a : Addr} {l : List D} {objs : List (Addr × Obj)} {i : Nat} {x : D} {elts : List Expr} {k : Nat} {pos : Pos} {Q : Value → Shared → Prop} (hne : e ≠ it)
    (hO : EnumO e it a i objs) (hx : l[i]? = some x) (S : StR C ρ σ s (tobj objs ++ (.ref a, .val (.list l)) :: T))
    (hQ : ∀ u s' objs', EnumO e it a (i + 1) objs' → Only s s' → StR C ρ σ s' (tobj objs' ++ (.ref a, .val (.list l)) :: T) → Rep s'.heap (FbOf ρ) u (.tup [.int i, x]) → Q u s') :
    wpAny W.M A (pyNext (.ref e)) (fun r s₁ => ∃ u, r = some u ∧ wpAny W.M A (letOwnedTupleGo (.Tuple elts k pos) (.ref e) u) (fun _ s₂ => Q u s₂) NoE s₁) NoE s := by
  have at_ := tobj_at S.temps
  obtain ⟨oe, o, old, rfl, he, hit⟩ := hO.at_ (h := s.heap) fun p hp => (at_ p hp).2
  obtain ⟨⟨ke, re, -⟩, ge⟩ := at_ (e, _) (.head _)
  obtain ⟨⟨ki, ri, -⟩, gi⟩ := at_ (it, _) (.tail _ (.head _))
  obtain ⟨n1, vs, hl, q⟩ := listAt (E := tobj _) S
  obtain ⟨ux, hux, rux⟩ := q.get hx
  refine wpAny_pyNext_enum_item he hit hl (x := ux) (by simpa using hux) hne fun h' e1 e2 e3 e4 hk => ?_
  refine ⟨_, rfl, wpAny_letOwnedTupleGo_enum e1 fun h'' f1 f2 => ?_⟩
  have lt : ∀ {c o}, s.heap.get? c = some o → c ≠ s.heap.objs.size := fun e => Nat.ne_of_lt (Heap.lt_size e)
  have up : ∀ c o, c ≠ e → h'.get? c = some o → h''.get? c = some o := fun c o hc e => (f2.2 c hc).trans e
  obtain ⟨o', g', c'⟩ := e2
  have kk : ∀ b o, b ∉ ([e, it] : List Addr) → s.heap.get? b = some o → h''.get? b = some o := fun b o hb e => up b o (fun z => hb (by simp [z])) (hk b o (fun z => hb (by simp [z])) (fun z => hb (by simp [z])) e)
  have f1' : h''.get? e = some (enumObj it ((i + 1 : Nat) : Int) ux) := by simpa using f1
  have S' : StR C ρ σ { s with heap := h'', toks := s.toks + 1 } (tobj [(e, enumObj it ((i + 1 : Nat) : Int) ux), (it, o')] ++ (.ref a, .val (.list l)) :: T) := by
    refine S.advances (s' := { s with heap := h'', toks := s.toks + 1 }) (fun b x hb e => kk b x hb e) rfl fun p hp => ?_
    simp only [List.mem_cons, List.not_mem_nil, or_false] at hp
    rcases hp with rfl | rfl
    · exact f1'
    · exact up _ _ (Ne.symm hne) g'
  refine hQ _ _ _ (.mk c') ⟨rfl, rfl, rfl⟩ S' ?_
  have hnew : ¬ FbOf ρ s.heap.objs.size := fun q => by obtain ⟨o, ho⟩ := S.alive _ q; exact Nat.lt_irrefl _ (Heap.lt_size ho)
  have mv : ∀ {v d}, Rep s.heap (FbOf ρ) v d → Rep h'' (FbOf ρ) v d := fun r => Rep.mono (fun b o e nb => kk b o (fun hb => nb (by
    simp only [List.mem_cons, List.not_mem_nil, or_false] at hb
    rcases hb with rfl | rfl
    · rw [FbOf, re]; simp
    · rw [FbOf, ri]; simp)) e) (fun _ => .inl) r
  exact Rep.tup (vs := [_, ux]) hnew ⟨_, up _ _ (Ne.symm (lt ge)) e3, rfl, 0, rfl⟩ (.cons (.int _ _) (.cons (mv rux) .nil))
theorem enumDone {e it a : Addr} {l : List D} {objs : List (Addr × Obj)} {i : Nat} {Q : Option Value → Shared → Prop} (hh : A.handled = none)
    (hO : EnumO e it a i objs) (hx : l.length ≤ i) (S : StR C ρ σ s (tobj objs ++ ([(.ref a, .val (.list l))] ++ T)))
    (hQ : ∀ s', Only s s' → St C σ s' T → Q none s') : wpAny W.M A (pyNext (.ref e)) Q NoE s := by
  have at_ := tobj_at S.temps
  obtain ⟨oe, o, old, rfl, he, hit⟩ := hO.at_ (h := s.heap) fun p hp => (at_ p hp).2
  obtain ⟨n1, vs, hl, q⟩ := listAt (E := tobj _) S
  refine wpAny_pyNext_enum_end hh he hit hl (by have := q.length; simp; omega) fun h' hk => hQ { s with heap := h' } ⟨rfl, rfl, rfl⟩ (S.forgets (s' := { s with heap := h' }) fun b x hb e => hk b x (fun z => hb (by simp [z])) e)

/-- for place, x in enumerate(l): body -/
theorem Ex_ForEnum {elts : List Expr} {kk : Nat} {tpos zpos : Pos} {ze x1 : Expr} {body : List Stmt} {pos : Pos} {l : List D} {Φ : Fl → LS → Prop} (Inv : Nat → LS → Prop) (hh : A.handled = none)
    (h : Ev C A ze σ fun t σ₁ => t = .val (.fn (.type "enumerate")) ∧ EvSp C A [x1] σ₁ fun ts σ₂ => ts = [.val (.list l)] ∧ Inv 0 σ₂)
    (hturn : ∀ i x σ₂, (numbered 0 l)[i]? = some x → Inv i σ₂ → Asg C A (.Tuple elts kk tpos) x σ₂ fun σ₃ => Exs C A body σ₃ (LoopΦ Inv Φ i)) (hend : ∀ σ₂, Inv l.length σ₂ → Φ .next σ₂)
    (hs : ∀ x, foldedSetIterable (.Call ze [x1] [] zpos) C.env x = pure x := by intro _; rfl)
    (hp : (backTo zpos (starEach [x1] C.env)).any (·.1) = false := by rfl)
    (he : eval (.Call ze [x1] [] zpos) C.env = (do callWith zpos (← eval ze C.env) [] (backTo zpos (starEach [x1] C.env)) []) := by rfl) : Ex C A (.For (.Tuple elts kk tpos) (.Call ze [x1] [] zpos) body [] pos) σ Φ := by
  intro s T sf S
  refine wpAny_For ?_ hs
  rw [he]
  refine wpAny_bind (wpNo (h s T S) fun fv s₁ qq1 => ?_)
  refine qq1.elim fun t σ₁ q₀ o₁ S₁ => ?_
  obtain ⟨ht, h₁⟩ := q₀
  subst ht
  obtain ⟨ρ, S₁, r⟩ := S₁.top1
  (first | (obtain ⟨_, rfl⟩ := Rep.ofInt r) | (obtain ⟨_, rfl⟩ := Rep.ofStr r) | (obtain rfl := Rep.ofBool r) | (obtain rfl := Rep.ofNone r) | (obtain rfl := Rep.ofFn r) | cases r)
  refine wpCallWith rfl S₁.inK (wpNo (h₁ s₁ _ zpos ⟨ρ, S₁⟩) fun vs s₂ qq2 => ?_) hp
  refine qq2.elim fun ts σ₂ q₀ hl o₂ S₂ => ?_
  obtain ⟨ht, h0⟩ := q₀
  obtain ⟨ρ₂, S₂⟩ := S₂
  subst ht
  refine ⟨S₂.inK, ?_⟩
  obtain ⟨v1, rfl⟩ := one_of hl
  have r1 : Rep s₂.heap (FbOf ρ₂) v1 (.list l) := S₂.temps.1
  have S₃ : StR C _ σ₂ s₂ T := StR.drop (E := [(v1, .val (.list l)), (.type "enumerate", .val (.fn (.type "enumerate")))]) S₂ (s' := s₂) fun _ _ e => e
  have r1' := r1
  rw [← fbOf_map ρ₂ (dropF T.length)] at r1'
  generalize (fun a => Option.map (dropF T.length) (ρ₂ a)) = ρ₃ at S₃ r1'
  have S₄ := S₃.push r1'
  obtain ⟨a, vs1, rfl, n1, hl1, q1⟩ := Rep.ofList r1
  refine call_enumerate_list hl1 fun h' e1 e2 e3 hk' => ?_
  obtain ⟨o, g, c⟩ := e2
  refine wpAny_pyIter_enum e1 ?_
  have ge : h'.get? (s₂.heap.objs.size + 1) = some (enumObj s₂.heap.objs.size ((0 : Nat) : Int) .none) := e1
  have S₅ := S₄.bury (s' := { s₂ with heap := h' }) (B := fun b => b = s₂.heap.objs.size ∨ b = s₂.heap.objs.size + 1) hk' (fun b hb => by
    rcases hb with rfl | rfl
    · exact ⟨Heap.get?_none_of_le (Nat.le_refl _), _, g⟩
    · exact ⟨Heap.get?_none_of_le (Nat.le_succ _), _, ge⟩)
  have S₆ := S₅.unbury (a := s₂.heap.objs.size) (t := .obj o) (bury_in (.inl rfl)) ⟨_, rfl, setR_self _ _ _, g⟩
  have S₇ := S₆.unbury (a := s₂.heap.objs.size + 1) (t := .obj (enumObj s₂.heap.objs.size ((0 : Nat) : Int) .none)) (by rw [setR_ne (show s₂.heap.objs.size + 1 ≠ s₂.heap.objs.size from Nat.succ_ne_self _)]; exact bury_in (.inr rfl)) ⟨_, rfl, setR_self _ _ _, ge⟩
  refine codeAny_forLoop_any (fun k s' => ∃ i σ₃ objs, k = l.length + 1 - i ∧ i ≤ l.length ∧ Inv i σ₃ ∧ Only s s' ∧ EnumO (s₂.heap.objs.size + 1) s₂.heap.objs.size a i objs ∧ St C σ₃ s' (tobj objs ++ (.ref a, .val (.list l)) :: T)) ?_ (l.length + 1)
    ⟨0, σ₂, [(_, enumObj s₂.heap.objs.size ((0 : Nat) : Int) .none), (_, o)], rfl, Nat.zero_le _, h0, (o₁.trans o₂).trans ⟨rfl, rfl, rfl⟩, .mk c, _, S₇⟩
  rintro k s' ⟨i, σ₃, objs, rfl, hle, hI, o₃, hO, ρ₄, S₈⟩
  by_cases hlt : i < l.length
  · have hx := List.getElem?_eq_getElem (l := numbered 0 l) (i := i) (by rw [numbered_len]; exact hlt)
    obtain ⟨d, hd, hxd⟩ := numbered_get hx
    rw [Nat.zero_add] at hxd
    refine wpAny_mono (enumNext (elts := elts) (k := kk) (pos := tpos) (Q := fun u s₅ => ∃ objs', EnumO (s₂.heap.objs.size + 1) s₂.heap.objs.size a (i + 1) objs' ∧ Only s' s₅ ∧ StR C ρ₄ σ₃ s₅ (tobj objs' ++ (.ref a, .val (.list l)) :: T) ∧ Rep s₅.heap (FbOf ρ₄) u (.tup [.int i, d])) (Nat.succ_ne_self _) hO hd S₈ fun u s₅ objs' a b c e => ⟨objs', a, b, c, e⟩)
      (fun r s₅ ⟨u, hr, h₅⟩ => ?_) fun _ _ e => e.elim
    subst hr
    refine wpAny_mono h₅ (fun _ s₆ qq3 => ?_) fun _ _ e => e.elim
    obtain ⟨objs', hO', o₆, S₉, ru⟩ := qq3
    have S₁₀ := S₉.push ru
    rw [← hxd] at S₁₀
    have sf' : Safe (tobj objs' ++ (.ref a, .val (.list l)) :: T) := Safe.tobj sf.cons
    refine wpAny_mono (hturn i _ σ₃ hx hI s₆ _ u sf'.cons ⟨ρ₄, S₁₀⟩ (.head _)) (fun _ s₇ qq4 => ?_) fun _ _ e => e.elim
    refine exx4 qq4 fun σ₇ h₇ o₇ S₁₁ => ?_
    obtain ⟨ρ₇, S₁₁⟩ := S₁₁
    refine wpAny_mono (h₇ s₇ _ sf' ⟨_, StR.drop (E := [_]) S₁₁ fun _ _ e => e⟩) (fun f s₈ q => ?_) fun _ _ e => e.elim
    have oo : Only s s₇ := (o₃.trans o₆).trans o₇
    cases f with
    | next => obtain ⟨σ₈, h₈, o₈, S₁₂⟩ := q; exact ⟨_, by omega, i + 1, σ₈, objs', rfl, hlt, h₈, oo.trans o₈, hO', S₁₂⟩
    | cont => obtain ⟨σ₈, h₈, o₈, S₁₂⟩ := q; exact ⟨_, by omega, i + 1, σ₈, objs', rfl, hlt, h₈, oo.trans o₈, hO', S₁₂⟩
    | brk =>
      obtain ⟨σ₈, h₈, o₈, ρ₈, S₁₂⟩ := q
      exact ⟨σ₈, h₈, oo.trans o₈, _, StR.drop (E := tobj objs' ++ [(.ref a, .val (.list l))]) (by simpa using S₁₂) fun _ _ e => e⟩
    | ret w =>
      obtain ⟨dd, σ₈, h₈, o₈, ρ₈, S₁₂⟩ := q
      exact ⟨dd, σ₈, h₈, oo.trans o₈, StR.step (E := (w, .val dd) :: (tobj objs' ++ [(.ref a, .val (.list l))])) (by simpa using S₁₂) (fun _ _ e => e) S₁₂.temps.1⟩
  · have : i = l.length := by omega
    subst this
    refine wpAny_mono (enumDone (Q := fun r s₅ => r = none ∧ Only s' s₅ ∧ St C σ₃ s₅ T) hh hO (Nat.le_refl _) S₈ fun s₅ o₅ S₉ => ⟨rfl, o₅, S₉⟩) (fun r s₅ qq5 => ?_) fun _ _ e => e.elim
    obtain ⟨hr, o₅, S₉⟩ := qq5
    subst hr
    exact wpAny_execs_nil ⟨σ₃, hend σ₃ hI, o₃.trans o₅, S₉⟩
end
end Mine
namespace Mine
set_option autoImplicit false
set_option linter.unusedSectionVars false
set_option linter.unusedVariables false
section
variable {W : Wd} {C : Fx W} {A : Around} {σ σ' : LS} {s s' : Shared} {T : List (Value × Tmp)} {ρ ρ' : Addr → Option Role}

theorem StR.swapF {v1 v2 : Value} {l1 l2 : List D} (S : StR C ρ σ s ((v2, .fresh l2) :: (v1, .fresh l1) :: T)) : St C σ s ((v1, .fresh l1) :: (v2, .fresh l2) :: T) := by
  obtain ⟨⟨a2, vs2, rfl, h2, p2, R2⟩, ⟨a1, vs1, rfl, h1, p1, R1⟩, _⟩ := id S.temps
  have hne : a1 ≠ a2 := fun e => by rw [e, h2] at h1; simp at h1
  have S₁ := StR.drop (E := [(.ref a2, .fresh l2), (.ref a1, .fresh l1)]) S (s' := s) fun _ _ e => e
  have d1 : (fun a => (ρ a).map (dropF T.length)) a1 = some .dead := by
    show (ρ a1).map _ = _
    rw [h1]; simp [dropF]
  have d2 : (fun a => (ρ a).map (dropF T.length)) a2 = some .dead := by
    show (ρ a2).map _ = _
    rw [h2]; simp [dropF]
  have fb2 : FbOf (setR (fun a => (ρ a).map (dropF T.length)) a2 (.temp T.length)) = FbOf ρ := by
    funext b
    by_cases hb : b = a2
    · subst hb; simp only [FbOf, setR_self, h2]; simp
    · simp only [FbOf, setR_ne hb, ne_eq, Option.map_eq_none_iff]
  have S₂ := S₁.unbury (a := a2) (t := .fresh l2) d2 ⟨a2, vs2, rfl, setR_self _ _ _, p2, by rw [fb2]; exact R2⟩
  have fb1 : FbOf (setR (setR (fun a => (ρ a).map (dropF T.length)) a2 (.temp T.length)) a1 (.temp ((Value.ref a2, Tmp.fresh l2) :: T).length)) = FbOf ρ := by
    funext b
    by_cases hb : b = a1
    · subst hb; simp only [FbOf, setR_self, h1]; simp
    · rw [← fb2]; simp only [FbOf, setR_ne hb]
  exact ⟨_, S₂.unbury (a := a1) (t := .fresh l1) (by rw [setR_ne hne]; exact d1) ⟨a1, vs1, rfl, setR_self _ _ _, p1, by rw [fb1]; exact R1⟩⟩

theorem Safe.fresh {v : Value} {l : List D} (sf : Safe T) : Safe ((v, Tmp.fresh l) :: T) := fun p hp => by
  rcases List.mem_cons.mp hp with rfl | hp
  · intro y e; cases e
  · exact sf p hp
theorem twoOf {α : Type} (vs : List α) (hl : vs.length = 2) : ∃ a b, vs = [a, b] := by
  rcases vs with _ | ⟨a, vs⟩
  · simp at hl
  rcases vs with _ | ⟨b, vs⟩
  · simp at hl
  rcases vs with _ | ⟨c, vs⟩
  · exact ⟨a, b, rfl⟩
  · simp at hl
/-- x, y = l1, l2, both new lists -/
theorem Ex_AssignFF {x y : Str} {xp yp : Pos} {e1 e2 : Expr} {k k' : Nat} {tp vp pos : Pos} {Φ : Fl → LS → Prop} (hh : A.handled = none) (bx : Bind C x) (by' : Bind C y) (hbx : C.bx = none ∨ (x ≠ "box" ∧ y ≠ "box"))
    (h : EvSp C A [e1, e2] σ fun ts σ₁ => ∃ l1 l2, ts = [.fresh l1, .fresh l2] ∧ Φ .next (upd (upd σ₁ x (.own l1)) y (.own l2)))
    (hs : swapsWithSole [.Tuple [.Name x xp, .Name y yp] k tp] (.Tuple [e1, e2] k' vp) pos.line C.env = pure false := by rfl) (hw : swappedStores [.Tuple [.Name x xp, .Name y yp] k tp] (.Tuple [e1, e2] k' vp) C.env = pure none := by rfl) :
    Ex C A (.Assign [.Tuple [.Name x xp, .Name y yp] k tp] (.Tuple [e1, e2] k' vp) pos) σ Φ := by
  intro s T sf S
  refine Assign_Tuple (Tuple_ (wpNo (h s T vp S) fun vs s₁ qq6 => ?_)) hs hw
  refine qq6.elim fun ts σ₁ q₀ hl o₁ S₁ => ?_
  obtain ⟨l1, l2, ht, h₁⟩ := q₀
  obtain ⟨ρ, S₁⟩ := S₁
  subst ht
  obtain ⟨v1, v2, rfl⟩ := twoOf vs hl
  have S₁' : StR C ρ σ₁ s₁ ((v2, .fresh l2) :: (v1, .fresh l1) :: T) := S₁
  refine wpAny_newTuple ?_
  refine wpAny_assign_Tuple hh (isTuple_new _ _) (by rfl) (by rfl) fun h' hk => ?_
  have kp : Kp s₁.heap h' := fun b o e => hk b o (Nat.ne_of_lt (by rw [Heap.size_push]; exact Nat.lt_succ_of_lt (Heap.lt_size e))) (Heap.get?_push_of_some _ e)
  have S₂ := StR.drop (E := []) S₁' (s' := { s₁ with heap := h' }) kp
  obtain ⟨ρ₃, S₃⟩ := S₂.swapF
  show wpAny W.M A (do holding [v2] (assign (.Name x xp) C.env v1); assignInOrder [assign (.Name y yp) C.env] [v2]) _ NoE _
  refine wpAny_bind (wpAny_holding (assign_Name (assignFresh S₃ sf.fresh (hbx.imp_right And.left) (bx.at_ S₃) fun s₄ o₄ qq7 => ?_)))
  obtain ⟨ρ₄, S₄⟩ := qq7
  show wpAny W.M A (do holding [] (assign (.Name y yp) C.env v2); assignInOrder [] []) _ NoE _
  refine wpAny_bind (wpAny_holding (assign_Name (assignFresh S₄ sf (hbx.imp_right And.right) (by'.at_ S₄) fun s₅ o₅ S₅ => ?_)))
  exact wpAny_pure ⟨_, h₁, (o₁.trans (Only.trans ⟨rfl, rfl, rfl⟩ o₄)).trans o₅, S₅⟩
/-- x, y = l1, d2: a new list and data, the stores swapped -/
theorem Ex_AssignFV {x y : Str} {xp yp : Pos} {e1 e2 : Expr} {k k' : Nat} {tp vp pos : Pos} {Φ : Fl → LS → Prop} (hh : A.handled = none) (bx : Bind C x) (by' : Bind C y) (hbx : C.bx = none ∨ (x ≠ "box" ∧ y ≠ "box"))
    (hw : swappedStores [.Tuple [.Name x xp, .Name y yp] k tp] (.Tuple [e1, e2] k' vp) C.env = pure (some [x, y]))
    (h : EvSp C A [e1, e2] σ fun ts σ₁ => ∃ l1 d2, ts = [.fresh l1, .val d2] ∧ Φ .next (upd (upd σ₁ y (.val d2)) x (.own l1)))
    (hs : swapsWithSole [.Tuple [.Name x xp, .Name y yp] k tp] (.Tuple [e1, e2] k' vp) pos.line C.env = pure false := by rfl) :
    Ex C A (.Assign [.Tuple [.Name x xp, .Name y yp] k tp] (.Tuple [e1, e2] k' vp) pos) σ Φ := by
  intro s T sf S
  refine Assign_Tuple_swapped (Tuple_ (wpNo (h s T vp S) fun vs s₁ qq8 => ?_)) hs hw
  refine qq8.elim fun ts σ₁ q₀ hl o₁ S₁ => ?_
  obtain ⟨l1, d2, ht, h₁⟩ := q₀
  obtain ⟨ρ, S₁⟩ := S₁
  subst ht
  obtain ⟨v1, v2, rfl⟩ := twoOf vs hl
  have S₁' : StR C ρ σ₁ s₁ ((v2, .val d2) :: (v1, .fresh l1) :: T) := S₁
  refine wpAny_newTuple ?_
  show wpAny W.M A (unpackItems (.ref s₁.heap.objs.size) ([v1, v2] : List Value).toArray.size none) _ NoE _
  refine wpAny_unpackItems_tuple hh (isTuple_new _ _) fun h' hk => ?_
  have kp : Kp s₁.heap h' := fun b o e => hk b o (Nat.ne_of_lt (by rw [Heap.size_push]; exact Nat.lt_succ_of_lt (Heap.lt_size e))) (Heap.get?_push_of_some _ e)
  have S₂ := StR.drop (E := []) S₁' (s' := { s₁ with heap := h' }) kp
  show wpAny W.M A (do holding [v1] (bindName C.env y v2); assignInOrder [bindName C.env x] [v1]) _ NoE _
  refine wpAny_bind (wpAny_holding (bindName_ (storeMem by' ⟨_, S₂⟩ (.head _) fun s₃ o₃ qq9 => ?_)))
  obtain ⟨ρ₃, S₃⟩ := qq9
  show wpAny W.M A (do holding [] (bindName C.env x v1); assignInOrder [] []) _ NoE _
  have S₄ := StR.drop (E := [_]) S₃ (s' := s₃) fun _ _ e => e
  refine wpAny_bind (wpAny_holding (bindName_ (assignFresh S₄ sf (hbx.imp_right And.left) (bx.at_ S₄) fun s₅ o₅ S₅ => ?_)))
  exact wpAny_pure ⟨_, h₁, (o₁.trans (Only.trans ⟨rfl, rfl, rfl⟩ o₃)).trans o₅, S₅⟩

/- weakening -/
theorem Asg.weaken {t : Expr} {d : D} {τ : LS} {Ψ : LS → Prop} (hs : Sub τ σ) (h : Asg C A t d τ Ψ) : Asg C A t d σ Ψ := fun s T v sf ⟨ρ, S⟩ hm => h s T v sf ⟨ρ, S.weaken hs.look⟩ hm
theorem Ev.weaken {e : Expr} {τ : LS} {Φ : Tmp → LS → Prop} (hs : Sub τ σ) (h : Ev C A e τ Φ) : Ev C A e σ Φ := fun s T ⟨ρ, S⟩ => h s T ⟨ρ, S.weaken hs.look⟩

/- loops, by what is left -/
noncomputable def TurnΦ {β : Type} (R : List β → LS → Prop) (rest : List β) (Φ : Fl → LS → Prop) (fl : Fl) (σ : LS) : Prop := match fl with
  | .next => R rest σ
  | .cont => R rest σ
  | .brk => Φ .next σ
  | .ret d => Φ (.ret d) σ
theorem Ex_ForR {β : Type} (enc : β → D) (xs : List β) {target iter : Expr} {body : List Stmt} {pos : Pos} {Φ : Fl → LS → Prop} (R : List β → LS → Prop) (hh : A.handled = none)
    (h : Ev C A iter σ fun t σ₁ => ∃ d, t = .val d ∧ Items d (xs.map enc) ∧ (∀ n, d = .rng n → -(2 ^ 62) ≤ n) ∧ GoOk target d (xs.map enc) ∧ R xs σ₁)
    (hturn : ∀ x rest σ₂, x ∈ xs → R (x :: rest) σ₂ → Asg C A target (enc x) σ₂ fun σ₃ => Exs C A body σ₃ (TurnΦ R rest Φ)) (hend : ∀ σ₂, R [] σ₂ → Φ .next σ₂)
    (hs : ∀ x, foldedSetIterable iter C.env x = pure x := by intro _; rfl) : Ex C A (.For target iter body [] pos) σ Φ := by
  refine Ex_For (fun i σ => R (xs.drop i) σ) hh (h.mono fun t σ₁ ⟨d, ht, hi, hlo, hg, hR⟩ => ⟨d, xs.map enc, ht, hi, hlo, hg, by simpa using hR, fun i x σ₂ hx hI => ?_, fun σ₂ hI => ?_⟩) hs
  · rw [List.getElem?_map] at hx
    obtain ⟨y, hy, rfl⟩ := Option.map_eq_some_iff.mp hx
    obtain ⟨hlt, hy'⟩ := List.getElem?_eq_some_iff.mp hy
    have hI' : R (y :: xs.drop (i + 1)) σ₂ := by rw [List.drop_eq_getElem_cons hlt, hy'] at hI; exact hI
    intro s T v sf S hm
    refine wpNo (hturn y _ σ₂ (List.mem_of_getElem? hy) hI' s T v sf S hm) fun _ s₁ q₃ => ?_
    obtain ⟨σ₃, h₃, o, S₃⟩ := q₃
    refine ⟨σ₃, h₃.mono fun fl σ₄ q => ?_, o, S₃⟩
    cases fl <;> exact q
  · simp only [List.length_map, List.drop_length] at hI
    exact hend σ₂ hI
theorem Ex_ForEnumR {elts : List Expr} {kk : Nat} {tpos zpos : Pos} {ze x1 : Expr} {body : List Stmt} {pos : Pos} {Φ : Fl → LS → Prop} {β : Type} (enc : β → D) (xs : List β) (R : Nat → List β → LS → Prop) (hh : A.handled = none)
    (h : Ev C A ze σ fun t σ₁ => t = .val (.fn (.type "enumerate")) ∧ EvSp C A [x1] σ₁ fun ts σ₂ => ts = [.val (.list (xs.map enc))] ∧ R 0 xs σ₂)
    (hturn : ∀ i x rest σ₂, R i (x :: rest) σ₂ → Asg C A (.Tuple elts kk tpos) (.tup [.int i, enc x]) σ₂ fun σ₃ => Exs C A body σ₃ (TurnΦ (R (i + 1)) rest Φ)) (hend : ∀ i σ₂, R i [] σ₂ → Φ .next σ₂)
    (hs : ∀ x, foldedSetIterable (.Call ze [x1] [] zpos) C.env x = pure x := by intro _; rfl)
    (hp : (backTo zpos (starEach [x1] C.env)).any (·.1) = false := by rfl)
    (he : eval (.Call ze [x1] [] zpos) C.env = (do callWith zpos (← eval ze C.env) [] (backTo zpos (starEach [x1] C.env)) []) := by rfl) : Ex C A (.For (.Tuple elts kk tpos) (.Call ze [x1] [] zpos) body [] pos) σ Φ := by
  refine Ex_ForEnum (l := xs.map enc) (fun i σ => R i (xs.drop i) σ) hh (h.mono fun t σ₁ ⟨ht, h₁⟩ => ⟨ht, fun s T p S => wpNo (h₁ s T p S) fun vs s₁ ⟨ts, σ₂, ⟨e, hR⟩, r⟩ => ⟨ts, σ₂, ⟨e, by simpa using hR⟩, r⟩⟩) (fun i x σ₂ hx hI => ?_) (fun σ₂ hI => ?_) hs hp he
  · obtain ⟨d, hd, rfl⟩ := numbered_get hx
    rw [List.getElem?_map] at hd
    obtain ⟨y, hy, rfl⟩ := Option.map_eq_some_iff.mp hd
    obtain ⟨hlt, hy'⟩ := List.getElem?_eq_some_iff.mp hy
    have hI' : R i (y :: xs.drop (i + 1)) σ₂ := by rw [List.drop_eq_getElem_cons hlt, hy'] at hI; exact hI
    intro s T v sf S hm
    rw [Nat.zero_add] at hm
    refine wpNo (hturn i y _ σ₂ hI' s T v sf S hm) fun _ s₁ q₃ => ?_
    obtain ⟨σ₃, h₃, o, S₃⟩ := q₃
    refine ⟨σ₃, h₃.mono fun fl σ₄ q => ?_, o, S₃⟩
    cases fl <;> exact q
  · simp only [List.length_map, List.drop_length] at hI
    exact hend _ σ₂ hI
/-- a comprehension that maps and filters -/
theorem CompH_map {β : Type} (enc : β → D) (xs : List β) (p : β → Bool) (g : β → D) {elt target iter : Expr} {ifs : List Expr} {scope : Scope} {cl : List (Str × Addr)} {hk : scope.kind = .function} {τ : LS} {Ψ : List D → LS → Prop}
    (h : Ev C A iter σ fun t σ₁ => ∃ d, t = .val d ∧ Items d (xs.map enc) ∧ (∀ n, d = .rng n → -(2 ^ 62) ≤ n) ∧ GoOk target d (xs.map enc) ∧ xs.length ≤ sizeLine ∧ CapOk C scope cl none σ₁ τ ∧ Ψ ((xs.filter p).map g) σ₁) (hτ : Sub τ τ)
    (hturn : ∀ L hE Fb hb hx hF x, x ∈ xs → Asg (fxComp C scope cl hk L none hE Fb hb hx hF) A target (enc x) τ fun σ₃ => EvIfs (fxComp C scope cl hk L none hE Fb hb hx hF) A ifs σ₃ fun b σ₄ => b = p x ∧ if b then Ev (fxComp C scope cl hk L none hE Fb hb hx hF) A elt σ₄ (fun t σ₅ => t = .val (g x) ∧ Sub τ σ₅) else Sub τ σ₄) :
    CompH C A elt target iter ifs scope cl hk τ (fun i acc σ => Sub τ σ ∧ acc = ((xs.take i).filter p).map g) σ Ψ := by
  refine h.mono fun t σ₁ ⟨d, ht, hi, hlo, hg, hz, hc, hΨ⟩ => ⟨d, xs.map enc, ht, hi, hlo, hg, by simpa using hz, hc, ⟨hτ, rfl⟩, fun L hE Fb hb hx hF i x acc σ₂ hxi hq => ?_, fun acc σ' hq => ?_⟩
  · obtain ⟨hs, ha⟩ := hq
    rw [List.getElem?_map] at hxi
    obtain ⟨y, hy, rfl⟩ := Option.map_eq_some_iff.mp hxi
    have hr := Asg.weaken hs (hturn L hE Fb hb hx hF y (List.mem_of_getElem? hy))
    have et := take_succ_filter p xs i y hy
    intro s T v sf S hm
    refine wpNo (hr s T v sf S hm) fun _ s₁ q₃ => ?_
    obtain ⟨σ₃, h₃, o, S₃⟩ := q₃
    refine ⟨σ₃, ?_, o, S₃⟩
    have step : ∀ b σ₄, (b = p y ∧ if b = true then Ev (fxComp C scope cl hk L none hE Fb hb hx hF) A elt σ₄ (fun t σ₅ => t = .val (g y) ∧ Sub τ σ₅) else Sub τ σ₄) →
        (if b = true then Ev (fxComp C scope cl hk L none hE Fb hb hx hF) A elt σ₄ (fun t σ₅ => ∃ d, t = .val d ∧ Sub τ σ₅ ∧ acc ++ [d] = ((xs.take (i + 1)).filter p).map g) else Sub τ σ₄ ∧ acc = ((xs.take (i + 1)).filter p).map g) := by
      rintro b σ₄ ⟨rfl, q⟩
      cases hp : p y with
      | true =>
        rw [hp, if_pos rfl] at q
        rw [if_pos rfl]
        refine q.mono fun t σ₅ q' => ⟨_, q'.1, q'.2, ?_⟩
        rw [et, hp, ha]; simp
      | false =>
        rw [hp, if_neg (by decide)] at q
        rw [if_neg (by decide)]
        refine ⟨q, ?_⟩
        rw [et, hp, ha]; simp
    exact EvIfs.mono h₃ step
  · rw [hq.2, List.length_map, List.take_length]; exact hΨ
end
end Mine
namespace Mine
set_option autoImplicit false
set_option linter.unusedSectionVars false
set_option linter.unusedVariables false

/- data as the library's data, no deeper than n -/
noncomputable def Py (n : Nat) (d : D) (p : PyData) : Prop := (∀ (h : Heap) (Fb : Addr → Prop) (v : Value), Rep h Fb v d → ∃ as, Reads h v p as) ∧ p.canLay0 = true ∧ p.depth ≤ n
noncomputable def Pys (n : Nat) (l : List D) (m : List PyData) : Prop := (∀ (h : Heap) (Fb : Addr → Prop) (vs : List Value), Reps h Fb vs l → ∃ as, ReadsAll h vs m as) ∧ PyData.canLayAll0 m = true ∧ PyData.depthAll m ≤ n
section
variable {n : Nat} {d : D} {p : PyData} {l : List D} {m : List PyData}
theorem Py.none : Py n .none .none := ⟨fun h Fb v r => by cases r; exact ⟨_, .none⟩, by simp only [PyData.canLay0], by simp only [PyData.depth]; exact Nat.zero_le _⟩
theorem Py.bool {b : Bool} : Py n (.bool b) (.bool b) := ⟨fun h Fb v r => by cases r; exact ⟨_, .bool b⟩, by simp only [PyData.canLay0], by simp only [PyData.depth]; exact Nat.zero_le _⟩
theorem Py.int {i : Int} : Py n (.int i) (.int i) := ⟨fun h Fb v r => by cases r; exact ⟨_, .int _ _⟩, by simp only [PyData.canLay0], by simp only [PyData.depth]; exact Nat.zero_le _⟩
theorem Py.str {s : Str} (hs : PyData.strOk s = true) : Py n (.str s) (.str s) := ⟨fun h Fb v r => by cases r; exact ⟨_, .str _ _⟩, by simp only [PyData.canLay0]; exact hs, by simp only [PyData.depth]; exact Nat.zero_le _⟩
theorem Py.tup (q : Pys n l m) : Py (n + 1) (.tup l) (.tuple m) := ⟨fun h Fb v r => by
    obtain ⟨_, _, rfl, _, ht, r⟩ := Rep.ofTup r
    obtain ⟨o, ho, hc, n, hd⟩ := ht
    obtain ⟨as, ra⟩ := q.1 _ _ _ r
    exact ⟨_, .tuple ho hc hd ra⟩, by simp only [PyData.canLay0]; exact q.2.1, by have := q.2.2; simp only [PyData.depth]; omega⟩
theorem Py.list (q : Pys n l m) : Py (n + 1) (.list l) (.list m) := ⟨fun h Fb v r => by
    obtain ⟨_, _, rfl, _, ht, r⟩ := Rep.ofList r
    obtain ⟨o, ho, hc, n, hd⟩ := ht
    obtain ⟨as, ra⟩ := q.1 _ _ _ r
    exact ⟨_, .list ho hc hd ra⟩, by simp only [PyData.canLay0]; exact q.2.1, by have := q.2.2; simp only [PyData.depth]; omega⟩
theorem Pys.nil : Pys n [] [] := ⟨fun h Fb v r => by cases r; exact ⟨_, .nil⟩, by simp only [PyData.canLayAll0], by simp only [PyData.depthAll]; exact Nat.zero_le _⟩
theorem Pys.cons (x : Py n d p) (q : Pys n l m) : Pys n (d :: l) (p :: m) := ⟨fun h Fb v r => by
    cases r with
    | cons a r =>
    obtain ⟨as, ra⟩ := x.1 _ _ _ a
    obtain ⟨bs, rb⟩ := q.1 _ _ _ r
    exact ⟨_, .cons ra rb⟩, by simp only [PyData.canLayAll0, x.2.1, q.2.1]; rfl, by have := x.2.2; have := q.2.2; simp only [PyData.depthAll]; omega⟩
theorem Py.reads {h : Heap} {Fb : Addr → Prop} {v : Value} (x : Py n d p) (r : Rep h Fb v d) : ∃ as, Reads h v p as := x.1 _ _ _ r
theorem Py.lay (x : Py n d p) : p.canLay0 = true := x.2.1
theorem Py.dep (x : Py n d p) : p.depth ≤ n := x.2.2
end
theorem Pys.map {α : Type} {n : Nat} {f : α → D} {g : α → PyData} : ∀ {l : List α}, (∀ x ∈ l, Py n (f x) (g x)) → Pys n (l.map f) (l.map g)
  | [], _ => Pys.nil
  | x :: l, h => Pys.cons (h x (.head _)) (Pys.map fun y hy => h y (.tail _ hy))

section
variable {W : Wd} {C : Fx W} {A : Around} {σ : LS} {s : Shared} {T : List (Value × Tmp)}
theorem Op2_eqD {n m : Nat} {d e : D} {p q : PyData} {Φ : Tmp → LS → Prop} (hu : A.units + 100 < cLine) (h1 : Py n d p) (h2 : Py m e q) (hn : n ≤ 90) (h : Φ (.val (.bool (PyData.eqv p q))) σ) : Op2 C A (compareOp .Eq) (.val d) (.val e) σ Φ := by
  intro s T v₁ v₂ S
  obtain ⟨ρ, S, r₁, r₂⟩ := S.top2
  obtain ⟨as, ra⟩ := h1.reads r₂
  obtain ⟨bs, rb⟩ := h2.reads r₁
  have := h1.dep
  exact SeqAt.compareEq_reads ra rb h1.lay h2.lay (by omega) (St.out0 (E := [_, _]) S h (.bool _))
theorem Op2_neD {n m : Nat} {d e : D} {p q : PyData} {Φ : Tmp → LS → Prop} (hu : A.units + 100 < cLine) (h1 : Py n d p) (h2 : Py m e q) (hn : n ≤ 90) (h : Φ (.val (.bool (!PyData.eqv p q))) σ) : Op2 C A (compareOp .NotEq) (.val d) (.val e) σ Φ := by
  intro s T v₁ v₂ S
  obtain ⟨ρ, S, r₁, r₂⟩ := S.top2
  obtain ⟨as, ra⟩ := h1.reads r₂
  obtain ⟨bs, rb⟩ := h2.reads r₁
  have := h1.dep
  exact SeqAt.compareNe_reads ra rb h1.lay h2.lay (by omega) (St.out0 (E := [_, _]) S h (.bool _))
theorem Op2_eqSelf {n : Nat} {d : D} {p : PyData} {Φ : Tmp → LS → Prop} (hu : A.units + 100 < cLine) (h1 : Py n d p) (hn : n ≤ 90) (h : Φ (.val (.bool true)) σ) : Op2 C A (compareOp .Eq) (.val d) (.val d) σ Φ :=
  Op2_eqD hu h1 h1 hn (by rw [SeqAt.eqv_refl p h1.lay]; exact h)
theorem Op2_neSelf {n : Nat} {d : D} {p : PyData} {Φ : Tmp → LS → Prop} (hu : A.units + 100 < cLine) (h1 : Py n d p) (hn : n ≤ 90) (h : Φ (.val (.bool false)) σ) : Op2 C A (compareOp .NotEq) (.val d) (.val d) σ Φ :=
  Op2_neD hu h1 h1 hn (by rw [SeqAt.eqv_refl p h1.lay]; exact h)

/-- sorted, of texts -/
theorem Calls_sorted {n : Nat} {ys : List Str} {Φ : D → Prop} (hz : ys.length < 64) (h : ∀ zs : List Str, zs.Perm ys → sortedS zs = true → Φ (.list (zs.map D.str))) : Calls W n (.builtin "sorted") [.list (ys.map D.str)] Φ := by
  intro A s Fb vs R hb hF hB r
  obtain ⟨_, rfl, a⟩ := Reps.one r
  obtain ⟨a, vs, rfl, nf, hl, q⟩ := Rep.ofList a
  have qs := strsAre_of q
  have hlen : vs.length = ys.length := by rw [q.length]; simp
  refine sorted_strs hl qs (by omega) fun out ss' h1 h2 h3 => ?_
  obtain ⟨e, he⟩ := sortedAll_at s.heap vs out
  have hk : Kp s.heap (sortedAll s.heap vs out) := fun b o e => sortedAll_old e
  generalize sortedAll s.heap vs out = h' at he hk ⊢
  have back : ∀ {vs : List Value} {ss : List Str}, StrsAre vs ss → Reps h' Fb vs (ss.map D.str) := by
    intro vs ss h
    induction h with
    | nil => exact .nil
    | cons y t r ih => exact .cons (.str _ _) ih
  have hl' : h'.IsList (s.heap.objs.size + 1) out.toList.toArray := ⟨_, he, rfl, e, by rw [Array.toArray_toList]⟩
  refine ⟨_, h ss' h2 h3, ⟨rfl, rfl, rfl⟩, hk, .list (vs := out.toList) (fun z => ?_) hl' (back h1)⟩
  obtain ⟨o, ho⟩ := hF _ z
  exact absurd (Heap.lt_size ho) (Nat.not_lt.mpr (Nat.le_succ _))
end
end Mine
namespace Mine
set_option autoImplicit false
set_option linter.unusedSectionVars false
set_option linter.unusedVariables false
section
variable {W : Wd} {C : Fx W} {A : Around} {σ σ' : LS} {s s' : Shared} {T : List (Value × Tmp)} {ρ ρ' : Addr → Option Role}

/-- maps and filters -/
theorem CompE_map {β : Type} (enc : β → D) {elt target iter : Expr} {ifs : List Expr} {scope : Scope} {cl : List (Str × Addr)} {hk : scope.kind = .function} {Ψ : List D → LS → Prop}
    (h : Ev C A iter σ fun t σ₁ => ∃ (τ : LS) (xs : List β) (p : β → Bool) (g : β → D) (d : D), t = .val d ∧ Items d (xs.map enc) ∧ (∀ n, d = .rng n → -(2 ^ 62) ≤ n) ∧ GoOk target d (xs.map enc) ∧ xs.length ≤ sizeLine ∧ CapOk C scope cl none σ₁ τ ∧ Sub τ τ ∧
      (∀ L hE Fb hb hx hF x, x ∈ xs → Asg (fxComp C scope cl hk L none hE Fb hb hx hF) A target (enc x) τ fun σ₃ => EvIfs (fxComp C scope cl hk L none hE Fb hb hx hF) A ifs σ₃ fun b σ₄ => b = p x ∧ if b then Ev (fxComp C scope cl hk L none hE Fb hb hx hF) A elt σ₄ (fun t σ₅ => t = .val (g x) ∧ Sub τ σ₅) else Sub τ σ₄) ∧
      Ψ ((xs.filter p).map g) σ₁) :
    CompE C A elt target iter ifs scope cl hk σ Ψ := by
  intro s T S
  refine wpNo (h s T S) fun v s₁ q₁ => ?_
  obtain ⟨t, σ₁, ⟨τ, xs, p, g, d, ht, hi, hlo, hg, hz, hc, hτ, hturn, hΨ⟩, o₁, S₁⟩ := q₁
  -- what CompH_map says of a turn, by a constant iterable
  refine ⟨t, σ₁, ⟨τ, fun i acc σ => Sub τ σ ∧ acc = ((xs.take i).filter p).map g, d, xs.map enc, ht, hi, hlo, hg, by simpa using hz, hc, ⟨hτ, rfl⟩, fun L hE Fb hb hx hF i x acc σ₂ hxi hq => ?_, fun acc σ' hq => ?_⟩, o₁, S₁⟩
  · obtain ⟨hs, ha⟩ := hq
    rw [List.getElem?_map] at hxi
    obtain ⟨y, hy, rfl⟩ := Option.map_eq_some_iff.mp hxi
    have hr := Asg.weaken hs (hturn L hE Fb hb hx hF y (List.mem_of_getElem? hy))
    have et := take_succ_filter p xs i y hy
    intro s T v sf S hm
    refine wpNo (hr s T v sf S hm) fun _ s₁ q₂ => ?_
    obtain ⟨σ₃, h₃, o, S₃⟩ := q₂
    refine ⟨σ₃, ?_, o, S₃⟩
    have step : ∀ b σ₄, (b = p y ∧ if b = true then Ev (fxComp C scope cl hk L none hE Fb hb hx hF) A elt σ₄ (fun t σ₅ => t = .val (g y) ∧ Sub τ σ₅) else Sub τ σ₄) →
        (if b = true then Ev (fxComp C scope cl hk L none hE Fb hb hx hF) A elt σ₄ (fun t σ₅ => ∃ d, t = .val d ∧ Sub τ σ₅ ∧ acc ++ [d] = ((xs.take (i + 1)).filter p).map g) else Sub τ σ₄ ∧ acc = ((xs.take (i + 1)).filter p).map g) := by
      rintro b σ₄ ⟨rfl, q⟩
      cases hp : p y with
      | true =>
        rw [hp, if_pos rfl] at q
        rw [if_pos rfl]
        refine q.mono fun t σ₅ q' => ⟨_, q'.1, q'.2, ?_⟩
        rw [et, hp, ha]; simp
      | false =>
        rw [hp, if_neg (by decide)] at q
        rw [if_neg (by decide)]
        refine ⟨q, ?_⟩
        rw [et, hp, ha]; simp
    exact EvIfs.mono h₃ step
  · rw [hq.2, List.length_map, List.take_length]; exact hΨ
end
end Mine
namespace Mine
set_option autoImplicit false
set_option linter.unusedSectionVars false
set_option linter.unusedVariables false
section
variable {W : Wd} {C : Fx W} {A : Around} {σ σ' : LS} {s s' : Shared} {T : List (Value × Tmp)} {ρ ρ' : Addr → Option Role}
/-- x[:j] of a text that an expression gives -/
theorem Ev_SliceStrA {e : Expr} {j : Int} {k : Nat} {p p' pos : Pos} {x : Str} {Φ : Tmp → LS → Prop} (hz : x.length ≤ sizeLine) (h : Ev C A e σ fun t σ₁ => t = .val (.str x) ∧ Φ (.val (.str (Txt.slice x none (some j)))) σ₁)
    (ht : ∀ x t r, letTemporaryGo e (.str x t) r = pure () := by intro _ _ _; rfl) : Ev C A (.Subscript e (.Slice none (some (.Constant (.int j) k p)) none p') pos) σ Φ := by
  intro s T S
  refine Subscript_ (wpNo (h s T S) fun v s₁ qq1 => ?_)
  refine qq1.elim fun t σ₁ q₀ o₁ S₁ => ?_
  obtain ⟨et, h₁⟩ := q₀
  obtain ⟨ρ₁, S₁⟩ := S₁
  subst et
  have r := S₁.temps.1
  obtain ⟨tk, rfl⟩ := Rep.ofStr r
  refine wpAny_Slice (evalPart_none_step (evalPart_some_step (wpAny_Constant_int (evalPart_none_step ?_))))
  refine subscriptTail_ops (T := "str") (ops := [.ref s₁.heap.objs.size, .str x tk]) (typeIs_str _ x tk) F.slot_str_getitem.lookup
    (wpAny_getItem_str_slice (l := none) (u := some (j, s₁.toks)) (st := none) ⟨_, Heap.get?_push_size _ rfl, rfl, rfl⟩ rfl ?_) rfl (fun r => ht _ _ _)
  unfold Txt.slice at h₁
  unfold sliceMade slicePicked
  simp only [Option.map_none, Option.map_some, Option.getD_none] at h₁ ⊢
  split
  · rename_i hc
    rw [if_pos hc] at h₁
    exact ⟨_, _, h₁, o₁.trans ⟨rfl, rfl, rfl⟩, S₁.step (E := [_]) (s' := { s₁ with heap := _, toks := _ }) (kp_push _ _) (.str _ _)⟩
  · rename_i hc
    have hle := Txt.slice_le x none (some j)
    unfold Txt.slice at hle
    rw [if_neg hc] at h₁ hle
    exact ⟨Nat.le_trans hle hz, _, _, h₁, o₁.trans ⟨rfl, rfl, rfl⟩, S₁.step (E := [_]) (s' := { s₁ with heap := _, toks := _ }) (kp_push _ _) (.str _ _)⟩
end
end Mine
namespace Mine
set_option autoImplicit false
set_option linter.unusedSectionVars false
set_option linter.unusedVariables false
section
variable {W : Wd} {C : Fx W} {A : Around} {σ σ' : LS} {s s' : Shared} {T : List (Value × Tmp)} {ρ ρ' : Addr → Option Role}

/- a body whose result is a new list -/
noncomputable def ExsF (C : Fx W) (A : Around) (ss : List Stmt) (σ : LS) (Φ : List D → Prop) : Prop :=
  ∀ s T, Safe T → St C σ s T → wpAny W.M A (execs ss C.env) (fun f s' => ∃ v l σ', f = .ret v ∧ Φ l ∧ Only s s' ∧ St C σ' s' ((v, .fresh l) :: T)) NoE s
theorem ExsF_cons {st : Stmt} {rest : List Stmt} {Φ : List D → Prop} (h : Ex C A st σ fun fl σ' => fl = .next ∧ ExsF C A rest σ' Φ) : ExsF C A (st :: rest) σ Φ :=
  fun s T sf S => wpAny_execs_cons (wpNo (h s T sf S) fun f s₁ q => by
    cases f with
    | next => obtain ⟨σ₁, ⟨_, h₁⟩, o, S₁⟩ := q; exact wpNo (h₁ s₁ T sf S₁) fun f s₂ ⟨v, l, σ', e, hl, o', S'⟩ => ⟨v, l, σ', e, hl, o.trans o', S'⟩
    | ret v => obtain ⟨d, σ₁, ⟨e, _⟩, _⟩ := q; cases e
    | brk => obtain ⟨σ₁, ⟨e, _⟩, _⟩ := q; cases e
    | cont => obtain ⟨σ₁, ⟨e, _⟩, _⟩ := q; cases e)
theorem ExsF_ret {e : Expr} {pos : Pos} {rest : List Stmt} {Φ : List D → Prop} (h : Ev C A e σ fun t σ₁ => ∃ l, t = .fresh l ∧ Φ l) : ExsF C A (.Return (some e) pos :: rest) σ Φ :=
  fun s T sf S => wpAny_execs_cons (wpAny_Return_some (wpNo (h s T S) fun v s₁ p16 => p16.elim fun t σ₁ p16i o S₁ => by obtain ⟨l, ht, hl⟩ := p16i; subst ht; exact ⟨v, l, σ₁, rfl, hl, o, S₁⟩))
theorem call_fnP {f : Addr} {qual : Str} {body : List Stmt} {scope : Scope} {cdv : Value} {xs : List Str} {n : Nat} {bx : Option Addr} {Fb : Addr → Prop} {vs : List Value} {Q : Value → Shared → Prop} (F : FnAt W.K f qual body scope cdv xs) (R : Room A (n + 1))
    (hbase : Kp W.hB s.heap) (hF : ∀ a, Fb a → ∃ o, s.heap.get? a = some o) (hFbB : ∀ a, Fb a → W.hB.get? a = none) (hbx : ∀ a, bx = some a → Fb a) (hlen : vs.length = xs.length)
    (hv : ∀ x l, σ.lookup x = some l → ∃ v, (x, v) ∈ xs.zip vs ∧ match l with
      | .val d => Rep s.heap Fb v d
      | .own b => x = "box" ∧ ∃ a bs, v = .ref a ∧ bx = some a ∧ s.heap.PlainList a bs ∧ Reps s.heap Fb bs.toList b)
    (h : ∀ A L hb hx s', (∀ a, L ≤ a → s.heap.get? a = none) → Room A n → Only s s' → St (fxFn W qual scope L f cdv F.kind bx s.heap Fb hb hx hF) σ s' [] → wpAny W.M A (execs body (fxFn W qual scope L f cdv F.kind bx s.heap Fb hb hx hF).env) (fun fl s'' => Q (match fl with | .ret v => v | _ => .none) s'') NoE s') : wpAny W.M A (call (.ref f) vs) Q NoE s := by
  obtain ⟨oc, od, osl, name, params, dV, kV, doc, pm, an, ct, hl, hbind⟩ := F.fn
  have X := W.X.keeps hbase
  refine wpAny_call (codeAny_call_cells (fd := fnOf name qual params body scope dV kV doc pm an cdv ct) (by have := R.depth; omega) (X _ _ hl) rfl (W.T.nolimit.keeps hbase) (codeRec_of X F.code) rfl (hbind vs hlen) rfl (fun p hp => ?_) (fun s₁ IC => ?_) F.co F.gen F.kind)
  · have := (List.of_mem_zip (show (p.1, p.2) ∈ xs.zip vs from hp)).1
    rcases F.kinds _ this with h | ⟨h1, h2⟩
    · exact .inl h
    · exact .inr ⟨h1, h2 _⟩
  · obtain ⟨h₁, tk, rfl, kp⟩ := IC.done
    have hbx' : ∀ a, bx = some a → W.hB.get? a = none := fun a e => hFbB a (hbx a e)
    have kinds : ∀ p ∈ xs.zip vs, scope.names.lookup p.1 = some .local ∨ (scope.names.lookup p.1 = some .cell ∧ ((cellsFrom (s.heap.objs.size + 1) scope.names []).lookup p.1).isSome = true) := fun p hp => by
      have := (List.of_mem_zip (show (p.1, p.2) ∈ xs.zip vs from hp)).1
      rcases F.kinds _ this with h | ⟨h1, h2⟩
      · exact .inl h
      · exact .inr ⟨h1, h2 _⟩
    have IC' : InCallC s s.heap.objs.size (bindL (envOfC qual scope s.heap.objs.size f cdv).kindOf (xs.zip vs) fun _ => none) (cellsFrom (s.heap.objs.size + 1) scope.names []) (bindC (envOfC qual scope s.heap.objs.size f cdv).kindOf (xs.zip vs) fun _ => none) { s with heap := h₁, toks := tk } := IC
    have S := enter_fn (W := W) (σ := σ) (s := { s with heap := h₁, toks := tk }) (qual := qual) (scope := scope) (L := s.heap.objs.size) (f := f) (cdv := cdv) (hk := F.kind) (bx := bx) (Fb := Fb) (h₀ := s.heap) (hb := hbase) (hx := hbx') (hF := hF) (binds := xs.zip vs) kp
      (fun a ha => Heap.get?_none_of_le ha) hFbB hbx IC'.toInCall.ns IC'.cell IC'.apart IC'.above (by rw [map_fst_zip hlen.symm]; exact F.nd) kinds hv
    · exact wpAny_mono (h _ s.heap.objs.size hbase hbx' _ (fun a ha => Heap.get?_none_of_le ha) (R.deeper _) ⟨rfl, rfl, rfl⟩ ⟨_, S⟩) (fun fl s' q => q) fun _ _ e => e.elim
theorem lookupArgs {h : Heap} {Fb : Addr → Prop} {x : Str} {l : Loc} : ∀ {xs : List Str} {vs : List Value} {ds : List D}, Reps h Fb vs ds → (xs.zip (ds.map Loc.val)).lookup x = some l → ∃ v d, l = .val d ∧ (x, v) ∈ xs.zip vs ∧ Rep h Fb v d
  | [], _, _, _, e => by cases e
  | _ :: _, _, _, .nil, e => by cases e
  | y :: xs, _, _, .cons a r, e => by
    rw [List.map_cons, List.zip_cons_cons, List.lookup_cons] at e
    cases hb : x == y with
    | true => rw [hb] at e; cases e; exact ⟨_, _, rfl, by rw [beq_iff_eq.mp hb]; exact .head _, a⟩
    | false => rw [hb] at e; obtain ⟨v, d, h1, h2, h3⟩ := lookupArgs r e; exact ⟨v, d, h1, .tail _ h2, h3⟩
theorem CallsF_fn {f : Addr} {qual : Str} {body : List Stmt} {scope : Scope} {cdv : Value} {xs : List Str} {n : Nat} {ds : List D} {Φ : List D → Prop} (F : FnAt W.K f qual body scope cdv xs) (hlen : ds.length = xs.length)
    (h : ∀ A L hE Fb hb hx hF, Room A n → ExsF (fxFn W qual scope L f cdv F.kind none hE Fb hb hx hF) A body (xs.zip (ds.map Loc.val)) Φ) : CallsF W (n + 1) (.ref f) ds Φ := by
  intro A s Fb vs R hbase hF hFbB r
  refine call_fnP (σ := xs.zip (ds.map Loc.val)) (bx := none) F R hbase hF hFbB (fun _ e => nomatch e) (by rw [r.length, hlen]) (fun x l e => ?_) fun A L hb hx s₀ hL R o₀ S₀ => ?_
  · obtain ⟨v, d, rfl, h2, h3⟩ := lookupArgs r e
    exact ⟨v, h2, h3⟩
  · refine wpNo (h A L _ _ hb hx hF R s₀ [] (fun p hp => nomatch hp) S₀) fun fl s' qq1 => ?_
    obtain ⟨v, l, σ', e, hl, o, ρ', S'⟩ := qq1
    subst e
    obtain ⟨a, ws, rfl, hra, ⟨k, hpl⟩, hR⟩ := S'.temps.1
    refine ⟨l, a, ws.toList, k, rfl, hl, o₀.trans o, fun b x e => S'.keep b x e (fun z => nomatch z), S'.new a _ hra (by simp) (fun z => nomatch z), by simpa using hpl, ?_⟩
    refine Reps.mono (fun b o e _ => e) (fun b q => .inl ?_) hR
    rcases q with q | rfl
    · exact S'.ext b q
    · rw [FbOf, hra]; simp

/- the comprehension that takes from the box -/
noncomputable def upAt (h : Heap) (a : Addr) (o : Obj) : Heap := { h with objs := h.objs.setIfInBounds a o }
theorem upAt_ne {h : Heap} {a b : Addr} {o : Obj} (hb : b ≠ a) : (upAt h a o).get? b = h.get? b := by
  unfold upAt Heap.get?
  dsimp only
  rw [Array.getElem?_setIfInBounds_ne (fun e => hb e.symm)]
theorem upAt_self {h : Heap} {a : Addr} {x : Obj} {o : Obj} (hx : h.get? a = some x) (ho : ∀ c d s, o ≠ ⟨c, d, .freed, s⟩) : (upAt h a o).get? a = some o := by
  have hlt : a < h.objs.size := Heap.lt_size hx
  unfold upAt Heap.get?
  dsimp only
  rw [Array.getElem?_setIfInBounds_self_of_lt hlt]
  rcases o with ⟨c, d, data, sl⟩
  cases data <;> first | rfl | exact absurd rfl (ho c d sl)
theorem Rep.scalar {h h' : Heap} {F F' : Addr → Prop} {v : Value} {d : D} (hd : d.scalar = true) (r : Rep h F v d) : Rep h' F' v d := by
  cases r with
  | none => exact .none
  | bool b => exact .bool b
  | int i t => exact .int i t
  | str x t => exact .str x t
  | _ => cases hd
theorem Reps.scalar {h h' : Heap} {F F' : Addr → Prop} {vs : List Value} {ds : List D} (hd : ∀ x ∈ ds, x.scalar = true) (r : Reps h F vs ds) : Reps h' F' vs ds :=
  r.ind (P := fun vs ds => (∀ x ∈ ds, x.scalar = true) → Reps h' F' vs ds) (fun _ => .nil) (fun a _ q hd => .cons (a.scalar (hd _ (.head _))) (q fun x hx => hd x (.tail _ hx))) hd
theorem compAfterB {C' : Fx W} {D₀ L a : Addr} {acc b b' : List D} (S : StR C ρ σ s T) (hob : σ.lookup ("box" : Str) = some (.own b)) (hra₀ : ρ a = some (.own "box")) (S' : StR C' ρ' σ' s' [(.ref D₀, .fresh acc)]) (hob' : σ'.lookup ("box" : Str) = some (.own b')) (hsc : ∀ x ∈ b', x.scalar = true)
    (hD : s.heap.get? D₀ = none) (hL : s.heap.get? L = none) (hn : D₀ ≠ L) (e1 : C'.env.locals = L) (e2 : C'.bx = some a) (e3 : C'.hE = s.heap) (e4 : C'.Fb = FbOf ρ) :
    ∃ m, s'.heap.Ns L m ∧ ∀ h', Heap.SameBut L s'.heap h' → StR C (setR (buryF ρ fun a => a = D₀) D₀ (.temp T.length)) (upd σ "box" (.own b')) { s' with heap := h' } ((.ref D₀, .fresh acc) :: T) := by
  obtain ⟨bs', ⟨nb, hbs⟩, hbR⟩ := boxOut S' e2 hob'
  obtain ⟨oa, hoa⟩ := S.alive a (by rw [hra₀]; simp)
  have haL : a ≠ L := fun z => by rw [z, hL] at hoa; cases hoa
  have haD : a ≠ D₀ := fun z => by rw [z, hD] at hoa; cases hoa
  have nfr : ∀ c d s, ({ cls := .type "list", dict := none, data := .seq bs' nb, slots := #[] } : Obj) ≠ ⟨c, d, .freed, s⟩ := fun c d s e => by cases e
  have S₀ : StR C ρ (upd σ "box" (.own b')) { s with heap := upAt s.heap a { cls := .type "list", dict := none, data := .seq bs' nb, slots := #[] } } T :=
    S.ownUpd (s' := { s with heap := upAt s.heap a _ }) hob hra₀ (fun c o hc e => (upAt_ne hc).trans e) ⟨nb, upAt_self hoa nfr⟩ (Reps.scalar hsc hbR)
  have hDm : (upAt s.heap a { cls := .type "list", dict := none, data := .seq bs' nb, slots := #[] }).get? D₀ = none := (upAt_ne fun z => haD z.symm).trans hD
  obtain ⟨⟨x, vs, e, hra, ⟨n, hpl⟩, hR⟩, _⟩ := S'.temps
  cases e
  obtain ⟨m, hm⟩ := S'.ns
  rw [e1] at hm
  refine ⟨m, hm, fun h' hs' => ?_⟩
  have kk : ∀ b o, b ≠ L → s'.heap.get? b = some o → h'.get? b = some o := fun b o hb e => (hs'.2 b hb).trans e
  have kp : Kp (upAt s.heap a { cls := .type "list", dict := none, data := .seq bs' nb, slots := #[] }) h' := fun c o e => by
    by_cases hc : c = a
    · subst hc
      rw [upAt_self hoa nfr] at e
      cases e
      exact kk _ _ haL hbs
    · rw [upAt_ne hc] at e
      exact kk c o (fun z => by rw [z, hL] at e; cases e) (S'.keep c o (by rw [e3]; exact e) (by rw [e2]; exact fun z => hc (Option.some.inj z).symm))
  have gD : h'.PlainList D₀ vs := ⟨n, kk _ _ hn hpl⟩
  have S₁ := S₀.bury (s' := { s' with heap := h' }) (B := fun a => a = D₀) kp fun a ha => by
    subst ha
    exact ⟨hDm, ⟨_, gD.choose_spec⟩⟩
  refine S₁.unbury (t := .fresh acc) (bury_in rfl) ⟨D₀, vs, rfl, setR_self _ _ _, gD, ?_⟩
  refine Reps.mono (fun b o e nb => kk b o (fun z => nb (by rw [z, FbOf, ← e1, S'.frρ]; simp)) e) (fun b q => .inl ?_) hR
  by_cases hb : b = D₀
  · rw [hb, FbOf, hra]; simp
  · rw [FbOf, setR_ne hb] at q
    rw [bury_out (B := fun a => a = D₀) hb] at q
    exact S'.ext b (by rw [e4]; exact q)
theorem Ev_CompB {elt target iter : Expr} {ifs : List Expr} {scope : Scope} {pos : Pos} {cl : List (Str × Addr)} {τ : LS} {Φ : Tmp → LS → Prop} (Inv : Nat → List D → LS → Prop) (hh : A.handled = none) (hk : scope.kind = .function)
    (hclos : closureFor scope C.env = pure cl) (hcell : ∀ y ∈ scope.names, y.2 ≠ .cell) (hnames : ∀ x ∈ scope.names, x.2 = .local → scope.names.lookup x.1 = some .local) (hcl : ∀ p ∈ cl, C.env.kindOf p.1 = some .cell ∧ C.env.cells.lookup p.1 = some p.2)
    (h : Ev C A iter σ fun t σ₁ => ∃ d ds b, t = .val d ∧ Items d ds ∧ (∀ n, d = .rng n → -(2 ^ 62) ≤ n) ∧ GoOk target d ds ∧ ds.length ≤ sizeLine ∧ σ₁.lookup ("box" : Str) = some (.own b) ∧ (∀ a, CapOk C scope cl (some a) σ₁ τ) ∧ Inv 0 [] τ ∧
      (∀ a L hE Fb hb hx hF, Turns (fxComp C scope cl hk L (some a) hE Fb hb hx hF) A elt target ifs ds Inv) ∧
      ∀ acc σ', Inv ds.length acc σ' → ∃ b', σ'.lookup ("box" : Str) = some (.own b') ∧ (∀ x ∈ b', x.scalar = true) ∧ Φ (.fresh acc) (upd σ₁ "box" (.own b')))
    (hs : ∀ x, foldedSetIterable iter C.env x = pure x := by intro _; rfl) :
    Ev C A (.ListComp elt [⟨target, iter, ifs, 0⟩] scope pos) σ Φ := by
  intro s T S
  rw [eval_ListComp]
  refine wpAny_comprehension_free (use := none) rfl hs hclos hk hnames (wpNo (h s T S) fun v s₁ qq2 => ?_)
  refine qq2.elim fun t σ₁ q₀ o₁ S₁ => ?_
  obtain ⟨d, ds, b, ht, hi, hlo, hg, hz, hob, hc, h0, hturn, hend⟩ := q₀
  obtain ⟨ρ₁, S₁⟩ := S₁
  subst ht
  have S₁' := StR.drop (E := [_]) S₁ (s' := s₁) fun _ _ e => e
  obtain ⟨_, _, a, bs, rfl, hra, _, _⟩ := S₁'.vars _ _ hob
  refine compBlock (bx := some a) Inv (fun acc L r s' => compPost W.M A NoE none (EvPost C s T Φ) acc L r s') hh hk hcell hcl S₁' (by rw [fbOf_map]; exact S₁.temps.1) hi hlo hg hz (fun _ e => by cases e; exact hra) (hc a) h0 (hturn a)
    fun D₀ L acc σ' s' C' ρ' hI o hD hL hn e1 e2 e3 e4 S' => ?_
  obtain ⟨b', hb', hsc, hΦ⟩ := hend acc σ' hI
  obtain ⟨m, hm, hS⟩ := compAfterB S₁' hob hra S' hb' hsc hD hL hn e1 e2 e3 e4
  exact ⟨m, hm, fun h' hs' => ⟨_, _, hΦ, (o₁.trans o).trans ⟨rfl, rfl, rfl⟩, _, hS h' hs'⟩⟩
end
end Mine
namespace Mine
set_option autoImplicit false
set_option genSizeOf false
set_option genInjectivity false
set_option linter.unusedVariables false

/- the codes, as plain data -/
inductive Op where
  | push | self | getl | geti | getg | dup | blockgiven | setl | seti | setg | setc | pop | swap | undef | leave | jump | jumpif | jumpunless | jumpnil
  deriving DecidableEq
noncomputable def Op.s : Op → Str
  | .push => "push" | .self => "self" | .getl => "getl" | .geti => "geti" | .getg => "getg" | .dup => "dup" | .blockgiven => "blockgiven" | .setl => "setl" | .seti => "seti" | .setg => "setg" | .setc => "setc" | .pop => "pop" | .swap => "swap"
  | .undef => "undef" | .leave => "leave" | .jump => "jump" | .jumpif => "jumpif" | .jumpunless => "jumpunless" | .jumpnil => "jumpnil"
noncomputable def Op.isJump : Op → Bool
  | .jump | .jumpif | .jumpunless | .jumpnil => true
  | _ => false
noncomputable def Op.isEnd : Op → Bool
  | .jump | .leave => true
  | _ => false
noncomputable def Op.isBranch : Op → Bool
  | .jumpif | .jumpunless => true
  | _ => false
noncomputable def Op.isPlain : Op → Bool
  | .push | .self | .getl | .geti | .getg | .dup | .blockgiven => true
  | _ => false
noncomputable def Op.isStore : Op → Bool
  | .setl | .seti | .setg | .setc => true
  | _ => false
inductive Sy where
  | ivar | gvar | a | b | u
  deriving DecidableEq
noncomputable def Sy.s : Sy → Str
  | .ivar => "@x" | .gvar => "$x" | .a => "a" | .b => "b" | .u => "u"
set_option genInjectivity true
inductive V where
  | none | bool (b : Bool) | nat (n : Nat) | sym (s : Sy)
  deriving DecidableEq
set_option genInjectivity false
noncomputable def V.d : V → D
  | .none => .none
  | .bool b => .bool b
  | .nat n => .int n
  | .sym s => .str s.s
structure PRow where
  op : Op
  a : V
  b : V
  deriving DecidableEq
structure PCat where
  first : Nat
  last : Nat
  target : Nat
  deriving DecidableEq
structure PCode where
  rows : List PRow
  cats : List PCat
  starts : List Nat
noncomputable abbrev rowD (r : PRow) : D := .inst 48 [("op", .str r.op.s), ("a", r.a.d), ("b", r.b.d), ("c", .none), ("line", .int 7)]
noncomputable abbrev catD (k : PCat) : D := .inst 76 [("sort", .str "ensure"), ("first", .int k.first), ("last", .int k.last), ("target", .int k.target), ("depth", .int 1)]
noncomputable abbrev natD (n : Nat) : D := .int n
noncomputable def optD : Option PRow → D
  | none => .none
  | some r => rowD r
noncomputable abbrev codeD' (rows cats kids starts : D) : D := .inst 111 [("kind", .str "method"), ("name", .str "c"), ("params", .none), ("slots", .list [.str "x", .str "y"]), ("rows", rows), ("catches", cats), ("children", kids), ("starts", starts), ("number", .none)]
noncomputable abbrev codeD (c : PCode) (kids : List D) : D := codeD' (.list (c.rows.map rowD)) (.list (c.cats.map catD)) (.list kids) (.list (c.starts.map natD))

noncomputable def PRow.t (r : PRow) : Nat := match r.a with
  | .nat n => n
  | _ => 0
noncomputable def row0 : PRow := ⟨.leave, .none, .none⟩
noncomputable def at_ (rows : List PRow) (i : Nat) : PRow := rows.getD i row0
noncomputable def atO (rows : List (Option PRow)) (i : Nat) : Option PRow := rows.getD i none

/- the passes -/
noncomputable def setMark (f : List Bool) (i : Nat) : List Bool := f.set i true
noncomputable def marksP (c : PCode) : List Bool :=
  c.starts.foldl setMark (c.cats.foldl (fun f k => setMark f k.target) (c.rows.foldl (fun f r => if r.op.isJump then setMark f r.t else f) (List.replicate (c.rows.length + 1) false)))
noncomputable def placesAux : Nat → List (Option PRow) → List Nat
  | n, [] => [n]
  | n, none :: r => n :: placesAux n r
  | n, some _ :: r => n :: placesAux (n + 1) r
noncomputable def placesP (l : List (Option PRow)) : List Nat := placesAux 0 l
noncomputable def retarget (pl : List Nat) (r : PRow) : PRow := if r.op.isJump then { r with a := .nat (pl.getD r.t 0) } else r
noncomputable def recatch (pl : List Nat) (k : PCat) : PCat := ⟨pl.getD k.first 0, pl.getD k.last 0, pl.getD k.target 0⟩
noncomputable def pressedP (c : PCode) (l : List (Option PRow)) : PCode :=
  ⟨(l.filterMap id).map (retarget (placesP l)), (c.cats.map (recatch (placesP l))).filter fun k => k.first < k.last, c.starts.map fun s => (placesP l).getD s 0⟩
noncomputable def eojP (rows : List PRow) (place : Nat) : Nat → Nat → Nat
  | 0, _ => place
  | k + 1, found => if (at_ rows found).op = .jump then eojP rows place k (at_ rows found).t else found
noncomputable def threadRow (rows : List PRow) (r : PRow) : PRow :=
  if r.op.isJump then
    (if r.op = .jump ∧ (at_ rows (eojP rows r.t rows.length r.t)).op = .leave then ⟨.leave, .none, .none⟩ else { r with a := .nat (eojP rows r.t rows.length r.t) })
  else r
noncomputable def threadedO (c : PCode) : List (Option PRow) := c.rows.map fun r => some (threadRow c.rows r)
noncomputable def isOp (r : Option PRow) (p : Op → Bool) : Bool := match r with
  | none => false
  | some r => p r.op
noncomputable def pushStep (marks : List Bool) (rows : List (Option PRow)) (i : Nat) : List (Option PRow) :=
  if isOp (atO rows i) Op.isPlain && isOp (atO rows (i + 1)) (· == .pop) && !marks.getD (i + 1) false then (rows.set i none).set (i + 1) none else rows
noncomputable def pushesO (c : PCode) : List (Option PRow) := (List.range (c.rows.length - 1)).foldl (pushStep (marksP c)) (c.rows.map some)
noncomputable def copyStep (marks : List Bool) (rows : List (Option PRow)) (i : Nat) : List (Option PRow) :=
  if isOp (atO rows i) (· == .dup) && isOp (atO rows (i + 1)) Op.isStore && isOp (atO rows (i + 2)) (· == .pop) && (!marks.getD (i + 1) false && !marks.getD (i + 2) false) then (rows.set i none).set (i + 2) none else rows
noncomputable def copiesO (c : PCode) : List (Option PRow) := (List.range (c.rows.length - 2)).foldl (copyStep (marksP c)) (c.rows.map some)
noncomputable def truthV : V → Bool
  | .none => false
  | .bool b => b
  | _ => true
noncomputable def takenP (br : PRow) (v : V) : Bool := truthV v == (br.op == .jumpif)
noncomputable def knownStep (crows : List PRow) (marks : List Bool) (rows : List (Option PRow)) (i : Nat) : List (Option PRow) :=
  match atO rows i, atO rows (i + 1) with
  | some r, some h =>
    if r.op ≠ .push ∨ marks.getD (i + 1) false = true then rows
    else if h.op.isBranch then (rows.set i none).set (i + 1) (if takenP h r.a then some ⟨.jump, h.a, .none⟩ else none)
    else if h.op = .jump ∧ (at_ crows h.t).op.isBranch = true then (rows.set i none).set (i + 1) (some { h with a := if takenP (at_ crows h.t) r.a then (at_ crows h.t).a else .nat (h.t + 1) })
    else rows
  | _, _ => rows
noncomputable def knownO (c : PCode) : List (Option PRow) := (List.range (c.rows.length - 1)).foldl (knownStep c.rows (marksP c)) (c.rows.map some)
noncomputable def flipOp (o : Op) : Op := if o = .jumpif then .jumpunless else .jumpif
noncomputable def turnStep (marks : List Bool) (rows : List (Option PRow)) (i : Nat) : List (Option PRow) :=
  match atO rows i, atO rows (i + 1) with
  | some r, some h => if r.op.isBranch = true ∧ h.op = .jump ∧ r.t = i + 2 ∧ marks.getD (i + 1) false = false then (rows.set i (some ⟨flipOp r.op, h.a, .none⟩)).set (i + 1) none else rows
  | _, _ => rows
noncomputable def turnedO (c : PCode) : List (Option PRow) := (List.range (c.rows.length - 1)).foldl (turnStep (marksP c)) (c.rows.map some)
noncomputable def shortRow (i : Nat) (r : PRow) : Option PRow := if r.op.isJump = true ∧ r.t = i + 1 then (if r.op.isBranch then some ⟨.pop, .none, .none⟩ else none) else some r
noncomputable def shortAux : Nat → List PRow → List (Option PRow)
  | _, [] => []
  | i, r :: rest => shortRow i r :: shortAux (i + 1) rest
noncomputable def shortO (c : PCode) : List (Option PRow) := shortAux 0 c.rows
noncomputable def swapStep (marks : List Bool) (rows : List (Option PRow)) (i : Nat) : List (Option PRow) :=
  if isOp (atO rows (i + 1)) (· == .swap) && !marks.getD (i + 1) false then
    (if isOp (atO rows i) (· == .swap) then (rows.set i none).set (i + 1) none else if isOp (atO rows i) (· == .dup) then rows.set (i + 1) none else rows)
  else rows
noncomputable def swapsO (c : PCode) : List (Option PRow) := (List.range (c.rows.length - 1)).foldl (swapStep (marksP c)) (c.rows.map some)
/- what is reached: the list of places that wait -/
noncomputable def nextsOf (c : PCode) (i : Nat) : List Nat :=
  (if (at_ c.rows i).op.isJump then [(at_ c.rows i).t] else []) ++ (if (at_ c.rows i).op.isEnd then [] else [i + 1]) ++ (c.cats.filter fun k => k.first ≤ i ∧ i < k.last).map (·.target)
/-- the last that waits is looked at first: the list is kept turned round -/
noncomputable def reachP (c : PCode) : Nat → List Bool → List Nat → List Bool
  | 0, f, _ => f
  | _ + 1, f, [] => f
  | k + 1, f, i :: w => if f.getD i false then reachP c k f w else reachP c k (f.set i true) ((nextsOf c i).reverse ++ w)
noncomputable def reachFuel (c : PCode) : Nat := c.rows.length * (c.cats.length + 3) + c.starts.length
noncomputable def reachedP (c : PCode) : List Bool := reachP c (reachFuel c) (List.replicate c.rows.length false) c.starts.reverse
noncomputable def deadO (c : PCode) : List (Option PRow) := (c.rows.zip (reachedP c)).map fun p => if p.2 then some p.1 else none
inductive Pass where
  | threaded | known | turned | short | dead | pushes | copies | swaps
  deriving DecidableEq
noncomputable def Pass.opt (c : PCode) : Pass → List (Option PRow)
  | .threaded => threadedO c
  | .known => knownO c
  | .turned => turnedO c
  | .short => shortO c
  | .dead => deadO c
  | .pushes => pushesO c
  | .copies => copiesO c
  | .swaps => swapsO c
noncomputable def Pass.run (p : Pass) (c : PCode) : PCode := pressedP c (p.opt c)
noncomputable def Pass.s : Pass → Str
  | .threaded => "threaded" | .known => "known branches" | .turned => "turned branches" | .short => "short jumps" | .dead => "dead rows" | .pushes => "pushes" | .copies => "copies" | .swaps => "swaps"
noncomputable def passes : List Pass := [.threaded, .known, .turned, .short, .dead, .pushes, .copies, .swaps]

theorem op_eq (a b : Op) : (a.s == b.s) = (a == b) := by cases a <;> cases b <;> rfl
theorem op_ne (a b : Op) : (a.s != b.s) = !(a == b) := by rw [bne, op_eq]
end Mine
namespace Mine
set_option autoImplicit false
set_option linter.unusedVariables false
set_option maxRecDepth 100000

noncomputable abbrev KK (P : Params) : Frag := fragP P
noncomputable def dOf (K : Frag) (f : Addr) : Option FuncData := match K.lookup f with
  | some ⟨_, _, .func fd, _⟩ => some fd
  | _ => none
noncomputable def bodyOf (K : Frag) (f : Addr) : List Stmt := match dOf K f with
  | some fd => (match fd.body with | .stmts b => b | _ => [])
  | _ => []
noncomputable def scopeOf (K : Frag) (f : Addr) : Scope := match dOf K f with
  | some fd => fd.scope
  | _ => { kind := .function, names := [], isGenerator := true, isCoroutine := true }
noncomputable def qualOf (K : Frag) (f : Addr) : Str := match dOf K f with
  | some fd => fd.qualname
  | _ => ""
noncomputable def codeOf (K : Frag) (f : Addr) : Value := match dOf K f with
  | some fd => fd.code
  | _ => .none
theorem all_of {α : Type} {p : α → Bool} {Q : α → Prop} {l : List α} (h : l.all p = true) (q : ∀ x, p x = true → Q x) : ∀ x ∈ l, Q x := fun x hx => q x (List.all_eq_true.mp h x hx)
theorem bd0 {α : Type} {P : List α → Prop} (h : P []) (vs : List α) (hl : vs.length = 0) : P vs := by
  cases vs with
  | nil => exact h
  | cons _ _ => cases hl
theorem bdS {α : Type} {n : Nat} {P : List α → Prop} (h : ∀ (a : α) (vs : List α), vs.length = n → P (a :: vs)) (vs : List α) (hl : vs.length = n + 1) : P vs := by
  cases vs with
  | nil => cases hl
  | cons a vs => exact h a vs (Nat.succ.inj hl)
theorem rowAt (P : Params) : ClsAt (KK P) 48 38 (qualOf (KK P) 38) (bodyOf (KK P) 38) (scopeOf (KK P) 38) (codeOf (KK P) 38) ["op", "a", "b", "c", "line"] [("op", some "op"), ("a", some "a"), ("b", some "b"), ("c", some "c"), ("line", some "line")] where
  makes := by rfl
  init := by rfl
  fn := by
    refine ⟨_, _, _, _, _, _, _, _, _, _, _, rfl, ?_⟩
    intro s vs X hl
    revert vs
    refine bdS fun _ => bdS fun _ => bdS fun _ => bdS fun _ => bdS fun _ => bdS fun _ => bd0 ?_
    refine BindsTo.of_defaults (T := 31) rfl (X _ _ rfl) rfl rfl ?_
    rfl
  isFn := by rfl
  code := by rfl
  co := by rfl
  gen := by rfl
  kind := by rfl
  cell := all_of (p := fun x => x.2 != .cell) (by rfl) (by simp)
  loc := all_of (p := fun x => (scopeOf (KK P) 38).names.lookup x == some .local) (by rfl) (by simp)
  dbg := by decide
  nd := by decide
  body := .name (.name (.name (.name (.name .nil))))
  fnd := by decide
  small := by decide
  prm := by decide
  plain := by rfl
  taker := all_of (p := fun x => takerIn (KK P) 48 x.1 == some none) (by rfl) (by simp)
  dict := by rfl
  set := by rfl
end Mine
namespace Mine
set_option autoImplicit false
set_option genSizeOf false
set_option genInjectivity false
set_option linter.unusedVariables false
set_option maxRecDepth 100000

/-- the program's world -/
structure Base where
  prog : Program
  w : World
  hB : Heap
  p : Program
  loose : List Str
  mean : ExcName → Option Value
  mg : Str → Option Value
  mb : Str → Option Value
  X : (KK w.params).In hB
  T : Top p loose mean mg mb hB
@[reducible] noncomputable def Base.W (B : Base) : Wd := ⟨B.prog, B.w, KK B.w.params, B.hB, B.p, B.loose, B.mean, B.mg, B.mb, B.X, B.T⟩

noncomputable abbrev qu (B : Base) (f : Addr) := qualOf (KK B.w.params) f
noncomputable abbrev bo (B : Base) (f : Addr) := bodyOf (KK B.w.params) f
noncomputable abbrev sc (B : Base) (f : Addr) := scopeOf (KK B.w.params) f
noncomputable abbrev cd (B : Base) (f : Addr) := codeOf (KK B.w.params) f

noncomputable def kindsOk2 (sc : Scope) (xs : List Str) : Bool := xs.all fun x => sc.names.lookup x == some .local || sc.names.lookup x == some .cell
theorem kinds_of2 {sc : Scope} {xs : List Str} (h : kindsOk2 sc xs = true) : ∀ x ∈ xs, sc.names.lookup x = some .local ∨ (sc.names.lookup x = some .cell ∧ ∀ n, ((cellsFrom n sc.names []).lookup x).isSome = true) :=
  all_of (p := fun x => sc.names.lookup x == some .local || sc.names.lookup x == some .cell) h fun x q => by
    simp only [Bool.or_eq_true, beq_iff_eq] at q
    exact q.imp_right fun e => ⟨e, fun n => cellsFrom_some _ _ _ (.inl e)⟩
theorem FnAt.of {K : Frag} {f : Addr} {qual : Str} {body : List Stmt} {scope : Scope} {cdv : Value} {xs : List Str} {oc od osl name params dV kV doc pm an ct}
    (e : K.lookup f = some ⟨oc, od, .func (fnOf name qual params body scope dV kV doc pm an cdv ct), osl⟩)
    (h : ∀ vs : List Value, vs.length = xs.length → bindArgs (fnOf name qual params body scope dV kV doc pm an cdv ct) ⟨vs, []⟩ = pure (xs.zip vs))
    (code : codeIn K cdv qual = true) (co : scope.isCoroutine = false) (gen : scope.isGenerator = false) (kind : scope.kind = .function) (nd : xs.Nodup) (kinds : kindsOk2 scope xs = true) : FnAt K f qual body scope cdv xs :=
  ⟨⟨_, _, _, _, _, _, _, _, _, _, _, e, h⟩, code, co, gen, kind, nd, kinds_of2 kinds⟩

theorem fn_is_op (B : Base) : FnAt B.W.K 125 (qu B 125) (bo B 125) (sc B 125) (cd B 125) ["row", "ops"] :=
  FnAt.of rfl (bdS fun _ => bdS fun _ => bd0 rfl) (by rfl) (by rfl) (by rfl) (by rfl) (by decide) (by rfl)

end Mine
namespace Mine
set_option autoImplicit false
set_option linter.unusedVariables false
set_option maxRecDepth 100000

theorem Calls.eq {W : Wd} {m n : Nat} {f : Value} {ds : List D} {d : D} {Φ : D → Prop} (h : Calls W m f ds (· = d)) (hn : m ≤ n) (hm : Φ d) : Calls W n f ds Φ := h.mono hn fun _ e => e ▸ hm

theorem strs_map (l : List Op) : (l.map fun o => D.str o.s) = (l.map Op.s).map D.str := by simp
theorem any_s (x : Op) (l : List Op) : ((l.map Op.s).any (· == x.s)) = l.any (· == x) := by
  rw [List.any_map]; congr 1; funext y; exact op_eq y x

/- constants of the text that are tuples of texts -/
noncomputable def strsAt (K : Frag) (a : Addr) : Option (List Str) := match K.lookup a with
  | some ⟨.type "tuple", _, .seq vs _, _⟩ => vs.toList.mapM fun v => match v with | .str x _ => some x | _ => none
  | _ => none
theorem mapM_strs {h : Heap} {Fb : Addr → Prop} : ∀ {vs : List Value} {xs : List Str}, (vs.mapM fun v => match v with | .str x _ => some x | _ => none) = some xs → Reps h Fb vs (xs.map D.str)
  | [], xs, e => by simp at e; subst e; exact .nil
  | v :: vs, xs, e => by
    rw [List.mapM_cons] at e
    cases v with
    | str x t =>
      simp only [Option.bind_eq_bind, Option.bind_some, Option.bind_eq_some_iff] at e
      obtain ⟨ys, h1, h2⟩ := e
      cases h2
      exact .cons (.str x t) (mapM_strs h1)
    | _ => simp at e
theorem rep_strs {B : Base} {a : Addr} {xs : List Str} (e : strsAt (KK B.w.params) a = some xs) : ∀ Fb, (∀ b o, B.W.hB.get? b = some o → ¬ Fb b) → Rep B.W.hB Fb (.ref a) (.tup (xs.map D.str)) := by
  intro Fb hF
  unfold strsAt at e
  split at e
  · rename_i d vs n sl ho
    have g := B.X _ _ ho
    exact .tup (vs := vs.toList) (hF _ _ g) ⟨_, g, rfl, n, rfl⟩ (mapM_strs e)
  · cases e
theorem Ev_strs {B : Base} {C : Fx B.W} {A : Around} {σ : LS} {x : Str} {pos : Pos} {a : Addr} {xs : List Str} {Φ : Tmp → LS → Prop} (k : C.env.kindOf x = some .globalImplicit) (e : nsIn B.W.K mainGlobals x = some (some (.ref a)))
    (e' : strsAt (KK B.w.params) a = some xs) (h : Φ (.val (.tup (xs.map D.str))) σ) (hd : (x == ("__debug__" : Str)) = false := by decide) : Ev C A (.Name x pos) σ Φ :=
  Ev_glob k e (rep_strs e') h hd

/-- is it one of these -/
theorem c_is_op (B : Base) (r : Option PRow) (l : List Op) : Calls B.W 1 (.ref 125) [optD r, .tup (l.map fun o => .str o.s)] (· = .bool (isOp r fun o => l.any (· == o))) := by
  refine Calls_fn (fn_is_op B) rfl fun A L hE Fb hb hx hF R => ?_
  refine Exs_cons (Ex_Return (Ev_BoolOp ?_))
  refine EvBo_consA (Ev_Compare (Ev_name rfl (Ev_none (Op2_isNotNone (fun u e => by cases r <;> cases e) ⟨_, rfl, ?_⟩))))
  cases r with
  | none => exact ⟨_, rfl, rfl⟩
  | some r =>
    refine EvBo_one (Ev_Compare (Ev_Attr (Ev_name rfl (Op1_attr rfl rfl (Ev_name rfl ?_)))))
    rw [strs_map]
    exact Op2_inTup ⟨_, rfl, _, rfl, congrArg D.bool (any_s _ _)⟩

theorem fn_truth (B : Base) : FnAt B.W.K 132 (qu B 132) (bo B 132) (sc B 132) (cd B 132) ["value"] :=
  FnAt.of rfl (bdS fun _ => bd0 rfl) (by rfl) (by rfl) (by rfl) (by rfl) (by decide) (by rfl)
theorem c_truth (B : Base) (v : V) : Calls B.W 1 (.ref 132) [v.d] (· = .bool (truthV v)) := by
  refine Calls_fn (fn_truth B) rfl fun A L hE Fb hb hx hF R => ?_
  refine Exs_cons (Ex_Return (Ev_BoolOp ?_))
  refine EvBo_consA (Ev_Compare (Ev_name rfl (Ev_none (Op2_isNotNone (fun u e => by cases v <;> cases e) ⟨_, rfl, ?_⟩))))
  have hs : v.d.scalar = true := by cases v <;> rfl
  cases hv : v.d.isNone with
  | true => cases v <;> first | exact ⟨_, rfl, rfl⟩ | (exfalso; simp [V.d, D.isNone] at hv)
  | false =>
    show EvBo _ _ _ _ _ _
    refine EvBo_one (Ev_Unary (Ev_BoolOp (EvBo_consA (Ev_Call (n := 0) R (Ev_builtin rfl rfl rfl (by decide) rfl ⟨_, rfl, rfl, EvSp_cons (Ev_name rfl (EvSp_cons (Ev_builtin rfl rfl rfl (by decide) rfl (EvSp_nil ⟨[_, _], rfl, Calls_isBool hs ⟨_, rfl, ?_⟩⟩))))⟩)))))
    cases v with
    | none => cases hv
    | bool b => exact EvBo_one (Ev_Unary (Ev_name rfl (Op1_not ⟨_, rfl, Op1_not ⟨_, rfl, _, rfl, by cases b <;> rfl⟩⟩)))
    | nat n => exact Op1_not ⟨_, rfl, _, rfl, rfl⟩
    | sym s => exact Op1_not ⟨_, rfl, _, rfl, rfl⟩
end Mine
namespace Mine
set_option autoImplicit false
set_option linter.unusedVariables false
set_option maxRecDepth 100000
section
variable {W : Wd} {C : Fx W} {A : Around} {σ : LS}
theorem Ev_nAttr {x n : Str} {p pos : Pos} {Ca : Addr} {fs : List (Str × D)} {d : D} {Φ : Tmp → LS → Prop} (e : σ.lookup x = some (.val (.inst Ca fs))) (hk : attrOk W.K Ca n = true) (e2 : fs.lookup n = some d) (h : Φ (.val d) σ)
    (hd : (x == ("__debug__" : Str)) = false := by decide)
    (he : eval (.Attribute (.Name x p) n pos) C.env = (do
      let o ← eval (.Name x p) C.env
      standAt pos.atName
      let r ← holding [o] (getAttr o n true)
      letTemporaryGo (.Name x p) o r
      pure r) := by with_unfolding_all rfl) : Ev C A (.Attribute (.Name x p) n pos) σ Φ :=
  Ev_Attr (Ev_name e (Op1_attr hk e2 h) hd) he
theorem Ev_CallFn {n : Nat} {f : Value} {x : Str} {p pos : Pos} {es : List Expr} {Φ : Tmp → LS → Prop} (R : Room A n) (k : C.env.kindOf x = some .globalImplicit) (e : nsIn W.K mainGlobals x = some (some f)) (hv : handedIn f = true) (hk : keepOk W.K f = true)
    (h : EvSp C A es σ fun ts σ₂ => ∃ ds, ts = ds.map Tmp.val ∧ Calls W n f ds fun d => Φ (.val d) σ₂)
    (hd : (x == ("__debug__" : Str)) = false := by decide)
    (hp : (backTo pos (starEach es C.env)).any (·.1) = false := by rfl)
    (he : eval (.Call (.Name x p) es [] pos) C.env = (do callWith pos (← eval (.Name x p) C.env) [] (backTo pos (starEach es C.env)) []) := by rfl) : Ev C A (.Call (.Name x p) es [] pos) σ Φ :=
  Ev_Call R (Ev_fn k e hv ⟨f, rfl, hk, h⟩ hd) hp he
theorem Ev_CallBi {n : Nat} {f : Value} {x : Str} {p pos : Pos} {es : List Expr} {Φ : Tmp → LS → Prop} (R : Room A n) (k : C.env.kindOf x = some .globalImplicit) (e : nsIn W.K mainGlobals x = some none) (hb : bootBuiltins x = some f) (hn : x ≠ "__name__") (hv : handedIn f = true) (hk : keepOk W.K f = true)
    (h : EvSp C A es σ fun ts σ₂ => ∃ ds, ts = ds.map Tmp.val ∧ Calls W n f ds fun d => Φ (.val d) σ₂)
    (hd : (x == ("__debug__" : Str)) = false := by decide)
    (hp : (backTo pos (starEach es C.env)).any (·.1) = false := by rfl)
    (he : eval (.Call (.Name x p) es [] pos) C.env = (do callWith pos (← eval (.Name x p) C.env) [] (backTo pos (starEach es C.env)) []) := by rfl) : Ev C A (.Call (.Name x p) es [] pos) σ Φ :=
  Ev_Call R (Ev_builtin k e hb hn hv ⟨f, rfl, hk, h⟩ hd) hp he
end

theorem catchAt (P : Params) : ClsAt (KK P) 76 66 (qualOf (KK P) 66) (bodyOf (KK P) 66) (scopeOf (KK P) 66) (codeOf (KK P) 66) ["sort", "first", "last", "target", "depth"] [("sort", some "sort"), ("first", some "first"), ("last", some "last"), ("target", some "target"), ("depth", some "depth")] where
  makes := by rfl
  init := by rfl
  fn := ⟨_, _, _, _, _, _, _, _, _, _, _, rfl, fun s vs X hl => by revert vs; exact bdS fun _ => bdS fun _ => bdS fun _ => bdS fun _ => bdS fun _ => bdS fun _ => bd0 (.of_eq rfl)⟩
  isFn := by rfl
  code := by rfl
  co := by rfl
  gen := by rfl
  kind := by rfl
  cell := all_of (p := fun x => x.2 != .cell) (by rfl) (by simp)
  loc := all_of (p := fun x => (scopeOf (KK P) 66).names.lookup x == some .local) (by rfl) (by simp)
  dbg := by decide
  nd := by decide
  body := .name (.name (.name (.name (.name .nil))))
  fnd := by decide
  small := by decide
  prm := by decide
  plain := by rfl
  taker := all_of (p := fun x => takerIn (KK P) 76 x.1 == some none) (by rfl) (by simp)
  dict := by rfl
  set := by rfl
theorem codeAt (P : Params) : ClsAt (KK P) 111 94 (qualOf (KK P) 94) (bodyOf (KK P) 94) (scopeOf (KK P) 94) (codeOf (KK P) 94) ["kind", "name", "params", "slots", "rows", "catches", "children", "starts"] [("kind", some "kind"), ("name", some "name"), ("params", some "params"), ("slots", some "slots"), ("rows", some "rows"), ("catches", some "catches"), ("children", some "children"), ("starts", some "starts"), ("number", none)] where
  makes := by rfl
  init := by rfl
  fn := ⟨_, _, _, _, _, _, _, _, _, _, _, rfl, fun s vs X hl => by revert vs; exact bdS fun _ => bdS fun _ => bdS fun _ => bdS fun _ => bdS fun _ => bdS fun _ => bdS fun _ => bdS fun _ => bdS fun _ => bd0 (.of_eq rfl)⟩
  isFn := by rfl
  code := by rfl
  co := by rfl
  gen := by rfl
  kind := by rfl
  cell := all_of (p := fun x => x.2 != .cell) (by rfl) (by simp)
  loc := all_of (p := fun x => (scopeOf (KK P) 94).names.lookup x == some .local) (by rfl) (by simp)
  dbg := by decide
  nd := by decide
  body := .name (.name (.name (.name (.name (.name (.name (.name (.none .nil))))))))
  fnd := by decide
  small := by decide
  prm := by decide
  plain := by rfl
  taker := all_of (p := fun x => takerIn (KK P) 111 x.1 == some none) (by rfl) (by simp)
  dict := by rfl
  set := by rfl
theorem c_Row (B : Base) (n : Nat) (a b c d e : D) : Calls B.W n (.ref 48) [a, b, c, d, e] (· = .inst 48 [("op", a), ("a", b), ("b", c), ("c", d), ("line", e)]) := Calls_cls (rowAt B.w.params) rfl rfl
theorem c_Catch (B : Base) (n : Nat) (a b c d e : D) : Calls B.W n (.ref 76) [a, b, c, d, e] (· = .inst 76 [("sort", a), ("first", b), ("last", c), ("target", d), ("depth", e)]) := Calls_cls (catchAt B.w.params) rfl rfl
theorem c_Code (B : Base) (n : Nat) (a b c d e f g h : D) : Calls B.W n (.ref 111) [a, b, c, d, e, f, g, h] (· = .inst 111 [("kind", a), ("name", b), ("params", c), ("slots", d), ("rows", e), ("catches", f), ("children", g), ("starts", h), ("number", .none)]) := Calls_cls (codeAt B.w.params) rfl rfl

theorem fn_with_target (B : Base) : FnAt B.W.K 45 (qu B 45) (bo B 45) (sc B 45) (cd B 45) ["self", "target"] :=
  FnAt.of rfl (bdS fun _ => bdS fun _ => bd0 rfl) (by rfl) (by rfl) (by rfl) (by rfl) (by decide) (by rfl)
theorem c_with_target (B : Base) (r : PRow) (v : V) : Calls B.W 1 (.ref 45) [rowD r, v.d] (· = rowD { r with a := v }) :=
  Calls_fn (fn_with_target B) rfl fun A L hE Fb hb hx hF R => Exs_cons (Ex_Return (Ev_CallFn R rfl rfl rfl rfl (EvSp_cons (Ev_nAttr rfl rfl rfl (EvSp_cons (Ev_name rfl (EvSp_cons (Ev_nAttr rfl rfl rfl (EvSp_cons (Ev_nAttr rfl rfl rfl (EvSp_cons (Ev_nAttr rfl rfl rfl
    (EvSp_nil ⟨[_, _, _, _, _], rfl, (c_Row B 0 _ _ _ _ _).eq (Nat.le_refl _) ⟨_, rfl, rfl⟩⟩)))))))))))))
theorem fn_covers (B : Base) : FnAt B.W.K 73 (qu B 73) (bo B 73) (sc B 73) (cd B 73) ["self", "place"] :=
  FnAt.of rfl (bdS fun _ => bdS fun _ => bd0 rfl) (by rfl) (by rfl) (by rfl) (by rfl) (by decide) (by rfl)
theorem c_covers (B : Base) (k : PCat) (i : Nat) : Calls B.W 1 (.ref 73) [catD k, natD i] (· = .bool (decide (k.first ≤ i ∧ i < k.last))) :=
  Calls_fn (fn_covers B) rfl fun A L hE Fb hb hx hF R => Exs_cons (Ex_Return (Ev_Chain (Ev_nAttr rfl rfl rfl ⟨rfl, Ev_name rfl ⟨rfl, fun h => ⟨_, rfl, by
      have : ¬ (k.first ≤ i ∧ i < k.last) := fun q => h (by exact_mod_cast q.1)
      show D.bool false = _; rw [decide_eq_false this]⟩, fun h => Ev_nAttr rfl rfl rfl ⟨rfl, _, rfl, by
      have h' : k.first ≤ i := by exact_mod_cast h
      show D.bool _ = D.bool _
      congr 1
      rw [decide_eq_decide]
      constructor
      · intro q; exact ⟨h', by exact_mod_cast q⟩
      · intro q; exact_mod_cast q.2⟩⟩⟩)))
end Mine
namespace Mine
set_option autoImplicit false
set_option linter.unusedVariables false
set_option maxRecDepth 100000
section
variable {W : Wd} {C : Fx W} {A : Around} {σ : LS}
noncomputable def FoldΦ {α : Type} (P : α → Prop) (τ : α → LS) (a : α) (fl : Fl) (σ : LS) : Prop := match fl with
  | .next => P a ∧ Sub (τ a) σ
  | .cont => P a ∧ Sub (τ a) σ
  | _ => False
theorem Ex_ForFold {α β : Type} (enc : β → D) (xs : List β) (step : α → β → α) (P : α → Prop) (τ : α → LS) (a₀ : α) {target iter : Expr} {body : List Stmt} {pos : Pos} {Φ : Fl → LS → Prop} (hh : A.handled = none)
    (h : Ev C A iter σ fun t σ₁ => ∃ d, t = .val d ∧ Items d (xs.map enc) ∧ (∀ n, d = .rng n → -(2 ^ 62) ≤ n) ∧ GoOk target d (xs.map enc) ∧ P a₀ ∧ Sub (τ a₀) σ₁)
    (hturn : ∀ x a, x ∈ xs → P a → Asg C A target (enc x) (τ a) fun σ₃ => Exs C A body σ₃ (FoldΦ P τ (step a x))) (hend : ∀ σ₂, P (xs.foldl step a₀) → Sub (τ (xs.foldl step a₀)) σ₂ → Φ .next σ₂)
    (hs : ∀ x, foldedSetIterable iter C.env x = pure x := by intro _; rfl) : Ex C A (.For target iter body [] pos) σ Φ := by
  refine Ex_ForR enc xs (fun rest σ => ∃ a, P a ∧ Sub (τ a) σ ∧ rest.foldl step a = xs.foldl step a₀) hh (h.mono fun t σ₁ ⟨d, ht, hi, hlo, hg, hP, hS⟩ => ⟨d, ht, hi, hlo, hg, a₀, hP, hS, rfl⟩) (fun x rest σ₂ hx z19 => ?_) (fun σ₂ z18 => ?_) hs
  · obtain ⟨a, hP, hS, hf⟩ := z19
    intro s T v sf S hm
    refine wpNo (Asg.weaken hS (hturn x a hx hP) s T v sf S hm) fun _ s₁ ⟨σ₃, h₃, o, S₃⟩ => ⟨σ₃, h₃.mono fun fl σ₄ q => ?_, o, S₃⟩
    cases fl with
    | next => exact ⟨_, q.1, q.2, hf⟩
    | cont => exact ⟨_, q.1, q.2, hf⟩
    | brk => exact q.elim
    | ret d => exact q.elim
  · obtain ⟨a, hP, hS, hf⟩ := z18
    simp only [List.foldl_nil] at hf
    subst hf
    exact hend σ₂ hP hS
/-- len(x.f) -/
theorem own_eq {l m : List D} (h : l = m) : some (Loc.own l) = some (Loc.own m) := by rw [h]
theorem val_eq {l m : D} (h : l = m) : some (Loc.val l) = some (Loc.val m) := by rw [h]
end
theorem goName {x : Str} {p : Pos} {d : D} {ds : List D} : GoOk (.Name x p) d ds := .inl ⟨x, p, rfl⟩
theorem noRng {l : List D} : ∀ n, D.list l = .rng n → -(2 ^ 62) ≤ n := fun _ e => nomatch e
theorem getD_of {α : Type} {l : List α} {i : Nat} (h : i < l.length) (d : α) : l[i]? = some (l.getD i d) := by
  rw [List.getD_eq_getElem?_getD, List.getElem?_eq_getElem h]; rfl
theorem setMark_len (f : List Bool) (i : Nat) : (setMark f i).length = f.length := by simp [setMark]

/- codes that no step refuses -/
noncomputable def RowOk (n : Nat) (r : PRow) : Prop := r.op.isJump = true → ∃ t, r.a = .nat t ∧ t < n
structure WF (c : PCode) : Prop where
  big : c.rows.length ≤ 1000
  bigC : c.cats.length ≤ 1000
  bigS : c.starts.length ≤ 1000
  rows : ∀ r ∈ c.rows, RowOk c.rows.length r
  last : ∀ i, i < c.rows.length → (at_ c.rows i).op.isEnd = false → i + 1 < c.rows.length
  cats : ∀ k ∈ c.cats, k.first ≤ c.rows.length ∧ k.last ≤ c.rows.length ∧ k.target < c.rows.length
  starts : ∀ s ∈ c.starts, s < c.rows.length
theorem sizeBig {n : Nat} (h : n ≤ 100000) : n ≤ sizeLine := by rw [sizeLine_eq]; omega
theorem fn_marks_of (B : Base) : FnAt B.W.K 139 (qu B 139) (bo B 139) (sc B 139) (cd B 139) ["code"] :=
  FnAt.of rfl (bdS fun _ => bd0 rfl) (by rfl) (by rfl) (by rfl) (by rfl) (by decide) (by rfl)

theorem isJump_s (r : PRow) : (["jump", "jumpif", "jumpunless", "jumpnil"] : List Str).any (· == r.op.s) = r.op.isJump := by cases r with | mk op a b => cases op <;> rfl
theorem isEnd_s (r : PRow) : (["jump", "leave", "out", "again", "nomatch"] : List Str).any (· == r.op.s) = r.op.isEnd := by cases r with | mk op a b => cases op <;> rfl
theorem isBranch_s (r : PRow) : (["jumpif", "jumpunless"] : List Str).any (· == r.op.s) = r.op.isBranch := by cases r with | mk op a b => cases op <;> rfl

/-- row.op in JUMPS -/
theorem EvB_jumps {B : Base} {C : Fx B.W} {A : Around} {σ : LS} {x : Str} {p p1 p2 p3 : Pos} {r : PRow} {Φ : Bool → LS → Prop} (e : σ.lookup x = some (.val (rowD r))) (k : C.env.kindOf "JUMPS" = some .globalImplicit) (h : Φ r.op.isJump σ) (hd : (x == ("__debug__" : Str)) = false := by decide) :
    EvB C A (.Compare (.Attribute (.Name x p) "op" p1) [.In] [.Name "JUMPS" p2] p3) σ Φ :=
  EvB_Compare (Ev_nAttr e rfl rfl (Ev_strs k rfl rfl (Op2_inTup ⟨_, rfl, (isJump_s r).symm ▸ h⟩)) hd)

theorem c_marks_of (B : Base) (c : PCode) (kids : List D) (wf : WF c) : Calls B.W 1 (.ref 139) [codeD c kids] (· = .list ((marksP c).map D.bool)) := by
  refine Calls_fn (fn_marks_of B) rfl fun A L hE Fb hb hx hF R => ?_
  -- found = [False] * (len(code.rows) + 1)
  refine Exs_cons (Ex_AssignF (.inl rfl) (.inl rfl) (Ev_BinOp (Ev_List (EvSp_cons (Ev_bool (EvSp_nil ⟨[_], rfl, by decide, Ev_BinOp (Ev_CallBi R rfl rfl rfl (by decide) rfl rfl (EvSp_cons (Ev_nAttr rfl rfl rfl (EvSp_nil ⟨[_], rfl, Calls_len ?_ ?_⟩)))) ⟩))))))
  · have := wf.big; simp; omega
  refine Ev_int (Op2_add ?_)
  refine Op2_mulList (by omega) (by have := wf.big; simp; omega) ⟨_, rfl, ?_⟩
  have e0 : ((((c.rows.map rowD).length : Nat) : Int) + 1).toNat = c.rows.length + 1 := by rw [List.length_map]; omega
  rw [e0]
  -- for row in code.rows
  refine Exs_cons (Ex_ForFold rowD c.rows (fun f r => if r.op.isJump then setMark f r.t else f) (fun f => f.length = c.rows.length + 1) (fun f => [("code", .val (codeD c kids)), ("found", .own (f.map D.bool))]) (List.replicate (c.rows.length + 1) false) R.handled
    (Ev_nAttr rfl rfl rfl ⟨_, rfl, .list _, noRng, goName, by simp, rfl, own_eq (by simp), trivial⟩) (fun r f hr hf => ?_) fun σ₂ hP hS => ?_)
  · refine Asg_name (.inl rfl) (Exs_cons (Ex_If (EvB_jumps rfl rfl ?_)))
    cases hj : r.op.isJump with
    | false => exact Exs_nil (Exs_nil ⟨by simpa [hj] using hf, rfl, by simp [hj]; rfl, trivial⟩)
    | true =>
      obtain ⟨t, ht, hlt⟩ := wf.rows r hr hj
      have et : r.t = t := by simp [PRow.t, ht]
      refine Exs_cons (Ex_AssignSub (Ev_bool ⟨_, rfl, Asg_sub (l := f.map D.bool) (k := (t : Int)) (Ev_nAttr rfl rfl (d := r.a.d) rfl ⟨by rw [ht]; rfl, rfl, by omega, by have := wf.big; omega, by simp; omega, Exs_nil (Exs_nil ⟨?_, rfl, own_eq ?_, trivial⟩)⟩) rfl⟩))
      · simp [hj, setMark_len, hf]
      · simp [hj, et, setMark]
  refine Exs_weaken hS ?_
  generalize hf1 : c.rows.foldl (fun f r => if r.op.isJump then setMark f r.t else f) (List.replicate (c.rows.length + 1) false) = f1 at hP
  clear hS
  -- for one in code.catches
  refine Exs_cons (Ex_ForFold catD c.cats (fun f k => setMark f k.target) (fun f => f.length = c.rows.length + 1) (fun f => [("code", .val (codeD c kids)), ("found", .own (f.map D.bool))]) f1 R.handled
    (Ev_nAttr rfl rfl rfl ⟨_, rfl, .list _, noRng, goName, hP, rfl, rfl, trivial⟩) (fun k f hk hf => ?_) fun σ₂ hP hS => ?_)
  · refine Asg_name (.inl rfl) ?_
    have := wf.cats k hk
    have := wf.big
    refine Exs_cons (Ex_AssignSub (Ev_bool ⟨_, rfl, Asg_sub (l := f.map D.bool) (k := (k.target : Int)) (Ev_nAttr rfl rfl (d := .int k.target) rfl ⟨rfl, rfl, by omega, by omega, by simp; omega, Exs_nil ⟨?_, rfl, own_eq ?_, trivial⟩⟩) rfl⟩))
    · simp [setMark_len, hf]
    · simp [setMark]
  refine Exs_weaken hS ?_
  generalize hf2 : c.cats.foldl (fun f k => setMark f k.target) f1 = f2 at hP
  clear hS
  -- for start in code.starts
  refine Exs_cons (Ex_ForFold natD c.starts setMark (fun f => f.length = c.rows.length + 1) (fun f => [("code", .val (codeD c kids)), ("found", .own (f.map D.bool))]) f2 R.handled
    (Ev_nAttr rfl rfl rfl ⟨_, rfl, .list _, noRng, goName, hP, rfl, rfl, trivial⟩) (fun k f hk hf => ?_) fun σ₂ hP hS => ?_)
  · refine Asg_name (.inl rfl) ?_
    have := wf.starts k hk
    have := wf.big
    refine Exs_cons (Ex_AssignSub (Ev_bool ⟨_, rfl, Asg_sub (l := f.map D.bool) (k := (k : Int)) (Ev_name (d := .int k) rfl ⟨rfl, rfl, by omega, by omega, by simp; omega, Exs_nil ⟨?_, rfl, own_eq ?_, trivial⟩⟩) rfl⟩))
    · simp [setMark_len, hf]
    · simp [setMark]
  refine Exs_weaken hS (Exs_freeze "found" rfl (.inl rfl) (Exs_cons (Ex_Return (Ev_name rfl ⟨_, rfl, ?_⟩))))
  show _ = _
  rw [← hf2, ← hf1]
  rfl
end Mine
namespace Mine
set_option autoImplicit false
set_option linter.unusedVariables false
set_option maxRecDepth 100000
section
variable {W : Wd} {C : Fx W} {A : Around} {σ : LS}
theorem Ex_ForFoldR {α β : Type} (enc : β → D) (xs : List β) (step : α → β → α) (P : List β → α → Prop) (τ : α → LS) (a₀ : α) {target iter : Expr} {body : List Stmt} {pos : Pos} {Φ : Fl → LS → Prop} (hh : A.handled = none)
    (h : Ev C A iter σ fun t σ₁ => ∃ d, t = .val d ∧ Items d (xs.map enc) ∧ (∀ n, d = .rng n → -(2 ^ 62) ≤ n) ∧ GoOk target d (xs.map enc) ∧ P xs a₀ ∧ Sub (τ a₀) σ₁)
    (hturn : ∀ x rest a, x ∈ xs → P (x :: rest) a → Asg C A target (enc x) (τ a) fun σ₃ => Exs C A body σ₃ (FoldΦ (P rest) τ (step a x))) (hend : ∀ σ₂, P [] (xs.foldl step a₀) → Sub (τ (xs.foldl step a₀)) σ₂ → Φ .next σ₂)
    (hs : ∀ x, foldedSetIterable iter C.env x = pure x := by intro _; rfl) : Ex C A (.For target iter body [] pos) σ Φ := by
  refine Ex_ForR enc xs (fun rest σ => ∃ a, P rest a ∧ Sub (τ a) σ ∧ rest.foldl step a = xs.foldl step a₀) hh (h.mono fun t σ₁ ⟨d, ht, hi, hlo, hg, hP, hS⟩ => ⟨d, ht, hi, hlo, hg, a₀, hP, hS, rfl⟩) (fun x rest σ₂ hx z21 => ?_) (fun σ₂ z20 => ?_) hs
  · obtain ⟨a, hP, hS, hf⟩ := z21
    intro s T v sf S hm
    refine wpNo (Asg.weaken hS (hturn x rest a hx hP) s T v sf S hm) fun _ s₁ ⟨σ₃, h₃, o, S₃⟩ => ⟨σ₃, h₃.mono fun fl σ₄ q => ?_, o, S₃⟩
    cases fl with
    | next => exact ⟨_, q.1, q.2, hf⟩
    | cont => exact ⟨_, q.1, q.2, hf⟩
    | brk => exact q.elim
    | ret d => exact q.elim
  · obtain ⟨a, hP, hS, hf⟩ := z20
    simp only [List.foldl_nil] at hf
    subst hf
    exact hend σ₂ hP hS

/-- o.m(..) for an object in a local -/
theorem Ev_nMeth {n : Nat} {x name : Str} {p apos pos : Pos} {es : List Expr} {pl : Sem Bool} {Ca f : Addr} {fs : List (Str × D)} {Φ : Tmp → LS → Prop} (R : Room A n) (e : σ.lookup x = some (.val (.inst Ca fs))) (h1 : plainGet W.K Ca name = true) (h2 : findIn W.K (.ref Ca) name = some (some (.ref f))) (h3 : isFn W.K (.ref f) = true)
    (h4 : keepIn W.K (.ref f) = true) (h5 : fs.lookup name = none) (h : EvSp C A es σ fun ts σ₂ => ∃ ds, ts = ds.map Tmp.val ∧ Calls W n (.ref f) (.inst Ca fs :: ds) fun d => Φ (.val d) σ₂)
    (hd : (x == ("__debug__" : Str)) = false := by decide)
    (hp : (backTo pos (starEach es C.env)).any (·.1) = false := by rfl)
    (he : eval (.Call (.Attribute (.Name x p) name apos) es [] pos) C.env = (do
      let ov ← eval (.Name x p) C.env
      standAt apos.atName
      let (f, first) ← holding [ov] (getMethod ov name pl)
      callWith pos f first (backTo pos (starEach es C.env)) []) := by rfl) : Ev C A (.Call (.Attribute (.Name x p) name apos) es [] pos) σ Φ :=
  Ev_Meth (pl := pl) R (Ev_name e ⟨Ca, fs, f, rfl, h1, h2, h3, h4, h5, h⟩ hd) hp he
end
theorem ite_b {b : Bool} {p : Prop} [Decidable p] {X Y : Prop} (e : b = decide p) (h1 : p → X) (h2 : ¬ p → Y) : if b = true then X else Y := by
  by_cases h : p
  · rw [e, decide_eq_true h, if_pos rfl]; exact h1 h
  · rw [e, decide_eq_false h, if_neg (by decide)]; exact h2 h
theorem ite_B {b : Bool} {X Y : Prop} (h1 : b = true → X) (h2 : b = false → Y) : if b = true then X else Y := by
  cases b with
  | true => exact h1 rfl
  | false => exact h2 rfl
noncomputable def compOk (s : Scope) : Bool := s.names.all fun x => x.2 != .cell && (x.2 != .local || s.names.lookup x.1 == some .local)
theorem compCell {s : Scope} (h : compOk s = true) : ∀ y ∈ s.names, y.2 ≠ .cell := fun y hy => by
  have := List.all_eq_true.mp h y hy
  simp only [Bool.and_eq_true, bne_iff_ne] at this
  exact this.1
theorem compNames {s : Scope} (h : compOk s = true) : ∀ x ∈ s.names, x.2 = .local → s.names.lookup x.1 = some .local := fun y hy e => by
  have := List.all_eq_true.mp h y hy
  simp only [Bool.and_eq_true, Bool.or_eq_true, bne_iff_ne, beq_iff_eq] at this
  exact this.2.resolve_left fun n => n e
theorem clNil {P : Str × Addr → Prop} : ∀ p ∈ ([] : List (Str × Addr)), P p := fun p hp => nomatch hp
theorem clOne {P : Str × Addr → Prop} {a : Str × Addr} (h : P a) : ∀ p ∈ [a], P p := fun p hp => by
  simp only [List.mem_singleton] at hp; subst hp; exact h
theorem clTwo {P : Str × Addr → Prop} {a b : Str × Addr} (h : P a) (h' : P b) : ∀ p ∈ [a, b], P p := fun p hp => by
  simp only [List.mem_cons, List.not_mem_nil, or_false] at hp
  rcases hp with rfl | rfl
  · exact h
  · exact h'
end Mine
namespace Mine
set_option autoImplicit false
set_option linter.unusedVariables false
set_option maxRecDepth 100000

theorem fn_with_rows (B : Base) : FnAt B.W.K 108 (qu B 108) (bo B 108) (sc B 108) (cd B 108) ["self", "rows", "catches", "starts", "children"] :=
  FnAt.of rfl (bdS fun _ => bdS fun _ => bdS fun _ => bdS fun _ => bdS fun _ => bd0 rfl) (by rfl) (by rfl) (by rfl) (by rfl) (by decide) (by rfl)
theorem c_with_rows (B : Base) (a b c d rows cats starts kids : D) : Calls B.W 1 (.ref 108) [codeD' a b c d, rows, cats, starts, kids] (· = codeD' rows cats kids starts) :=
  Calls_fn (fn_with_rows B) rfl fun A L hE Fb hb hx hF R => Exs_cons (Ex_Return (Ev_CallFn R rfl rfl rfl rfl (EvSp_cons (Ev_nAttr rfl rfl rfl (EvSp_cons (Ev_nAttr rfl rfl rfl (EvSp_cons (Ev_nAttr rfl rfl rfl (EvSp_cons (Ev_nAttr rfl rfl rfl
    (EvSp_cons (Ev_name rfl (EvSp_cons (Ev_name rfl (EvSp_cons (Ev_name rfl (EvSp_cons (Ev_name rfl (EvSp_nil ⟨[_, _, _, _, _, _, _, _], rfl, (c_Code B 0 _ _ _ _ _ _ _ _).eq (Nat.le_refl _) ⟨_, rfl, rfl⟩⟩)))))))))))))))))))

theorem fn_pressed (B : Base) : FnAt B.W.K 144 (qu B 144) (bo B 144) (sc B 144) (cd B 144) ["code", "rows"] :=
  FnAt.of rfl (bdS fun _ => bdS fun _ => bd0 rfl) (by rfl) (by rfl) (by rfl) (by rfl) (by decide) (by rfl)

noncomputable def placeStep (a : List Nat × List PRow) (r : Option PRow) : List Nat × List PRow := (a.1 ++ [a.2.length], a.2 ++ r.toList)
theorem placeFold : ∀ (l : List (Option PRow)) (a : List Nat × List PRow), (l.foldl placeStep a).1 ++ [(l.foldl placeStep a).2.length] = a.1 ++ placesAux a.2.length l ∧ (l.foldl placeStep a).2 = a.2 ++ l.filterMap id
  | [], a => by simp [placesAux]
  | none :: l, a => by
    obtain ⟨h1, h2⟩ := placeFold l (placeStep a none)
    exact ⟨by rw [List.foldl_cons, h1]; simp [placeStep, placesAux], by rw [List.foldl_cons, h2]; simp [placeStep]⟩
  | some r :: l, a => by
    obtain ⟨h1, h2⟩ := placeFold l (placeStep a (some r))
    exact ⟨by rw [List.foldl_cons, h1]; simp [placeStep, placesAux], by rw [List.foldl_cons, h2]; simp [placeStep]⟩
theorem placesAux_len : ∀ (l : List (Option PRow)) (n : Nat), (placesAux n l).length = l.length + 1
  | [], _ => rfl
  | none :: l, n => by simp [placesAux, placesAux_len l]
  | some _ :: l, n => by simp [placesAux, placesAux_len l]
theorem placesP_len (l : List (Option PRow)) : (placesP l).length = l.length + 1 := placesAux_len l 0
theorem filterMap_le (l : List (Option PRow)) : (l.filterMap id).length ≤ l.length := List.length_filterMap_le _ _
theorem natAt {l : List Nat} {i : Nat} (h : i < l.length) : (l.map natD)[((i : Nat) : Int).toNat]? = some (natD (l.getD i 0)) := by
  rw [Int.toNat_natCast, List.getElem?_map, getD_of h 0]; rfl
noncomputable def catStep (pl : List Nat) (acc : List PCat) (k : PCat) : List PCat := if (recatch pl k).first < (recatch pl k).last then acc ++ [recatch pl k] else acc
theorem catFold (pl : List Nat) : ∀ (l : List PCat) (acc : List PCat), l.foldl (catStep pl) acc = acc ++ (l.map (recatch pl)).filter fun k => k.first < k.last
  | [], acc => by simp
  | k :: l, acc => by
    rw [List.foldl_cons, catFold pl l]
    unfold catStep
    rw [List.map_cons, List.filter_cons]
    by_cases h : (recatch pl k).first < (recatch pl k).last
    · simp [h]
    · simp [h]

theorem filtT {α : Type} : ∀ l : List α, l.filter (fun _ => true) = l
  | [] => rfl
  | a :: l => by rw [List.filter_cons, if_pos rfl, filtT l]
set_option maxHeartbeats 1000000 in
theorem c_pressed (B : Base) (c : PCode) (kids : List D) (wf : WF c) (l : List (Option PRow)) (hl : l.length = c.rows.length) (hr : ∀ r, some r ∈ l → RowOk c.rows.length r) :
    Calls B.W 2 (.ref 144) [codeD c kids, .list (l.map optD)] (· = codeD (pressedP c l) kids) := by
  refine Calls_fnC (fn_pressed B) rfl fun A L hE Fb hb hx hF hL R => ?_
  have bp : ∀ {C : Fx B.W}, C = fxFn B.W (qu B 144) (sc B 144) L 144 (cd B 144) (fn_pressed B).kind none hE Fb hb hx hF → Bind C "places" := fun e => by
    subst e; exact .inr ⟨rfl, L + 1, rfl, hL _ (Nat.le_succ _)⟩
  have big := wf.big
  -- places, kept = [], []
  refine Exs_cons (Ex_AssignFF R.handled (bp rfl) (.inl rfl) (.inl rfl) (EvSp_cons (Ev_ListF (EvSp_nil ⟨[], rfl, by decide, EvSp_cons (Ev_ListF (EvSp_nil ⟨[], rfl, by decide, EvSp_nil ⟨[], [], rfl, ?_⟩⟩))⟩))))
  -- for row in rows
  refine Exs_cons (Ex_ForFoldR optD l placeStep (fun rest a => a.2.length ≤ a.1.length ∧ a.1.length + rest.length = l.length) (fun a => [("code", .val (codeD c kids)), ("rows", .val (.list (l.map optD))), ("places", .own (a.1.map natD)), ("kept", .own (a.2.map rowD))]) ([], []) R.handled
    (Ev_name rfl ⟨_, rfl, .list _, noRng, goName, ⟨Nat.le_refl _, Nat.zero_add _⟩, rfl, rfl, rfl, rfl, trivial⟩) (fun r rest a hr ha => ?_) fun σ₂ hP hS => ?_)
  · have h1 := ha.1
    have h2 := ha.2
    rw [List.length_cons] at h2
    refine Asg_name (.inl rfl) (Exs_cons (Ex_Expr (Ev_append rfl (Ev_lenOwn (Ev_builtin rfl rfl rfl (by decide) rfl ⟨rfl, rfl, by simp; omega, ?_⟩)))))
    refine ⟨_, a.1.map natD, rfl, rfl, sizeBig (by simp; omega), Exs_cons (Ex_If (EvB_Compare (Ev_name rfl (Ev_none (Op2_isNotNone (fun u e => by cases r <;> cases e) ⟨_, rfl, ?_⟩)))))⟩
    cases r with
    | none => exact Exs_nil (Exs_nil ⟨by simp [placeStep]; omega, rfl, rfl, own_eq (by simp [placeStep]), own_eq (by simp [placeStep]), trivial⟩)
    | some r => exact Exs_cons (Ex_Expr (Ev_append rfl (Ev_name rfl ⟨_, a.2.map rowD, rfl, rfl, sizeBig (by simp; omega), Exs_nil (Exs_nil ⟨by simp [placeStep]; omega, rfl, rfl, own_eq (by simp [placeStep]), own_eq (by simp [placeStep, optD]), trivial⟩)⟩)))
  refine Exs_weaken hS ?_
  obtain ⟨e1, e2⟩ := placeFold l ([], [])
  generalize l.foldl placeStep ([], []) = a at *
  rw [List.nil_append] at e1 e2
  have h1 := hP.1
  have h2 := hP.2
  rw [List.length_nil, Nat.add_zero] at h2
  have epl : a.1 ++ [a.2.length] = placesP l := e1
  -- places.append(len(kept))
  refine Exs_cons (Ex_Expr (Ev_append rfl (Ev_lenOwn (Ev_builtin rfl rfl rfl (by decide) rfl ⟨rfl, rfl, by simp; omega, ⟨_, a.1.map natD, rfl, rfl, sizeBig (by simp; omega), ?_⟩⟩))))
  have hplen := placesP_len l
  refine Exs_weaken (τ := [("code", .val (codeD c kids)), ("places", .own ((placesP l).map natD)), ("kept", .own ((l.filterMap id).map rowD))]) ⟨rfl, own_eq (by rw [← epl]; simp), own_eq (by rw [e2]), trivial⟩ ?_
  clear hS
  refine Exs_freeze "places" rfl (.inl rfl) (Exs_freeze "kept" rfl (.inl rfl) ?_)
  have kmem : ∀ r, r ∈ l.filterMap id → RowOk c.rows.length r := fun r h => hr r (by simpa using List.mem_filterMap.mp h)
  -- kept = [.. for row in kept]
  refine Exs_cons (Ex_AssignComp (τ := [("places", .val (.list ((placesP l).map natD)))]) _ R.handled rfl rfl (compCell rfl) (compNames rfl) (clOne ⟨rfl, rfl⟩) (.inl rfl) (.inl rfl)
    (CompH_map rowD (l.filterMap id) (fun _ => true) (fun r => rowD (retarget (placesP l) r)) (Ev_name rfl ⟨_, rfl, .list _, noRng, goName, sizeBig (by have := filterMap_le l; omega), ⟨rfl, .inl ⟨_, rfl⟩, rfl, rfl, rfl, trivial⟩, ?_⟩) ⟨rfl, trivial⟩ fun L' hE' Fb' hb' hx' hF' r hr' => ?_))
  · have ekept : (((l.filterMap id).filter fun _ => true).map fun r => rowD (retarget (placesP l) r)) = (pressedP c l).rows.map rowD := by rw [filtT]; simp [pressedP]
    rw [ekept]
    refine Exs_weaken (τ := [("code", .val (codeD c kids)), ("places", .val (.list ((placesP l).map natD))), ("kept", .own ((pressedP c l).rows.map rowD))]) ⟨rfl, rfl, rfl, trivial⟩ (Exs_freeze "kept" rfl (.inl rfl) ?_)
    -- catches = []
    refine Exs_cons (Ex_AssignF (.inl rfl) (.inl rfl) (Ev_ListF (EvSp_nil ⟨[], rfl, by decide, _, rfl, ?_⟩)))
    refine Exs_cons (Ex_ForFoldR catD c.cats (catStep (placesP l)) (fun rest acc => acc.length + rest.length ≤ c.cats.length) (fun acc => [("code", .val (codeD c kids)), ("places", .val (.list ((placesP l).map natD))), ("kept", .val (.list ((pressedP c l).rows.map rowD))), ("catches", .own (acc.map catD))]) [] R.handled
      (Ev_nAttr rfl rfl rfl ⟨_, rfl, .list _, noRng, goName, by simp, rfl, rfl, rfl, rfl, trivial⟩) (fun k rest acc hk hacc => ?_) fun σ₃ hP' hS' => ?_)
    · obtain ⟨k1, k2, k3⟩ := wf.cats k hk
      have bigC := wf.bigC
      rw [List.length_cons] at hacc
      refine Asg_name (.inl rfl) ?_
      -- first, last = places[one.first], places[one.last]
      refine Exs_cons (Ex_AssignSw (names := ["first", "last"]) R.handled rfl (Ev_Tuple (EvSp_cons (Ev_Sub (Ev_name rfl (Ev_nAttr rfl rfl (d := .int k.first) rfl (Op2_subList (by omega) (by omega) (natAt (by omega)) (EvSp_cons (Ev_Sub (Ev_name rfl (Ev_nAttr rfl rfl (d := .int k.last) rfl (Op2_subList (by omega) (by omega) (natAt (by omega))
        (EvSp_nil ⟨[_, _], rfl, sizeBig (by simp), _, rfl, rfl, .inl rfl, .inl rfl, ?_⟩)))))))))))))
      refine Exs_cons (Ex_If (EvB_Compare (Ev_name rfl (Ev_name rfl (Op2_lt ⟨_, rfl, ?_⟩)))))
      have ed : (decide ((((placesP l).getD k.first 0 : Nat) : Int) < (((placesP l).getD k.last 0 : Nat) : Int))) = decide ((recatch (placesP l) k).first < (recatch (placesP l) k).last) := by
        rw [decide_eq_decide]; simp [recatch]
      refine ite_b ed (fun hlt => ?_) (fun hlt => ?_)
      · refine Exs_cons ?_
        refine Ex_Expr ?_
        refine Ev_append rfl ?_
        refine Ev_CallFn R rfl rfl rfl rfl ?_
        refine EvSp_cons ?_
        refine Ev_nAttr rfl rfl rfl ?_
        refine EvSp_cons ?_
        refine Ev_name rfl ?_
        refine EvSp_cons ?_
        refine Ev_name rfl ?_
        refine EvSp_cons ?_
        refine Ev_Sub ?_
        refine Ev_name rfl ?_
        refine Ev_nAttr rfl rfl (d := .int k.target) rfl ?_
        refine Op2_subList (by omega) (by omega) (natAt (by omega)) ?_
        refine EvSp_cons ?_
        refine Ev_nAttr rfl rfl rfl <|
          EvSp_nil ⟨[_, _, _, _, _], rfl, (c_Catch B 1 _ _ _ _ _).eq (Nat.le_refl _) ⟨_, acc.map catD, rfl, rfl, sizeBig (by simp; omega), Exs_nil (Exs_nil ⟨?_, rfl, rfl, rfl, own_eq ?_, trivial⟩)⟩⟩
        · simp [catStep, hlt]; omega
        · rw [catStep, if_pos hlt, List.map_append]; rfl
      · refine Exs_nil (Exs_nil ⟨?_, rfl, rfl, rfl, own_eq ?_, trivial⟩)
        · simp [catStep, hlt]; omega
        · simp [catStep, hlt]
    · have ecat : c.cats.foldl (catStep (placesP l)) [] = (pressedP c l).cats := by rw [catFold]; simp [pressedP]
      rw [ecat] at hS'
      refine Exs_weaken hS' (Exs_freeze "catches" rfl (.inl rfl) (Exs_cons (Ex_Return ?_)))
      refine Ev_nMeth (n := 1) R rfl rfl rfl rfl rfl rfl ?_
      refine EvSp_cons ?_
      refine Ev_name rfl ?_
      refine EvSp_cons ?_
      refine Ev_name rfl ?_
      refine EvSp_cons ?_
      refine Ev.thaw ?_
      refine Ev_Comp (τ := [("places", .val (.list ((placesP l).map natD)))]) _ R.handled rfl rfl (compCell rfl) (compNames rfl) (clOne ⟨rfl, rfl⟩) <|
        CompH_map natD c.starts (fun _ => true) (fun s => natD ((placesP l).getD s 0)) (Ev_nAttr rfl rfl rfl ⟨_, rfl, .list _, noRng, goName, sizeBig (by have := wf.bigS; omega), ⟨rfl, .inl ⟨_, rfl⟩, rfl, rfl, rfl, trivial⟩, _, rfl, ?_⟩) ⟨rfl, trivial⟩ fun L' hE' Fb' hb' hx' hF' s hs' => ?_
      · refine EvSp_cons (Ev_nAttr rfl rfl rfl (EvSp_nil ⟨[_, _, _, _], rfl, (c_with_rows B _ _ _ _ _ _ _ _).eq (Nat.le_refl _) ⟨_, rfl, ?_⟩⟩))
        show _ = _
        rw [filtT]
        simp [pressedP]
      · have := wf.starts s hs'
        exact Asg_name (.inl rfl) ⟨rfl, Ev_Sub (Ev_name rfl (Ev_name rfl (Op2_subList (by omega) (by omega) (natAt (by omega)) ⟨rfl, rfl, trivial⟩)))⟩
  · refine Asg_name (.inl rfl) ⟨rfl, Ev_IfExp (EvB_jumps rfl rfl ?_)⟩
    cases hj : r.op.isJump with
    | false => exact Ev_name rfl ⟨by simp [retarget, hj], rfl, trivial⟩
    | true =>
      obtain ⟨t, ht, hlt⟩ := kmem r hr' hj
      have et : r.t = t := by simp [PRow.t, ht]
      refine Ev_nMeth (n := 1) R rfl rfl rfl rfl rfl rfl (EvSp_cons (Ev_Sub (Ev_name rfl (Ev_nAttr rfl rfl (d := .int t) (by show some r.a.d = _; rw [ht]; rfl) ?_))))
      refine Op2_subList (by omega) (by omega) (natAt (by omega)) (EvSp_nil ⟨[_], rfl, (c_with_target B r (.nat _)).eq (Nat.le_refl _) ⟨?_, rfl, trivial⟩⟩)
      rw [← et]
      simp [retarget, hj]
end Mine
namespace Mine
set_option autoImplicit false
set_option linter.unusedVariables false
set_option maxRecDepth 100000
theorem fn_end_of_jumps (B : Base) : FnAt B.W.K 151 (qu B 151) (bo B 151) (sc B 151) (cd B 151) ["code", "place"] :=
  FnAt.of rfl (bdS fun _ => bdS fun _ => bd0 rfl) (by rfl) (by rfl) (by rfl) (by rfl) (by decide) (by rfl)
theorem fn_threaded (B : Base) : FnAt B.W.K 158 (qu B 158) (bo B 158) (sc B 158) (cd B 158) ["code"] :=
  FnAt.of rfl (bdS fun _ => bd0 rfl) (by rfl) (by rfl) (by rfl) (by rfl) (by decide) (by rfl)
theorem fn_reached (B : Base) : FnAt B.W.K 165 (qu B 165) (bo B 165) (sc B 165) (cd B 165) ["code"] :=
  FnAt.of rfl (bdS fun _ => bd0 rfl) (by rfl) (by rfl) (by rfl) (by rfl) (by decide) (by rfl)
theorem fn_without_dead (B : Base) : FnAt B.W.K 170 (qu B 170) (bo B 170) (sc B 170) (cd B 170) ["code"] :=
  FnAt.of rfl (bdS fun _ => bd0 rfl) (by rfl) (by rfl) (by rfl) (by rfl) (by decide) (by rfl)
theorem fn_without_pushes (B : Base) : FnAt B.W.K 177 (qu B 177) (bo B 177) (sc B 177) (cd B 177) ["code"] :=
  FnAt.of rfl (bdS fun _ => bd0 rfl) (by rfl) (by rfl) (by rfl) (by rfl) (by decide) (by rfl)
theorem fn_without_copies (B : Base) : FnAt B.W.K 184 (qu B 184) (bo B 184) (sc B 184) (cd B 184) ["code"] :=
  FnAt.of rfl (bdS fun _ => bd0 rfl) (by rfl) (by rfl) (by rfl) (by rfl) (by decide) (by rfl)
theorem fn_is_taken (B : Base) : FnAt B.W.K 191 (qu B 191) (bo B 191) (sc B 191) (cd B 191) ["branch", "value"] :=
  FnAt.of rfl (bdS fun _ => bdS fun _ => bd0 rfl) (by rfl) (by rfl) (by rfl) (by rfl) (by decide) (by rfl)
theorem fn_known (B : Base) : FnAt B.W.K 198 (qu B 198) (bo B 198) (sc B 198) (cd B 198) ["code"] :=
  FnAt.of rfl (bdS fun _ => bd0 rfl) (by rfl) (by rfl) (by rfl) (by rfl) (by decide) (by rfl)
theorem fn_turned (B : Base) : FnAt B.W.K 205 (qu B 205) (bo B 205) (sc B 205) (cd B 205) ["code"] :=
  FnAt.of rfl (bdS fun _ => bd0 rfl) (by rfl) (by rfl) (by rfl) (by rfl) (by decide) (by rfl)
theorem fn_short (B : Base) : FnAt B.W.K 212 (qu B 212) (bo B 212) (sc B 212) (cd B 212) ["code"] :=
  FnAt.of rfl (bdS fun _ => bd0 rfl) (by rfl) (by rfl) (by rfl) (by rfl) (by decide) (by rfl)
theorem fn_swaps (B : Base) : FnAt B.W.K 219 (qu B 219) (bo B 219) (sc B 219) (cd B 219) ["code"] :=
  FnAt.of rfl (bdS fun _ => bd0 rfl) (by rfl) (by rfl) (by rfl) (by rfl) (by decide) (by rfl)
theorem fn_shape (B : Base) : FnAt B.W.K 233 (qu B 233) (bo B 233) (sc B 233) (cd B 233) ["code"] :=
  FnAt.of rfl (bdS fun _ => bd0 rfl) (by rfl) (by rfl) (by rfl) (by rfl) (by decide) (by rfl)
theorem fn_tidied_alone (B : Base) : FnAt B.W.K 240 (qu B 240) (bo B 240) (sc B 240) (cd B 240) ["code"] :=
  FnAt.of rfl (bdS fun _ => bd0 rfl) (by rfl) (by rfl) (by rfl) (by rfl) (by decide) (by rfl)
theorem fn_tidy (B : Base) : FnAt B.W.K 245 (qu B 245) (bo B 245) (sc B 245) (cd B 245) ["code"] :=
  FnAt.of rfl (bdS fun _ => bd0 rfl) (by rfl) (by rfl) (by rfl) (by rfl) (by decide) (by rfl)
theorem fn_pass_named (B : Base) : FnAt B.W.K 252 (qu B 252) (bo B 252) (sc B 252) (cd B 252) ["name"] :=
  FnAt.of rfl (bdS fun _ => bd0 rfl) (by rfl) (by rfl) (by rfl) (by rfl) (by decide) (by rfl)
theorem fn_passed_by (B : Base) : FnAt B.W.K 257 (qu B 257) (bo B 257) (sc B 257) (cd B 257) ["code", "names"] :=
  FnAt.of rfl (bdS fun _ => bdS fun _ => bd0 rfl) (by rfl) (by rfl) (by rfl) (by rfl) (by decide) (by rfl)
theorem fn_law_box (B : Base) : FnAt B.W.K 264 (qu B 264) (bo B 264) (sc B 264) (cd B 264) ["script", "k"] :=
  FnAt.of rfl (bdS fun _ => bdS fun _ => bd0 rfl) (by rfl) (by rfl) (by rfl) (by rfl) (by decide) (by rfl)
theorem fn_law_take (B : Base) : FnAt B.W.K 271 (qu B 271) (bo B 271) (sc B 271) (cd B 271) ["box", "many"] :=
  FnAt.of rfl (bdS fun _ => bdS fun _ => bd0 rfl) (by rfl) (by rfl) (by rfl) (by rfl) (by decide) (by rfl)
theorem fn_law_piece (B : Base) : FnAt B.W.K 278 (qu B 278) (bo B 278) (sc B 278) (cd B 278) ["box", "name", "at"] :=
  FnAt.of rfl (bdS fun _ => bdS fun _ => bdS fun _ => bd0 rfl) (by rfl) (by rfl) (by rfl) (by rfl) (by decide) (by rfl)
theorem fn_law_between (B : Base) : FnAt B.W.K 283 (qu B 283) (bo B 283) (sc B 283) (cd B 283) ["box", "name", "at"] :=
  FnAt.of rfl (bdS fun _ => bdS fun _ => bdS fun _ => bd0 rfl) (by rfl) (by rfl) (by rfl) (by rfl) (by decide) (by rfl)
end Mine
namespace Mine
set_option autoImplicit false
set_option linter.unusedVariables false
set_option maxRecDepth 100000

theorem items_rng (n : Nat) (h : n ≤ 100000) : Items (.rng (n : Int)) ((List.range n).map natD) := by
  have := Items.rng (n : Int) (by omega)
  rwa [Int.toNat_natCast] at this
theorem lo_rng (n : Nat) : ∀ m, D.rng (n : Int) = .rng m → -(2 ^ 62) ≤ m := fun m e => by cases e; omega
theorem rowAt' {l : List PRow} {i : Nat} (h : i < l.length) : (l.map rowD)[((i : Nat) : Int).toNat]? = some (rowD (at_ l i)) := by
  rw [Int.toNat_natCast, List.getElem?_map, getD_of h row0]; rfl
theorem optAt {l : List (Option PRow)} {i : Nat} (h : i < l.length) : (l.map optD)[((i : Nat) : Int).toNat]? = some (optD (atO l i)) := by
  rw [Int.toNat_natCast, List.getElem?_map, getD_of h none]; rfl
theorem at_mem {l : List PRow} {i : Nat} (h : i < l.length) : at_ l i ∈ l := by
  unfold at_; rw [List.getD_eq_getElem?_getD, List.getElem?_eq_getElem h]; exact List.getElem_mem h
theorem RowOk.tgt {n : Nat} {r : PRow} (h : RowOk n r) (hj : r.op.isJump = true) : r.a = .nat r.t ∧ r.t < n := by
  obtain ⟨t, ht, hlt⟩ := h hj
  have : r.t = t := by simp [PRow.t, ht]
  rw [this]; exact ⟨ht, hlt⟩
theorem aD {r : PRow} (h : r.a = .nat r.t) : r.a.d = .int r.t := by rw [h]; rfl

theorem eoj_lt {rows : List PRow} {p : Nat} (hr : ∀ r ∈ rows, RowOk rows.length r) (hp : p < rows.length) : ∀ (k f : Nat), f < rows.length → eojP rows p k f < rows.length
  | 0, _, _ => hp
  | k + 1, f, hf => by
    unfold eojP
    split
    · rename_i h
      exact eoj_lt hr hp k _ ((hr _ (at_mem hf)).tgt (by rw [h]; rfl)).2
    · exact hf

theorem c_end_of_jumps (B : Base) (c : PCode) (kids : List D) (wf : WF c) (p : Nat) (hp : p < c.rows.length) : Calls B.W 1 (.ref 151) [codeD c kids, natD p] (· = natD (eojP c.rows p c.rows.length p)) := by
  refine Calls_fn (fn_end_of_jumps B) rfl fun A L hE Fb hb hx hF R => ?_
  have big := wf.big
  refine Exs_cons ?_
  refine Ex_Assign (.inl rfl) ?_
  refine Ev_name rfl ⟨_, rfl, ?_⟩
  refine Exs_cons ?_
  refine Ex_ForR natD (List.range c.rows.length) (fun rest σ => ∃ f, f < c.rows.length ∧ Sub [("code", .val (codeD c kids)), ("place", .val (natD p)), ("found", .val (natD f))] σ ∧ eojP c.rows p rest.length f = eojP c.rows p c.rows.length p) R.handled
    (Ev_CallBi R rfl rfl rfl (by decide) rfl rfl <| EvSp_cons <| Ev_CallBi R rfl rfl rfl (by decide) rfl rfl <| EvSp_cons <| Ev_nAttr rfl rfl rfl <| EvSp_nil ⟨[_], rfl, Calls_len (by simp; omega) <| EvSp_nil ⟨[_], rfl, Calls_range ⟨_, rfl, ?_, ?_, goName, p, hp, ⟨rfl, rfl, rfl, trivial⟩, by rw [List.length_range]⟩⟩⟩)
    (fun x rest σ₂ _ z23 => ?_) (fun σ₂ z22 => ?_)
  · rw [List.length_map]; exact items_rng _ (by omega)
  · rw [List.length_map]; exact lo_rng _
  · obtain ⟨f, hf, hS, he⟩ := z23
    refine Asg.weaken hS ?_
    refine Asg_name (.inl rfl) ?_
    refine Exs_cons ?_
    refine Ex_If ?_
    refine EvB_Compare ?_
    refine Ev_Attr ?_
    refine Ev_Sub ?_
    refine Ev_nAttr rfl rfl rfl ?_
    refine Ev_name rfl ?_
    refine Op2_subList (by omega) (by omega) (rowAt' hf) ?_
    refine Op1_attr rfl rfl ?_
    refine Ev_str ?_
    refine Op2_neS ⟨_, rfl, ite_B (fun h => ?_) (fun h => ?_)⟩
    · have hne : (at_ c.rows f).op ≠ .jump := by
        intro e; rw [e] at h; exact absurd h (by decide)
      refine Exs_cons ?_
      refine Ex_Return ?_
      refine Ev_name rfl ⟨_, rfl, ?_⟩
      show natD f = _
      rw [← he, List.length_cons, eojP, if_neg hne]
    · have heq : (at_ c.rows f).op = .jump := by
        have h' := h
        rw [show (Str.ofString "jump") = Op.jump.s from rfl, op_ne] at h'
        simpa using h'
      obtain ⟨ha, hlt⟩ := (wf.rows _ (at_mem hf)).tgt (by rw [heq]; rfl)
      refine Exs_nil ?_
      refine Exs_cons ?_
      refine Ex_Assign (.inl rfl) ?_
      refine Ev_Attr ?_
      refine Ev_Sub ?_
      refine Ev_nAttr rfl rfl rfl ?_
      refine Ev_name rfl ?_
      refine Op2_subList (by omega) (by omega) (rowAt' hf) ?_
      refine Op1_attr rfl (d := .int (at_ c.rows f).t) (congrArg some (aD ha)) ⟨_, rfl, Exs_nil ⟨_, hlt, ⟨rfl, rfl, rfl, trivial⟩, ?_⟩⟩
      rw [← he, List.length_cons, eojP, if_pos heq]
  · obtain ⟨f, hf, hS, he⟩ := z22
    refine Exs_weaken hS ?_
    refine Exs_cons ?_
    refine Ex_Return ?_
    refine Ev_name rfl ⟨_, rfl, ?_⟩
    show natD p = _
    rw [← he]; rfl
end Mine
namespace Mine
set_option autoImplicit false
set_option linter.unusedVariables false
set_option maxRecDepth 100000
section
variable {W : Wd} {C : Fx W} {A : Around} {σ : LS}
theorem Op2_notInTup {x : Str} {ys : List Str} {Φ : Tmp → LS → Prop} (h : Φ (.val (.bool (!ys.any (· == x)))) σ) : Op2 C A (compareOp .NotIn) (.val (.str x)) (.val (.tup (ys.map D.str))) σ Φ := by
  intro s T v₁ v₂ S
  obtain ⟨ρ, S, r₁, r₂⟩ := S.top2
  (first | (obtain ⟨_, rfl⟩ := Rep.ofInt r₂) | (obtain ⟨_, rfl⟩ := Rep.ofStr r₂) | (obtain rfl := Rep.ofBool r₂) | (obtain rfl := Rep.ofNone r₂) | (obtain rfl := Rep.ofFn r₂) | cases r₂)
  obtain ⟨a, vs, rfl, n, ht, q⟩ := Rep.ofTup r₁
  exact notin_tuple_strs ht (by simpa using strsAre_of q) (St.out0 (E := [_, _]) S h (.bool _))
end
theorem EvB_notJumps {B : Base} {C : Fx B.W} {A : Around} {σ : LS} {x : Str} {p p1 p2 p3 : Pos} {r : PRow} {Φ : Bool → LS → Prop} (e : σ.lookup x = some (.val (rowD r))) (k : C.env.kindOf "JUMPS" = some .globalImplicit) (h : Φ (!r.op.isJump) σ) (hd : (x == ("__debug__" : Str)) = false := by decide) :
    EvB C A (.Compare (.Attribute (.Name x p) "op" p1) [.NotIn] [.Name "JUMPS" p2] p3) σ Φ :=
  EvB_Compare (Ev_nAttr e rfl rfl (Ev_strs k rfl rfl (Op2_notInTup ⟨_, rfl, (isJump_s r).symm ▸ h⟩)) hd)
/-- row.op == '..' -/
theorem Ev_opIs {B : Base} {C : Fx B.W} {A : Around} {σ : LS} {x : Str} {p p1 p2 p3 : Pos} {kk : Nat} {r : PRow} (o : Op) {Φ : Tmp → LS → Prop} (e : σ.lookup x = some (.val (rowD r))) (h : Φ (.val (.bool (r.op == o))) σ) (hd : (x == ("__debug__" : Str)) = false := by decide) :
    Ev C A (.Compare (.Attribute (.Name x p) "op" p1) [.Eq] [.Constant (.str o.s) kk p2] p3) σ Φ :=
  Ev_Compare (Ev_nAttr e rfl rfl (Ev_str (Op2_eqS (op_eq r.op o ▸ h))) hd) (by cases o <;> with_unfolding_all rfl)
theorem EvB_opIs {B : Base} {C : Fx B.W} {A : Around} {σ : LS} {x : Str} {p p1 p2 p3 : Pos} {kk : Nat} {r : PRow} (o : Op) {Φ : Bool → LS → Prop} (e : σ.lookup x = some (.val (rowD r))) (h : Φ (r.op == o) σ) (hd : (x == ("__debug__" : Str)) = false := by decide) :
    EvB C A (.Compare (.Attribute (.Name x p) "op" p1) [.Eq] [.Constant (.str o.s) kk p2] p3) σ Φ :=
  EvB_Compare (Ev_nAttr e rfl rfl (Ev_str (Op2_eqS ⟨_, rfl, op_eq r.op o ▸ h⟩)) hd) (by cases o <;> with_unfolding_all rfl)

theorem iteT {X Y : Prop} (h : X) : if true = true then X else Y := h
theorem iteF {X Y : Prop} (h : Y) : if false = true then X else Y := by simpa using h
/-- a list of rows for a code -/
noncomputable def OptOk (c : PCode) (l : List (Option PRow)) : Prop := l.length = c.rows.length ∧ ∀ r, some r ∈ l → RowOk c.rows.length r
theorem threaded_ok {c : PCode} (wf : WF c) : OptOk c (threadedO c) := by
  refine ⟨by simp [threadedO], fun r hr => ?_⟩
  simp only [threadedO, List.mem_map, Option.some.injEq] at hr
  obtain ⟨r0, h0, rfl⟩ := hr
  unfold threadRow
  intro hj
  split at hj
  · rename_i h
    split at hj
    · cases hj
    · rename_i h2
      rw [if_pos h, if_neg h2]
      exact ⟨_, rfl, eoj_lt wf.rows ((wf.rows _ h0).tgt h).2 _ _ ((wf.rows _ h0).tgt h).2⟩
  · rename_i h; exact absurd hj (by simpa using h)

set_option maxHeartbeats 2000000 in
theorem c_threaded (B : Base) (c : PCode) (kids : List D) (wf : WF c) : Calls B.W 3 (.ref 158) [codeD c kids] (· = codeD (Pass.threaded.run c) kids) := by
  refine Calls_fn (fn_threaded B) rfl fun A L hE Fb hb hx hF R => ?_
  have big := wf.big
  refine Exs_cons ?_
  refine Ex_AssignF (.inl rfl) (.inl rfl) ?_
  refine Ev_ListF ?_
  refine EvSp_nil ⟨[], rfl, by decide, _, rfl, ?_⟩
  refine Exs_cons ?_
  refine Ex_ForFoldR rowD c.rows (fun acc r => acc ++ [threadRow c.rows r]) (fun rest acc => acc.length + rest.length ≤ c.rows.length) (fun acc => [("code", .val (codeD c kids)), ("rows", .own (acc.map rowD))]) [] R.handled
    (Ev_nAttr rfl rfl rfl ⟨_, rfl, .list _, noRng, goName, by simp, rfl, rfl, trivial⟩) (fun r rest acc hr hacc => ?_) (fun σ₂ hP hS => ?_)
  · rw [List.length_cons] at hacc
    refine Asg_name (.inl rfl) ?_
    refine Exs_cons ?_
    refine Ex_If ?_
    refine EvB_notJumps rfl rfl ?_
    refine ite_B (fun h => ?_) (fun h => ?_)
    · have hj : r.op.isJump = false := by simpa using h
      refine Exs_cons ?_
      refine Ex_Expr ?_
      refine Ev_append rfl ?_
      refine Ev_name rfl ⟨_, acc.map rowD, rfl, rfl, sizeBig (by simp; omega), Exs_cons <| Ex_Continue ⟨?_, rfl, own_eq ?_, trivial⟩⟩
      · simp; omega
      · simp [threadRow, hj]
    · have hj : r.op.isJump = true := by simpa using h
      obtain ⟨ha, hlt⟩ := (wf.rows _ hr).tgt hj
      have hel := eoj_lt wf.rows hlt c.rows.length r.t hlt
      refine Exs_nil ?_
      refine Exs_cons ?_
      refine Ex_Assign (.inl rfl) ?_
      refine Ev_CallFn (n := 2) R rfl rfl rfl rfl ?_
      refine EvSp_cons ?_
      refine Ev_name rfl ?_
      refine EvSp_cons ?_
      refine Ev_nAttr rfl rfl (d := natD r.t) (congrArg some (aD ha)) ?_
      refine EvSp_nil ⟨[_, _], rfl, (c_end_of_jumps B c kids wf r.t hlt).eq (by decide) ⟨_, rfl, ?_⟩⟩
      have step2 : ∀ acc' : List PRow, acc' = acc ++ [threadRow c.rows r] → acc'.length + rest.length ≤ c.rows.length := fun acc' e => by rw [e]; simp; omega
      refine Exs_cons ?_
      refine Ex_If ?_
      refine EvB_BoolOp ?_
      refine EvAll_consA ?_
      refine EvB_opIs .jump rfl ?_
      refine ite_B (fun h1 => ?_) (fun h1 => ?_)
      · have h1' : r.op = .jump := by simpa using h1
        refine EvAll_consA ?_
        refine EvB_Compare ?_
        refine Ev_Attr ?_
        refine Ev_Sub ?_
        refine Ev_nAttr rfl rfl rfl ?_
        refine Ev_name rfl ?_
        refine Op2_subList (by omega) (by omega) (rowAt' hel) ?_
        refine Op1_attr rfl rfl ?_
        refine Ev_str ?_
        refine Op2_eqS ⟨_, rfl, ite_B (fun h2 => ?_) (fun h2 => ?_)⟩
        · have h2' : (at_ c.rows (eojP c.rows r.t c.rows.length r.t)).op = .leave := by
            rw [show (Str.ofString "leave") = Op.leave.s from rfl, op_eq] at h2; simpa using h2
          refine EvAll_nilA ?_
          refine iteT ?_
          refine Exs_cons ?_
          refine Ex_Expr ?_
          refine Ev_append rfl ?_
          refine Ev_CallFn (n := 2) R rfl rfl rfl rfl ?_
          refine EvSp_cons ?_
          refine Ev_str ?_
          refine EvSp_cons ?_
          refine Ev_none ?_
          refine EvSp_cons ?_
          refine Ev_none ?_
          refine EvSp_cons ?_
          refine Ev_none ?_
          refine EvSp_cons ?_
          refine Ev_nAttr rfl rfl rfl <|
            EvSp_nil ⟨[_, _, _, _, _], rfl, (c_Row B 2 _ _ _ _ _).eq (Nat.le_refl _) ⟨_, acc.map rowD, rfl, rfl, sizeBig (by simp; omega), Exs_nil <| Exs_nil ⟨step2 _ rfl, rfl, own_eq ?_, trivial⟩⟩⟩
          rw [List.map_append, threadRow, if_pos hj, if_pos ⟨h1', h2'⟩]; rfl
        · have h2' : (at_ c.rows (eojP c.rows r.t c.rows.length r.t)).op ≠ .leave := by
            rw [show (Str.ofString "leave") = Op.leave.s from rfl, op_eq] at h2; simpa using h2
          refine iteF ?_
          refine Exs_cons ?_
          refine Ex_Expr ?_
          refine Ev_append rfl ?_
          refine Ev_nMeth (n := 2) R rfl rfl rfl rfl rfl rfl ?_
          refine EvSp_cons ?_
          refine Ev_name rfl <|
            EvSp_nil ⟨[_], rfl, (c_with_target B r (.nat _)).eq (by decide) ⟨_, acc.map rowD, rfl, rfl, sizeBig (by simp; omega), Exs_nil <| Exs_nil ⟨step2 _ rfl, rfl, own_eq ?_, trivial⟩⟩⟩
          rw [List.map_append, threadRow, if_pos hj, if_neg fun q => h2' q.2]; rfl
      · have h1' : r.op ≠ .jump := by simpa using h1
        refine iteF ?_
        refine Exs_cons ?_
        refine Ex_Expr ?_
        refine Ev_append rfl ?_
        refine Ev_nMeth (n := 2) R rfl rfl rfl rfl rfl rfl ?_
        refine EvSp_cons ?_
        refine Ev_name rfl <|
          EvSp_nil ⟨[_], rfl, (c_with_target B r (.nat _)).eq (by decide) ⟨_, acc.map rowD, rfl, rfl, sizeBig (by simp; omega), Exs_nil <| Exs_nil ⟨step2 _ rfl, rfl, own_eq ?_, trivial⟩⟩⟩
        rw [List.map_append, threadRow, if_pos hj, if_neg fun q => h1' q.1]; rfl
  · have efold : ∀ (l acc : List PRow), l.foldl (fun acc r => acc ++ [threadRow c.rows r]) acc = acc ++ l.map (threadRow c.rows) := by
      intro l
      induction l with
      | nil => intro acc; simp
      | cons r l ih => intro acc; rw [List.foldl_cons, ih]; simp
    have e1 : (c.rows.foldl (fun acc r => acc ++ [threadRow c.rows r]) []).map rowD = (threadedO c).map optD := by
      rw [efold, List.nil_append, threadedO, List.map_map, List.map_map]; rfl
    rw [e1] at hS
    have ok := threaded_ok wf
    refine Exs_weaken hS ?_
    refine Exs_freeze "rows" rfl (.inl rfl) ?_
    refine Exs_cons ?_
    refine Ex_Return ?_
    refine Ev_CallFn (n := 2) R rfl rfl rfl rfl ?_
    refine EvSp_cons ?_
    refine Ev_name rfl ?_
    refine EvSp_cons ?_
    refine Ev_name rfl <|
      EvSp_nil ⟨[_, _], rfl, (c_pressed B c kids wf (threadedO c) ok.1 ok.2).eq (by decide) ⟨_, rfl, rfl⟩⟩
end Mine
namespace Mine
set_option autoImplicit false
set_option linter.unusedVariables false
set_option maxRecDepth 100000

noncomputable abbrev τR (c : PCode) (kids : List D) (a : List (Option PRow)) : LS := [("code", .val (codeD c kids)), ("rows", .own (a.map optD)), ("marks", .val (.list ((marksP c).map D.bool)))]
theorem marks_len (c : PCode) : (marksP c).length = c.rows.length + 1 := by
  have h1 : ∀ (l : List PRow) (f : List Bool), (l.foldl (fun f r => if r.op.isJump then setMark f r.t else f) f).length = f.length := by
    intro l
    induction l with
    | nil => intro f; rfl
    | cons r l ih => intro f; rw [List.foldl_cons, ih]; split <;> simp [setMark]
  have h2 : ∀ (l : List PCat) (f : List Bool), (l.foldl (fun f k => setMark f k.target) f).length = f.length := by
    intro l
    induction l with
    | nil => intro f; rfl
    | cons r l ih => intro f; rw [List.foldl_cons, ih, setMark_len]
  have h3 : ∀ (l : List Nat) (f : List Bool), (l.foldl setMark f).length = f.length := by
    intro l
    induction l with
    | nil => intro f; rfl
    | cons r l ih => intro f; rw [List.foldl_cons, ih, setMark_len]
  unfold marksP
  rw [h3, h2, h1, List.length_replicate]
theorem markAt {l : List Bool} {i : Nat} (h : i < l.length) : (l.map D.bool)[((i : Nat) : Int).toNat]? = some (.bool (l.getD i false)) := by
  rw [Int.toNat_natCast, List.getElem?_map, getD_of h false]; rfl
theorem items_rngSub (n k : Nat) (h : n ≤ 100000) (hk : k ≤ 100) : Items (.rng ((n : Int) - (k : Int))) ((List.range (n - k)).map natD) := by
  have := Items.rng ((n : Int) - (k : Int)) (by omega)
  have e : ((n : Int) - (k : Int)).toNat = n - k := by omega
  rwa [e] at this
theorem lo_rngSub (n k : Nat) (hk : k ≤ 100) : ∀ m, D.rng ((n : Int) - (k : Int)) = .rng m → -(2 ^ 62) ≤ m := fun m e => by cases e; omega

section
variable {B : Base} {C : Fx B.W} {A : Around} {σ : LS}
/-- rows, marks = list(code.rows), marks_of(code) -/
theorem Ex_rowsMarks {n : Nat} {c : PCode} {kids : List D} {p1 p2 p3 p4 p5 p6 p7 p8 p9 p10 p11 p12 : Pos} {k k' : Nat} {Φ : Fl → LS → Prop} (wf : WF c) (R : Room A (n + 1)) (e : σ.lookup ("code" : Str) = some (.val (codeD c kids))) (bx : Bind C "rows") (bm : Bind C "marks") (hbx : C.bx = none)
    (k1 : C.env.kindOf "list" = some .globalImplicit) (k2 : C.env.kindOf "marks_of" = some .globalImplicit)
    (h : Φ .next (upd (upd σ "marks" (.val (.list ((marksP c).map D.bool)))) "rows" (.own ((c.rows.map some).map optD))))
    (hw : swappedStores [.Tuple [.Name "rows" p1, .Name "marks" p2] k p3] (.Tuple [.Call (.Name "list" p4) [.Attribute (.Name "code" p5) "rows" p6] [] p7, .Call (.Name "marks_of" p8) [.Name "code" p9] [] p10] k' p11) C.env = pure (some (["rows", "marks"] : List Str)))
    (hs : swapsWithSole [.Tuple [.Name "rows" p1, .Name "marks" p2] k p3] (.Tuple [.Call (.Name "list" p4) [.Attribute (.Name "code" p5) "rows" p6] [] p7, .Call (.Name "marks_of" p8) [.Name "code" p9] [] p10] k' p11) p12.line C.env = pure false) :
    Ex C A (.Assign [.Tuple [.Name "rows" p1, .Name "marks" p2] k p3] (.Tuple [.Call (.Name "list" p4) [.Attribute (.Name "code" p5) "rows" p6] [] p7, .Call (.Name "marks_of" p8) [.Name "code" p9] [] p10] k' p11) p12) σ Φ := by
  refine Ex_AssignFV R.handled bx bm (.inl hbx) hw (EvSp_cons <| Ev_CallF R (Ev_builtin k1 rfl rfl (by decide) rfl ⟨_, rfl, rfl, EvSp_cons <| Ev_nAttr e rfl rfl <| EvSp_nil ⟨[_], rfl, Calls_list (sizeBig (by have := wf.big; simp; omega)) ?_⟩⟩)) hs
  refine EvSp_cons ?_
  refine Ev_CallFn R k2 rfl rfl rfl ?_
  refine EvSp_cons ?_
  refine Ev_name e ?_
  refine EvSp_nil ⟨[_], rfl, (c_marks_of B c kids wf).eq (by omega) <| EvSp_nil ⟨_, _, rfl, ?_⟩⟩
  have e1 : c.rows.map rowD = (c.rows.map some).map optD := by rw [List.map_map]; rfl
  rw [e1]; exact h
/-- is_op(rows[..], ..) as a test -/
theorem EvB_isOpAt {n i : Nat} {a : List (Option PRow)} {p : Op → Bool} {idx ops : Expr} {p1 p2 p3 p4 : Pos} {Φ : Bool → LS → Prop} (l : List Op) (hl : ∀ o, l.any (· == o) = p o) (R : Room A (n + 1)) (k : C.env.kindOf "is_op" = some .globalImplicit)
    (er : σ.lookup ("rows" : Str) = some (.own (a.map optD))) (hlt : i < a.length) (hbig : i < 100000) (hi : Ev C A idx σ fun t σ' => t = .val (natD i) ∧ σ' = σ) (ho : Ev C A ops σ fun t σ' => t = .val (.tup (l.map fun o => .str o.s)) ∧ σ' = σ)
    (h : Φ (isOp (atO a i) p) σ) (hs : SubPlain idx := by intro _ _; rfl) (hse : ∀ env, starEach [ops] env = (false, eval ops env) :: starEach [] env := by intro _; rfl)
    (hp : (backTo p4 (starEach [.Subscript (.Name "rows" p2) idx p3, ops] C.env)).any (·.1) = false := by rfl)
    (he : eval (.Call (.Name "is_op" p1) [.Subscript (.Name "rows" p2) idx p3, ops] [] p4) C.env = (do callWith p4 (← eval (.Name "is_op" p1) C.env) [] (backTo p4 (starEach [.Subscript (.Name "rows" p2) idx p3, ops] C.env)) []) := by rfl) :
    EvB C A (.Call (.Name "is_op" p1) [.Subscript (.Name "rows" p2) idx p3, ops] [] p4) σ Φ := by
  refine EvB_val (Ev_CallFn R k rfl rfl rfl (EvSp_cons <| Ev_Sub <| Ev_own er <| hi.mono fun t σ' z24 => ?_) (by decide) hp he)
  obtain ⟨e1, e2⟩ := z24
  subst e1 e2
  refine Op2_subOwn er (by omega) (by omega) (optAt hlt) (EvSp_cons (ho.mono fun t σ' z25 => ?_) hse) hs
  obtain ⟨e1, e2⟩ := z25
  subst e1 e2
  refine EvSp_nil ⟨[_, _], rfl, (c_is_op B _ l).eq (by omega) ⟨_, rfl, ?_⟩⟩
  rw [show (fun o => l.any (· == o)) = p from funext hl]; exact h
/-- marks[..] as a test -/
theorem EvB_markAt {i : Nat} {l : List Bool} {idx : Expr} {p2 p3 : Pos} {Φ : Bool → LS → Prop} (er : σ.lookup ("marks" : Str) = some (.val (.list (l.map D.bool)))) (hlt : i < l.length) (hbig : i < 100000) (hi : Ev C A idx σ fun t σ' => t = .val (natD i) ∧ σ' = σ)
    (h : Φ (l.getD i false) σ) (hs : SubPlain idx := by intro _ _; rfl) : EvB C A (.Subscript (.Name "marks" p2) idx p3) σ Φ := by
  refine EvB_val (Ev_Sub <| Ev_name er <| hi.mono fun t σ' z26 => ?_)
  obtain ⟨e1, e2⟩ := z26
  subst e1 e2
  exact Op2_subList (by omega) (by omega) (markAt hlt) ⟨_, rfl, h⟩ hs
theorem idx0 {i : Nat} {p : Pos} (e : σ.lookup ("place" : Str) = some (.val (natD i))) : Ev C A (.Name "place" p) σ fun t σ' => t = .val (natD i) ∧ σ' = σ := Ev_name e ⟨rfl, rfl⟩
theorem idx1 {i j k : Nat} {p p' p'' : Pos} (e : σ.lookup ("place" : Str) = some (.val (natD i))) : Ev C A (.BinOp (.Name "place" p) .Add (.Constant (.int (j : Int)) k p') p'') σ fun t σ' => t = .val (natD (i + j)) ∧ σ' = σ := Ev_BinOp <| Ev_name e <| Ev_int <| Op2_add ⟨rfl, rfl⟩
/-- return pressed(code, rows) -/
theorem Exs_press {n : Nat} {c : PCode} {kids : List D} {l : List (Option PRow)} {p1 p2 p3 p4 p5 : Pos} {Φ : Fl → LS → Prop} (wf : WF c) (ok : OptOk c l) (R : Room A (n + 2)) (k : C.env.kindOf "pressed" = some .globalImplicit) (hbx : C.bx = none)
    (e : σ.lookup ("code" : Str) = some (.val (codeD c kids))) (er : σ.lookup ("rows" : Str) = some (.own (l.map optD))) (h : ∀ σ', Φ (.ret (codeD (pressedP c l) kids)) σ') : Exs C A [.Return (some (.Call (.Name "pressed" p1) [.Name "code" p2, .Name "rows" p3] [] p4)) p5] σ Φ :=
  Exs_freeze "rows" er (.inl hbx) <| Exs_cons <| Ex_Return <| Ev_CallFn R k rfl rfl rfl <| EvSp_cons <| Ev_name (by rw [lookup_upd]; exact e) <| EvSp_cons <| Ev_name (by rw [lookup_upd]; rfl) <|
    EvSp_nil ⟨[_, _], rfl, (c_pressed B c kids wf l ok.1 ok.2).eq (by omega) ⟨_, rfl, h _⟩⟩
end

theorem OptOk.set {c : PCode} {l : List (Option PRow)} (ok : OptOk c l) (i : Nat) (x : Option PRow) (hx : ∀ r, x = some r → RowOk c.rows.length r) : OptOk c (l.set i x) :=
  ⟨by rw [List.length_set]; exact ok.1, fun r hr => by
    rcases List.mem_or_eq_of_mem_set hr with h | h
    · exact ok.2 r h
    · exact hx r h.symm⟩
theorem OptOk.setNone {c : PCode} {l : List (Option PRow)} (ok : OptOk c l) (i : Nat) : OptOk c (l.set i none) := ok.set i none fun _ e => nomatch e
theorem optOk0 {c : PCode} (wf : WF c) : OptOk c (c.rows.map some) := ⟨by simp, fun r hr => wf.rows r (by simpa using hr)⟩
theorem push_ok {c : PCode} {m : List Bool} (l : List (Option PRow)) (i : Nat) (ok : OptOk c l) : OptOk c (pushStep m l i) := by
  unfold pushStep; split
  · exact (ok.setNone i).setNone _
  · exact ok

theorem any_plain (o : Op) : ([.push, .self, .getl, .geti, .getg, .dup, .blockgiven] : List Op).any (· == o) = o.isPlain := by cases o <;> rfl
theorem any_store (o : Op) : ([.setl, .seti, .setg, .setc] : List Op).any (· == o) = o.isStore := by cases o <;> rfl
theorem any_branch (o : Op) : ([.jumpif, .jumpunless] : List Op).any (· == o) = o.isBranch := by cases o <;> rfl
theorem any_one (o x : Op) : ([x] : List Op).any (· == o) = (fun y => y == x) o := by cases o <;> cases x <;> rfl

set_option maxHeartbeats 2000000 in
theorem c_pushes (B : Base) (c : PCode) (kids : List D) (wf : WF c) : Calls B.W 3 (.ref 177) [codeD c kids] (· = codeD (Pass.pushes.run c) kids) := by
  refine Calls_fn (fn_without_pushes B) rfl fun A L hE Fb hb hx hF R => ?_
  have big := wf.big
  have ml := marks_len c
  refine Exs_cons ?_
  refine Ex_rowsMarks (n := 1) wf R rfl (.inl rfl) (.inl rfl) rfl rfl rfl ?_ rfl rfl
  refine Exs_weaken (τ := τR c kids (c.rows.map some)) ⟨rfl, rfl, rfl, trivial⟩ ?_
  refine Exs_cons ?_
  refine Ex_ForFold natD (List.range (c.rows.length - 1)) (pushStep (marksP c)) (OptOk c) (τR c kids) (c.rows.map some) R.handled
    (Ev_CallBi R rfl rfl rfl (by decide) rfl rfl <| EvSp_cons <| Ev_BinOp <| Ev_lenOwn <| Ev_builtin rfl rfl rfl (by decide) rfl ⟨rfl, rfl, by simp; omega, Ev_int <| Op2_sub <| EvSp_nil ⟨[_], rfl, Calls_range ⟨_, rfl, ?_, ?_, goName, optOk0 wf, ⟨rfl, rfl, rfl, trivial⟩⟩⟩⟩)
    (fun i a hi ok => ?_) (fun σ₂ ok hS => Exs_weaken hS ?_)
  · rw [List.length_map, List.length_map]; exact items_rngSub _ 1 (by omega) (by omega)
  · rw [List.length_map, List.length_map]; exact lo_rngSub _ 1 (by omega)
  · have hi' : i + 1 < c.rows.length := by have := List.mem_range.mp hi; omega
    have hal := ok.1
    have leaf : ∀ b, (isOp (atO a i) Op.isPlain && isOp (atO a (i + 1)) (· == .pop) && !(marksP c).getD (i + 1) false) = b → pushStep (marksP c) a i = if b = true then (a.set i none).set (i + 1) none else a := fun b e => by unfold pushStep; rw [e]
    refine Asg_name (.inl rfl) <| Exs_cons <| Ex_If <| EvB_BoolOp <| EvAll_consA <| EvB_isOpAt (n := 1) (p := Op.isPlain) _ any_plain R rfl rfl (by omega) (by omega) (idx0 rfl) (Ev_strs rfl rfl rfl ⟨rfl, rfl⟩) <| ite_B (fun h1 => ?_) (fun h1 => ?_)
    · refine EvAll_consA <| EvB_isOpAt (n := 1) (p := (· == .pop)) [.pop] (fun o => any_one o .pop) R rfl rfl (i := i + 1) (by omega) (by omega) (idx1 rfl) (Ev_Tuple <| EvSp_cons <| Ev_str <| EvSp_nil ⟨[_], rfl, sizeBig (by simp), rfl, rfl⟩) <| ite_B (fun h2 => ?_) (fun h2 => ?_)
      · refine EvAll_consA ?_
        refine EvB_Not ?_
        refine EvB_markAt (i := i + 1) rfl (by omega) (by omega) (idx1 rfl) ?_
        refine ite_B (fun h3 => ?_) (fun h3 => ?_)
        · refine EvAll_nilA ?_
          refine iteT ?_
          refine Exs_cons ?_
          refine Ex_AssignTup ?_
          refine Ev_Tuple ?_
          refine EvSp_cons ?_
          refine Ev_none ?_
          refine EvSp_cons ?_
          refine Ev_none ?_
          refine EvSp_nil ⟨[_, _], rfl, sizeBig (by simp), _, rfl, Asg_tuple R.handled rfl rfl ?_⟩
          refine Asg_sub (l := a.map optD) (k := (i : Int)) (Ev_name rfl ⟨rfl, rfl, by omega, by omega, by simp; omega, ?_⟩) rfl
          refine Asg_sub (l := (a.map optD).set i .none) (k := ((i + 1 : Nat) : Int)) (Ev_BinOp <| Ev_name rfl <| Ev_int <| Op2_add ⟨rfl, rfl, by omega, by omega, by simp; omega, ?_⟩) rfl
          refine Exs_nil ?_
          refine Exs_nil ⟨push_ok a i ok, rfl, own_eq ?_, rfl, trivial⟩
          rw [leaf true (by rw [h1, h2, h3]; rfl), if_pos rfl, List.map_set, List.map_set]; rfl
        · refine iteF ?_
          refine Exs_nil ?_
          exact Exs_nil ⟨push_ok a i ok, rfl, own_eq (by rw [leaf false (by rw [h3, Bool.and_false]), if_neg (by decide)]), rfl, trivial⟩
      · refine iteF ?_
        refine Exs_nil ?_
        exact Exs_nil ⟨push_ok a i ok, rfl, own_eq (by rw [leaf false (by rw [h2, Bool.and_false, Bool.false_and]), if_neg (by decide)]), rfl, trivial⟩
    · refine iteF ?_
      refine Exs_nil ?_
      exact Exs_nil ⟨push_ok a i ok, rfl, own_eq (by rw [leaf false (by rw [h1, Bool.false_and, Bool.false_and]), if_neg (by decide)]), rfl, trivial⟩
  · exact Exs_press (n := 0) wf ok R rfl rfl rfl rfl fun _ => rfl
end Mine
namespace Mine
set_option autoImplicit false
set_option linter.unusedVariables false
set_option maxRecDepth 100000

theorem copy_ok {c : PCode} {m : List Bool} (l : List (Option PRow)) (i : Nat) (ok : OptOk c l) : OptOk c (copyStep m l i) := by
  unfold copyStep; split
  · exact (ok.setNone i).setNone _
  · exact ok
theorem swap_ok {c : PCode} {m : List Bool} (l : List (Option PRow)) (i : Nat) (ok : OptOk c l) : OptOk c (swapStep m l i) := by
  unfold swapStep; split
  · split
    · exact (ok.setNone i).setNone _
    · split
      · exact ok.setNone _
      · exact ok
  · exact ok

section
variable {B : Base} {C : Fx B.W} {A : Around} {σ : LS}
/-- rows[i], rows[j] = None, None -/
theorem Ex_twoNone {c : PCode} {kids : List D} {a : List (Option PRow)} {i k : Nat} {kk : Nat} {p1 p2 p3 p4 p5 p6 p7 p8 p9 p10 p11 p12 p13 : Pos} {k1 k2 k3 k4 : Nat} {Φ : Fl → LS → Prop} (R : Room A 0) (er : σ.lookup ("rows" : Str) = some (.own (a.map optD))) (ep : σ.lookup ("place" : Str) = some (.val (natD i)))
    (hi : i < a.length) (hk : i + k < a.length) (hb : a.length < 100000) (h : Φ .next (upd (upd σ "rows" (.own ((a.set i none).map optD))) "rows" (.own (((a.set i none).set (i + k) none).map optD))))
    (hs : swapsWithSole [.Tuple [.Subscript (.Name "rows" p1) (.Name "place" p2) p3, .Subscript (.Name "rows" p4) (.BinOp (.Name "place" p5) .Add (.Constant (.int (k : Int)) kk p6) p7) p8] k1 p9] (.Tuple [.Constant .none k2 p10, .Constant .none k3 p11] k4 p12) p13.line C.env = pure false := by rfl)
    (hw : swappedStores [.Tuple [.Subscript (.Name "rows" p1) (.Name "place" p2) p3, .Subscript (.Name "rows" p4) (.BinOp (.Name "place" p5) .Add (.Constant (.int (k : Int)) kk p6) p7) p8] k1 p9] (.Tuple [.Constant .none k2 p10, .Constant .none k3 p11] k4 p12) C.env = pure none := by rfl) :
    Ex C A (.Assign [.Tuple [.Subscript (.Name "rows" p1) (.Name "place" p2) p3, .Subscript (.Name "rows" p4) (.BinOp (.Name "place" p5) .Add (.Constant (.int (k : Int)) kk p6) p7) p8] k1 p9] (.Tuple [.Constant .none k2 p10, .Constant .none k3 p11] k4 p12) p13) σ Φ := by
  refine Ex_AssignTup (Ev_Tuple <| EvSp_cons <| Ev_none <| EvSp_cons <| Ev_none <| EvSp_nil ⟨[_, _], rfl, sizeBig (by simp), _, rfl, Asg_tuple R.handled rfl rfl ?_⟩) hs hw
  refine Asg_sub (l := a.map optD) (k := (i : Int)) (Ev_name ep ⟨rfl, er, by omega, by omega, by simp; omega, ?_⟩) er
  have e1 : (a.map optD).set (i : Int).toNat .none = (a.set i none).map optD := by rw [Int.toNat_natCast, List.map_set]; rfl
  rw [e1]
  have er' : (upd σ ("rows" : Str) (.own ((a.set i none).map optD))).lookup ("rows" : Str) = some (.own ((a.set i none).map optD)) := by rw [lookup_upd]; rfl
  refine Asg_sub (l := (a.set i none).map optD) (k := ((i + k : Nat) : Int)) (Ev_BinOp <| Ev_name (by rw [lookup_upd]; exact ep) <| Ev_int <| Op2_add ⟨rfl, er', by omega, by omega, by simp; omega, ?_⟩) er'
  have e2 : ((a.set i none).map optD).set ((i + k : Nat) : Int).toNat .none = ((a.set i none).set (i + k) none).map optD := by rw [Int.toNat_natCast, List.map_set (l := a.set i none)]; rfl
  rw [e2]
  exact h
/-- is_op(x, ..) as a test -/
theorem EvB_isOpN {n : Nat} {r : Option PRow} {p : Op → Bool} {x : Str} {ops : Expr} {p1 p2 p4 : Pos} {Φ : Bool → LS → Prop} (l : List Op) (hl : ∀ o, l.any (· == o) = p o) (R : Room A (n + 1)) (k : C.env.kindOf "is_op" = some .globalImplicit)
    (er : σ.lookup x = some (.val (optD r))) (ho : Ev C A ops σ fun t σ' => t = .val (.tup (l.map fun o => .str o.s)) ∧ σ' = σ)
    (h : Φ (isOp r p) σ) (hd : (x == ("__debug__" : Str)) = false := by decide) (hse : ∀ env, starEach [ops] env = (false, eval ops env) :: starEach [] env := by intro _; rfl)
    (hp : (backTo p4 (starEach [.Name x p2, ops] C.env)).any (·.1) = false := by rfl)
    (he : eval (.Call (.Name "is_op" p1) [.Name x p2, ops] [] p4) C.env = (do callWith p4 (← eval (.Name "is_op" p1) C.env) [] (backTo p4 (starEach [.Name x p2, ops] C.env)) []) := by rfl) :
    EvB C A (.Call (.Name "is_op" p1) [.Name x p2, ops] [] p4) σ Φ := by
  refine EvB_val (Ev_CallFn R k rfl rfl rfl (EvSp_cons <| Ev_name er (EvSp_cons (ho.mono fun t σ' z1 => ?_) hse) hd) (by decide) hp he)
  obtain ⟨e1, e2⟩ := z1
  subst e1 e2
  refine EvSp_nil ⟨[_, _], rfl, (c_is_op B _ l).eq (by omega) ⟨_, rfl, ?_⟩⟩
  rw [show (fun o => l.any (· == o)) = p from funext hl]; exact h
end

set_option maxHeartbeats 2000000 in
theorem c_copies (B : Base) (c : PCode) (kids : List D) (wf : WF c) : Calls B.W 3 (.ref 184) [codeD c kids] (· = codeD (Pass.copies.run c) kids) := by
  refine Calls_fn (fn_without_copies B) rfl fun A L hE Fb hb hx hF R => ?_
  have big := wf.big
  have ml := marks_len c
  refine Exs_cons ?_
  refine Ex_rowsMarks (n := 1) wf R rfl (.inl rfl) (.inl rfl) rfl rfl rfl ?_ rfl rfl
  refine Exs_weaken (τ := τR c kids (c.rows.map some)) ⟨rfl, rfl, rfl, trivial⟩ ?_
  refine Exs_cons ?_
  refine Ex_ForFold natD (List.range (c.rows.length - 2)) (copyStep (marksP c)) (OptOk c) (τR c kids) (c.rows.map some) R.handled
    (Ev_CallBi R rfl rfl rfl (by decide) rfl rfl <| EvSp_cons <| Ev_BinOp <| Ev_lenOwn <| Ev_builtin rfl rfl rfl (by decide) rfl ⟨rfl, rfl, by simp; omega, Ev_int <| Op2_sub <| EvSp_nil ⟨[_], rfl, Calls_range ⟨_, rfl, ?_, ?_, goName, optOk0 wf, ⟨rfl, rfl, rfl, trivial⟩⟩⟩⟩)
    (fun i a hi ok => ?_) (fun σ₂ ok hS => Exs_weaken hS ?_)
  · rw [List.length_map, List.length_map]; exact items_rngSub _ 2 (by omega) (by omega)
  · rw [List.length_map, List.length_map]; exact lo_rngSub _ 2 (by omega)
  · have hi' : i + 2 < c.rows.length := by have := List.mem_range.mp hi; omega
    have hal := ok.1
    have leaf : ∀ b, (isOp (atO a i) (· == .dup) && isOp (atO a (i + 1)) Op.isStore && isOp (atO a (i + 2)) (· == .pop) && (!(marksP c).getD (i + 1) false && !(marksP c).getD (i + 2) false)) = b → copyStep (marksP c) a i = if b = true then (a.set i none).set (i + 2) none else a := fun b e => by unfold copyStep; rw [e]
    have out : copyStep (marksP c) a i = a → ∀ {C : Fx B.W} {σ : LS} {rest : List Stmt}, Sub (τR c kids a) σ → Exs C A [] σ (FoldΦ (OptOk c) (τR c kids) (copyStep (marksP c) a i)) := fun e C σ rest hs => Exs_nil ⟨copy_ok a i ok, by rw [e]; exact hs⟩
    refine Asg_name (.inl rfl) <| Exs_cons <| Ex_If <| EvB_BoolOp <| EvAll_consA <| EvB_isOpAt (n := 1) (p := (· == .dup)) [.dup] (fun o => any_one o .dup) R rfl rfl (by omega) (by omega) (idx0 rfl) (Ev_Tuple <| EvSp_cons <| Ev_str <| EvSp_nil ⟨[_], rfl, sizeBig (by simp), rfl, rfl⟩) <| ite_B (fun h1 => ?_) (fun h1 => ?_)
    · refine EvAll_consA <| EvB_isOpAt (n := 1) (p := Op.isStore) _ any_store R rfl rfl (i := i + 1) (by omega) (by omega) (idx1 rfl) (Ev_strs rfl rfl rfl ⟨rfl, rfl⟩) <| ite_B (fun h2 => ?_) (fun h2 => ?_)
      · refine EvAll_consA <| EvB_isOpAt (n := 1) (p := (· == .pop)) [.pop] (fun o => any_one o .pop) R rfl rfl (i := i + 2) (by omega) (by omega) (idx1 rfl) (Ev_Tuple <| EvSp_cons <| Ev_str <| EvSp_nil ⟨[_], rfl, sizeBig (by simp), rfl, rfl⟩) <| ite_B (fun h3 => ?_) (fun h3 => ?_)
        · refine EvAll_nilA ?_
          refine iteT ?_
          refine Exs_cons ?_
          refine Ex_If ?_
          refine EvB_BoolOp ?_
          refine EvAll_consA ?_
          refine EvB_Not ?_
          refine EvB_markAt (i := i + 1) rfl (by omega) (by omega) (idx1 rfl) ?_
          refine ite_B (fun h4 => ?_) (fun h4 => ?_)
          · refine EvAll_consA ?_
            refine EvB_Not ?_
            refine EvB_markAt (i := i + 2) rfl (by omega) (by omega) (idx1 rfl) ?_
            refine ite_B (fun h5 => ?_) (fun h5 => ?_)
            · refine EvAll_nilA ?_
              refine iteT ?_
              refine Exs_cons ?_
              refine Ex_twoNone (c := c) (kids := kids) (a := a) (i := i) (k := 2) (R.le (Nat.zero_le _)) rfl rfl (by omega) (by omega) (by omega) ?_
              refine Exs_nil ?_
              refine Exs_nil ?_
              refine Exs_nil ⟨copy_ok a i ok, rfl, own_eq ?_, rfl, trivial⟩
              rw [leaf true (by rw [h1, h2, h3, h4, h5]; rfl), if_pos rfl]
            · refine iteF ?_
              refine Exs_nil ?_
              refine Exs_nil ?_
              exact out (by rw [leaf false (by rw [h5, Bool.and_false, Bool.and_false]), if_neg (by decide)]) (rest := []) ⟨rfl, rfl, rfl, trivial⟩
          · refine iteF ?_
            refine Exs_nil ?_
            refine Exs_nil ?_
            exact out (by rw [leaf false (by rw [h4, Bool.false_and, Bool.and_false]), if_neg (by decide)]) (rest := []) ⟨rfl, rfl, rfl, trivial⟩
        · refine iteF ?_
          refine Exs_nil ?_
          exact out (by rw [leaf false (by rw [h3, Bool.and_false, Bool.false_and]), if_neg (by decide)]) (rest := []) ⟨rfl, rfl, rfl, trivial⟩
      · refine iteF ?_
        refine Exs_nil ?_
        exact out (by rw [leaf false (by rw [h2, Bool.and_false, Bool.false_and, Bool.false_and]), if_neg (by decide)]) (rest := []) ⟨rfl, rfl, rfl, trivial⟩
    · refine iteF ?_
      refine Exs_nil ?_
      exact out (by rw [leaf false (by rw [h1, Bool.false_and, Bool.false_and, Bool.false_and]), if_neg (by decide)]) (rest := []) ⟨rfl, rfl, rfl, trivial⟩
  · exact Exs_press (n := 0) wf ok R rfl rfl rfl rfl fun _ => rfl

set_option maxHeartbeats 2000000 in
theorem c_swaps (B : Base) (c : PCode) (kids : List D) (wf : WF c) : Calls B.W 3 (.ref 219) [codeD c kids] (· = codeD (Pass.swaps.run c) kids) := by
  refine Calls_fn (fn_swaps B) rfl fun A L hE Fb hb hx hF R => ?_
  have big := wf.big
  have ml := marks_len c
  refine Exs_cons ?_
  refine Ex_rowsMarks (n := 1) wf R rfl (.inl rfl) (.inl rfl) rfl rfl rfl ?_ rfl rfl
  refine Exs_weaken (τ := τR c kids (c.rows.map some)) ⟨rfl, rfl, rfl, trivial⟩ ?_
  refine Exs_cons ?_
  refine Ex_ForFold natD (List.range (c.rows.length - 1)) (swapStep (marksP c)) (OptOk c) (τR c kids) (c.rows.map some) R.handled
    (Ev_CallBi R rfl rfl rfl (by decide) rfl rfl <| EvSp_cons <| Ev_BinOp <| Ev_lenOwn <| Ev_builtin rfl rfl rfl (by decide) rfl ⟨rfl, rfl, by simp; omega, Ev_int <| Op2_sub <| EvSp_nil ⟨[_], rfl, Calls_range ⟨_, rfl, ?_, ?_, goName, optOk0 wf, ⟨rfl, rfl, rfl, trivial⟩⟩⟩⟩)
    (fun i a hi ok => ?_) (fun σ₂ ok hS => Exs_weaken hS ?_)
  · rw [List.length_map, List.length_map]; exact items_rngSub _ 1 (by omega) (by omega)
  · rw [List.length_map, List.length_map]; exact lo_rngSub _ 1 (by omega)
  · have hi' : i + 1 < c.rows.length := by have := List.mem_range.mp hi; omega
    have hal := ok.1
    have no : (isOp (atO a (i + 1)) (· == .swap) && !(marksP c).getD (i + 1) false) = false → swapStep (marksP c) a i = a := fun e => by unfold swapStep; rw [e]; rfl
    have yes : (isOp (atO a (i + 1)) (· == .swap) && !(marksP c).getD (i + 1) false) = true → swapStep (marksP c) a i = if isOp (atO a i) (· == .swap) = true then (a.set i none).set (i + 1) none else if isOp (atO a i) (· == .dup) = true then a.set (i + 1) none else a := fun e => by unfold swapStep; rw [e]; rfl
    refine Asg_name (.inl rfl) <| Exs_cons <| Ex_If <| EvB_BoolOp <| EvAll_consO <| EvB_Not <| EvB_isOpAt (n := 1) (p := (· == .swap)) [.swap] (fun o => any_one o .swap) R rfl rfl (i := i + 1) (by omega) (by omega) (idx1 rfl) (Ev_Tuple <| EvSp_cons <| Ev_str <| EvSp_nil ⟨[_], rfl, sizeBig (by simp), rfl, rfl⟩) <| ite_B (fun h1 => ?_) (fun h1 => ?_)
    · refine iteT ?_
      refine Exs_cons ?_
      refine Ex_Continue ⟨swap_ok a i ok, rfl, own_eq ?_, rfl, trivial⟩
      rw [no (by simp at h1; rw [h1]; rfl)]
    · have h1' : isOp (atO a (i + 1)) (· == .swap) = true := by simpa using h1
      refine EvAll_consO ?_
      refine EvB_markAt (i := i + 1) rfl (by omega) (by omega) (idx1 rfl) ?_
      refine ite_B (fun h2 => ?_) (fun h2 => ?_)
      · refine iteT ?_
        refine Exs_cons ?_
        refine Ex_Continue ⟨swap_ok a i ok, rfl, own_eq ?_, rfl, trivial⟩
        rw [no (by rw [h2]; simp)]
      · have y := yes (by rw [h1', h2]; rfl)
        refine EvAll_nilO <| iteF <| Exs_nil <| Exs_cons <| Ex_If <| EvB_isOpAt (n := 1) (p := (· == .swap)) [.swap] (fun o => any_one o .swap) R rfl rfl (by omega) (by omega) (idx0 rfl) (Ev_Tuple <| EvSp_cons <| Ev_str <| EvSp_nil ⟨[_], rfl, sizeBig (by simp), rfl, rfl⟩) <| ite_B (fun h3 => ?_) (fun h3 => ?_)
        · refine Exs_cons ?_
          refine Ex_twoNone (c := c) (kids := kids) (a := a) (i := i) (k := 1) (R.le (Nat.zero_le _)) rfl rfl (by omega) (by omega) (by omega) ?_
          refine Exs_nil ?_
          refine Exs_nil ⟨swap_ok a i ok, rfl, own_eq ?_, rfl, trivial⟩
          rw [y, if_pos h3]
        · refine Exs_cons <| Ex_If <| EvB_isOpAt (n := 1) (p := (· == .dup)) [.dup] (fun o => any_one o .dup) R rfl rfl (by omega) (by omega) (idx0 rfl) (Ev_Tuple <| EvSp_cons <| Ev_str <| EvSp_nil ⟨[_], rfl, sizeBig (by simp), rfl, rfl⟩) <| ite_B (fun h4 => ?_) (fun h4 => ?_)
          · refine Exs_cons ?_
            refine Ex_AssignSub ?_
            refine Ev_none ⟨_, rfl, Asg_sub (l := a.map optD) (k := ((i + 1 : Nat) : Int)) (Ev_BinOp <| Ev_name rfl <| Ev_int <| Op2_add ⟨rfl, rfl, by omega, by omega, by simp; omega, Exs_nil <| Exs_nil <| Exs_nil ⟨swap_ok a i ok, rfl, own_eq ?_, rfl, trivial⟩⟩) rfl⟩
            rw [y, if_neg (by rw [h3]; decide), if_pos h4, List.map_set]; rfl
          · refine Exs_nil ?_
            refine Exs_nil ?_
            refine Exs_nil ⟨swap_ok a i ok, rfl, own_eq ?_, rfl, trivial⟩
            rw [y, if_neg (by rw [h3]; decide), if_neg (by rw [h4]; decide)]
  · exact Exs_press (n := 0) wf ok R rfl rfl rfl rfl fun _ => rfl
end Mine
namespace Mine
set_option autoImplicit false
set_option linter.unusedVariables false
set_option maxRecDepth 100000

theorem c_is_taken (B : Base) (r : PRow) (v : V) : Calls B.W 2 (.ref 191) [rowD r, v.d] (· = .bool (takenP r v)) :=
  Calls_fn (fn_is_taken B) rfl fun A L hE Fb hb hx hF R => Exs_cons <| Ex_Return <| Ev_Compare <| Ev_CallFn (n := 1) R rfl rfl rfl rfl <| EvSp_cons <| Ev_name rfl <| EvSp_nil ⟨[_], rfl, (c_truth B v).eq (by decide) <| Ev_opIs .jumpif rfl <| Op2_eqB ⟨_, rfl, rfl⟩⟩

theorem atO_mem {l : List (Option PRow)} {i : Nat} {r : PRow} (h : atO l i = some r) : some r ∈ l := by
  unfold atO at h
  rw [List.getD_eq_getElem?_getD] at h
  cases e : l[i]? with
  | none => rw [e] at h; cases h
  | some x => rw [e] at h; simp only [Option.getD_some] at h; subst h; exact List.mem_of_getElem? e
theorem branch_jump {o : Op} (h : o.isBranch = true) : o.isJump = true := by cases o <;> first | rfl | cases h
theorem branch_end {o : Op} (h : o.isBranch = true) : o.isEnd = false := by cases o <;> first | rfl | cases h
theorem turn_ok {c : PCode} {m : List Bool} (l : List (Option PRow)) (i : Nat) (ok : OptOk c l) : OptOk c (turnStep m l i) := by
  unfold turnStep
  split
  · rename_i r h e1 e2
    split
    · rename_i q
      refine (ok.set i _ fun x ex => ?_).setNone _
      cases ex
      intro _
      exact ok.2 h (atO_mem e2) (by rw [q.2.1]; rfl)
    · exact ok
  · exact ok
theorem known_ok {c : PCode} (wf : WF c) {m : List Bool} (l : List (Option PRow)) (i : Nat) (ok : OptOk c l) : OptOk c (knownStep c.rows m l i) := by
  unfold knownStep
  split
  · rename_i r h e1 e2
    split
    · exact ok
    · split
      · rename_i q
        refine (ok.setNone i).set _ _ fun x ex => ?_
        split at ex
        · cases ex
          intro _
          exact ok.2 h (atO_mem e2) (branch_jump q)
        · cases ex
      · split
        · rename_i q
          refine (ok.setNone i).set _ _ fun x ex => ?_
          cases ex
          intro _
          have hh := (ok.2 h (atO_mem e2)).tgt (by rw [q.1]; rfl)
          split
          · exact ⟨_, (((wf.rows _ (at_mem hh.2)).tgt (branch_jump q.2))).1, ((wf.rows _ (at_mem hh.2)).tgt (branch_jump q.2)).2⟩
          · exact ⟨_, rfl, wf.last _ hh.2 (branch_end q.2)⟩
        · exact ok
  · exact ok

section
variable {B : Base} {C : Fx B.W} {A : Around} {σ : LS}
/-- row, behind = rows[place], rows[place + 1] -/
theorem Ex_rowBehind {a : List (Option PRow)} {i : Nat} {p1 p2 p3 p4 p5 p6 p7 p8 p9 p10 p11 p12 p13 : Pos} {kk k k' : Nat} {Φ : Fl → LS → Prop} (hh : A.handled = none) (er : σ.lookup ("rows" : Str) = some (.own (a.map optD))) (ep : σ.lookup ("place" : Str) = some (.val (natD i))) (hi : i + 1 < a.length) (hb : a.length < 100000)
    (b1 : Bind C "row") (b2 : Bind C "behind") (h : Φ .next (upd (upd σ "behind" (.val (optD (atO a (i + 1))))) "row" (.val (optD (atO a i)))))
    (hw : swappedStores [.Tuple [.Name "row" p1, .Name "behind" p2] k p3] (.Tuple [.Subscript (.Name "rows" p4) (.Name "place" p5) p6, .Subscript (.Name "rows" p7) (.BinOp (.Name "place" p8) .Add (.Constant (.int 1) kk p9) p10) p11] k' p12) C.env = pure (some (["row", "behind"] : List Str)))
    (hs : swapsWithSole [.Tuple [.Name "row" p1, .Name "behind" p2] k p3] (.Tuple [.Subscript (.Name "rows" p4) (.Name "place" p5) p6, .Subscript (.Name "rows" p7) (.BinOp (.Name "place" p8) .Add (.Constant (.int 1) kk p9) p10) p11] k' p12) p13.line C.env = pure false := by rfl) :
    Ex C A (.Assign [.Tuple [.Name "row" p1, .Name "behind" p2] k p3] (.Tuple [.Subscript (.Name "rows" p4) (.Name "place" p5) p6, .Subscript (.Name "rows" p7) (.BinOp (.Name "place" p8) .Add (.Constant (.int 1) kk p9) p10) p11] k' p12) p13) σ Φ :=
  Ex_AssignSw hh hw (Ev_Tuple <| EvSp_cons <| Ev_Sub <| Ev_own er <| Ev_name ep <| Op2_subOwn er (by omega) (by omega) (optAt (by omega)) <| EvSp_cons <| Ev_Sub <| Ev_own er <| Ev_BinOp <| Ev_name ep <| Ev_int <| Op2_add <| Op2_subOwn er (by omega) (by omega) (optAt (i := i + 1) hi) <|
    EvSp_nil ⟨[_, _], rfl, sizeBig (by simp), _, rfl, rfl, b2, b1, h⟩) hs
end

set_option maxHeartbeats 4000000 in
theorem c_turned (B : Base) (c : PCode) (kids : List D) (wf : WF c) : Calls B.W 3 (.ref 205) [codeD c kids] (· = codeD (Pass.turned.run c) kids) := by
  refine Calls_fn (fn_turned B) rfl fun A L hE Fb hb hx hF R => ?_
  have big := wf.big
  have ml := marks_len c
  refine Exs_cons ?_
  refine Ex_rowsMarks (n := 1) wf R rfl (.inl rfl) (.inl rfl) rfl rfl rfl ?_ rfl rfl
  refine Exs_weaken (τ := τR c kids (c.rows.map some)) ⟨rfl, rfl, rfl, trivial⟩ ?_
  refine Exs_cons ?_
  refine Ex_ForFold natD (List.range (c.rows.length - 1)) (turnStep (marksP c)) (OptOk c) (τR c kids) (c.rows.map some) R.handled
    (Ev_CallBi R rfl rfl rfl (by decide) rfl rfl <| EvSp_cons <| Ev_BinOp <| Ev_lenOwn <| Ev_builtin rfl rfl rfl (by decide) rfl ⟨rfl, rfl, by simp; omega, Ev_int <| Op2_sub <| EvSp_nil ⟨[_], rfl, Calls_range ⟨_, rfl, ?_, ?_, goName, optOk0 wf, ⟨rfl, rfl, rfl, trivial⟩⟩⟩⟩)
    (fun i a hi ok => ?_) (fun σ₂ ok hS => Exs_weaken hS ?_)
  · rw [List.length_map, List.length_map]; exact items_rngSub _ 1 (by omega) (by omega)
  · rw [List.length_map, List.length_map]; exact lo_rngSub _ 1 (by omega)
  · have hi' : i + 1 < c.rows.length := by have := List.mem_range.mp hi; omega
    have hal := ok.1
    refine Asg_name (.inl rfl) ?_
    refine Exs_cons ?_
    refine Ex_rowBehind (a := a) (i := i) R.handled rfl rfl (by omega) (by omega) (.inl rfl) (.inl rfl) ?_ rfl
    have out : turnStep (marksP c) a i = a → ∀ {C : Fx B.W} {σ : LS} {rest : List Stmt}, Sub (τR c kids a) σ → Exs C A [] σ (FoldΦ (OptOk c) (τR c kids) (turnStep (marksP c) a i)) := fun e C σ rest hs => Exs_nil ⟨turn_ok a i ok, by rw [e]; exact hs⟩
    refine Exs_cons <| Ex_If <| EvB_BoolOp <| EvAll_consA <| EvB_isOpN (n := 1) (p := Op.isBranch) _ any_branch R rfl rfl (Ev_strs rfl rfl rfl ⟨rfl, rfl⟩) <| ite_B (fun h1 => ?_) (fun h1 => ?_)
    · obtain ⟨r, er, hr⟩ : ∃ r, atO a i = some r ∧ r.op.isBranch = true := by
        cases e : atO a i with
        | none => rw [e] at h1; cases h1
        | some r => rw [e] at h1; exact ⟨r, rfl, h1⟩
      rw [er]
      obtain ⟨ha, hat⟩ := (ok.2 r (atO_mem er)).tgt (branch_jump hr)
      refine EvAll_consA <| EvB_isOpN (n := 1) (p := (· == .jump)) [.jump] (fun o => any_one o .jump) R rfl rfl (Ev_Tuple <| EvSp_cons <| Ev_str <| EvSp_nil ⟨[_], rfl, sizeBig (by simp), rfl, rfl⟩) <| ite_B (fun h2 => ?_) (fun h2 => ?_)
      · obtain ⟨h, eh, hh⟩ : ∃ h, atO a (i + 1) = some h ∧ h.op = .jump := by
          cases e : atO a (i + 1) with
          | none => rw [e] at h2; cases h2
          | some r => rw [e] at h2; exact ⟨r, rfl, by simpa [isOp] using h2⟩
        rw [eh]
        have no : ¬ (r.op.isBranch = true ∧ h.op = .jump ∧ r.t = i + 2 ∧ (marksP c).getD (i + 1) false = false) → turnStep (marksP c) a i = a := fun q => by
          unfold turnStep; rw [er, eh]; exact if_neg q
        refine EvAll_consA ?_
        refine EvB_Compare ?_
        refine Ev_nAttr rfl rfl (d := natD r.t) (congrArg some (aD ha)) ?_
        refine Ev_BinOp ?_
        refine Ev_name rfl ?_
        refine Ev_int ?_
        refine Op2_add ?_
        refine Op2_eq ⟨_, rfl, ite_B (fun h3 => ?_) (fun h3 => ?_)⟩
        · have h3' : r.t = i + 2 := by have := beq_iff_eq.mp h3; omega
          refine EvAll_consA ?_
          refine EvB_Not ?_
          refine EvB_markAt (i := i + 1) rfl (by omega) (by omega) (idx1 rfl) ?_
          refine ite_B (fun h4 => ?_) (fun h4 => ?_)
          · have h4' : (marksP c).getD (i + 1) false = false := by simpa using h4
            have yes : turnStep (marksP c) a i = (a.set i (some ⟨flipOp r.op, h.a, .none⟩)).set (i + 1) none := by
              unfold turnStep; rw [er, eh]; exact if_pos ⟨hr, hh, h3', h4'⟩
            refine EvAll_nilA ?_
            refine iteT ?_
            refine Exs_cons ?_
            refine Ex_Assign (.inl rfl) ?_
            refine Ev_IfExp ?_
            refine EvB_opIs .jumpif rfl ?_
            refine ?_
            have flip : ∀ {C : Fx B.W} {σ : LS} {p1 p2 : Pos} {k1 k2 : Nat} {Φ : Tmp → LS → Prop}, Φ (.val (.str (flipOp r.op).s)) σ → if (r.op == .jumpif) = true then Ev C A (.Constant (.str "jumpunless") k1 p1) σ Φ else Ev C A (.Constant (.str "jumpif") k2 p2) σ Φ := by
              intro C σ p1 p2 k1 k2 Φ h
              refine ite_B (fun e => ?_) (fun e => ?_)
              · have e' : r.op = .jumpif := by simpa using e
                rw [e'] at h; exact Ev_str h
              · have e' : r.op ≠ .jumpif := by simpa using e
                rw [flipOp, if_neg e'] at h; exact Ev_str h
            refine flip ⟨_, rfl, ?_⟩
            refine Exs_cons ?_
            refine Ex_AssignTup ?_
            refine Ev_Tuple ?_
            refine EvSp_cons ?_
            refine Ev_CallFn (n := 2) R rfl rfl rfl rfl ?_
            refine EvSp_cons ?_
            refine Ev_name rfl ?_
            refine EvSp_cons ?_
            refine Ev_nAttr rfl rfl (d := h.a.d) rfl ?_
            refine EvSp_cons ?_
            refine Ev_none ?_
            refine EvSp_cons ?_
            refine Ev_none ?_
            refine EvSp_cons ?_
            refine Ev_nAttr rfl rfl rfl <|
              EvSp_nil ⟨[_, _, _, _, _], rfl, (c_Row B 2 _ _ _ _ _).eq (Nat.le_refl _) <| EvSp_cons <| Ev_none <| EvSp_nil ⟨[_, _], rfl, sizeBig (by simp), _, rfl, Asg_tuple R.handled rfl rfl ?_⟩⟩
            refine Asg_sub (l := a.map optD) (k := (i : Int)) (Ev_name rfl ⟨rfl, rfl, by omega, by omega, by simp; omega, ?_⟩) rfl
            have e1 : (a.map optD).set (i : Int).toNat (.inst 48 [("op", .str (flipOp r.op).s), ("a", h.a.d), ("b", .none), ("c", .none), ("line", .int 7)]) = (a.set i (some ⟨flipOp r.op, h.a, .none⟩)).map optD := by rw [Int.toNat_natCast, List.map_set]; rfl
            refine Asg_sub (l := (a.set i (some ⟨flipOp r.op, h.a, .none⟩)).map optD) (k := ((i + 1 : Nat) : Int)) (Ev_BinOp <| Ev_name rfl <| Ev_int <| Op2_add ⟨rfl, own_eq e1, by omega, by omega, by simp; omega, ?_⟩) (own_eq e1)
            refine Exs_nil ?_
            refine Exs_nil ⟨turn_ok a i ok, rfl, own_eq ?_, rfl, trivial⟩
            rw [yes, Int.toNat_natCast, List.map_set (l := a.set i _)]; rfl
          · refine iteF ?_
            refine Exs_nil ?_
            refine out (no fun q => ?_) (rest := []) ⟨rfl, rfl, rfl, trivial⟩
            rw [q.2.2.2] at h4; cases h4
        · refine iteF ?_
          refine Exs_nil ?_
          refine out (no fun q => ?_) (rest := []) ⟨rfl, rfl, rfl, trivial⟩
          rw [q.2.2.1] at h3
          have : (((i + 2 : Nat) : Int) == (i : Int) + 2) = true := beq_iff_eq.mpr rfl
          rw [this] at h3; cases h3
      · refine iteF ?_
        refine Exs_nil ?_
        refine out ?_ (rest := []) ⟨rfl, rfl, rfl, trivial⟩
        unfold turnStep
        split
        · rename_i r h e1 e2
          refine if_neg fun q => ?_
          rw [e2] at h2
          simp [isOp, q.2.1] at h2
        · rfl
    · refine iteF ?_
      refine Exs_nil ?_
      refine out ?_ (rest := []) ⟨rfl, rfl, rfl, trivial⟩
      unfold turnStep
      split
      · rename_i r h e1 e2
        refine if_neg fun q => ?_
        rw [e1] at h1
        simp [isOp, q.1] at h1
      · rfl
  · exact Exs_press (n := 0) wf ok R rfl rfl rfl rfl fun _ => rfl
end Mine
namespace Mine
set_option autoImplicit false
set_option linter.unusedVariables false
set_option maxRecDepth 100000

theorem Sub.updK {x : Str} {l : Loc} {σ : LS} : ∀ {τ : LS}, Sub τ σ → (τ.map (·.1)).contains x = false → Sub τ (upd σ x l)
  | [], _, _ => trivial
  | (y, m) :: r, h, e => by
    simp only [List.map_cons, List.contains_cons, Bool.or_eq_false_iff] at e
    refine ⟨?_, Sub.updK h.2 e.2⟩
    rw [lookup_upd]
    have : (y == x) = false := by
      cases q : y == x with
      | false => rfl
      | true => have := e.1; rw [beq_iff_eq.mp q] at this; simp at this
    rw [this]; exact h.1
theorem Sub.updNew {x : Str} {l : Loc} {σ τ : LS} (h : Sub τ σ) (e : (τ.map (·.1)).contains x = false) : Sub ((x, l) :: τ) (upd σ x l) := ⟨by rw [lookup_upd]; simp, h.updK e⟩
theorem ite_eq {b b' : Bool} {X Y : Prop} (e : b = b') (h1 : b' = true → X) (h2 : b' = false → Y) : if b = true then X else Y := by
  subst e; exact ite_B h1 h2
/-- row.op in BRANCHES, for an item of code.rows -/
theorem EvB_branches {B : Base} {C : Fx B.W} {A : Around} {σ : LS} {x : Str} {p p1 p2 p3 : Pos} {r : PRow} {Φ : Bool → LS → Prop} (e : σ.lookup x = some (.val (rowD r))) (k : C.env.kindOf "BRANCHES" = some .globalImplicit) (h : Φ r.op.isBranch σ) (hd : (x == ("__debug__" : Str)) = false := by decide) :
    EvB C A (.Compare (.Attribute (.Name x p) "op" p1) [.In] [.Name "BRANCHES" p2] p3) σ Φ :=
  EvB_Compare (Ev_nAttr e rfl rfl (Ev_strs k rfl rfl (Op2_inTup ⟨_, rfl, (isBranch_s r).symm ▸ h⟩)) hd)

set_option maxHeartbeats 4000000 in
theorem c_known (B : Base) (c : PCode) (kids : List D) (wf : WF c) : Calls B.W 3 (.ref 198) [codeD c kids] (· = codeD (Pass.known.run c) kids) := by
  refine Calls_fn (fn_known B) rfl fun A L hE Fb hb hx hF R => ?_
  have big := wf.big
  have ml := marks_len c
  refine Exs_cons ?_
  refine Ex_rowsMarks (n := 1) wf R rfl (.inl rfl) (.inl rfl) rfl rfl rfl ?_ rfl rfl
  refine Exs_weaken (τ := τR c kids (c.rows.map some)) ⟨rfl, rfl, rfl, trivial⟩ ?_
  refine Exs_cons ?_
  refine Ex_ForFold natD (List.range (c.rows.length - 1)) (knownStep c.rows (marksP c)) (OptOk c) (τR c kids) (c.rows.map some) R.handled
    (Ev_CallBi R rfl rfl rfl (by decide) rfl rfl <| EvSp_cons <| Ev_BinOp <| Ev_lenOwn <| Ev_builtin rfl rfl rfl (by decide) rfl ⟨rfl, rfl, by simp; omega, Ev_int <| Op2_sub <| EvSp_nil ⟨[_], rfl, Calls_range ⟨_, rfl, ?_, ?_, goName, optOk0 wf, ⟨rfl, rfl, rfl, trivial⟩⟩⟩⟩)
    (fun i a hi ok => ?_) (fun σ₂ ok hS => Exs_weaken hS ?_)
  · rw [List.length_map, List.length_map]; exact items_rngSub _ 1 (by omega) (by omega)
  · rw [List.length_map, List.length_map]; exact lo_rngSub _ 1 (by omega)
  · have hi' : i + 1 < c.rows.length := by have := List.mem_range.mp hi; omega
    have hal := ok.1
    refine Asg_name (.inl rfl) ?_
    refine Exs_cons ?_
    refine Ex_rowBehind (a := a) (i := i) R.handled rfl rfl (by omega) (by omega) (.inl rfl) (.inl rfl) ?_ rfl
    refine Exs_cons <| Ex_If <| EvB_BoolOp <| EvAll_consO <| EvB_Not <| EvB_isOpN (n := 1) (p := (· == .push)) [.push] (fun o => any_one o .push) R rfl rfl (Ev_Tuple <| EvSp_cons <| Ev_str <| EvSp_nil ⟨[_], rfl, sizeBig (by simp), rfl, rfl⟩) <| ite_B (fun h1 => ?_) (fun h1 => ?_)
    · refine iteT ?_
      refine Exs_cons ?_
      refine Ex_Continue ⟨known_ok wf a i ok, rfl, own_eq ?_, rfl, trivial⟩
      have : knownStep c.rows (marksP c) a i = a := by
        unfold knownStep
        split
        · rename_i r h e1 e2
          rw [e1] at h1
          refine if_pos (.inl ?_)
          simpa [isOp] using h1
        · rfl
      rw [this]
    · obtain ⟨r, er, hr⟩ : ∃ r, atO a i = some r ∧ r.op = .push := by
        cases e : atO a i with
        | none => rw [e] at h1; cases h1
        | some r => rw [e] at h1; exact ⟨r, rfl, by simpa [isOp] using h1⟩
      rw [er]
      refine EvAll_consO ?_
      refine EvB_Compare ?_
      refine Ev_name rfl ?_
      refine Ev_none ?_
      refine Op2_isNone (fun u e => by cases h : atO a (i + 1) <;> rw [h] at e <;> cases e) ⟨_, rfl, ite_B (fun h2 => ?_) (fun h2 => ?_)⟩
      · refine iteT ?_
        refine Exs_cons ?_
        refine Ex_Continue ⟨known_ok wf a i ok, rfl, own_eq ?_, rfl, trivial⟩
        have : knownStep c.rows (marksP c) a i = a := by
          unfold knownStep
          split
          · rename_i r h e1 e2
            rw [e2] at h2; cases h2
          · rfl
        rw [this]
      · obtain ⟨h, eh⟩ : ∃ h, atO a (i + 1) = some h := by
          cases e : atO a (i + 1) with
          | none => rw [e] at h2; cases h2
          | some r => exact ⟨r, rfl⟩
        rw [eh]
        have ks : knownStep c.rows (marksP c) a i = if r.op ≠ .push ∨ (marksP c).getD (i + 1) false = true then a
            else if h.op.isBranch then (a.set i none).set (i + 1) (if takenP h r.a then some ⟨.jump, h.a, .none⟩ else none)
            else if h.op = .jump ∧ (at_ c.rows h.t).op.isBranch = true then (a.set i none).set (i + 1) (some { h with a := if takenP (at_ c.rows h.t) r.a then (at_ c.rows h.t).a else .nat (h.t + 1) })
            else a := by unfold knownStep; rw [er, eh]
        refine EvAll_consO ?_
        refine EvB_markAt (i := i + 1) rfl (by omega) (by omega) (idx1 rfl) ?_
        refine ite_B (fun h3 => ?_) (fun h3 => ?_)
        · refine iteT ?_
          refine Exs_cons ?_
          refine Ex_Continue ⟨known_ok wf a i ok, rfl, own_eq ?_, rfl, trivial⟩
          rw [ks, if_pos (.inr h3)]
        · rw [if_neg (show ¬ (r.op ≠ .push ∨ (marksP c).getD (i + 1) false = true) from fun q => q.elim (fun q => q hr) fun q => by rw [h3] at q; cases q)] at ks
          refine EvAll_nilO ?_
          refine iteF ?_
          refine Exs_nil ?_
          refine Exs_cons ?_
          refine Ex_If ?_
          refine EvB_branches rfl rfl ?_
          refine ite_B (fun h4 => ?_) (fun h4 => ?_)
          · rw [if_pos h4] at ks
            refine Exs_cons ?_
            refine Ex_Assign (.inl rfl) ?_
            refine Ev_CallFn (n := 2) R rfl rfl rfl rfl ?_
            refine EvSp_cons ?_
            refine Ev_name rfl ?_
            refine EvSp_cons ?_
            refine Ev_nAttr rfl rfl (d := r.a.d) rfl ?_
            refine EvSp_nil ⟨[_, _], rfl, (c_is_taken B h r.a).eq (by decide) ⟨_, rfl, ?_⟩⟩
            refine Exs_cons ?_
            refine Ex_AssignSub ?_
            refine Ev_none ⟨_, rfl, Asg_sub (l := a.map optD) (k := (i : Int)) (Ev_name rfl ⟨rfl, rfl, by omega, by omega, by simp; omega, ?_⟩) rfl⟩
            have e1 : (a.map optD).set (i : Int).toNat .none = (a.set i none).map optD := by rw [Int.toNat_natCast, List.map_set]; rfl
            have fin : ∀ {C : Fx B.W} {σ : LS} {d : D} {rest : List Stmt}, d = optD (if takenP h r.a then some ⟨.jump, h.a, .none⟩ else none) → σ.lookup ("code" : Str) = some (.val (codeD c kids)) → σ.lookup ("rows" : Str) = some (.own (((a.set i none).map optD).set ((i + 1 : Nat) : Int).toNat d)) → σ.lookup ("marks" : Str) = some (.val (.list ((marksP c).map D.bool))) →
                FoldΦ (OptOk c) (τR c kids) (knownStep c.rows (marksP c) a i) .next σ := fun {C σ d rest} ed q1 q2 q3 => by
              refine ⟨known_ok wf a i ok, q1, ?_, q3, trivial⟩
              rw [q2, ks, Int.toNat_natCast, List.map_set (l := a.set i none), ed]
            refine Exs_cons ?_
            refine Ex_AssignSub ?_
            refine Ev_IfExp ?_
            refine EvB_val ?_
            refine Ev_name rfl ⟨_, rfl, ?_⟩
            refine ite_B (fun h5 => ?_) (fun h5 => ?_)
            · refine Ev_CallFn (n := 2) R rfl rfl rfl rfl ?_
              refine EvSp_cons ?_
              refine Ev_str ?_
              refine EvSp_cons ?_
              refine Ev_nAttr rfl rfl (d := h.a.d) rfl ?_
              refine EvSp_cons ?_
              refine Ev_none ?_
              refine EvSp_cons ?_
              refine Ev_none ?_
              refine EvSp_cons ?_
              refine Ev_nAttr rfl rfl rfl ?_
              refine EvSp_nil ⟨[_, _, _, _, _], rfl, (c_Row B 2 _ _ _ _ _).eq (Nat.le_refl _) ⟨_, rfl, ?_⟩⟩
              exact Asg_sub (l := (a.set i none).map optD) (k := ((i + 1 : Nat) : Int)) (Ev_BinOp <| Ev_name rfl <| Ev_int <| Op2_add ⟨rfl, own_eq e1, by omega, by omega, by simp; omega, Exs_nil <| Exs_nil <| fin (C := fxFn B.W (qu B 198) (sc B 198) L 198 (cd B 198) (fn_known B).kind none hE Fb hb hx hF) (rest := []) (by rw [h5]; rfl) rfl rfl rfl⟩) (own_eq e1)
            · refine Ev_none ⟨_, rfl, ?_⟩
              exact Asg_sub (l := (a.set i none).map optD) (k := ((i + 1 : Nat) : Int)) (Ev_BinOp <| Ev_name rfl <| Ev_int <| Op2_add ⟨rfl, own_eq e1, by omega, by omega, by simp; omega, Exs_nil <| Exs_nil <| fin (C := fxFn B.W (qu B 198) (sc B 198) L 198 (cd B 198) (fn_known B).kind none hE Fb hb hx hF) (rest := []) (by rw [h5]; rfl) rfl rfl rfl⟩) (own_eq e1)
          · rw [if_neg (by rw [h4]; decide)] at ks
            refine Exs_cons ?_
            refine Ex_If ?_
            refine EvB_BoolOp ?_
            refine EvAll_consA ?_
            refine EvB_opIs .jump rfl ?_
            refine ite_B (fun h5 => ?_) (fun h5 => ?_)
            · have h5' : h.op = .jump := by simpa using h5
              obtain ⟨ha, hat⟩ := (ok.2 h (atO_mem eh)).tgt (by rw [h5']; rfl)
              refine EvAll_consA ?_
              refine EvB_Compare ?_
              refine Ev_Attr ?_
              refine Ev_Sub ?_
              refine Ev_nAttr rfl rfl rfl ?_
              refine Ev_nAttr rfl rfl (d := natD h.t) (congrArg some (aD ha)) ?_
              refine Op2_subList (by omega) (by omega) (rowAt' hat) ?_
              refine Op1_attr rfl rfl ?_
              refine Ev_strs rfl rfl rfl ?_
              refine Op2_inTup ⟨_, rfl, ite_eq (isBranch_s _) (fun h6 => ?_) (fun h6 => ?_)⟩
              · rw [if_pos ⟨h5', h6⟩] at ks
                obtain ⟨ba, bat⟩ := (wf.rows _ (at_mem hat)).tgt (branch_jump h6)
                refine EvAll_nilA ?_
                refine iteT ?_
                refine Exs_cons ?_
                refine Ex_Assign (.inl rfl) ?_
                refine Ev_Sub ?_
                refine Ev_nAttr rfl rfl rfl ?_
                refine Ev_nAttr rfl rfl (d := natD h.t) (congrArg some (aD ha)) ?_
                refine Op2_subList (by omega) (by omega) (rowAt' hat) ⟨_, rfl, ?_⟩
                obtain ⟨v, ev⟩ : ∃ v : V, v = (if takenP (at_ c.rows h.t) r.a then (at_ c.rows h.t).a else .nat (h.t + 1)) := ⟨_, rfl⟩
                rw [← ev] at ks
                refine Exs_cons ?_
                refine Ex_Assign (.inl rfl) ?_
                refine Ev.mono (Φ := fun t σ' => t = .val v.d ∧ Sub [("code", .val (codeD c kids)), ("rows", .own (a.map optD)), ("marks", .val (.list ((marksP c).map D.bool))), ("place", .val (natD i)), ("behind", .val (rowD h))] σ') (Ev_IfExp <| EvB_val <| Ev_CallFn (n := 2) R rfl rfl rfl rfl <| EvSp_cons <| Ev_name rfl <| EvSp_cons <| Ev_nAttr rfl rfl (d := r.a.d) rfl <| EvSp_nil ⟨[_, _], rfl, (c_is_taken B (at_ c.rows h.t) r.a).eq (by decide) ⟨_, rfl, ite_B (fun h7 => ?_) (fun h7 => ?_)⟩⟩) (fun t σ' ⟨e1, e2⟩ => ?_)
                · exact Ev_nAttr rfl rfl (d := (at_ c.rows h.t).a.d) rfl ⟨by rw [ev, if_pos h7], rfl, rfl, rfl, rfl, rfl, trivial⟩
                · refine Ev_BinOp ?_
                  refine Ev_nAttr rfl rfl (d := natD h.t) (congrArg some (aD ha)) ?_
                  refine Ev_int ?_
                  exact Op2_add ⟨by rw [ev, if_neg (by rw [h7]; decide)]; rfl, rfl, rfl, rfl, rfl, rfl, trivial⟩
                subst e1
                refine ⟨_, rfl, Exs_weaken (e2.updNew (l := .val v.d) (x := "target") rfl) ?_⟩
                refine Exs_cons ?_
                refine Ex_AssignSub ?_
                refine Ev_none ⟨_, rfl, Asg_sub (l := a.map optD) (k := (i : Int)) (Ev_name rfl ⟨rfl, rfl, by omega, by omega, by simp; omega, ?_⟩) rfl⟩
                have e1 : (a.map optD).set (i : Int).toNat .none = (a.set i none).map optD := by rw [Int.toNat_natCast, List.map_set]; rfl
                refine Exs_cons ?_
                refine Ex_AssignSub ?_
                refine Ev_nMeth (n := 2) R rfl rfl rfl rfl rfl rfl ?_
                refine EvSp_cons ?_
                refine Ev_name rfl ?_
                refine EvSp_nil ⟨[_], rfl, (c_with_target B h v).eq (by decide) ⟨_, rfl, ?_⟩⟩
                refine Asg_sub (l := (a.set i none).map optD) (k := ((i + 1 : Nat) : Int)) (Ev_BinOp <| Ev_name rfl <| Ev_int <| Op2_add ⟨rfl, own_eq e1, by omega, by omega, by simp; omega, Exs_nil <| Exs_nil <| Exs_nil ⟨known_ok wf a i ok, rfl, own_eq ?_, rfl, trivial⟩⟩) (own_eq e1)
                rw [ks, Int.toNat_natCast, List.map_set (l := a.set i none)]; rfl
              · rw [if_neg (fun q => by rw [q.2] at h6; cases h6)] at ks
                refine iteF ?_
                refine Exs_nil ?_
                refine Exs_nil ?_
                exact Exs_nil ⟨known_ok wf a i ok, rfl, own_eq (by rw [ks]), rfl, trivial⟩
            · rw [if_neg (fun q => by rw [q.1] at h5; cases h5)] at ks
              refine iteF ?_
              refine Exs_nil ?_
              refine Exs_nil ?_
              exact Exs_nil ⟨known_ok wf a i ok, rfl, own_eq (by rw [ks]), rfl, trivial⟩
  · exact Exs_press (n := 0) wf ok R rfl rfl rfl rfl fun _ => rfl
end Mine
namespace Mine
set_option autoImplicit false
set_option linter.unusedVariables false
set_option maxRecDepth 100000

theorem shortAux_len : ∀ (l : List PRow) (i : Nat), (shortAux i l).length = l.length
  | [], _ => rfl
  | r :: l, i => by simp [shortAux, shortAux_len l]
theorem shortAux_mem : ∀ (l : List PRow) (i : Nat) (x : Option PRow), x ∈ shortAux i l → ∃ j r, r ∈ l ∧ x = shortRow j r := by
  intro l
  induction l with
  | nil => intro i x h; exact nomatch h
  | cons r l ih =>
    intro i x h
    rcases List.mem_cons.mp h with h | h
    · exact ⟨i, r, .head _, h⟩
    · obtain ⟨j, r', h1, h2⟩ := ih _ x h
      exact ⟨j, r', .tail _ h1, h2⟩
theorem short_ok {c : PCode} (wf : WF c) : OptOk c (shortO c) := by
  refine ⟨shortAux_len _ _, fun r hr => ?_⟩
  obtain ⟨j, r0, h0, e⟩ := shortAux_mem _ _ _ hr
  unfold shortRow at e
  split at e
  · split at e
    · cases e; intro hj; cases hj
    · cases e
  · cases e; exact wf.rows r h0

set_option maxHeartbeats 2000000 in
theorem c_short (B : Base) (c : PCode) (kids : List D) (wf : WF c) : Calls B.W 3 (.ref 212) [codeD c kids] (· = codeD (Pass.short.run c) kids) := by
  refine Calls_fn (fn_short B) rfl fun A L hE Fb hb hx hF R => ?_
  have big := wf.big
  refine Exs_cons ?_
  refine Ex_AssignF (.inl rfl) (.inl rfl) ?_
  refine Ev_ListF ?_
  refine EvSp_nil ⟨[], rfl, by decide, _, rfl, ?_⟩
  refine Exs_cons ?_
  refine Ex_ForEnumR rowD c.rows (fun i rest σ => ∃ acc : List (Option PRow), acc.length = i ∧ i + rest.length = c.rows.length ∧ (∀ r ∈ rest, r ∈ c.rows) ∧ Sub [("code", .val (codeD c kids)), ("rows", .own (acc.map optD))] σ ∧ acc ++ shortAux i rest = shortO c) R.handled
    (Ev_builtin rfl rfl rfl (by decide) rfl ⟨rfl, EvSp_cons <| Ev_nAttr rfl rfl rfl <| EvSp_nil ⟨rfl, [], rfl, Nat.zero_add _, fun _ h => h, ⟨rfl, rfl, trivial⟩, rfl⟩⟩)
    (fun i r rest σ₂ z3 => ?_) (fun i σ₂ z2 => ?_)
  · obtain ⟨acc, hl, hn, hm, hS, he⟩ := z3
    rw [List.length_cons] at hn
    refine Asg.weaken hS ?_
    refine Asg_tuple R.handled rfl rfl ?_
    refine Asg_name (.inl rfl) ?_
    refine Asg_name (.inl rfl) ?_
    have fin : ∀ {σ : LS} {d : D}, d = optD (shortRow i r) → σ.lookup ("code" : Str) = some (.val (codeD c kids)) → σ.lookup ("rows" : Str) = some (.own (acc.map optD ++ [d])) →
        ∃ acc : List (Option PRow), acc.length = i + 1 ∧ i + 1 + rest.length = c.rows.length ∧ (∀ r ∈ rest, r ∈ c.rows) ∧ Sub [("code", .val (codeD c kids)), ("rows", .own (acc.map optD))] σ ∧ acc ++ shortAux (i + 1) rest = shortO c := fun {σ d} hd h1 h2 =>
      ⟨acc ++ [shortRow i r], by simp [hl], by omega, fun r h => hm r (.tail _ h), ⟨h1, by rw [h2, hd]; simp, trivial⟩, by rw [← he]; simp [shortAux]⟩
    refine Exs_cons ?_
    refine Ex_If ?_
    refine EvB_BoolOp ?_
    refine EvAll_consA ?_
    refine EvB_jumps rfl rfl ?_
    refine ite_B (fun h1 => ?_) (fun h1 => ?_)
    · obtain ⟨ha, hat⟩ := (wf.rows r (hm r (.head _))).tgt h1
      refine EvAll_consA ?_
      refine EvB_Compare ?_
      refine Ev_nAttr rfl rfl (d := natD r.t) (congrArg some (aD ha)) ?_
      refine Ev_BinOp ?_
      refine Ev_name rfl ?_
      refine Ev_int ?_
      refine Op2_add ?_
      refine Op2_eq ⟨_, rfl, ite_B (fun h2 => ?_) (fun h2 => ?_)⟩
      · have h2' : r.t = i + 1 := by have := beq_iff_eq.mp h2; omega
        refine EvAll_nilA ?_
        refine iteT ?_
        refine Exs_cons ?_
        refine Ex_Expr ?_
        refine Ev_append rfl ?_
        refine Ev_IfExp ?_
        refine EvB_branches rfl rfl ?_
        refine ite_B (fun h3 => ?_) (fun h3 => ?_)
        · refine Ev_CallFn (n := 2) R rfl rfl rfl rfl ?_
          refine EvSp_cons ?_
          refine Ev_str ?_
          refine EvSp_cons ?_
          refine Ev_none ?_
          refine EvSp_cons ?_
          refine Ev_none ?_
          refine EvSp_cons ?_
          refine Ev_none ?_
          refine EvSp_cons ?_
          refine Ev_nAttr rfl rfl rfl ?_
          refine EvSp_nil ⟨[_, _, _, _, _], rfl, (c_Row B 2 _ _ _ _ _).eq (Nat.le_refl _) ⟨_, _, rfl, rfl, sizeBig (by simp; omega), Exs_nil <| Exs_nil <| fin (by rw [shortRow, if_pos ⟨h1, h2'⟩, if_pos h3]; rfl) rfl rfl⟩⟩
        · exact Ev_none ⟨_, _, rfl, rfl, sizeBig (by simp; omega), Exs_nil <| Exs_nil <| fin (by rw [shortRow, if_pos ⟨h1, h2'⟩, if_neg (by rw [h3]; decide)]; rfl) rfl rfl⟩
      · have h2' : r.t ≠ i + 1 := fun e => by
          rw [e] at h2
          have : (((i + 1 : Nat) : Int) == (i : Int) + 1) = true := beq_iff_eq.mpr rfl
          rw [this] at h2; cases h2
        refine iteF ?_
        refine Exs_cons ?_
        refine Ex_Expr ?_
        refine Ev_append rfl ?_
        exact Ev_name rfl ⟨_, _, rfl, rfl, sizeBig (by simp; omega), Exs_nil <| Exs_nil <| fin (by rw [shortRow, if_neg fun q => h2' q.2]; rfl) rfl rfl⟩
    · refine iteF ?_
      refine Exs_cons ?_
      refine Ex_Expr ?_
      refine Ev_append rfl ?_
      exact Ev_name rfl ⟨_, _, rfl, rfl, sizeBig (by simp; omega), Exs_nil <| Exs_nil <| fin (by rw [shortRow, if_neg fun q => by rw [q.1] at h1; cases h1]; rfl) rfl rfl⟩
  · obtain ⟨acc, hl, hn, hm, hS, he⟩ := z2
    have e : acc = shortO c := by simpa [shortAux] using he
    subst e
    refine Exs_weaken hS ?_
    exact Exs_press (n := 0) wf (short_ok wf) R rfl rfl rfl rfl fun _ => rfl
end Mine
namespace Mine
set_option autoImplicit false
set_option linter.unusedVariables false
set_option maxRecDepth 100000

section
variable {W : Wd} {C : Fx W} {A : Around} {σ : LS}
theorem Ex.mono {e : Stmt} {Φ Ψ : Fl → LS → Prop} (h : Ex C A e σ Φ) (hm : ∀ t σ', Φ t σ' → Ψ t σ') : Ex C A e σ Ψ := fun s T sf S => wpNo (h s T sf S) fun f _ q => by
  cases f with
  | ret v => obtain ⟨d, σ', a, b⟩ := q; exact ⟨d, σ', hm _ _ a, b⟩
  | next => obtain ⟨σ', a, b⟩ := q; exact ⟨σ', hm _ _ a, b⟩
  | brk => obtain ⟨σ', a, b⟩ := q; exact ⟨σ', hm _ _ a, b⟩
  | cont => obtain ⟨σ', a, b⟩ := q; exact ⟨σ', hm _ _ a, b⟩
noncomputable def OnTo (τ : LS) (fl : Fl) (σ : LS) : Prop := fl = .next ∧ Sub τ σ
theorem Exs_join {τ : LS} {st : Stmt} {rest : List Stmt} {Φ : Fl → LS → Prop} (h1 : Ex C A st σ (OnTo τ)) (h2 : Exs C A rest τ Φ) : Exs C A (st :: rest) σ Φ :=
  Exs_cons (h1.mono fun fl σ' ⟨e, hs⟩ => by subst e; exact Exs_weaken hs h2)
end
noncomputable def unf (f : List Bool) : Nat := f.countP (! ·)
theorem unf_set {f : List Bool} {i : Nat} (h : i < f.length) (hf : f.getD i false = false) : unf (f.set i true) + 1 = unf f := by
  unfold unf
  induction f generalizing i with
  | nil => simp at h
  | cons b f ih =>
    cases i with
    | zero => simp at hf; subst hf; simp
    | succ i =>
      simp only [List.set_cons_succ, List.countP_cons]
      have := ih (i := i) (by simpa using h) (by simpa using hf)
      omega
theorem unf_le (f : List Bool) : unf f ≤ f.length := List.countP_le_length
theorem nexts_len (c : PCode) (i : Nat) : (nextsOf c i).length ≤ 2 + c.cats.length := by
  unfold nextsOf
  have := List.length_filter_le (fun k : PCat => decide (k.first ≤ i ∧ i < k.last)) c.cats
  simp only [List.length_append, List.length_map]
  split <;> split <;> simp only [List.length_cons, List.length_nil] <;> omega
theorem nexts_lt {c : PCode} (wf : WF c) {i : Nat} (hi : i < c.rows.length) : ∀ x ∈ nextsOf c i, x < c.rows.length := by
  intro x hx
  unfold nextsOf at hx
  simp only [List.mem_append, List.mem_map, List.mem_filter] at hx
  rcases hx with (h | h) | ⟨k, ⟨hk, _⟩, rfl⟩
  · split at h
    · rename_i hj
      simp at h; subst h
      exact ((wf.rows _ (at_mem hi)).tgt hj).2
    · cases h
  · split at h
    · cases h
    · rename_i he
      simp at h; subst h
      exact wf.last i hi (by simpa using he)
  · exact (wf.cats k hk).2.2
noncomputable def waitStep (p : Nat) (l : List Nat) (k : PCat) : List Nat := if k.first ≤ p ∧ p < k.last then l ++ [k.target] else l
theorem waitFold (p : Nat) : ∀ (l : List PCat) (acc : List Nat), l.foldl (waitStep p) acc = acc ++ (l.filter fun k => k.first ≤ p ∧ p < k.last).map (·.target)
  | [], acc => by simp
  | k :: l, acc => by
    rw [List.foldl_cons, waitFold p l]
    unfold waitStep
    rw [List.filter_cons]
    by_cases h : k.first ≤ p ∧ p < k.last
    · simp [h]
    · simp [h]
theorem sizeMid {n : Nat} (h : n ≤ 10000000) : n ≤ sizeLine := by rw [sizeLine_eq]; omega

/-- row.op not in ENDS -/
theorem EvB_notEnds {B : Base} {C : Fx B.W} {A : Around} {σ : LS} {x : Str} {p p1 p2 p3 : Pos} {r : PRow} {Φ : Bool → LS → Prop} (e : σ.lookup x = some (.val (rowD r))) (k : C.env.kindOf "ENDS" = some .globalImplicit) (h : Φ (!r.op.isEnd) σ) (hd : (x == ("__debug__" : Str)) = false := by decide) :
    EvB C A (.Compare (.Attribute (.Name x p) "op" p1) [.NotIn] [.Name "ENDS" p2] p3) σ Φ :=
  EvB_Compare (Ev_nAttr e rfl rfl (Ev_strs k rfl rfl (Op2_notInTup ⟨_, rfl, (isEnd_s r).symm ▸ h⟩)) hd)

noncomputable abbrev τW (c : PCode) (kids : List D) (f : List Bool) (w : List Nat) : LS := [("code", .val (codeD c kids)), ("found", .own (f.map D.bool)), ("waiting", .own (w.map natD))]

set_option maxHeartbeats 4000000 in
theorem c_reached (B : Base) (c : PCode) (kids : List D) (wf : WF c) : Calls B.W 2 (.ref 165) [codeD c kids] (· = .list ((reachedP c).map D.bool)) := by
  refine Calls_fn (fn_reached B) rfl fun A L hE Fb hb hx hF R => ?_
  have big := wf.big
  have bigC := wf.bigC
  have bigS := wf.bigS
  refine Exs_cons ?_
  refine Ex_AssignF (.inl rfl) (.inl rfl) ?_
  refine Ev_BinOp ?_
  refine Ev_List ?_
  refine EvSp_cons ?_
  refine Ev_bool ?_
  refine EvSp_nil ⟨[_], rfl, by decide, Ev_CallBi R rfl rfl rfl (by decide) rfl rfl <| EvSp_cons <| Ev_nAttr rfl rfl rfl <| EvSp_nil ⟨[_], rfl, Calls_len (by simp; omega) <| Op2_mulList (by omega) (by simp; omega) ⟨_, rfl, ?_⟩⟩⟩
  have e0 : (((c.rows.map rowD).length : Nat) : Int).toNat = c.rows.length := by rw [List.length_map]; omega
  rw [e0]
  refine Exs_cons ?_
  refine Ex_AssignF (.inl rfl) (.inl rfl) ?_
  refine Ev_CallF R ?_
  refine Ev_builtin rfl rfl rfl (by decide) rfl ⟨_, rfl, rfl, EvSp_cons <| Ev_nAttr rfl rfl rfl <| EvSp_nil ⟨[_], rfl, Calls_list (sizeBig (by simp; omega)) ⟨_, rfl, ?_⟩⟩⟩
  refine Exs_weaken (τ := τW c kids (List.replicate c.rows.length false) c.starts) ⟨rfl, own_eq (by simp), rfl, trivial⟩ ?_
  have fuel : reachFuel c ≤ 2000000 := by
    unfold reachFuel
    have : c.rows.length * (c.cats.length + 3) ≤ 1000 * 1003 := Nat.mul_le_mul big (by omega)
    omega
  refine Exs_cons ?_
  refine Ex_While (fun k σ => ∃ f w, f.length = c.rows.length ∧ (∀ x ∈ w, x < c.rows.length) ∧ unf f * (c.cats.length + 3) + w.length ≤ k ∧ k ≤ reachFuel c ∧ Sub (τW c kids f w.reverse) σ ∧ reachP c k f w = reachedP c) (reachFuel c)
    ⟨List.replicate c.rows.length false, c.starts.reverse, by simp, fun x hx => wf.starts x (by simpa using hx), ?_, Nat.le_refl _, ⟨rfl, rfl, by rw [List.reverse_reverse]; rfl, trivial⟩, rfl⟩ fun k σ₂ ⟨f, w, hf, hw, hm, hk, hS, he⟩ => ?_
  · have : unf (List.replicate c.rows.length false) ≤ c.rows.length := by have := unf_le (List.replicate c.rows.length false); simpa using this
    have h2 := Nat.mul_le_mul_right (c.cats.length + 3) this
    rw [List.length_reverse]
    unfold reachFuel
    omega
  have hwl : w.length ≤ 2000000 := by omega
  intro s T S
  obtain ⟨ρ, S⟩ := S
  have S' : St (fxFn B.W (qu B 165) (sc B 165) L 165 (cd B 165) (fn_reached B).kind none hE Fb hb hx hF) (τW c kids f w.reverse) s T := ⟨ρ, S.weaken hS.look⟩
  refine (?_ : EvB (fxFn B.W (qu B 165) (sc B 165) L 165 (cd B 165) (fn_reached B).kind none hE Fb hb hx hF) A _ (τW c kids f w.reverse) _) s T S'
  refine EvB_Compare ?_
  refine Ev_lenOwn <| Ev_builtin rfl rfl rfl (by decide) rfl ⟨rfl, rfl, by simp; omega, Ev_int <| Op2_gt ⟨_, rfl, ite_B (fun h1 => ?_) (fun h1 => ?_)⟩⟩
  · -- a place is taken
    cases w with
    | nil => simp at h1
    | cons p w =>
      have hp := hw p (.head _)
      have hwl' : w.length + 1 ≤ 2000000 := by simpa using hwl
      cases k with
      | zero => simp at hm
      | succ k =>
      have hm' : unf f * (c.cats.length + 3) + w.length ≤ k := by simp at hm; omega
      refine Exs_weaken (τ := [("code", .val (codeD c kids)), ("found", .own (f.map D.bool)), ("waiting", .own (w.reverse.map natD ++ [natD p]))]) ⟨rfl, rfl, own_eq (by simp), trivial⟩ ?_
      refine Exs_cons ?_
      refine Ex_Assign (.inl rfl) ?_
      refine Ev_pop rfl (sizeMid (by simp; omega)) ⟨_, rfl, ?_⟩
      refine Exs_cons ?_
      refine Ex_If ?_
      refine EvB_val ?_
      refine Ev_Sub ?_
      refine Ev_own rfl ?_
      refine Ev_name rfl ?_
      refine Op2_subOwn (k := (p : Int)) rfl (by omega) (by omega) (markAt (by omega)) ⟨_, rfl, ite_B (fun h2 => ?_) (fun h2 => ?_)⟩
      · refine Exs_cons ?_
        refine Ex_Continue ⟨k, Nat.lt_succ_self _, f, w, hf, fun x hx => hw x (.tail _ hx), hm', by omega, ⟨rfl, rfl, rfl, trivial⟩, ?_⟩
        rw [← he]; simp only [reachP]; rw [if_pos h2]
      · refine Exs_nil ?_
        refine Exs_cons ?_
        refine Ex_AssignSub ?_
        refine Ev_bool ⟨_, rfl, Asg_sub (l := f.map D.bool) (k := (p : Int)) (Ev_name rfl ⟨rfl, rfl, by omega, by omega, by simp; omega, ?_⟩) rfl⟩
        refine Exs_cons ?_
        refine Ex_Assign (.inl rfl) ?_
        refine Ev_Sub ?_
        refine Ev_nAttr rfl rfl rfl ?_
        refine Ev_name rfl ?_
        refine Op2_subList (by omega) (by omega) (rowAt' hp) ⟨_, rfl, ?_⟩
        have eset : (f.map D.bool).set (p : Int).toNat (.bool true) = (f.set p true).map D.bool := by rw [Int.toNat_natCast, List.map_set]
        refine Exs_weaken (τ := [("code", .val (codeD c kids)), ("found", .own ((f.set p true).map D.bool)), ("waiting", .own (w.reverse.map natD)), ("place", .val (natD p)), ("row", .val (rowD (at_ c.rows p)))]) ⟨rfl, own_eq eset, rfl, rfl, rfl, trivial⟩ ?_
        have unf' := unf_set (f := f) (i := p) (by omega) h2
        -- if row.op in JUMPS
        have hrow := wf.rows _ (at_mem hp)
        refine Exs_join (τ := [("code", .val (codeD c kids)), ("found", .own ((f.set p true).map D.bool)), ("waiting", .own ((w.reverse ++ (if (at_ c.rows p).op.isJump then [(at_ c.rows p).t] else [])).map natD)), ("place", .val (natD p)), ("row", .val (rowD (at_ c.rows p)))]) (Ex_If <| EvB_jumps rfl rfl <| ite_B (fun h3 => ?_) (fun h3 => ?_)) ?_
        · obtain ⟨ha, hat⟩ := hrow.tgt h3
          refine Exs_cons ?_
          refine Ex_Expr ?_
          refine Ev_append rfl ?_
          refine Ev_nAttr rfl rfl (d := natD (at_ c.rows p).t) (congrArg some (aD ha)) ⟨_, _, rfl, rfl, sizeMid (by simp; omega), Exs_nil ⟨rfl, rfl, rfl, own_eq ?_, rfl, rfl, trivial⟩⟩
          rw [h3, if_pos rfl, List.map_append]; rfl
        · exact Exs_nil ⟨rfl, rfl, rfl, own_eq (by rw [h3, if_neg (by decide), List.append_nil]), rfl, rfl, trivial⟩
        -- if row.op not in ENDS
        generalize hw1 : w.reverse ++ (if (at_ c.rows p).op.isJump then [(at_ c.rows p).t] else []) = w1
        have lw1 : w1.length ≤ w.length + 1 := by rw [← hw1]; split <;> simp
        refine Exs_join (τ := [("code", .val (codeD c kids)), ("found", .own ((f.set p true).map D.bool)), ("waiting", .own ((w1 ++ (if (at_ c.rows p).op.isEnd then [] else [p + 1])).map natD)), ("place", .val (natD p)), ("row", .val (rowD (at_ c.rows p)))]) (Ex_If <| EvB_notEnds rfl rfl <| ite_B (fun h3 => ?_) (fun h3 => ?_)) ?_
        · have h3' : (at_ c.rows p).op.isEnd = false := by simpa using h3
          refine Exs_cons ?_
          refine Ex_Expr ?_
          refine Ev_append rfl ?_
          refine Ev_BinOp ?_
          refine Ev_name rfl ?_
          refine Ev_int ?_
          refine Op2_add ⟨_, _, rfl, rfl, sizeMid (by simp; omega), Exs_nil ⟨rfl, rfl, rfl, own_eq ?_, rfl, rfl, trivial⟩⟩
          rw [h3', if_neg (by decide), List.map_append]; rfl
        · have h3' : (at_ c.rows p).op.isEnd = true := by simpa using h3
          exact Exs_nil ⟨rfl, rfl, rfl, own_eq (by rw [h3', if_pos rfl, List.append_nil]), rfl, rfl, trivial⟩
        generalize hw2 : w1 ++ (if (at_ c.rows p).op.isEnd then [] else [p + 1]) = w2
        have lw2 : w2.length ≤ w1.length + 1 := by rw [← hw2]; split <;> simp
        -- for one in code.catches
        refine Exs_cons ?_
        refine Ex_ForFoldR catD c.cats (waitStep p) (fun rest l => l.length + rest.length ≤ w2.length + c.cats.length) (fun l => [("code", .val (codeD c kids)), ("found", .own ((f.set p true).map D.bool)), ("waiting", .own (l.map natD)), ("place", .val (natD p))]) w2 R.handled
          (Ev_nAttr rfl rfl rfl ⟨_, rfl, .list _, noRng, goName, Nat.le_refl _, rfl, rfl, rfl, rfl, trivial⟩) (fun q rest l hq hl => ?_) (fun σ₃ hP hS3 => ?_)
        · rw [List.length_cons] at hl
          refine Asg_name (.inl rfl) ?_
          refine Exs_cons ?_
          refine Ex_If ?_
          refine EvB_val ?_
          refine Ev_nMeth (n := 1) R rfl rfl rfl rfl rfl rfl ?_
          refine EvSp_cons ?_
          refine Ev_name rfl ?_
          refine EvSp_nil ⟨[_], rfl, (c_covers B q p).eq (by decide) ⟨_, rfl, ite_b rfl (fun h3 => ?_) (fun h3 => ?_)⟩⟩
          · refine Exs_cons ?_
            refine Ex_Expr ?_
            refine Ev_append rfl ?_
            refine Ev_nAttr rfl rfl rfl ⟨_, _, rfl, rfl, sizeMid (by simp; omega), Exs_nil <| Exs_nil ⟨?_, rfl, rfl, own_eq ?_, rfl, trivial⟩⟩
            · rw [waitStep, if_pos h3]; simp; omega
            · rw [waitStep, if_pos h3, List.map_append]; rfl
          · refine Exs_nil ?_
            exact Exs_nil ⟨by rw [waitStep, if_neg h3]; omega, rfl, rfl, own_eq (by rw [waitStep, if_neg h3]), rfl, trivial⟩
        · have ew : c.cats.foldl (waitStep p) w2 = ((nextsOf c p).reverse ++ w).reverse := by
            rw [waitFold, ← hw2, ← hw1, List.reverse_append, List.reverse_reverse, nextsOf]
            simp only [List.append_assoc]
          rw [ew] at hS3
          have ln := nexts_len c p
          have key : (unf (f.set p true)) * (c.cats.length + 3) + (nextsOf c p).length + w.length ≤ k := by
            have e : unf f * (c.cats.length + 3) = unf (f.set p true) * (c.cats.length + 3) + (c.cats.length + 3) := by rw [← unf', Nat.add_mul, Nat.one_mul]
            rw [e] at hm'
            omega
          refine Exs_nil ⟨k, Nat.lt_succ_self _, f.set p true, (nextsOf c p).reverse ++ w, by simpa using hf, fun x hx => ?_, by simp; omega, by omega, ⟨hS3.1, hS3.2.1, hS3.2.2.1, trivial⟩, ?_⟩
          · rcases List.mem_append.mp hx with h | h
            · exact nexts_lt wf hp x (by simpa using h)
            · exact hw x (.tail _ h)
          · rw [← he]; simp only [reachP]; rw [if_neg (by rw [h2]; decide)]
  · have hw0 : w = [] := by
      cases w with
      | nil => rfl
      | cons p w => simp at h1
    subst hw0
    refine Exs_freeze "found" rfl (.inl rfl) ?_
    refine Exs_cons ?_
    refine Ex_Return ?_
    refine Ev_name rfl ⟨_, rfl, ?_⟩
    show _ = _
    rw [← he]
    cases k <;> rfl

theorem reachP_len (c : PCode) : ∀ (k : Nat) (f : List Bool) (w : List Nat), (reachP c k f w).length = f.length
  | 0, _, _ => rfl
  | _ + 1, _, [] => rfl
  | k + 1, f, i :: w => by
    simp only [reachP]
    split
    · exact reachP_len c k f w
    · rw [reachP_len c k]; simp
theorem reached_len (c : PCode) : (reachedP c).length = c.rows.length := by unfold reachedP; rw [reachP_len]; simp
theorem dead_ok {c : PCode} (wf : WF c) : OptOk c (deadO c) := by
  refine ⟨by simp [deadO, reached_len], fun r hr => ?_⟩
  simp only [deadO, List.mem_map] at hr
  obtain ⟨⟨r0, b⟩, h, e⟩ := hr
  cases b
  · cases e
  · cases e; exact wf.rows _ (List.of_mem_zip h).1
set_option maxHeartbeats 2000000 in
theorem c_dead (B : Base) (c : PCode) (kids : List D) (wf : WF c) : Calls B.W 3 (.ref 170) [codeD c kids] (· = codeD (Pass.dead.run c) kids) := by
  refine Calls_fn (fn_without_dead B) rfl fun A L hE Fb hb hx hF R => ?_
  have big := wf.big
  have hpl : (pairs (c.rows.map rowD) ((reachedP c).map D.bool)).length ≤ sizeLine := sizeBig (by rw [pairs_len]; simp; omega)
  refine Exs_cons ?_
  refine Ex_Return ?_
  refine Ev_CallFn (n := 2) R rfl rfl rfl rfl ?_
  refine EvSp_cons ?_
  refine Ev_name rfl ?_
  refine EvSp_cons ?_
  refine Ev.thaw ?_
  refine Ev_CompZip (τ := []) (fun i acc _ => acc = ((deadO c).map optD).take i) R.handled rfl rfl (compCell rfl) (compNames rfl) clNil <|
    Ev_builtin rfl rfl rfl (by decide) rfl ⟨rfl, EvSp_cons <| Ev_nAttr rfl rfl rfl <| EvSp_cons <| Ev_CallFn (n := 2) R rfl rfl rfl rfl <| EvSp_cons <| Ev_name rfl <| EvSp_nil ⟨[_], rfl, (c_reached B c kids wf).eq (by decide) <| EvSp_nil ⟨_, _, rfl, hpl, trivial, rfl, fun L' hE' Fb' hb' hx' hF' i x acc σ₂ hxi hacc => ?_, fun acc σ' hacc => ⟨_, rfl, ?_⟩⟩⟩⟩
  · obtain ⟨d1, d2, h1, h2, rfl⟩ := pairs_get hxi
    rw [List.getElem?_map] at h1 h2
    obtain ⟨r, hr, rfl⟩ := Option.map_eq_some_iff.mp h1
    obtain ⟨b, hb2, rfl⟩ := Option.map_eq_some_iff.mp h2
    have hd : ((deadO c).map optD)[i]? = some (optD (if b then some r else none)) := by
      have hz : (c.rows.zip (reachedP c))[i]? = some (r, b) := List.getElem?_zip_eq_some.mpr ⟨hr, hb2⟩
      rw [List.getElem?_map, deadO, List.getElem?_map, hz]; rfl
    have hnext : acc ++ [optD (if b then some r else none)] = ((deadO c).map optD).take (i + 1) := by rw [hacc, List.take_add_one, hd]; rfl
    refine Asg_tuple R.handled rfl rfl ?_
    refine Asg_name (.inl rfl) ?_
    refine Asg_name (.inl rfl) ?_
    refine ?_
    refine Ev_IfExp ?_
    refine EvB_val ?_
    refine Ev_name (lookup_upd _ _ _ _) ⟨b, rfl, ite_B (fun h => ?_) (fun h => ?_)⟩
    · subst h
      exact Ev_name (d := rowD r) (by rw [lookup_upd, lookup_upd]; rfl) ⟨_, rfl, hnext⟩
    · subst h
      exact Ev_none ⟨_, rfl, hnext⟩
  · have hlen : (pairs (c.rows.map rowD) ((reachedP c).map D.bool)).length = ((deadO c).map optD).length := by rw [pairs_len]; simp [deadO]
    have ea : acc = (deadO c).map optD := by rw [hacc, hlen, List.take_length]
    subst ea
    exact EvSp_nil ⟨[_, _], rfl, (c_pressed B c kids wf (deadO c) (dead_ok wf).1 (dead_ok wf).2).eq (by decide) ⟨_, rfl, rfl⟩⟩
end Mine
namespace Mine
set_option autoImplicit false
set_option linter.unusedVariables false

/- how many rows stay before a place -/
noncomputable def cnt (l : List (Option PRow)) (i : Nat) : Nat := (l.take i).countP Option.isSome
theorem cnt_zero (l : List (Option PRow)) : cnt l 0 = 0 := by simp [cnt]
theorem cnt_cons (x : Option PRow) (l : List (Option PRow)) (i : Nat) : cnt (x :: l) (i + 1) = (if x.isSome then 1 else 0) + cnt l i := by
  simp only [cnt, List.take_succ_cons, List.countP_cons]; omega
theorem places_get : ∀ (l : List (Option PRow)) (n i : Nat), i ≤ l.length → (placesAux n l).getD i 0 = n + cnt l i
  | [], n, i, h => by
    have : i = 0 := by simpa using h
    subst this; simp [placesAux, cnt]
  | none :: l, n, 0, h => by simp [placesAux, cnt]
  | none :: l, n, i + 1, h => by
    rw [cnt_cons]
    simp only [placesAux, List.getD_cons_succ]
    rw [places_get l n i (by simpa using h)]; simp
  | some r :: l, n, 0, h => by simp [placesAux, cnt]
  | some r :: l, n, i + 1, h => by
    rw [cnt_cons]
    simp only [placesAux, List.getD_cons_succ]
    rw [places_get l (n + 1) i (by simpa using h)]; simp; omega
theorem placesP_get {l : List (Option PRow)} {i : Nat} (h : i ≤ l.length) : (placesP l).getD i 0 = cnt l i := by
  unfold placesP; rw [places_get l 0 i h, Nat.zero_add]
theorem cnt_all : ∀ (l : List (Option PRow)), cnt l l.length = (l.filterMap id).length
  | [] => rfl
  | none :: l => by rw [List.length_cons, cnt_cons, cnt_all l]; simp
  | some r :: l => by rw [List.length_cons, cnt_cons, cnt_all l]; simp; omega
theorem cnt_mono (l : List (Option PRow)) {i j : Nat} (h : i ≤ j) : cnt l i ≤ cnt l j := by
  unfold cnt
  exact List.Sublist.countP_le (List.take_sublist_take_left h)
theorem cnt_step {l : List (Option PRow)} {i : Nat} {r : PRow} (h : l[i]? = some (some r)) : cnt l (i + 1) = cnt l i + 1 := by
  unfold cnt
  rw [List.take_add_one, h, List.countP_append]; rfl
theorem cnt_stepN {l : List (Option PRow)} {i : Nat} (h : l[i]? = some none) : cnt l (i + 1) = cnt l i := by
  unfold cnt
  rw [List.take_add_one, h, List.countP_append]; rfl
theorem cnt_lt {l : List (Option PRow)} {i j : Nat} {r : PRow} (h : l[j]? = some (some r)) (hi : i ≤ j) : cnt l i < (l.filterMap id).length := by
  have h1 := cnt_mono l hi
  have h2 := cnt_step h
  have hj : j < l.length := (List.getElem?_eq_some_iff.mp h).1
  have h3 := cnt_mono l (show j + 1 ≤ l.length by omega)
  rw [cnt_all] at h3
  omega
theorem cnt_le {l : List (Option PRow)} {i : Nat} (h : i ≤ l.length) : cnt l i ≤ (l.filterMap id).length := by rw [← cnt_all]; exact cnt_mono l h
/-- where a row that stays came from -/
theorem kept_from : ∀ (l : List (Option PRow)) (q : Nat) (r : PRow), (l.filterMap id)[q]? = some r → ∃ i, l[i]? = some (some r) ∧ cnt l i = q
  | [], q, r, h => by simp at h
  | none :: l, q, r, h => by
    obtain ⟨i, h1, h2⟩ := kept_from l q r (by simpa using h)
    exact ⟨i + 1, by simpa using h1, by rw [cnt_cons, h2]; simp⟩
  | some x :: l, 0, r, h => by
    simp at h; subst h
    exact ⟨0, rfl, cnt_zero _⟩
  | some x :: l, q + 1, r, h => by
    obtain ⟨i, h1, h2⟩ := kept_from l q r (by simpa using h)
    exact ⟨i + 1, by simpa using h1, by rw [cnt_cons, h2]; simp; omega⟩
theorem exists_some {l : List (Option PRow)} : ∀ {i j : Nat}, cnt l i < cnt l j → ∃ k r, i ≤ k ∧ k < j ∧ l[k]? = some (some r) := by
  intro i j
  induction j with
  | zero => intro h; rw [cnt_zero] at h; omega
  | succ j ih =>
    intro h
    by_cases hij : i ≤ j
    · cases e : l[j]? with
      | none =>
        have hl : l.length ≤ j := by simpa using e
        have : cnt l (j + 1) = cnt l j := by unfold cnt; rw [List.take_of_length_le hl, List.take_of_length_le (by omega)]
        rw [this] at h
        obtain ⟨k, r, h1, h2, h3⟩ := ih h
        exact ⟨k, r, h1, by omega, h3⟩
      | some x =>
        cases x with
        | none =>
          rw [cnt_stepN e] at h
          obtain ⟨k, r, h1, h2, h3⟩ := ih h
          exact ⟨k, r, h1, by omega, h3⟩
        | some r => exact ⟨j, r, hij, Nat.lt_succ_self _, e⟩
    · have := cnt_mono l (show j + 1 ≤ i by omega)
      omega

structure Sound (c : PCode) (l : List (Option PRow)) : Prop where
  ok : OptOk c l
  jumps : ∀ (i : Nat) (r : PRow), l[i]? = some (some r) → r.op.isJump = true → ∃ (j : Nat) (r' : PRow), r.t ≤ j ∧ l[j]? = some (some r')
  ends : ∀ (i : Nat) (r : PRow), l[i]? = some (some r) → r.op.isEnd = false → ∃ (j : Nat) (r' : PRow), i < j ∧ l[j]? = some (some r')
  cats : ∀ k ∈ c.cats, (∃ (i : Nat) (r : PRow), k.first ≤ i ∧ i < k.last ∧ l[i]? = some (some r)) → ∃ (j : Nat) (r' : PRow), k.target ≤ j ∧ l[j]? = some (some r')
  starts : ∀ s ∈ c.starts, ∃ (j : Nat) (r' : PRow), s ≤ j ∧ l[j]? = some (some r')

theorem retarget_op (pl : List Nat) (r : PRow) : (retarget pl r).op = r.op := by unfold retarget; split <;> rfl
theorem pressed_wf {c : PCode} {l : List (Option PRow)} (wf : WF c) (s : Sound c l) : WF (pressedP c l) := by
  have hl := s.ok.1
  have hlen : (pressedP c l).rows.length = (l.filterMap id).length := by simp [pressedP]
  refine ⟨?_, ?_, ?_, ?_, ?_, ?_, ?_⟩
  · rw [hlen]; have := filterMap_le l; have := wf.big; omega
  · have h1 := List.length_filter_le (fun k : PCat => decide (k.first < k.last)) (c.cats.map (recatch (placesP l)))
    have := wf.bigC
    simp only [List.length_map] at h1
    show ((c.cats.map (recatch (placesP l))).filter _).length ≤ 1000
    omega
  · have := wf.bigS; simpa [pressedP] using this
  · intro r hr hj
    simp only [pressedP, List.mem_map] at hr
    obtain ⟨r0, h0, rfl⟩ := hr
    obtain ⟨i, hi⟩ := List.mem_iff_getElem?.mp h0
    obtain ⟨k, hk, -⟩ := kept_from l i r0 hi
    rw [retarget_op] at hj
    obtain ⟨j, r', h1, h2⟩ := s.jumps k r0 hk hj
    have hlt : r0.t ≤ l.length := by have := (List.getElem?_eq_some_iff.mp h2).1; omega
    refine ⟨(placesP l).getD r0.t 0, by simp [retarget, hj], ?_⟩
    rw [hlen, placesP_get hlt]
    exact cnt_lt h2 h1
  · intro q hq he
    rw [hlen] at hq ⊢
    have hq' : (l.filterMap id)[q]? = some (l.filterMap id)[q] := List.getElem?_eq_getElem hq
    obtain ⟨i, hi, hc⟩ := kept_from l q _ hq'
    have hat : at_ (pressedP c l).rows q = retarget (placesP l) (l.filterMap id)[q] := by
      unfold at_ pressedP
      rw [List.getD_eq_getElem?_getD, List.getElem?_map, hq']; rfl
    rw [hat, retarget_op] at he
    obtain ⟨j, r', h1, h2⟩ := s.ends i _ hi he
    have := cnt_lt h2 (show i + 1 ≤ j by omega)
    rw [cnt_step hi] at this
    omega
  · intro k hk
    simp only [pressedP, List.mem_filter, List.mem_map, decide_eq_true_eq] at hk
    obtain ⟨⟨k0, h0, rfl⟩, hlt⟩ := hk
    obtain ⟨a1, a2, a3⟩ := wf.cats k0 h0
    simp only [recatch] at hlt ⊢
    rw [hlen]
    rw [placesP_get (by omega), placesP_get (by omega)] at hlt
    rw [placesP_get (by omega), placesP_get (by omega), placesP_get (by omega)]
    obtain ⟨i, r, i1, i2, i3⟩ := exists_some hlt
    obtain ⟨j, r', j1, j2⟩ := s.cats k0 h0 ⟨i, r, i1, i2, i3⟩
    exact ⟨cnt_le (by omega), cnt_le (by omega), cnt_lt j2 j1⟩
  · intro x hx
    simp only [pressedP, List.mem_map] at hx
    obtain ⟨x0, h0, rfl⟩ := hx
    obtain ⟨j, r', h1, h2⟩ := s.starts x0 h0
    have hlt : x0 ≤ l.length := by have := (List.getElem?_eq_some_iff.mp h2).1; omega
    rw [hlen, placesP_get hlt]
    exact cnt_lt h2 h1

/-- the last row stays, and it is an end -/
noncomputable def LastOk (c : PCode) (l : List (Option PRow)) : Prop := 0 < c.rows.length → ∃ r, l[c.rows.length - 1]? = some (some r) ∧ r.op.isEnd = true
theorem sound_of_last {c : PCode} {l : List (Option PRow)} (wf : WF c) (ok : OptOk c l) (h : LastOk c l) : Sound c l := by
  have pos : ∀ {n : Nat}, n < c.rows.length → 0 < c.rows.length := fun h => by omega
  refine ⟨ok, fun i r hi hj => ?_, fun i r hi he => ?_, fun k hk _ => ?_, fun s hs => ?_⟩
  · obtain ⟨-, ht⟩ := (ok.2 r (List.mem_of_getElem? hi)).tgt hj
    obtain ⟨r', h1, _⟩ := h (pos ht)
    exact ⟨_, r', by omega, h1⟩
  · have hlt : i < c.rows.length := by have := (List.getElem?_eq_some_iff.mp hi).1; rw [ok.1] at this; exact this
    obtain ⟨r', h1, h2⟩ := h (pos hlt)
    by_cases e : i = c.rows.length - 1
    · rw [← e, hi] at h1; cases h1; rw [he] at h2; cases h2
    · exact ⟨_, r', by omega, h1⟩
  · have ht := (wf.cats k hk).2.2
    obtain ⟨r', h1, _⟩ := h (pos ht)
    exact ⟨_, r', by omega, h1⟩
  · have ht := wf.starts s hs
    obtain ⟨r', h1, _⟩ := h (pos ht)
    exact ⟨_, r', by omega, h1⟩
end Mine
namespace Mine
set_option autoImplicit false
set_option linter.unusedVariables false

theorem isOp_some {r : Option PRow} {p : Op → Bool} (h : isOp r p = true) : ∃ x, r = some x ∧ p x.op = true := by
  cases r with
  | none => cases h
  | some x => exact ⟨x, rfl, h⟩
theorem atO_get {l : List (Option PRow)} {i : Nat} {r : PRow} (h : atO l i = some r) : l[i]? = some (some r) := by
  unfold atO at h
  rw [List.getD_eq_getElem?_getD] at h
  cases e : l[i]? with
  | none => rw [e] at h; cases h
  | some x => rw [e] at h; simp only [Option.getD_some] at h; rw [h]
theorem LastOk.ne {c : PCode} {l : List (Option PRow)} (ok : OptOk c l) (h : LastOk c l) {j : Nat} {r : PRow} (hr : atO l j = some r) (he : r.op.isEnd = false) : j ≠ c.rows.length - 1 := by
  intro e
  have g := atO_get hr
  have hj : j < c.rows.length := by have := (List.getElem?_eq_some_iff.mp g).1; rw [ok.1] at this; exact this
  obtain ⟨r', h1, h2⟩ := h (by omega)
  rw [← e, g] at h1; cases h1; rw [he] at h2; cases h2
theorem LastOk.set {c : PCode} {l : List (Option PRow)} (h : LastOk c l) {j : Nat} {x : Option PRow} (hj : j ≠ c.rows.length - 1) : LastOk c (l.set j x) := fun hp => by
  obtain ⟨r, h1, h2⟩ := h hp
  exact ⟨r, by rw [List.getElem?_set_ne hj]; exact h1, h2⟩
theorem LastOk.setEnd {c : PCode} {l : List (Option PRow)} (ok : l.length = c.rows.length) (h : LastOk c l) {j : Nat} {x : PRow} (hx : x.op.isEnd = true) : LastOk c (l.set j (some x)) := by
  by_cases hj : j = c.rows.length - 1
  · intro hp
    subst hj
    exact ⟨x, by rw [List.getElem?_set_self (by omega)], hx⟩
  · exact h.set hj
theorem last0 {c : PCode} (wf : WF c) : LastOk c (c.rows.map some) := fun hp => by
  have hlt : c.rows.length - 1 < c.rows.length := by omega
  refine ⟨at_ c.rows (c.rows.length - 1), ?_, ?_⟩
  · rw [List.getElem?_map, getD_of hlt row0]; rfl
  · cases e : (at_ c.rows (c.rows.length - 1)).op.isEnd with
    | true => rfl
    | false => have := wf.last _ hlt e; omega
theorem plain_end {o : Op} (h : o.isPlain = true) : o.isEnd = false := by cases o <;> first | rfl | cases h
theorem push_last {c : PCode} {m : List Bool} (l : List (Option PRow)) (i : Nat) (ok : OptOk c l) (h : LastOk c l) : LastOk c (pushStep m l i) := by
  unfold pushStep
  split
  · rename_i q
    simp only [Bool.and_eq_true] at q
    obtain ⟨x, e1, p1⟩ := isOp_some q.1.1
    obtain ⟨y, e2, p2⟩ := isOp_some q.1.2
    have p2' : y.op = .pop := by simpa using p2
    exact (h.set (h.ne ok e1 (plain_end p1))).set (h.ne ok e2 (by rw [p2']; rfl))
  · exact h
theorem copy_last {c : PCode} {m : List Bool} (l : List (Option PRow)) (i : Nat) (ok : OptOk c l) (h : LastOk c l) : LastOk c (copyStep m l i) := by
  unfold copyStep
  split
  · rename_i q
    simp only [Bool.and_eq_true] at q
    obtain ⟨x, e1, p1⟩ := isOp_some q.1.1.1
    obtain ⟨y, e2, p2⟩ := isOp_some q.1.2
    have p1' : x.op = .dup := by simpa using p1
    have p2' : y.op = .pop := by simpa using p2
    exact (h.set (h.ne ok e1 (by rw [p1']; rfl))).set (h.ne ok e2 (by rw [p2']; rfl))
  · exact h
theorem swap_last {c : PCode} {m : List Bool} (l : List (Option PRow)) (i : Nat) (ok : OptOk c l) (h : LastOk c l) : LastOk c (swapStep m l i) := by
  unfold swapStep
  split
  · rename_i q
    simp only [Bool.and_eq_true] at q
    obtain ⟨y, e2, p2⟩ := isOp_some q.1
    have p2' : y.op = .swap := by simpa using p2
    split
    · rename_i q1
      obtain ⟨x, e1, p1⟩ := isOp_some q1
      have p1' : x.op = .swap := by simpa using p1
      exact (h.set (h.ne ok e1 (by rw [p1']; rfl))).set (h.ne ok e2 (by rw [p2']; rfl))
    · split
      · exact h.set (h.ne ok e2 (by rw [p2']; rfl))
      · exact h
  · exact h
theorem turn_last {c : PCode} {m : List Bool} (l : List (Option PRow)) (i : Nat) (ok : OptOk c l) (h : LastOk c l) : LastOk c (turnStep m l i) := by
  unfold turnStep
  split
  · rename_i r b e1 e2
    split
    · rename_i q
      have ra := (ok.2 r (atO_mem e1)).tgt (branch_jump q.1)
      exact (h.set (h.ne ok e1 (branch_end q.1))).set (by omega)
    · exact h
  · exact h
theorem known_last {c : PCode} {m : List Bool} (l : List (Option PRow)) (i : Nat) (ok : OptOk c l) (h : LastOk c l) : LastOk c (knownStep c.rows m l i) := by
  unfold knownStep
  split
  · rename_i r b e1 e2
    split
    · exact h
    · rename_i q
      have hr : r.op = .push := Classical.not_not.mp fun z => q (.inl z)
      have h1 := h.set (x := none) (h.ne ok e1 (by rw [hr]; rfl))
      split
      · rename_i q2
        exact h1.set (h.ne ok e2 (branch_end q2))
      · split
        · rename_i q3
          exact h1.setEnd (by rw [List.length_set]; exact ok.1) (by show b.op.isEnd = true; rw [q3.1]; rfl)
        · exact h
  · exact h
theorem fold_last {c : PCode} (step : List (Option PRow) → Nat → List (Option PRow)) (N : Nat) (hs : ∀ l i, OptOk c l → LastOk c l → OptOk c (step l i) ∧ LastOk c (step l i)) {l : List (Option PRow)} (ok : OptOk c l) (h : LastOk c l) :
    OptOk c ((List.range N).foldl step l) ∧ LastOk c ((List.range N).foldl step l) := by
  generalize List.range N = xs
  induction xs generalizing l with
  | nil => exact ⟨ok, h⟩
  | cons x xs ih => exact ih (hs l x ok h).1 (hs l x ok h).2

theorem short_get : ∀ (l : List PRow) (i j : Nat), (shortAux i l)[j]? = (l[j]?).map (shortRow (i + j))
  | [], i, j => by simp [shortAux]
  | r :: l, i, 0 => by simp [shortAux]
  | r :: l, i, j + 1 => by
    simp only [shortAux, List.getElem?_cons_succ]
    rw [short_get l (i + 1) j]; congr 2; omega
theorem getElem_at {l : List PRow} {i : Nat} (h : i < l.length) : l[i]? = some (at_ l i) := getD_of h row0
theorem end_at {c : PCode} (wf : WF c) (hp : 0 < c.rows.length) : (at_ c.rows (c.rows.length - 1)).op.isEnd = true := by
  cases e : (at_ c.rows (c.rows.length - 1)).op.isEnd with
  | true => rfl
  | false => have := wf.last _ (show c.rows.length - 1 < c.rows.length by omega) e; omega

/- what is reached is closed -/
noncomputable def Closed (c : PCode) (f : List Bool) (w : List Nat) : Prop := ∀ i, f.getD i false = true → ∀ x ∈ nextsOf c i, f.getD x false = true ∨ x ∈ w
theorem getD_set_self {f : List Bool} {i : Nat} (h : i < f.length) : (f.set i true).getD i false = true := by
  rw [List.getD_eq_getElem?_getD, List.getElem?_set_self h]; rfl
theorem getD_set_true {f : List Bool} {i j : Nat} (h : f.getD j false = true) : (f.set i true).getD j false = true := by
  by_cases e : i = j
  · subst e
    have hj : i < f.length := by
      cases Nat.lt_or_ge i f.length with
      | inl h => exact h
      | inr h' => rw [List.getD_eq_getElem?_getD, List.getElem?_eq_none h'] at h; cases h
    exact getD_set_self hj
  · rw [List.getD_eq_getElem?_getD, List.getElem?_set_ne e, ← List.getD_eq_getElem?_getD]; exact h
theorem getD_set_inv {f : List Bool} {i j : Nat} (h : (f.set i true).getD j false = true) : j = i ∨ f.getD j false = true := by
  by_cases e : i = j
  · exact .inl e.symm
  · rw [List.getD_eq_getElem?_getD, List.getElem?_set_ne e, ← List.getD_eq_getElem?_getD] at h; exact .inr h
theorem reach_closed {c : PCode} (wf : WF c) : ∀ (k : Nat) (f : List Bool) (w : List Nat), f.length = c.rows.length → (∀ x ∈ w, x < c.rows.length) → unf f * (c.cats.length + 3) + w.length ≤ k → Closed c f w →
    Closed c (reachP c k f w) [] ∧ (∀ x, f.getD x false = true ∨ x ∈ w → (reachP c k f w).getD x false = true)
  | 0, f, w, hf, hw, hm, hc => by
    have : w = [] := by
      cases w with
      | nil => rfl
      | cons a w => simp at hm
    subst this
    exact ⟨hc, fun x h => h.resolve_right fun z => nomatch z⟩
  | k + 1, f, [], hf, hw, hm, hc => ⟨hc, fun x h => h.resolve_right fun z => nomatch z⟩
  | k + 1, f, i :: w, hf, hw, hm, hc => by
    have hi := hw i (.head _)
    rw [List.length_cons] at hm
    simp only [reachP]
    split
    · rename_i h
      obtain ⟨h1, h2⟩ := reach_closed wf k f w hf (fun x hx => hw x (.tail _ hx)) (by omega) (fun j hj x hx => by
        rcases hc j hj x hx with z | z
        · exact .inl z
        · rcases List.mem_cons.mp z with rfl | z
          · exact .inl h
          · exact .inr z)
      refine ⟨h1, fun x hx => h2 x ?_⟩
      rcases hx with z | z
      · exact .inl z
      · rcases List.mem_cons.mp z with rfl | z
        · exact .inl h
        · exact .inr z
    · rename_i h
      have h' : f.getD i false = false := by simpa using h
      have u := unf_set (f := f) (i := i) (by omega) h'
      have ln := nexts_len c i
      have e : unf f * (c.cats.length + 3) = unf (f.set i true) * (c.cats.length + 3) + (c.cats.length + 3) := by rw [← u, Nat.add_mul, Nat.one_mul]
      obtain ⟨h1, h2⟩ := reach_closed wf k (f.set i true) ((nextsOf c i).reverse ++ w) (by simpa using hf) (fun x hx => by
          rcases List.mem_append.mp hx with z | z
          · exact nexts_lt wf hi x (by simpa using z)
          · exact hw x (.tail _ z)) (by rw [e] at hm; simp; omega) (fun j hj x hx => by
          rcases getD_set_inv hj with rfl | hj
          · exact .inr (List.mem_append_left _ (by simpa using hx))
          · rcases hc j hj x hx with z | z
            · exact .inl (getD_set_true z)
            · rcases List.mem_cons.mp z with rfl | z
              · exact .inl (getD_set_self (by omega))
              · exact .inr (List.mem_append_right _ z))
      refine ⟨h1, fun x hx => h2 x ?_⟩
      rcases hx with z | z
      · exact .inl (getD_set_true z)
      · rcases List.mem_cons.mp z with rfl | z
        · exact .inl (getD_set_self (by omega))
        · exact .inr (List.mem_append_right _ z)
theorem reached_closed {c : PCode} (wf : WF c) : Closed c (reachedP c) [] ∧ ∀ s ∈ c.starts, (reachedP c).getD s false = true := by
  have hu : unf (List.replicate c.rows.length false) ≤ c.rows.length := by have := unf_le (List.replicate c.rows.length false); simpa using this
  have hm := Nat.mul_le_mul_right (c.cats.length + 3) hu
  obtain ⟨h1, h2⟩ := reach_closed wf (reachFuel c) (List.replicate c.rows.length false) c.starts.reverse (by simp) (fun x hx => wf.starts x (by simpa using hx)) (by unfold reachFuel; rw [List.length_reverse]; omega) (fun i hi => by
    exfalso
    rw [List.getD_eq_getElem?_getD, List.getElem?_replicate] at hi
    split at hi <;> cases hi)
  exact ⟨h1, fun s hs => h2 s (.inr (by simpa using hs))⟩
theorem dead_get {c : PCode} {i : Nat} {r : PRow} (h : (deadO c)[i]? = some (some r)) : (reachedP c).getD i false = true ∧ c.rows[i]? = some r := by
  unfold deadO at h
  rw [List.getElem?_map] at h
  obtain ⟨⟨r0, b⟩, h1, h2⟩ := Option.map_eq_some_iff.mp h
  obtain ⟨a1, a2⟩ := List.getElem?_zip_eq_some.mp h1
  cases b
  · cases h2
  · cases h2; exact ⟨by rw [List.getD_eq_getElem?_getD, a2]; rfl, a1⟩
theorem dead_of {c : PCode} {i : Nat} (h : (reachedP c).getD i false = true) : ∃ r, (deadO c)[i]? = some (some r) := by
  have hi : i < (reachedP c).length := by
    cases Nat.lt_or_ge i (reachedP c).length with
    | inl h => exact h
    | inr h' => rw [List.getD_eq_getElem?_getD, List.getElem?_eq_none h'] at h; cases h
  have hi' : i < c.rows.length := by rw [reached_len] at hi; exact hi
  refine ⟨at_ c.rows i, ?_⟩
  have a2 : (reachedP c)[i]? = some true := by rw [getD_of hi false, h]
  have hz : (c.rows.zip (reachedP c))[i]? = some (at_ c.rows i, true) := List.getElem?_zip_eq_some.mpr ⟨getElem_at hi', a2⟩
  unfold deadO; rw [List.getElem?_map, hz]; rfl
theorem dead_sound {c : PCode} (wf : WF c) : Sound c (deadO c) := by
  obtain ⟨hc, hs⟩ := reached_closed wf
  have row : ∀ {i r}, c.rows[i]? = some r → at_ c.rows i = r := fun e => by unfold at_; rw [List.getD_eq_getElem?_getD, e]; rfl
  refine ⟨dead_ok wf, fun i r hi hj => ?_, fun i r hi he => ?_, fun k hk ⟨i, r, i1, i2, hi⟩ => ?_, fun s h => ?_⟩
  · obtain ⟨h1, h2⟩ := dead_get hi
    have := (hc i h1 r.t (by unfold nextsOf; rw [row h2, hj]; simp)).resolve_right fun z => nomatch z
    obtain ⟨r', h'⟩ := dead_of this
    exact ⟨_, r', Nat.le_refl _, h'⟩
  · obtain ⟨h1, h2⟩ := dead_get hi
    have := (hc i h1 (i + 1) (by unfold nextsOf; rw [row h2, he]; simp)).resolve_right fun z => nomatch z
    obtain ⟨r', h'⟩ := dead_of this
    exact ⟨_, r', Nat.lt_succ_self _, h'⟩
  · obtain ⟨h1, h2⟩ := dead_get hi
    have := (hc i h1 k.target (by unfold nextsOf; exact List.mem_append_right _ (List.mem_map.mpr ⟨k, by simp [hk, i1, i2], rfl⟩))).resolve_right fun z => nomatch z
    obtain ⟨r', h'⟩ := dead_of this
    exact ⟨_, r', Nat.le_refl _, h'⟩
  · obtain ⟨r', h'⟩ := dead_of (hs s h)
    exact ⟨_, r', Nat.le_refl _, h'⟩
theorem pass_sound {c : PCode} (wf : WF c) (p : Pass) : Sound c (p.opt c) := by
  cases p with
  | dead => exact dead_sound wf
  | threaded =>
    refine sound_of_last wf (threaded_ok wf) fun hp => ?_
    have hlt : c.rows.length - 1 < c.rows.length := by omega
    refine ⟨threadRow c.rows (at_ c.rows (c.rows.length - 1)), by show (threadedO c)[_]? = _; rw [threadedO, List.getElem?_map, getElem_at hlt]; rfl, ?_⟩
    have := end_at wf hp
    unfold threadRow
    split
    · split
      · rfl
      · exact this
    · exact this
  | known => exact sound_of_last wf (fold_last _ _ (fun l i a b => ⟨known_ok wf l i a, known_last l i a b⟩) (optOk0 wf) (last0 wf)).1 (fold_last _ _ (fun l i a b => ⟨known_ok wf l i a, known_last l i a b⟩) (optOk0 wf) (last0 wf)).2
  | turned => exact sound_of_last wf (fold_last _ _ (fun l i a b => ⟨turn_ok l i a, turn_last l i a b⟩) (optOk0 wf) (last0 wf)).1 (fold_last _ _ (fun l i a b => ⟨turn_ok l i a, turn_last l i a b⟩) (optOk0 wf) (last0 wf)).2
  | pushes => exact sound_of_last wf (fold_last _ _ (fun l i a b => ⟨push_ok l i a, push_last l i a b⟩) (optOk0 wf) (last0 wf)).1 (fold_last _ _ (fun l i a b => ⟨push_ok l i a, push_last l i a b⟩) (optOk0 wf) (last0 wf)).2
  | copies => exact sound_of_last wf (fold_last _ _ (fun l i a b => ⟨copy_ok l i a, copy_last l i a b⟩) (optOk0 wf) (last0 wf)).1 (fold_last _ _ (fun l i a b => ⟨copy_ok l i a, copy_last l i a b⟩) (optOk0 wf) (last0 wf)).2
  | swaps => exact sound_of_last wf (fold_last _ _ (fun l i a b => ⟨swap_ok l i a, swap_last l i a b⟩) (optOk0 wf) (last0 wf)).1 (fold_last _ _ (fun l i a b => ⟨swap_ok l i a, swap_last l i a b⟩) (optOk0 wf) (last0 wf)).2
  | short =>
    refine sound_of_last wf (short_ok wf) fun hp => ?_
    have hlt : c.rows.length - 1 < c.rows.length := by omega
    have he := end_at wf hp
    refine ⟨at_ c.rows (c.rows.length - 1), ?_, he⟩
    show (shortO c)[_]? = _
    rw [shortO, short_get, getElem_at hlt, Option.map_some, Nat.zero_add]
    unfold shortRow
    rw [if_neg]
    rintro ⟨hj, ht⟩
    have := ((wf.rows _ (at_mem hlt)).tgt hj).2
    omega
theorem pass_wf {c : PCode} (wf : WF c) (p : Pass) : WF (p.run c) := pressed_wf wf (pass_sound wf p)
end Mine
namespace Mine
set_option autoImplicit false
set_option linter.unusedVariables false
set_option maxRecDepth 100000

noncomputable def V.py : V → PyData
  | .none => .none
  | .bool b => .bool b
  | .nat n => .int n
  | .sym s => .str s.s
theorem V.isPy (v : V) {n : Nat} : Py n v.d v.py := by
  cases v with
  | none => exact .none
  | bool b => exact .bool
  | nat n => exact .int
  | sym s => exact .str (by cases s <;> decide +kernel)
theorem op_str (o : Op) {n : Nat} : Py n (.str o.s) (.str o.s) := .str (by cases o <;> decide +kernel)
noncomputable abbrev shapeD (r : PRow) : D := .tup [.str r.op.s, r.a.d, r.b.d, .none]
noncomputable def shapePy (r : PRow) : PyData := .tuple [.str r.op.s, r.a.py, r.b.py, .none]
theorem shape_py (r : PRow) : Py 1 (shapeD r) (shapePy r) := .tup (.cons (op_str _) (.cons (V.isPy _) (.cons (V.isPy _) (.cons .none .nil))))
noncomputable def sameShape (c c' : PCode) : Bool := PyData.eqv (.list (c.rows.map shapePy)) (.list (c'.rows.map shapePy))
noncomputable def roundP (c : PCode) : PCode := passes.foldl (fun c p => p.run c) c
noncomputable def tidyLoop : Nat → PCode → PCode
  | 0, c => c
  | k + 1, c => if sameShape (roundP c) c then roundP c else tidyLoop k (roundP c)
noncomputable def tidyP (c : PCode) : PCode := tidyLoop 24 c
theorem fold_wf : ∀ (l : List Pass) {c : PCode}, WF c → WF (l.foldl (fun c p => p.run c) c)
  | [], _, wf => wf
  | p :: l, _, wf => fold_wf l (pass_wf wf p)
theorem round_wf {c : PCode} (wf : WF c) : WF (roundP c) := fold_wf _ wf
theorem tidy_wf : ∀ (k : Nat) {c : PCode}, WF c → WF (tidyLoop k c)
  | 0, _, wf => wf
  | k + 1, c, wf => by
    unfold tidyLoop
    split
    · exact round_wf wf
    · exact tidy_wf k (round_wf wf)

noncomputable def passFn : Pass → Addr
  | .threaded => 158 | .known => 198 | .turned => 205 | .short => 212 | .dead => 170 | .pushes => 177 | .copies => 184 | .swaps => 219
theorem c_pass (B : Base) (p : Pass) (c : PCode) (kids : List D) (wf : WF c) : Calls B.W 3 (.ref (passFn p)) [codeD c kids] (· = codeD (p.run c) kids) := by
  cases p with
  | threaded => exact c_threaded B c kids wf
  | known => exact c_known B c kids wf
  | turned => exact c_turned B c kids wf
  | short => exact c_short B c kids wf
  | dead => exact c_dead B c kids wf
  | pushes => exact c_pushes B c kids wf
  | copies => exact c_copies B c kids wf
  | swaps => exact c_swaps B c kids wf
theorem pass_keep (B : Base) (p : Pass) : keepOk B.W.K (.ref (passFn p)) = true := by cases p <;> rfl

theorem c_shape (B : Base) (c : PCode) (kids : List D) (hz : c.rows.length ≤ 1000) : Calls B.W 1 (.ref 233) [codeD c kids] (· = .list (c.rows.map shapeD)) := by
  refine Calls_fn (fn_shape B) rfl fun A L hE Fb hb hx hF R => ?_
  refine Exs_cons ?_
  refine Ex_Return ?_
  refine Ev.thaw ?_
  refine Ev_Comp (τ := []) _ R.handled rfl rfl (compCell rfl) (compNames rfl) clNil <|
    CompH_map rowD c.rows (fun _ => true) shapeD (Ev_nAttr rfl rfl rfl ⟨_, rfl, .list _, noRng, goName, sizeBig (by omega), trivial, _, rfl, _, rfl, ?_⟩) trivial fun L' hE' Fb' hb' hx' hF' r hr => ?_
  · show _ = _
    rw [filtT]
  · exact Asg_name (.inl rfl) ⟨rfl, Ev_Tuple <| EvSp_cons <| Ev_nAttr rfl rfl rfl <| EvSp_cons <| Ev_nAttr rfl rfl rfl <| EvSp_cons <| Ev_nAttr rfl rfl rfl <| EvSp_cons <| Ev_nAttr rfl rfl rfl <| EvSp_nil ⟨[_, _, _, _], rfl, sizeBig (by simp), rfl, trivial⟩⟩

noncomputable abbrev passD (p : Pass) : D := .tup [.str p.s, .fn (.ref (passFn p))]
theorem rep_passes (B : Base) : ∀ Fb, (∀ b o, B.W.hB.get? b = some o → ¬ Fb b) → Rep B.W.hB Fb (.ref 228) (.list (passes.map passD)) := by
  intro Fb hF
  have g : B.hB.get? 228 = some { cls := .type "list", data := .seq #[.ref 220, .ref 221, .ref 222, .ref 223, .ref 224, .ref 225, .ref 226, .ref 227] } := B.X _ _ rfl
  have t : ∀ {a : Addr} {s : Str} {tk : Tok} {f : Addr}, B.hB.get? a = some { cls := .type "tuple", data := .seq #[.str s tk, .ref f] } → Rep B.W.hB Fb (.ref a) (.tup [.str s, .fn (.ref f)]) := fun {a s tk f} g => .tup (vs := [.str s tk, .ref f]) (hF _ _ g) ⟨_, g, rfl, 0, rfl⟩ (.cons (.str _ _) (.cons (.fn _ rfl) .nil))
  exact .list (vs := [.ref 220, .ref 221, .ref 222, .ref 223, .ref 224, .ref 225, .ref 226, .ref 227]) (hF _ _ g) ⟨_, g, rfl, 0, rfl⟩
    (.cons (t (B.X _ _ rfl)) (.cons (t (B.X _ _ rfl)) (.cons (t (B.X _ _ rfl)) (.cons (t (B.X _ _ rfl)) (.cons (t (B.X _ _ rfl)) (.cons (t (B.X _ _ rfl)) (.cons (t (B.X _ _ rfl)) (.cons (t (B.X _ _ rfl)) .nil))))))))
theorem Ev_passes {B : Base} {C : Fx B.W} {A : Around} {σ : LS} {pos : Pos} {Φ : Tmp → LS → Prop} (k : C.env.kindOf "PASSES" = some .globalImplicit) (h : Φ (.val (.list (passes.map passD))) σ) : Ev C A (.Name "PASSES" pos) σ Φ :=
  Ev_glob k rfl (rep_passes B) h
theorem goPass {es : List Expr} {k : Nat} {p : Pos} {l : List D} : GoOk (.Tuple es k p) (.list l) (passes.map passD) := .inr ⟨es, k, p, rfl, ⟨_, rfl⟩, fun x hx => by
  obtain ⟨q, _, rfl⟩ := List.mem_map.mp hx; exact ⟨_, rfl⟩⟩

set_option maxHeartbeats 1000000 in
theorem c_tidied_alone (B : Base) (c : PCode) (kids : List D) (wf : WF c) : Calls B.W 4 (.ref 240) [codeD c kids] (· = codeD (tidyP c) kids) := by
  refine Calls_fn (fn_tidied_alone B) rfl fun A L hE Fb hb hx hF R => ?_
  have hu : A.units + 100 < cLine := by have := R.units; omega
  refine Exs_cons ?_
  refine Ex_ForR natD (List.range 24) (fun rest σ => ∃ c', WF c' ∧ Sub [("code", .val (codeD c' kids))] σ ∧ tidyLoop rest.length c' = tidyP c) R.handled
    (Ev_CallBi R rfl rfl rfl (by decide) rfl rfl <| EvSp_cons <| Ev_glob rfl rfl (fun _ _ => .int _ _) <| EvSp_nil ⟨[_], rfl, Calls_range ⟨_, rfl, items_rng 24 (by decide), lo_rng 24, goName, c, wf, ⟨rfl, trivial⟩, rfl⟩⟩)
    (fun x rest σ₂ _ z5 => ?_) (fun σ₂ z4 => ?_)
  · obtain ⟨c', wf', hS, he⟩ := z5
    refine Asg.weaken hS ?_
    refine Asg_name (.inl rfl) ?_
    refine Exs_cons ?_
    refine Ex_Assign (.inl rfl) ?_
    refine Ev_CallFn (n := 3) R rfl rfl rfl rfl ?_
    refine EvSp_cons ?_
    refine Ev_name rfl ?_
    refine EvSp_nil ⟨[_], rfl, (c_shape B c' kids wf'.big).eq (by decide) ⟨_, rfl, ?_⟩⟩
    refine Exs_cons ?_
    refine Ex_ForFold passD passes (fun c p => p.run c) WF (fun c => [("code", .val (codeD c kids)), ("before", .val (.list (c'.rows.map shapeD)))]) c' R.handled
      (Ev_passes rfl ⟨_, rfl, .list _, noRng, goPass, wf', rfl, rfl, trivial⟩) (fun p c₂ hp wf₂ => ?_) (fun σ₃ wf₃ hS₃ => Exs_weaken hS₃ ?_)
    · refine Asg_tuple R.handled rfl rfl ?_
      refine Asg_name (.inl rfl) ?_
      refine Asg_name (.inl rfl) ?_
      refine Exs_cons ?_
      refine Ex_Assign (.inl rfl) ?_
      refine Ev_Call (n := 3) R ?_
      exact Ev_name rfl ⟨_, rfl, pass_keep B p, EvSp_cons <| Ev_name rfl <| EvSp_nil ⟨[_], rfl, (c_pass B p c₂ kids wf₂).eq (Nat.le_refl _) ⟨_, rfl, Exs_nil ⟨pass_wf wf₂ p, rfl, rfl, trivial⟩⟩⟩⟩
    · rw [List.length_cons, tidyLoop] at he
      have hrd : List.foldl (fun c p => Pass.run p c) c' passes = roundP c' := rfl
      rw [hrd] at wf₃
      rw [hrd]
      clear hS₃
      generalize roundP c' = cr at wf₃ he ⊢
      refine Exs_cons ?_
      refine Ex_If ?_
      refine EvB_Compare ?_
      refine Ev_CallFn (n := 3) R rfl rfl rfl rfl ?_
      refine EvSp_cons ?_
      refine Ev_name rfl ?_
      refine EvSp_nil ⟨[_], rfl, (c_shape B cr kids wf₃.big).eq (by decide) <| Ev_name rfl <|
        Op2_eqD (p := .list (cr.rows.map shapePy)) (q := .list (c'.rows.map shapePy)) hu (.list (Pys.map fun r _ => shape_py r)) (.list (Pys.map fun r _ => shape_py r)) (by decide) ⟨_, rfl, ?_⟩⟩
      refine ite_eq (b' := sameShape cr c') rfl (fun h => ?_) (fun h => ?_)
      · rw [if_pos h] at he
        refine Exs_cons ?_
        refine Ex_Return ?_
        exact Ev_name rfl ⟨_, rfl, congrArg (codeD · kids) he⟩
      · rw [if_neg (by rw [h]; decide)] at he
        refine Exs_nil ?_
        exact Exs_nil ⟨cr, wf₃, ⟨rfl, trivial⟩, he⟩
  · obtain ⟨c', wf', hS, he⟩ := z4
    refine Exs_weaken hS ?_
    refine Exs_cons ?_
    refine Ex_Return ?_
    exact Ev_name rfl ⟨_, rfl, congrArg (codeD · kids) he⟩

set_option maxHeartbeats 1000000 in
theorem c_tidy (B : Base) (m : Nat) (hm : 4 ≤ m) (c : PCode) (wf : WF c) (ks : List (D × D)) (hz : ks.length ≤ 1000) (hk : ∀ p ∈ ks, Calls B.W m (.ref 245) [p.1] (· = p.2)) : Calls B.W (m + 1) (.ref 245) [codeD c (ks.map (·.1))] (· = codeD (tidyP c) (ks.map (·.2))) := by
  refine Calls_fn (fn_tidy B) rfl fun A L hE Fb hb hx hF R => ?_
  refine Exs_cons ?_
  refine Ex_Assign (.inl rfl) ?_
  refine Ev_CallFn (n := m) R rfl rfl rfl rfl ?_
  refine EvSp_cons ?_
  refine Ev_name rfl ?_
  refine EvSp_nil ⟨[_], rfl, (c_tidied_alone B c _ wf).eq hm ⟨_, rfl, ?_⟩⟩
  refine Exs_cons ?_
  refine Ex_Return ?_
  refine Ev_nMeth (n := m) R rfl rfl rfl rfl rfl rfl ?_
  refine EvSp_cons ?_
  refine Ev_nAttr rfl rfl rfl ?_
  refine EvSp_cons ?_
  refine Ev_nAttr rfl rfl rfl ?_
  refine EvSp_cons ?_
  refine Ev_nAttr rfl rfl rfl ?_
  refine EvSp_cons ?_
  refine Ev.thaw ?_
  refine Ev_Comp (τ := []) _ R.handled rfl rfl (compCell rfl) (compNames rfl) clNil <|
    CompH_map (·.1) ks (fun _ => true) (·.2) (Ev_nAttr rfl rfl rfl ⟨_, rfl, .list _, noRng, goName, sizeBig (by omega), trivial, _, rfl, ?_⟩) trivial fun L' hE' Fb' hb' hx' hF' p hp => ?_
  · rw [filtT]
    exact EvSp_nil ⟨[_, _, _, _], rfl, (c_with_rows B _ _ _ _ _ _ _ _).eq (by omega) ⟨_, rfl, rfl⟩⟩
  · exact Asg_name (.inl rfl) ⟨rfl, Ev_CallFn (n := m) R rfl rfl rfl rfl <| EvSp_cons <| Ev_name rfl <| EvSp_nil ⟨[_], rfl, (hk p hp).eq (Nat.le_refl _) ⟨rfl, trivial⟩⟩⟩
theorem c_tidy0 (B : Base) (c : PCode) (wf : WF c) : Calls B.W 5 (.ref 245) [codeD c []] (· = codeD (tidyP c) []) := c_tidy B 4 (Nat.le_refl _) c wf [] (by decide) fun _ h => nomatch h
end Mine
namespace Mine
set_option autoImplicit false
set_option linter.unusedVariables false
set_option maxRecDepth 100000

noncomputable def nameS : Option Pass → Str
  | none => "none such"
  | some p => p.s
noncomputable def stepD : Option Pass → D
  | none => .none
  | some p => .fn (.ref (passFn p))
theorem name_eq (x : Pass) (o : Option Pass) : (x.s == nameS o) = decide (o = some x) := by
  cases o with
  | none => cases x <;> rfl
  | some p => cases x <;> cases p <;> rfl
theorem pass_mem (p : Pass) : p ∈ passes := by cases p <;> decide
theorem c_pass_named (B : Base) (o : Option Pass) : Calls B.W 1 (.ref 252) [.str (nameS o)] (· = stepD o) := by
  refine Calls_fn (fn_pass_named B) rfl fun A L hE Fb hb hx hF R => ?_
  refine Exs_cons ?_
  refine Ex_ForR passD passes (fun rest σ => Sub [("name", .val (.str (nameS o)))] σ ∧ ∀ p, o = some p → p ∈ rest) R.handled
    (Ev_passes rfl ⟨_, rfl, .list _, noRng, goPass, ⟨rfl, trivial⟩, fun p _ => pass_mem p⟩) (fun x rest σ₂ _ z7 => ?_) (fun σ₂ z6 => ?_)
  · obtain ⟨hS, hm⟩ := z7
    refine Asg.weaken hS ?_
    refine Asg_tuple R.handled rfl rfl ?_
    refine Asg_name (.inl rfl) ?_
    refine Asg_name (.inl rfl) ?_
    refine Exs_cons ?_
    refine Ex_If ?_
    refine EvB_Compare ?_
    refine Ev_name rfl ?_
    refine Ev_name rfl ?_
    refine Op2_eqS ⟨_, rfl, ite_b (name_eq x o) (fun h => ?_) (fun h => ?_)⟩
    · subst h
      refine Exs_cons ?_
      refine Ex_Return ?_
      exact Ev_name rfl ⟨_, rfl, rfl⟩
    · refine Exs_nil ?_
      refine Exs_nil ⟨⟨rfl, trivial⟩, fun p hp => ?_⟩
      rcases List.mem_cons.mp (hm p hp) with rfl | h'
      · exact absurd hp h
      · exact h'
  · obtain ⟨hS, hm⟩ := z6
    have ho : o = none := by
      cases o with
      | none => rfl
      | some p => exact absurd (hm p rfl) (by simp)
    subst ho
    refine Exs_cons ?_
    refine Ex_Return ?_
    exact Ev_none ⟨_, rfl, rfl⟩

noncomputable def runName (c : PCode) : Option Pass → PCode
  | none => c
  | some p => p.run c
noncomputable def passedP (c : PCode) (l : List (Option Pass)) : PCode := l.foldl runName c

theorem Op2_isNotNoneFn {W : Wd} {C : Fx W} {A : Around} {σ : LS} {a : Addr} {Φ : Tmp → LS → Prop} (h : Φ (.val (.bool true)) σ) : Op2 C A (compareOp .IsNot) (.val (.fn (.ref a))) (.val .none) σ Φ := by
  intro s T v₁ v₂ S
  obtain ⟨ρ, S, r₁, r₂⟩ := S.top2
  (first | (obtain ⟨_, rfl⟩ := Rep.ofInt r₁) | (obtain ⟨_, rfl⟩ := Rep.ofStr r₁) | (obtain rfl := Rep.ofBool r₁) | (obtain rfl := Rep.ofNone r₁) | (obtain rfl := Rep.ofFn r₁) | cases r₁)
  (first | (obtain ⟨_, rfl⟩ := Rep.ofInt r₂) | (obtain ⟨_, rfl⟩ := Rep.ofStr r₂) | (obtain rfl := Rep.ofBool r₂) | (obtain rfl := Rep.ofNone r₂) | (obtain rfl := Rep.ofFn r₂) | cases r₂)
  exact isNot_none (St.out0 (E := [_, _]) S h (.bool _))

set_option maxHeartbeats 1000000 in
theorem c_passed_by (B : Base) (m : Nat) (hm : 3 ≤ m) (c : PCode) (wf : WF c) (l : List (Option Pass)) (ks : List (D × D)) (hz : ks.length ≤ 1000) (hk : ∀ p ∈ ks, Calls B.W m (.ref 257) [p.1, .list (l.map fun o => .str (nameS o))] (· = p.2)) :
    Calls B.W (m + 1) (.ref 257) [codeD c (ks.map (·.1)), .list (l.map fun o => .str (nameS o))] (· = codeD (passedP c l) (ks.map (·.2))) := by
  refine Calls_fnC (fn_passed_by B) rfl fun A L hE Fb hb hx hF hL R => ?_
  refine Exs_cons ?_
  refine Ex_ForFold (fun o => D.str (nameS o)) l runName WF (fun c => [("code", .val (codeD c (ks.map (·.1)))), ("names", .val (.list (l.map fun o => .str (nameS o))))]) c R.handled
    (Ev_name rfl ⟨_, rfl, .list _, noRng, goName, wf, rfl, rfl, trivial⟩) (fun o c₂ ho wf₂ => ?_) (fun σ₃ wf₃ hS₃ => Exs_weaken hS₃ ?_)
  · refine Asg_name (.inl rfl) ?_
    refine Exs_cons ?_
    refine Ex_Assign (.inl rfl) ?_
    refine Ev_CallFn (n := m) R rfl rfl rfl rfl ?_
    refine EvSp_cons ?_
    refine Ev_name rfl ?_
    refine EvSp_nil ⟨[_], rfl, (c_pass_named B o).eq (by omega) ⟨_, rfl, ?_⟩⟩
    cases o with
    | none => exact Exs_cons <| Ex_If <| EvB_Compare <| Ev_name rfl <| Ev_none <| Op2_isNotNone (fun u e => nomatch e) ⟨_, rfl, iteF <| Exs_nil <| Exs_nil ⟨wf₂, rfl, rfl, trivial⟩⟩
    | some p =>
      refine Exs_cons ?_
      refine Ex_If ?_
      refine EvB_Compare ?_
      refine Ev_name rfl ?_
      refine Ev_none ?_
      exact Op2_isNotNoneFn ⟨_, rfl, iteT <| Exs_cons <| Ex_Assign (.inl rfl) <| Ev_Call (n := m) R <| Ev_name rfl ⟨_, rfl, pass_keep B p, EvSp_cons <| Ev_name rfl <|
        EvSp_nil ⟨[_], rfl, (c_pass B p c₂ _ wf₂).eq hm ⟨_, rfl, Exs_nil <| Exs_nil ⟨pass_wf wf₂ p, rfl, rfl, trivial⟩⟩⟩⟩⟩
  · have e : List.foldl runName c l = passedP c l := rfl
    rw [e] at wf₃ ⊢
    clear hS₃
    generalize passedP c l = cr at wf₃ ⊢
    refine Exs_cons ?_
    refine Ex_Return ?_
    refine Ev_nMeth (n := m) R rfl rfl rfl rfl rfl rfl ?_
    refine EvSp_cons ?_
    refine Ev_nAttr rfl rfl rfl ?_
    refine EvSp_cons ?_
    refine Ev_nAttr rfl rfl rfl ?_
    refine EvSp_cons ?_
    refine Ev_nAttr rfl rfl rfl ?_
    refine EvSp_cons ?_
    refine Ev.thaw ?_
    refine Ev_Comp (τ := [("names", .val (.list (l.map fun o => .str (nameS o))))]) _ R.handled rfl rfl (compCell rfl) (compNames rfl) (clOne ⟨rfl, rfl⟩) <|
      CompH_map (·.1) ks (fun _ => true) (·.2) (Ev_nAttr rfl rfl rfl ⟨_, rfl, .list _, noRng, goName, sizeBig (by omega), ⟨rfl, .inl ⟨_, rfl⟩, rfl, rfl, rfl, trivial⟩, _, rfl, ?_⟩) ⟨rfl, trivial⟩ fun L' hE' Fb' hb' hx' hF' p hp => ?_
    · rw [filtT]
      exact EvSp_nil ⟨[_, _, _, _], rfl, (c_with_rows B _ _ _ _ _ _ _ _).eq (by omega) ⟨_, rfl, rfl⟩⟩
    · exact Asg_name (.inl rfl) ⟨rfl, Ev_CallFn (n := m) R rfl rfl rfl rfl <| EvSp_cons <| Ev_name rfl <| EvSp_cons <| Ev_name rfl <| EvSp_nil ⟨[_, _], rfl, (hk p hp).eq (Nat.le_refl _) ⟨rfl, rfl, trivial⟩⟩⟩
theorem c_passed_by0 (B : Base) (c : PCode) (wf : WF c) (l : List (Option Pass)) : Calls B.W 4 (.ref 257) [codeD c [], .list (l.map fun o => .str (nameS o))] (· = codeD (passedP c l) []) := c_passed_by B 3 (Nat.le_refl _) c wf l [] (by decide) fun _ h => nomatch h
end Mine
namespace Mine
set_option autoImplicit false
set_option linter.unusedVariables false
set_option maxRecDepth 100000

/-- the box that numbers are taken from -/
noncomputable def BoxOk (k : Nat) (fl : Bool) (b : List D) : Prop := ∃ b0 b1 b2 : Int, b = [.int b0, .int b1, .int b2, .bool fl] ∧ 0 ≤ b0 ∧ 0 ≤ b1 ∧ b1 < 2147483648 ∧ 0 ≤ b2 ∧ b2 ≤ k
theorem BoxOk.mono {k m : Nat} {fl : Bool} {b : List D} (h : BoxOk k fl b) (hm : k ≤ m) : BoxOk m fl b := by
  obtain ⟨b0, b1, b2, e, h1, h2, h3, h4, h5⟩ := h
  exact ⟨b0, b1, b2, e, h1, h2, h3, h4, by omega⟩
theorem bits_le {x : Int} {n : Nat} (h : x.natAbs < 2 ^ n) : Builtin.Int.intBits x ≤ n := by
  unfold Builtin.Int.intBits
  split
  · omega
  · rename_i hx
    have hx' : x.natAbs ≠ 0 := by simpa using hx
    have := (Nat.log2_lt hx').mpr h
    omega
theorem fmod_range {i j : Int} (h : 0 < j) : 0 ≤ i.fmod j ∧ i.fmod j < j := by
  rw [Int.fmod_eq_emod_of_nonneg _ (by omega)]
  exact ⟨Int.emod_nonneg _ (by omega), Int.emod_lt_of_pos _ h⟩
theorem fdiv_nonneg' {i j : Int} (h : 0 ≤ i) (hj : 0 < j) : 0 ≤ i.fdiv j := by
  rw [Int.fdiv_eq_ediv_of_nonneg _ (by omega)]
  exact Int.ediv_nonneg h (by omega)

set_option maxHeartbeats 1000000 in
theorem c_take (B : Base) (k : Nat) (hk : k ≤ 1000) (fl : Bool) (b : List D) (hb : BoxOk k fl b) (many : Nat) (hm : 1 ≤ many) (hm' : many ≤ 1000000) :
    CallsB B.W 1 (.ref 271) b [natD many] (fun d b' => ∃ r : Nat, r < many ∧ d = natD r ∧ BoxOk (k + 1) fl b') := by
  obtain ⟨b0, b1, b2, rfl, h0, h1, h1', h2, h2'⟩ := hb
  refine CallsB_fn (fn_law_take B) rfl fun A L bx hE Fb hb hx hF R => ?_
  have fin : ∀ {i : Int} (x y z : Int), 0 ≤ i → i < many → 0 ≤ x → 0 ≤ y → y < 2147483648 → 0 ≤ z → z ≤ k + 1 → ∃ r : Nat, r < many ∧ D.int i = natD r ∧ BoxOk (k + 1) fl [.int x, .int y, .int z, .bool fl] := fun {i} x y z a1 a2 a3 a4 a5 a6 a7 =>
    ⟨i.toNat, by omega, by show D.int i = D.int _; rw [Int.toNat_of_nonneg a1], x, y, z, rfl, a3, a4, a5, a6, by omega⟩
  refine Exs_cons ?_
  refine Ex_If ?_
  refine EvB_Compare ?_
  refine Ev_Sub ?_
  refine Ev_own rfl ?_
  refine Ev_int ?_
  refine Op2_subOwn (k := 0) (d := .int b0) rfl (by decide) (by decide) rfl ?_
  refine Ev_int ?_
  refine Op2_gt ⟨_, rfl, ite_b rfl (fun hp => ?_) (fun hp => ?_)⟩
  · -- the digits of the number
    have hm2 : (0 : Int) < (many : Int) := by omega
    obtain ⟨r1, r2⟩ := fmod_range (i := b0) hm2
    refine Exs_cons ?_
    refine Ex_Assign (.inl rfl) ?_
    refine Ev_BinOp ?_
    refine Ev_Sub ?_
    refine Ev_own rfl ?_
    refine Ev_int ?_
    refine Op2_subOwn (k := 0) (d := .int b0) rfl (by decide) (by decide) rfl ?_
    refine Ev_name rfl ?_
    refine Op2_mod (by omega) ⟨_, rfl, ?_⟩
    refine Exs_cons ?_
    refine Ex_AssignSub ?_
    refine Ev_BinOp ?_
    refine Ev_Sub ?_
    refine Ev_own rfl ?_
    refine Ev_int ?_
    refine Op2_subOwn (k := 0) (d := .int b0) rfl (by decide) (by decide) rfl ?_
    refine Ev_name rfl ?_
    refine Op2_fdiv (by omega) (PyProof.noPylong_small (by simp; omega)) ⟨_, rfl, Asg_sub (l := [.int b0, .int b1, .int b2, .bool fl]) (k := 0) (Ev_int ⟨rfl, rfl, by decide, by decide, by simp, ?_⟩) rfl⟩
    refine Exs_cons ?_
    refine Ex_Return ?_
    exact Ev_name rfl ⟨_, rfl, _, rfl, fin _ b1 b2 r1 r2 (fdiv_nonneg' h0 hm2) h1 h1' h2 (by omega)⟩
  · refine Exs_nil ?_
    refine Exs_cons ?_
    refine Ex_AssignSub ?_
    refine Ev_BinOp ?_
    refine Ev_Sub ?_
    refine Ev_own rfl ?_
    refine Ev_int ?_
    refine Op2_subOwn (k := 2) (d := .int b2) rfl (by decide) (by decide) rfl ?_
    refine Ev_int ?_
    refine Op2_add ⟨_, rfl, Asg_sub (l := [.int b0, .int b1, .int b2, .bool fl]) (k := 2) (Ev_int ⟨rfl, rfl, by decide, by decide, by simp, ?_⟩) rfl⟩
    refine Exs_weaken (τ := [("box", .own [.int b0, .int b1, .int (b2 + 1), .bool fl]), ("many", .val (natD many))]) ⟨rfl, rfl, trivial⟩ ?_
    obtain ⟨c, hc⟩ : ∃ c, c = b2 + 1 := ⟨_, rfl⟩
    rw [← hc]
    have c1 : 0 ≤ c := by omega
    have c2 : c ≤ 1001 := by omega
    refine Exs_cons ?_
    refine Ex_Assign (.inl rfl) ?_
    refine Ev_BinOp ?_
    refine Ev_BinOp ?_
    refine Ev_BinOp ?_
    refine Ev_BinOp ?_
    refine Ev_Sub ?_
    refine Ev_own rfl ?_
    refine Ev_int ?_
    refine Op2_subOwn (k := 1) (d := .int b1) rfl (by decide) (by decide) rfl ?_
    refine Ev_BinOp ?_
    refine Ev_int ?_
    refine Ev_Sub ?_
    refine Ev_own rfl ?_
    refine Ev_int ?_
    refine Op2_subOwn (k := 2) (d := .int c) rfl (by decide) (by decide) rfl <|
      Op2_mul (.of_left (Nat.le_trans (bits_le (x := 40169) (n := 20) (by decide)) (by decide))) <| Op2_add <| Ev_int <| Op2_add <| Ev_int <| Op2_pow (by decide) (by have := bits_le (x := b1 + 40169 * c + 7) (n := 34) (by omega); omega) <| Ev_int <| Op2_mod (by decide) ⟨_, rfl, ?_⟩
    obtain ⟨r1, r2⟩ := fmod_range (i := (b1 + 40169 * c + 7) ^ (5 : Int).toNat) (j := 2147483647) (by decide)
    generalize ((b1 + 40169 * c + 7) ^ (5 : Int).toNat).fmod 2147483647 = x at r1 r2 ⊢
    refine Exs_cons ?_
    refine Ex_Assign (.inl rfl) ?_
    refine Ev_BinOp ?_
    refine Ev_BinOp ?_
    refine Ev_BinOp ?_
    refine Ev_name rfl ?_
    refine Ev_BinOp ?_
    refine Ev_int ?_
    refine Ev_Sub ?_
    refine Ev_own rfl ?_
    refine Ev_int ?_
    refine Op2_subOwn (k := 2) (d := .int c) rfl (by decide) (by decide) rfl <|
      Op2_mul (.of_left (Nat.le_trans (bits_le (x := 93001) (n := 20) (by decide)) (by decide))) <| Op2_add <| Ev_int <| Op2_pow (by decide) (by have := bits_le (x := x + 93001 * c) (n := 34) (by omega); omega) <| Ev_int <| Op2_mod (by decide) ⟨_, rfl, ?_⟩
    obtain ⟨q1, q2⟩ := fmod_range (i := (x + 93001 * c) ^ (3 : Int).toNat) (j := 2147483587) (by decide)
    generalize ((x + 93001 * c) ^ (3 : Int).toNat).fmod 2147483587 = y at q1 q2 ⊢
    obtain ⟨s1, s2⟩ := fmod_range (i := y.fdiv 16) (j := (many : Int)) (by omega)
    refine Exs_cons ?_
    refine Ex_Return ?_
    refine Ev_BinOp ?_
    refine Ev_BinOp ?_
    refine Ev_name rfl ?_
    refine Ev_int ?_
    refine Op2_fdiv (by decide) (PyProof.noPylong_small (by decide)) ?_
    refine Ev_name rfl ?_
    exact Op2_mod (by omega) ⟨_, rfl, _, rfl, fin b0 b1 c s1 s2 h0 h1 h1' c1 (by omega)⟩
end Mine
namespace Mine
set_option autoImplicit false
set_option genSizeOf false
set_option genInjectivity false
set_option linter.unusedVariables false

/- the scenes of the law, as plain data -/
inductive Stay where
  | keep | drop | to (r : PRow)
  deriving DecidableEq
noncomputable abbrev rowT (r : PRow) : D := .tup [.str r.op.s, r.a.d, r.b.d]
noncomputable def stayD : Stay → D
  | .keep => .int 1
  | .drop => .none
  | .to r => rowT r
noncomputable abbrev LRow := PRow × Stay
noncomputable abbrev lrowD (x : LRow) : D := .tup [rowT x.1, stayD x.2]
structure PArgs where
  spot : Nat
  val : Nat
  br : Nat
  st : Nat
  pl : Nat
  pick : Nat
noncomputable def PArgs.Ok (a : PArgs) : Prop := a.spot < 2 ∧ a.val < 4 ∧ a.br < 2 ∧ a.st < 4 ∧ a.pl < 7 ∧ a.pick < 3
noncomputable def valueOf : Nat → V
  | 0 => .none
  | 1 => .bool true
  | 2 => .bool false
  | _ => .nat 5
noncomputable def brOf : Nat → Op
  | 0 => .jumpif
  | _ => .jumpunless
noncomputable def stOf : Nat → Op
  | 0 => .setl
  | 1 => .seti
  | 2 => .setg
  | _ => .setc
noncomputable def plainOf (v : V) (spot : Nat) : Nat → PRow
  | 0 => ⟨.push, v, .none⟩
  | 1 => ⟨.self, .none, .none⟩
  | 2 => ⟨.getl, .nat 0, .nat spot⟩
  | 3 => ⟨.geti, .sym .ivar, .none⟩
  | 4 => ⟨.getg, .sym .gvar, .none⟩
  | 5 => ⟨.dup, .none, .none⟩
  | _ => ⟨.blockgiven, .none, .none⟩
noncomputable def holdsV (v : V) : Bool := v == .bool true || v == .nat 5
noncomputable def PArgs.taken (a : PArgs) : Bool := holdsV (valueOf a.val) == (brOf a.br == .jumpif)
noncomputable def PArgs.store (a : PArgs) : PRow := if stOf a.st = .setl then ⟨.setl, .nat 0, .nat a.spot⟩ else ⟨stOf a.st, .sym .ivar, .none⟩
noncomputable def PArgs.plain (a : PArgs) : PRow := plainOf (valueOf a.val) a.spot a.pl
noncomputable abbrev popR : PRow := ⟨.pop, .none, .none⟩
noncomputable abbrev leaveR : PRow := ⟨.leave, .none, .none⟩
noncomputable abbrev undefR (s : Sy) : PRow := ⟨.undef, .sym s, .none⟩
noncomputable abbrev toR (o : Op) (t : Nat) : PRow := ⟨o, .nat t, .none⟩
noncomputable abbrev getR (n : Nat) : PRow := ⟨.getl, .nat 0, .nat n⟩
noncomputable def pieceP (p : Pass) (a : PArgs) (i : Nat) : List LRow := match p with
  | .pushes => [(a.plain, .drop), (popR, .drop)]
  | .copies => [(⟨.push, valueOf a.val, .none⟩, .keep), (⟨.dup, .none, .none⟩, .drop), (a.store, .keep), (popR, .drop)]
  | .swaps => if a.spot = 0 then [(⟨.swap, .none, .none⟩, .drop), (⟨.swap, .none, .none⟩, .drop)] else [(⟨.dup, .none, .none⟩, .keep), (⟨.swap, .none, .none⟩, .drop)]
  | .known => if a.spot = 0 then [(⟨.push, valueOf a.val, .none⟩, .drop), (toR (brOf a.br) (i + 3), if a.taken then .to (toR .jump (i + 3)) else .drop), (popR, .keep)]
      else [(⟨.push, valueOf a.val, .none⟩, .drop), (toR .jump (i + 3), .to (toR .jump (if a.taken then i + 5 else i + 4))), (popR, .keep), (toR (brOf a.br) (i + 5), .keep), (popR, .keep)]
  | .turned => [(getR a.spot, .keep), (toR (brOf a.br) (i + 3), .to (toR (flipOp (brOf a.br)) (i + 4))), (toR .jump (i + 4), .drop), (undefR .u, .keep)]
  | .short => match a.pick with
    | 0 => [(toR .jump (i + 1), .drop)]
    | 1 => [(getR a.spot, .keep), (toR (brOf a.br) (i + 2), .to popR)]
    | _ => [(getR a.spot, .keep), (toR .jumpnil (i + 2), .drop), (popR, .keep)]
  | .dead => [(toR .jump (i + 3), .keep), (a.plain, .drop), (popR, .drop)]
  | .threaded => if a.spot = 0 then [(getR 0, .keep), (toR (brOf a.br) (i + 3), .to (toR (brOf a.br) (i + 5))), (undefR .u, .keep), (toR .jump (i + 5), .keep), (popR, .keep)]
      else [(getR 0, .keep), (toR (brOf a.br) (i + 3), .keep), (toR .jump (i + 4), .to leaveR), (undefR .u, .keep), (leaveR, .keep)]
noncomputable def betweenP (p : Pass) (a : PArgs) (i : Nat) : List LRow :=
  [(getR 0, .keep), (toR .jumpnil (i + 2 + (pieceP p a (i + 2)).length - 1), .keep)] ++ (pieceP p a (i + 2)).map fun x => (x.1, .keep)
end Mine
namespace Mine
set_option autoImplicit false
set_option linter.unusedVariables false
set_option maxRecDepth 100000

theorem iteTb {b : Bool} {X Y : Prop} (e : b = true) (h : X) : if b = true then X else Y := by rw [if_pos e]; exact h
theorem iteFb {b : Bool} {X Y : Prop} (e : b = false) (h : Y) : if b = true then X else Y := by rw [if_neg (by rw [e]; decide)]; exact h
/-- a value is given -/
@[reducible] noncomputable def Vl (Φ : D → LS → Prop) (t : Tmp) (σ : LS) : Prop := match t with
  | .val d => Φ d σ
  | _ => False
section
variable {W : Wd} {C : Fx W} {A : Around} {σ : LS}
/-- values are given, one behind another -/
noncomputable def EvV (C : Fx W) (A : Around) : List Expr → LS → (List D → LS → Prop) → Prop
  | [], σ, Φ => Φ [] σ
  | e :: es, σ, Φ => Ev C A e σ (Vl fun d σ₁ => EvV C A es σ₁ fun ds σ₂ => Φ (d :: ds) σ₂)
theorem EvSp.mono {es : List Expr} {Φ Ψ : List Tmp → LS → Prop} (h : EvSp C A es σ Φ) (hm : ∀ t σ', Φ t σ' → Ψ t σ') : EvSp C A es σ Ψ := fun s T p S => wpNo (h s T p S) fun _ _ ⟨t, σ', a, b⟩ => ⟨t, σ', hm t σ' a, b⟩
/-- no star among them -/
@[reducible] noncomputable def PlainEs (C : Fx W) (es : List Expr) : Prop := starEach es C.env = es.map fun e => (false, eval e C.env)
theorem EvV.spM {es : List Expr} {Φ : List D → LS → Prop} (h : EvV C A es σ Φ) (s : Shared) (T : List (Value × Tmp)) (pos : Pos) (S : St C σ s T) :
    wpAny W.M A (spliced (backTo pos (es.map fun e => (false, eval e C.env)))) (SpPost C s T fun ts σ' => ∃ ds, ts = ds.map Tmp.val ∧ ds.length = es.length ∧ Φ ds σ') NoE s := by
  induction es generalizing σ Φ s T with
  | nil => exact wpAny_pure ⟨[], σ, ⟨[], rfl, rfl, h⟩, rfl, .refl s, S⟩
  | cons e es ih =>
    show wpAny W.M A (do
      let v ← eval e C.env
      let here ← (pure [v] : Sem (List Value))
      return here ++ (← holding here (spliced (backTo pos (es.map fun e => (false, eval e C.env)))))) _ NoE s
    refine wpAny_bind (wpNo (h s T S) fun v s₁ q => q.elim fun t σ₁ h₁ o₁ S₁ => ?_)
    cases t with
    | val d =>
      refine wpAny_bind (wpAny_pure (wpAny_bind (wpAny_holding (wpNo (ih h₁ s₁ _ S₁) fun vs s₂ q => q.elim fun ts σ₂ h₂ hl o₂ S₂ => wpAny_pure ?_))))
      exact h₂.elim fun ds q => ⟨Tmp.val d :: ts, σ₂, ⟨d :: ds, congrArg (List.cons _) q.1, congrArg Nat.succ q.2.1, q.2.2⟩, congrArg Nat.succ hl, o₁.trans o₂, by first | (rw [List.singleton_append, held_cons]; exact S₂) | (rw [held_cons]; exact S₂)⟩
    | _ => exact False.elim h₁
theorem EvV.sp {es : List Expr} {Φ : List D → LS → Prop} (hp : PlainEs C es) (h : EvV C A es σ Φ) : EvSp C A es σ fun ts σ' => ∃ ds, ts = ds.map Tmp.val ∧ ds.length = es.length ∧ Φ ds σ' :=
  fun s T pos S => by rw [hp]; exact h.spM s T pos S
theorem Ev_tup {es : List Expr} {k : Nat} {p : Pos} {Φ : Tmp → LS → Prop} (h : EvV C A es σ fun ds σ₁ => Φ (.val (.tup ds)) σ₁) (hp : PlainEs C es := by rfl) (hz : es.length ≤ 1000 := by decide) : Ev C A (.Tuple es k p) σ Φ :=
  Ev_Tuple (EvSp.mono (EvV.sp hp h) fun ts σ₁ ⟨ds, e, el, q⟩ => ⟨ds, e, sizeBig (by omega), q⟩)
theorem Ev_lst {es : List Expr} {p : Pos} {Φ : Tmp → LS → Prop} (h : EvV C A es σ fun ds σ₁ => Φ (.val (.list ds)) σ₁) (hp : PlainEs C es := by rfl) (hz : es.length ≤ 1000 := by decide) : Ev C A (.List es p) σ Φ :=
  Ev_List (EvSp.mono (EvV.sp hp h) fun ts σ₁ ⟨ds, e, el, q⟩ => ⟨ds, e, sizeBig (by omega), q⟩)
/-- what a called function gives is known -/
theorem Ev_fnV {n : Nat} {f : Value} {x : Str} {p pos : Pos} {es : List Expr} {Φ : Tmp → LS → Prop} (R : Room A n) (k : C.env.kindOf x = some .globalImplicit) (e : nsIn W.K mainGlobals x = some (some f)) (hv : handedIn f = true) (hk : keepOk W.K f = true)
    (h : EvV C A es σ fun ds σ₂ => Calls W n f ds fun d => Φ (.val d) σ₂) (hpl : PlainEs C es := by rfl)
    (hd : (x == ("__debug__" : Str)) = false := by decide)
    (hp : (backTo pos (starEach es C.env)).any (·.1) = false := by rfl)
    (he : eval (.Call (.Name x p) es [] pos) C.env = (do callWith pos (← eval (.Name x p) C.env) [] (backTo pos (starEach es C.env)) []) := by rfl) : Ev C A (.Call (.Name x p) es [] pos) σ Φ :=
  Ev_CallFn R k e hv hk (EvSp.mono (EvV.sp hpl h) fun ts σ₁ ⟨ds, e, _, q⟩ => ⟨ds, e, q⟩) hd hp he
theorem Ev_biV {n : Nat} {f : Value} {x : Str} {p pos : Pos} {es : List Expr} {Φ : Tmp → LS → Prop} (R : Room A n) (k : C.env.kindOf x = some .globalImplicit) (e : nsIn W.K mainGlobals x = some none) (hb : bootBuiltins x = some f) (hn : x ≠ "__name__") (hv : handedIn f = true) (hk : keepOk W.K f = true)
    (h : EvV C A es σ fun ds σ₂ => Calls W n f ds fun d => Φ (.val d) σ₂) (hpl : PlainEs C es := by rfl)
    (hd : (x == ("__debug__" : Str)) = false := by decide)
    (hp : (backTo pos (starEach es C.env)).any (·.1) = false := by rfl)
    (he : eval (.Call (.Name x p) es [] pos) C.env = (do callWith pos (← eval (.Name x p) C.env) [] (backTo pos (starEach es C.env)) []) := by rfl) : Ev C A (.Call (.Name x p) es [] pos) σ Φ :=
  Ev_CallBi R k e hb hn hv hk (EvSp.mono (EvV.sp hpl h) fun ts σ₁ ⟨ds, e, _, q⟩ => ⟨ds, e, q⟩) hd hp he
theorem Ex_Ret {e : Expr} {pos : Pos} {Φ : Fl → LS → Prop} (h : Ev C A e σ (Vl fun d σ₁ => Φ (.ret d) σ₁)) : Ex C A (.Return (some e) pos) σ Φ :=
  Ex_Return (h.mono fun t σ₁ q => by cases t with | val d => exact ⟨d, rfl, q⟩ | _ => exact q.elim)
theorem Ex_Asn {x : Str} {xp pos : Pos} {value : Expr} {Φ : Fl → LS → Prop} (b : Bind C x) (h : Ev C A value σ (Vl fun d σ₁ => Φ .next (upd σ₁ x (.val d))))
    (hsw : swapsWith value (some (.Name x xp)) pos.line C.env = pure false := by rfl) : Ex C A (.Assign [.Name x xp] value pos) σ Φ :=
  Ex_Assign b (h.mono fun t σ₁ q => by cases t with | val d => exact ⟨d, rfl, q⟩ | _ => exact q.elim) hsw
/-- x == 'y', for a local x that is a text -/
theorem EvB_isS {x v y : Str} {p1 p2 p3 : Pos} {k : Nat} {Φ : Bool → LS → Prop} (e : σ.lookup x = some (.val (.str v))) (h : Φ (v == y) σ) (hd : (x == ("__debug__" : Str)) = false := by decide) :
    EvB C A (.Compare (.Name x p1) [.Eq] [.Constant (.str y) k p2] p3) σ Φ := EvB_Compare <| Ev_name (hd := hd) e <| Ev_str <| Op2_eqS ⟨_, rfl, h⟩
theorem EvB_nm {x : Str} {p : Pos} {b : Bool} {Φ : Bool → LS → Prop} (e : σ.lookup x = some (.val (.bool b))) (h : Φ b σ) (hd : (x == ("__debug__" : Str)) = false := by decide) : EvB C A (.Name x p) σ Φ := EvB_val <| Ev_name (hd := hd) e ⟨_, rfl, h⟩
theorem If_skip {c : Expr} {body rest : List Stmt} {pos : Pos} {Φ : Fl → LS → Prop} (h : EvB C A c σ fun t σ₁ => t = false ∧ Exs C A rest σ₁ Φ) : Exs C A (.If c body [] pos :: rest) σ Φ :=
  Exs_cons <| Ex_If <| h.mono fun t σ₁ q => by rw [q.1]; exact iteF (Exs_nil q.2)
theorem If_take {c : Expr} {body els rest : List Stmt} {pos : Pos} {Φ : Fl → LS → Prop} (h : EvB C A c σ fun t σ₁ => t = true ∧ Exs C A body σ₁ (SeqΦ C A rest Φ)) : Exs C A (.If c body els pos :: rest) σ Φ :=
  Exs_cons <| Ex_If <| h.mono fun t σ₁ q => by rw [q.1]; exact iteT q.2
theorem Skip_S {x v y : Str} {p1 p2 p3 pos : Pos} {k : Nat} {body rest : List Stmt} {Φ : Fl → LS → Prop} (e : σ.lookup x = some (.val (.str v))) (h : (v == y) = false) (q : Exs C A rest σ Φ) (hd : (x == ("__debug__" : Str)) = false := by decide) :
    Exs C A (.If (.Compare (.Name x p1) [.Eq] [.Constant (.str y) k p2] p3) body [] pos :: rest) σ Φ := If_skip <| EvB_isS (hd := hd) e ⟨h, q⟩
theorem Take_S {x v y : Str} {p1 p2 p3 pos : Pos} {k : Nat} {body els rest : List Stmt} {Φ : Fl → LS → Prop} (e : σ.lookup x = some (.val (.str v))) (h : (v == y) = true) (q : Exs C A body σ (SeqΦ C A rest Φ)) (hd : (x == ("__debug__" : Str)) = false := by decide) :
    Exs C A (.If (.Compare (.Name x p1) [.Eq] [.Constant (.str y) k p2] p3) body els pos :: rest) σ Φ := If_take <| EvB_isS (hd := hd) e ⟨h, q⟩
/-- x == 'y' and z == n -/
theorem Skip_SN {x v y : Str} {p1 p2 p3 p7 pos : Pos} {k : Nat} {r : Expr} {body rest : List Stmt} {Φ : Fl → LS → Prop} (e : σ.lookup x = some (.val (.str v))) (h : (v == y) = false) (q : Exs C A rest σ Φ) (hd : (x == ("__debug__" : Str)) = false := by decide) :
    Exs C A (.If (.BoolOp .And [.Compare (.Name x p1) [.Eq] [.Constant (.str y) k p2] p3, r] p7) body [] pos :: rest) σ Φ :=
  If_skip <| EvB_BoolOp <| EvAll_consA <| EvB_isS (hd := hd) e <| iteFb h ⟨rfl, q⟩
theorem And_N {x v y z : Str} {p1 p2 p3 p4 p5 p6 p7 : Pos} {k k' : Nat} {m n : Int} {Φ : Bool → LS → Prop} (e : σ.lookup x = some (.val (.str v))) (h : (v == y) = true) (e' : σ.lookup z = some (.val (.int m))) (q : Φ (m == n) σ) (hd : (x == ("__debug__" : Str)) = false := by decide) (hd' : (z == ("__debug__" : Str)) = false := by decide) :
    EvB C A (.BoolOp .And [.Compare (.Name x p1) [.Eq] [.Constant (.str y) k p2] p3, .Compare (.Name z p4) [.Eq] [.Constant (.int n) k' p5] p6] p7) σ Φ :=
  EvB_BoolOp <| EvAll_consA <| EvB_isS (hd := hd) e <| iteTb h <| EvAll_consA <| EvB_Compare <| Ev_name (hd := hd') e' <| Ev_int <| Op2_eq ⟨_, rfl, by
    cases hb : (m == n) with
    | true => rw [hb] at q; exact iteT (EvAll_nilA q)
    | false => rw [hb] at q; exact iteF q⟩
/-- two names, two values, side by side -/
theorem Ex_two {x y : Str} {xp yp : Pos} {k : Nat} {tp pos : Pos} {value : Expr} {Φ : Fl → LS → Prop} (hh : A.handled = none)
    (hw : swappedStores [.Tuple [.Name x xp, .Name y yp] k tp] value C.env = pure (some [x, y])) (b1 : Bind C x) (b2 : Bind C y)
    (h : Ev C A value σ (Vl fun d σ₁ => ∃ d1 d2, d = .tup [d1, d2] ∧ Φ .next (upd (upd σ₁ y (.val d2)) x (.val d1))))
    (hs : swapsWithSole [.Tuple [.Name x xp, .Name y yp] k tp] value pos.line C.env = pure false := by rfl) : Ex C A (.Assign [.Tuple [.Name x xp, .Name y yp] k tp] value pos) σ Φ :=
  Ex_AssignSw (names := [x, y]) hh hw (h.mono fun t σ₁ q => by
    cases t with
    | val d => obtain ⟨d1, d2, rfl, q⟩ := q; exact ⟨_, rfl, rfl, b2, b1, q⟩
    | _ => exact q.elim) hs
end
end Mine
namespace Mine
set_option autoImplicit false
set_option linter.unusedVariables false
set_option maxRecDepth 100000

section
variable {B : Base} {C : Fx B.W} {A : Around} {σ : LS}
theorem Ev_take {n : Nat} {p1 xp p2 pos : Pos} {many kk : Nat} {k : Nat} {fl : Bool} {b : List D} {Φ : Tmp → LS → Prop} (R : Room A (n + 1)) (kq : C.env.kindOf "_law_take" = some .globalImplicit) (e : σ.lookup ("box" : Str) = some (.own b)) (hb : BoxOk k fl b) (hk : k ≤ 1000)
    (hm : 1 ≤ many) (hm' : many ≤ 1000000) (h : ∀ r b', r < many → BoxOk (k + 1) fl b' → Φ (.val (natD r)) (upd σ "box" (.own b'))) :
    Ev C A (.Call (.Name "_law_take" p1) [.Name "box" xp, .Constant (.int (many : Int)) kk p2] [] pos) σ Φ :=
  Ev_CallB R <| Ev_fn kq rfl rfl ⟨_, b, rfl, rfl, e, EvSp_cons <| Ev_int <| EvSp_nil ⟨[_], b, rfl, e, (c_take B k hk fl b hb many hm hm').mono (by omega) fun d b' ⟨r, h1, h2, h3⟩ => by subst h2; exact h r b' h1 h3⟩⟩
end
theorem value_at {r : Nat} (h : r < 4) : ([.none, .bool true, .bool false, .int 5] : List D)[((r : Nat) : Int).toNat]? = some (valueOf r).d := by
  have : r = 0 ∨ r = 1 ∨ r = 2 ∨ r = 3 := by omega
  rcases this with rfl | rfl | rfl | rfl <;> rfl
theorem br_at {r : Nat} (h : r < 2) : ([.str "jumpif", .str "jumpunless"] : List D)[((r : Nat) : Int).toNat]? = some (.str (brOf r).s) := by
  have : r = 0 ∨ r = 1 := by omega
  rcases this with rfl | rfl <;> rfl
theorem st_at {r : Nat} (h : r < 4) : ([.str "setl", .str "seti", .str "setg", .str "setc"] : List D)[((r : Nat) : Int).toNat]? = some (.str (stOf r).s) := by
  have : r = 0 ∨ r = 1 ∨ r = 2 ∨ r = 3 := by omega
  rcases this with rfl | rfl | rfl | rfl <;> rfl
theorem plain_at {v : V} {spot r : Nat} (h : r < 7) : ((List.range 7).map fun i => rowT (plainOf v spot i))[((r : Nat) : Int).toNat]? = some (rowT (plainOf v spot r)) := by
  rw [Int.toNat_natCast, List.getElem?_map, List.getElem?_range h]; rfl
theorem holds_no {v : V} (h : v.d.isTrue = false) : PyData.eqv v.py (.int 5) = holdsV v := by
  cases v with
  | none => rfl
  | bool b => cases b <;> first | rfl | cases h
  | nat n =>
    simp only [V.py, PyData.eqv, holdsV]
    by_cases e : n = 5
    · subst e; rfl
    · have h1 : ((n : Int) == 5) = false := by simp; omega
      have h2 : (V.nat n == V.nat 5) = false := by simpa using e
      rw [h1, h2]; rfl
  | sym s => cases s <;> rfl
theorem holds_yes {v : V} (h : v.d.isTrue = true) : holdsV v = true := by
  cases v with
  | bool b => cases b <;> first | rfl | cases h
  | _ => cases h

end Mine
namespace Mine
set_option autoImplicit false
set_option linter.unusedVariables false
set_option maxRecDepth 100000

set_option maxHeartbeats 8000000 in
theorem piece_tail (B : Base) (p : Pass) (i k : Nat) (hk : k ≤ 900) (hi : i ≤ 1000) {C : Fx B.W} {A : Around} (R : Room A 1) (kT : C.env.kindOf "_law_take" = some .globalImplicit) (bF : Bind C "flipped") (bR : Bind C "rows") (bS : Bind C "some")
    (spot val br st pl : Nat) (hs1 : spot < 2) (hs2 : val < 4) (hs3 : br < 2) (hs4 : st < 4) (hs5 : pl < 7) (fl : Bool) (b5 : List D) (hb5 : BoxOk (k + 5) fl b5) :
    Exs C A ((bo B 278).drop 8) [("box", .own b5), ("name", .val (.str p.s)), ("at", .val (natD i)), ("value", .val (valueOf val).d), ("spot", .val (natD spot)), ("branch", .val (.str (brOf br).s)), ("taken", .val (.bool (PArgs.taken ⟨spot, val, br, st, pl, 0⟩))), ("store", .val (rowT (PArgs.store ⟨spot, val, br, st, pl, 0⟩))), ("plain", .val (rowT (plainOf (valueOf val) spot pl))), ("pop", .val (rowT popR)), ("leave", .val (rowT leaveR))]
      (RetB fun d b' => ∃ a : PArgs, a.Ok ∧ d = .list ((pieceP p a i).map lrowD) ∧ BoxOk (k + 6) fl b') := by
  have okA : ∀ pick, pick < 3 → PArgs.Ok ⟨spot, val, br, st, pl, pick⟩ := fun pick h => ⟨hs1, hs2, hs3, hs4, hs5, h⟩
  have ok0 := okA 0 (by decide)
  have hb6 := hb5.mono (show k + 5 ≤ k + 6 by omega)
  have hspot : spot = 0 ∨ spot = 1 := by omega
  cases p with
  | pushes =>
    refine Take_S rfl (by rfl) ?_
    refine Exs_cons ?_
    refine Ex_Ret ?_
    refine Ev_lst ?_
    refine Ev_tup ?_
    refine Ev_name rfl ?_
    refine Ev_none ?_
    refine Ev_tup ?_
    refine Ev_name rfl ?_
    exact Ev_none ⟨_, rfl, _, ok0, rfl, hb6⟩
  | copies =>
    refine Skip_S rfl (by rfl) ?_
    refine Take_S rfl (by rfl) ?_
    refine Exs_cons ?_
    refine Ex_Ret ?_
    refine Ev_lst ?_
    refine Ev_tup ?_
    refine Ev_tup ?_
    refine Ev_str ?_
    refine Ev_name rfl ?_
    refine Ev_none ?_
    refine Ev_int ?_
    refine Ev_tup ?_
    refine Ev_tup ?_
    refine Ev_str ?_
    refine Ev_none ?_
    refine Ev_none ?_
    refine Ev_none ?_
    refine Ev_tup ?_
    refine Ev_name rfl ?_
    refine Ev_int ?_
    refine Ev_tup ?_
    refine Ev_name rfl ?_
    exact Ev_none ⟨_, rfl, _, ok0, rfl, hb6⟩
  | swaps =>
    rcases hspot with rfl | rfl
    · refine Skip_S rfl (by rfl) ?_
      refine Skip_S rfl (by rfl) ?_
      refine If_take ?_
      refine And_N rfl (by rfl) rfl ⟨rfl, ?_⟩
      refine Exs_cons ?_
      refine Ex_Ret ?_
      refine Ev_lst ?_
      refine Ev_tup ?_
      refine Ev_tup ?_
      refine Ev_str ?_
      refine Ev_none ?_
      refine Ev_none ?_
      refine Ev_none ?_
      refine Ev_tup ?_
      refine Ev_tup ?_
      refine Ev_str ?_
      refine Ev_none ?_
      refine Ev_none ?_
      exact Ev_none ⟨_, rfl, _, ok0, rfl, hb6⟩
    · refine Skip_S rfl (by rfl) ?_
      refine Skip_S rfl (by rfl) ?_
      refine If_skip ?_
      refine And_N rfl (by rfl) rfl ⟨rfl, ?_⟩
      refine Take_S rfl (by rfl) ?_
      refine Exs_cons ?_
      refine Ex_Ret ?_
      refine Ev_lst ?_
      refine Ev_tup ?_
      refine Ev_tup ?_
      refine Ev_str ?_
      refine Ev_none ?_
      refine Ev_none ?_
      refine Ev_int ?_
      refine Ev_tup ?_
      refine Ev_tup ?_
      refine Ev_str ?_
      refine Ev_none ?_
      refine Ev_none ?_
      exact Ev_none ⟨_, rfl, _, ok0, rfl, hb6⟩
  | known =>
    obtain ⟨tk, htk⟩ : ∃ tk, PArgs.taken ⟨spot, val, br, st, pl, 0⟩ = tk := ⟨_, rfl⟩
    rw [htk]
    rcases hspot with rfl | rfl
    · refine Skip_S rfl (by rfl) ?_
      refine Skip_S rfl (by rfl) ?_
      refine Skip_SN rfl (by rfl) ?_
      refine Skip_S rfl (by rfl) ?_
      refine If_take ?_
      refine And_N rfl (by rfl) rfl ⟨rfl, ?_⟩
      refine Exs_cons ?_
      refine Ex_Ret ?_
      cases tk with
      | true =>
        refine Ev_lst ?_
        refine Ev_tup ?_
        refine Ev_tup ?_
        refine Ev_str ?_
        refine Ev_name rfl ?_
        refine Ev_none ?_
        refine Ev_none ?_
        refine Ev_tup ?_
        refine Ev_tup ?_
        refine Ev_name rfl ?_
        refine Ev_BinOp ?_
        refine Ev_name rfl ?_
        refine Ev_int ?_
        refine Op2_add ?_
        refine Ev_none ?_
        refine Ev_IfExp ?_
        refine EvB_nm rfl ?_
        refine iteT ?_
        refine Ev_tup ?_
        refine Ev_str ?_
        refine Ev_BinOp ?_
        refine Ev_name rfl ?_
        refine Ev_int ?_
        refine Op2_add ?_
        refine Ev_none ?_
        refine Ev_tup ?_
        refine Ev_name rfl ?_
        exact Ev_int ⟨_, rfl, _, ok0, by rw [pieceP, if_pos rfl, htk]; rfl, hb6⟩
      | false =>
        refine Ev_lst ?_
        refine Ev_tup ?_
        refine Ev_tup ?_
        refine Ev_str ?_
        refine Ev_name rfl ?_
        refine Ev_none ?_
        refine Ev_none ?_
        refine Ev_tup ?_
        refine Ev_tup ?_
        refine Ev_name rfl ?_
        refine Ev_BinOp ?_
        refine Ev_name rfl ?_
        refine Ev_int ?_
        refine Op2_add ?_
        refine Ev_none ?_
        refine Ev_IfExp ?_
        refine EvB_nm rfl ?_
        refine iteF ?_
        refine Ev_none ?_
        refine Ev_tup ?_
        refine Ev_name rfl ?_
        exact Ev_int ⟨_, rfl, _, ok0, by rw [pieceP, if_pos rfl, htk]; rfl, hb6⟩
    · refine Skip_S rfl (by rfl) ?_
      refine Skip_S rfl (by rfl) ?_
      refine Skip_SN rfl (by rfl) ?_
      refine Skip_S rfl (by rfl) ?_
      refine If_skip ?_
      refine And_N rfl (by rfl) rfl ⟨rfl, Take_S rfl (by rfl) ?_⟩
      cases tk with
      | true =>
        refine Exs_cons ?_
        refine Ex_Asn bR ?_
        refine Ev_lst ?_
        refine Ev_tup ?_
        refine Ev_tup ?_
        refine Ev_str ?_
        refine Ev_name rfl ?_
        refine Ev_none ?_
        refine Ev_none ?_
        refine Ev_tup ?_
        refine Ev_tup ?_
        refine Ev_str ?_
        refine Ev_BinOp ?_
        refine Ev_name rfl ?_
        refine Ev_int ?_
        refine Op2_add ?_
        refine Ev_none ?_
        refine Ev_tup ?_
        refine Ev_str ?_
        refine Ev_IfExp ?_
        refine EvB_nm rfl ?_
        refine iteT ?_
        refine Ev_BinOp ?_
        refine Ev_name rfl ?_
        refine Ev_int ?_
        refine Op2_add ?_
        refine Ev_none ?_
        refine Ev_tup ?_
        refine Ev_name rfl ?_
        refine Ev_int ?_
        refine Exs_cons ?_
        refine Ex_Ret ?_
        refine Ev_BinOp ?_
        refine Ev_name rfl ?_
        refine Ev_lst ?_
        refine Ev_tup ?_
        refine Ev_tup ?_
        refine Ev_name rfl ?_
        refine Ev_BinOp ?_
        refine Ev_name rfl ?_
        refine Ev_int ?_
        refine Op2_add ?_
        refine Ev_none ?_
        refine Ev_int ?_
        refine Ev_tup ?_
        refine Ev_name rfl ?_
        refine Ev_int ?_
        refine Op2.thaw ?_
        exact Op2_addList (sizeBig (by simp)) ⟨_, rfl, _, rfl, _, ok0, by rw [pieceP, if_neg (by simp), htk]; rfl, hb6⟩
      | false =>
        refine Exs_cons ?_
        refine Ex_Asn bR ?_
        refine Ev_lst ?_
        refine Ev_tup ?_
        refine Ev_tup ?_
        refine Ev_str ?_
        refine Ev_name rfl ?_
        refine Ev_none ?_
        refine Ev_none ?_
        refine Ev_tup ?_
        refine Ev_tup ?_
        refine Ev_str ?_
        refine Ev_BinOp ?_
        refine Ev_name rfl ?_
        refine Ev_int ?_
        refine Op2_add ?_
        refine Ev_none ?_
        refine Ev_tup ?_
        refine Ev_str ?_
        refine Ev_IfExp ?_
        refine EvB_nm rfl ?_
        refine iteF ?_
        refine Ev_BinOp ?_
        refine Ev_name rfl ?_
        refine Ev_int ?_
        refine Op2_add ?_
        refine Ev_none ?_
        refine Ev_tup ?_
        refine Ev_name rfl ?_
        refine Ev_int ?_
        refine Exs_cons ?_
        refine Ex_Ret ?_
        refine Ev_BinOp ?_
        refine Ev_name rfl ?_
        refine Ev_lst ?_
        refine Ev_tup ?_
        refine Ev_tup ?_
        refine Ev_name rfl ?_
        refine Ev_BinOp ?_
        refine Ev_name rfl ?_
        refine Ev_int ?_
        refine Op2_add ?_
        refine Ev_none ?_
        refine Ev_int ?_
        refine Ev_tup ?_
        refine Ev_name rfl ?_
        refine Ev_int ?_
        refine Op2.thaw ?_
        exact Op2_addList (sizeBig (by simp)) ⟨_, rfl, _, rfl, _, ok0, by rw [pieceP, if_neg (by simp), htk]; rfl, hb6⟩
  | turned =>
    refine Skip_S rfl (by rfl) ?_
    refine Skip_S rfl (by rfl) ?_
    refine Skip_SN rfl (by rfl) ?_
    refine Skip_S rfl (by rfl) ?_
    refine Skip_SN rfl (by rfl) ?_
    refine Skip_S rfl (by rfl) ?_
    refine Take_S rfl (by rfl) ?_
    have hbr : br = 0 ∨ br = 1 := by omega
    rcases hbr with rfl | rfl
    · refine Exs_cons ?_
      refine Ex_Asn bF ?_
      refine Ev_IfExp ?_
      refine EvB_isS rfl ?_
      refine iteTb (by rfl) ?_
      refine Ev_str ?_
      refine Exs_cons ?_
      refine Ex_Ret ?_
      refine Ev_lst ?_
      refine Ev_tup ?_
      refine Ev_tup ?_
      refine Ev_str ?_
      refine Ev_int ?_
      refine Ev_name rfl ?_
      refine Ev_int ?_
      refine Ev_tup ?_
      refine Ev_tup ?_
      refine Ev_name rfl ?_
      refine Ev_BinOp ?_
      refine Ev_name rfl ?_
      refine Ev_int ?_
      refine Op2_add ?_
      refine Ev_none ?_
      refine Ev_tup ?_
      refine Ev_name rfl ?_
      refine Ev_BinOp ?_
      refine Ev_name rfl ?_
      refine Ev_int ?_
      refine Op2_add ?_
      refine Ev_none ?_
      refine Ev_tup ?_
      refine Ev_tup ?_
      refine Ev_str ?_
      refine Ev_BinOp ?_
      refine Ev_name rfl ?_
      refine Ev_int ?_
      refine Op2_add ?_
      refine Ev_none ?_
      refine Ev_none ?_
      refine Ev_tup ?_
      refine Ev_tup ?_
      refine Ev_str ?_
      refine Ev_str ?_
      refine Ev_none ?_
      exact Ev_int ⟨_, rfl, _, ok0, rfl, hb6⟩
    · refine Exs_cons ?_
      refine Ex_Asn bF ?_
      refine Ev_IfExp ?_
      refine EvB_isS rfl ?_
      refine iteFb (by rfl) ?_
      refine Ev_str ?_
      refine Exs_cons ?_
      refine Ex_Ret ?_
      refine Ev_lst ?_
      refine Ev_tup ?_
      refine Ev_tup ?_
      refine Ev_str ?_
      refine Ev_int ?_
      refine Ev_name rfl ?_
      refine Ev_int ?_
      refine Ev_tup ?_
      refine Ev_tup ?_
      refine Ev_name rfl ?_
      refine Ev_BinOp ?_
      refine Ev_name rfl ?_
      refine Ev_int ?_
      refine Op2_add ?_
      refine Ev_none ?_
      refine Ev_tup ?_
      refine Ev_name rfl ?_
      refine Ev_BinOp ?_
      refine Ev_name rfl ?_
      refine Ev_int ?_
      refine Op2_add ?_
      refine Ev_none ?_
      refine Ev_tup ?_
      refine Ev_tup ?_
      refine Ev_str ?_
      refine Ev_BinOp ?_
      refine Ev_name rfl ?_
      refine Ev_int ?_
      refine Op2_add ?_
      refine Ev_none ?_
      refine Ev_none ?_
      refine Ev_tup ?_
      refine Ev_tup ?_
      refine Ev_str ?_
      refine Ev_str ?_
      refine Ev_none ?_
      exact Ev_int ⟨_, rfl, _, ok0, rfl, hb6⟩
  | short =>
    refine Skip_S rfl (by rfl) ?_
    refine Skip_S rfl (by rfl) ?_
    refine Skip_SN rfl (by rfl) ?_
    refine Skip_S rfl (by rfl) ?_
    refine Skip_SN rfl (by rfl) ?_
    refine Skip_S rfl (by rfl) ?_
    refine Skip_S rfl (by rfl) ?_
    refine Take_S rfl (by rfl) ?_
    refine Exs_cons ?_
    refine Ex_Asn bS ?_
    refine Ev_lst ?_
    refine Ev_lst ?_
    refine Ev_tup ?_
    refine Ev_tup ?_
    refine Ev_str ?_
    refine Ev_BinOp ?_
    refine Ev_name rfl ?_
    refine Ev_int ?_
    refine Op2_add ?_
    refine Ev_none ?_
    refine Ev_none ?_
    refine Ev_lst ?_
    refine Ev_tup ?_
    refine Ev_tup ?_
    refine Ev_str ?_
    refine Ev_int ?_
    refine Ev_name rfl ?_
    refine Ev_int ?_
    refine Ev_tup ?_
    refine Ev_tup ?_
    refine Ev_name rfl ?_
    refine Ev_BinOp ?_
    refine Ev_name rfl ?_
    refine Ev_int ?_
    refine Op2_add ?_
    refine Ev_none ?_
    refine Ev_name rfl ?_
    refine Exs_cons ?_
    refine Ex_Ret ?_
    refine Ev_Sub ?_
    refine Ev_BinOp ?_
    refine Ev_name rfl ?_
    refine Ev_lst ?_
    refine Ev_lst ?_
    refine Ev_tup ?_
    refine Ev_tup ?_
    refine Ev_str ?_
    refine Ev_int ?_
    refine Ev_name rfl ?_
    refine Ev_int ?_
    refine Ev_tup ?_
    refine Ev_tup ?_
    refine Ev_str ?_
    refine Ev_BinOp ?_
    refine Ev_name rfl ?_
    refine Ev_int ?_
    refine Op2_add ?_
    refine Ev_none ?_
    refine Ev_none ?_
    refine Ev_tup ?_
    refine Ev_name rfl ?_
    refine Ev_int ?_
    refine Op2.thaw ?_
    refine Op2_addList (sizeBig (by simp)) ⟨_, rfl, Ev_take (many := 3) R kT rfl hb5 (by omega) (by decide) (by decide) fun pick b6 hs6 hb6 => ?_⟩
    have hp : pick = 0 ∨ pick = 1 ∨ pick = 2 := by omega
    rcases hp with rfl | rfl | rfl
    · exact Op2_subList (by decide) (by decide) rfl ⟨_, rfl, _, okA 0 hs6, rfl, hb6⟩
    · exact Op2_subList (by decide) (by decide) rfl ⟨_, rfl, _, okA 1 hs6, rfl, hb6⟩
    · exact Op2_subList (by decide) (by decide) rfl ⟨_, rfl, _, okA 2 hs6, rfl, hb6⟩
  | dead =>
    refine Skip_S rfl (by rfl) ?_
    refine Skip_S rfl (by rfl) ?_
    refine Skip_SN rfl (by rfl) ?_
    refine Skip_S rfl (by rfl) ?_
    refine Skip_SN rfl (by rfl) ?_
    refine Skip_S rfl (by rfl) ?_
    refine Skip_S rfl (by rfl) ?_
    refine Skip_S rfl (by rfl) ?_
    refine Take_S rfl (by rfl) ?_
    refine Exs_cons ?_
    refine Ex_Ret ?_
    refine Ev_lst ?_
    refine Ev_tup ?_
    refine Ev_tup ?_
    refine Ev_str ?_
    refine Ev_BinOp ?_
    refine Ev_name rfl ?_
    refine Ev_int ?_
    refine Op2_add ?_
    refine Ev_none ?_
    refine Ev_int ?_
    refine Ev_tup ?_
    refine Ev_name rfl ?_
    refine Ev_none ?_
    refine Ev_tup ?_
    refine Ev_name rfl ?_
    exact Ev_none ⟨_, rfl, _, ok0, rfl, hb6⟩
  | threaded =>
    rcases hspot with rfl | rfl
    · refine Skip_S rfl (by rfl) ?_
      refine Skip_S rfl (by rfl) ?_
      refine Skip_SN rfl (by rfl) ?_
      refine Skip_S rfl (by rfl) ?_
      refine Skip_SN rfl (by rfl) ?_
      refine Skip_S rfl (by rfl) ?_
      refine Skip_S rfl (by rfl) ?_
      refine Skip_S rfl (by rfl) ?_
      refine Skip_S rfl (by rfl) ?_
      refine If_take ?_
      refine EvB_Compare ?_
      refine Ev_name rfl ?_
      refine Ev_int ?_
      refine Op2_eq ⟨_, rfl, rfl, ?_⟩
      refine Exs_cons ?_
      refine Ex_Ret ?_
      refine Ev_lst ?_
      refine Ev_tup ?_
      refine Ev_tup ?_
      refine Ev_str ?_
      refine Ev_int ?_
      refine Ev_int ?_
      refine Ev_int ?_
      refine Ev_tup ?_
      refine Ev_tup ?_
      refine Ev_name rfl ?_
      refine Ev_BinOp ?_
      refine Ev_name rfl ?_
      refine Ev_int ?_
      refine Op2_add ?_
      refine Ev_none ?_
      refine Ev_tup ?_
      refine Ev_name rfl ?_
      refine Ev_BinOp ?_
      refine Ev_name rfl ?_
      refine Ev_int ?_
      refine Op2_add ?_
      refine Ev_none ?_
      refine Ev_tup ?_
      refine Ev_tup ?_
      refine Ev_str ?_
      refine Ev_str ?_
      refine Ev_none ?_
      refine Ev_int ?_
      refine Ev_tup ?_
      refine Ev_tup ?_
      refine Ev_str ?_
      refine Ev_BinOp ?_
      refine Ev_name rfl ?_
      refine Ev_int ?_
      refine Op2_add ?_
      refine Ev_none ?_
      refine Ev_int ?_
      refine Ev_tup ?_
      refine Ev_name rfl ?_
      exact Ev_int ⟨_, rfl, _, ok0, rfl, hb6⟩
    · refine Skip_S rfl (by rfl) ?_
      refine Skip_S rfl (by rfl) ?_
      refine Skip_SN rfl (by rfl) ?_
      refine Skip_S rfl (by rfl) ?_
      refine Skip_SN rfl (by rfl) ?_
      refine Skip_S rfl (by rfl) ?_
      refine Skip_S rfl (by rfl) ?_
      refine Skip_S rfl (by rfl) ?_
      refine Skip_S rfl (by rfl) ?_
      refine If_skip ?_
      refine EvB_Compare ?_
      refine Ev_name rfl ?_
      refine Ev_int ?_
      refine Op2_eq ⟨_, rfl, rfl, ?_⟩
      refine Exs_cons ?_
      refine Ex_Ret ?_
      refine Ev_lst ?_
      refine Ev_tup ?_
      refine Ev_tup ?_
      refine Ev_str ?_
      refine Ev_int ?_
      refine Ev_int ?_
      refine Ev_int ?_
      refine Ev_tup ?_
      refine Ev_tup ?_
      refine Ev_name rfl ?_
      refine Ev_BinOp ?_
      refine Ev_name rfl ?_
      refine Ev_int ?_
      refine Op2_add ?_
      refine Ev_none ?_
      refine Ev_int ?_
      refine Ev_tup ?_
      refine Ev_tup ?_
      refine Ev_str ?_
      refine Ev_BinOp ?_
      refine Ev_name rfl ?_
      refine Ev_int ?_
      refine Op2_add ?_
      refine Ev_none ?_
      refine Ev_name rfl ?_
      refine Ev_tup ?_
      refine Ev_tup ?_
      refine Ev_str ?_
      refine Ev_str ?_
      refine Ev_none ?_
      refine Ev_int ?_
      refine Ev_tup ?_
      refine Ev_name rfl ?_
      exact Ev_int ⟨_, rfl, _, ok0, rfl, hb6⟩
end Mine
namespace Mine
set_option autoImplicit false
set_option linter.unusedVariables false
set_option maxRecDepth 100000
theorem fn_law_code (B : Base) : FnAt B.W.K 288 (qu B 288) (bo B 288) (sc B 288) (cd B 288) ["rows", "catches", "starts", "within"] :=
  FnAt.of rfl (bdS fun _ => bdS fun _ => bdS fun _ => bdS fun _ => bd0 rfl) (by rfl) (by rfl) (by rfl) (by rfl) (by decide) (by rfl)
theorem fn_law_rows (B : Base) : FnAt B.W.K 293 (qu B 293) (bo B 293) (sc B 293) (cd B 293) ["code"] :=
  FnAt.of rfl (bdS fun _ => bd0 rfl) (by rfl) (by rfl) (by rfl) (by rfl) (by decide) (by rfl)
theorem fn_law_places (B : Base) : FnAt B.W.K 300 (qu B 300) (bo B 300) (sc B 300) (cd B 300) ["flags"] :=
  FnAt.of rfl (bdS fun _ => bd0 rfl) (by rfl) (by rfl) (by rfl) (by rfl) (by decide) (by rfl)
theorem fn_law_scene (B : Base) : FnAt B.W.K 305 (qu B 305) (bo B 305) (sc B 305) (cd B 305) ["box", "name", "lies_between"] :=
  FnAt.of rfl (bdS fun _ => bdS fun _ => bdS fun _ => bd0 rfl) (by rfl) (by rfl) (by rfl) (by rfl) (by decide) (by rfl)
theorem fn_law_turned_right (B : Base) : FnAt B.W.K 310 (qu B 310) (bo B 310) (sc B 310) (cd B 310) ["code", "due", "caught", "starts", "before"] :=
  FnAt.of rfl (bdS fun _ => bdS fun _ => bdS fun _ => bdS fun _ => bdS fun _ => bd0 rfl) (by rfl) (by rfl) (by rfl) (by rfl) (by decide) (by rfl)
theorem fn_law_pass_right (B : Base) : FnAt B.W.K 315 (qu B 315) (bo B 315) (sc B 315) (cd B 315) ["box", "name", "lies_between"] :=
  FnAt.of rfl (bdS fun _ => bdS fun _ => bdS fun _ => bd0 rfl) (by rfl) (by rfl) (by rfl) (by rfl) (by decide) (by rfl)
end Mine
namespace Mine
set_option autoImplicit false
set_option linter.unusedVariables false
set_option maxRecDepth 100000

noncomputable abbrev triD (k : PCat) : D := .tup [natD k.first, natD k.last, natD k.target]
theorem goTup {es : List Expr} {k : Nat} {p : Pos} {l : List D} {α : Type} {f : α → List D} {xs : List α} : GoOk (.Tuple es k p) (.list l) (xs.map fun x => .tup (f x)) := .inr ⟨es, k, p, rfl, ⟨_, rfl⟩, fun x hx => by
  obtain ⟨q, _, rfl⟩ := List.mem_map.mp hx; exact ⟨_, rfl⟩⟩

theorem c_law_code (B : Base) (rows : List PRow) (cats : List PCat) (starts : List Nat) (kids : List D) (hz : rows.length ≤ 1000) (hz' : cats.length ≤ 1000) :
    Calls B.W 1 (.ref 288) [.list (rows.map rowT), .list (cats.map triD), .list (starts.map natD), .list kids] (· = codeD ⟨rows, cats, starts⟩ kids) := by
  refine Calls_fn (fn_law_code B) rfl fun A L hE Fb hb hx hF R => ?_
  refine Exs_cons <| Ex_AssignComp (τ := []) _ R.handled rfl rfl (compCell rfl) (compNames rfl) clNil (.inl rfl) (.inl rfl) <|
    CompH_map rowT rows (fun _ => true) rowD (Ev_name rfl ⟨_, rfl, .list _, noRng, goName, sizeBig (by omega), trivial, ?_⟩) trivial fun L' hE' Fb' hb' hx' hF' r hr => ?_
  · rw [filtT]
    refine Exs_freeze "made" rfl (.inl rfl) <| Exs_cons <| Ex_Ret <| Ev_fnV (n := 0) R rfl rfl rfl rfl <| Ev_str <| Ev_str <| Ev_none <| Ev_lst <| Ev_str <| Ev_str <| Ev_name rfl <| Ev.thaw <| Ev_Comp (τ := []) _ R.handled rfl rfl (compCell rfl) (compNames rfl) clNil <|
      CompH_map triD cats (fun _ => true) catD (Ev_name rfl ⟨_, rfl, .list _, noRng, goTup, sizeBig (by omega), trivial, _, rfl, ?_⟩) trivial fun L' hE' Fb' hb' hx' hF' r hr => ?_
    · rw [filtT]
      exact Ev_name rfl <| Ev_name rfl <| (c_Code B 0 _ _ _ _ _ _ _ _).eq (Nat.le_refl _) rfl
    · exact Asg_tuple R.handled rfl rfl <| Asg_name (.inl rfl) <| Asg_name (.inl rfl) <| Asg_name (.inl rfl) ⟨rfl, Ev_fnV (n := 0) R rfl rfl rfl rfl <| Ev_str <| Ev_name rfl <| Ev_name rfl <| Ev_name rfl <| Ev_int <| (c_Catch B 0 _ _ _ _ _).eq (Nat.le_refl _) ⟨rfl, trivial⟩⟩
  · exact Asg_name (.inl rfl) ⟨rfl, Ev_fnV (n := 0) R rfl rfl rfl rfl <| Ev_Sub <| Ev_name rfl <| Ev_int <| Op2_subTup (by decide) (by decide) rfl <| Ev_Sub <| Ev_name rfl <| Ev_int <| Op2_subTup (by decide) (by decide) rfl <| Ev_Sub <| Ev_name rfl <| Ev_int <| Op2_subTup (by decide) (by decide) rfl <| Ev_none <| Ev_int <|
      (c_Row B 0 _ _ _ _ _).eq (Nat.le_refl _) ⟨rfl, trivial⟩⟩

theorem c_law_rows (B : Base) (c : PCode) (kids : List D) (hz : c.rows.length ≤ 1000) : Calls B.W 1 (.ref 293) [codeD c kids] (· = .list (c.rows.map rowT)) := by
  refine Calls_fn (fn_law_rows B) rfl fun A L hE Fb hb hx hF R => ?_
  refine Exs_cons <| Ex_Return <| Ev.thaw <| Ev_Comp (τ := []) _ R.handled rfl rfl (compCell rfl) (compNames rfl) clNil <|
    CompH_map rowD c.rows (fun _ => true) rowT (Ev_nAttr rfl rfl rfl ⟨_, rfl, .list _, noRng, goName, sizeBig (by omega), trivial, _, rfl, _, rfl, ?_⟩) trivial fun L' hE' Fb' hb' hx' hF' r hr => ?_
  · show _ = _
    rw [filtT]
  · exact Asg_name (.inl rfl) ⟨rfl, Ev_tup <| Ev_nAttr rfl rfl rfl <| Ev_nAttr rfl rfl rfl <| Ev_nAttr rfl rfl rfl ⟨rfl, trivial⟩⟩

noncomputable def goesP : Nat → List Bool → List Nat
  | n, [] => [n]
  | n, f :: fs => n :: goesP (n + if f then 1 else 0) fs
noncomputable def goStep (a : List Nat × Nat) (f : Bool) : List Nat × Nat := (a.1 ++ [a.2], a.2 + if f then 1 else 0)
theorem goFold : ∀ (fs : List Bool) (a : List Nat × Nat), (fs.foldl goStep a).1 ++ [(fs.foldl goStep a).2] = a.1 ++ goesP a.2 fs
  | [], a => rfl
  | f :: fs, a => by
    rw [List.foldl_cons, goFold fs, goesP]; simp [goStep]
theorem c_law_places (B : Base) (fs : List Bool) (hz : fs.length ≤ 1000) : Calls B.W 1 (.ref 300) [.list (fs.map D.bool)] (· = .list ((goesP 0 fs).map natD)) := by
  refine Calls_fn (fn_law_places B) rfl fun A L hE Fb hb hx hF R => ?_
  refine Exs_cons <| Ex_AssignF (.inl rfl) (.inl rfl) (Ev_ListF <| EvSp_cons <| Ev_int <| EvSp_nil ⟨[_], rfl, by decide, _, rfl, ?_⟩)
  refine Exs_cons (Ex_ForFoldR D.bool fs goStep (fun rest a => a.1.length + rest.length ≤ fs.length) (fun a => [("found", .own ((a.1 ++ [a.2]).map natD))]) ([], 0) R.handled
    (Ev_name rfl ⟨_, rfl, .list _, noRng, goName, by simp, rfl, trivial⟩) (fun f rest a hf ha => ?_) fun σ₂ hP hS => ?_)
  · rw [List.length_cons] at ha
    refine Asg_name (.inl rfl) <| Exs_cons <| Ex_Expr <| Ev_append rfl <| Ev_BinOp <| Ev_Sub <| Ev_own rfl <| Ev_Unary <| Ev_int <| Op1_neg <| Op2_subOwnNeg (k := -1) (d := natD a.2) (ds := (a.1 ++ [a.2]).map natD) rfl (by decide) (by simp; omega) (by decide) (by
      have e : ((-1 : Int) + ((((a.1 ++ [a.2]).map natD).length : Nat) : Int)).toNat = a.1.length := by simp only [List.length_map, List.length_append, List.length_cons, List.length_nil]; omega
      rw [e]; simp) <| Ev_biV (n := 0) R rfl rfl rfl (by decide) rfl rfl <| Ev_name rfl <| Calls_intBool <| Op2_add ⟨_, (a.1 ++ [a.2]).map natD, rfl, rfl, sizeBig (by simp; omega), Exs_nil ⟨by simp [goStep]; omega, own_eq ?_, trivial⟩⟩
    cases f <;> simp [goStep]
  · have e := goFold fs ([], 0)
    rw [List.nil_append] at e
    refine Exs_weaken hS ?_
    rw [e]
    exact Exs_freeze "found" rfl (.inl rfl) <| Exs_cons <| Ex_Ret <| Ev_name rfl rfl
end Mine
namespace Mine
set_option autoImplicit false
set_option linter.unusedVariables false
set_option maxRecDepth 100000

set_option maxHeartbeats 8000000 in
theorem c_piece (B : Base) (p : Pass) (i k : Nat) (hk : k ≤ 900) (hi : i ≤ 1000) (fl : Bool) (b : List D) (hb : BoxOk k fl b) :
    CallsB B.W 2 (.ref 278) b [.str p.s, natD i] (fun d b' => ∃ a : PArgs, a.Ok ∧ d = .list ((pieceP p a i).map lrowD) ∧ BoxOk (k + 6) fl b') := by
  refine CallsB_fn (fn_law_piece B) rfl fun A L bx hE Fb hb' hx hF R => ?_
  have hu : A.units + 100 < cLine := by have := R.units; omega
  refine Exs_cons ?_
  refine @Ex_two _ _ _ _ _ _ _ _ _ _ _ _ _ R.handled rfl (.inl rfl) (.inl rfl) ?_ rfl
  refine Ev_tup ?_
  refine Ev_take (many := 2) R rfl rfl hb (by omega) (by decide) (by decide) fun spot b1 hs1 hb1 => ?_
  refine Ev_Sub ?_
  refine Ev_lst ?_
  refine Ev_none ?_
  refine Ev_bool ?_
  refine Ev_bool ?_
  refine Ev_int ?_
  refine Ev_take (many := 4) R rfl rfl hb1 (by omega) (by decide) (by decide) fun val b2 hs2 hb2 => ?_
  refine Op2_subList (by omega) (by omega) (value_at hs2) ⟨_, _, rfl, ?_⟩
  have hsc : (valueOf val).d.scalar = true := by cases valueOf val <;> rfl
  refine @Exs_weaken _ _ _ _ _ _ [("box", .own b2), ("name", .val (.str p.s)), ("at", .val (natD i)), ("value", .val (valueOf val).d), ("spot", .val (natD spot))] ⟨rfl, rfl, rfl, rfl, rfl, trivial⟩ ?_
  -- holds
  refine @Exs_join _ _ _ _ [("box", .own b2), ("name", .val (.str p.s)), ("at", .val (natD i)), ("value", .val (valueOf val).d), ("spot", .val (natD spot)), ("holds", .val (.bool (holdsV (valueOf val))))] _ _ _ ?_ ?_
  · refine Ex_Asn (.inl rfl) ?_
    refine Ev_BoolOp ?_
    refine EvBo_consO ?_
    refine Ev_Compare ?_
    refine Ev_name rfl ?_
    refine Ev_bool ?_
    refine Op2_isTrue hsc ⟨_, rfl, ?_⟩
    refine ite_B (fun h => ?_) (fun h => ?_)
    · exact ⟨rfl, rfl, rfl, rfl, rfl, rfl, val_eq (by rw [holds_yes h]), trivial⟩
    · refine EvBo_one ?_
      refine Ev_Compare ?_
      refine Ev_name rfl ?_
      refine Ev_int ?_
      exact Op2_eqD (n := 0) (m := 0) hu (V.isPy _) .int (by decide) ⟨_, rfl, rfl, rfl, rfl, rfl, rfl, rfl, val_eq (by rw [holds_no h]), trivial⟩
  -- branch, op
  refine Exs_cons ?_
  refine @Ex_two _ _ _ _ _ _ _ _ _ _ _ _ _ R.handled rfl (.inl rfl) (.inl rfl) ?_ rfl
  refine Ev_tup ?_
  refine Ev_Sub ?_
  refine Ev_lst ?_
  refine Ev_str ?_
  refine Ev_str ?_
  refine Ev_take (many := 2) R rfl rfl hb2 (by omega) (by decide) (by decide) fun br b3 hs3 hb3 => ?_
  refine Op2_subList (by omega) (by omega) (br_at hs3) ?_
  refine Ev_Sub ?_
  refine Ev_lst ?_
  refine Ev_str ?_
  refine Ev_str ?_
  refine Ev_str ?_
  refine Ev_str ?_
  refine Ev_take (many := 4) R rfl rfl hb3 (by omega) (by decide) (by decide) fun st b4 hs4 hb4 => ?_
  refine Op2_subList (by omega) (by omega) (st_at hs4) ⟨_, _, rfl, ?_⟩
  -- taken
  refine Exs_cons ?_
  refine Ex_Asn (.inl rfl) ?_
  refine Ev_Compare ?_
  refine Ev_name rfl ?_
  refine Ev_Compare ?_
  refine Ev_name rfl ?_
  refine Ev_str ?_
  refine Op2_eqS ?_
  refine Op2_eqB ?_
  have etk : (holdsV (valueOf val) == ((brOf br).s == Str.ofString "jumpif")) = (holdsV (valueOf val) == (brOf br == .jumpif)) := by rw [show Str.ofString "jumpif" = Op.jumpif.s from rfl, op_eq]
  rw [etk]
  refine @Exs_weaken _ _ _ _ _ _ [("box", .own b4), ("name", .val (.str p.s)), ("at", .val (natD i)), ("value", .val (valueOf val).d), ("spot", .val (natD spot)), ("branch", .val (.str (brOf br).s)), ("op", .val (.str (stOf st).s)), ("taken", .val (.bool (PArgs.taken ⟨spot, val, br, st, 0, 0⟩)))] ⟨rfl, rfl, rfl, rfl, rfl, rfl, rfl, rfl, trivial⟩ ?_
  -- store
  refine @Exs_join _ _ _ _ [("box", .own b4), ("name", .val (.str p.s)), ("at", .val (natD i)), ("value", .val (valueOf val).d), ("spot", .val (natD spot)), ("branch", .val (.str (brOf br).s)), ("taken", .val (.bool (PArgs.taken ⟨spot, val, br, st, 0, 0⟩))), ("store", .val (rowT (PArgs.store ⟨spot, val, br, st, 0, 0⟩)))] _ _ _ ?_ ?_
  · refine Ex_Asn (.inl rfl) ?_
    refine Ev_IfExp ?_
    refine EvB_Compare ?_
    refine Ev_name rfl ?_
    refine Ev_str ?_
    refine Op2_eqS ⟨_, rfl, ?_⟩
    refine ite_eq (op_eq (stOf st) .setl) (fun h => ?_) (fun h => ?_)
    · have h' : stOf st = .setl := by simpa using h
      refine Ev_tup ?_
      refine Ev_str ?_
      refine Ev_int ?_
      exact Ev_name rfl ⟨rfl, rfl, rfl, rfl, rfl, rfl, rfl, rfl, val_eq (by rw [PArgs.store, if_pos h']; rfl), trivial⟩
    · have h' : stOf st ≠ .setl := by simpa using h
      refine Ev_tup ?_
      refine Ev_name rfl ?_
      refine Ev_str ?_
      exact Ev_none ⟨rfl, rfl, rfl, rfl, rfl, rfl, rfl, rfl, val_eq (by rw [PArgs.store, if_neg h']; rfl), trivial⟩
  -- plain
  refine Exs_cons ?_
  refine Ex_Asn (.inl rfl) ?_
  refine Ev_lst ?_
  refine Ev_tup ?_
  refine Ev_str ?_
  refine Ev_name rfl ?_
  refine Ev_none ?_
  refine Ev_tup ?_
  refine Ev_str ?_
  refine Ev_none ?_
  refine Ev_none ?_
  refine Ev_tup ?_
  refine Ev_str ?_
  refine Ev_int ?_
  refine Ev_name rfl ?_
  refine Ev_tup ?_
  refine Ev_str ?_
  refine Ev_str ?_
  refine Ev_none ?_
  refine Ev_tup ?_
  refine Ev_str ?_
  refine Ev_str ?_
  refine Ev_none ?_
  refine Exs_cons ?_
  refine Ex_Asn (.inl rfl) ?_
  refine Ev_Sub ?_
  refine Ev_BinOp ?_
  refine Ev_name rfl ?_
  refine Ev_lst ?_
  refine Ev_tup ?_
  refine Ev_str ?_
  refine Ev_none ?_
  refine Ev_none ?_
  refine Ev_tup ?_
  refine Ev_str ?_
  refine Ev_none ?_
  refine Ev_none ?_
  refine Op2.thaw ?_
  refine Op2_addList (sizeBig (by simp)) ⟨_, rfl, ?_⟩
  refine Ev_take (many := 7) R rfl rfl hb4 (by omega) (by decide) (by decide) fun pl b5 hs5 hb5 => ?_
  refine Op2_subList (by omega) (by omega) (plain_at (v := valueOf val) (spot := spot) hs5) ?_
  -- pop, leave
  refine Exs_cons ?_
  refine Ex_AssignTup ?_
  refine Ev_tup ?_
  refine Ev_tup ?_
  refine Ev_str ?_
  refine Ev_none ?_
  refine Ev_none ?_
  refine Ev_tup ?_
  refine Ev_str ?_
  refine Ev_none ?_
  refine Ev_none ⟨_, rfl, ?_⟩
  refine Asg_tuple R.handled rfl rfl ?_
  refine Asg_name (.inl rfl) ?_
  refine Asg_name (.inl rfl) ?_
  refine @Exs_weaken _ _ _ _ _ _ [("box", .own b5), ("name", .val (.str p.s)), ("at", .val (natD i)), ("value", .val (valueOf val).d), ("spot", .val (natD spot)), ("branch", .val (.str (brOf br).s)), ("taken", .val (.bool (PArgs.taken ⟨spot, val, br, st, pl, 0⟩))), ("store", .val (rowT (PArgs.store ⟨spot, val, br, st, pl, 0⟩))), ("plain", .val (rowT (plainOf (valueOf val) spot pl))), ("pop", .val (rowT popR)), ("leave", .val (rowT leaveR))] ⟨rfl, rfl, rfl, rfl, rfl, rfl, rfl, rfl, rfl, rfl, rfl, trivial⟩ ?_
  exact piece_tail B p i k hk hi R rfl (.inl rfl) (.inl rfl) (.inl rfl) spot val br st pl hs1 hs2 hs3 hs4 hs5 fl b5 hb5
end Mine
namespace Mine
set_option autoImplicit false
set_option linter.unusedVariables false
set_option maxRecDepth 100000

theorem pieceP_len (p : Pass) (a : PArgs) (i : Nat) : (pieceP p a i).length ≤ 5 ∧ 1 ≤ (pieceP p a i).length := by
  unfold pieceP
  cases p <;> dsimp only <;> (repeat' split) <;> simp
section
variable {B : Base} {C : Fx B.W} {A : Around} {σ : LS}
theorem Ev_piece {n : Nat} {p1 xp pos : Pos} {e1 e2 : Expr} {p : Pass} {k i : Nat} {fl : Bool} {b : List D} {Φ : Tmp → LS → Prop} (R : Room A (n + 2)) (kq : C.env.kindOf "_law_piece" = some .globalImplicit) (e : σ.lookup ("box" : Str) = some (.own b)) (hb : BoxOk k fl b) (hk : k ≤ 900) (hi : i ≤ 1000)
    (h : EvV C A [e1, e2] σ fun ds σ₂ => ds = [.str p.s, natD i] ∧ σ₂ = σ ∧ ∀ a b', PArgs.Ok a → BoxOk (k + 6) fl b' → Φ (.val (.list ((pieceP p a i).map lrowD))) (upd σ "box" (.own b'))) (hp : PlainEs C [e1, e2] := by rfl)
    (hp' : (backTo pos (starEach (.Name "box" xp :: [e1, e2]) C.env)).any (·.1) = false := by rfl)
    (he : eval (.Call (.Name "_law_piece" p1) (.Name "box" xp :: [e1, e2]) [] pos) C.env = (do callWith pos (← eval (.Name "_law_piece" p1) C.env) [] (backTo pos (starEach (.Name "box" xp :: [e1, e2]) C.env)) []) := by rfl) :
    Ev C A (.Call (.Name "_law_piece" p1) [.Name "box" xp, e1, e2] [] pos) σ Φ :=
  Ev_CallB R (Ev_fn kq rfl rfl ⟨_, b, rfl, rfl, e, EvSp.mono (EvV.sp hp h) fun ts σ₂ ⟨ds, e1, _, e2, e3, q⟩ => by
    subst e2; subst e3
    exact ⟨_, b, e1, e, (c_piece B p i k hk hi fl b hb).mono (by omega) fun d b' ⟨a, h1, h2, h3⟩ => by subst h2; exact q a b' h1 h3⟩⟩) hp' he
end
set_option maxHeartbeats 1000000 in
theorem c_between (B : Base) (p : Pass) (i k : Nat) (hk : k ≤ 900) (hi : i ≤ 900) (fl : Bool) (b : List D) (hb : BoxOk k fl b) :
    CallsB B.W 3 (.ref 283) b [.str p.s, natD i] (fun d b' => ∃ a : PArgs, a.Ok ∧ d = .list ((betweenP p a i).map lrowD) ∧ BoxOk (k + 6) fl b') := by
  refine CallsB_fn (fn_law_between B) rfl fun A L bx hE Fb hb' hx hF R => ?_
  refine Exs_cons ?_
  refine Ex_AssignCompE R.handled rfl rfl (compCell rfl) (compNames rfl) clNil (.inl rfl) (.inr (by decide)) ?_
  refine CompE_map lrowD ?_
  refine Ev_piece (n := 0) (p := p) (i := i + 2) R rfl rfl hb hk (by omega) ?_
  refine Ev_name rfl ?_
  refine Ev_BinOp ?_
  refine Ev_name rfl ?_
  refine Ev_int ?_
  refine Op2_add ⟨rfl, rfl, fun a b' ha hb1 => ?_⟩
  obtain ⟨l1, l2⟩ := pieceP_len p a (i + 2)
  refine ⟨[], pieceP p a (i + 2), fun _ => true, fun x => rowT x.1, _, rfl, .list _, noRng, goName, sizeBig (by omega), trivial, trivial, fun L' hE' Fb' hb' hx' hF' r hr => ?_, ?_⟩
  · exact Asg_name (.inl rfl) ⟨rfl, Ev_Sub <| Ev_name rfl <| Ev_int <| Op2_subTup (by decide) (by decide) rfl ⟨rfl, trivial⟩⟩
  rw [filtT]
  refine Exs_freeze "rows" rfl (.inr (by decide)) ?_
  refine Exs_cons ?_
  refine Ex_Asn (.inl rfl) ?_
  refine Ev_BinOp ?_
  refine Ev_BinOp ?_
  refine Ev_BinOp ?_
  refine Ev_name rfl ?_
  refine Ev_int ?_
  refine Op2_add ?_
  refine Ev_biV (n := 2) R rfl rfl rfl (by decide) rfl rfl ?_
  refine Ev_name rfl ?_
  refine Calls_len (by simp; omega) ?_
  refine Op2_add ?_
  refine Ev_int ?_
  refine Op2_sub ?_
  refine @Exs_weaken _ _ _ _ _ _ [("box", .own b'), ("rows", .val (.list ((pieceP p a (i + 2)).map fun x => rowT x.1))), ("goal", .val (natD (i + 2 + (pieceP p a (i + 2)).length - 1)))] ⟨rfl, rfl, val_eq (by
    rw [List.length_map]; exact congrArg D.int (by omega)), trivial⟩ ?_
  refine Exs_cons ?_
  refine Ex_Ret ?_
  refine Ev_BinOp ?_
  refine Ev_lst ?_
  refine Ev_tup ?_
  refine Ev_tup ?_
  refine Ev_str ?_
  refine Ev_int ?_
  refine Ev_int ?_
  refine Ev_int ?_
  refine Ev_tup ?_
  refine Ev_tup ?_
  refine Ev_str ?_
  refine Ev_name rfl ?_
  refine Ev_none ?_
  refine Ev_int ?_
  refine Ev.thaw ?_
  refine Ev_Comp (τ := []) _ R.handled rfl rfl (compCell rfl) (compNames rfl) clNil <|
    CompH_map (fun x : LRow => rowT x.1) (pieceP p a (i + 2)) (fun _ => true) (fun x => lrowD (x.1, .keep)) (Ev_name rfl ⟨_, rfl, .list _, noRng, goName, sizeBig (by omega), trivial, _, rfl, ?_⟩) trivial fun L' hE' Fb' hb' hx' hF' r hr => ?_
  · rw [filtT]
    refine Op2.thaw ?_
    refine Op2_addList (sizeBig (by simp; omega)) ⟨_, rfl, _, rfl, a, ha, ?_, hb1⟩
    rw [betweenP, List.map_append, List.map_map]; rfl
  · exact Asg_name (.inl rfl) ⟨rfl, Ev_tup <| Ev_name rfl <| Ev_int ⟨rfl, trivial⟩⟩
end Mine
namespace Mine
set_option autoImplicit false
set_option genSizeOf false
set_option genInjectivity false
set_option linter.unusedVariables false

/- the scenes, as plain data -/
noncomputable def partP (p : Pass) (btw : Bool) (a : PArgs) (i : Nat) : List LRow := (if btw then betweenP p a i else pieceP p a i) ++ [(undefR .b, .keep), (popR, .keep)]
noncomputable def headL : List LRow := [(undefR .a, .keep), (popR, .keep)]
noncomputable def endL : List LRow := [(⟨.push, .nat 1, .none⟩, .keep), (leaveR, .keep)]
noncomputable def scStep (p : Pass) (btw : Bool) (st : List LRow × Nat) (a : PArgs) : List LRow × Nat := (st.1 ++ partP p btw a st.1.length, st.1.length)
noncomputable def scSt (p : Pass) (btw : Bool) (l : List PArgs) : List LRow × Nat := l.foldl (scStep p btw) (headL, 0)
structure PScene where
  rows : List LRow
  second : Nat
  first : Nat
  last : Nat
  two : Bool
noncomputable def staysB (x : LRow) : Bool := x.2 != .drop
noncomputable def dueRow (x : LRow) : PRow := match x.2 with
  | .to r => r
  | _ => x.1
noncomputable def PScene.plain (s : PScene) : List PRow := s.rows.map (·.1)
noncomputable def PScene.goes (s : PScene) : List Nat := goesP 0 (s.rows.map staysB)
noncomputable def PScene.due (s : PScene) : List PRow := ((s.rows.filter staysB).map dueRow).map (retarget s.goes)
noncomputable def PScene.cat (s : PScene) : PCat := ⟨s.first, s.last, s.rows.length - 2⟩
noncomputable def PScene.caught (s : PScene) : List PCat := ([s.cat].map (recatch s.goes)).filter fun k => k.first < k.last
noncomputable def PScene.starts (s : PScene) : List Nat := if s.two then [0, s.second] else [0]
noncomputable def PScene.goeS (s : PScene) : List Nat := s.starts.map fun i => s.goes.getD i 0
noncomputable abbrev caughtD (k : PCat) : D := .tup [.str "ensure", natD k.first, natD k.last, natD k.target, .int 1]
noncomputable abbrev sceneD (s : PScene) : D := .tup [.list (s.plain.map rowT), .list ([s.cat].map triD), .list (s.starts.map natD), .list (s.due.map rowT), .list (s.caught.map caughtD), .list (s.goeS.map natD)]
structure IsScene (p : Pass) (btw fl : Bool) (s : PScene) : Prop where
  made : ∃ l : List PArgs, l.length = (if fl then 1 else 2) ∧ (∀ a ∈ l, a.Ok) ∧ s.rows = (scSt p btw l).1 ++ endL ∧ s.second = (scSt p btw l).2
  first : s.first < s.last
  last : s.last ≤ s.rows.length
/-- jumps lead to places below n -/
noncomputable def JOk (n : Nat) (x : LRow) : Prop := RowOk n x.1 ∧ RowOk n (dueRow x)
theorem RowOk.of {n : Nat} {o : Op} {t : Nat} {b : V} (h : t < n) : RowOk n ⟨o, .nat t, b⟩ := fun _ => ⟨t, rfl, h⟩
theorem RowOk.no {n : Nat} {r : PRow} (h : r.op.isJump = false) : RowOk n r := fun e => by rw [h] at e; cases e
theorem RowOk.mono {n m : Nat} {r : PRow} (h : RowOk n r) (hm : n ≤ m) : RowOk m r := fun e => let ⟨t, a, b⟩ := h e; ⟨t, a, by omega⟩
theorem JOk.mono {n m : Nat} {r : LRow} (h : JOk n r) (hm : n ≤ m) : JOk m r := ⟨h.1.mono hm, h.2.mono hm⟩
theorem plain_no (v : V) (spot pl : Nat) : (plainOf v spot pl).op.isJump = false := by
  unfold plainOf; split <;> rfl
theorem store_no (a : PArgs) : a.store.op.isJump = false := by
  unfold PArgs.store; split
  · rfl
  · rcases a with ⟨_, _, _, st, _, _⟩
    show (stOf st).isJump = false
    unfold stOf; split <;> rfl
theorem piece_ok (p : Pass) (a : PArgs) (i : Nat) : ∀ x ∈ pieceP p a i, JOk (i + (pieceP p a i).length + 2) x := by
  have hp : a.plain.op.isJump = false := plain_no _ _ _
  have hs := store_no a
  have all2 : ∀ {n : Nat} {x y : LRow}, JOk n x → JOk n y → ∀ z ∈ [x, y], JOk n z := fun h1 h2 z hz => by
    simp only [List.mem_cons, List.not_mem_nil, or_false] at hz; rcases hz with rfl | rfl <;> assumption
  intro x hx
  unfold pieceP at hx ⊢
  cases p <;> dsimp only at hx ⊢ <;> (repeat' split at hx) <;> simp only [List.mem_cons, List.not_mem_nil, or_false] at hx <;>
    (rcases hx with rfl | rfl | rfl | rfl | rfl <;> refine ⟨?_, ?_⟩ <;> simp only [dueRow] <;> first | exact .no rfl | exact .no hp | exact .no hs | (refine .of ?_; simp; try omega) | (split <;> first | exact .no rfl | (refine .of ?_; simp; try omega)))
theorem between_len (p : Pass) (a : PArgs) (i : Nat) : (betweenP p a i).length = 2 + (pieceP p a (i + 2)).length := by simp [betweenP]; omega
theorem part_len (p : Pass) (btw : Bool) (a : PArgs) (i : Nat) : 3 ≤ (partP p btw a i).length ∧ (partP p btw a i).length ≤ 9 := by
  unfold partP
  cases btw with
  | true => have := pieceP_len p a (i + 2); have := between_len p a i; simp only [if_pos, List.length_append, List.length_cons, List.length_nil]; omega
  | false => have := pieceP_len p a i; simp only [Bool.false_eq_true, if_false, List.length_append, List.length_cons, List.length_nil]; omega
theorem undef_ok {n : Nat} (s : Sy) : JOk n (undefR s, .keep) := ⟨.no rfl, .no rfl⟩
theorem pop_ok {n : Nat} : JOk n (popR, .keep) := ⟨.no rfl, .no rfl⟩
theorem part_ok (p : Pass) (btw : Bool) (a : PArgs) (i : Nat) : ∀ x ∈ partP p btw a i, JOk (i + (partP p btw a i).length) x := by
  intro x hx
  unfold partP at hx ⊢
  cases btw with
  | false =>
    simp only [Bool.false_eq_true, if_false, List.mem_append, List.mem_cons, List.not_mem_nil, or_false, List.length_append, List.length_cons, List.length_nil] at hx ⊢
    rcases hx with hx | rfl | rfl
    · exact (piece_ok p a i x hx).mono (by omega)
    · exact undef_ok _
    · exact pop_ok
  | true =>
    simp only [if_true, List.mem_append, List.mem_cons, List.not_mem_nil, or_false, List.length_append, List.length_cons, List.length_nil] at hx ⊢
    rw [between_len]
    rcases hx with hx | rfl | rfl
    · unfold betweenP at hx
      simp only [List.cons_append, List.nil_append, List.mem_cons, List.mem_map] at hx
      rcases hx with rfl | rfl | ⟨y, hy, rfl⟩
      · exact ⟨.no rfl, .no rfl⟩
      · have := pieceP_len p a (i + 2)
        exact ⟨.of (by omega), .of (by omega)⟩
      · have h := (piece_ok p a (i + 2) y hy).1
        exact ⟨h.mono (by omega), h.mono (by omega)⟩
    · exact undef_ok _
    · exact pop_ok
theorem scFold (p : Pass) (btw : Bool) : ∀ (l : List PArgs) (st : List LRow × Nat), 2 ≤ st.1.length → (st.2 = 0 ∨ st.2 + 3 ≤ st.1.length) → (∀ x ∈ st.1, JOk st.1.length x) →
    2 ≤ (l.foldl (scStep p btw) st).1.length ∧ (l.foldl (scStep p btw) st).1.length ≤ st.1.length + 9 * l.length ∧ ((l.foldl (scStep p btw) st).2 = 0 ∨ (l.foldl (scStep p btw) st).2 + 3 ≤ (l.foldl (scStep p btw) st).1.length) ∧ ∀ x ∈ (l.foldl (scStep p btw) st).1, JOk (l.foldl (scStep p btw) st).1.length x
  | [], st, h1, h2, h3 => ⟨h1, by simp, h2, h3⟩
  | a :: l, st, h1, h2, h3 => by
    have hl := part_len p btw a st.1.length
    have hs : (scStep p btw st a).1.length = st.1.length + (partP p btw a st.1.length).length := by simp [scStep]
    have := scFold p btw l (scStep p btw st a) (by omega) (.inr (by show st.1.length + 3 ≤ _; omega)) (fun x hx => by
      rcases List.mem_append.mp hx with hx | hx
      · exact (h3 x hx).mono (by omega)
      · rw [hs]; exact part_ok p btw a _ x hx)
    rw [List.foldl_cons]
    refine ⟨this.1, ?_, this.2.2⟩
    rw [List.length_cons]
    omega
theorem sc_len (p : Pass) (btw : Bool) (l : List PArgs) : 2 ≤ (scSt p btw l).1.length ∧ (scSt p btw l).1.length ≤ 2 + 9 * l.length ∧ ((scSt p btw l).2 = 0 ∨ (scSt p btw l).2 + 3 ≤ (scSt p btw l).1.length) ∧ ∀ x ∈ (scSt p btw l).1, JOk (scSt p btw l).1.length x :=
  scFold p btw l (headL, 0) (by decide) (.inl rfl) fun x hx => by
    simp only [headL, List.mem_cons, List.not_mem_nil, or_false] at hx
    rcases hx with rfl | rfl
    · exact undef_ok _
    · exact pop_ok
theorem IsScene.len {p : Pass} {btw fl : Bool} {s : PScene} (h : IsScene p btw fl s) : 4 ≤ s.rows.length ∧ s.rows.length ≤ 22 ∧ s.second < s.rows.length := by
  obtain ⟨l, h1, _, h3, h4⟩ := h.made
  obtain ⟨a1, a2, a3, _⟩ := sc_len p btw l
  have : l.length ≤ 2 := by rw [h1]; split <;> omega
  rw [h3, h4, List.length_append]
  simp only [endL, List.length_cons, List.length_nil]
  omega
theorem IsScene.ok {p : Pass} {btw fl : Bool} {s : PScene} (h : IsScene p btw fl s) : ∀ x ∈ s.rows, JOk s.rows.length x := by
  obtain ⟨l, h1, _, h3, h4⟩ := h.made
  obtain ⟨a1, a2, a3, a4⟩ := sc_len p btw l
  intro x hx
  rw [h3] at hx ⊢
  rw [List.length_append]
  rcases List.mem_append.mp hx with hx | hx
  · exact (a4 x hx).mono (by omega)
  · simp only [endL, List.mem_cons, List.not_mem_nil, or_false] at hx
    rcases hx with rfl | rfl <;> exact ⟨.no rfl, .no rfl⟩
theorem goesP_len : ∀ (fs : List Bool) (n : Nat), (goesP n fs).length = fs.length + 1
  | [], n => rfl
  | f :: fs, n => by rw [goesP, List.length_cons, goesP_len fs, List.length_cons]
theorem PScene.goes_len (s : PScene) : s.goes.length = s.rows.length + 1 := by rw [PScene.goes, goesP_len, List.length_map]
end Mine
namespace Mine
set_option autoImplicit false
set_option linter.unusedVariables false
set_option maxRecDepth 100000
section
variable {W : Wd} {C : Fx W} {A : Around} {σ : LS}
theorem Ev_boxV {n : Nat} {x : Str} {f : Value} {p1 xp pos : Pos} {es : List Expr} {b : List D} {Φ : Tmp → LS → Prop} (R : Room A n) (kq : C.env.kindOf x = some .globalImplicit) (e : nsIn W.K mainGlobals x = some (some f)) (hv : handedIn f = true) (hk : keepOk W.K f = true)
    (eb : σ.lookup ("box" : Str) = some (.own b))
    (h : EvV C A es σ fun ds σ₂ => ∃ b₂, σ₂.lookup ("box" : Str) = some (.own b₂) ∧ CallsB W n f b₂ ds fun d b' => Φ (.val d) (upd σ₂ "box" (.own b'))) (hp : PlainEs C es := by rfl)
    (hd : (x == ("__debug__" : Str)) = false := by decide)
    (hp' : (backTo pos (starEach (.Name "box" xp :: es) C.env)).any (·.1) = false := by rfl)
    (he : eval (.Call (.Name x p1) (.Name "box" xp :: es) [] pos) C.env = (do callWith pos (← eval (.Name x p1) C.env) [] (backTo pos (starEach (.Name "box" xp :: es) C.env)) []) := by rfl) :
    Ev C A (.Call (.Name x p1) (.Name "box" xp :: es) [] pos) σ Φ :=
  Ev_CallB R (Ev_fn kq e hv ⟨_, b, rfl, hk, eb, EvSp.mono (EvV.sp hp h) fun ts σ₂ ⟨ds, e1, _, b₂, e2, q⟩ => ⟨ds, b₂, e1, e2, q⟩⟩ hd) hp' he
end

noncomputable abbrev scSig (b : List D) (p : Pass) (btw : Bool) (st : List LRow × Nat) : LS := [("box", .own b), ("name", .val (.str p.s)), ("lies_between", .val (.bool btw)), ("rows", .val (.list (st.1.map lrowD))), ("second", .val (natD st.2))]

set_option maxHeartbeats 2000000 in
theorem scene_turn (B : Base) (p : Pass) (btw fl : Bool) {C : Fx B.W} {A : Around} (R : Room A 3) (k1 : C.env.kindOf "_law_piece" = some .globalImplicit) (k2 : C.env.kindOf "_law_between" = some .globalImplicit) (k3 : C.env.kindOf "len" = some .globalImplicit)
    (bS : Bind C "second") (bP : Bind C "piece") (bR : Bind C "rows") (st : List LRow × Nat) (hz : st.1.length ≤ 100) (k : Nat) (hk : k ≤ 100) (b : List D) (hb : BoxOk k fl b) {Φ : Fl → LS → Prop}
    (h : ∀ a b' σ', PArgs.Ok a → BoxOk (k + 6) fl b' → Sub (scSig b' p btw (scStep p btw st a)) σ' → Φ .next σ') :
    Exs C A ((match (bo B 305)[1]! with | .For _ _ b _ _ => b | _ => [])) (scSig b p btw st) Φ := by
  refine Exs_cons ?_
  refine Ex_Asn bS ?_
  refine Ev_biV (n := 2) (R.le (by decide)) k3 rfl rfl (by decide) rfl rfl ?_
  refine Ev_name rfl ?_
  refine Calls_len (by simp; omega (config := {})) ?_
  rw [List.length_map]
  have fin : ∀ (a : PArgs) (b' : List D) (l : List LRow), a.Ok → BoxOk (k + 6) fl b' → l ++ [(undefR .b, .keep), (popR, .keep)] = partP p btw a st.1.length → l.length ≤ 10 →
      Exs C A (((match (bo B 305)[1]! with | .For _ _ b _ _ => b | _ => []) : List Stmt).drop 2) [("box", .own b'), ("name", .val (.str p.s)), ("lies_between", .val (.bool btw)), ("rows", .val (.list (st.1.map lrowD))), ("second", .val (natD st.1.length)), ("piece", .val (.list (l.map lrowD)))] Φ := by
    intro a b' l ha hb' hl hlz
    refine Exs_cons ?_
    refine Ex_Asn bR ?_
    refine Ev_BinOp ?_
    refine Ev_BinOp ?_
    refine Ev_name rfl ?_
    refine Ev_name rfl ?_
    refine Op2.thaw ?_
    refine Op2_addList (sizeBig (by simp; omega (config := {}))) ⟨_, rfl, ?_⟩
    refine Ev_lst ?_
    refine Ev_tup ?_
    refine Ev_tup ?_
    refine Ev_str ?_
    refine Ev_str ?_
    refine Ev_none ?_
    refine Ev_int ?_
    refine Ev_tup ?_
    refine Ev_tup ?_
    refine Ev_str ?_
    refine Ev_none ?_
    refine Ev_none ?_
    refine Ev_int ?_
    refine Op2.thaw ?_
    refine Op2_addList (sizeBig (by simp; omega (config := {}))) ⟨_, rfl, ?_⟩
    refine Exs_nil ?_
    refine h a b' _ ha hb' ⟨rfl, rfl, rfl, val_eq ?_, rfl, trivial⟩
    rw [scStep, ← hl, ← List.append_assoc, List.map_append, List.map_append]; rfl
  cases btw with
  | true =>
    refine Exs_cons ?_
    refine Ex_Asn bP ?_
    refine Ev_IfExp ?_
    refine EvB_nm rfl ?_
    refine iteT ?_
    refine Ev_boxV (n := 3) R k2 rfl rfl rfl rfl ?_
    refine Ev_name rfl ?_
    refine Ev_name rfl ?_
    refine ⟨_, rfl, (c_between B p st.1.length k (by omega (config := {})) (by omega (config := {})) fl b hb).mono (by omega (config := {})) fun d b' z8 => ?_⟩
    obtain ⟨a, h1, h2, h3⟩ := z8
    subst h2
    have := pieceP_len p a (st.1.length + 2)
    have := between_len p a st.1.length
    refine @Exs_weaken _ _ _ _ _ _ _ ?_ (fin a b' (betweenP p a st.1.length) h1 h3 rfl (by omega (config := {})))
    exact ⟨rfl, rfl, rfl, rfl, rfl, rfl, trivial⟩
  | false =>
    refine Exs_cons ?_
    refine Ex_Asn bP ?_
    refine Ev_IfExp ?_
    refine EvB_nm rfl ?_
    refine iteF ?_
    refine Ev_boxV (n := 3) R k1 rfl rfl rfl rfl ?_
    refine Ev_name rfl ?_
    refine Ev_name rfl ?_
    refine ⟨_, rfl, (c_piece B p st.1.length k (by omega (config := {})) (by omega (config := {})) fl b hb).mono (by omega (config := {})) fun d b' z9 => ?_⟩
    obtain ⟨a, h1, h2, h3⟩ := z9
    subst h2
    have := pieceP_len p a st.1.length
    refine @Exs_weaken _ _ _ _ _ _ _ ?_ (fin a b' (pieceP p a st.1.length) h1 h3 rfl (by omega (config := {})))
    exact ⟨rfl, rfl, rfl, rfl, rfl, rfl, trivial⟩
end Mine
namespace Mine
set_option autoImplicit false
set_option linter.unusedVariables false
set_option maxRecDepth 100000
section
variable {W : Wd} {C : Fx W} {A : Around} {σ : LS}
noncomputable def TurnC (C' : Fx W) (A : Around) (elt target : Expr) (ifs : List Expr) (d : D) (τ : LS) (p : Bool) (g : D) : Prop :=
  Asg C' A target d τ fun σ₃ => EvIfs C' A ifs σ₃ fun b σ₄ => b = p ∧ if b then Ev C' A elt σ₄ (Vl fun d σ₅ => d = g ∧ Sub τ σ₅) else Sub τ σ₄
theorem turnC {β : Type} {C' : Fx W} {elt target : Expr} {ifs : List Expr} {enc : β → D} {x : β} {τ : LS} {p : β → Bool} {g : β → D} (h : TurnC C' A elt target ifs (enc x) τ (p x) (g x)) :
    Asg C' A target (enc x) τ fun σ₃ => EvIfs C' A ifs σ₃ fun b σ₄ => b = p x ∧ if b then Ev C' A elt σ₄ (fun t σ₅ => t = .val (g x) ∧ Sub τ σ₅) else Sub τ σ₄ := by
  intro s T v sf S hm
  refine wpNo (h s T v sf S hm) fun _ s₁ ⟨σ₃, h₃, o, S₃⟩ => ⟨σ₃, ?_, o, S₃⟩
  have step : ∀ b σ₄, (b = p x ∧ if b = true then Ev C' A elt σ₄ (Vl fun d σ₅ => d = g x ∧ Sub τ σ₅) else Sub τ σ₄) → (b = p x ∧ if b = true then Ev C' A elt σ₄ (fun t σ₅ => t = .val (g x) ∧ Sub τ σ₅) else Sub τ σ₄) := by
    rintro b σ₄ ⟨e, q⟩
    refine ⟨e, ?_⟩
    cases b with
    | true =>
      rw [if_pos rfl] at q ⊢
      exact q.mono fun t σ₅ q => by
        cases t with
        | val d => exact ⟨by rw [q.1], q.2⟩
        | _ => exact q.elim
    | false => rw [if_neg (by decide)] at q ⊢; exact q
  exact EvIfs.mono h₃ step
theorem Ev_cMap {β : Type} (τ : LS) (enc : β → D) (xs : List β) (p : β → Bool) (g : β → D) (out : List D) (ho : (xs.filter p).map g = out) {elt target iter : Expr} {ifs : List Expr} {scope : Scope} {pos : Pos} {cl : List (Str × Addr)} {Φ : Tmp → LS → Prop} (hh : A.handled = none) (hz : xs.length ≤ 1000) (hτ : Sub τ τ) (hk : scope.kind = .function)
    (hclos : closureFor scope C.env = pure cl) (hok : compOk scope = true) (hcl : ∀ p ∈ cl, C.env.kindOf p.1 = some .cell ∧ C.env.cells.lookup p.1 = some p.2) (hg : GoOk target (.list (xs.map enc)) (xs.map enc))
    (hturn : ∀ L hE Fb hb hx hF x, x ∈ xs → TurnC (fxComp C scope cl hk L none hE Fb hb hx hF) A elt target ifs (enc x) τ (p x) (g x))
    (h : Ev C A iter σ (Vl fun d σ₁ => d = .list (xs.map enc) ∧ CapOk C scope cl none σ₁ τ ∧ Φ (.val (.list out)) σ₁)) (hs : ∀ x, foldedSetIterable iter C.env x = pure x := by intro _; rfl) :
    Ev C A (.ListComp elt [⟨target, iter, ifs, 0⟩] scope pos) σ Φ :=
  Ev.thaw <| Ev_Comp (τ := τ) _ hh hk hclos (compCell hok) (compNames hok) hcl (CompH_map enc xs p g (h.mono fun t σ₁ q => by
    cases t with
    | val d => obtain ⟨rfl, hc, q⟩ := q; exact ⟨_, rfl, .list _, noRng, hg, sizeBig (by omega), hc, _, rfl, by rw [ho]; exact q⟩
    | _ => exact q.elim) hτ fun L hE Fb hb hx hF x hx' => turnC (hturn L hE Fb hb hx hF x hx')) hs
theorem Exs_cMap {β : Type} (τ : LS) (enc : β → D) (xs : List β) (p : β → Bool) (g : β → D) (out : List D) (ho : (xs.filter p).map g = out) {y : Str} {yp spos : Pos} {elt target iter : Expr} {ifs : List Expr} {scope : Scope} {pos : Pos} {cl : List (Str × Addr)} {rest : List Stmt} {Φ : Fl → LS → Prop} (hh : A.handled = none) (hz : xs.length ≤ 1000) (hτ : Sub τ τ) (hk : scope.kind = .function)
    (hclos : closureFor scope C.env = pure cl) (hok : compOk scope = true) (hcl : ∀ p ∈ cl, C.env.kindOf p.1 = some .cell ∧ C.env.cells.lookup p.1 = some p.2) (hg : GoOk target (.list (xs.map enc)) (xs.map enc)) (b : Bind C y) (hy : y ≠ "box")
    (hturn : ∀ L hE Fb hb hx hF x, x ∈ xs → TurnC (fxComp C scope cl hk L none hE Fb hb hx hF) A elt target ifs (enc x) τ (p x) (g x))
    (h : Ev C A iter σ (Vl fun d σ₁ => d = .list (xs.map enc) ∧ CapOk C scope cl none σ₁ τ ∧ Exs C A rest (upd σ₁ y (.val (.list out))) Φ)) (hs : ∀ x, foldedSetIterable iter C.env x = pure x := by intro _; rfl)
    (hsw : swapsWith (.ListComp elt [⟨target, iter, ifs, 0⟩] scope pos) (some (.Name y yp)) spos.line C.env = pure true := by rfl) :
    Exs C A (.Assign [.Name y yp] (.ListComp elt [⟨target, iter, ifs, 0⟩] scope pos) spos :: rest) σ Φ :=
  Exs_cons <| Ex_AssignComp (τ := τ) _ hh hk hclos (compCell hok) (compNames hok) hcl b (.inr hy) (CompH_map enc xs p g (h.mono fun t σ₁ q => by
    cases t with
    | val d =>
      obtain ⟨rfl, hc, q⟩ := q
      refine ⟨_, rfl, .list _, noRng, hg, sizeBig (by omega), hc, ?_⟩
      rw [ho]
      refine Exs_freeze y (by rw [lookup_upd, if_pos (by exact beq_self_eq_true _)]) (.inr hy) ?_
      intro s T sf ⟨ρ, S⟩
      refine q s T sf ⟨ρ, S.weaken fun x l e => ?_⟩
      rw [lookup_upd] at e ⊢
      split at e
      · rw [if_pos ‹_›]; exact e
      · rw [if_neg ‹_›, lookup_upd, if_neg ‹_›]; exact e
    | _ => exact q.elim) hτ fun L hE Fb hb hx hF x hx' => turnC (hturn L hE Fb hb hx hF x hx')) hs hsw
end
end Mine
namespace Mine
set_option autoImplicit false
set_option linter.unusedVariables false
set_option maxRecDepth 100000

noncomputable def rowPy (r : PRow) : PyData := .tuple [.str r.op.s, r.a.py, r.b.py]
theorem row_py (r : PRow) : Py 1 (rowT r) (rowPy r) := .tup (.cons (op_str _) (.cons (V.isPy _) (.cons (V.isPy _) .nil)))
theorem stay_noFn (x : Stay) : ∀ u, stayD x ≠ .fn u := fun u e => by cases x <;> cases e
theorem jump4 (o : Op) : (Txt.slice o.s none (some 4) == ("jump" : Str)) = o.isJump := by cases o <;> decide +kernel
theorem op_small (o : Op) : o.s.length ≤ sizeLine := sizeBig (by cases o <;> decide)

set_option maxHeartbeats 2000000 in
theorem scene_tail (B : Base) (s : PScene) {A : Around} {L : Addr} {bx : Option Addr} {hE : Heap} {Fb : Addr → Prop} {hb : B.W.hB.StaysIn hE} {hx : ∀ a, bx = some a → B.W.hB.get? a = .none} {hF : ∀ a, Fb a → ∃ o, hE.get? a = some o} (hL : ∀ a, L ≤ a → hE.get? a = none) (R : Room A 3)
    (hz : s.rows.length ≤ 100) (hz2 : 2 ≤ s.rows.length) (hJ : ∀ x ∈ s.rows, JOk s.rows.length x) (h1 : s.first < s.last) (h2 : s.last ≤ s.rows.length) (h3 : s.second < s.rows.length) (b : List D) {Φ : D → List D → Prop} (h : Φ (sceneD s) b) :
    Exs (fxFn B.W (qu B 305) (sc B 305) L 305 (cd B 305) (fn_law_scene B).kind bx hE Fb hb hx hF) A ((bo B 305).drop 6) [("box", .own b), ("rows", .val (.list (s.rows.map lrowD))), ("first", .val (natD s.first)), ("last", .val (natD s.last)), ("starts", .val (.list (s.starts.map natD)))] (RetB Φ) := by
  have hu : A.units + 100 < cLine := by have := R.units; omega
  have gl := s.goes_len
  -- goes
  refine Exs_cons ?_
  refine Ex_Asn (.inr ⟨rfl, L + 1, rfl, hL _ (Nat.le_succ _)⟩) ?_
  refine Ev_fnV (n := 3) R rfl rfl rfl rfl ?_
  refine Ev_cMap [] lrowD s.rows (fun _ => true) (fun x => .bool (staysB x)) ((s.rows.map staysB).map D.bool) (by rw [filtT, List.map_map]; rfl) R.handled (by omega) trivial rfl rfl rfl clNil goTup (fun L' hE' Fb' hb' hx' hF' x hx => ?_) ?_
  · refine Asg_tuple R.handled rfl rfl ?_
    refine Asg_name (.inl rfl) ?_
    refine Asg_name (.inl rfl) ?_
    refine ⟨rfl, ?_⟩
    refine Ev_Compare ?_
    refine Ev_name rfl ?_
    refine Ev_none ?_
    refine Op2_isNotNone (stay_noFn _) ⟨?_, trivial⟩
    rcases x with ⟨r, st⟩
    cases st <;> rfl
  refine Ev_name rfl ⟨rfl, trivial, ?_⟩
  refine (c_law_places B (s.rows.map staysB) (by simp; omega)).eq (by decide) ?_
  refine @Exs_weaken _ _ _ _ _ _ [("box", .own b), ("rows", .val (.list (s.rows.map lrowD))), ("first", .val (natD s.first)), ("last", .val (natD s.last)), ("starts", .val (.list (s.starts.map natD))), ("goes", .val (.list (s.goes.map natD)))] ⟨rfl, rfl, rfl, rfl, rfl, rfl, trivial⟩ ?_
  -- due
  refine Exs_cMap [] lrowD s.rows staysB (fun x => rowT (dueRow x)) (((s.rows.filter staysB).map dueRow).map rowT) (by rw [List.map_map]; rfl) R.handled (by omega) trivial rfl rfl rfl clNil goTup (.inl rfl) (by decide) (fun L' hE' Fb' hb' hx' hF' x hx => ?_) ?_
  · refine Asg_tuple R.handled rfl rfl ?_
    refine Asg_name (.inl rfl) ?_
    refine Asg_name (.inl rfl) ?_
    refine EvB_Compare ?_
    refine Ev_name rfl ?_
    refine Ev_none ?_
    refine Op2_isNotNone (stay_noFn _) ⟨_, rfl, ?_⟩
    rcases x with ⟨r, st⟩
    cases st with
    | keep =>
      refine ⟨rfl, iteTb rfl ?_⟩
      refine Ev_IfExp ?_
      refine EvB_Compare ?_
      refine Ev_name rfl ?_
      refine Ev_int ?_
      refine Op2_eqD (n := 0) (m := 0) (p := .int 1) (q := .int 1) hu .int .int (by decide) ⟨_, rfl, ?_⟩
      refine iteTb (by rfl) ?_
      exact Ev_name rfl ⟨rfl, trivial⟩
    | drop => exact ⟨rfl, iteFb rfl trivial⟩
    | to r' =>
      refine ⟨rfl, iteTb rfl ?_⟩
      refine Ev_IfExp ?_
      refine EvB_Compare ?_
      refine Ev_name rfl ?_
      refine Ev_int ?_
      refine Op2_eqD (n := 1) (m := 0) (p := rowPy r') (q := .int 1) hu (row_py _) .int (by decide) ⟨_, rfl, ?_⟩
      refine iteFb (by rfl) ?_
      exact Ev_name rfl ⟨rfl, trivial⟩
  refine Ev_name rfl ⟨rfl, trivial, ?_⟩
  have dueOk : ∀ r ∈ (s.rows.filter staysB).map dueRow, RowOk s.rows.length r := fun r hr => by
    obtain ⟨x, hx, rfl⟩ := List.mem_map.mp hr
    exact (hJ x (List.mem_filter.mp hx).1).2
  have dueLen : ((s.rows.filter staysB).map dueRow).length ≤ 1000 := by rw [List.length_map]; have := List.length_filter_le staysB s.rows; omega
  refine Exs_cMap [("goes", .val (.list (s.goes.map natD)))] rowT ((s.rows.filter staysB).map dueRow) (fun _ => true) (fun r => rowT (retarget s.goes r)) (s.due.map rowT) (by rw [filtT, PScene.due, List.map_map (l := (s.rows.filter staysB).map dueRow)]; rfl) R.handled dueLen ⟨rfl, trivial⟩ rfl rfl rfl (clOne ⟨rfl, rfl⟩) goName (.inl rfl) (by decide) (fun L' hE' Fb' hb' hx' hF' r hr => ?_) ?_
  · refine Asg_name (.inl rfl) ?_
    refine ⟨rfl, ?_⟩
    refine Ev_IfExp ?_
    refine EvB_Compare ?_
    refine Ev_SliceStrA (op_small r.op) ?_
    refine Ev_Sub ?_
    refine Ev_name rfl ?_
    refine Ev_int ?_
    refine Op2_subTup (by decide) (by decide) rfl ⟨rfl, ?_⟩
    refine Ev_str ?_
    refine Op2_eqS ⟨_, rfl, ?_⟩
    refine ite_eq (jump4 r.op) (fun hj => ?_) (fun hj => ?_)
    · obtain ⟨ha, hlt⟩ := (dueOk r hr).tgt hj
      refine Ev_tup ?_
      refine Ev_Sub ?_
      refine Ev_name rfl ?_
      refine Ev_int ?_
      refine Op2_subTup (by decide) (by decide) rfl ?_
      refine Ev_Sub ?_
      refine Ev_name rfl ?_
      refine Ev_Sub ?_
      refine Ev_name rfl ?_
      refine Ev_int ?_
      refine Op2_subTup (d := natD r.t) (by decide) (by decide) (congrArg some (aD ha)) ?_
      refine Op2_subList (by omega) (by omega) (natAt (by omega)) ?_
      refine Ev_Sub ?_
      refine Ev_name rfl ?_
      refine Ev_int ?_
      refine Op2_subTup (by decide) (by decide) rfl ⟨?_, rfl, trivial⟩
      rw [retarget, if_pos hj]
      rfl
    · exact Ev_name rfl ⟨by rw [retarget, if_neg (by rw [hj]; decide)], rfl, trivial⟩
  refine Ev_name rfl ⟨rfl, ⟨rfl, .inl ⟨_, rfl⟩, rfl, rfl, rfl, trivial⟩, ?_⟩
  -- catches
  refine Exs_cons ?_
  refine Ex_Asn (.inl rfl) ?_
  refine Ev_lst ?_
  refine Ev_tup ?_
  refine Ev_name rfl ?_
  refine Ev_name rfl ?_
  refine Ev_BinOp ?_
  refine Ev_biV (n := 3) R rfl rfl rfl (by decide) rfl rfl ?_
  refine Ev_name rfl ?_
  refine Calls_len (by simp; omega) ?_
  refine Ev_int ?_
  refine Op2_sub ?_
  refine @Exs_weaken _ _ _ _ _ _ [("box", .own b), ("rows", .val (.list (s.rows.map lrowD))), ("starts", .val (.list (s.starts.map natD))), ("goes", .val (.list (s.goes.map natD))), ("due", .val (.list (s.due.map rowT))), ("catches", .val (.list ([s.cat].map triD)))] ⟨rfl, rfl, rfl, rfl, rfl, ?_, trivial⟩ ?_
  · refine val_eq ?_
    have e : (((s.rows.map lrowD).length : Nat) : Int) - 2 = ((s.rows.length - 2 : Nat) : Int) := by rw [List.length_map]; omega
    rw [e]; rfl
  -- caught
  have kin : ∀ k ∈ [s.cat], k.first < s.goes.length ∧ k.last < s.goes.length ∧ k.target < s.goes.length := fun k hk => by
    simp only [List.mem_singleton] at hk
    subst hk
    simp only [PScene.cat]
    omega
  refine Exs_cMap [("goes", .val (.list (s.goes.map natD)))] triD [s.cat] (fun k => decide ((recatch s.goes k).first < (recatch s.goes k).last)) (fun k => caughtD (recatch s.goes k)) (s.caught.map caughtD) (by rw [PScene.caught, List.filter_map, List.map_map]; rfl) R.handled (by simp) ⟨rfl, trivial⟩ rfl rfl rfl (clOne ⟨rfl, rfl⟩) goTup (.inl rfl) (by decide) (fun L' hE' Fb' hb' hx' hF' k hk => ?_) ?_
  · obtain ⟨k1, k2, k3⟩ := kin k hk
    refine Asg_tuple R.handled rfl rfl ?_
    refine Asg_name (.inl rfl) ?_
    refine Asg_name (.inl rfl) ?_
    refine Asg_name (.inl rfl) ?_
    refine EvB_Compare ?_
    refine Ev_Sub ?_
    refine Ev_name rfl ?_
    refine Ev_name rfl ?_
    refine Op2_subList (by omega) (by omega) (natAt (by omega)) ?_
    refine Ev_Sub ?_
    refine Ev_name rfl ?_
    refine Ev_name rfl ?_
    refine Op2_subList (by omega) (by omega) (natAt (by omega)) ?_
    refine Op2_lt ⟨_, rfl, ?_⟩
    have ed : (decide (((s.goes.getD k.first 0 : Nat) : Int) < ((s.goes.getD k.last 0 : Nat) : Int))) = decide ((recatch s.goes k).first < (recatch s.goes k).last) := by
      rw [decide_eq_decide]; simp [recatch]
    refine ⟨ed, ?_⟩
    refine ite_B (fun _ => ?_) (fun _ => ⟨rfl, trivial⟩)
    refine Ev_tup ?_
    refine Ev_str ?_
    refine Ev_Sub ?_
    refine Ev_name rfl ?_
    refine Ev_name rfl ?_
    refine Op2_subList (by omega) (by omega) (natAt (by omega)) ?_
    refine Ev_Sub ?_
    refine Ev_name rfl ?_
    refine Ev_name rfl ?_
    refine Op2_subList (by omega) (by omega) (natAt (by omega)) ?_
    refine Ev_Sub ?_
    refine Ev_name rfl ?_
    refine Ev_name rfl ?_
    refine Op2_subList (by omega) (by omega) (natAt (by omega)) ?_
    exact Ev_int ⟨rfl, rfl, trivial⟩
  refine Ev_name rfl ⟨rfl, ⟨rfl, .inl ⟨_, rfl⟩, rfl, rfl, rfl, trivial⟩, ?_⟩
  -- return
  refine Exs_cons ?_
  refine Ex_Ret ?_
  refine Ev_tup ?_
  refine Ev_cMap [] lrowD s.rows (fun _ => true) (fun x => rowT x.1) (s.plain.map rowT) (by rw [filtT, PScene.plain, List.map_map]; rfl) R.handled (by omega) trivial rfl rfl rfl clNil goTup (fun L' hE' Fb' hb' hx' hF' x hx => ?_) ?_
  · refine Asg_tuple R.handled rfl rfl ?_
    refine Asg_name (.inl rfl) ?_
    refine Asg_name (.inl rfl) ?_
    exact ⟨rfl, Ev_name rfl ⟨rfl, trivial⟩⟩
  refine Ev_name rfl ⟨rfl, trivial, ?_⟩
  refine Ev_name rfl ?_
  refine Ev_name rfl ?_
  refine Ev_name rfl ?_
  refine Ev_name rfl ?_
  have stLen : s.starts.length ≤ 1000 := by rw [PScene.starts]; split <;> simp
  refine Ev_cMap [("goes", .val (.list (s.goes.map natD)))] natD s.starts (fun _ => true) (fun i => natD (s.goes.getD i 0)) (s.goeS.map natD) (by rw [filtT, PScene.goeS, List.map_map]; rfl) R.handled stLen ⟨rfl, trivial⟩ rfl rfl rfl (clOne ⟨rfl, rfl⟩) goName (fun L' hE' Fb' hb' hx' hF' i hi => ?_) ?_
  · have : i < s.goes.length := by
      rw [PScene.starts] at hi
      split at hi <;> simp only [List.mem_cons, List.not_mem_nil, or_false] at hi <;> omega
    refine Asg_name (.inl rfl) ?_
    refine ⟨rfl, ?_⟩
    refine Ev_Sub ?_
    refine Ev_name rfl ?_
    refine Ev_name rfl ?_
    exact Op2_subList (by omega) (by omega) (natAt (by omega)) ⟨rfl, rfl, trivial⟩
  exact Ev_name rfl ⟨rfl, ⟨rfl, .inl ⟨_, rfl⟩, rfl, rfl, rfl, trivial⟩, _, rfl, h⟩
end Mine
namespace Mine
set_option autoImplicit false
set_option linter.unusedVariables false
set_option maxRecDepth 100000

theorem scSt_snoc (p : Pass) (btw : Bool) (l : List PArgs) (a : PArgs) : scSt p btw (l ++ [a]) = scStep p btw (scSt p btw l) a := by simp [scSt, List.foldl_append]
set_option maxHeartbeats 2000000 in
theorem c_law_scene (B : Base) (p : Pass) (btw fl : Bool) (k : Nat) (hk : k ≤ 80) (b : List D) (hb : BoxOk k fl b) :
    CallsB B.W 4 (.ref 305) b [.str p.s, .bool btw] (fun d b' => ∃ s : PScene, IsScene p btw fl s ∧ d = sceneD s ∧ BoxOk (k + 20) fl b') := by
  refine CallsB_fnC (fn_law_scene B) rfl fun A L bx hE Fb hb' hx hF hL R => ?_
  obtain ⟨n, hn⟩ : ∃ n : Nat, n = if fl then 1 else 2 := ⟨_, rfl⟩
  have hn2 : n ≤ 2 := by rw [hn]; split <;> omega
  have hn1 : 1 ≤ n := by rw [hn]; split <;> omega
  -- rows, second = ..
  refine Exs_cons ?_
  refine @Ex_two _ _ _ _ _ _ _ _ _ _ _ _ _ R.handled rfl (.inl rfl) (.inl rfl) ?_ rfl
  refine Ev_tup ?_
  refine Ev_lst ?_
  refine Ev_tup ?_
  refine Ev_tup ?_
  refine Ev_str ?_
  refine Ev_str ?_
  refine Ev_none ?_
  refine Ev_int ?_
  refine Ev_tup ?_
  refine Ev_tup ?_
  refine Ev_str ?_
  refine Ev_none ?_
  refine Ev_none ?_
  refine Ev_int ?_
  refine Ev_int ⟨_, _, rfl, ?_⟩
  -- the parts
  refine Exs_cons ?_
  refine Ex_ForR natD (List.range n) (fun rest σ => ∃ (l : List PArgs) (b : List D), l.length + rest.length = n ∧ (∀ a ∈ l, a.Ok) ∧ BoxOk (k + 6 * l.length) fl b ∧ Sub (scSig b p btw (scSt p btw l)) σ) R.handled ?_ (fun x rest σ₂ _ z10 => ?_) (fun σ₂ ⟨l, b1, hl, ho, hb1, hS⟩ => ?_)
  · have hcont : ∀ {σ : LS} {C : Fx B.W} {Φ : D → LS → Prop} {k1 k2 : Nat} {p1 p2 : Pos}, Φ (natD n) σ → if fl = true then Ev C A (.Constant (.int 1) k1 p1) σ (Vl Φ) else Ev C A (.Constant (.int 2) k2 p2) σ (Vl Φ) := fun {σ C Φ k1 k2 p1 p2} q => by
      subst hn
      cases fl with
      | true => exact iteT (Ev_int q)
      | false => exact iteF (Ev_int q)
    have hb0 := hb
    obtain ⟨c0, c1, c2, rfl, _⟩ := hb
    refine Ev_biV (n := 3) R rfl rfl rfl (by decide) rfl rfl ?_
    refine Ev_IfExp ?_
    refine EvB_val ?_
    refine Ev_Sub ?_
    refine Ev_own rfl ?_
    refine Ev_int ?_
    refine Op2_subOwn (k := 3) (d := .bool fl) rfl (by decide) (by decide) rfl ⟨_, rfl, ?_⟩
    refine hcont ?_
    refine Calls_range ⟨_, rfl, items_rng n (by omega), lo_rng n, goName, [], _, by simp, by simp, ?_, rfl, rfl, rfl, rfl, rfl, trivial⟩
    exact hb0
  · obtain ⟨l, b1, hl, ho, hb1, hS⟩ := z10
    rw [List.length_cons] at hl
    refine Asg.weaken hS ?_
    refine Asg_name (.inl rfl) ?_
    refine @Exs_weaken _ _ _ _ _ _ (scSig b1 p btw (scSt p btw l)) ⟨rfl, rfl, rfl, rfl, rfl, trivial⟩ ?_
    have hlen := (sc_len p btw l).2.1
    refine scene_turn B p btw fl R rfl rfl rfl (.inl rfl) (.inl rfl) (.inl rfl) (scSt p btw l) (by omega) (k + 6 * l.length) (by omega) b1 hb1 fun a b2 σ' ha hb2 hS' => ?_
    refine ⟨l ++ [a], b2, by simp; omega, fun x hx => ?_, hb2.mono (by simp; omega), ?_⟩
    · rcases List.mem_append.mp hx with h | h
      · exact ho x h
      · rw [List.mem_singleton.mp h]; exact ha
    · rw [scSt_snoc]; exact hS'
  rw [List.length_nil, Nat.add_zero] at hl
  have hlen := sc_len p btw l
  generalize hst : scSt p btw l = st at hS hlen
  refine @Exs_weaken _ _ _ _ _ _ _ hS ?_
  -- the end
  refine Exs_cons ?_
  refine Ex_Asn (.inl rfl) ?_
  refine Ev_BinOp ?_
  refine Ev_name rfl ?_
  refine Ev_lst ?_
  refine Ev_tup ?_
  refine Ev_tup ?_
  refine Ev_str ?_
  refine Ev_int ?_
  refine Ev_none ?_
  refine Ev_int ?_
  refine Ev_tup ?_
  refine Ev_tup ?_
  refine Ev_str ?_
  refine Ev_none ?_
  refine Ev_none ?_
  refine Ev_int ?_
  refine Op2.thaw ?_
  refine Op2_addList (sizeBig (by simp; omega)) ⟨_, rfl, ?_⟩
  obtain ⟨rows, hrows⟩ : ∃ rows, rows = st.1 ++ endL := ⟨_, rfl⟩
  have hrl : rows.length = st.1.length + 2 := by rw [hrows, List.length_append]; rfl
  refine @Exs_weaken _ _ _ _ _ _ [("box", .own b1), ("rows", .val (.list (rows.map lrowD))), ("second", .val (natD st.2))] ⟨rfl, val_eq (by rw [hrows, List.map_append]; rfl), rfl, trivial⟩ ?_
  have hrb : rows.length ≤ 22 := by omega
  -- first
  refine Exs_cons ?_
  refine Ex_Asn (.inl rfl) ?_
  refine Ev_boxV (n := 3) R rfl rfl rfl rfl rfl ?_
  refine Ev_biV (n := 3) R rfl rfl rfl (by decide) rfl rfl ?_
  refine Ev_name rfl ?_
  refine Calls_len (by simp; omega) ?_
  rw [List.length_map]
  refine ⟨_, rfl, (c_take B (k + 6 * l.length) (by omega) fl b1 hb1 rows.length (by omega) (by omega)).mono (by decide) fun d b2 z11 => ?_⟩
  obtain ⟨first, hf, hd, hb2⟩ := z11
  subst hd
  -- last
  refine Exs_cons ?_
  refine Ex_Asn (.inl rfl) ?_
  refine Ev_BinOp ?_
  refine Ev_BinOp ?_
  refine Ev_name rfl ?_
  refine Ev_int ?_
  refine Op2_add ?_
  refine Ev_boxV (n := 3) R rfl rfl rfl rfl rfl ?_
  refine Ev_BinOp ?_
  refine Ev_biV (n := 3) R rfl rfl rfl (by decide) rfl rfl ?_
  refine Ev_name rfl ?_
  refine Calls_len (by simp; omega) ?_
  refine Ev_name rfl ?_
  refine Op2_sub ?_
  have e1 : (((rows.map lrowD).length : Nat) : Int) - (first : Int) = ((rows.length - first : Nat) : Int) := by rw [List.length_map]; omega
  rw [e1]
  refine ⟨_, rfl, (c_take B (k + 6 * l.length + 1) (by omega) fl b2 hb2 (rows.length - first) (by omega) (by omega)).mono (by decide) fun d b3 z12 => ?_⟩
  obtain ⟨more, hm, hd, hb3⟩ := z12
  subst hd
  refine Op2_add ?_
  refine @Exs_weaken _ _ _ _ _ _ [("box", .own b3), ("rows", .val (.list (rows.map lrowD))), ("first", .val (natD first)), ("last", .val (natD (first + 1 + more))), ("second", .val (natD st.2))] ⟨rfl, rfl, rfl, rfl, rfl, trivial⟩ ?_
  -- starts
  have fin : ∀ (two : Bool) (b4 : List D), BoxOk (k + 20) fl b4 → Exs (fxFn B.W (qu B 305) (sc B 305) L 305 (cd B 305) (fn_law_scene B).kind bx hE Fb hb' hx hF) A ((bo B 305).drop 6) [("box", .own b4), ("rows", .val (.list (rows.map lrowD))), ("first", .val (natD first)), ("last", .val (natD (first + 1 + more))), ("starts", .val (.list ((if two then [0, st.2] else [0]).map natD)))]
      (RetB fun d b' => ∃ s : PScene, IsScene p btw fl s ∧ d = sceneD s ∧ BoxOk (k + 20) fl b') := fun two b4 hb4 => by
    have hs : IsScene p btw fl ⟨rows, st.2, first, first + 1 + more, two⟩ := ⟨⟨l, by rw [hl, hn], ho, by rw [hst]; exact hrows, by rw [hst]⟩, by show first < first + 1 + more; omega, by show first + 1 + more ≤ rows.length; omega⟩
    obtain ⟨z1, z2, z3⟩ := hs.len
    exact scene_tail B ⟨rows, st.2, first, first + 1 + more, two⟩ hL R (by omega) (by omega) hs.ok hs.first hs.last z3 b4 ⟨_, hs, rfl, hb4⟩
  refine Exs_cons ?_
  refine Ex_Asn (.inl rfl) ?_
  refine Ev_IfExp ?_
  refine EvB_Compare ?_
  refine Ev_take (many := 2) R rfl rfl hb3 (by omega) (by decide) (by decide) fun r b4 hr hb4 => ?_
  refine Ev_int ?_
  refine Op2_eq ⟨_, rfl, ?_⟩
  refine ite_B (fun _ => ?_) (fun _ => ?_)
  · refine Ev_lst ?_
    refine Ev_int ?_
    refine Ev_name rfl ?_
    refine @Exs_weaken _ _ _ _ _ _ _ ?_ (fin true b4 (hb4.mono (by omega)))
    exact ⟨rfl, rfl, rfl, rfl, rfl, trivial⟩
  · refine Ev_lst ?_
    refine Ev_int ?_
    refine @Exs_weaken _ _ _ _ _ _ _ ?_ (fin false b4 (hb4.mono (by omega)))
    exact ⟨rfl, rfl, rfl, rfl, rfl, trivial⟩
end Mine
namespace Mine
set_option autoImplicit false
set_option linter.unusedVariables false
set_option maxRecDepth 100000

theorem rows_py (l : List PRow) : Pys 1 (l.map rowT) (l.map rowPy) := Pys.map fun r _ => row_py r
theorem rowsL_py (l : List PRow) : Py 2 (.list (l.map rowT)) (.list (l.map rowPy)) := .list (rows_py l)
noncomputable def caughtPy (k : PCat) : PyData := .tuple [.str "ensure", .int k.first, .int k.last, .int k.target, .int 1]
theorem caught_py (k : PCat) : Py 1 (caughtD k) (caughtPy k) := .tup (.cons (.str (by decide +kernel)) (.cons .int (.cons .int (.cons .int (.cons .int .nil)))))
theorem caughts_py (l : List PCat) : Py 2 (.list (l.map caughtD)) (.list (l.map caughtPy)) := .list (Pys.map fun r _ => caught_py r)
theorem nats_py (l : List Nat) : Py 1 (.list (l.map natD)) (.list (l.map fun n : Nat => PyData.int (n : Int))) := .list (Pys.map fun r _ => .int)
theorem or3 {W : Wd} {C : Fx W} {A : Around} {σ : LS} {a b c : Expr} {body rest : List Stmt} {p1 pos : Pos} {Φ : Fl → LS → Prop} (h : EvB C A a σ fun t σ₁ => t = false ∧ EvB C A b σ₁ fun t σ₂ => t = false ∧ EvB C A c σ₂ fun t σ₃ => t = false ∧ Exs C A rest σ₃ Φ) :
    Exs C A (.If (.BoolOp .Or [a, b, c] p1) body [] pos :: rest) σ Φ :=
  If_skip <| EvB_BoolOp <| EvAll_consO <| h.mono fun t σ₁ ⟨e, h⟩ => by
    subst e
    exact iteF <| EvAll_consO <| h.mono fun t σ₂ ⟨e, h⟩ => by
      subst e
      exact iteF <| EvAll_consO <| h.mono fun t σ₃ ⟨e, h⟩ => by
        subst e
        exact iteF <| EvAll_nilO ⟨rfl, h⟩

/-- all is as it is due -/
theorem c_turned_right (B : Base) (c c0 : PCode) (kids kids0 : List D) (hz : c.rows.length ≤ 1000) (hz0 : c0.rows.length ≤ 1000) (hzc : c.cats.length ≤ 1000) :
    Calls B.W 2 (.ref 310) [codeD c kids, .list (c.rows.map rowT), .list (c.cats.map caughtD), .list (c.starts.map natD), .tup [codeD c0 kids0, .list (c0.rows.map rowT)]] (· = .bool true) := by
  refine Calls_fn (fn_law_turned_right B) rfl fun A L hE Fb hb hx hF R => ?_
  have hu : A.units + 100 < cLine := by have := R.units; omega
  refine Exs_cMap [] catD c.cats (fun _ => true) caughtD (c.cats.map caughtD) (by rw [filtT]) R.handled hzc trivial rfl rfl rfl clNil goName (.inl rfl) (by decide) (fun L' hE' Fb' hb' hx' hF' k hk => ?_) ?_
  · refine Asg_name (.inl rfl) ⟨rfl, ?_⟩
    refine Ev_tup ?_
    refine Ev_nAttr rfl rfl rfl ?_
    refine Ev_nAttr rfl rfl rfl ?_
    refine Ev_nAttr rfl rfl rfl ?_
    refine Ev_nAttr rfl rfl rfl ?_
    exact Ev_nAttr rfl rfl rfl ⟨rfl, trivial⟩
  refine Ev_nAttr rfl rfl rfl ⟨rfl, trivial, ?_⟩
  refine or3 ?_
  refine EvB_Compare ?_
  refine Ev_fnV (n := 1) R rfl rfl rfl rfl ?_
  refine Ev_name rfl ?_
  refine (c_law_rows B c kids hz).eq (by decide) ?_
  refine Ev_name rfl ?_
  refine Op2_neSelf hu (rowsL_py _) (by decide) ⟨_, rfl, rfl, ?_⟩
  refine EvB_Compare ?_
  refine Ev_name rfl ?_
  refine Ev_name rfl ?_
  refine Op2_neSelf hu (caughts_py _) (by decide) ⟨_, rfl, rfl, ?_⟩
  refine EvB_Compare ?_
  refine Ev_nAttr rfl rfl rfl ?_
  refine Ev_name rfl ?_
  refine Op2_neSelf hu (nats_py _) (by decide) ⟨_, rfl, rfl, ?_⟩
  -- the lines
  refine If_skip ?_
  refine EvB_Compare ?_
  refine Ev_cMap [] rowD c.rows (fun _ => true) (fun _ => .int 7) (List.replicate c.rows.length (.int 7)) (by rw [filtT, List.map_const']) R.handled hz trivial rfl rfl rfl clNil goName (fun L' hE' Fb' hb' hx' hF' r hr => ?_) ?_
  · exact Asg_name (.inl rfl) ⟨rfl, Ev_nAttr rfl rfl rfl ⟨rfl, trivial⟩⟩
  refine Ev_nAttr rfl rfl rfl ⟨rfl, trivial, ?_⟩
  refine Ev_BinOp ?_
  refine Ev_lst ?_
  refine Ev_int ?_
  refine Ev_biV (n := 1) R rfl rfl rfl (by decide) rfl rfl ?_
  refine Ev_name rfl ?_
  refine Calls_len (by simp; omega) ?_
  rw [List.length_map]
  refine Op2.thaw ?_
  refine Op2_mulList (by omega) (by omega) ⟨_, rfl, ?_⟩
  rw [Int.toNat_natCast]
  have p7 : Py 1 (.list (List.replicate c.rows.length (.int 7))) (.list (List.replicate c.rows.length (.int 7))) := by
    have : Py 1 (.list ((List.replicate c.rows.length (7 : Int)).map D.int)) (.list ((List.replicate c.rows.length (7 : Int)).map PyData.int)) := .list (Pys.map fun r _ => .int)
    simpa using this
  refine Op2_neSelf hu p7 (by decide) ⟨_, rfl, rfl, ?_⟩
  -- the rest
  refine Exs_cons ?_
  refine Ex_Ret ?_
  refine Ev_BoolOp ?_
  refine EvBo_consA ?_
  refine Ev_Compare ?_
  refine Ev_lst ?_
  refine Ev_nAttr rfl rfl rfl ?_
  refine Ev_nAttr rfl rfl rfl ?_
  refine Ev_nAttr rfl rfl rfl ?_
  refine Ev_nAttr rfl rfl rfl ?_
  refine Ev_lst ?_
  refine Ev_str ?_
  refine Ev_str ?_
  refine Ev_none ?_
  refine Ev_lst ?_
  refine Ev_str ?_
  refine Ev_str ?_
  have pk : Py 2 (.list [.str "method", .str "c", .none, .list [.str "x", .str "y"]]) (.list [.str "method", .str "c", .none, .list [.str "x", .str "y"]]) :=
    .list (.cons (.str (by decide +kernel)) (.cons (.str (by decide +kernel)) (.cons .none (.cons (.list (.cons (.str (by decide +kernel)) (.cons (.str (by decide +kernel)) .nil))) .nil))))
  refine Op2_eqSelf hu pk (by decide) ⟨_, rfl, ?_⟩
  refine iteT ?_
  refine EvBo_one ?_
  refine Ev_Compare ?_
  refine Ev_fnV (n := 1) R rfl rfl rfl rfl ?_
  refine Ev_Sub ?_
  refine Ev_name rfl ?_
  refine Ev_int ?_
  refine Op2_subTup (by decide) (by decide) rfl ?_
  refine (c_law_rows B c0 kids0 hz0).eq (by decide) ?_
  refine Ev_Sub ?_
  refine Ev_name rfl ?_
  refine Ev_int ?_
  refine Op2_subTup (by decide) (by decide) rfl ?_
  exact Op2_eqSelf hu (rowsL_py _) (by decide) ⟨_, rfl, rfl⟩
end Mine
namespace Mine
set_option autoImplicit false
set_option linter.unusedVariables false
set_option maxRecDepth 100000

noncomputable abbrev PScene.code (s : PScene) : PCode := ⟨s.plain, [s.cat], s.starts⟩
noncomputable abbrev PScene.turned (s : PScene) : PCode := ⟨s.due, s.caught, s.goeS⟩
noncomputable abbrev outerC : PCode := ⟨[⟨.push, .nat 1, .none⟩, leaveR], [], [0]⟩
theorem IsScene.wf {p : Pass} {btw fl : Bool} {s : PScene} (h : IsScene p btw fl s) : WF s.code := by
  obtain ⟨z1, z2, z3⟩ := h.len
  have e : s.plain.length = s.rows.length := List.length_map _
  have hf := h.first
  have hl := h.last
  refine ⟨by show s.plain.length ≤ 1000; omega, by simp, ?_, fun r hr => ?_, fun i hi hE => ?_, fun k hk => ?_, fun i hi => ?_⟩
  · show s.starts.length ≤ 1000
    rw [PScene.starts]; split <;> simp
  · obtain ⟨x, hx, rfl⟩ := List.mem_map.mp hr
    show RowOk s.plain.length x.1
    rw [e]; exact (h.ok x hx).1
  · have hi' : i < s.rows.length := by rw [← e]; exact hi
    show i + 1 < s.plain.length
    rw [e]
    refine Nat.lt_of_le_of_ne (by omega) fun he => ?_
    obtain ⟨l, _, _, hr, _⟩ := h.made
    have h3 : s.plain = (((scSt p btw l).1.map (·.1)) ++ [(⟨.push, .nat 1, .none⟩ : PRow)]) ++ [leaveR] := by
      rw [PScene.plain, hr, List.map_append, List.append_assoc]; rfl
    have h4 : i = (((scSt p btw l).1.map (·.1)) ++ [(⟨.push, .nat 1, .none⟩ : PRow)]).length := by
      have := congrArg List.length h3
      rw [e, List.length_append] at this
      simp only [List.length_cons, List.length_nil] at this
      omega
    have h5 : at_ s.plain i = leaveR := by
      rw [at_, h3, List.getD_eq_getElem?_getD, h4, List.getElem?_append_right (Nat.le_refl _), Nat.sub_self]; rfl
    have h6 : (at_ s.plain i).op.isEnd = false := hE
    rw [h5] at h6; cases h6
  · simp only [List.mem_singleton] at hk
    subst hk
    show s.first ≤ s.plain.length ∧ s.last ≤ s.plain.length ∧ s.rows.length - 2 < s.plain.length
    rw [e]; omega
  · show i < s.plain.length
    rw [e]
    have hi : i ∈ s.starts := hi
    rw [PScene.starts] at hi
    split at hi <;> simp only [List.mem_cons, List.not_mem_nil, or_false] at hi <;> omega
theorem outer_wf : WF outerC := by
  refine ⟨by decide, by decide, by decide, fun r hr => ?_, fun i hi hE => ?_, fun k hk => (nomatch hk), fun i hi => ?_⟩
  · simp only [List.mem_cons, List.not_mem_nil, or_false] at hr
    rcases hr with rfl | rfl <;> exact .no rfl
  · have : i = 0 ∨ i = 1 := by have : i < 2 := hi; omega
    rcases this with rfl | rfl
    · decide
    · cases hE
  · simp only [List.mem_singleton] at hi; subst hi; decide
theorem outer_run (p : Pass) : p.run outerC = outerC := by cases p <;> rfl
theorem pass_only (p : Pass) : (passes.filter fun x => x.s == p.s).map (fun x => D.fn (.ref (passFn x))) = [.fn (.ref (passFn p))] := by cases p <;> rfl
theorem rowsLL_py (l : List PRow) : Py 3 (.list [.list (l.map rowT), .list (l.map rowT)]) (.list [.list (l.map rowPy), .list (l.map rowPy)]) := .list (.cons (rowsL_py l) (.cons (rowsL_py l) .nil))
theorem or2 {W : Wd} {C : Fx W} {A : Around} {σ : LS} {a b : Expr} {body rest : List Stmt} {p1 pos : Pos} {Φ : Fl → LS → Prop} (h : EvB C A a σ fun t σ₁ => t = false ∧ EvB C A b σ₁ fun t σ₂ => t = false ∧ Exs C A rest σ₂ Φ) :
    Exs C A (.If (.BoolOp .Or [a, b] p1) body [] pos :: rest) σ Φ :=
  If_skip <| EvB_BoolOp <| EvAll_consO <| h.mono fun t σ₁ ⟨e, h⟩ => by
    subst e
    refine iteF ?_
    refine EvAll_consO ?_
    exact h.mono fun t σ₂ ⟨e, h⟩ => by
      subst e
      refine iteF ?_
      exact EvAll_nilO ⟨rfl, h⟩

set_option maxHeartbeats 2000000 in
theorem c_pass_right (B : Base) (p : Pass) (btw fl : Bool) (H : ∀ s, IsScene p btw fl s → p.run s.code = s.turned) (k : Nat) (hk : k ≤ 80) (b : List D) (hb : BoxOk k fl b) :
    CallsB B.W 7 (.ref 315) b [.str p.s, .bool btw] (fun d b' => d = .bool true ∧ BoxOk (k + 20) fl b') := by
  refine CallsB_fnC (fn_law_pass_right B) rfl fun A L bx hE Fb hb' hx hF hL R => ?_
  have hu : A.units + 100 < cLine := by have := R.units; omega
  refine Exs_cons ?_
  refine Ex_AssignTup ?_
  refine Ev_boxV (n := 6) R rfl rfl rfl rfl rfl ?_
  refine Ev_name rfl ?_
  refine Ev_name rfl ?_
  refine ⟨_, rfl, (c_law_scene B p btw fl k hk b hb).mono (by decide) fun d b1 z13 => ?_⟩
  obtain ⟨s, hs, hd, hb1⟩ := z13
  subst hd
  refine ⟨_, rfl, ?_⟩
  refine Asg_tuple R.handled rfl rfl ?_
  refine Asg_name (.inl rfl) ?_
  refine Asg_name (.inl rfl) ?_
  refine Asg_name (.inl rfl) ?_
  refine Asg_name (.inl rfl) ?_
  refine Asg_name (.inl rfl) ?_
  refine Asg_name (.inl rfl) ?_
  have hrun := H s hs
  have wf := hs.wf
  have wf1 := pass_wf wf p
  rw [hrun] at wf1
  refine @Exs_weaken _ _ _ _ _ _ [("box", .own b1), ("name", .val (.str p.s)), ("rows", .val (.list (s.plain.map rowT))), ("catches", .val (.list ([s.cat].map triD))), ("starts", .val (.list (s.starts.map natD))), ("due", .val (.list (s.due.map rowT))), ("caught", .val (.list (s.caught.map caughtD))), ("goes", .val (.list (s.goeS.map natD)))] ⟨rfl, rfl, rfl, rfl, rfl, rfl, rfl, rfl, trivial⟩ ?_
  -- code
  refine Exs_cons ?_
  refine Ex_Asn (.inl rfl) ?_
  refine Ev_fnV (n := 6) R rfl rfl rfl rfl ?_
  refine Ev_name rfl ?_
  refine Ev_name rfl ?_
  refine Ev_name rfl ?_
  refine Ev_lst ?_
  refine (c_law_code B s.plain [s.cat] s.starts [] wf.big (by simp)).eq (by decide) ?_
  -- step
  refine Exs_cons ?_
  refine Ex_Asn (.inl rfl) ?_
  refine Ev_Sub ?_
  refine Ev_cMap [("name", .val (.str p.s))] passD passes (fun x => x.s == p.s) (fun x => .fn (.ref (passFn x))) [.fn (.ref (passFn p))] (pass_only p) R.handled (by decide) ⟨rfl, trivial⟩ rfl rfl rfl (clOne ⟨rfl, rfl⟩) goPass (fun L' hE' Fb' hb' hx' hF' x hx => ?_) ?_
  · refine Asg_tuple R.handled rfl rfl ?_
    refine Asg_name (.inl rfl) ?_
    refine Asg_name (.inl rfl) ?_
    refine EvB_Compare ?_
    refine Ev_name rfl ?_
    refine Ev_name rfl ?_
    refine Op2_eqS ⟨_, rfl, rfl, ?_⟩
    refine ite_B (fun _ => ?_) (fun _ => ⟨rfl, trivial⟩)
    exact Ev_name rfl ⟨rfl, rfl, trivial⟩
  refine Ev_passes rfl ⟨rfl, ⟨rfl, .inl ⟨_, rfl⟩, rfl, rfl, rfl, trivial⟩, ?_⟩
  refine Ev_int ?_
  refine Op2_subList (by decide) (by decide) rfl ?_
  refine @Exs_weaken _ _ _ _ _ _ [("box", .own b1), ("name", .val (.str p.s)), ("rows", .val (.list (s.plain.map rowT))), ("due", .val (.list (s.due.map rowT))), ("caught", .val (.list (s.caught.map caughtD))), ("goes", .val (.list (s.goeS.map natD))), ("code", .val (codeD s.code [])), ("step", .val (.fn (.ref (passFn p))))] ⟨rfl, rfl, rfl, rfl, rfl, rfl, rfl, rfl, trivial⟩ ?_
  -- both ways
  refine Exs_cons ?_
  refine Ex_ForR (fun c : PCode => codeD c []) [s.turned, s.turned] (fun rest σ => (∀ c ∈ rest, c = s.turned) ∧ Sub [("box", .own b1), ("name", .val (.str p.s)), ("rows", .val (.list (s.plain.map rowT))), ("due", .val (.list (s.due.map rowT))), ("caught", .val (.list (s.caught.map caughtD))), ("goes", .val (.list (s.goeS.map natD))), ("code", .val (codeD s.code []))] σ) R.handled ?_ (fun c rest σ₂ hc z14 => ?_) (fun σ₂ ⟨_, hS⟩ => ?_)
  · refine Ev_lst ?_
    refine Ev_Call (n := 6) R ?_
    refine Ev_name rfl ⟨_, rfl, pass_keep B p, ?_⟩
    refine EvSp_cons ?_
    refine Ev_name rfl ?_
    refine EvSp_nil ⟨[_], rfl, (c_pass B p s.code [] wf).eq (by decide) ?_⟩
    refine Ev_fnV (n := 6) R rfl rfl rfl rfl ?_
    refine Ev_name rfl ?_
    refine Ev_lst ?_
    refine Ev_name rfl ?_
    refine Ev_str ?_
    refine (c_passed_by0 B s.code wf [some p, none]).eq (by decide) ?_
    have e2 : passedP s.code [some p, none] = s.turned := hrun
    rw [hrun, e2]
    exact ⟨_, rfl, .list _, noRng, goName, fun c hc => by simpa using hc, rfl, rfl, rfl, rfl, rfl, rfl, rfl, trivial⟩
  · obtain ⟨hr, hS⟩ := z14
    have hc' : c = s.turned := hr c (.head _)
    subst hc'
    refine Asg.weaken hS ?_
    refine Asg_name (.inl rfl) ?_
    refine If_skip ?_
    refine EvB_Not ?_
    refine EvB_val ?_
    refine Ev_fnV (n := 6) R rfl rfl rfl rfl ?_
    refine Ev_name rfl ?_
    refine Ev_name rfl ?_
    refine Ev_name rfl ?_
    refine Ev_name rfl ?_
    refine Ev_tup ?_
    refine Ev_name rfl ?_
    refine Ev_name rfl ?_
    refine (c_turned_right B s.turned s.code [] [] wf1.big wf.big wf1.bigC).eq (by decide) ⟨_, rfl, rfl, ?_⟩
    exact Exs_nil ⟨fun c hc => hr c (.tail _ hc), rfl, rfl, rfl, rfl, rfl, rfl, rfl, trivial⟩
  refine @Exs_weaken _ _ _ _ _ _ _ hS ?_
  -- outer
  refine Exs_cons ?_
  refine Ex_Asn (.inl rfl) ?_
  refine Ev_fnV (n := 6) R rfl rfl rfl rfl ?_
  refine Ev_lst ?_
  refine Ev_tup ?_
  refine Ev_str ?_
  refine Ev_int ?_
  refine Ev_none ?_
  refine Ev_tup ?_
  refine Ev_str ?_
  refine Ev_none ?_
  refine Ev_none ?_
  refine Ev_lst ?_
  refine Ev_lst ?_
  refine Ev_int ?_
  refine Ev_lst ?_
  refine Ev_name rfl ?_
  refine Ev_name rfl ?_
  refine (c_law_code B outerC.rows [] [0] [codeD s.code [], codeD s.code []] (by decide) (by decide)).eq (by decide) ?_
  -- changed
  refine Exs_cons ?_
  refine Ex_Asn (.inl rfl) ?_
  refine Ev_fnV (n := 6) R rfl rfl rfl rfl ?_
  refine Ev_name rfl ?_
  refine Ev_lst ?_
  refine Ev_name rfl ?_
  refine (c_passed_by B 4 (by decide) outerC outer_wf [some p] [(codeD s.code [], codeD s.turned []), (codeD s.code [], codeD s.turned [])] (by simp) (fun q hq => ?_)).eq (by decide) ?_
  · have hq' : q = (codeD s.code [], codeD s.turned []) := by simpa using hq
    subst hq'
    have e := c_passed_by0 B s.code wf [some p]
    have e2 : passedP s.code [some p] = s.turned := hrun
    rw [e2] at e
    exact e
  have e3 : passedP outerC [some p] = outerC := outer_run p
  rw [e3]
  refine @Exs_weaken _ _ _ _ _ _ [("box", .own b1), ("due", .val (.list (s.due.map rowT))), ("code", .val (codeD s.code [])), ("outer", .val (codeD outerC [codeD s.code [], codeD s.code []])), ("changed", .val (codeD outerC [codeD s.turned [], codeD s.turned []]))] ⟨rfl, rfl, rfl, rfl, rfl, trivial⟩ ?_
  refine or2 ?_
  refine EvB_Compare ?_
  refine Ev_cMap [] (fun c : PCode => codeD c []) [s.turned, s.turned] (fun _ => true) (fun c => .list (c.rows.map rowT)) [.list (s.due.map rowT), .list (s.due.map rowT)] rfl R.handled (by simp) trivial rfl rfl rfl clNil goName (fun L' hE' Fb' hb' hx' hF' c hc => ?_) ?_
  · have hc' : c = s.turned := by simpa using hc
    subst hc'
    refine Asg_name (.inl rfl) ⟨rfl, ?_⟩
    refine Ev_fnV (n := 6) R rfl rfl rfl rfl ?_
    refine Ev_name rfl ?_
    exact (c_law_rows B s.turned [] wf1.big).eq (by decide) ⟨rfl, trivial⟩
  refine Ev_nAttr rfl rfl rfl ⟨rfl, trivial, ?_⟩
  refine Ev_lst ?_
  refine Ev_name rfl ?_
  refine Ev_name rfl ?_
  refine Op2_neSelf hu (rowsLL_py _) (by decide) ⟨_, rfl, rfl, ?_⟩
  refine EvB_Compare ?_
  refine Ev_fnV (n := 6) R rfl rfl rfl rfl ?_
  refine Ev_name rfl ?_
  refine (c_law_rows B outerC _ (by decide)).eq (by decide) ?_
  refine Ev_fnV (n := 6) R rfl rfl rfl rfl ?_
  refine Ev_name rfl ?_
  refine (c_law_rows B outerC _ (by decide)).eq (by decide) ?_
  refine Op2_neSelf hu (rowsL_py _) (by decide) ⟨_, rfl, rfl, ?_⟩
  -- tidy
  obtain ⟨ct, hct⟩ : ∃ ct, ct = tidyP s.code := ⟨_, rfl⟩
  have wft : WF ct := by rw [hct]; exact tidy_wf 24 wf
  have ht0 : Calls B.W 5 (.ref 245) [codeD s.code []] (· = codeD ct []) := by rw [hct]; exact c_tidy0 B s.code wf
  clear hct
  refine Exs_cons ?_
  refine Ex_Ret ?_
  refine Ev_Compare ?_
  refine Ev_cMap [] (fun c : PCode => codeD c []) [ct, ct] (fun _ => true) (fun c => .list (c.rows.map rowT)) [.list (ct.rows.map rowT), .list (ct.rows.map rowT)] rfl R.handled (by simp) trivial rfl rfl rfl clNil goName (fun L' hE' Fb' hb' hx' hF' c hc => ?_) ?_
  · have hc' : c = ct := by simpa using hc
    subst hc'
    refine Asg_name (.inl rfl) ⟨rfl, ?_⟩
    refine Ev_fnV (n := 6) R rfl rfl rfl rfl ?_
    refine Ev_name rfl ?_
    exact (c_law_rows B c [] wft.big).eq (by decide) ⟨rfl, trivial⟩
  refine Ev_Attr ?_
  refine Ev_fnV (n := 6) R rfl rfl rfl rfl ?_
  refine Ev_name rfl ?_
  refine (c_tidy B 5 (by decide) outerC outer_wf [(codeD s.code [], codeD ct []), (codeD s.code [], codeD ct [])] (by simp) (fun q hq => ?_)).eq (by decide) ?_
  · have hq' : q = (codeD s.code [], codeD ct []) := by simpa using hq
    subst hq'
    exact ht0
  refine Op1_attr rfl rfl ⟨rfl, trivial, ?_⟩
  refine Ev_BinOp ?_
  refine Ev_lst ?_
  refine Ev_fnV (n := 6) R rfl rfl rfl rfl ?_
  refine Ev_fnV (n := 6) R rfl rfl rfl rfl ?_
  refine Ev_name rfl ?_
  refine ht0.eq (by decide) ?_
  refine (c_law_rows B ct [] wft.big).eq (by decide) ?_
  refine Ev_int ?_
  refine Op2.thaw ?_
  refine Op2_mulList (by decide) (by decide) ⟨_, rfl, ?_⟩
  exact Op2_eqSelf hu (rowsLL_py _) (by decide) ⟨_, rfl, rfl, hb1⟩
end Mine
namespace Mine
set_option autoImplicit false
set_option linter.unusedVariables false
set_option maxRecDepth 100000
theorem Calls_sum0 {W : Wd} {n : Nat} {Φ : D → Prop} (h : Φ (.int 0)) : Calls W n (.builtin "sum") [.list []] Φ := by
  intro A s Fb vs R hb hF hB r
  obtain ⟨_, rfl, a⟩ := Reps.one r
  obtain ⟨ad, vs, rfl, nf, hl, q⟩ := Rep.ofList a
  cases q
  have hl' : s.heap.IsList ad (intItems #[]) := by rw [show intItems #[] = #[] by simp [intItems]]; exact hl
  refine sum_intListG (xs := #[]) R.handled hl' fun h' tk t' hk => ?_
  exact ⟨_, h, ⟨rfl, rfl, rfl⟩, hk, .int _ _⟩

set_option maxHeartbeats 2000000 in
theorem c_law_box (B : Base) (l : List Int) (hz : l.length ≤ 1000) : CallsF B.W 1 (.ref 264) [.list (l.map D.int), .int 0] (fun b => ∃ fl, BoxOk 0 fl b) := by
  refine CallsF_fn (fn_law_box B) rfl fun A L hE Fb hb hx hF R => ?_
  have hu : A.units + 100 < cLine := by have := R.units; omega
  have ret : ∀ (cell : Int) (σ : LS) {C : Fx B.W}, C = fxFn B.W (qu B 264) (sc B 264) L 264 (cd B 264) (fn_law_box B).kind none hE Fb hb hx hF → Sub [("script", .val (.list (l.map D.int))), ("k", .val (.int 0)), ("cell", .val (.int cell))] σ → ExsF C A ((bo B 264).drop 1) σ (fun b => ∃ fl, BoxOk 0 fl b) := by
    intro cell σ C eC hS
    subst eC
    refine ExsF_ret ?_
    refine Ev.weaken hS ?_
    refine Ev_ListF ?_
    refine EvSp.mono (EvV.sp (Φ := fun ds _ => ∃ fl, BoxOk 0 fl ds) (by rfl) ?_) fun ts σ₁ ⟨ds, e, el, q⟩ => ⟨ds, e, sizeBig (by rw [el]; decide), ds, rfl, q⟩
    -- the number
    refine Ev_BinOp ?_
    refine Ev_biV (n := 0) R rfl rfl rfl (by decide) rfl rfl ?_
    refine Ev_int ?_
    refine Ev_BinOp ?_
    refine Ev_name rfl ?_
    refine Ev_BinOp ?_
    refine Ev_int ?_
    refine Ev_int ?_
    refine Op2_pow (by decide) (by have := bits_le (x := 10) (n := 4) (by decide); omega) ?_
    refine Op2_sub ?_
    refine Calls_max ?_
    refine Ev_BinOp ?_
    refine Ev_int ?_
    refine Ev_int ?_
    refine Op2_pow (by decide) (by have := bits_le (x := 10) (n := 4) (by decide); omega) ?_
    refine Op2_mod (by decide +kernel) ?_
    obtain ⟨r1, r2⟩ := fmod_range (i := if cell - 10 ^ (18 : Int).toNat > 0 then cell - 10 ^ (18 : Int).toNat else 0) (j := 10 ^ (90 : Int).toNat) (by decide +kernel)
    generalize (if cell - 10 ^ (18 : Int).toNat > 0 then cell - 10 ^ (18 : Int).toNat else 0).fmod (10 ^ (90 : Int).toNat) = b0 at r1 r2 ⊢
    clear r2
    -- the seed
    refine Ev_BinOp ?_
    refine Ev_name rfl ?_
    refine Ev_int ?_
    refine Op2_mod (by decide) ?_
    obtain ⟨q1, q2⟩ := fmod_range (i := cell) (j := 2147483629) (by decide)
    generalize cell.fmod 2147483629 = b1 at q1 q2 ⊢
    refine Ev_int ?_
    -- the flag
    refine Ev_BoolOp ?_
    refine EvBo_consO ?_
    refine Ev_Compare ?_
    refine Ev_name rfl ?_
    refine Ev_biV (n := 0) R rfl rfl rfl (by decide) rfl rfl ?_
    refine Ev_name rfl ?_
    refine Calls_len (by simp; omega) ?_
    refine Op2_ge ⟨_, rfl, ?_⟩
    refine ite_B (fun _ => ⟨_, b0, b1, 0, rfl, r1, q1, by omega, by omega, by omega⟩) (fun _ => ?_)
    refine EvBo_one ?_
    refine Ev_Compare ?_
    refine Ev_biV (n := 0) R rfl rfl rfl (by decide) rfl rfl ?_
    refine Ev_name rfl ?_
    refine Calls_abs ?_
    refine Ev_int ?_
    exact Op2_lt ⟨_, rfl, _, b0, b1, 0, rfl, r1, q1, by omega, by omega, by omega⟩
  refine ExsF_cons ?_
  refine Ex_Asn (.inl rfl) ?_
  refine Ev_IfExp ?_
  refine EvB_Compare ?_
  refine Ev_name rfl ?_
  refine Ev_biV (n := 0) R rfl rfl rfl (by decide) rfl rfl ?_
  refine Ev_name rfl ?_
  refine Calls_len (by simp; omega) ?_
  refine Op2_lt ⟨_, rfl, ?_⟩
  cases l with
  | nil =>
    refine iteFb (by rfl) ?_
    refine Ev_BinOp ?_
    refine Ev_BinOp ?_
    refine Ev_BinOp ?_
    refine Ev_int ?_
    refine Ev_name rfl ?_
    refine Op2_mul (.of_left (Nat.le_trans (bits_le (x := 71717171) (n := 30) (by decide)) (by decide))) ?_
    refine Ev_int ?_
    refine Op2_add ?_
    refine Ev_BinOp ?_
    refine Ev_biV (n := 0) R rfl rfl rfl (by decide) rfl rfl ?_
    refine Ev_SliceNil ?_
    refine Ev_name rfl ⟨rfl, ?_⟩
    refine Calls_sum0 ?_
    refine Ev_int ?_
    refine Op2_mod (by decide) ?_
    refine Op2_add ⟨rfl, ?_⟩
    exact ret _ _ rfl ⟨rfl, rfl, rfl, trivial⟩
  | cons i l =>
    have hlt : decide ((0 : Int) < ((((i :: l).map D.int).length : Nat) : Int)) = true := by rw [List.length_map]; simp
    refine iteTb hlt ?_
    refine Ev_Sub ?_
    refine Ev_name rfl ?_
    refine Ev_name rfl ?_
    refine Op2_subList (by decide) (by decide) rfl ⟨rfl, ?_⟩
    exact ret _ _ rfl ⟨rfl, rfl, rfl, trivial⟩
end Mine
namespace Mine
set_option autoImplicit false
set_option linter.unusedVariables false

/- what each pass is to leave -/
noncomputable def expP (rows : List LRow) : List (Option PRow) := rows.map fun x => if staysB x then some (dueRow x) else none
theorem exp_places : ∀ (rows : List LRow) (n : Nat), placesAux n (expP rows) = goesP n (rows.map staysB)
  | [], n => rfl
  | x :: rows, n => by
    rw [List.map_cons, goesP]
    show placesAux n ((if staysB x then some (dueRow x) else none) :: expP rows) = _
    cases h : staysB x with
    | true => rw [if_pos rfl, placesAux, exp_places rows (n + 1)]; rfl
    | false => rw [if_neg (by decide), placesAux, exp_places rows n]; rfl
theorem exp_kept : ∀ (rows : List LRow), (expP rows).filterMap id = (rows.filter staysB).map dueRow
  | [] => rfl
  | x :: rows => by
    show ((if staysB x then some (dueRow x) else none) :: expP rows).filterMap id = _
    cases h : staysB x with
    | true => rw [if_pos rfl, List.filter_cons, if_pos h, List.map_cons, ← exp_kept rows]; rfl
    | false => rw [if_neg (by decide), List.filter_cons, if_neg (by rw [h]; decide), ← exp_kept rows]; rfl
theorem turned_of {p : Pass} {s : PScene} (h : p.opt ⟨s.plain, [s.cat], s.starts⟩ = expP s.rows) : p.run ⟨s.plain, [s.cat], s.starts⟩ = ⟨s.due, s.caught, s.goeS⟩ := by
  have e1 : placesP (expP s.rows) = s.goes := exp_places s.rows 0
  rw [Pass.run, h, pressedP, e1, exp_kept]
  rfl
theorem opt_cats {p : Pass} (hp : p ≠ .dead) (r : List PRow) (f l t : Nat) (st : List Nat) : p.opt ⟨r, [⟨f, l, t⟩], st⟩ = p.opt ⟨r, [⟨0, 0, t⟩], st⟩ := by
  cases p <;> first | rfl | exact absurd rfl hp

theorem lt2 {n : Nat} (h : n < 2) : n = 0 ∨ n = 1 := by omega
theorem lt4 {n : Nat} (h : n < 4) : n = 0 ∨ n = 1 ∨ n = 2 ∨ n = 3 := by omega
end Mine
namespace Mine
set_option autoImplicit false
set_option linter.unusedVariables false
set_option maxRecDepth 100000

noncomputable def codeS (p : Pass) (btw : Bool) (l : List PArgs) (two : Bool) : PCode := ⟨((scSt p btw l).1 ++ endL).map (·.1), [⟨0, 0, ((scSt p btw l).1 ++ endL).length - 2⟩], if two then [0, (scSt p btw l).2] else [0]⟩
noncomputable def lhs (p : Pass) (btw : Bool) (ll : List (List PArgs)) : List (List (Option PRow)) := ll.flatMap fun l => [p.opt (codeS p btw l true), p.opt (codeS p btw l false)]
noncomputable def rhs (p : Pass) (btw : Bool) (ll : List (List PArgs)) : List (List (Option PRow)) := ll.flatMap fun l => [expP ((scSt p btw l).1 ++ endL), expP ((scSt p btw l).1 ++ endL)]
theorem each_of {p : Pass} {btw : Bool} : ∀ {ll : List (List PArgs)}, lhs p btw ll = rhs p btw ll → ∀ l ∈ ll, ∀ two, p.opt (codeS p btw l two) = expP ((scSt p btw l).1 ++ endL)
  | [], _, l, hl, _ => nomatch hl
  | m :: ll, h, l, hl, two => by
    unfold lhs rhs at h
    rw [List.flatMap_cons, List.flatMap_cons] at h
    simp only [List.cons_append, List.nil_append, List.cons.injEq] at h
    rcases List.mem_cons.mp hl with rfl | hl
    · cases two with
      | true => exact h.1
      | false => exact h.2.1
    · exact each_of (ll := ll) h.2.2 l hl two
theorem mem_rf {β : Type} {n i : Nat} {f : Nat → List β} {x : β} (h : i < n) (hx : x ∈ f i) : x ∈ (List.range n).flatMap f := List.mem_flatMap.mpr ⟨i, List.mem_range.mpr h, hx⟩
theorem mem_rm {β : Type} {n i : Nat} {f : Nat → β} (h : i < n) : f i ∈ (List.range n).map f := List.mem_map.mpr ⟨i, List.mem_range.mpr h, rfl⟩

section
variable (s v b t l k s' v' b' t' l' k' : Nat)
noncomputable abbrev copies2 := (List.range 4).flatMap fun t => (List.range 4).map fun t' => [PArgs.mk s v b t l k, PArgs.mk s' v' b' t' l' k']
noncomputable abbrev copies1 := (List.range 4).map fun t => [PArgs.mk s v b t l k]
theorem k_copies2 (btw : Bool) : lhs .copies btw (copies2 s v b l k s' v' b' l' k') = rhs .copies btw (copies2 s v b l k s' v' b' l' k') := by cases btw <;> kernel_rfl
theorem k_copies1 (btw : Bool) : lhs .copies btw (copies1 s v b l k) = rhs .copies btw (copies1 s v b l k) := by cases btw <;> kernel_rfl
noncomputable abbrev pushes2 := (List.range 7).flatMap fun l => (List.range 7).map fun l' => [PArgs.mk s v b t l k, PArgs.mk s' v' b' t' l' k']
noncomputable abbrev pushes1 := (List.range 7).map fun l => [PArgs.mk s v b t l k]
theorem k_pushes2 (btw : Bool) : lhs .pushes btw (pushes2 s v b t k s' v' b' t' k') = rhs .pushes btw (pushes2 s v b t k s' v' b' t' k') := by cases btw <;> kernel_rfl
theorem k_pushes1 (btw : Bool) : lhs .pushes btw (pushes1 s v b t k) = rhs .pushes btw (pushes1 s v b t k) := by cases btw <;> kernel_rfl
noncomputable abbrev swaps2 := (List.range 2).flatMap fun s => (List.range 2).map fun s' => [PArgs.mk s v b t l k, PArgs.mk s' v' b' t' l' k']
noncomputable abbrev swaps1 := (List.range 2).map fun s => [PArgs.mk s v b t l k]
theorem k_swaps2 (btw : Bool) : lhs .swaps btw (swaps2 v b t l k v' b' t' l' k') = rhs .swaps btw (swaps2 v b t l k v' b' t' l' k') := by cases btw <;> kernel_rfl
theorem k_swaps1 (btw : Bool) : lhs .swaps btw (swaps1 v b t l k) = rhs .swaps btw (swaps1 v b t l k) := by cases btw <;> kernel_rfl
noncomputable abbrev turned2 := (List.range 2).flatMap fun b => (List.range 2).map fun b' => [PArgs.mk s v b t l k, PArgs.mk s' v' b' t' l' k']
noncomputable abbrev turned1 := (List.range 2).map fun b => [PArgs.mk s v b t l k]
theorem k_turned2 : lhs .turned false (turned2 s v t l k s' v' t' l' k') = rhs .turned false (turned2 s v t l k s' v' t' l' k') := by kernel_rfl
theorem k_turned1 : lhs .turned false (turned1 s v t l k) = rhs .turned false (turned1 s v t l k) := by kernel_rfl
noncomputable abbrev short2 := (List.range 3).flatMap fun k => (List.range 2).flatMap fun b => (List.range 3).flatMap fun k' => (List.range 2).map fun b' => [PArgs.mk s v b t l k, PArgs.mk s' v' b' t' l' k']
noncomputable abbrev short1 := (List.range 3).flatMap fun k => (List.range 2).map fun b => [PArgs.mk s v b t l k]
theorem k_short2 : lhs .short false (short2 s v t l s' v' t' l') = rhs .short false (short2 s v t l s' v' t' l') := by kernel_rfl
theorem k_short1 : lhs .short false (short1 s v t l) = rhs .short false (short1 s v t l) := by kernel_rfl
noncomputable abbrev thr2 := (List.range 2).flatMap fun s => (List.range 2).flatMap fun b => (List.range 2).flatMap fun s' => (List.range 2).map fun b' => [PArgs.mk s v b t l k, PArgs.mk s' v' b' t' l' k']
noncomputable abbrev thr1 := (List.range 2).flatMap fun s => (List.range 2).map fun b => [PArgs.mk s v b t l k]
theorem k_thr2 : lhs .threaded false (thr2 v t l k v' t' l' k') = rhs .threaded false (thr2 v t l k v' t' l' k') := by kernel_rfl
theorem k_thr1 : lhs .threaded false (thr1 v t l k) = rhs .threaded false (thr1 v t l k) := by kernel_rfl
noncomputable abbrev known2 (s v : Nat) := (List.range 2).flatMap fun b => (List.range 2).flatMap fun s' => (List.range 4).flatMap fun v' => (List.range 2).map fun b' => [PArgs.mk s v b t l k, PArgs.mk s' v' b' t' l' k']
noncomputable abbrev known1 := (List.range 2).flatMap fun s => (List.range 4).flatMap fun v => (List.range 2).map fun b => [PArgs.mk s v b t l k]
theorem k_known00 : lhs .known false (known2 t l k t' l' k' 0 0) = rhs .known false (known2 t l k t' l' k' 0 0) := by kernel_rfl
theorem k_known01 : lhs .known false (known2 t l k t' l' k' 0 1) = rhs .known false (known2 t l k t' l' k' 0 1) := by kernel_rfl
theorem k_known02 : lhs .known false (known2 t l k t' l' k' 0 2) = rhs .known false (known2 t l k t' l' k' 0 2) := by kernel_rfl
theorem k_known03 : lhs .known false (known2 t l k t' l' k' 0 3) = rhs .known false (known2 t l k t' l' k' 0 3) := by kernel_rfl
theorem k_known10 : lhs .known false (known2 t l k t' l' k' 1 0) = rhs .known false (known2 t l k t' l' k' 1 0) := by kernel_rfl
theorem k_known11 : lhs .known false (known2 t l k t' l' k' 1 1) = rhs .known false (known2 t l k t' l' k' 1 1) := by kernel_rfl
theorem k_known12 : lhs .known false (known2 t l k t' l' k' 1 2) = rhs .known false (known2 t l k t' l' k' 1 2) := by kernel_rfl
theorem k_known13 : lhs .known false (known2 t l k t' l' k' 1 3) = rhs .known false (known2 t l k t' l' k' 1 3) := by kernel_rfl
theorem k_known1 : lhs .known false (known1 t l k) = rhs .known false (known1 t l k) := by kernel_rfl
end
end Mine
namespace Mine
set_option autoImplicit false
set_option linter.unusedVariables false
set_option maxRecDepth 100000

noncomputable def isBtw : Pass → Bool
  | .pushes | .copies | .swaps => true
  | _ => false
theorem pair_ok (p : Pass) (hp : p ≠ .dead) (btw : Bool) (hb : btw = true → isBtw p = true) (a a' : PArgs) (ha : a.Ok) (ha' : a'.Ok) (two : Bool) : p.opt (codeS p btw [a, a'] two) = expP ((scSt p btw [a, a']).1 ++ endL) := by
  obtain ⟨s, v, b, t, l, k⟩ := a
  obtain ⟨s', v', b', t', l', k'⟩ := a'
  obtain ⟨h1, h2, h3, h4, h5, h6⟩ := ha
  obtain ⟨g1, g2, g3, g4, g5, g6⟩ := ha'
  dsimp only at h1 h2 h3 h4 h5 h6 g1 g2 g3 g4 g5 g6
  cases p with
  | dead => exact absurd rfl hp
  | pushes => exact each_of (k_pushes2 s v b t k s' v' b' t' k' btw) _ (mem_rf h5 (mem_rm (f := fun l' => [PArgs.mk s v b t l k, PArgs.mk s' v' b' t' l' k']) g5)) two
  | copies => exact each_of (k_copies2 s v b l k s' v' b' l' k' btw) _ (mem_rf h4 (mem_rm (f := fun t' => [PArgs.mk s v b t l k, PArgs.mk s' v' b' t' l' k']) g4)) two
  | swaps => exact each_of (k_swaps2 v b t l k v' b' t' l' k' btw) _ (mem_rf h1 (mem_rm (f := fun s' => [PArgs.mk s v b t l k, PArgs.mk s' v' b' t' l' k']) g1)) two
  | turned =>
    have : btw = false := by cases btw with | true => exact absurd (hb rfl) (by decide) | false => rfl
    subst this
    exact each_of (k_turned2 s v t l k s' v' t' l' k') _ (mem_rf h3 (mem_rm (f := fun b' => [PArgs.mk s v b t l k, PArgs.mk s' v' b' t' l' k']) g3)) two
  | short =>
    have : btw = false := by cases btw with | true => exact absurd (hb rfl) (by decide) | false => rfl
    subst this
    exact each_of (k_short2 s v t l s' v' t' l') _ (mem_rf h6 <| mem_rf h3 <| mem_rf g6 (mem_rm (f := fun b' => [PArgs.mk s v b t l k, PArgs.mk s' v' b' t' l' k']) g3)) two
  | threaded =>
    have : btw = false := by cases btw with | true => exact absurd (hb rfl) (by decide) | false => rfl
    subst this
    exact each_of (k_thr2 v t l k v' t' l' k') _ (mem_rf h1 <| mem_rf h3 <| mem_rf g1 (mem_rm (f := fun b' => [PArgs.mk s v b t l k, PArgs.mk s' v' b' t' l' k']) g3)) two
  | known =>
    have : btw = false := by cases btw with | true => exact absurd (hb rfl) (by decide) | false => rfl
    subst this
    have m : [PArgs.mk s v b t l k, PArgs.mk s' v' b' t' l' k'] ∈ known2 t l k t' l' k' s v := mem_rf h3 <| mem_rf g1 <| mem_rf g2 (mem_rm (f := fun b' => [PArgs.mk s v b t l k, PArgs.mk s' v' b' t' l' k']) g3)
    rcases lt2 h1 with rfl | rfl <;> rcases lt4 h2 with rfl | rfl | rfl | rfl
    · exact each_of (k_known00 t l k t' l' k') _ m two
    · exact each_of (k_known01 t l k t' l' k') _ m two
    · exact each_of (k_known02 t l k t' l' k') _ m two
    · exact each_of (k_known03 t l k t' l' k') _ m two
    · exact each_of (k_known10 t l k t' l' k') _ m two
    · exact each_of (k_known11 t l k t' l' k') _ m two
    · exact each_of (k_known12 t l k t' l' k') _ m two
    · exact each_of (k_known13 t l k t' l' k') _ m two
theorem one_ok (p : Pass) (hp : p ≠ .dead) (btw : Bool) (hb : btw = true → isBtw p = true) (a : PArgs) (ha : a.Ok) (two : Bool) : p.opt (codeS p btw [a] two) = expP ((scSt p btw [a]).1 ++ endL) := by
  obtain ⟨s, v, b, t, l, k⟩ := a
  obtain ⟨h1, h2, h3, h4, h5, h6⟩ := ha
  dsimp only at h1 h2 h3 h4 h5 h6
  cases p with
  | dead => exact absurd rfl hp
  | pushes => exact each_of (k_pushes1 s v b t k btw) _ (mem_rm (f := fun l => [PArgs.mk s v b t l k]) h5) two
  | copies => exact each_of (k_copies1 s v b l k btw) _ (mem_rm (f := fun t => [PArgs.mk s v b t l k]) h4) two
  | swaps => exact each_of (k_swaps1 v b t l k btw) _ (mem_rm (f := fun s => [PArgs.mk s v b t l k]) h1) two
  | turned =>
    have : btw = false := by cases btw with | true => exact absurd (hb rfl) (by decide) | false => rfl
    subst this
    exact each_of (k_turned1 s v t l k) _ (mem_rm (f := fun b => [PArgs.mk s v b t l k]) h3) two
  | short =>
    have : btw = false := by cases btw with | true => exact absurd (hb rfl) (by decide) | false => rfl
    subst this
    exact each_of (k_short1 s v t l) _ (mem_rf h6 (mem_rm (f := fun b => [PArgs.mk s v b t l k]) h3)) two
  | threaded =>
    have : btw = false := by cases btw with | true => exact absurd (hb rfl) (by decide) | false => rfl
    subst this
    exact each_of (k_thr1 v t l k) _ (mem_rf h1 (mem_rm (f := fun b => [PArgs.mk s v b t l k]) h3)) two
  | known =>
    have : btw = false := by cases btw with | true => exact absurd (hb rfl) (by decide) | false => rfl
    subst this
    exact each_of (k_known1 t l k) _ (mem_rf h1 <| mem_rf h2 (mem_rm (f := fun b => [PArgs.mk s v b t l k]) h3)) two

/- dead rows -/
noncomputable def deadS (p1 p2 : PRow) (two : Bool) (f l : Nat) : PCode :=
  ⟨[undefR .a, popR, toR .jump 5, p1, popR, undefR .b, popR, toR .jump 10, p2, popR, undefR .b, popR, ⟨.push, .nat 1, .none⟩, leaveR], [⟨f, l, 12⟩], if two then [0, 7] else [0]⟩
noncomputable def dead1 (p1 : PRow) (two : Bool) (f l : Nat) : PCode :=
  ⟨[undefR .a, popR, toR .jump 5, p1, popR, undefR .b, popR, ⟨.push, .nat 1, .none⟩, leaveR], [⟨f, l, 7⟩], if two then [0, 2] else [0]⟩
noncomputable abbrev flags2 : List Bool := [true, true, true, false, false, true, true, true, false, false, true, true, true, true]
noncomputable abbrev flags1 : List Bool := [true, true, true, false, false, true, true, true, true]
noncomputable abbrev upTo (n : Nat) : List (Nat × Nat) := (List.range n).flatMap fun f => (List.range (n - f)).map fun d => (f, f + 1 + d)
theorem k_dead2 (p1 p2 : PRow) : ((upTo 14).flatMap fun q => [reachedP (deadS p1 p2 true q.1 q.2), reachedP (deadS p1 p2 false q.1 q.2)]) = (upTo 14).flatMap fun _ => [flags2, flags2] := by kernel_rfl
theorem k_dead1 (p1 : PRow) : ((upTo 9).flatMap fun q => [reachedP (dead1 p1 true q.1 q.2), reachedP (dead1 p1 false q.1 q.2)]) = (upTo 9).flatMap fun _ => [flags1, flags1] := by kernel_rfl
theorem flat_each {α β : Type} {g h : α → β} {c : β} : ∀ {ll : List α}, (ll.flatMap fun x => [g x, h x]) = (ll.flatMap fun _ => [c, c]) → ∀ x ∈ ll, g x = c ∧ h x = c
  | [], _, l, hl => nomatch hl
  | m :: ll, e, l, hl => by
    rw [List.flatMap_cons, List.flatMap_cons] at e
    simp only [List.cons_append, List.nil_append, List.cons.injEq] at e
    rcases List.mem_cons.mp hl with rfl | hl
    · exact ⟨e.1, e.2.1⟩
    · exact flat_each (ll := ll) e.2.2 l hl
theorem upTo_mem {n f l : Nat} (h1 : f < l) (h2 : l ≤ n) : (f, l) ∈ upTo n := by
  refine mem_rf (i := f) (by omega) (List.mem_map.mpr ⟨l - f - 1, List.mem_range.mpr (by omega), ?_⟩)
  rw [show f + 1 + (l - f - 1) = l by omega]
theorem dead2_ok (p1 p2 : PRow) (two : Bool) (f l : Nat) (h1 : f < l) (h2 : l ≤ 14) : reachedP (deadS p1 p2 two f l) = flags2 := by
  have := flat_each (k_dead2 p1 p2) (f, l) (upTo_mem h1 h2)
  cases two with
  | true => exact this.1
  | false => exact this.2
theorem dead1_ok (p1 : PRow) (two : Bool) (f l : Nat) (h1 : f < l) (h2 : l ≤ 9) : reachedP (dead1 p1 two f l) = flags1 := by
  have := flat_each (k_dead1 p1) (f, l) (upTo_mem h1 h2)
  cases two with
  | true => exact this.1
  | false => exact this.2

/-- each scene is turned as is due -/
theorem scene_opt (p : Pass) (btw fl : Bool) (s : PScene) (h : IsScene p btw fl s) (hb : btw = true → isBtw p = true) : p.opt ⟨s.plain, [s.cat], s.starts⟩ = expP s.rows := by
  obtain ⟨ll, hl, hok, hr, hs⟩ := h.made
  have h1 := h.first
  have h2 := h.last
  obtain ⟨rows, second, first, last, two⟩ := s
  dsimp only at hr hs h1 h2
  subst hr
  subst hs
  by_cases hp : p = .dead
  · subst hp
    have : btw = false := by cases btw with | true => exact absurd (hb rfl) (by decide) | false => rfl
    subst this
    cases fl with
    | true =>
      match ll, hl with
      | [a], _ =>
        have e : reachedP ⟨PScene.plain ⟨(scSt .dead false [a]).1 ++ endL, (scSt .dead false [a]).2, first, last, two⟩, [PScene.cat ⟨(scSt .dead false [a]).1 ++ endL, (scSt .dead false [a]).2, first, last, two⟩], PScene.starts ⟨(scSt .dead false [a]).1 ++ endL, (scSt .dead false [a]).2, first, last, two⟩⟩ = flags1 := dead1_ok a.plain two first last h1 h2
        show deadO _ = _
        rw [deadO, e]
        rfl
    | false =>
      match ll, hl with
      | [a, a'], _ =>
        have e : reachedP ⟨PScene.plain ⟨(scSt .dead false [a, a']).1 ++ endL, (scSt .dead false [a, a']).2, first, last, two⟩, [PScene.cat ⟨(scSt .dead false [a, a']).1 ++ endL, (scSt .dead false [a, a']).2, first, last, two⟩], PScene.starts ⟨(scSt .dead false [a, a']).1 ++ endL, (scSt .dead false [a, a']).2, first, last, two⟩⟩ = flags2 := dead2_ok a.plain a'.plain two first last h1 h2
        show deadO _ = _
        rw [deadO, e]
        rfl
  · rw [PScene.cat, opt_cats hp]
    cases fl with
    | true =>
      match ll, hl with
      | [a], _ => exact one_ok p hp btw hb a (hok a (.head _)) two
    | false =>
      match ll, hl with
      | [a, a'], _ => exact pair_ok p hp btw hb a a' (hok a (.head _)) (hok a' (.tail _ (.head _))) two
end Mine
namespace Mine
set_option autoImplicit false
set_option linter.unusedVariables false
set_option maxRecDepth 100000

theorem fn_law (B : Base) : FnAt B.W.K 320 (qu B 320) (bo B 320) (sc B 320) (cd B 320) ["script"] :=
  FnAt.of rfl (bdS fun _ => bd0 rfl) (by rfl) (by rfl) (by rfl) (by rfl) (by decide) (by rfl)

/- the two sorted lists are one -/
noncomputable def namesP : List Pass := [.pushes, .copies, .swaps, .known, .turned, .short, .dead, .threaded]
noncomputable def namesS : List Str := namesP.map Pass.s
noncomputable def rankS (s : Str) : Nat := [Pass.copies.s, Pass.dead.s, Pass.known.s, Pass.pushes.s, Pass.short.s, Pass.swaps.s, Pass.threaded.s, Pass.turned.s].findIdx (· == s)
theorem rank_lt : ∀ a ∈ namesS, ∀ b ∈ namesS, Spec.ltCps b.cps.toList a.cps.toList = decide (rankS b < rankS a) := by decide +kernel
theorem rank_eq : ∀ a ∈ namesS, ∀ b ∈ namesS, rankS a ≤ rankS b → rankS b ≤ rankS a → a = b := by decide +kernel
theorem rising_rank : ∀ (r : List Str) (x : Str), (∀ y ∈ x :: r, y ∈ namesS) → risingS x r = true → (x :: r).Pairwise fun a b => rankS a ≤ rankS b
  | [], x, _, _ => List.pairwise_singleton _ _
  | y :: r, x, hm, h => by
    have hy : Spec.ltCps y.cps.toList x.cps.toList = false ∧ risingS y r = true := by
      rw [risingS, Bool.and_eq_true] at h
      exact ⟨by simpa using h.1, h.2⟩
    rw [rank_lt x (hm x (.head _)) y (hm y (.tail _ (.head _))), decide_eq_false_iff_not] at hy
    have ih := rising_rank r y (fun z hz => hm z (.tail _ hz)) hy.2
    refine List.pairwise_cons.mpr ⟨fun z hz => ?_, ih⟩
    rcases List.mem_cons.mp hz with rfl | hz
    · omega
    · have := (List.pairwise_cons.mp ih).1 z hz; omega
theorem sorted_rank {l : List Str} (hm : ∀ y ∈ l, y ∈ namesS) (h : sortedS l = true) : l.Pairwise fun a b => rankS a ≤ rankS b := by
  cases l with
  | nil => exact .nil
  | cons x r => exact rising_rank r x hm h
theorem sorted_one {l m : List Str} (hl : ∀ y ∈ l, y ∈ namesS) (hm : ∀ y ∈ m, y ∈ namesS) (h1 : sortedS l = true) (h2 : sortedS m = true) (hp : l.Perm m) : l = m :=
  List.Perm.eq_of_pairwise (fun a b ha hb => rank_eq a (hl a ha) b (hm b hb)) (sorted_rank hl h1) (sorted_rank hm h2) hp
theorem names_perm : (passes.map Pass.s).Perm namesS := by decide +kernel

theorem strs_py : ∀ (l : List Str), (∀ s ∈ l, s ∈ namesS) → Py 1 (.list (l.map D.str)) (.list (l.map PyData.str)) := fun l hl => .list (Pys.map fun s hs => .str (by
  have : ∀ s ∈ namesS, PyData.strOk s = true := by decide +kernel
  exact this s (hl s hs)))
noncomputable abbrev PlainLaw : Prop := ∀ (p : Pass) (btw fl : Bool) (s : PScene), IsScene p btw fl s → (btw = true → isBtw p = true) → p.run s.code = s.turned
theorem plainLaw : PlainLaw := fun p btw fl s h hb => turned_of (scene_opt p btw fl s h hb)

set_option maxHeartbeats 4000000 in
theorem law_turn (B : Base) (PL : PlainLaw) (p : Pass) (fl : Bool) {C : Fx B.W} {A : Around} (R : Room A 7) (k1 : C.env.kindOf "_law_take" = some .globalImplicit) (k2 : C.env.kindOf "_law_pass_right" = some .globalImplicit)
    (bL : Bind C "lies_between") (k : Nat) (hk : k ≤ 60) (b : List D) (hb : BoxOk k fl b) {Φ : Fl → LS → Prop}
    (h : ∀ b' σ', BoxOk (k + 21) fl b' → Sub [("box", .own b')] σ' → Φ .next σ') :
    Exs C A ((match (bo B 320)[4]! with | .For _ _ b _ _ => b | _ => [])) [("box", .own b), ("name", .val (.str p.s))] Φ := by
  have go : ∀ (btw : Bool) (b2 : List D), (btw = true → isBtw p = true) → BoxOk (k + 1) fl b2 →
      Exs C A (((match (bo B 320)[4]! with | .For _ _ b _ _ => b | _ => []) : List Stmt).drop 1) [("box", .own b2), ("name", .val (.str p.s)), ("lies_between", .val (.bool btw))] Φ := by
    intro btw b2 hbt hb2
    refine If_skip ?_
    refine EvB_Not ?_
    refine EvB_val ?_
    refine Ev_boxV (n := 7) R k2 rfl rfl rfl rfl ?_
    refine Ev_name rfl ?_
    refine Ev_name rfl ?_
    refine ⟨_, rfl, (c_pass_right B p btw fl (fun s hs => PL p btw fl s hs hbt) (k + 1) (by omega (config := {})) b2 hb2).mono (by decide) fun d b3 z15 => ?_⟩
    obtain ⟨hd, hb3⟩ := z15
    subst hd
    refine ⟨_, rfl, rfl, ?_⟩
    refine Exs_nil ?_
    exact h b3 _ hb3 ⟨rfl, trivial⟩
  have hb0 := hb
  obtain ⟨c0, c1, c2, rfl, _⟩ := hb
  refine Exs_cons ?_
  refine Ex_Asn bL ?_
  refine Ev_BoolOp ?_
  refine EvBo_consA ?_
  refine Ev_Unary ?_
  refine Ev_Sub ?_
  refine Ev_own rfl ?_
  refine Ev_int ?_
  refine Op2_subOwn (k := 3) (d := .bool fl) rfl (by decide) (by decide) rfl ?_
  refine Op1_not ⟨_, rfl, ?_⟩
  cases fl with
  | true =>
    refine iteFb (by rfl) ?_
    refine @Exs_weaken _ _ _ _ _ _ _ ?_ (go false _ (fun e => nomatch e) (hb0.mono (Nat.le_succ _)))
    exact ⟨rfl, rfl, rfl, trivial⟩
  | false =>
    refine iteTb (by rfl) ?_
    refine EvBo_consA ?_
    refine Ev_Compare ?_
    refine Ev_name rfl ?_
    refine Ev_lst ?_
    refine Ev_str ?_
    refine Ev_str ?_
    refine Ev_str ?_
    refine Op2_inList (ys := [Pass.pushes.s, Pass.copies.s, Pass.swaps.s]) ⟨_, rfl, ?_⟩
    have e : [Pass.pushes.s, Pass.copies.s, Pass.swaps.s].any (· == p.s) = isBtw p := by cases p <;> rfl
    refine ite_eq e (fun hbt => ?_) (fun hbt => ?_)
    · refine EvBo_one ?_
      refine Ev_Compare ?_
      refine Ev_take (n := 6) (many := 3) R k1 rfl hb0 (by omega (config := {})) (by decide) (by decide) fun r b2 hr hb2 => ?_
      refine Ev_int ?_
      refine Op2_eq ⟨_, rfl, ?_⟩
      refine @Exs_weaken _ _ _ _ _ _ _ ?_ (go ((r : Int) == 0) b2 (fun _ => hbt) hb2)
      exact ⟨rfl, rfl, rfl, trivial⟩
    · refine @Exs_weaken _ _ _ _ _ _ _ ?_ (go false _ (fun e => nomatch e) (hb0.mono (Nat.le_succ _)))
      exact ⟨rfl, rfl, rfl, trivial⟩

theorem BoxOk.scalar {k : Nat} {fl : Bool} {b : List D} (h : BoxOk k fl b) : ∀ x ∈ b, x.scalar = true := by
  obtain ⟨b0, b1, b2, rfl, _⟩ := h
  intro x hx
  simp only [List.mem_cons, List.not_mem_nil, or_false] at hx
  rcases hx with rfl | rfl | rfl | rfl <;> rfl
theorem name_at {r : Nat} (h : r < 8) : (namesS.map D.str)[((r : Nat) : Int).toNat]? = some (.str (namesP.getD r .pushes).s) := by
  rw [Int.toNat_natCast, namesS, List.map_map, List.getElem?_map, getD_of h Pass.pushes]; rfl

theorem CallsF.mono {W : Wd} {n m : Nat} {f : Value} {ds : List D} {Φ Ψ : List D → Prop} (h : CallsF W n f ds Φ) (hn : n ≤ m) (hm : ∀ d, Φ d → Ψ d) : CallsF W m f ds Ψ :=
  fun A s Fb vs R a b c d => wpNo (h A s Fb vs (R.le hn) a b c d) fun v s' ⟨l, a, ws, n, e, h, r⟩ => ⟨l, a, ws, n, e, hm l h, r⟩
set_option maxHeartbeats 4000000 in
theorem c_law (B : Base) (PL : PlainLaw) (l : List Int) (hz : l.length ≤ 1000) : Calls B.W 8 (.ref 320) [.list (l.map D.int)] (· = .bool true) := by
  refine Calls_fnC (fn_law B) rfl fun A L hE Fb hb hx hF hL R => ?_
  have hu : A.units + 100 < cLine := by have := R.units; omega
  -- names
  refine Exs_cons ?_
  refine Ex_Asn (.inr ⟨rfl, L + 1, rfl, hL _ (Nat.le_succ _)⟩) ?_
  refine Ev_lst ?_
  refine Ev_str ?_
  refine Ev_str ?_
  refine Ev_str ?_
  refine Ev_str ?_
  refine Ev_str ?_
  refine Ev_str ?_
  refine Ev_str ?_
  refine Ev_str ?_
  refine @Exs_weaken _ _ _ _ _ _ [("script", .val (.list (l.map D.int))), ("names", .val (.list (namesS.map D.str)))] ⟨rfl, rfl, trivial⟩ ?_
  -- sorted
  refine If_skip ?_
  refine EvB_Compare ?_
  refine Ev_biV (n := 7) R rfl rfl rfl (by decide) rfl rfl ?_
  refine Ev_cMap [] passD passes (fun _ => true) (fun p => .str p.s) ((passes.map Pass.s).map D.str) rfl R.handled (by decide) trivial rfl rfl rfl clNil goPass (fun L' hE' Fb' hb' hx' hF' x hx => ?_) ?_
  · refine Asg_tuple R.handled rfl rfl ?_
    refine Asg_name (.inl rfl) ?_
    refine Asg_name (.inl rfl) ?_
    exact ⟨rfl, Ev_name rfl ⟨rfl, trivial⟩⟩
  refine Ev_passes rfl ⟨rfl, trivial, ?_⟩
  refine Calls_sorted (by decide) fun z1 p1 s1 => ?_
  refine Ev_biV (n := 7) R rfl rfl rfl (by decide) rfl rfl ?_
  refine Ev_name rfl ?_
  refine Calls_sorted (by decide) fun z2 p2 s2 => ?_
  have m2 : ∀ y ∈ z2, y ∈ namesS := fun y hy => p2.subset hy
  have m1 : ∀ y ∈ z1, y ∈ namesS := fun y hy => names_perm.subset (p1.subset hy)
  have ez : z1 = z2 := sorted_one m1 m2 s1 s2 (p1.trans (names_perm.trans p2.symm))
  subst ez
  refine Op2_neSelf hu (strs_py _ m1) (by decide) ⟨_, rfl, rfl, ?_⟩
  -- box
  refine Exs_cons ?_
  refine Ex_AssignF (.inr ⟨rfl, L + 1 + 1, rfl, hL _ (Nat.le_succ_of_le (Nat.le_succ _))⟩) (.inl rfl) ?_
  refine Ev_CallF (n := 7) R ?_
  refine Ev_fn rfl rfl rfl ⟨_, rfl, rfl, ?_⟩
  refine EvSp_cons ?_
  refine Ev_name rfl ?_
  refine EvSp_cons ?_
  refine Ev_int ?_
  refine EvSp_nil ⟨[_, _], rfl, (c_law_box B l hz).mono (by decide) fun b ⟨fl, hb0⟩ => ⟨b, rfl, ?_⟩⟩
  refine @Exs_weaken _ _ _ _ _ _ [("box", .own b), ("names", .val (.list (namesS.map D.str)))] ⟨rfl, rfl, trivial⟩ ?_
  -- the loop and the end
  have rest : ∀ (ps : List Pass) (b : List D), ps.length ≤ 2 → BoxOk 2 fl b → Exs (fxFn B.W (qu B 320) (sc B 320) L 320 (cd B 320) (fn_law B).kind none hE Fb hb hx hF) A ((bo B 320).drop 4) [("box", .own b), ("some", .val (.list (ps.map fun p => D.str p.s)))] (RetΦ (· = .bool true)) := by
    intro ps b hps hb2
    refine Exs_cons ?_
    refine Ex_ForR (fun p : Pass => D.str p.s) ps (fun rest σ => ∃ (b : List D) (j : Nat), j + rest.length = ps.length ∧ BoxOk (2 + 21 * j) fl b ∧ Sub [("box", .own b)] σ) R.handled ?_ (fun p rest σ₂ _ z16 => ?_) (fun σ₂ _ => ?_)
    · exact Ev_name rfl ⟨_, rfl, .list _, noRng, goName, b, 0, by simp, hb2, rfl, trivial⟩
    · obtain ⟨b1, j, hj, hb1, hS⟩ := z16
      rw [List.length_cons] at hj
      refine Asg.weaken hS ?_
      refine Asg_name (.inl rfl) ?_
      refine @Exs_weaken _ _ _ _ _ _ [("box", .own b1), ("name", .val (.str p.s))] ⟨rfl, rfl, trivial⟩ ?_
      refine law_turn B PL p fl R rfl rfl (.inl rfl) (2 + 21 * j) (by omega) b1 hb1 fun b2 σ' hb2 hS' => ?_
      exact ⟨b2, j + 1, by omega, hb2.mono (by omega), hS'⟩
    · refine Exs_cons ?_
      refine Ex_Ret ?_
      exact Ev_bool rfl
  have hbox := hb0
  obtain ⟨c0, c1, c2, rfl, _⟩ := hb0
  refine Exs_cons ?_
  refine Ex_Asn (.inl rfl) ?_
  refine Ev_IfExp ?_
  refine EvB_val ?_
  refine Ev_Sub ?_
  refine Ev_own rfl ?_
  refine Ev_int ?_
  refine Op2_subOwn (k := 3) (d := .bool fl) rfl (by decide) (by decide) rfl ⟨_, rfl, ?_⟩
  refine ite_B (fun _ => ?_) (fun hfl => ?_)
  · refine Ev_lst ?_
    refine Ev_str ?_
    refine @Exs_weaken _ _ _ _ _ _ _ ?_ (rest [.copies] _ (by decide) (hbox.mono (by decide)))
    exact ⟨rfl, rfl, trivial⟩
  · refine Ev.thaw ?_
    refine Ev_CompB (τ := [("box", .own [.int c0, .int c1, .int c2, .bool fl]), ("names", .val (.list (namesS.map D.str)))]) (fun i acc σ => ∃ (ps : List Pass) (b : List D), ps.length = i ∧ acc = ps.map (fun p => D.str p.s) ∧ BoxOk i fl b ∧ Sub [("box", .own b), ("names", .val (.list (namesS.map D.str)))] σ) R.handled rfl rfl (compCell rfl) (compNames rfl) (clTwo ⟨rfl, rfl⟩ ⟨rfl, rfl⟩) ?_
    refine Ev_biV (n := 7) R rfl rfl rfl (by decide) rfl rfl ?_
    refine Ev_int ?_
    refine Calls_range ?_
    refine ⟨_, _, _, rfl, items_rng 2 (by decide), lo_rng 2, goName, sizeBig (by decide), rfl, fun a => ⟨rfl, .inr ⟨rfl, by simp⟩, rfl, rfl, rfl, rfl, .inl ⟨_, rfl⟩, rfl, rfl, rfl, trivial⟩, ⟨[], _, rfl, rfl, hbox, rfl, rfl, trivial⟩, fun a L' hE' Fb' hb' hx' hF' => ?_, fun acc σ' ⟨ps, b', hl, ha, hb', hS⟩ => ⟨b', hS.1, hb'.scalar, _, rfl, ?_⟩⟩
    · intro i x acc σ₂ hx ⟨ps, b1, hl, ha, hb1, hS⟩
      have hi : i < 2 := by
        have := (List.getElem?_eq_some_iff.mp hx).1
        simpa using this
      refine Asg.weaken hS ?_
      refine Asg_name (.inl rfl) ?_
      refine Ev_Sub ?_
      refine Ev_name rfl ?_
      refine Ev_take (n := 6) (many := 8) R rfl rfl hb1 (by omega) (by decide) (by decide) fun r b2 hr hb2 => ?_
      refine Op2_subList (by omega) (by omega) (name_at hr) ⟨_, rfl, ps ++ [namesP.getD r .pushes], b2, by simp [hl], by rw [ha]; simp, hb2, rfl, rfl, trivial⟩
    · have hl2 : ps.length = 2 := hl
      rw [ha]
      refine @Exs_weaken _ _ _ _ _ _ _ ?_ (rest ps b' (by omega) hb')
      exact ⟨rfl, rfl, trivial⟩
end Mine
namespace Mine
set_option autoImplicit false
set_option linter.unusedVariables false
set_option maxRecDepth 100000
theorem intsReps {h : Heap} {F : Addr → Prop} : ∀ {vs : List Value} {zs : List Int}, IntsAre vs zs → Reps h F vs (zs.map D.int) := by
  intro vs zs h
  induction h with
  | nil => exact .nil
  | cons i t r ih => exact .cons (.int _ _) ih
theorem callerRoom : Room callerA 8 := ⟨rfl, by decide, by decide⟩
theorem joined {w : World} {s₀ s₁ : Shared} {p : Program} {loose : List Str} {mean : ExcName → Option Value} {mg mb : Str → Option Value} (KX : (fragP w.params).In s₁.heap) (T : Top p loose mean mg mb s₁.heap) {a : Addr} {vs : List Value} {zs : List Int}
    (hL : s₁.heap.IsList a vs.toArray) (hI : IntsAre vs zs) (hz : zs.length ≤ 1000) (hg : s₁.gens = #[]) :
    wpAny (model Challenge.rw_nu0279_01.row.prog w) callerA (call (.ref 320) [.ref a])
      (fun v s' => GoodWG Challenge.rw_nu0279_01.row.claim (classAt s₀.heap) (ExcName.means s₀.heap) [ofPy (PyData.list (List.map PyData.int zs))] s₁ (Except.ok (Flow.ret v)) s')
      (fun e s' => GoodWG Challenge.rw_nu0279_01.row.claim (classAt s₀.heap) (ExcName.means s₀.heap) [ofPy (PyData.list (List.map PyData.int zs))] s₁ (Except.error e) s') s₁ := by
  have hcall := c_law ⟨Challenge.rw_nu0279_01.row.prog, w, s₁.heap, p, loose, mean, mg, mb, KX, T⟩ plainLaw zs hz callerA s₁ (fun _ => False) [.ref a] callerRoom (fun _ _ e => e) (fun _ h => h.elim) (fun _ h => h.elim) (.cons (.list (fun h => h) hL (intsReps hI)) .nil)
  refine wpAny_mono hcall (fun v s' z17 => ?_) fun _ _ e => e.elim
  obtain ⟨d, hd, o, hk, hr⟩ := z17
  subst hd
  cases hr
  refine ⟨.inl ⟨_, _, _, rfl, fun _ => rfl, .bool true, by first | rfl | with_unfolding_all rfl | kernel_rfl | trace_state, fun _ => ⟨List.nodup_nil, fun _ h => nomatch h⟩⟩, .of_keep hk, o.2.2, .of_eq (o.1.trans hg)⟩
end Mine
set_option maxRecDepth 100000 in
set_option maxHeartbeats 8000000 in
theorem PySem.Challenge.cw_nu0279_01_holds : PySem.Challenge.rw_nu0279_01.Holds := by
  refine holds_law Mine.wsd fun said => ?_
  refine holds_open (q := Mine.viewP) (loose := Mine.LO) (Xt := fun s => xlAt Mine.viewP [] s && recOk (RowW.records PySem.Challenge.rw_nu0279_01.row.toRowW) s) (XP := XL Mine.viewP []) (Yf := Hook.obs Mine.HK) (Ya := Hook.val Mine.HK) (YP := Hook.says Mine.HK) (N := 4030) Mine.left0 (Hook.of Mine.HK) (Hook.keeps Mine.HK) (fun s e => xl_of s (Bool.and_eq_true_iff.mp e).1) XL.keeps (by rfl) (by rfl) (by rfl) (fun s e => recFacts_of (Bool.and_eq_true_iff.mp e).2) (by rfl) said (by decide +kernel) ⟨rfl, rfl, rfl, rfl, rfl, by decide +kernel⟩ ?hw ?hc
  case hw => exact ⟨[.list []], by decide +kernel, by decide +kernel⟩
  case hc =>
    intro w s₀ s₁ mg mb G Y fa o pm cd doc dV kV ho hd hcd hD hmg hg args vals as hpre hlay hrd hwl hlo
    have KX := kIn_of Y
    refine Ground.open G ?_
    intro T B D TE TW
    have e1 := mg_of (n := PySem.Str.ofString "law") (v := .ref 320) KX T.g (by rfl)
    have e2 : mg (PySem.Str.ofString "law") = some (.ref fa) := hmg
    rw [e1] at e2
    have efa : fa = 320 := by cases e2; rfl
    subst efa
    clear hcd hd ho hmg hD Y e1 e2
    wrow_args hpre hlay hrd hwl hlo
    rename_i zs hs hlay0 hL1 hr1 hl2 w4 w3 a vs w1' hL ra wl r0 hI hr hc1 hc2
    have hlen : zs.length ≤ 1000 := by omega
    exact Mine.joined KX T hL hI hlen hg
