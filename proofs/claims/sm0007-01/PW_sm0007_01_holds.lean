import PyProof.Rows.All
import Wide.All
import OpenK.AllK
import Wide.FinOn
import PySem.Challenge.RW_sm0007_01
open PySem PySem.W PySem.Calls PyProof.Rows
set_option Elab.async false
set_option maxRecDepth 100000
set_option linter.unusedVariables false
set_option linter.unusedSimpArgs false
namespace Mine
-- D00

noncomputable def stName : Stmt → Str
  | .FunctionDef n _ _ _ _ _ _ _ _ _ => n
  | _ => ""
noncomputable def stArgs : Stmt → Arguments
  | .FunctionDef _ a _ _ _ _ _ _ _ _ => a
  | _ => ⟨[], [], none, [], [], none, []⟩
noncomputable def stBody : Stmt → List Stmt
  | .FunctionDef _ _ b _ _ _ _ _ _ _ => b
  | .ClassDef _ _ _ b _ _ _ _ _ _ _ => b
  | _ => []
noncomputable def stScope : Stmt → Scope
  | .FunctionDef _ _ _ _ _ _ s _ _ _ => s
  | _ => ⟨.function, [], false, false, []⟩
noncomputable def nth (l : List Stmt) (i : Nat) : Stmt := match l, i with
  | [], _ => .Pass ⟨0, 0, 0, 0⟩
  | a :: _, 0 => a
  | _ :: r, i + 1 => nth r i

noncomputable def P1 : List Stmt := PySem.Challenge.pw_sm0007_01.main.body
noncomputable def mth (st : Stmt) (j : Nat) : Stmt := nth (stBody st) j

-- HA1
section
set_option maxHeartbeats 0
noncomputable abbrev pg : Program := PySem.Challenge.rw_sm0007_01.row.toRowW.1
noncomputable def fO (st : Stmt) (qual : Str) (dV pm cdv : Value) : Obj := ⟨.type "function", none, .func (fnOf (stName st) qual (stArgs st) (stBody st) (stScope st) dV .none .none pm none cdv .none), #[]⟩
noncomputable def fR (st : Stmt) (qual : Str) : Obj := ⟨.none, none, .func (FuncData.mk (stName st) qual (stArgs st) (.stmts (stBody st)) (stScope st) 0 [] .none .none .none .none none .none .none 0), #[]⟩
noncomputable def hE (P : Params) (x : Str) (t : Nat) (v : Value) : DictEntry := ⟨PyData.keyHash P x, .str x t, v⟩
noncomputable def hS (x : Str) (t : Nat) : Value := .str x t
noncomputable def hC (vs : Array Value) : Obj := ⟨.type "code", none, .fields vs, #[]⟩
noncomputable def hQ (x y : Str) (t : Nat) (l a : Int) (r : List Value) : Array Value := ⟨[.str x t, .str y (t + 1), .str "/claim/cut.py" (t + 2), .int l 0, .int a 0, .int 0 0, .int 0 0, .int 3 0] ++ r⟩
noncomputable def hD (es : Array DictEntry) (n : Nat := 0) : Obj := ⟨.type "dict", none, .dict es n, #[]⟩
noncomputable def hT (vs : Array Value) (n : Nat := 0) : Obj := ⟨.type "tuple", none, .seq vs n, #[]⟩
noncomputable def up (l : List Obj) (us : List (Nat × Obj)) (r : List Obj) : List Obj := us.foldl (fun l u => l.set u.1 u.2) l ++ r
noncomputable def sp : List Obj → List Obj × List Obj
  | [] => ([], [])
  | [x] => ([x], [])
  | x :: y :: r => (x :: (sp r).1, y :: (sp r).2)
noncomputable def brn : Nat → List Obj → BT
  | 0, _ => .nil
  | _ + 1, [] => .nil
  | n + 1, x :: r => .node x (brn n (sp r).1) (brn n (sp r).2)
noncomputable def e_50 (P : Params) : List DictEntry := [hE P "__name__" 165 (hS "basicplus.values" 187), hE P "__doc__" 166 .none, hE P "__package__" 167 .none, hE P "__loader__" 168 (.builtin "__main__.__loader__#opaque"), hE P "__spec__" 169 .none, hE P "__annotations__" 170 (.ref 6), hE P "__builtins__" 171 (.ref 4), hE P "__file__" 173 (hS "/claim/cut.py" 172), hE P "__cached__" 174 .none, hE P "MOST_EXPONENT" 190 (.int 99 189), hE P "BasicError" 224 (.ref 34), hE P "figures_of" 233 (.ref 44), hE P "rounded_by" 244 (.ref 51), hE P "made" 256 (.ref 58), hE P "whole_near" 266 (.ref 65)]
noncomputable def o_50 (P : Params) : Obj := hD ⟨e_50 P⟩ 15
noncomputable def e_54 (P : Params) : List DictEntry := [hE P "__module__" 198 (hS "basicplus.values" 187), hE P "__qualname__" 200 (hS "BasicError" 199), hE P "__firstlineno__" 202 (.int 3 201), hE P "__init__" 213 (.ref 31), hE P "__static_attributes__" 216 (.ref 32), hE P "__classcell__" 217 (.ref 18)]
noncomputable def o_54 (P : Params) : Obj := hD ⟨e_54 P⟩ 6
noncomputable def e_70 (P : Params) : List DictEntry := [hE P "__module__" 198 (hS "basicplus.values" 187), hE P "__firstlineno__" 202 (.int 3 201), hE P "__init__" 213 (.ref 31), hE P "__static_attributes__" 216 (.ref 32), hE P "__weakref__" 219 (.ref 35), hE P "__doc__" 220 .none]
noncomputable def o_70 (P : Params) : Obj := hD ⟨e_70 P⟩ 4
noncomputable def e_103 (P : Params) : List DictEntry := [hE P "__name__" 165 (hS "basicplus.decimals" 314), hE P "__doc__" 166 .none, hE P "__package__" 167 .none, hE P "__loader__" 168 (.builtin "__main__.__loader__#opaque"), hE P "__spec__" 169 .none, hE P "__annotations__" 170 (.ref 6), hE P "__builtins__" 171 (.ref 4), hE P "__file__" 173 (hS "/claim/cut.py" 172), hE P "__cached__" 174 .none, hE P "MOST_EXPONENT" 190 (.int 99 189), hE P "BasicError" 224 (.ref 34), hE P "figures_of" 233 (.ref 44), hE P "rounded_by" 244 (.ref 51), hE P "made" 256 (.ref 58), hE P "whole_near" 266 (.ref 65), hE P "fits" 274 (.ref 72), hE P "whole_of" 283 (.ref 79), hE P "decimal_of" 291 (.ref 86), hE P "is_nought" 298 (.ref 93), hE P "is_true" 305 (.ref 100), hE P "sign_of" 313 (.ref 107), hE P "ONE" 318 (.ref 108), hE P "MOST_POWER" 320 (.int 9999 319), hE P "d_negated" 327 (.ref 115), hE P "alike" 336 (.ref 122), hE P "d_add" 348 (.ref 129), hE P "d_sub" 357 (.ref 136), hE P "d_mul" 366 (.ref 143), hE P "with_rest" 375 (.ref 150)]
noncomputable def o_103 (P : Params) : Obj := hD ⟨e_103 P⟩ 29
noncomputable def o_110 (P : Params) : Obj := hC (hQ "fits" "fits" 267 46 2 [.ref 66, .bool true, .int 181 0, .ref 67, .none, .ref 68, .ref 69, .ref 70, .int 272 0, .int 46 0, hS "/claim/cut.py" 273])
noncomputable def o_111 (P : Params) : Obj := fO (nth P1 7) "fits" .none (hS "basicplus.values" 187) (.ref 71)
noncomputable def o_117 (P : Params) : Obj := hC (hQ "whole_of" "whole_of" 275 48 2 [.ref 73, .bool true, .int 181 0, .ref 74, .none, .ref 75, .ref 76, .ref 77, .int 281 0, .int 48 0, hS "/claim/cut.py" 282])
noncomputable def o_118 (P : Params) : Obj := fO (nth P1 8) "whole_of" .none (hS "basicplus.values" 187) (.ref 78)
noncomputable def o_131 (P : Params) : Obj := hC (hQ "is_nought" "is_nought" 292 59 1 [.ref 87, .bool true, .int 181 0, .ref 88, .none, .ref 89, .ref 90, .ref 91, .int 296 0, .int 59 0, hS "/claim/cut.py" 297])
noncomputable def o_132 (P : Params) : Obj := fO (nth P1 10) "is_nought" .none (hS "basicplus.values" 187) (.ref 92)
noncomputable def o_138 (P : Params) : Obj := hC (hQ "is_true" "is_true" 299 63 1 [.ref 94, .bool true, .int 181 0, .ref 95, .none, .ref 96, .ref 97, .ref 98, .int 303 0, .int 63 0, hS "/claim/cut.py" 304])
noncomputable def o_139 (P : Params) : Obj := fO (nth P1 11) "is_true" .none (hS "basicplus.values" 187) (.ref 99)
noncomputable def e_190 (P : Params) : List DictEntry := [hE P "__name__" 165 (hS "basicplus.arith" 421), hE P "__doc__" 166 .none, hE P "__package__" 167 .none, hE P "__loader__" 168 (.builtin "__main__.__loader__#opaque"), hE P "__spec__" 169 .none, hE P "__annotations__" 170 (.ref 6), hE P "__builtins__" 171 (.ref 4), hE P "__file__" 173 (hS "/claim/cut.py" 172), hE P "__cached__" 174 .none, hE P "MOST_EXPONENT" 190 (.int 99 189), hE P "BasicError" 224 (.ref 34), hE P "figures_of" 233 (.ref 44), hE P "rounded_by" 244 (.ref 51), hE P "made" 256 (.ref 58), hE P "whole_near" 266 (.ref 65), hE P "fits" 274 (.ref 72), hE P "whole_of" 283 (.ref 79), hE P "decimal_of" 291 (.ref 86), hE P "is_nought" 298 (.ref 93), hE P "is_true" 305 (.ref 100), hE P "sign_of" 313 (.ref 107), hE P "ONE" 318 (.ref 108), hE P "MOST_POWER" 320 (.int 9999 319), hE P "d_negated" 327 (.ref 115), hE P "alike" 336 (.ref 122), hE P "d_add" 348 (.ref 129), hE P "d_sub" 357 (.ref 136), hE P "d_mul" 366 (.ref 143), hE P "with_rest" 375 (.ref 150), hE P "d_div" 389 (.ref 157), hE P "d_compare" 400 (.ref 164), hE P "d_power" 412 (.ref 171), hE P "square_or_end" 420 (.ref 178), hE P "is_whole" 429 (.ref 185), hE P "settled" 438 (.ref 192), hE P "whole_reckoned" 449 (.ref 199), hE P "cut_quotient" 458 (.ref 206), hE P "cut_rest" 466 (.ref 213), hE P "exponent_of" 473 (.ref 220), hE P "whole_power" 483 (.ref 227), hE P "raised" 494 (.ref 234)]
noncomputable def o_190 (P : Params) : Obj := hD ⟨e_190 P⟩ 41
noncomputable def e_276 (P : Params) : List DictEntry := [hE P "__name__" 165 (hS "basicplus.control" 519), hE P "__doc__" 166 .none, hE P "__package__" 167 .none, hE P "__loader__" 168 (.builtin "__main__.__loader__#opaque"), hE P "__spec__" 169 .none, hE P "__annotations__" 170 (.ref 6), hE P "__builtins__" 171 (.ref 4), hE P "__file__" 173 (hS "/claim/cut.py" 172), hE P "__cached__" 174 .none, hE P "MOST_EXPONENT" 190 (.int 99 189), hE P "BasicError" 224 (.ref 34), hE P "figures_of" 233 (.ref 44), hE P "rounded_by" 244 (.ref 51), hE P "made" 256 (.ref 58), hE P "whole_near" 266 (.ref 65), hE P "fits" 274 (.ref 72), hE P "whole_of" 283 (.ref 79), hE P "decimal_of" 291 (.ref 86), hE P "is_nought" 298 (.ref 93), hE P "is_true" 305 (.ref 100), hE P "sign_of" 313 (.ref 107), hE P "ONE" 318 (.ref 108), hE P "MOST_POWER" 320 (.int 9999 319), hE P "d_negated" 327 (.ref 115), hE P "alike" 336 (.ref 122), hE P "d_add" 348 (.ref 129), hE P "d_sub" 357 (.ref 136), hE P "d_mul" 366 (.ref 143), hE P "with_rest" 375 (.ref 150), hE P "d_div" 389 (.ref 157), hE P "d_compare" 400 (.ref 164), hE P "d_power" 412 (.ref 171), hE P "square_or_end" 420 (.ref 178), hE P "is_whole" 429 (.ref 185), hE P "settled" 438 (.ref 192), hE P "whole_reckoned" 449 (.ref 199), hE P "cut_quotient" 458 (.ref 206), hE P "cut_rest" 466 (.ref 213), hE P "exponent_of" 473 (.ref 220), hE P "whole_power" 483 (.ref 227), hE P "raised" 494 (.ref 234), hE P "reckoned" 510 (.ref 241), hE P "order_of" 518 (.ref 248), hE P "MOST_NUMBER" 522 (.int 255 521), hE P "Control" 553 (.ref 265), hE P "put_upon" 561 (.ref 276), hE P "floor_of" 569 (.ref 283)]
noncomputable def o_276 (P : Params) : Obj := hD ⟨e_276 P⟩ 47
noncomputable def o_304 (P : Params) : Obj := hC (hQ "__init__" "Control.__init__" 535 174 2 [.ref 256, .bool true, .int 181 0, .ref 257, .none, .ref 258, .ref 259, .ref 260, .int 540 0, .int 174 0, hS "/claim/cut.py" 541])
noncomputable def o_305 (P : Params) : Obj := fO (mth (nth P1 39) 0) "Control.__init__" .none (hS "basicplus.control" 519) (.ref 261)
noncomputable def e_307 (P : Params) : List DictEntry := [hE P "__module__" 530 (hS "basicplus.control" 519), hE P "__firstlineno__" 534 (.int 172 533), hE P "__init__" 542 (.ref 262), hE P "__static_attributes__" 546 (.ref 263), hE P "__dict__" 548 (.ref 266), hE P "__weakref__" 550 (.ref 267), hE P "__doc__" 551 .none]
noncomputable def o_307 (P : Params) : Obj := hD ⟨e_307 P⟩ 4
noncomputable def o_308 (P : Params) : Obj := Obj.mk (.type "type") none (Data.cls (ClassData.mk (Str.ofString "Control") [.type "object"] [.ref 265, .type "object"] 264 (Str.ofString "Control") true [] [] false none false)) #[none, none, some (hS "Control" 523), some (hS "Control" 531), some (.builtin "object.__new__"), some (.bool true)]
noncomputable def o_318 (P : Params) : Obj := hC (hQ "put_upon" "put_upon" 554 178 2 [.ref 270, .bool true, .int 181 0, .ref 271, .none, .ref 272, .ref 273, .ref 274, .int 559 0, .int 178 0, hS "/claim/cut.py" 560])
noncomputable def o_319 (P : Params) : Obj := fO (nth P1 40) "put_upon" .none (hS "basicplus.control" 519) (.ref 275)
noncomputable def o_325 (P : Params) : Obj := hC (hQ "floor_of" "floor_of" 562 182 1 [.ref 277, .bool true, .int 181 0, .ref 278, .none, .ref 279, .ref 280, .ref 281, .int 567 0, .int 182 0, hS "/claim/cut.py" 568])
noncomputable def o_326 (P : Params) : Obj := fO (nth P1 41) "floor_of" .none (hS "basicplus.control" 519) (.ref 282)
noncomputable def e_327 (P : Params) : List DictEntry := [hE P "__name__" 165 (hS "basicplus.flatten" 683), hE P "__doc__" 166 .none, hE P "__package__" 167 .none, hE P "__loader__" 168 (.builtin "__main__.__loader__#opaque"), hE P "__spec__" 169 .none, hE P "__annotations__" 170 (.ref 6), hE P "__builtins__" 171 (.ref 4), hE P "__file__" 173 (hS "/claim/cut.py" 172), hE P "__cached__" 174 .none, hE P "MOST_EXPONENT" 190 (.int 99 189), hE P "BasicError" 224 (.ref 34), hE P "figures_of" 233 (.ref 44), hE P "rounded_by" 244 (.ref 51), hE P "made" 256 (.ref 58), hE P "whole_near" 266 (.ref 65), hE P "fits" 274 (.ref 72), hE P "whole_of" 283 (.ref 79), hE P "decimal_of" 291 (.ref 86), hE P "is_nought" 298 (.ref 93), hE P "is_true" 305 (.ref 100), hE P "sign_of" 313 (.ref 107), hE P "ONE" 318 (.ref 108), hE P "MOST_POWER" 320 (.int 9999 319), hE P "d_negated" 327 (.ref 115), hE P "alike" 336 (.ref 122), hE P "d_add" 348 (.ref 129), hE P "d_sub" 357 (.ref 136), hE P "d_mul" 366 (.ref 143), hE P "with_rest" 375 (.ref 150), hE P "d_div" 389 (.ref 157), hE P "d_compare" 400 (.ref 164), hE P "d_power" 412 (.ref 171), hE P "square_or_end" 420 (.ref 178), hE P "is_whole" 429 (.ref 185), hE P "settled" 438 (.ref 192), hE P "whole_reckoned" 449 (.ref 199), hE P "cut_quotient" 458 (.ref 206), hE P "cut_rest" 466 (.ref 213), hE P "exponent_of" 473 (.ref 220), hE P "whole_power" 483 (.ref 227), hE P "raised" 494 (.ref 234), hE P "reckoned" 510 (.ref 241), hE P "order_of" 518 (.ref 248), hE P "MOST_NUMBER" 522 (.int 255 521), hE P "Control" 553 (.ref 265), hE P "put_upon" 561 (.ref 276), hE P "floor_of" 569 (.ref 283), hE P "found_at" 579 (.ref 290), hE P "cut_to" 587 (.ref 297), hE P "is_past" 597 (.ref 304), hE P "for_begin" 609 (.ref 311), hE P "for_name" 618 (.ref 318), hE P "for_next" 635 (.ref 325), hE P "while_begin" 641 (.ref 330), hE P "while_end" 647 (.ref 335), hE P "wend_place" 657 (.ref 343), hE P "gosub" 665 (.ref 350), hE P "return_place" 674 (.ref 357), hE P "chosen" 682 (.ref 364)]
noncomputable def o_327 (P : Params) : Obj := hD ⟨e_327 P⟩ 59
noncomputable def o_334 (P : Params) : Obj := hC (hQ "found_at" "found_at" 570 187 3 [.ref 284, .bool true, .int 181 0, .ref 285, .none, .ref 286, .ref 287, .ref 288, .int 577 0, .int 187 0, hS "/claim/cut.py" 578])
noncomputable def o_335 (P : Params) : Obj := fO (nth P1 42) "found_at" .none (hS "basicplus.control" 519) (.ref 289)
noncomputable def o_341 (P : Params) : Obj := hC (hQ "cut_to" "cut_to" 580 192 2 [.ref 291, .bool true, .int 181 0, .ref 292, .none, .ref 293, .ref 294, .ref 295, .int 585 0, .int 192 0, hS "/claim/cut.py" 586])
noncomputable def o_342 (P : Params) : Obj := fO (nth P1 43) "cut_to" .none (hS "basicplus.control" 519) (.ref 296)
noncomputable def o_374 (P : Params) : Obj := hC (hQ "while_begin" "while_begin" 636 217 2 [.ref 326, .bool true, .int 181 0, .ref 327, .none, .none, .none, .ref 328, .int 639 0, .int 217 0, hS "/claim/cut.py" 640])
noncomputable def o_375 (P : Params) : Obj := fO (nth P1 48) "while_begin" .none (hS "basicplus.control" 519) (.ref 329)
noncomputable def o_379 (P : Params) : Obj := hC (hQ "while_end" "while_end" 642 224 2 [.ref 331, .bool true, .int 181 0, .ref 332, .none, .none, .none, .ref 333, .int 645 0, .int 224 0, hS "/claim/cut.py" 646])
noncomputable def o_380 (P : Params) : Obj := fO (nth P1 49) "while_end" .none (hS "basicplus.control" 519) (.ref 334)
noncomputable def o_381 (P : Params) : Obj := hT #[hS "" 648]
noncomputable def o_387 (P : Params) : Obj := hC (hQ "wend_place" "wend_place" 649 229 2 [.ref 337, .bool true, .int 181 0, .ref 338, .none, .ref 339, .ref 340, .ref 341, .int 655 0, .int 229 0, hS "/claim/cut.py" 656])
noncomputable def o_388 (P : Params) : Obj := fO (nth P1 50) "wend_place" (.ref 336) (hS "basicplus.control" 519) (.ref 342)
noncomputable def o_394 (P : Params) : Obj := hC (hQ "gosub" "gosub" 658 235 2 [.ref 344, .bool true, .int 181 0, .ref 345, .none, .ref 346, .ref 347, .ref 348, .int 663 0, .int 235 0, hS "/claim/cut.py" 664])
noncomputable def o_395 (P : Params) : Obj := fO (nth P1 51) "gosub" .none (hS "basicplus.control" 519) (.ref 349)
noncomputable def o_401 (P : Params) : Obj := hC (hQ "return_place" "return_place" 666 237 1 [.ref 351, .bool true, .int 181 0, .ref 352, .none, .ref 353, .ref 354, .ref 355, .int 672 0, .int 237 0, hS "/claim/cut.py" 673])
noncomputable def o_402 (P : Params) : Obj := fO (nth P1 52) "return_place" .none (hS "basicplus.control" 519) (.ref 356)
noncomputable def o_408 (P : Params) : Obj := hC (hQ "chosen" "chosen" 675 244 2 [.ref 358, .bool true, .int 181 0, .ref 359, .none, .ref 360, .ref 361, .ref 362, .int 680 0, .int 244 0, hS "/claim/cut.py" 681])
noncomputable def o_409 (P : Params) : Obj := fO (nth P1 53) "chosen" .none (hS "basicplus.control" 519) (.ref 363)
noncomputable def e_410 (P : Params) : List DictEntry := e_327 P ++ [hE P "Flat" 717 (.ref 381), hE P "put_row_of" 726 (.ref 392), hE P "put_if" 737 (.ref 399), hE P "put_all" 747 (.ref 406), hE P "gather" 763 (.ref 413), hE P "join_rows" 773 (.ref 420)]
noncomputable def o_410 (P : Params) : Obj := hD ⟨e_410 P⟩ 65
noncomputable def o_424 (P : Params) : Obj := hC (hQ "__init__" "Flat.__init__" 697 251 1 [.ref 372, .bool true, .int 181 0, .ref 373, .none, .ref 374, .ref 375, .ref 376, .int 701 0, .int 251 0, hS "/claim/cut.py" 702])
noncomputable def o_425 (P : Params) : Obj := fO (mth (nth P1 55) 0) "Flat.__init__" .none (hS "basicplus.flatten" 683) (.ref 377)
noncomputable def e_427 (P : Params) : List DictEntry := [hE P "__module__" 692 (hS "basicplus.flatten" 683), hE P "__firstlineno__" 696 (.int 249 695), hE P "__init__" 703 (.ref 378), hE P "__static_attributes__" 710 (.ref 379), hE P "__dict__" 712 (.ref 382), hE P "__weakref__" 714 (.ref 383), hE P "__doc__" 715 .none]
noncomputable def o_427 (P : Params) : Obj := hD ⟨e_427 P⟩ 4
noncomputable def o_428 (P : Params) : Obj := Obj.mk (.type "type") none (Data.cls (ClassData.mk (Str.ofString "Flat") [.type "object"] [.ref 381, .type "object"] 380 (Str.ofString "Flat") true [] [] false none false)) #[none, none, some (hS "Flat" 685), some (hS "Flat" 693), some (.builtin "object.__new__"), some (.bool true)]
noncomputable def o_438 (P : Params) : Obj := hC (hQ "put_row_of" "put_row_of" 718 258 3 [.ref 386, .bool true, .int 181 0, .ref 387, .none, .ref 388, .ref 389, .ref 390, .int 724 0, .int 258 0, hS "/claim/cut.py" 725])
noncomputable def o_439 (P : Params) : Obj := fO (nth P1 56) "put_row_of" .none (hS "basicplus.flatten" 683) (.ref 391)
noncomputable def o_445 (P : Params) : Obj := hC (hQ "put_if" "put_if" 727 261 3 [.ref 393, .bool true, .int 181 0, .ref 394, .none, .ref 395, .ref 396, .ref 397, .int 735 0, .int 261 0, hS "/claim/cut.py" 736])
noncomputable def o_446 (P : Params) : Obj := fO (nth P1 57) "put_if" .none (hS "basicplus.flatten" 683) (.ref 398)
noncomputable def o_452 (P : Params) : Obj := hC (hQ "put_all" "put_all" 738 271 3 [.ref 400, .bool true, .int 181 0, .ref 401, .none, .ref 402, .ref 403, .ref 404, .int 745 0, .int 271 0, hS "/claim/cut.py" 746])
noncomputable def o_453 (P : Params) : Obj := fO (nth P1 58) "put_all" .none (hS "basicplus.flatten" 683) (.ref 405)
noncomputable def o_459 (P : Params) : Obj := hC (hQ "gather" "gather" 748 277 1 [.ref 407, .bool true, .int 181 0, .ref 408, .none, .ref 409, .ref 410, .ref 411, .int 761 0, .int 277 0, hS "/claim/cut.py" 762])
noncomputable def o_460 (P : Params) : Obj := fO (nth P1 59) "gather" .none (hS "basicplus.flatten" 683) (.ref 412)
noncomputable def o_466 (P : Params) : Obj := hC (hQ "join_rows" "join_rows" 764 299 3 [.ref 414, .bool true, .int 181 0, .ref 415, .none, .ref 416, .ref 417, .ref 418, .int 771 0, .int 299 0, hS "/claim/cut.py" 772])
noncomputable def o_467 (P : Params) : Obj := fO (nth P1 60) "join_rows" .none (hS "basicplus.flatten" 683) (.ref 419)
noncomputable def e_468 (P : Params) : List DictEntry := [hE P "__name__" 165 (hS "basicplus.flow" 827), hE P "__doc__" 166 .none, hE P "__package__" 167 .none, hE P "__loader__" 168 (.builtin "__main__.__loader__#opaque"), hE P "__spec__" 169 .none, hE P "__annotations__" 170 (.ref 6), hE P "__builtins__" 171 (.ref 4), hE P "__file__" 173 (hS "/claim/cut.py" 172), hE P "__cached__" 174 .none, hE P "MOST_EXPONENT" 190 (.int 99 189), hE P "BasicError" 224 (.ref 34), hE P "figures_of" 233 (.ref 44), hE P "rounded_by" 244 (.ref 51), hE P "made" 256 (.ref 58), hE P "whole_near" 266 (.ref 65), hE P "fits" 274 (.ref 72), hE P "whole_of" 283 (.ref 79), hE P "decimal_of" 291 (.ref 86), hE P "is_nought" 298 (.ref 93), hE P "is_true" 305 (.ref 100), hE P "sign_of" 313 (.ref 107), hE P "ONE" 318 (.ref 108), hE P "MOST_POWER" 320 (.int 9999 319), hE P "d_negated" 327 (.ref 115), hE P "alike" 336 (.ref 122), hE P "d_add" 348 (.ref 129), hE P "d_sub" 357 (.ref 136), hE P "d_mul" 366 (.ref 143), hE P "with_rest" 375 (.ref 150), hE P "d_div" 389 (.ref 157), hE P "d_compare" 400 (.ref 164), hE P "d_power" 412 (.ref 171), hE P "square_or_end" 420 (.ref 178), hE P "is_whole" 429 (.ref 185), hE P "settled" 438 (.ref 192), hE P "whole_reckoned" 449 (.ref 199), hE P "cut_quotient" 458 (.ref 206), hE P "cut_rest" 466 (.ref 213), hE P "exponent_of" 473 (.ref 220), hE P "whole_power" 483 (.ref 227), hE P "raised" 494 (.ref 234), hE P "reckoned" 510 (.ref 241), hE P "order_of" 518 (.ref 248), hE P "MOST_NUMBER" 522 (.int 255 521), hE P "Control" 553 (.ref 265), hE P "put_upon" 561 (.ref 276), hE P "floor_of" 569 (.ref 283), hE P "found_at" 579 (.ref 290), hE P "cut_to" 587 (.ref 297), hE P "is_past" 597 (.ref 304), hE P "for_begin" 609 (.ref 311), hE P "for_name" 618 (.ref 318), hE P "for_next" 635 (.ref 325), hE P "while_begin" 641 (.ref 330), hE P "while_end" 647 (.ref 335), hE P "wend_place" 657 (.ref 343), hE P "gosub" 665 (.ref 350), hE P "return_place" 674 (.ref 357), hE P "chosen" 682 (.ref 364), hE P "Flat" 717 (.ref 381), hE P "put_row_of" 726 (.ref 392), hE P "put_if" 737 (.ref 399), hE P "put_all" 747 (.ref 406), hE P "gather" 763 (.ref 413), hE P "join_rows" 773 (.ref 420), hE P "end_loops" 784 (.ref 427), hE P "flatten" 794 (.ref 434), hE P "place_of" 802 (.ref 441), hE P "line_of" 810 (.ref 448), hE P "end_of_while" 818 (.ref 455), hE P "next_of_for" 826 (.ref 462), hE P "JUMPS" 835 (.ref 463), hE P "do_flow" 844 (.ref 470), hE P "do_jump" 858 (.ref 477), hE P "do_loop" 868 (.ref 484), hE P "do_for" 889 (.ref 491), hE P "next_from" 902 (.ref 498)]
noncomputable def o_468 (P : Params) : Obj := hD ⟨e_468 P⟩ 77
noncomputable def o_482 (P : Params) : Obj := hC (hQ "flatten" "flatten" 785 308 1 [.ref 428, .bool true, .int 181 0, .ref 429, .none, .ref 430, .ref 431, .ref 432, .int 792 0, .int 308 0, hS "/claim/cut.py" 793])
noncomputable def o_483 (P : Params) : Obj := fO (nth P1 62) "flatten" .none (hS "basicplus.flatten" 683) (.ref 433)
noncomputable def o_489 (P : Params) : Obj := hC (hQ "place_of" "place_of" 795 317 2 [.ref 435, .bool true, .int 181 0, .ref 436, .none, .ref 437, .ref 438, .ref 439, .int 800 0, .int 317 0, hS "/claim/cut.py" 801])
noncomputable def o_490 (P : Params) : Obj := fO (nth P1 63) "place_of" .none (hS "basicplus.flatten" 683) (.ref 440)
noncomputable def o_503 (P : Params) : Obj := hC (hQ "end_of_while" "end_of_while" 811 323 2 [.ref 449, .bool true, .int 181 0, .ref 450, .none, .ref 451, .ref 452, .ref 453, .int 816 0, .int 323 0, hS "/claim/cut.py" 817])
noncomputable def o_504 (P : Params) : Obj := fO (nth P1 65) "end_of_while" .none (hS "basicplus.flatten" 683) (.ref 454)
noncomputable def o_512 (P : Params) : Obj := hT #[hS "IFNOT" 829, hS "JUMP" 830, hS "GOTO" 831, hS "GOSUB" 832, hS "ONGO" 833, hS "RETURN" 834]
noncomputable def o_518 (P : Params) : Obj := hC (hQ "do_flow" "do_flow" 836 333 3 [.ref 464, .bool true, .int 181 0, .ref 465, .none, .ref 466, .ref 467, .ref 468, .int 842 0, .int 333 0, hS "/claim/cut.py" 843])
noncomputable def o_519 (P : Params) : Obj := fO (nth P1 69) "do_flow" .none (hS "basicplus.flow" 827) (.ref 469)
noncomputable def o_525 (P : Params) : Obj := hC (hQ "do_jump" "do_jump" 845 335 3 [.ref 471, .bool true, .int 181 0, .ref 472, .none, .ref 473, .ref 474, .ref 475, .int 856 0, .int 335 0, hS "/claim/cut.py" 857])
noncomputable def o_526 (P : Params) : Obj := fO (nth P1 70) "do_jump" .none (hS "basicplus.flow" 827) (.ref 476)
noncomputable def o_532 (P : Params) : Obj := hC (hQ "do_loop" "do_loop" 859 354 3 [.ref 478, .bool true, .int 181 0, .ref 479, .none, .ref 480, .ref 481, .ref 482, .int 866 0, .int 354 0, hS "/claim/cut.py" 867])
noncomputable def o_533 (P : Params) : Obj := fO (nth P1 71) "do_loop" .none (hS "basicplus.flow" 827) (.ref 483)
noncomputable def e_548 (P : Params) : List DictEntry := e_468 P ++ [hE P "FlowRun" 995 (.ref 557)]
noncomputable def o_548 (P : Params) : Obj := hD ⟨e_548 P⟩ 78
noncomputable def e_552 (P : Params) : List DictEntry := [hE P "__module__" 910 (hS "basicplus.flow" 827), hE P "__qualname__" 912 (hS "FlowRun" 911), hE P "__firstlineno__" 914 (.int 389 913), hE P "__init__" 926 (.ref 512), hE P "worth" 935 (.ref 519), hE P "whole" 943 (.ref 526), hE P "value_of_name" 951 (.ref 533), hE P "store" 960 (.ref 540), hE P "plus" 969 (.ref 547), hE P "go" 980 (.ref 554), hE P "__static_attributes__" 988 (.ref 555)]
noncomputable def o_552 (P : Params) : Obj := hD ⟨e_552 P⟩ 11
noncomputable def o_562 (P : Params) : Obj := hC (hQ "__init__" "FlowRun.__init__" 915 391 6 [.ref 506, .bool true, .int 181 0, .ref 507, .none, .ref 508, .ref 509, .ref 510, .int 924 0, .int 391 0, hS "/claim/cut.py" 925])
noncomputable def o_563 (P : Params) : Obj := fO (mth (nth P1 74) 0) "FlowRun.__init__" .none (hS "basicplus.flow" 827) (.ref 511)
noncomputable def o_569 (P : Params) : Obj := hC (hQ "worth" "FlowRun.worth" 927 400 2 [.ref 513, .bool true, .int 181 0, .ref 514, .none, .ref 515, .ref 516, .ref 517, .int 933 0, .int 400 0, hS "/claim/cut.py" 934])
noncomputable def o_570 (P : Params) : Obj := fO (mth (nth P1 74) 1) "FlowRun.worth" .none (hS "basicplus.flow" 827) (.ref 518)
noncomputable def o_576 (P : Params) : Obj := hC (hQ "whole" "FlowRun.whole" 936 404 2 [.ref 520, .bool true, .int 181 0, .ref 521, .none, .ref 522, .ref 523, .ref 524, .int 941 0, .int 404 0, hS "/claim/cut.py" 942])
noncomputable def o_577 (P : Params) : Obj := fO (mth (nth P1 74) 2) "FlowRun.whole" .none (hS "basicplus.flow" 827) (.ref 525)
noncomputable def o_583 (P : Params) : Obj := hC (hQ "value_of_name" "FlowRun.value_of_name" 944 407 2 [.ref 527, .bool true, .int 181 0, .ref 528, .none, .ref 529, .ref 530, .ref 531, .int 949 0, .int 407 0, hS "/claim/cut.py" 950])
noncomputable def o_584 (P : Params) : Obj := fO (mth (nth P1 74) 3) "FlowRun.value_of_name" .none (hS "basicplus.flow" 827) (.ref 532)
noncomputable def o_590 (P : Params) : Obj := hC (hQ "store" "FlowRun.store" 952 410 3 [.ref 534, .bool true, .int 181 0, .ref 535, .none, .ref 536, .ref 537, .ref 538, .int 958 0, .int 410 0, hS "/claim/cut.py" 959])
noncomputable def o_591 (P : Params) : Obj := fO (mth (nth P1 74) 4) "FlowRun.store" .none (hS "basicplus.flow" 827) (.ref 539)
noncomputable def o_604 (P : Params) : Obj := hC (hQ "go" "FlowRun.go" 970 416 3 [.ref 548, .bool true, .int 181 0, .ref 549, .none, .ref 550, .ref 551, .ref 552, .int 978 0, .int 416 0, hS "/claim/cut.py" 979])
noncomputable def o_605 (P : Params) : Obj := fO (mth (nth P1 74) 6) "FlowRun.go" .none (hS "basicplus.flow" 827) (.ref 553)
noncomputable def e_607 (P : Params) : List DictEntry := [hE P "__module__" 910 (hS "basicplus.flow" 827), hE P "__firstlineno__" 914 (.int 389 913), hE P "__init__" 926 (.ref 512), hE P "worth" 935 (.ref 519), hE P "whole" 943 (.ref 526), hE P "value_of_name" 951 (.ref 533), hE P "store" 960 (.ref 540), hE P "plus" 969 (.ref 547), hE P "go" 980 (.ref 554), hE P "__static_attributes__" 988 (.ref 555), hE P "__dict__" 990 (.ref 558), hE P "__weakref__" 992 (.ref 559), hE P "__doc__" 993 .none]
noncomputable def o_607 (P : Params) : Obj := hD ⟨e_607 P⟩ 4
noncomputable def o_608 (P : Params) : Obj := Obj.mk (.type "type") none (Data.cls (ClassData.mk (Str.ofString "FlowRun") [.type "object"] [.ref 557, .type "object"] 556 (Str.ofString "FlowRun") true [] [] false none false)) #[none, none, some (hS "FlowRun" 903), some (hS "FlowRun" 911), some (.builtin "object.__new__"), some (.bool true)]
noncomputable def e_613 (P : Params) : List DictEntry := [hE P "__name__" 165 (hS "law_sm0007_01" 996), hE P "__doc__" 166 .none, hE P "__package__" 167 .none, hE P "__loader__" 168 (.builtin "__main__.__loader__#opaque"), hE P "__spec__" 169 .none, hE P "__annotations__" 170 (.ref 6), hE P "__builtins__" 171 (.ref 4), hE P "__file__" 173 (hS "/claim/cut.py" 172), hE P "__cached__" 174 .none, hE P "MOST_EXPONENT" 190 (.int 99 189), hE P "BasicError" 224 (.ref 34), hE P "figures_of" 233 (.ref 44), hE P "rounded_by" 244 (.ref 51), hE P "made" 256 (.ref 58), hE P "whole_near" 266 (.ref 65), hE P "fits" 274 (.ref 72), hE P "whole_of" 283 (.ref 79), hE P "decimal_of" 291 (.ref 86), hE P "is_nought" 298 (.ref 93), hE P "is_true" 305 (.ref 100), hE P "sign_of" 313 (.ref 107), hE P "ONE" 318 (.ref 108), hE P "MOST_POWER" 320 (.int 9999 319), hE P "d_negated" 327 (.ref 115), hE P "alike" 336 (.ref 122), hE P "d_add" 348 (.ref 129), hE P "d_sub" 357 (.ref 136), hE P "d_mul" 366 (.ref 143), hE P "with_rest" 375 (.ref 150), hE P "d_div" 389 (.ref 157), hE P "d_compare" 400 (.ref 164), hE P "d_power" 412 (.ref 171), hE P "square_or_end" 420 (.ref 178), hE P "is_whole" 429 (.ref 185), hE P "settled" 438 (.ref 192), hE P "whole_reckoned" 449 (.ref 199), hE P "cut_quotient" 458 (.ref 206), hE P "cut_rest" 466 (.ref 213), hE P "exponent_of" 473 (.ref 220), hE P "whole_power" 483 (.ref 227), hE P "raised" 494 (.ref 234), hE P "reckoned" 510 (.ref 241), hE P "order_of" 518 (.ref 248), hE P "MOST_NUMBER" 522 (.int 255 521), hE P "Control" 553 (.ref 265), hE P "put_upon" 561 (.ref 276), hE P "floor_of" 569 (.ref 283), hE P "found_at" 579 (.ref 290), hE P "cut_to" 587 (.ref 297), hE P "is_past" 597 (.ref 304), hE P "for_begin" 609 (.ref 311), hE P "for_name" 618 (.ref 318), hE P "for_next" 635 (.ref 325), hE P "while_begin" 641 (.ref 330), hE P "while_end" 647 (.ref 335), hE P "wend_place" 657 (.ref 343), hE P "gosub" 665 (.ref 350), hE P "return_place" 674 (.ref 357), hE P "chosen" 682 (.ref 364), hE P "Flat" 717 (.ref 381), hE P "put_row_of" 726 (.ref 392), hE P "put_if" 737 (.ref 399), hE P "put_all" 747 (.ref 406), hE P "gather" 763 (.ref 413), hE P "join_rows" 773 (.ref 420), hE P "end_loops" 784 (.ref 427), hE P "flatten" 794 (.ref 434), hE P "place_of" 802 (.ref 441), hE P "line_of" 810 (.ref 448), hE P "end_of_while" 818 (.ref 455), hE P "next_of_for" 826 (.ref 462), hE P "JUMPS" 835 (.ref 463), hE P "do_flow" 844 (.ref 470), hE P "do_jump" 858 (.ref 477), hE P "do_loop" 868 (.ref 484), hE P "do_for" 889 (.ref 491), hE P "next_from" 902 (.ref 498), hE P "FlowRun" 995 (.ref 557), hE P "_law_pull" 1007 (.ref 568), hE P "_law_let" 1015 (.ref 575), hE P "_law_body" 1027 (.ref 582), hE P "_law_jump" 1043 (.ref 589), hE P "_law_led" 1049 (.ref 594), hE P "_law_looped" 1055 (.ref 599), hE P "_law_worth" 1067 (.ref 606), hE P "law" 1073 (.ref 611)]
noncomputable def o_613 (P : Params) : Obj := hD ⟨e_613 P⟩ 86
noncomputable def o_620 (P : Params) : Obj := hC (hQ "_law_pull" "_law_pull" 998 433 2 [.ref 562, .bool true, .int 181 0, .ref 563, .none, .ref 564, .ref 565, .ref 566, .int 1005 0, .int 433 0, hS "/claim/cut.py" 1006])
noncomputable def o_621 (P : Params) : Obj := fO (nth P1 76) "_law_pull" .none (hS "law_sm0007_01" 996) (.ref 567)
noncomputable def o_627 (P : Params) : Obj := hC (hQ "_law_let" "_law_let" 1008 438 2 [.ref 569, .bool true, .int 181 0, .ref 570, .none, .ref 571, .ref 572, .ref 573, .int 1013 0, .int 438 0, hS "/claim/cut.py" 1014])
noncomputable def o_628 (P : Params) : Obj := fO (nth P1 77) "_law_let" .none (hS "law_sm0007_01" 996) (.ref 574)
noncomputable def o_634 (P : Params) : Obj := hC (hQ "_law_body" "_law_body" 1016 440 2 [.ref 576, .bool true, .int 181 0, .ref 577, .none, .ref 578, .ref 579, .ref 580, .int 1025 0, .int 440 0, hS "/claim/cut.py" 1026])
noncomputable def o_635 (P : Params) : Obj := fO (nth P1 78) "_law_body" .none (hS "law_sm0007_01" 996) (.ref 581)
noncomputable def o_641 (P : Params) : Obj := hC (hQ "_law_jump" "_law_jump" 1028 444 1 [.ref 583, .bool true, .int 181 0, .ref 584, .none, .ref 585, .ref 586, .ref 587, .int 1041 0, .int 444 0, hS "/claim/cut.py" 1042])
noncomputable def o_642 (P : Params) : Obj := fO (nth P1 79) "_law_jump" .none (hS "law_sm0007_01" 996) (.ref 588)
noncomputable def o_646 (P : Params) : Obj := hC (hQ "_law_led" "_law_led" 1044 455 2 [.ref 590, .bool true, .int 181 0, .ref 591, .none, .none, .none, .ref 592, .int 1047 0, .int 455 0, hS "/claim/cut.py" 1048])
noncomputable def o_647 (P : Params) : Obj := fO (nth P1 80) "_law_led" .none (hS "law_sm0007_01" 996) (.ref 593)
noncomputable def o_651 (P : Params) : Obj := hC (hQ "_law_looped" "_law_looped" 1050 467 2 [.ref 595, .bool true, .int 181 0, .ref 596, .none, .none, .none, .ref 597, .int 1053 0, .int 467 0, hS "/claim/cut.py" 1054])
noncomputable def o_652 (P : Params) : Obj := fO (nth P1 81) "_law_looped" .none (hS "law_sm0007_01" 996) (.ref 598)
noncomputable def o_658 (P : Params) : Obj := hC (hQ "_law_worth" "_law_worth" 1056 481 2 [.ref 600, .bool true, .int 181 0, .ref 601, .none, .ref 602, .ref 603, .ref 604, .int 1065 0, .int 481 0, hS "/claim/cut.py" 1066])
noncomputable def o_659 (P : Params) : Obj := fO (nth P1 82) "_law_worth" .none (hS "law_sm0007_01" 996) (.ref 605)
noncomputable def o_663 (P : Params) : Obj := hC (hQ "law" "law" 1068 493 1 [.ref 607, .bool true, .int 181 0, .ref 608, .none, .none, .none, .ref 609, .int 1071 0, .int 493 0, hS "/claim/cut.py" 1072])
noncomputable def o_664 (P : Params) : Obj := fO (nth P1 83) "law" .none (hS "law_sm0007_01" 996) (.ref 610)
noncomputable def l_46 (P : Params) : List Obj := [boot_o_0 P, boot_o_1 P, boot_o_2 P, boot_o_3 P, boot_o_4 P, boot_o_5 P, boot_o_6 P, boot_o_7 P, boot_o_8 P, boot_o_9 P, boot_o_10 P, hT #[], Obj.mk .none none (Data.fields #[]) #[], hC #[hS "<module>" 182, hS "<module>" 183, hS "/claim/cut.py" 184, .int 1 0, .int 0 0, .int 0 0, .int 0 0, .int 0 0, .ref 11, .bool false, .int 181 0, .ref 12, .none, .none, .none, .none, .int 185 0, .int 1 0, hS "/claim/cut.py" 186], Obj.mk (.type "frame") none Data.plain #[some (.ref 13), some (.ref 3), some (.ref 3), none, some (hS "__main__" 164), none, some (.ref 0)]]
noncomputable def heap_46 (P : Params) : Heap := { objs := ⟨l_46 P⟩ }
noncomputable def l_47 (P : Params) : List Obj := up (l_46 P) [] []
noncomputable def tree_47 (P : Params) : BT := brn 11 (l_47 P)
noncomputable def l_102 (P : Params) : List Obj := up (l_47 P) [(2, Obj.mk .none none (Data.dict #[hE P "type.__subclasses__.Exception.0" 221 (.int 34 0), hE P "type.__subclasses__.Exception.n" 222 (.int 1 0)] 2) #[]), (3, o_50 P), (12, Obj.mk .none none (Data.fields #[.int 3 0, .int 0 0, .ref 21, .int 9 0, .int 0 0, .ref 43, .int 15 0, .int 0 0, .ref 50, .int 25 0, .int 0 0, .ref 57, .int 40 0, .int 0 0, .ref 64]) #[])] [hT #[.type "Exception"], Obj.mk (.type "builtin_function_or_method") none (Data.fields #[.builtin "type.__prepare__", .type "type"]) #[], o_54 P, Obj.mk (.type "cell") none (Data.cell (some (.ref 34))) #[], hT #[], Obj.mk .none none (Data.fields #[.int 5 0, .int 4 0, .ref 30]) #[], hC #[hS "BasicError" 193, hS "BasicError" 194, hS "/claim/cut.py" 195, .int 3 0, .int 0 0, .int 0 0, .int 0 0, .int 0 0, .ref 19, .bool false, .int 181 0, .ref 20, .none, .none, .none, .none, .int 196 0, .int 3 0, hS "/claim/cut.py" 197], Obj.mk (.type "frame") none Data.plain #[some (.ref 21), some (.ref 3), some (.ref 17), none, some (hS "basicplus.values" 187), none, some (.ref 0)], hT #[hS "" 203], hT #[.ref 18], hT #[hS "__class__" 207], Obj.mk .none none (Data.fields #[]) #[], hT #[hS "self" 208, hS "code" 209, hS "told" 210], hT #[], fR (mth (nth P1 2) 0) "BasicError.__init__", hC (hQ "__init__" "BasicError.__init__" 204 5 3 [.ref 25, .bool true, .int 181 0, .ref 26, .none, .ref 27, .ref 28, .ref 29, .int 211 0, .int 5 0, hS "/claim/cut.py" 212]), Obj.mk (.type "function") none (Data.func (FuncData.mk (stName (mth (nth P1 2) 0)) "BasicError.__init__" (stArgs (mth (nth P1 2) 0)) (FuncBody.stmts (stBody (mth (nth P1 2) 0))) (stScope (mth (nth P1 2) 0)) 3 [(Str.ofString "__class__", 18)] (.ref 23) .none .none (hS "basicplus.values" 187) none (.ref 30) (.ref 24) 0)) #[], hT #[hS "code" 214, hS "told" 215], o_70 P, Obj.mk (.type "type") none (Data.cls (ClassData.mk (Str.ofString "BasicError") [.type "Exception"] [.ref 34, .type "Exception", .type "BaseException", .type "object"] 33 (Str.ofString "BasicError") true [] [] false none false)) #[some (.ref 15), none, some (hS "BasicError" 191), some (hS "BasicError" 199), some (.builtin "Exception.__new__"), some (.bool true)], Obj.mk (.type "getset_descriptor") none (Data.fields #[hS "__weakref__" 218, .ref 34, .builtin "ExceptionGroup.__weakref__", .none]) #[], Obj.mk (.type "super") none (Data.fields #[.ref 34, .ref 34, .ref 34]) #[], Obj.mk (.type "builtin_function_or_method") none (Data.fields #[.builtin "object.__init_subclass__", .ref 34]) #[], hT #[], Obj.mk .none none (Data.fields #[]) #[], hT #[hS "number" 228, hS "many" 229, hS "bound" 230], hT #[], fR (nth P1 3) "figures_of", hC (hQ "figures_of" "figures_of" 225 9 1 [.ref 38, .bool true, .int 181 0, .ref 39, .none, .ref 40, .ref 41, .ref 42, .int 231 0, .int 9 0, hS "/claim/cut.py" 232]), fO (nth P1 3) "figures_of" .none (hS "basicplus.values" 187) (.ref 43), hT #[], Obj.mk .none none (Data.fields #[]) #[], hT #[hS "number" 237, hS "places" 238, hS "unit" 239, hS "found" 240, hS "rest" 241], hT #[], fR (nth P1 4) "rounded_by", hC (hQ "rounded_by" "rounded_by" 234 15 2 [.ref 45, .bool true, .int 181 0, .ref 46, .none, .ref 47, .ref 48, .ref 49, .int 242 0, .int 15 0, hS "/claim/cut.py" 243]), fO (nth P1 4) "rounded_by" .none (hS "basicplus.values" 187) (.ref 50), hT #[], Obj.mk .none none (Data.fields #[]) #[], hT #[hS "coefficient" 248, hS "exponent" 249, hS "digits" 250, hS "size" 251, hS "more" 252, hS "first" 253], hT #[], fR (nth P1 5) "made", hC (hQ "made" "made" 245 25 3 [.ref 52, .bool true, .int 181 0, .ref 53, .none, .ref 54, .ref 55, .ref 56, .int 254 0, .int 25 0, hS "/claim/cut.py" 255]), fO (nth P1 5) "made" .none (hS "basicplus.values" 187) (.ref 57), hT #[], Obj.mk .none none (Data.fields #[]) #[], hT #[hS "value" 260, hS "coefficient" 261, hS "exponent" 262, hS "size" 263], hT #[], fR (nth P1 6) "whole_near", hC (hQ "whole_near" "whole_near" 257 40 1 [.ref 59, .bool true, .int 181 0, .ref 60, .none, .ref 61, .ref 62, .ref 63, .int 264 0, .int 40 0, hS "/claim/cut.py" 265]), fO (nth P1 6) "whole_near" .none (hS "basicplus.values" 187) (.ref 64)]
noncomputable def tree_102 (P : Params) : BT := brn 11 (l_102 P)
noncomputable def l_189 (P : Params) : List Obj := up (l_102 P) [(3, o_103 P), (12, Obj.mk .none none (Data.fields #[.int 3 0, .int 0 0, .ref 21, .int 9 0, .int 0 0, .ref 43, .int 15 0, .int 0 0, .ref 50, .int 25 0, .int 0 0, .ref 57, .int 40 0, .int 0 0, .ref 64, .int 46 0, .int 0 0, .ref 71, .int 48 0, .int 0 0, .ref 78, .int 55 0, .int 0 0, .ref 85, .int 59 0, .int 0 0, .ref 92, .int 63 0, .int 0 0, .ref 99, .int 65 0, .int 0 0, .ref 106, .int 73 0, .int 0 0, .ref 114, .int 75 0, .int 0 0, .ref 121, .int 78 0, .int 0 0, .ref 128, .int 81 0, .int 0 0, .ref 135, .int 83 0, .int 0 0, .ref 142, .int 85 0, .int 0 0, .ref 149]) #[])] [hT #[], Obj.mk .none none (Data.fields #[]) #[], hT #[hS "number" 270, hS "bits" 271], hT #[], fR (nth P1 7) "fits", o_110 P, o_111 P, hT #[], Obj.mk .none none (Data.fields #[]) #[], hT #[hS "value" 278, hS "bits" 279, hS "number" 280], hT #[], fR (nth P1 8) "whole_of", o_117 P, o_118 P, hT #[], Obj.mk .none none (Data.fields #[]) #[], hT #[hS "value" 287, hS "digits" 288], hT #[], fR (nth P1 9) "decimal_of", hC (hQ "decimal_of" "decimal_of" 284 55 2 [.ref 80, .bool true, .int 181 0, .ref 81, .none, .ref 82, .ref 83, .ref 84, .int 289 0, .int 55 0, hS "/claim/cut.py" 290]), fO (nth P1 9) "decimal_of" .none (hS "basicplus.values" 187) (.ref 85), hT #[], Obj.mk .none none (Data.fields #[]) #[], hT #[hS "value" 295], hT #[], fR (nth P1 10) "is_nought", o_131 P, o_132 P, hT #[], Obj.mk .none none (Data.fields #[]) #[], hT #[hS "value" 302], hT #[], fR (nth P1 11) "is_true", o_138 P, o_139 P, hT #[], Obj.mk .none none (Data.fields #[]) #[], hT #[hS "value" 309, hS "size" 310], hT #[], fR (nth P1 12) "sign_of", hC (hQ "sign_of" "sign_of" 306 65 1 [.ref 101, .bool true, .int 181 0, .ref 102, .none, .ref 103, .ref 104, .ref 105, .int 311 0, .int 65 0, hS "/claim/cut.py" 312]), fO (nth P1 12) "sign_of" .none (hS "basicplus.values" 187) (.ref 106), hT #[.int 1 316, .int 0 317], hT #[], Obj.mk .none none (Data.fields #[]) #[], hT #[hS "a" 324], hT #[], fR (nth P1 16) "d_negated", hC (hQ "d_negated" "d_negated" 321 73 1 [.ref 109, .bool true, .int 181 0, .ref 110, .none, .ref 111, .ref 112, .ref 113, .int 325 0, .int 73 0, hS "/claim/cut.py" 326]), fO (nth P1 16) "d_negated" .none (hS "basicplus.decimals" 314) (.ref 114), hT #[], Obj.mk .none none (Data.fields #[]) #[], hT #[hS "a" 331, hS "b" 332, hS "least" 333], hT #[], fR (nth P1 17) "alike", hC (hQ "alike" "alike" 328 75 2 [.ref 116, .bool true, .int 181 0, .ref 117, .none, .ref 118, .ref 119, .ref 120, .int 334 0, .int 75 0, hS "/claim/cut.py" 335]), fO (nth P1 17) "alike" .none (hS "basicplus.decimals" 314) (.ref 121), hT #[], Obj.mk .none none (Data.fields #[]) #[], hT #[hS "a" 340, hS "b" 341, hS "digits" 342, hS "one" 343, hS "other" 344, hS "exponent" 345], hT #[], fR (nth P1 18) "d_add", hC (hQ "d_add" "d_add" 337 78 3 [.ref 123, .bool true, .int 181 0, .ref 124, .none, .ref 125, .ref 126, .ref 127, .int 346 0, .int 78 0, hS "/claim/cut.py" 347]), fO (nth P1 18) "d_add" .none (hS "basicplus.decimals" 314) (.ref 128), hT #[], Obj.mk .none none (Data.fields #[]) #[], hT #[hS "a" 352, hS "b" 353, hS "digits" 354], hT #[], fR (nth P1 19) "d_sub", hC (hQ "d_sub" "d_sub" 349 81 3 [.ref 130, .bool true, .int 181 0, .ref 131, .none, .ref 132, .ref 133, .ref 134, .int 355 0, .int 81 0, hS "/claim/cut.py" 356]), fO (nth P1 19) "d_sub" .none (hS "basicplus.decimals" 314) (.ref 135), hT #[], Obj.mk .none none (Data.fields #[]) #[], hT #[hS "a" 361, hS "b" 362, hS "digits" 363], hT #[], fR (nth P1 20) "d_mul", hC (hQ "d_mul" "d_mul" 358 83 3 [.ref 137, .bool true, .int 181 0, .ref 138, .none, .ref 139, .ref 140, .ref 141, .int 364 0, .int 83 0, hS "/claim/cut.py" 365]), fO (nth P1 20) "d_mul" .none (hS "basicplus.decimals" 314) (.ref 142), hT #[], Obj.mk .none none (Data.fields #[]) #[], hT #[hS "whole" 370, hS "rest" 371, hS "exponent" 372], hT #[], fR (nth P1 21) "with_rest", hC (hQ "with_rest" "with_rest" 367 85 3 [.ref 144, .bool true, .int 181 0, .ref 145, .none, .ref 146, .ref 147, .ref 148, .int 373 0, .int 85 0, hS "/claim/cut.py" 374]), fO (nth P1 21) "with_rest" .none (hS "basicplus.decimals" 314) (.ref 149)]
noncomputable def tree_189 (P : Params) : BT := brn 11 (l_189 P)
noncomputable def l_275 (P : Params) : List Obj := up (l_189 P) [(3, o_190 P), (12, Obj.mk .none none (Data.fields #[.int 3 0, .int 0 0, .ref 21, .int 9 0, .int 0 0, .ref 43, .int 15 0, .int 0 0, .ref 50, .int 25 0, .int 0 0, .ref 57, .int 40 0, .int 0 0, .ref 64, .int 46 0, .int 0 0, .ref 71, .int 48 0, .int 0 0, .ref 78, .int 55 0, .int 0 0, .ref 85, .int 59 0, .int 0 0, .ref 92, .int 63 0, .int 0 0, .ref 99, .int 65 0, .int 0 0, .ref 106, .int 73 0, .int 0 0, .ref 114, .int 75 0, .int 0 0, .ref 121, .int 78 0, .int 0 0, .ref 128, .int 81 0, .int 0 0, .ref 135, .int 83 0, .int 0 0, .ref 142, .int 85 0, .int 0 0, .ref 149, .int 87 0, .int 0 0, .ref 156, .int 95 0, .int 0 0, .ref 163, .int 98 0, .int 0 0, .ref 170, .int 112 0, .int 0 0, .ref 177, .int 115 0, .int 0 0, .ref 184, .int 119 0, .int 0 0, .ref 191, .int 121 0, .int 0 0, .ref 198, .int 125 0, .int 0 0, .ref 205, .int 130 0, .int 0 0, .ref 212, .int 132 0, .int 0 0, .ref 219, .int 138 0, .int 0 0, .ref 226, .int 144 0, .int 0 0, .ref 233]) #[])] [hT #[], Obj.mk .none none (Data.fields #[]) #[], hT #[hS "a" 379, hS "b" 380, hS "digits" 381, hS "size" 382, hS "below" 383, hS "places" 384, hS "whole" 385, hS "exponent" 386], hT #[], fR (nth P1 22) "d_div", hC (hQ "d_div" "d_div" 376 87 3 [.ref 151, .bool true, .int 181 0, .ref 152, .none, .ref 153, .ref 154, .ref 155, .int 387 0, .int 87 0, hS "/claim/cut.py" 388]), fO (nth P1 22) "d_div" .none (hS "basicplus.decimals" 314) (.ref 156), hT #[], Obj.mk .none none (Data.fields #[]) #[], hT #[hS "a" 393, hS "b" 394, hS "one" 395, hS "other" 396, hS "exponent" 397], hT #[], fR (nth P1 23) "d_compare", hC (hQ "d_compare" "d_compare" 390 95 2 [.ref 158, .bool true, .int 181 0, .ref 159, .none, .ref 160, .ref 161, .ref 162, .int 398 0, .int 95 0, hS "/claim/cut.py" 399]), fO (nth P1 23) "d_compare" .none (hS "basicplus.decimals" 314) (.ref 163), hT #[], Obj.mk .none none (Data.fields #[]) #[], hT #[hS "a" 404, hS "n" 405, hS "digits" 406, hS "work" 407, hS "found" 408, hS "left" 409], hT #[], fR (nth P1 24) "d_power", hC (hQ "d_power" "d_power" 401 98 3 [.ref 165, .bool true, .int 181 0, .ref 166, .none, .ref 167, .ref 168, .ref 169, .int 410 0, .int 98 0, hS "/claim/cut.py" 411]), fO (nth P1 24) "d_power" .none (hS "basicplus.decimals" 314) (.ref 170), hT #[], Obj.mk .none none (Data.fields #[]) #[], hT #[hS "a" 416, hS "work" 417], hT #[], fR (nth P1 25) "square_or_end", hC (hQ "square_or_end" "square_or_end" 413 112 2 [.ref 172, .bool true, .int 181 0, .ref 173, .none, .ref 174, .ref 175, .ref 176, .int 418 0, .int 112 0, hS "/claim/cut.py" 419]), fO (nth P1 25) "square_or_end" .none (hS "basicplus.decimals" 314) (.ref 177), hT #[], Obj.mk .none none (Data.fields #[]) #[], hT #[hS "value" 426], hT #[], fR (nth P1 27) "is_whole", hC (hQ "is_whole" "is_whole" 423 115 1 [.ref 179, .bool true, .int 181 0, .ref 180, .none, .ref 181, .ref 182, .ref 183, .int 427 0, .int 115 0, hS "/claim/cut.py" 428]), fO (nth P1 27) "is_whole" .none (hS "basicplus.arith" 421) (.ref 184), hT #[], Obj.mk .none none (Data.fields #[]) #[], hT #[hS "number" 433, hS "bits" 434, hS "digits" 435], hT #[], fR (nth P1 28) "settled", hC (hQ "settled" "settled" 430 119 3 [.ref 186, .bool true, .int 181 0, .ref 187, .none, .ref 188, .ref 189, .ref 190, .int 436 0, .int 119 0, hS "/claim/cut.py" 437]), fO (nth P1 28) "settled" .none (hS "basicplus.arith" 421) (.ref 191), hT #[], Obj.mk .none none (Data.fields #[]) #[], hT #[hS "op" 442, hS "a" 443, hS "b" 444, hS "bits" 445, hS "digits" 446], hT #[], fR (nth P1 29) "whole_reckoned", hC (hQ "whole_reckoned" "whole_reckoned" 439 121 5 [.ref 193, .bool true, .int 181 0, .ref 194, .none, .ref 195, .ref 196, .ref 197, .int 447 0, .int 121 0, hS "/claim/cut.py" 448]), fO (nth P1 29) "whole_reckoned" .none (hS "basicplus.arith" 421) (.ref 198), hT #[], Obj.mk .none none (Data.fields #[]) #[], hT #[hS "a" 453, hS "b" 454, hS "found" 455], hT #[], fR (nth P1 30) "cut_quotient", hC (hQ "cut_quotient" "cut_quotient" 450 125 2 [.ref 200, .bool true, .int 181 0, .ref 201, .none, .ref 202, .ref 203, .ref 204, .int 456 0, .int 125 0, hS "/claim/cut.py" 457]), fO (nth P1 30) "cut_quotient" .none (hS "basicplus.arith" 421) (.ref 205), hT #[], Obj.mk .none none (Data.fields #[]) #[], hT #[hS "a" 462, hS "b" 463], hT #[], fR (nth P1 31) "cut_rest", hC (hQ "cut_rest" "cut_rest" 459 130 2 [.ref 207, .bool true, .int 181 0, .ref 208, .none, .ref 209, .ref 210, .ref 211, .int 464 0, .int 130 0, hS "/claim/cut.py" 465]), fO (nth P1 31) "cut_rest" .none (hS "basicplus.arith" 421) (.ref 212), hT #[], Obj.mk .none none (Data.fields #[]) #[], hT #[hS "value" 470], hT #[], fR (nth P1 32) "exponent_of", hC (hQ "exponent_of" "exponent_of" 467 132 1 [.ref 214, .bool true, .int 181 0, .ref 215, .none, .ref 216, .ref 217, .ref 218, .int 471 0, .int 132 0, hS "/claim/cut.py" 472]), fO (nth P1 32) "exponent_of" .none (hS "basicplus.arith" 421) (.ref 219), hT #[], Obj.mk .none none (Data.fields #[]) #[], hT #[hS "a" 477, hS "n" 478, hS "bits" 479, hS "digits" 480], hT #[], fR (nth P1 33) "whole_power", hC (hQ "whole_power" "whole_power" 474 138 4 [.ref 221, .bool true, .int 181 0, .ref 222, .none, .ref 223, .ref 224, .ref 225, .int 481 0, .int 138 0, hS "/claim/cut.py" 482]), fO (nth P1 33) "whole_power" .none (hS "basicplus.arith" 421) (.ref 226), hT #[], Obj.mk .none none (Data.fields #[]) #[], hT #[hS "a" 487, hS "b" 488, hS "bits" 489, hS "digits" 490, hS "n" 491], hT #[], fR (nth P1 34) "raised", hC (hQ "raised" "raised" 484 144 4 [.ref 228, .bool true, .int 181 0, .ref 229, .none, .ref 230, .ref 231, .ref 232, .int 492 0, .int 144 0, hS "/claim/cut.py" 493]), fO (nth P1 34) "raised" .none (hS "basicplus.arith" 421) (.ref 233)]
noncomputable def tree_275 (P : Params) : BT := brn 11 (l_275 P)
noncomputable def l_326 (P : Params) : List Obj := up (l_275 P) [(3, o_276 P), (12, Obj.mk .none none (Data.fields #[.int 3 0, .int 0 0, .ref 21, .int 9 0, .int 0 0, .ref 43, .int 15 0, .int 0 0, .ref 50, .int 25 0, .int 0 0, .ref 57, .int 40 0, .int 0 0, .ref 64, .int 46 0, .int 0 0, .ref 71, .int 48 0, .int 0 0, .ref 78, .int 55 0, .int 0 0, .ref 85, .int 59 0, .int 0 0, .ref 92, .int 63 0, .int 0 0, .ref 99, .int 65 0, .int 0 0, .ref 106, .int 73 0, .int 0 0, .ref 114, .int 75 0, .int 0 0, .ref 121, .int 78 0, .int 0 0, .ref 128, .int 81 0, .int 0 0, .ref 135, .int 83 0, .int 0 0, .ref 142, .int 85 0, .int 0 0, .ref 149, .int 87 0, .int 0 0, .ref 156, .int 95 0, .int 0 0, .ref 163, .int 98 0, .int 0 0, .ref 170, .int 112 0, .int 0 0, .ref 177, .int 115 0, .int 0 0, .ref 184, .int 119 0, .int 0 0, .ref 191, .int 121 0, .int 0 0, .ref 198, .int 125 0, .int 0 0, .ref 205, .int 130 0, .int 0 0, .ref 212, .int 132 0, .int 0 0, .ref 219, .int 138 0, .int 0 0, .ref 226, .int 144 0, .int 0 0, .ref 233, .int 149 0, .int 0 0, .ref 240, .int 164 0, .int 0 0, .ref 247, .int 172 0, .int 0 0, .ref 254, .int 178 0, .int 0 0, .ref 275, .int 182 0, .int 0 0, .ref 282]) #[])] [hT #[], Obj.mk .none none (Data.fields #[]) #[], hT #[hS "op" 498, hS "a" 499, hS "b" 500, hS "bits" 501, hS "digits" 502, hS "is_first" 503, hS "is_second" 504, hS "work" 505, hS "one" 506, hS "other" 507], hT #[], fR (nth P1 35) "reckoned", hC (hQ "reckoned" "reckoned" 495 149 5 [.ref 235, .bool true, .int 181 0, .ref 236, .none, .ref 237, .ref 238, .ref 239, .int 508 0, .int 149 0, hS "/claim/cut.py" 509]), fO (nth P1 35) "reckoned" .none (hS "basicplus.arith" 421) (.ref 240), hT #[], Obj.mk .none none (Data.fields #[]) #[], hT #[hS "a" 514, hS "b" 515], hT #[], fR (nth P1 36) "order_of", hC (hQ "order_of" "order_of" 511 164 2 [.ref 242, .bool true, .int 181 0, .ref 243, .none, .ref 244, .ref 245, .ref 246, .int 516 0, .int 164 0, hS "/claim/cut.py" 517]), fO (nth P1 36) "order_of" .none (hS "basicplus.arith" 421) (.ref 247), hT #[], Obj.mk (.type "builtin_function_or_method") none (Data.fields #[.builtin "type.__prepare__", .type "type"]) #[], hD #[hE P "__module__" 530 (hS "basicplus.control" 519), hE P "__qualname__" 532 (hS "Control" 531), hE P "__firstlineno__" 534 (.int 172 533), hE P "__init__" 542 (.ref 262), hE P "__static_attributes__" 546 (.ref 263)] 5, hT #[], Obj.mk .none none (Data.fields #[.int 174 0, .int 4 0, .ref 261]) #[], hC #[hS "Control" 525, hS "Control" 526, hS "/claim/cut.py" 527, .int 172 0, .int 0 0, .int 0 0, .int 0 0, .int 0 0, .ref 252, .bool false, .int 181 0, .ref 253, .none, .none, .none, .none, .int 528 0, .int 172 0, hS "/claim/cut.py" 529], Obj.mk (.type "frame") none Data.plain #[some (.ref 254), some (.ref 3), some (.ref 251), none, some (hS "basicplus.control" 519), none, some (.ref 0)], hT #[], Obj.mk .none none (Data.fields #[]) #[], hT #[hS "self" 538, hS "most" 539], hT #[], fR (mth (nth P1 39) 0) "Control.__init__", o_304 P, o_305 P, hT #[hS "failed_at" 543, hS "most" 544, hS "pile" 545], o_307 P, o_308 P, Obj.mk (.type "getset_descriptor") none (Data.fields #[hS "__dict__" 547, .ref 265, .builtin "function.__dict__", .builtin "function.__dict__#set"]) #[], Obj.mk (.type "getset_descriptor") none (Data.fields #[hS "__weakref__" 549, .ref 265, .builtin "ExceptionGroup.__weakref__", .none]) #[], Obj.mk (.type "super") none (Data.fields #[.ref 265, .ref 265, .ref 265]) #[], Obj.mk (.type "builtin_function_or_method") none (Data.fields #[.builtin "object.__init_subclass__", .ref 265]) #[], hT #[], Obj.mk .none none (Data.fields #[]) #[], hT #[hS "control" 557, hS "entry" 558], hT #[], fR (nth P1 40) "put_upon", o_318 P, o_319 P, hT #[], Obj.mk .none none (Data.fields #[]) #[], hT #[hS "pile" 565, hS "at" 566], hT #[], fR (nth P1 41) "floor_of", o_325 P, o_326 P]
noncomputable def tree_326 (P : Params) : BT := brn 11 (l_326 P)
noncomputable def l_409 (P : Params) : List Obj := up (l_326 P) [(3, o_327 P), (12, Obj.mk .none none (Data.fields #[.int 3 0, .int 0 0, .ref 21, .int 9 0, .int 0 0, .ref 43, .int 15 0, .int 0 0, .ref 50, .int 25 0, .int 0 0, .ref 57, .int 40 0, .int 0 0, .ref 64, .int 46 0, .int 0 0, .ref 71, .int 48 0, .int 0 0, .ref 78, .int 55 0, .int 0 0, .ref 85, .int 59 0, .int 0 0, .ref 92, .int 63 0, .int 0 0, .ref 99, .int 65 0, .int 0 0, .ref 106, .int 73 0, .int 0 0, .ref 114, .int 75 0, .int 0 0, .ref 121, .int 78 0, .int 0 0, .ref 128, .int 81 0, .int 0 0, .ref 135, .int 83 0, .int 0 0, .ref 142, .int 85 0, .int 0 0, .ref 149, .int 87 0, .int 0 0, .ref 156, .int 95 0, .int 0 0, .ref 163, .int 98 0, .int 0 0, .ref 170, .int 112 0, .int 0 0, .ref 177, .int 115 0, .int 0 0, .ref 184, .int 119 0, .int 0 0, .ref 191, .int 121 0, .int 0 0, .ref 198, .int 125 0, .int 0 0, .ref 205, .int 130 0, .int 0 0, .ref 212, .int 132 0, .int 0 0, .ref 219, .int 138 0, .int 0 0, .ref 226, .int 144 0, .int 0 0, .ref 233, .int 149 0, .int 0 0, .ref 240, .int 164 0, .int 0 0, .ref 247, .int 172 0, .int 0 0, .ref 254, .int 178 0, .int 0 0, .ref 275, .int 182 0, .int 0 0, .ref 282, .int 187 0, .int 0 0, .ref 289, .int 192 0, .int 0 0, .ref 296, .int 194 0, .int 0 0, .ref 303, .int 196 0, .int 0 0, .ref 310, .int 201 0, .int 0 0, .ref 317, .int 206 0, .int 0 0, .ref 324, .int 217 0, .int 0 0, .ref 329, .int 224 0, .int 0 0, .ref 334, .int 229 0, .int 0 0, .ref 342, .int 235 0, .int 0 0, .ref 349, .int 237 0, .int 0 0, .ref 356, .int 244 0, .int 0 0, .ref 363]) #[])] [hT #[], Obj.mk .none none (Data.fields #[]) #[], hT #[hS "pile" 573, hS "kind" 574, hS "name" 575, hS "at" 576], hT #[], fR (nth P1 42) "found_at", o_334 P, o_335 P, hT #[], Obj.mk .none none (Data.fields #[]) #[], hT #[hS "control" 583, hS "many" 584], hT #[], fR (nth P1 43) "cut_to", o_341 P, o_342 P, hT #[], Obj.mk .none none (Data.fields #[]) #[], hT #[hS "value" 591, hS "limit" 592, hS "step" 593, hS "order" 594], hT #[], fR (nth P1 44) "is_past", hC (hQ "is_past" "is_past" 588 194 4 [.ref 298, .bool true, .int 181 0, .ref 299, .none, .ref 300, .ref 301, .ref 302, .int 595 0, .int 194 0, hS "/claim/cut.py" 596]), fO (nth P1 44) "is_past" .none (hS "basicplus.control" 519) (.ref 303), hT #[], Obj.mk .none none (Data.fields #[]) #[], hT #[hS "control" 601, hS "name" 602, hS "place" 603, hS "limit" 604, hS "step" 605, hS "at" 606], hT #[], fR (nth P1 45) "for_begin", hC (hQ "for_begin" "for_begin" 598 196 5 [.ref 305, .bool true, .int 181 0, .ref 306, .none, .ref 307, .ref 308, .ref 309, .int 607 0, .int 196 0, hS "/claim/cut.py" 608]), fO (nth P1 45) "for_begin" .none (hS "basicplus.control" 519) (.ref 310), hT #[], Obj.mk .none none (Data.fields #[]) #[], hT #[hS "control" 613, hS "name" 614, hS "at" 615], hT #[], fR (nth P1 46) "for_name", hC (hQ "for_name" "for_name" 610 201 2 [.ref 312, .bool true, .int 181 0, .ref 313, .none, .ref 314, .ref 315, .ref 316, .int 616 0, .int 201 0, hS "/claim/cut.py" 617]), fO (nth P1 46) "for_name" .none (hS "basicplus.control" 519) (.ref 317), hT #[], Obj.mk .none none (Data.fields #[]) #[], hT #[hS "control" 622, hS "name" 623, hS "value" 624, hS "add" 625, hS "order" 626, hS "at" 627, hS "kind" 628, hS "word" 629, hS "place" 630, hS "limit" 631, hS "step" 632], hT #[], fR (nth P1 47) "for_next", hC (hQ "for_next" "for_next" 619 206 5 [.ref 319, .bool true, .int 181 0, .ref 320, .none, .ref 321, .ref 322, .ref 323, .int 633 0, .int 206 0, hS "/claim/cut.py" 634]), fO (nth P1 47) "for_next" .none (hS "basicplus.control" 519) (.ref 324), hT #[], Obj.mk .none none (Data.fields #[]) #[], fR (nth P1 48) "while_begin", o_374 P, o_375 P, hT #[], Obj.mk .none none (Data.fields #[]) #[], fR (nth P1 49) "while_end", o_379 P, o_380 P, o_381 P, hT #[], Obj.mk .none none (Data.fields #[]) #[], hT #[hS "control" 652, hS "place" 653, hS "at" 654], hT #[], fR (nth P1 50) "wend_place", o_387 P, o_388 P, hT #[], Obj.mk .none none (Data.fields #[]) #[], hT #[hS "control" 661, hS "place" 662], hT #[], fR (nth P1 51) "gosub", o_394 P, o_395 P, hT #[], Obj.mk .none none (Data.fields #[]) #[], hT #[hS "control" 669, hS "many" 670, hS "place" 671], hT #[], fR (nth P1 52) "return_place", o_401 P, o_402 P, hT #[], Obj.mk .none none (Data.fields #[]) #[], hT #[hS "number" 678, hS "many" 679], hT #[], fR (nth P1 53) "chosen", o_408 P, o_409 P]
noncomputable def tree_409 (P : Params) : BT := brn 11 (l_409 P)
noncomputable def l_467 (P : Params) : List Obj := up (l_409 P) [(3, o_410 P), (12, Obj.mk .none none (Data.fields #[.int 3 0, .int 0 0, .ref 21, .int 9 0, .int 0 0, .ref 43, .int 15 0, .int 0 0, .ref 50, .int 25 0, .int 0 0, .ref 57, .int 40 0, .int 0 0, .ref 64, .int 46 0, .int 0 0, .ref 71, .int 48 0, .int 0 0, .ref 78, .int 55 0, .int 0 0, .ref 85, .int 59 0, .int 0 0, .ref 92, .int 63 0, .int 0 0, .ref 99, .int 65 0, .int 0 0, .ref 106, .int 73 0, .int 0 0, .ref 114, .int 75 0, .int 0 0, .ref 121, .int 78 0, .int 0 0, .ref 128, .int 81 0, .int 0 0, .ref 135, .int 83 0, .int 0 0, .ref 142, .int 85 0, .int 0 0, .ref 149, .int 87 0, .int 0 0, .ref 156, .int 95 0, .int 0 0, .ref 163, .int 98 0, .int 0 0, .ref 170, .int 112 0, .int 0 0, .ref 177, .int 115 0, .int 0 0, .ref 184, .int 119 0, .int 0 0, .ref 191, .int 121 0, .int 0 0, .ref 198, .int 125 0, .int 0 0, .ref 205, .int 130 0, .int 0 0, .ref 212, .int 132 0, .int 0 0, .ref 219, .int 138 0, .int 0 0, .ref 226, .int 144 0, .int 0 0, .ref 233, .int 149 0, .int 0 0, .ref 240, .int 164 0, .int 0 0, .ref 247, .int 172 0, .int 0 0, .ref 254, .int 178 0, .int 0 0, .ref 275, .int 182 0, .int 0 0, .ref 282, .int 187 0, .int 0 0, .ref 289, .int 192 0, .int 0 0, .ref 296, .int 194 0, .int 0 0, .ref 303, .int 196 0, .int 0 0, .ref 310, .int 201 0, .int 0 0, .ref 317, .int 206 0, .int 0 0, .ref 324, .int 217 0, .int 0 0, .ref 329, .int 224 0, .int 0 0, .ref 334, .int 229 0, .int 0 0, .ref 342, .int 235 0, .int 0 0, .ref 349, .int 237 0, .int 0 0, .ref 356, .int 244 0, .int 0 0, .ref 363, .int 249 0, .int 0 0, .ref 370, .int 258 0, .int 0 0, .ref 391, .int 261 0, .int 0 0, .ref 398, .int 271 0, .int 0 0, .ref 405, .int 277 0, .int 0 0, .ref 412, .int 299 0, .int 0 0, .ref 419]) #[])] [hT #[], Obj.mk (.type "builtin_function_or_method") none (Data.fields #[.builtin "type.__prepare__", .type "type"]) #[], hD #[hE P "__module__" 692 (hS "basicplus.flatten" 683), hE P "__qualname__" 694 (hS "Flat" 693), hE P "__firstlineno__" 696 (.int 249 695), hE P "__init__" 703 (.ref 378), hE P "__static_attributes__" 710 (.ref 379)] 5, hT #[], Obj.mk .none none (Data.fields #[.int 251 0, .int 4 0, .ref 377]) #[], hC #[hS "Flat" 687, hS "Flat" 688, hS "/claim/cut.py" 689, .int 249 0, .int 0 0, .int 0 0, .int 0 0, .int 0 0, .ref 368, .bool false, .int 181 0, .ref 369, .none, .none, .none, .none, .int 690 0, .int 249 0, hS "/claim/cut.py" 691], Obj.mk (.type "frame") none Data.plain #[some (.ref 370), some (.ref 3), some (.ref 367), none, some (hS "basicplus.flatten" 683), none, some (.ref 0)], hT #[], Obj.mk .none none (Data.fields #[]) #[], hT #[hS "self" 700], hT #[], fR (mth (nth P1 55) 0) "Flat.__init__", o_424 P, o_425 P, hT #[hS "data" 704, hS "fns" 705, hS "loops" 706, hS "pairs" 707, hS "places" 708, hS "rows" 709], o_427 P, o_428 P, Obj.mk (.type "getset_descriptor") none (Data.fields #[hS "__dict__" 711, .ref 381, .builtin "function.__dict__", .builtin "function.__dict__#set"]) #[], Obj.mk (.type "getset_descriptor") none (Data.fields #[hS "__weakref__" 713, .ref 381, .builtin "ExceptionGroup.__weakref__", .none]) #[], Obj.mk (.type "super") none (Data.fields #[.ref 381, .ref 381, .ref 381]) #[], Obj.mk (.type "builtin_function_or_method") none (Data.fields #[.builtin "object.__init_subclass__", .ref 381]) #[], hT #[], Obj.mk .none none (Data.fields #[]) #[], hT #[hS "flat" 721, hS "line" 722, hS "statement" 723], hT #[], fR (nth P1 56) "put_row_of", o_438 P, o_439 P, hT #[], Obj.mk .none none (Data.fields #[]) #[], hT #[hS "flat" 730, hS "line" 731, hS "statement" 732, hS "test" 733, hS "skip" 734], hT #[], fR (nth P1 57) "put_if", o_445 P, o_446 P, hT #[], Obj.mk .none none (Data.fields #[]) #[], hT #[hS "flat" 741, hS "line" 742, hS "statements" 743, hS "statement" 744], hT #[], fR (nth P1 58) "put_all", o_452 P, o_453 P, hT #[], Obj.mk .none none (Data.fields #[]) #[], hT #[hS "flat" 751, hS "whiles" 752, hS "fors" 753, hS "heads" 754, hS "at" 755, hS "pair" 756, hS "line" 757, hS "statement" 758, hS "word" 759, hS "text" 760], hT #[], fR (nth P1 59) "gather", o_459 P, o_460 P, hT #[], Obj.mk .none none (Data.fields #[]) #[], hT #[hS "flat" 767, hS "open_rows" 768, hS "at" 769, hS "begin" 770], hT #[], fR (nth P1 60) "join_rows", o_466 P, o_467 P]
noncomputable def tree_467 (P : Params) : BT := brn 11 (l_467 P)
noncomputable def l_547 (P : Params) : List Obj := up (l_467 P) [(3, o_468 P), (12, Obj.mk .none none (Data.fields #[.int 3 0, .int 0 0, .ref 21, .int 9 0, .int 0 0, .ref 43, .int 15 0, .int 0 0, .ref 50, .int 25 0, .int 0 0, .ref 57, .int 40 0, .int 0 0, .ref 64, .int 46 0, .int 0 0, .ref 71, .int 48 0, .int 0 0, .ref 78, .int 55 0, .int 0 0, .ref 85, .int 59 0, .int 0 0, .ref 92, .int 63 0, .int 0 0, .ref 99, .int 65 0, .int 0 0, .ref 106, .int 73 0, .int 0 0, .ref 114, .int 75 0, .int 0 0, .ref 121, .int 78 0, .int 0 0, .ref 128, .int 81 0, .int 0 0, .ref 135, .int 83 0, .int 0 0, .ref 142, .int 85 0, .int 0 0, .ref 149, .int 87 0, .int 0 0, .ref 156, .int 95 0, .int 0 0, .ref 163, .int 98 0, .int 0 0, .ref 170, .int 112 0, .int 0 0, .ref 177, .int 115 0, .int 0 0, .ref 184, .int 119 0, .int 0 0, .ref 191, .int 121 0, .int 0 0, .ref 198, .int 125 0, .int 0 0, .ref 205, .int 130 0, .int 0 0, .ref 212, .int 132 0, .int 0 0, .ref 219, .int 138 0, .int 0 0, .ref 226, .int 144 0, .int 0 0, .ref 233, .int 149 0, .int 0 0, .ref 240, .int 164 0, .int 0 0, .ref 247, .int 172 0, .int 0 0, .ref 254, .int 178 0, .int 0 0, .ref 275, .int 182 0, .int 0 0, .ref 282, .int 187 0, .int 0 0, .ref 289, .int 192 0, .int 0 0, .ref 296, .int 194 0, .int 0 0, .ref 303, .int 196 0, .int 0 0, .ref 310, .int 201 0, .int 0 0, .ref 317, .int 206 0, .int 0 0, .ref 324, .int 217 0, .int 0 0, .ref 329, .int 224 0, .int 0 0, .ref 334, .int 229 0, .int 0 0, .ref 342, .int 235 0, .int 0 0, .ref 349, .int 237 0, .int 0 0, .ref 356, .int 244 0, .int 0 0, .ref 363, .int 249 0, .int 0 0, .ref 370, .int 258 0, .int 0 0, .ref 391, .int 261 0, .int 0 0, .ref 398, .int 271 0, .int 0 0, .ref 405, .int 277 0, .int 0 0, .ref 412, .int 299 0, .int 0 0, .ref 419, .int 304 0, .int 0 0, .ref 426, .int 308 0, .int 0 0, .ref 433, .int 317 0, .int 0 0, .ref 440, .int 321 0, .int 0 0, .ref 447, .int 323 0, .int 0 0, .ref 454, .int 327 0, .int 0 0, .ref 461, .int 333 0, .int 0 0, .ref 469, .int 335 0, .int 0 0, .ref 476, .int 354 0, .int 0 0, .ref 483, .int 367 0, .int 0 0, .ref 490, .int 381 0, .int 0 0, .ref 497]) #[])] [hT #[], Obj.mk .none none (Data.fields #[]) #[], hT #[hS "flat" 777, hS "fors" 778, hS "at" 779, hS "many" 780, hS "which" 781], hT #[], fR (nth P1 61) "end_loops", hC (hQ "end_loops" "end_loops" 774 304 4 [.ref 421, .bool true, .int 181 0, .ref 422, .none, .ref 423, .ref 424, .ref 425, .int 782 0, .int 304 0, hS "/claim/cut.py" 783]), fO (nth P1 61) "end_loops" .none (hS "basicplus.flatten" 683) (.ref 426), hT #[], Obj.mk .none none (Data.fields #[]) #[], hT #[hS "parsed" 788, hS "flat" 789, hS "line" 790, hS "statements" 791], hT #[], fR (nth P1 62) "flatten", o_482 P, o_483 P, hT #[], Obj.mk .none none (Data.fields #[]) #[], hT #[hS "flat" 798, hS "line" 799], hT #[], fR (nth P1 63) "place_of", o_489 P, o_490 P, hT #[], Obj.mk .none none (Data.fields #[]) #[], hT #[hS "flat" 806, hS "row" 807], hT #[], fR (nth P1 64) "line_of", hC (hQ "line_of" "line_of" 803 321 2 [.ref 442, .bool true, .int 181 0, .ref 443, .none, .ref 444, .ref 445, .ref 446, .int 808 0, .int 321 0, hS "/claim/cut.py" 809]), fO (nth P1 64) "line_of" .none (hS "basicplus.flatten" 683) (.ref 447), hT #[], Obj.mk .none none (Data.fields #[]) #[], hT #[hS "flat" 814, hS "row" 815], hT #[], fR (nth P1 65) "end_of_while", o_503 P, o_504 P, hT #[], Obj.mk .none none (Data.fields #[]) #[], hT #[hS "flat" 822, hS "row" 823], hT #[], fR (nth P1 66) "next_of_for", hC (hQ "next_of_for" "next_of_for" 819 327 2 [.ref 456, .bool true, .int 181 0, .ref 457, .none, .ref 458, .ref 459, .ref 460, .int 824 0, .int 327 0, hS "/claim/cut.py" 825]), fO (nth P1 66) "next_of_for" .none (hS "basicplus.flatten" 683) (.ref 461), o_512 P, hT #[], Obj.mk .none none (Data.fields #[]) #[], hT #[hS "run" 839, hS "at" 840, hS "statement" 841], hT #[], fR (nth P1 69) "do_flow", o_518 P, o_519 P, hT #[], Obj.mk .none none (Data.fields #[]) #[], hT #[hS "run" 848, hS "at" 849, hS "statement" 850, hS "word" 851, hS "place" 852, hS "line" 853, hS "which" 854, hS "goal" 855], hT #[], fR (nth P1 70) "do_jump", o_525 P, o_526 P, hT #[], Obj.mk .none none (Data.fields #[]) #[], hT #[hS "run" 862, hS "at" 863, hS "statement" 864, hS "word" 865], hT #[], fR (nth P1 71) "do_loop", o_532 P, o_533 P, hT #[], Obj.mk .none none (Data.fields #[]) #[], hT #[hS "run" 872, hS "at" 873, hS "statement" 874, hS "word" 875, hS "name" 876, hS "first" 877, hS "last" 878, hS "stride" 879, hS "begin" 880, hS "limit" 881, hS "step" 882, hS "value" 883, hS "row" 884, hS "which" 885, hS "names" 886], hT #[], fR (nth P1 72) "do_for", hC (hQ "do_for" "do_for" 869 367 3 [.ref 485, .bool true, .int 181 0, .ref 486, .none, .ref 487, .ref 488, .ref 489, .int 887 0, .int 367 0, hS "/claim/cut.py" 888]), fO (nth P1 72) "do_for" .none (hS "basicplus.flow" 827) (.ref 490), hT #[], Obj.mk .none none (Data.fields #[]) #[], hT #[hS "run" 893, hS "at" 894, hS "names" 895, hS "told" 896, hS "name" 897, hS "value" 898, hS "place" 899], hT #[], fR (nth P1 73) "next_from", hC (hQ "next_from" "next_from" 890 381 3 [.ref 492, .bool true, .int 181 0, .ref 493, .none, .ref 494, .ref 495, .ref 496, .int 900 0, .int 381 0, hS "/claim/cut.py" 901]), fO (nth P1 73) "next_from" .none (hS "basicplus.flow" 827) (.ref 497)]
noncomputable def tree_547 (P : Params) : BT := brn 11 (l_547 P)
noncomputable def l_612 (P : Params) : List Obj := up (l_547 P) [(3, o_548 P), (12, Obj.mk .none none (Data.fields #[.int 3 0, .int 0 0, .ref 21, .int 9 0, .int 0 0, .ref 43, .int 15 0, .int 0 0, .ref 50, .int 25 0, .int 0 0, .ref 57, .int 40 0, .int 0 0, .ref 64, .int 46 0, .int 0 0, .ref 71, .int 48 0, .int 0 0, .ref 78, .int 55 0, .int 0 0, .ref 85, .int 59 0, .int 0 0, .ref 92, .int 63 0, .int 0 0, .ref 99, .int 65 0, .int 0 0, .ref 106, .int 73 0, .int 0 0, .ref 114, .int 75 0, .int 0 0, .ref 121, .int 78 0, .int 0 0, .ref 128, .int 81 0, .int 0 0, .ref 135, .int 83 0, .int 0 0, .ref 142, .int 85 0, .int 0 0, .ref 149, .int 87 0, .int 0 0, .ref 156, .int 95 0, .int 0 0, .ref 163, .int 98 0, .int 0 0, .ref 170, .int 112 0, .int 0 0, .ref 177, .int 115 0, .int 0 0, .ref 184, .int 119 0, .int 0 0, .ref 191, .int 121 0, .int 0 0, .ref 198, .int 125 0, .int 0 0, .ref 205, .int 130 0, .int 0 0, .ref 212, .int 132 0, .int 0 0, .ref 219, .int 138 0, .int 0 0, .ref 226, .int 144 0, .int 0 0, .ref 233, .int 149 0, .int 0 0, .ref 240, .int 164 0, .int 0 0, .ref 247, .int 172 0, .int 0 0, .ref 254, .int 178 0, .int 0 0, .ref 275, .int 182 0, .int 0 0, .ref 282, .int 187 0, .int 0 0, .ref 289, .int 192 0, .int 0 0, .ref 296, .int 194 0, .int 0 0, .ref 303, .int 196 0, .int 0 0, .ref 310, .int 201 0, .int 0 0, .ref 317, .int 206 0, .int 0 0, .ref 324, .int 217 0, .int 0 0, .ref 329, .int 224 0, .int 0 0, .ref 334, .int 229 0, .int 0 0, .ref 342, .int 235 0, .int 0 0, .ref 349, .int 237 0, .int 0 0, .ref 356, .int 244 0, .int 0 0, .ref 363, .int 249 0, .int 0 0, .ref 370, .int 258 0, .int 0 0, .ref 391, .int 261 0, .int 0 0, .ref 398, .int 271 0, .int 0 0, .ref 405, .int 277 0, .int 0 0, .ref 412, .int 299 0, .int 0 0, .ref 419, .int 304 0, .int 0 0, .ref 426, .int 308 0, .int 0 0, .ref 433, .int 317 0, .int 0 0, .ref 440, .int 321 0, .int 0 0, .ref 447, .int 323 0, .int 0 0, .ref 454, .int 327 0, .int 0 0, .ref 461, .int 333 0, .int 0 0, .ref 469, .int 335 0, .int 0 0, .ref 476, .int 354 0, .int 0 0, .ref 483, .int 367 0, .int 0 0, .ref 490, .int 381 0, .int 0 0, .ref 497, .int 389 0, .int 0 0, .ref 504]) #[])] [hT #[], Obj.mk (.type "builtin_function_or_method") none (Data.fields #[.builtin "type.__prepare__", .type "type"]) #[], o_552 P, hT #[], Obj.mk .none none (Data.fields #[.int 391 0, .int 4 0, .ref 511, .int 400 0, .int 4 0, .ref 518, .int 404 0, .int 4 0, .ref 525, .int 407 0, .int 4 0, .ref 532, .int 410 0, .int 4 0, .ref 539, .int 413 0, .int 4 0, .ref 546, .int 416 0, .int 4 0, .ref 553]) #[], hC #[hS "FlowRun" 905, hS "FlowRun" 906, hS "/claim/cut.py" 907, .int 389 0, .int 0 0, .int 0 0, .int 0 0, .int 0 0, .ref 502, .bool false, .int 181 0, .ref 503, .none, .none, .none, .none, .int 908 0, .int 389 0, hS "/claim/cut.py" 909], Obj.mk (.type "frame") none Data.plain #[some (.ref 504), some (.ref 3), some (.ref 501), none, some (hS "basicplus.flow" 827), none, some (.ref 0)], hT #[], Obj.mk .none none (Data.fields #[]) #[], hT #[hS "self" 918, hS "flat" 919, hS "values" 920, hS "worth_of" 921, hS "bits" 922, hS "digits" 923], hT #[], fR (mth (nth P1 74) 0) "FlowRun.__init__", o_562 P, o_563 P, hT #[], Obj.mk .none none (Data.fields #[]) #[], hT #[hS "self" 930, hS "tree" 931, hS "given_worth" 932], hT #[], fR (mth (nth P1 74) 1) "FlowRun.worth", o_569 P, o_570 P, hT #[], Obj.mk .none none (Data.fields #[]) #[], hT #[hS "self" 939, hS "tree" 940], hT #[], fR (mth (nth P1 74) 2) "FlowRun.whole", o_576 P, o_577 P, hT #[], Obj.mk .none none (Data.fields #[]) #[], hT #[hS "self" 947, hS "name" 948], hT #[], fR (mth (nth P1 74) 3) "FlowRun.value_of_name", o_583 P, o_584 P, hT #[], Obj.mk .none none (Data.fields #[]) #[], hT #[hS "self" 955, hS "name" 956, hS "value" 957], hT #[], fR (mth (nth P1 74) 4) "FlowRun.store", o_590 P, o_591 P, hT #[], Obj.mk .none none (Data.fields #[]) #[], hT #[hS "self" 964, hS "value" 965, hS "step" 966], hT #[], fR (mth (nth P1 74) 5) "FlowRun.plus", hC (hQ "plus" "FlowRun.plus" 961 413 3 [.ref 541, .bool true, .int 181 0, .ref 542, .none, .ref 543, .ref 544, .ref 545, .int 967 0, .int 413 0, hS "/claim/cut.py" 968]), fO (mth (nth P1 74) 5) "FlowRun.plus" .none (hS "basicplus.flow" 827) (.ref 546), hT #[], Obj.mk .none none (Data.fields #[]) #[], hT #[hS "self" 973, hS "at" 974, hS "most" 975, hS "turn" 976, hS "statement" 977], hT #[], fR (mth (nth P1 74) 6) "FlowRun.go", o_604 P, o_605 P, hT #[hS "bits" 981, hS "control" 982, hS "digits" 983, hS "flat" 984, hS "notes" 985, hS "values" 986, hS "worth_of" 987], o_607 P, o_608 P, Obj.mk (.type "getset_descriptor") none (Data.fields #[hS "__dict__" 989, .ref 557, .builtin "function.__dict__", .builtin "function.__dict__#set"]) #[], Obj.mk (.type "getset_descriptor") none (Data.fields #[hS "__weakref__" 991, .ref 557, .builtin "ExceptionGroup.__weakref__", .none]) #[], Obj.mk (.type "super") none (Data.fields #[.ref 557, .ref 557, .ref 557]) #[], Obj.mk (.type "builtin_function_or_method") none (Data.fields #[.builtin "object.__init_subclass__", .ref 557]) #[]]
noncomputable def tree_612 (P : Params) : BT := brn 11 (l_612 P)
noncomputable def l_664 (P : Params) : List Obj := up (l_612 P) [(3, o_613 P), (12, Obj.mk .none none (Data.fields #[.int 3 0, .int 0 0, .ref 21, .int 9 0, .int 0 0, .ref 43, .int 15 0, .int 0 0, .ref 50, .int 25 0, .int 0 0, .ref 57, .int 40 0, .int 0 0, .ref 64, .int 46 0, .int 0 0, .ref 71, .int 48 0, .int 0 0, .ref 78, .int 55 0, .int 0 0, .ref 85, .int 59 0, .int 0 0, .ref 92, .int 63 0, .int 0 0, .ref 99, .int 65 0, .int 0 0, .ref 106, .int 73 0, .int 0 0, .ref 114, .int 75 0, .int 0 0, .ref 121, .int 78 0, .int 0 0, .ref 128, .int 81 0, .int 0 0, .ref 135, .int 83 0, .int 0 0, .ref 142, .int 85 0, .int 0 0, .ref 149, .int 87 0, .int 0 0, .ref 156, .int 95 0, .int 0 0, .ref 163, .int 98 0, .int 0 0, .ref 170, .int 112 0, .int 0 0, .ref 177, .int 115 0, .int 0 0, .ref 184, .int 119 0, .int 0 0, .ref 191, .int 121 0, .int 0 0, .ref 198, .int 125 0, .int 0 0, .ref 205, .int 130 0, .int 0 0, .ref 212, .int 132 0, .int 0 0, .ref 219, .int 138 0, .int 0 0, .ref 226, .int 144 0, .int 0 0, .ref 233, .int 149 0, .int 0 0, .ref 240, .int 164 0, .int 0 0, .ref 247, .int 172 0, .int 0 0, .ref 254, .int 178 0, .int 0 0, .ref 275, .int 182 0, .int 0 0, .ref 282, .int 187 0, .int 0 0, .ref 289, .int 192 0, .int 0 0, .ref 296, .int 194 0, .int 0 0, .ref 303, .int 196 0, .int 0 0, .ref 310, .int 201 0, .int 0 0, .ref 317, .int 206 0, .int 0 0, .ref 324, .int 217 0, .int 0 0, .ref 329, .int 224 0, .int 0 0, .ref 334, .int 229 0, .int 0 0, .ref 342, .int 235 0, .int 0 0, .ref 349, .int 237 0, .int 0 0, .ref 356, .int 244 0, .int 0 0, .ref 363, .int 249 0, .int 0 0, .ref 370, .int 258 0, .int 0 0, .ref 391, .int 261 0, .int 0 0, .ref 398, .int 271 0, .int 0 0, .ref 405, .int 277 0, .int 0 0, .ref 412, .int 299 0, .int 0 0, .ref 419, .int 304 0, .int 0 0, .ref 426, .int 308 0, .int 0 0, .ref 433, .int 317 0, .int 0 0, .ref 440, .int 321 0, .int 0 0, .ref 447, .int 323 0, .int 0 0, .ref 454, .int 327 0, .int 0 0, .ref 461, .int 333 0, .int 0 0, .ref 469, .int 335 0, .int 0 0, .ref 476, .int 354 0, .int 0 0, .ref 483, .int 367 0, .int 0 0, .ref 490, .int 381 0, .int 0 0, .ref 497, .int 389 0, .int 0 0, .ref 504, .int 433 0, .int 0 0, .ref 567, .int 438 0, .int 0 0, .ref 574, .int 440 0, .int 0 0, .ref 581, .int 444 0, .int 0 0, .ref 588, .int 455 0, .int 0 0, .ref 593, .int 467 0, .int 0 0, .ref 598, .int 481 0, .int 0 0, .ref 605, .int 493 0, .int 0 0, .ref 610]) #[])] [hT #[], Obj.mk .none none (Data.fields #[]) #[], hT #[hS "cord" 1001, hS "many" 1002, hS "_law_usual" 1003, hS "place" 1004], hT #[], fR (nth P1 76) "_law_pull", o_620 P, o_621 P, hT #[], Obj.mk .none none (Data.fields #[]) #[], hT #[hS "name" 1011, hS "tree" 1012], hT #[], fR (nth P1 77) "_law_let", o_627 P, o_628 P, hT #[], Obj.mk .none none (Data.fields #[]) #[], hT #[hS "part" 1019, hS "line" 1020, hS "_law_names" 1021, hS "goal" 1022, hS "source" 1023, hS "more" 1024], hT #[], fR (nth P1 78) "_law_body", o_634 P, o_635 P, hT #[], Obj.mk .none none (Data.fields #[]) #[], hT #[hS "part" 1031, hS "_law_names" 1032, hS "kind" 1033, hS "one" 1034, hS "other" 1035, hS "name" 1036, hS "how" 1037, hS "number" 1038, hS "goals" 1039, hS "test" 1040], hT #[], fR (nth P1 79) "_law_jump", o_641 P, o_642 P, hT #[], Obj.mk .none none (Data.fields #[]) #[], fR (nth P1 80) "_law_led", o_646 P, o_647 P, hT #[], Obj.mk .none none (Data.fields #[]) #[], fR (nth P1 81) "_law_looped", o_651 P, o_652 P, hT #[], Obj.mk .none none (Data.fields #[]) #[], hT #[hS "tree" 1059, hS "values" 1060, hS "word" 1061, hS "name" 1062, hS "number" 1063, hS "here" 1064], hT #[], fR (nth P1 82) "_law_worth", o_658 P, o_659 P, hT #[], Obj.mk .none none (Data.fields #[]) #[], fR (nth P1 83) "law", o_663 P, o_664 P]
noncomputable def tree_664 (P : Params) : BT := brn 11 (l_664 P)
noncomputable def l_665 (P : Params) : List Obj := up (l_664 P) [] []
noncomputable def heap_665 (P : Params) : Heap := { objs := ⟨l_665 P⟩ }
end
-- HB1
section
set_option maxHeartbeats 0
noncomputable def env0 : Env := ⟨pg.main.scope, mainNs, mainNs, [], Str.empty, none, .ref 13, some 14, 0⟩
noncomputable abbrev B0 : List Stmt := behindTheImports pg
noncomputable abbrev code0 : Code := .body B0 env0
noncomputable abbrev p0 : Pos := ⟨0, 0, 0, 0⟩
noncomputable abbrev p1 : Pos := ⟨493, 0, 506, 102⟩
noncomputable abbrev ann0 : Option Value := some (.ref 6)
noncomputable abbrev stT (t : Params → BT) (n k : Nat) (w : World) (os : OsState) : SharedT := { tree := t w.params, n := n, life := {}, gens := ⟨[]⟩, drawn := {}, toks := k, os := os }
noncomputable def pc (a n : Nat) : List Stmt := (B0.drop a).take n
theorem hd_pre (w : World) : (fun os => topGo treeTable pg w 11 ann0 12 { heap := boot_heap w.params, drawn := boot_drawn, toks := boot_toks, os := os } (topStub pg)) =
    fun os => some ({ heap := heap_46 w.params, toks := 187, os := os }, ⟨denote treeTable code0, code0, p0, [topFrame p0]⟩) := by
  rw [PySem.W.Fast.te15667345088766844465, PySem.W.Fast.te11892475500146522536, PySem.W.Fast.te14364793385576792824]
  kernel_rfl
theorem hd_block (w : World) : (fun os => segRun treeTable pg w 11 ann0 1 1 { heap := heap_46 w.params, toks := 187, os := os } (blockOf B0 env0 code0 p0 [topFrame p0])) =
    fun os => some (.next, (stT tree_47 15 187 w os).abs, code0, p0) := by
  rw [PySem.W.Fast.te14374325043358763698]
  kernel_rfl
theorem hd_p1 (w : World) : (fun os => segRunT treeTable pg w 11 ann0 1 397 (stT tree_47 15 187 w os) (piecesOf (pc 0 7) env0 code0 ⟨0, 0, 0, 0⟩ [topFrame p0])) = fun os => some (.next, stT tree_102 66 267 w os, code0, ⟨40, 0, 45, 45⟩) := by
  rw [PySem.W.Fast.te10110043849684766642, PySem.W.Fast.te14364793385576792824]
  kernel_rfl
theorem hd_p2 (w : World) : (fun os => segRunT treeTable pg w 11 ann0 1 397 (stT tree_102 66 267 w os) (piecesOf (pc 7 15) env0 code0 ⟨40, 0, 45, 45⟩ [topFrame p0])) = fun os => some (.next, stT tree_189 151 376 w os, code0, ⟨85, 0, 86, 77⟩) := by
  rw [PySem.W.Fast.te10110043849684766642, PySem.W.Fast.te14364793385576792824]
  kernel_rfl
theorem hd_p3 (w : World) : (fun os => segRunT treeTable pg w 11 ann0 1 391 (stT tree_189 151 376 w os) (piecesOf (pc 22 13) env0 code0 ⟨85, 0, 86, 77⟩ [topFrame p0])) = fun os => some (.next, stT tree_275 235 495 w os, code0, ⟨144, 0, 148, 52⟩) := by
  rw [PySem.W.Fast.te10110043849684766642, PySem.W.Fast.te14364793385576792824]
  kernel_rfl
theorem hd_p4 (w : World) : (fun os => segRunT treeTable pg w 11 ann0 1 371 (stT tree_275 235 495 w os) (piecesOf (pc 35 7) env0 code0 ⟨144, 0, 148, 52⟩ [topFrame p0])) = fun os => some (.next, stT tree_326 284 570 w os, code0, ⟨182, 0, 186, 12⟩) := by
  rw [PySem.W.Fast.te10110043849684766642, PySem.W.Fast.te14364793385576792824]
  kernel_rfl
theorem hd_p5 (w : World) : (fun os => segRunT treeTable pg w 11 ann0 1 384 (stT tree_326 284 570 w os) (piecesOf (pc 42 13) env0 code0 ⟨182, 0, 186, 12⟩ [topFrame p0])) = fun os => some (.next, stT tree_409 365 685 w os, code0, ⟨248, 0, 248, 8⟩) := by
  rw [PySem.W.Fast.te10110043849684766642, PySem.W.Fast.te14364793385576792824]
  kernel_rfl
theorem hd_p6 (w : World) : (fun os => segRunT treeTable pg w 11 ann0 1 393 (stT tree_409 365 685 w os) (piecesOf (pc 55 6) env0 code0 ⟨248, 0, 248, 8⟩ [topFrame p0])) = fun os => some (.next, stT tree_467 421 774 w os, code0, ⟨299, 0, 303, 30⟩) := by
  rw [PySem.W.Fast.te10110043849684766642, PySem.W.Fast.te14364793385576792824]
  kernel_rfl
theorem hd_p7 (w : World) : (fun os => segRunT treeTable pg w 11 ann0 1 388 (stT tree_467 421 774 w os) (piecesOf (pc 61 13) env0 code0 ⟨299, 0, 303, 30⟩ [topFrame p0])) = fun os => some (.next, stT tree_547 499 903 w os, code0, ⟨381, 0, 388, 17⟩) := by
  rw [PySem.W.Fast.te10110043849684766642, PySem.W.Fast.te14364793385576792824]
  kernel_rfl
theorem hd_p8 (w : World) : (fun os => segRunT treeTable pg w 11 ann0 1 431 (stT tree_547 499 903 w os) (piecesOf (pc 74 1) env0 code0 ⟨381, 0, 388, 17⟩ [topFrame p0])) = fun os => some (.next, stT tree_612 562 996 w os, code0, ⟨389, 0, 431, 54⟩) := by
  rw [PySem.W.Fast.te10110043849684766642, PySem.W.Fast.te14364793385576792824]
  kernel_rfl
theorem hd_p9 (w : World) : (fun os => segRunT treeTable pg w 11 ann0 1 256 (stT tree_612 562 996 w os) (piecesOf (pc 75 9) env0 code0 ⟨389, 0, 431, 54⟩ [topFrame p0])) = fun os => some (.next, stT tree_664 612 1074 w os, code0, ⟨493, 0, 506, 102⟩) := by
  rw [PySem.W.Fast.te10110043849684766642, PySem.W.Fast.te14364793385576792824]
  kernel_rfl
theorem hd_end (w : World) : (fun os => topRun treeTable pg w 11 ann0 2 (stT tree_664 612 1074 w os).abs ⟨doneF .next, code0, p1, [topFrame p0]⟩) = fun os => some { heap := heap_665 w.params, toks := 1074, os := os } := by
  rw [PySem.W.Fast.te14082659384304107361, PySem.W.Fast.te14364793385576792824]
  kernel_rfl
end
-- HC1
section
set_option maxHeartbeats 0
noncomputable abbrev eS (w : World) (os : OsState) : Shared := { heap := heap_665 w.params, toks := 1074, os := os }
noncomputable def keep1 : List Nat := (List.range 84).filter fun i => !([0, 13, 26, 37, 50, 54, 67, 75] : List Nat).contains i
noncomputable abbrev qv : Program := view pg keep1
noncomputable abbrev loose1 : List Str := ["BasicError", "wend_place"]
noncomputable abbrev Xt1 (s : Shared) : Bool := xlAt qv [] s && recOk (RowW.records PySem.Challenge.rw_sm0007_01.row.toRowW) s
theorem hd_stat (w : World) (os : OsState) : (staticsOk (importedModules pg.main.body) (boot_heap w.params) (eS w os).heap && namesBound pg (eS w os).heap && gensDone (eS w os) && laidKept (boot_heap w.params) (eS w os).heap) = true := by kernel_rfl
noncomputable abbrev seen1 (s : Shared) := openSeen qv loose1 (importedModules pg.main.body) Xt1 true s
noncomputable abbrev good1 := openGood qv loose1
theorem hd_s1 (w : World) (os : OsState) : (seen1 (eS w os)).1 = good1.1 := by
  unfold seen1
  rw [PySem.W.Fast.te4187177175401517315]
  kernel_rfl
theorem hd_s2 (w : World) (os : OsState) : (seen1 (eS w os)).2.1 = good1.2.1 := by
  unfold seen1
  rw [PySem.W.Fast.te4187177175401517315]
  kernel_rfl
theorem hd_s4 (w : World) (os : OsState) : (seen1 (eS w os)).2.2.1 = good1.2.2.1 := by
  unfold seen1
  rw [PySem.W.Fast.te4187177175401517315]
  kernel_rfl
theorem hd_s3 (w : World) (os : OsState) : (seen1 (eS w os)).2.2.2 = good1.2.2.2 := by
  unfold seen1
  rw [PySem.W.Fast.te4187177175401517315]
  kernel_rfl
noncomputable def K1 (P : Params) : Frag := [
(3, o_613 P), (72, o_111 P), (71, o_110 P), (79, o_118 P), (78, o_117 P), (93, o_132 P), (92, o_131 P), (100, o_139 P), (99, o_138 P), (276, o_319 P), (275, o_318 P), (283, o_326 P), (282, o_325 P), (290, o_335 P), (289, o_334 P), (297, o_342 P), (296, o_341 P), (330, o_375 P), (329, o_374 P), (335, o_380 P), (334, o_379 P), (350, o_395 P), (349, o_394 P), (357, o_402 P), (356, o_401 P), (364, o_409 P), (363, o_408 P), (392, o_439 P), (391, o_438 P), (399, o_446 P), (398, o_445 P), (406, o_453 P), (405, o_452 P), (413, o_460 P), (412, o_459 P), (420, o_467 P), (419, o_466 P), (434, o_483 P), (433, o_482 P), (441, o_490 P), (440, o_489 P), (455, o_504 P), (454, o_503 P), (470, o_519 P), (469, o_518 P), (477, o_526 P), (476, o_525 P), (484, o_533 P), (483, o_532 P), (343, o_388 P), (342, o_387 P), (336, o_381 P), (568, o_621 P), (567, o_620 P), (575, o_628 P), (574, o_627 P), (582, o_635 P), (581, o_634 P), (589, o_642 P), (588, o_641 P), (594, o_647 P), (593, o_646 P), (599, o_652 P), (598, o_651 P), (606, o_659 P), (605, o_658 P), (611, o_664 P), (610, o_663 P), (262, o_305 P), (261, o_304 P), (378, o_425 P), (377, o_424 P), (512, o_563 P), (511, o_562 P), (519, o_570 P), (518, o_569 P), (526, o_577 P), (525, o_576 P), (533, o_584 P), (532, o_583 P), (540, o_591 P), (539, o_590 P), (554, o_605 P), (553, o_604 P), (265, o_308 P), (264, o_307 P), (381, o_428 P), (380, o_427 P), (557, o_608 P), (556, o_607 P), (463, o_512 P)]
noncomputable def as1 : List Addr := [3, 72, 71, 79, 78, 93, 92, 100, 99, 276, 275, 283, 282, 290, 289, 297, 296, 330, 329, 335, 334, 350, 349, 357, 356, 364, 363, 392, 391, 399, 398, 406, 405, 413, 412, 420, 419, 434, 433, 441, 440, 455, 454, 470, 469, 477, 476, 484, 483, 343, 342, 336, 568, 567, 575, 574, 582, 581, 589, 588, 594, 593, 599, 598, 606, 605, 611, 610, 262, 261, 378, 377, 512, 511, 519, 518, 526, 525, 533, 532, 540, 539, 554, 553, 265, 264, 381, 380, 557, 556, 463]
theorem hd_K (w : World) (os : OsState) : as1.map (eS w os).heap.get? = (K1 w.params).map fun p => some p.2 := by kernel_rfl
end
-- HE1
section
set_option maxHeartbeats 0
theorem topFrom_of {tb : String → Option Builtin} {p : Program} {w : World} {N m₀ : Nat} {ann : Option Value} {s₀ r : Shared} (z1 : (s₀.heap.isNs mainGlobals && s₀.gens.size == 0) = true) (z2 : s₀.heap.objs.size = m₀) (z3 : s₀.heap.nsMap mainGlobals "__annotations__" = ann)
    (top : topRun tb p w m₀ ann N s₀ (topStub p) = some r) (f2 : (staticsOk (importedModules p.main.body) s₀.heap r.heap && namesBound p r.heap && gensDone r && laidKept s₀.heap r.heap) = true) : topFrom tb p w N s₀ = some r := by
  unfold topFrom
  rw [z1, z2, z3]
  show (topRun tb p w m₀ ann N s₀ (topStub p)).bind _ = _
  rw [top]
  show (match staticsOk (importedModules p.main.body) s₀.heap r.heap && namesBound p r.heap && gensDone r && laidKept s₀.heap r.heap with | true => _ | false => _) = _
  rw [f2]
theorem openEnds_of {tb : String → Option Builtin} {p : Program} {w : World} {N : Nat} {s₀ r : Shared} (e : fencedOpening tb p w N = some s₀) (t : topFrom tb p w N s₀ = some r) : openEnds tb p w N = some r := by
  unfold openEnds
  rw [e]
  exact t
theorem ends_map {α β : Type} {o : Option Shared} {r : Shared} {F : Shared → α} {G : Shared → β} {a : α} {b : β} (t : o = some r) (g2 : F r = a) (g3 : G r = b) : o.map (fun s => (F s, G s)) = some (a, b) := by
  rw [t, ← g2, ← g3]; rfl
noncomputable abbrev NN : Nat := 12 + (1 + (397 + (397 + (391 + (371 + (384 + (393 + (388 + (431 + (256 + 2))))))))))
theorem hd_zero (P : Params) : ((boot_heap P).isNs mainGlobals && (Array.mk [] : Array GenState).size == 0, (boot_heap P).objs.size, (boot_heap P).nsMap mainGlobals "__annotations__") = (true, 11, ann0) := by kernel_rfl
theorem hd_pcs : pc 0 7 ++ (pc 7 15 ++ (pc 22 13 ++ (pc 35 7 ++ (pc 42 13 ++ (pc 55 6 ++ (pc 61 13 ++ (pc 74 1 ++ (pc 75 9)))))))) = B0 := by kernel_rfl
theorem hd_top (w : World) (os : OsState) : topRun treeTable pg w 11 ann0 NN ⟨boot_heap w.params, Array.mk [], boot_drawn, boot_toks, os⟩ (topStub pg) = some (eS w os) := by
  have a := piece_app (rest := []) (segRun_of (congrFun (hd_p9 w) os)) (piece_nil (congrFun (hd_end w) os))
  rw [List.append_nil] at a
  replace a := piece_app (segRun_of (congrFun (hd_p8 w) os)) a
  replace a := piece_app (segRun_of (congrFun (hd_p7 w) os)) a
  replace a := piece_app (segRun_of (congrFun (hd_p6 w) os)) a
  replace a := piece_app (segRun_of (congrFun (hd_p5 w) os)) a
  replace a := piece_app (segRun_of (congrFun (hd_p4 w) os)) a
  replace a := piece_app (segRun_of (congrFun (hd_p3 w) os)) a
  replace a := piece_app (segRun_of (congrFun (hd_p2 w) os)) a
  replace a := piece_app (segRun_of (congrFun (hd_p1 w) os)) a
  rw [hd_pcs] at a
  exact go_top (congrFun (hd_pre w) os) (piece_block (congrFun (hd_block w) os) a)
theorem hd_seen (w : World) (os : OsState) : seen1 (eS w os) = good1 := Prod.ext (hd_s1 w os) (Prod.ext (hd_s2 w os) (Prod.ext (hd_s4 w os) (hd_s3 w os)))
theorem left1 {α : Type} {Yf : Shared → α} {Ya : World → α} (hK : ∀ (w : World) (os : OsState), Yf (eS w os) = Ya w) : LeftO pg qv loose1 Xt1 Yf Ya NN := by
  intro w
  obtain ⟨⟨h, gs, d, k, os⟩, e, e'⟩ := Option.map_eq_some_iff.mp (boot_open (p := pg) (N := NN) rfl rfl (fun _ => rfl) w)
  obtain ⟨rfl, rfl, rfl, rfl⟩ : h = boot_heap w.params ∧ gs = Array.mk [] ∧ d = boot_drawn ∧ k = boot_toks := by simpa using e'
  have hz := hd_zero w.params
  rw [Prod.mk.injEq, Prod.mk.injEq] at hz
  exact ends_map (openEnds_of e (topFrom_of hz.1 hz.2.1 hz.2.2 (hd_top w os) (hd_stat w os))) (hd_seen w os) (hK w os)
theorem hd_said : PySem.Challenge.rw_sm0007_01.wellSaid = true := by kernel_rfl
end
-- C0

/-- abstract values -/
inductive V where
  | none
  | bool (b : Bool)
  | int (i : Int)
  | str (s : Str)
  | tup (xs : List V)
  | lst (xs : List V)
  | ref (k : Nat)
  | raw (v : Value)
  deriving Inhabited

set_option genSizeOf false in
inductive Cell where
  | list (xs : List V)
  | dictS (f : Str → Option V)
  | dictI (f : Int → Option V)
  | inst (C : Addr) (n : Nat) (f : Str → Option V)

noncomputable abbrev Sto := Nat → Option Cell
/-- where the cells stand; what is hidden -/
noncomputable abbrev AMap := (Nat → Option (Addr × Addr)) × (Addr → Prop)

noncomputable def upd (σ : Sto) (k : Nat) (c : Cell) : Sto := fun j => if j = k then some c else σ j
@[simp] theorem upd_self (σ : Sto) (k : Nat) (c : Cell) : upd σ k c k = some c := by simp [upd]
theorem upd_ne {σ : Sto} {k j : Nat} {c : Cell} (h : j ≠ k) : upd σ k c j = σ j := by simp [upd, h]
theorem upd_upd (σ : Sto) (k : Nat) (c c' : Cell) : upd (upd σ k c) k c' = upd σ k c' := by
  funext j; by_cases h : j = k <;> simp [upd, h]

noncomputable def Frz (μ : AMap) (a : Addr) : Prop := (∀ k p, μ.1 k = some p → a ≠ p.1 ∧ a ≠ p.2) ∧ ¬ μ.2 a

noncomputable abbrev tupO (vs : Array Value) (n : Nat) : Obj := ⟨.type "tuple", none, .seq vs n, #[]⟩
noncomputable abbrev lstO (vs : Array Value) (n : Nat) : Obj := ⟨.type "list", none, .seq vs n, #[]⟩

mutual
inductive VR (h : Heap) (μ : AMap) : V → Value → Prop
  | none : VR h μ .none .none
  | bool (b : Bool) : VR h μ (.bool b) (.bool b)
  | int (i : Int) (t : Tok) : VR h μ (.int i) (.int i t)
  | str (s : Str) (t : Tok) : VR h μ (.str s) (.str s t)
  | raw (v : Value) : VR h μ (.raw v) v
  | ref {k : Nat} {p : Addr × Addr} : μ.1 k = some p → VR h μ (.ref k) (.ref p.1)
  | tup {a : Addr} {vs : List Value} {n : Nat} {xs : List V} : h.get? a = some (tupO vs.toArray n) → Frz μ a → VRs h μ xs vs → VR h μ (.tup xs) (.ref a)
  | lst {a : Addr} {vs : List Value} {n : Nat} {xs : List V} : h.get? a = some (lstO vs.toArray n) → Frz μ a → VRs h μ xs vs → VR h μ (.lst xs) (.ref a)
inductive VRs (h : Heap) (μ : AMap) : List V → List Value → Prop
  | nil : VRs h μ [] []
  | cons {x : V} {v : Value} {xs : List V} {vs : List Value} : VR h μ x v → VRs h μ xs vs → VRs h μ (x :: xs) (v :: vs)
end

set_option genInjectivity false in
set_option genSizeOf false in
structure Step (X : Addr → Prop) (μ μ' : AMap) (s s' : Shared) : Prop where
  keep : ∀ b o, Frz μ b → ¬ X b → s.heap.get? b = some o → s'.heap.get? b = some o
  seq : ∀ b c vs n, Frz μ b → s.heap.get? b = some ⟨c, none, .seq vs n, #[]⟩ → s'.heap.get? b = some ⟨c, none, .seq vs n, #[]⟩
  live : ∀ b o, s.heap.get? b = some o → ∃ o', s'.heap.get? b = some o'
  ext : ∀ k p, μ.1 k = some p → μ'.1 k = some p
  new : ∀ k p, μ'.1 k = some p → μ.1 k = none → s.heap.get? p.1 = none ∧ s.heap.get? p.2 = none
  hid : μ'.2 = μ.2
  hkeep : ∀ b o, μ.2 b → s.heap.get? b = some o → s'.heap.get? b = some o
  gens : s'.gens = s.gens
  os : s'.os = s.os

theorem get_ne {h : Heap} {a b : Addr} {o : Obj} (hb : h.get? b = some o) (ha : h.get? a = none) : b ≠ a := fun e => nomatch (ha.symm.trans (e ▸ hb) : none = some o)
theorem Step.which {X : Addr → Prop} {μ μ' : AMap} {s s' : Shared} (st : Step X μ μ' s s') {k : Nat} {p : Addr × Addr} (hp : μ'.1 k = some p) : μ.1 k = some p ∨ (s.heap.get? p.1 = none ∧ s.heap.get? p.2 = none) := by
  cases hk : μ.1 k with
  | some q => exact .inl ((st.ext k q hk).symm.trans hp)
  | none => exact .inr (st.new k p hp hk)
theorem Step.back {X : Addr → Prop} {μ μ' : AMap} {s s' : Shared} (st : Step X μ μ' s s') {a : Addr} (h : s'.heap.get? a = none) : s.heap.get? a = none := by
  cases e : s.heap.get? a with
  | none => rfl
  | some o => exact (st.live a o e).elim fun o' e' => nomatch (h.symm.trans e' : none = some o')
theorem Step.frz {X : Addr → Prop} {μ μ' : AMap} {s s' : Shared} (st : Step X μ μ' s s') {b : Addr} {o : Obj} (hb : s.heap.get? b = some o) (hf : Frz μ b) : Frz μ' b :=
  ⟨fun k p hp => (st.which hp).elim (hf.1 k p) fun n => ⟨get_ne hb n.1, get_ne hb n.2⟩, st.hid ▸ hf.2⟩

theorem Step.refl (X : Addr → Prop) (μ : AMap) (s : Shared) : Step X μ μ s s :=
  ⟨fun _ _ _ _ h => h, fun _ _ _ _ _ h => h, fun _ o h => ⟨o, h⟩, fun _ _ h => h, fun _ _ h h' => (nomatch (h.symm.trans h')), rfl, fun _ _ _ h => h, rfl, rfl⟩

theorem Step.trans {X : Addr → Prop} {μ μ' μ'' : AMap} {s s' s'' : Shared} (a : Step X μ μ' s s') (b : Step X μ' μ'' s' s'') : Step X μ μ'' s s'' where
  keep := fun x o hf hx h => b.keep x o (a.frz h hf) hx (a.keep x o hf hx h)
  seq := fun x c vs n hf h => b.seq x c vs n (a.frz h hf) (a.seq x c vs n hf h)
  live := fun x o h => (a.live x o h).elim (b.live x)
  ext := fun k p h => b.ext k p (a.ext k p h)
  new := fun k p h h0 => (b.which h).elim (fun h' => a.new k p h' h0) fun n => ⟨a.back n.1, a.back n.2⟩
  hid := b.hid.trans a.hid
  hkeep := fun x o hx h => b.hkeep x o (a.hid ▸ hx) (a.hkeep x o hx h)
  gens := b.gens.trans a.gens
  os := b.os.trans a.os

theorem Step.mono {X Y : Addr → Prop} {μ μ' : AMap} {s s' : Shared} (a : Step X μ μ' s s') (h : ∀ b, X b → Y b) : Step Y μ μ' s s' :=
  { a with keep := fun b o hf hy e => a.keep b o hf (fun x => hy (h b x)) e }

/-- what carries values over -/
noncomputable def Kp (h h' : Heap) (μ μ' : AMap) : Prop := (∀ b c vs n, Frz μ b → h.get? b = some ⟨c, Option.none, .seq vs n, #[]⟩ → h'.get? b = some ⟨c, Option.none, .seq vs n, #[]⟩ ∧ Frz μ' b) ∧ ∀ k p, μ.1 k = some p → μ'.1 k = some p
theorem Step.kp {X : Addr → Prop} {μ μ' : AMap} {s s' : Shared} (st : Step X μ μ' s s') : Kp s.heap s'.heap μ μ' := ⟨fun b c vs n f e => ⟨st.seq b c vs n f e, st.frz e f⟩, st.ext⟩
theorem Kp.of {h h' : Heap} {μ μ' : AMap} (hk : ∀ b o, h.get? b = some o → Frz μ b → h'.get? b = some o ∧ Frz μ' b) (he : ∀ k p, μ.1 k = some p → μ'.1 k = some p) : Kp h h' μ μ' := ⟨fun _ _ _ _ f e => hk _ _ e f, he⟩
theorem Kp.all {h h' : Heap} {μ : AMap} (k : ∀ b o, h.get? b = some o → h'.get? b = some o) : Kp h h' μ μ := ⟨fun _ _ _ _ f e => ⟨k _ _ e, f⟩, fun _ _ e => e⟩
theorem Kp.but {h h' : Heap} {μ : AMap} {X : Addr → Prop} (k : ∀ b o, ¬ X b → h.get? b = some o → h'.get? b = some o) (nf : ∀ b, X b → Frz μ b → ∀ C d vs n sl, h.get? b ≠ some ⟨C, d, .seq vs n, sl⟩) : Kp h h' μ μ :=
  ⟨fun _ _ _ _ f e => ⟨k _ _ (fun hb => nf _ hb f _ _ _ _ _ e) e, f⟩, fun _ _ e => e⟩
theorem VRs.at {h h' : Heap} {μ μ' : AMap} (K : Kp h h' μ μ')
    {x : List V} {v : List Value} (r : VRs h μ x v) : VRs h' μ' x v :=
  VRs.rec (motive_1 := fun x v _ => VR h' μ' x v) (motive_2 := fun x v _ => VRs h' μ' x v) .none .bool .int .str .raw (fun e => .ref (K.2 _ _ e)) (fun e f _ ih => .tup (K.1 _ _ _ _ f e).1 (K.1 _ _ _ _ f e).2 ih) (fun e f _ ih => .lst (K.1 _ _ _ _ f e).1 (K.1 _ _ _ _ f e).2 ih) .nil (fun _ _ a b => .cons a b) r
theorem VRs.ind {h : Heap} {μ : AMap} {P : List V → List Value → Prop} (hn : P [] []) (hc : ∀ {x v xs vs}, VR h μ x v → VRs h μ xs vs → P xs vs → P (x :: xs) (v :: vs)) {xs : List V} {vs : List Value} (r : VRs h μ xs vs) : P xs vs :=
  VRs.rec (motive_1 := fun _ _ _ => True) (motive_2 := fun xs vs _ => P xs vs) trivial (fun _ => trivial) (fun _ _ => trivial) (fun _ _ => trivial) (fun _ => trivial) (fun _ => trivial) (fun _ _ _ _ => trivial) (fun _ _ _ _ => trivial) hn (fun a b _ ih => hc a b ih) r
theorem VRs.heads' {h : Heap} {μ : AMap} {x : V} {xs : List V} {vs : List Value} (r : VRs h μ (x :: xs) vs) : ∃ v ws, vs = v :: ws ∧ VR h μ x v ∧ VRs h μ xs ws :=
  VRs.ind (P := fun l vs => l = x :: xs → ∃ v ws, vs = v :: ws ∧ VR h μ x v ∧ VRs h μ xs ws) (fun e => nomatch e) (fun a b _ e => ⟨_, _, rfl, (List.cons.inj e).1 ▸ a, (List.cons.inj e).2 ▸ b⟩) r rfl
theorem VRs.nil' {h : Heap} {μ : AMap} {vs : List Value} (r : VRs h μ [] vs) : vs = [] :=
  VRs.ind (P := fun l vs => l = [] → vs = []) (fun _ => rfl) (fun _ _ _ e => nomatch e) r rfl
theorem VRs.one {h : Heap} {μ : AMap} {x : V} {vs : List Value} (r : VRs h μ [x] vs) : ∃ v, vs = [v] ∧ VR h μ x v := r.heads'.imp fun v q => q.elim fun ws q => ⟨q.1.trans (congrArg (v :: ·) q.2.2.nil'), q.2.1⟩
theorem VRs.two {h : Heap} {μ : AMap} {x y : V} {vs : List Value} (r : VRs h μ [x, y] vs) : ∃ v w, vs = [v, w] ∧ VR h μ x v ∧ VR h μ y w := r.heads'.imp fun v q => q.elim fun ws q => q.2.2.one.imp fun w z => ⟨q.1.trans (congrArg (v :: ·) z.1), q.2.1, z.2⟩
theorem VRs.three {h : Heap} {μ : AMap} {x y z : V} {vs : List Value} (r : VRs h μ [x, y, z] vs) : ∃ u v w, vs = [u, v, w] ∧ VR h μ x u ∧ VR h μ y v ∧ VR h μ z w := r.heads'.imp fun v q => q.elim fun ws q => q.2.2.two.imp fun w z => z.imp fun w z => ⟨q.1.trans (congrArg (v :: ·) z.1), q.2.1, z.2⟩
theorem VR.at {h h' : Heap} {μ μ' : AMap} (K : Kp h h' μ μ')
    {x : V} {v : Value} (r : VR h μ x v) : VR h' μ' x v := by
  obtain ⟨_, _, e, a, _⟩ := (VRs.at K (VRs.cons r .nil)).heads'
  exact (List.cons.inj e).1 ▸ a
noncomputable def VR.Inv (h : Heap) (μ : AMap) (v : Value) : V → Prop
  | .none => v = .none
  | .bool b => v = .bool b
  | .int i => ∃ t, v = .int i t
  | .str x => ∃ t, v = .str x t
  | .raw u => v = u
  | .ref k => ∃ p, v = .ref p.1 ∧ μ.1 k = some p
  | .tup xs => ∃ a vs n, v = .ref a ∧ h.get? a = some (tupO (List.toArray vs) n) ∧ Frz μ a ∧ VRs h μ xs vs
  | .lst xs => ∃ a vs n, v = .ref a ∧ h.get? a = some (lstO (List.toArray vs) n) ∧ Frz μ a ∧ VRs h μ xs vs
theorem VR.inv {h : Heap} {μ : AMap} {x : V} {v : Value} (r : VR h μ x v) : VR.Inv h μ v x :=
  VR.rec (motive_1 := fun x v _ => VR.Inv h μ v x) (motive_2 := fun _ _ _ => True) rfl (fun _ => rfl) (fun _ _ => ⟨_, rfl⟩) (fun _ _ => ⟨_, rfl⟩) (fun _ => rfl) (fun e => ⟨_, rfl, e⟩) (fun e f r _ => ⟨_, _, _, rfl, e, f, r⟩) (fun e f r _ => ⟨_, _, _, rfl, e, f, r⟩) trivial (fun _ _ _ _ => trivial) r
section
variable {h : Heap} {μ : AMap} {v : Value}
theorem VR.none' (r : VR h μ .none v) : v = .none := r.inv
theorem VR.bool' {b : Bool} (r : VR h μ (.bool b) v) : v = .bool b := r.inv
theorem VR.int' {i : Int} (r : VR h μ (.int i) v) : ∃ t, v = .int i t := r.inv
theorem VR.str' {x : Str} (r : VR h μ (.str x) v) : ∃ t, v = .str x t := r.inv
theorem VR.raw' {u : Value} (r : VR h μ (.raw u) v) : v = u := r.inv
theorem VR.ref' {k : Nat} (r : VR h μ (.ref k) v) : ∃ p, v = .ref p.1 ∧ μ.1 k = some p := r.inv
theorem VR.tup' {xs : List V} (r : VR h μ (.tup xs) v) : ∃ a vs n, v = .ref a ∧ h.get? a = some (tupO (List.toArray vs) n) ∧ Frz μ a ∧ VRs h μ xs vs := r.inv
theorem VR.lst' {xs : List V} (r : VR h μ (.lst xs) v) : ∃ a vs n, v = .ref a ∧ h.get? a = some (lstO (List.toArray vs) n) ∧ Frz μ a ∧ VRs h μ xs vs := r.inv
end
theorem VR.step {X : Addr → Prop} {μ μ' : AMap} {s s' : Shared} (st : Step X μ μ' s s') {x : V} {v : Value} (r : VR s.heap μ x v) : VR s'.heap μ' x v :=
  r.at st.kp
theorem VRs.step {X : Addr → Prop} {μ μ' : AMap} {s s' : Shared} (st : Step X μ μ' s s') {x : List V} {v : List Value} (r : VRs s.heap μ x v) : VRs s'.heap μ' x v :=
  r.at st.kp

section
variable {h : Heap} {μ : AMap} {xs ys : List V} {vs ws : List Value} {x : V} {v : Value} {i n : Nat}
theorem VRs.length (r : VRs h μ xs vs) : xs.length = vs.length := VRs.ind (P := fun xs vs => xs.length = vs.length) rfl (fun _ _ ih => congrArg (· + 1) ih) r
theorem VRs.get (r : VRs h μ xs vs) : xs[i]? = some x → ∃ v, vs[i]? = some v ∧ VR h μ x v :=
  VRs.ind (P := fun xs vs => ∀ i, xs[i]? = some x → ∃ v, vs[i]? = some v ∧ VR h μ x v) (fun i e => nomatch (List.getElem?_nil.symm.trans e : Option.none = some x)) (fun a _ ih i => Nat.rec (fun e => ⟨_, rfl, Option.some.inj e ▸ a⟩) (fun i _ e => ih i e) i) r i
theorem VRs.append (r : VRs h μ xs vs) (q : VRs h μ ys ws) : VRs h μ (xs ++ ys) (vs ++ ws) := VRs.ind (P := fun xs vs => VRs h μ (xs ++ ys) (vs ++ ws)) q (fun a _ ih => .cons a ih) r
theorem VRs.take (n : Nat) (r : VRs h μ xs vs) : VRs h μ (xs.take n) (vs.take n) :=
  VRs.ind (P := fun xs vs => ∀ n, VRs h μ (xs.take n) (vs.take n)) (fun n => by rw [List.take_nil, List.take_nil]; exact .nil) (fun a _ ih n => Nat.rec .nil (fun n _ => .cons a (ih n)) n) r n
theorem VRs.drop (n : Nat) (r : VRs h μ xs vs) : VRs h μ (xs.drop n) (vs.drop n) :=
  VRs.ind (P := fun xs vs => ∀ n, VRs h μ (xs.drop n) (vs.drop n)) (fun n => by rw [List.drop_nil, List.drop_nil]; exact .nil) (fun a b ih n => Nat.rec (.cons a b) (fun n _ => ih n) n) r n
theorem VRs.set (r : VRs h μ xs vs) (a : VR h μ x v) : VRs h μ (xs.set i x) (vs.set i v) :=
  VRs.ind (P := fun xs vs => ∀ i, VRs h μ (xs.set i x) (vs.set i v)) (fun _ => .nil) (fun b r ih i => Nat.rec (.cons a r) (fun i _ => .cons b (ih i)) i) r i
end

set_option genInjectivity false in
set_option genSizeOf false in
structure Ctx where
  prog : Program
  w : World
  K : Frag
  H0 : Heap
  mg : Str → Option Value
  mb : Str → Option Value
  X : K.In H0
  g : H0.Ns mainGlobals mg
  b : H0.Ns builtinsNs mb
  nolimit : H0.NoLimit
  builtins : ∀ x : Str, x ≠ "__name__" → mb x = bootBuiltins x
  last : ∃ o, H0.get? (H0.objs.size - 1) = some o

noncomputable abbrev Ctx.M (c : Ctx) : Model := model c.prog c.w

noncomputable def OR (h : Heap) (μ : AMap) (a : Option V) (b : Option Value) : Prop := match a, b with
  | some x, some v => VR h μ x v
  | none, none => True
  | _, _ => False

noncomputable def CR (c : Ctx) (h : Heap) (μ : AMap) : Cell → Addr × Addr → Prop
  | .list xs, p => p.1 = p.2 ∧ ∃ vs n, h.get? p.1 = some (lstO vs n) ∧ VRs h μ xs vs.toList
  | .dictS f, p => p.1 = p.2 ∧ ∃ g, h.DictOf (strKind c.prog c.w) p.1 g ∧ ∀ k, OR h μ (f k) (valueAt g k)
  | .dictI f, p => p.1 = p.2 ∧ ∃ g, h.DictOf (intKind c.prog c.w) p.1 g ∧ ∀ k, OR h μ (f k) (valueAt g k)
  | .inst C k f, p => h.get? p.1 = some ⟨.ref C, some p.2, .plain, #[]⟩ ∧ ∃ es n, h.get? p.2 = some (dictOf es n) ∧ StrKeys es.toArray ∧ es.length ≤ k ∧ ∀ x, OR h μ (f x) (nsFind es.toArray x)

set_option genInjectivity false in
set_option genSizeOf false in
structure HR (c : Ctx) (h : Heap) (μ : AMap) (σ : Sto) : Prop where
  base : ∀ b o, c.H0.get? b = some o → h.get? b = some o
  dom : ∀ k, σ k = none ↔ μ.1 k = none
  inj : ∀ k j p q, μ.1 k = some p → μ.1 j = some q → k ≠ j → p.1 ≠ q.1 ∧ p.1 ≠ q.2 ∧ p.2 ≠ q.1 ∧ p.2 ≠ q.2
  above : ∀ k p, μ.1 k = some p → c.H0.objs.size ≤ p.1 ∧ c.H0.objs.size ≤ p.2
  cell : ∀ k x p, σ k = some x → μ.1 k = some p → CR c h μ x p
  fin : ∃ n, ∀ k, n ≤ k → μ.1 k = none
  hid : ∀ b, μ.2 b → (∃ o, h.get? b = some o) ∧ c.H0.get? b = none ∧ ∀ k p, μ.1 k = some p → b ≠ p.1 ∧ b ≠ p.2

theorem OR.at {h h' : Heap} {μ μ' : AMap} (K : Kp h h' μ μ') {x : Option V} {v : Option Value} (r : OR h μ x v) : OR h' μ' x v := by
  cases x <;> cases v <;> first | exact r | exact VR.at K r
theorem MapOf.at {prog : Program} {w : World} {T : Type} [DecidableEq T] {knd : KeyKind prog w T} {h h' : Heap} {a : Addr} {f : List (T × Value)} (x : h.DictOf knd a f) (k : ∀ o, h.get? a = some o → h'.get? a = some o) : h'.DictOf knd a f :=
  Exists.imp (fun _ => Exists.imp fun _ => Exists.imp fun _ q => ⟨k _ q.1, q.2⟩) x
theorem CR.at {c : Ctx} {h h' : Heap} {μ μ' : AMap} (K : Kp h h' μ μ') {x : Cell} {p : Addr × Addr} (h1 : ∀ o, h.get? p.1 = some o → h'.get? p.1 = some o) (h2 : ∀ o, h.get? p.2 = some o → h'.get? p.2 = some o) (r : CR c h μ x p) : CR c h' μ' x p := by
  cases x with
  | list => exact ⟨r.1, r.2.imp fun _ => Exists.imp fun _ q => ⟨h1 _ q.1, q.2.at K⟩⟩
  | dictS => exact ⟨r.1, r.2.imp fun _ q => ⟨MapOf.at q.1 h1, fun k => (q.2 k).at K⟩⟩
  | dictI => exact ⟨r.1, r.2.imp fun _ q => ⟨MapOf.at q.1 h1, fun k => (q.2 k).at K⟩⟩
  | inst => exact ⟨h1 _ r.1, r.2.imp fun _ => Exists.imp fun _ q => ⟨h2 _ q.1, q.2.1, q.2.2.1, fun k => (q.2.2.2 k).at K⟩⟩
theorem IsCell.keep {h h' : Heap} {a : Addr} {v : Option Value} (n : h.IsCell a v) (k : ∀ o, h.get? a = some o → h'.get? a = some o) : h'.IsCell a v := Exists.imp (fun _ q => ⟨k _ q.1, q.2⟩) n
theorem Ns.keep' {h h' : Heap} {a : Addr} {m : Str → Option Value} (n : h.Ns a m) (k : ∀ o, h.get? a = some o → h'.get? a = some o) : h'.Ns a m := Exists.imp (fun _ => Exists.imp fun _ => Exists.imp fun _ q => ⟨k _ q.1, q.2⟩) n
theorem H0_none {c : Ctx} {a : Addr} (h : c.H0.objs.size ≤ a) : c.H0.get? a = none := by
  cases e : c.H0.get? a with
  | none => rfl
  | some o => exact absurd (Heap.lt_size e) (Nat.not_lt.mpr h)
theorem HR.fresh {c : Ctx} {h : Heap} {μ : AMap} {σ : Sto} (r : HR c h μ σ) (k : Nat) (p : Addr × Addr) (hp : μ.1 k = some p) : c.H0.get? p.1 = none ∧ c.H0.get? p.2 = none :=
  ⟨H0_none (r.above k p hp).1, H0_none (r.above k p hp).2⟩

/-- the variables of a frame: a list, the first hit counts -/
noncomputable abbrev Loc := List (Str × V)

set_option genInjectivity false in
set_option genSizeOf false in
structure FR (c : Ctx) (env : Env) (lk : Loc) (h : Heap) (μ : AMap) : Prop where
  kind : env.scope.kind = .function
  globals : env.globals = mainGlobals
  builtins : env.builtins = builtinsNs
  above : c.H0.objs.size ≤ env.locals
  frzL : Frz μ env.locals
  ns : ∃ m, h.Ns env.locals m ∧ ∀ x y, env.kindOf x = some .local → lk.lookup x = some y → ∃ v, m x = some v ∧ VR h μ y v
  cell : ∀ x a, env.cells.lookup x = some a → a ≠ env.locals ∧ Frz μ a ∧ c.H0.get? a = none ∧ ∃ v, h.IsCell a v ∧ ∀ y, (env.kindOf x = some .cell ∨ env.kindOf x = some .free) → lk.lookup x = some y → ∃ u, v = some u ∧ VR h μ y u
  cells : ∀ x, env.kindOf x = some .cell ∨ env.kindOf x = some .free → ∃ a, env.cells.lookup x = some a
  apart : ∀ x y a b, env.cells.lookup x = some a → env.cells.lookup y = some b → x ≠ y → a ≠ b

noncomputable def own (env : Env) (b : Addr) : Prop := b = env.locals ∨ ∃ x, env.cells.lookup x = some b
theorem FR.at {c : Ctx} {env : Env} {lk : Loc} {h h' : Heap} {μ μ' : AMap} (K : Kp h h' μ μ') (k : ∀ a o, own env a → Frz μ a → h.get? a = some o → h'.get? a = some o ∧ Frz μ' a) (f : FR c env lk h μ) : FR c env lk h' μ' where
  kind := f.kind
  globals := f.globals
  builtins := f.builtins
  above := f.above
  frzL := f.ns.elim fun _ q => q.1.elim fun o z => z.elim fun _ z => z.elim fun _ z => (k _ o (.inl rfl) f.frzL z.1).2
  ns := f.ns.imp fun _ q => ⟨Ns.keep' q.1 fun o e => (k _ o (.inl rfl) f.frzL e).1, fun x y h1 h2 => (q.2 x y h1 h2).imp fun _ z => ⟨z.1, z.2.at K⟩⟩
  cell := fun x a ha => have z := f.cell x a ha
    ⟨z.1, z.2.2.2.elim fun _ q => q.1.elim fun o e => (k _ o (.inr ⟨x, ha⟩) z.2.1 e.1).2, z.2.2.1, z.2.2.2.imp fun _ q => ⟨IsCell.keep q.1 fun o e => (k _ o (.inr ⟨x, ha⟩) z.2.1 e).1, fun y h1 h2 => (q.2 y h1 h2).imp fun _ z => ⟨z.1, z.2.at K⟩⟩⟩
  cells := f.cells
  apart := f.apart
/-- changes at addresses that bear no cell -/
theorem HR.but {c : Ctx} {h h' : Heap} {μ : AMap} {σ : Sto} {X : Addr → Prop} (r : HR c h μ σ) (hX : ∀ b, X b → Frz μ b ∧ c.H0.get? b = none) (K : Kp h h' μ μ) (k : ∀ b o, ¬ X b → h.get? b = some o → h'.get? b = some o) : HR c h' μ σ where
  base := fun b o e => k b o (fun hb => nomatch ((hX b hb).2.symm.trans e : none = some o)) (r.base b o e)
  dom := r.dom
  inj := r.inj
  above := r.above
  cell := fun j x p hx hp => (r.cell j x p hx hp).at K (fun o => k _ o fun hb => ((hX _ hb).1.1 j p hp).1 rfl) fun o => k _ o fun hb => ((hX _ hb).1.1 j p hp).2 rfl
  fin := r.fin
  hid := fun b hb => ⟨(r.hid b hb).1.imp fun o => k b o fun hx => (hX b hx).1.2 hb, (r.hid b hb).2⟩
theorem Step.but {X Y : Addr → Prop} {μ : AMap} {s s' : Shared} (K : Kp s.heap s'.heap μ μ) (k : ∀ b o, ¬ Y b → s.heap.get? b = some o → s'.heap.get? b = some o) (hl : ∀ b, Y b → ∃ o, s'.heap.get? b = some o) (hX : ∀ b, Y b → Frz μ b → X b) (hh : ∀ b, μ.2 b → ¬ Y b)
    (hg : s'.gens = s.gens) (ho : s'.os = s.os) : Step X μ μ s s' where
  keep := fun b o f x e => k b o (fun y => x (hX b y f)) e
  seq := fun b c vs n f e => (K.1 b c vs n f e).1
  live := fun b o e => (Classical.em (Y b)).elim (hl b) fun n => ⟨o, k b o n e⟩
  ext := fun _ _ e => e
  new := fun _ _ h h' => nomatch (h.symm.trans h')
  hid := rfl
  hkeep := fun b o hb e => k b o (hh b hb) e
  gens := hg
  os := ho

-- C1

theorem Ctx.size {c : Ctx} {h : Heap} (b : ∀ b o, c.H0.get? b = some o → h.get? b = some o) : c.H0.objs.size ≤ h.objs.size := c.last.elim fun _ ho => Nat.le_of_pred_lt (Heap.lt_size (b _ _ ho))

theorem HR.size {c : Ctx} {h : Heap} {μ : AMap} {σ : Sto} (r : HR c h μ σ) : c.H0.objs.size ≤ h.objs.size := Ctx.size r.base
theorem HR.K {c : Ctx} {h : Heap} {μ : AMap} {σ : Sto} (r : HR c h μ σ) : c.K.In h := c.X.keeps r.base
theorem HR.nolimit {c : Ctx} {h : Heap} {μ : AMap} {σ : Sto} (r : HR c h μ σ) : h.NoLimit := c.nolimit.keeps r.base

theorem HR.get {c : Ctx} {h : Heap} {μ : AMap} {σ : Sto} (r : HR c h μ σ) {k : Nat} {x : Cell} (hk : σ k = some x) : ∃ p, μ.1 k = some p ∧ CR c h μ x p := by
  cases hp : μ.1 k with
  | none => exact nomatch (hk.symm.trans ((r.dom k).mpr hp) : some x = none)
  | some p => exact ⟨p, rfl, r.cell k x p hk hp⟩

/-- an object of the base is frozen -/
theorem HR.frz0 {c : Ctx} {h : Heap} {μ : AMap} {σ : Sto} (r : HR c h μ σ) {b : Addr} {o : Obj} (e : c.H0.get? b = some o) : Frz μ b :=
  ⟨fun k p hk => ⟨get_ne e (r.fresh k p hk).1, get_ne e (r.fresh k p hk).2⟩, fun hh => nomatch ((r.hid b hh).2.1.symm.trans e : none = some o)⟩

theorem VR.lift {h h' : Heap} {μ μ' : AMap} (hk : ∀ b o, h.get? b = some o → Frz μ b → h'.get? b = some o ∧ Frz μ' b) (he : ∀ k p, μ.1 k = some p → μ'.1 k = some p) {x : V} {v : Value} (r : VR h μ x v) : VR h' μ' x v := r.at (.of hk he)
theorem VRs.lift {h h' : Heap} {μ μ' : AMap} (hk : ∀ b o, h.get? b = some o → Frz μ b → h'.get? b = some o ∧ Frz μ' b) (he : ∀ k p, μ.1 k = some p → μ'.1 k = some p) {x : List V} {v : List Value} (r : VRs h μ x v) : VRs h' μ' x v := r.at (.of hk he)

noncomputable def AOk (A : Around) (d : Nat) : Prop := A.handled = none ∧ A.depth + 2 * d < 990 ∧ A.units + 8 * d < 9800

theorem AOk.room {A : Around} {d : Nat} (h : AOk A d) : A.depth < recursionLimit := Nat.lt_of_le_of_lt (Nat.le_add_right _ _) (Nat.lt_trans h.2.1 (by decide : 990 < 1000))
theorem AOk.units {A : Around} {d : Nat} (h : AOk A d) : A.units < cLine := Nat.lt_of_le_of_lt (Nat.le_add_right _ _) (Nat.lt_trans h.2.2 (by decide : 9800 < 9900))
theorem AOk.mono {A : Around} {d d' : Nat} (h : AOk A d) (hd : d' ≤ d) : AOk A d' :=
  ⟨h.1, Nat.lt_of_le_of_lt (Nat.add_le_add_left (Nat.mul_le_mul_left 2 hd) _) h.2.1, Nat.lt_of_le_of_lt (Nat.add_le_add_left (Nat.mul_le_mul_left 8 hd) _) h.2.2⟩
theorem AOk.deeper {A : Around} {d : Nat} {env : Env} (h : AOk A (d + 1)) : AOk (A.deeper env) d :=
  ⟨h.1, Nat.lt_of_le_of_lt (Nat.le_of_eq (Nat.add_right_comm A.depth 1 (2 * d))) (Nat.lt_of_succ_lt h.2.1), Nat.lt_of_le_of_lt (Nat.le_of_eq (Nat.add_right_comm A.units 3 (8 * d))) (Nat.lt_of_le_of_lt (Nat.add_le_add_left (by decide : 3 ≤ 8) (A.units + 8 * d)) h.2.2)⟩

noncomputable def ValPost (c : Ctx) (env : Env) (lk : Loc) (μ : AMap) (s : Shared) (Q : V → Sto → Prop) (Qr : Value → Shared → Prop) : Prop :=
  ∀ v s' y σ' μ', Q y σ' → HR c s'.heap μ' σ' → FR c env lk s'.heap μ' → VR s'.heap μ' y v → Step (own env) μ μ' s s' → Qr v s'

/-- an expression, walked -/
noncomputable def Ok (c : Ctx) (d : Nat) (env : Env) (e : Expr) (lk : Loc) (σ : Sto) (Q : V → Sto → Prop) : Prop :=
  ∀ A s μ Qr Er, AOk A d → HR c s.heap μ σ → FR c env lk s.heap μ → ValPost c env lk μ s Q Qr → wpAny c.M A (eval e env) Qr Er s

/-- several, in order -/
noncomputable def OkL (c : Ctx) (d : Nat) (env : Env) (es : List Expr) (lk : Loc) (σ : Sto) (Q : List V → Sto → Prop) : Prop :=
  ∀ A s μ Qr Er pos, AOk A d → HR c s.heap μ σ → FR c env lk s.heap μ →
    (∀ vs s' ys σ' μ', Q ys σ' → HR c s'.heap μ' σ' → FR c env lk s'.heap μ' → VRs s'.heap μ' ys vs → Step (own env) μ μ' s s' → Qr vs s') →
    wpAny c.M A (spliced (backTo pos (starEach es env))) Qr Er s

/-- a test -/
noncomputable def OkT (c : Ctx) (d : Nat) (env : Env) (e : Expr) (lk : Loc) (σ : Sto) (Q : Bool → Sto → Prop) : Prop :=
  ∀ A s μ Qr Er, AOk A d → HR c s.heap μ σ → FR c env lk s.heap μ →
    (∀ b s' σ' μ', Q b σ' → HR c s'.heap μ' σ' → FR c env lk s'.heap μ' → Step (own env) μ μ' s s' → Qr b s') →
    wpAny c.M A (isTrue e env (eval e env)) Qr Er s

inductive Fl where
  | next | brk | cont
  | ret (y : V)

noncomputable def FlR (h : Heap) (μ : AMap) : Fl → Flow → Prop
  | .next, .next => True
  | .brk, .brk => True
  | .cont, .cont => True
  | .ret y, .ret v => VR h μ y v
  | _, _ => False

noncomputable def FlPost (c : Ctx) (env : Env) (μ : AMap) (s : Shared) (Q : Fl → Loc → Sto → Prop) (Qr : Flow → Shared → Prop) : Prop :=
  ∀ f s' fl lk' σ' μ', Q fl lk' σ' → HR c s'.heap μ' σ' → FR c env lk' s'.heap μ' → FlR s'.heap μ' fl f → Step (own env) μ μ' s s' → Qr f s'

noncomputable def OkX (c : Ctx) (d : Nat) (env : Env) (st : Stmt) (lk : Loc) (σ : Sto) (Q : Fl → Loc → Sto → Prop) : Prop :=
  ∀ A s μ Qr Er, AOk A d → HR c s.heap μ σ → FR c env lk s.heap μ → FlPost c env μ s Q Qr → wpAny c.M A (exec st env) Qr Er s

noncomputable def OkB (c : Ctx) (d : Nat) (env : Env) (sts : List Stmt) (lk : Loc) (σ : Sto) (Q : Fl → Loc → Sto → Prop) : Prop :=
  ∀ A s μ Qr Er, AOk A d → HR c s.heap μ σ → FR c env lk s.heap μ → FlPost c env μ s Q Qr → wpAny c.M A (execs sts env) Qr Er s

/-- a call -/
noncomputable def CallOk (c : Ctx) (d : Nat) (f : Value) (args : List V) (σ : Sto) (Q : V → Sto → Prop) : Prop :=
  ∀ A s μ vs Qr Er, AOk A d → HR c s.heap μ σ → VRs s.heap μ args vs →
    (∀ v s' y σ' μ', Q y σ' → HR c s'.heap μ' σ' → VR s'.heap μ' y v → Step (fun _ => False) μ μ' s s' → Qr v s') → wpAny c.M A (call f vs) Qr Er s

theorem CallOk.mono {c : Ctx} {d d' : Nat} {f : Value} {args : List V} {σ : Sto} {Q Q' : V → Sto → Prop} (h : CallOk c d f args σ Q) (hd : d ≤ d') (hQ : ∀ y σ', Q y σ' → Q' y σ') : CallOk c d' f args σ Q' :=
  fun A s μ vs Qr Er a r v q => h A s μ vs Qr Er (a.mono hd) r v fun v s' y σ' μ' hq => q v s' y σ' μ' (hQ _ _ hq)

theorem some_ne {β : Type} {z : Option β} {x y : β} (h : z = some x) (e : z = some y) : x = y := Option.some.inj (h.symm.trans e)
/-- a dict, a cell are no sequences -/
theorem Ns.no_seq {h : Heap} {a : Addr} {m : Str → Option Value} (n : h.Ns a m) {c d vs k sl} : h.get? a ≠ some ⟨c, d, .seq vs k, sl⟩ := fun e =>
  n.elim fun _ n => n.elim fun _ n => n.elim fun _ n => nomatch n.2.1.symm.trans (congrArg Obj.data (some_ne n.1 e))
theorem IsCell.no_seq {h : Heap} {a : Addr} {v : Option Value} (n : h.IsCell a v) {c d vs k sl} : h.get? a ≠ some ⟨c, d, .seq vs k, sl⟩ := fun e =>
  n.elim fun _ n => nomatch n.2.symm.trans (congrArg Obj.data (some_ne n.1 e))

/-- a frame over a step that does not touch it -/
theorem FR.step0 {c : Ctx} {env : Env} {lk : Loc} {μ μ' : AMap} {s s' : Shared} (f : FR c env lk s.heap μ) (st : Step (fun _ => False) μ μ' s s') : FR c env lk s'.heap μ' :=
  f.at st.kp fun a o _ fz e => ⟨st.keep a o fz id e, st.frz e fz⟩

/-- a heap that keeps all that was -/
theorem Step.ofKeep {X : Addr → Prop} {μ : AMap} {s s' : Shared} (k : ∀ b o, s.heap.get? b = some o → s'.heap.get? b = some o) (hg : s'.gens = s.gens) (ho : s'.os = s.os) : Step X μ μ s s' :=
  ⟨fun b o _ _ h => k b o h, fun b _ _ _ _ h => k b _ h, fun b o h => ⟨o, k b o h⟩, fun _ _ h => h, fun _ _ h h' => (nomatch (h.symm.trans h')), rfl, fun b o _ h => k b o h, hg, ho⟩

theorem HR.keep {c : Ctx} {h h' : Heap} {μ : AMap} {σ : Sto} (r : HR c h μ σ) (k : ∀ b o, h.get? b = some o → h'.get? b = some o) : HR c h' μ σ := r.but (X := fun _ => False) (fun _ x => x.elim) (.all k) fun b o _ => k b o

theorem FR.keep {c : Ctx} {env : Env} {lk : Loc} {μ : AMap} {s s' : Shared} (f : FR c env lk s.heap μ) (k : ∀ b o, s.heap.get? b = some o → s'.heap.get? b = some o) (hg : s'.gens = s.gens) (ho : s'.os = s.os) : FR c env lk s'.heap μ :=
  f.step0 (Step.ofKeep k hg ho)

-- C2

section
variable {c : Ctx} {d : Nat} {env : Env} {lk : Loc} {σ : Sto} {Q : V → Sto → Prop} {pos : Pos}

/-- an operation upon values at hand -/
noncomputable def Run1 (c : Ctx) (d : Nat) (env : Env) (lk : Loc) (σ : Sto) (t : Value → Sem Value) (a : V) (Q : V → Sto → Prop) : Prop :=
  ∀ A s μ va Qr Er, AOk A d → HR c s.heap μ σ → FR c env lk s.heap μ → VR s.heap μ a va → ValPost c env lk μ s Q Qr → wpAny c.M A (t va) Qr Er s
noncomputable def Run2 (c : Ctx) (d : Nat) (env : Env) (lk : Loc) (σ : Sto) (t : Value → Value → Sem Value) (a b : V) (Q : V → Sto → Prop) : Prop :=
  ∀ A s μ va vb Qr Er, AOk A d → HR c s.heap μ σ → FR c env lk s.heap μ → VR s.heap μ a va → VR s.heap μ b vb → ValPost c env lk μ s Q Qr → wpAny c.M A (t va vb) Qr Er s
/-- a call from a frame -/
noncomputable def CallF (c : Ctx) (d : Nat) (env : Env) (lk : Loc) (σ : Sto) (f : Value) (args : List V) (Q : V → Sto → Prop) : Prop :=
  ∀ A s μ vs Qr Er, AOk A d → HR c s.heap μ σ → FR c env lk s.heap μ → VRs s.heap μ args vs → ValPost c env lk μ s Q Qr → wpAny c.M A (call f vs) Qr Er s

theorem CallOk.toF {f : Value} {args : List V} (h : CallOk c d f args σ Q) : CallF c d env lk σ f args Q :=
  fun A s μ vs Qr Er a r fr hv q => h A s μ vs Qr Er a r hv fun v s' y σ' μ' hq r' hv' st => q v s' y σ' μ' hq r' (fr.step0 st) hv' (st.mono fun _ x => x.elim)

theorem ValPost.same {μ : AMap} {s : Shared} {Qr : Value → Shared → Prop} (q : ValPost c env lk μ s Q Qr) {v : Value} {y : V} {n : Nat} (hq : Q y σ) (r : HR c s.heap μ σ) (f : FR c env lk s.heap μ) (hv : VR s.heap μ y v) :
    Qr v { s with toks := n } := q v { s with toks := n } y σ μ hq r f hv (Step.ofKeep (fun _ _ h => h) rfl rfl)
theorem ValPost.now {μ : AMap} {s : Shared} {Qr : Value → Shared → Prop} (q : ValPost c env lk μ s Q Qr) {v : Value} {y : V} (hq : Q y σ) (r : HR c s.heap μ σ) (f : FR c env lk s.heap μ) (hv : VR s.heap μ y v) :
    Qr v s := q v s y σ μ hq r f hv (Step.refl _ _ _)
/-- the rest of a walk begins where a step has come to -/
theorem ValPost.after {μ μ' : AMap} {s s' : Shared} {Qr : Value → Shared → Prop} (q : ValPost c env lk μ s Q Qr) (st : Step (own env) μ μ' s s') : ValPost c env lk μ' s' Q Qr :=
  fun v s'' y σ'' μ'' hq r f hv st' => q v s'' y σ'' μ'' hq r f hv (st.trans st')

theorem Ok.mono {e : Expr} {Q' : V → Sto → Prop} (h : Ok c d env e lk σ Q) (hQ : ∀ y σ', Q y σ' → Q' y σ') : Ok c d env e lk σ Q' :=
  fun A s μ Qr Er a r f q => h A s μ Qr Er a r f fun v s' y σ' μ' hq => q v s' y σ' μ' (hQ _ _ hq)

theorem OkL.mono {es : List Expr} {Q Q' : List V → Sto → Prop} (h : OkL c d env es lk σ Q) (hQ : ∀ y σ', Q y σ' → Q' y σ') : OkL c d env es lk σ Q' :=
  fun A s μ Qr Er p a r f q => h A s μ Qr Er p a r f fun v s' y σ' μ' hq => q v s' y σ' μ' (hQ _ _ hq)

theorem ok_int {i : Int} {k} (h : Q (.int i) σ) : Ok c d env (.Constant (.int i) k pos) lk σ Q :=
  fun _ _ _ _ _ _ r f q => wpAny_Constant_int (q.same h r f (.int _ _))
theorem ok_str {x : Str} {k} (h : Q (.str x) σ) : Ok c d env (.Constant (.str x) k pos) lk σ Q :=
  fun _ _ _ _ _ _ r f q => wpAny_Constant_str (q.same h r f (.str _ _))
theorem ok_none {k} (h : Q .none σ) : Ok c d env (.Constant .none k pos) lk σ Q :=
  fun _ _ _ _ _ _ r f q => wpAny_Constant_none (q.now h r f .none)
theorem ok_bool {b : Bool} {k} (h : Q (.bool b) σ) : Ok c d env (.Constant (.bool b) k pos) lk σ Q :=
  fun _ _ _ _ _ _ r f q => wpAny_Constant_bool (q.now h r f (.bool b))

/-- a variable of the frame -/
theorem ok_var {x : Str} {y : V} (hl : lk.lookup x = some y) (h : Q y σ) (hk : env.kindOf x = some .local ∨ env.kindOf x = some .cell ∨ env.kindOf x = some .free)
    (hd : (x == ("__debug__" : Str)) = false) (hcd : (x == ("__classdict__" : Str)) = false) : Ok c d env (.Name x pos) lk σ Q := by
  intro A s μ Qr Er a r f q
  refine wpAny_Name ?_ hd
  rcases hk with hk | hk | hk
  · obtain ⟨m, hn, hm⟩ := f.ns
    obtain ⟨v, h1, h2⟩ := hm x y hk hl
    exact wpAny_loadName_local f.kind hk hn h1 (q.now h r f h2)
  · obtain ⟨a', ha⟩ := f.cells x (.inl hk)
    obtain ⟨_, _, _, v, h4, h5⟩ := f.cell x a' ha
    obtain ⟨u, rfl, h6⟩ := h5 y (.inl hk) hl
    exact wpAny_loadName_cell f.kind hk ha h4 (q.now h r f h6)
  · obtain ⟨a', ha⟩ := f.cells x (.inr hk)
    obtain ⟨_, _, _, v, h4, h5⟩ := f.cell x a' ha
    obtain ⟨u, rfl, h6⟩ := h5 y (.inr hk) hl
    exact wpAny_loadName_free f.kind hk ha h4 (q.now h r f h6) hcd

theorem ns_globals {μ : AMap} {s : Shared} (r : HR c s.heap μ σ) (f : FR c env lk s.heap μ) : s.heap.Ns env.globals c.mg := by rw [f.globals]; exact c.g.keeps r.base
theorem ns_builtins {μ : AMap} {s : Shared} (r : HR c s.heap μ σ) (f : FR c env lk s.heap μ) : s.heap.Ns env.builtins c.mb := by rw [f.builtins]; exact c.b.keeps r.base

/-- a name of the module, its value told by the written part -/
theorem ok_global {x : Str} {v : Value} {y : V} (e : nsIn c.K mainGlobals x = some (some v)) (hv : VR c.H0 (fun _ => none, fun _ => False) y v) (h : Q y σ)
    (hk : env.kindOf x = some .globalImplicit) (hd : (x == ("__debug__" : Str)) = false) : Ok c d env (.Name x pos) lk σ Q := by
  intro A s μ Qr Er a r f q
  refine Name_function_global f.kind hk (loadGlobal_global (ns_globals r f) (mg_of c.X c.g e) (q.now h r f ?_)) hd
  exact VR.lift (fun b o hb _ => ⟨r.base b o hb, r.frz0 hb⟩) (by intro k p e; cases e) hv
theorem ok_globalR {x : Str} {v : Value} (e : nsIn c.K mainGlobals x = some (some v)) (h : Q (.raw v) σ)
    (hk : env.kindOf x = some .globalImplicit) (hd : (x == ("__debug__" : Str)) = false) : Ok c d env (.Name x pos) lk σ Q := ok_global e (.raw v) h hk hd
theorem ok_builtin {x : Str} {v : Value} (e : nsIn c.K mainGlobals x = some none) (hv : bootBuiltins x = some v) (hn : x ≠ "__name__") (h : Q (.raw v) σ)
    (hk : env.kindOf x = some .globalImplicit) (hd : (x == ("__debug__" : Str)) = false) : Ok c d env (.Name x pos) lk σ Q := by
  intro A s μ Qr Er a r f q
  exact Name_function_global f.kind hk (loadGlobal_builtin (ns_globals r f) (mg_none_of c.X c.g e) (ns_builtins r f) ((c.builtins x hn).trans hv) (q.now h r f (.raw v))) hd

/-- lists of expressions -/
theorem okl_nil {QL : List V → Sto → Prop} (h : QL [] σ) : OkL c d env [] lk σ QL :=
  fun _ s μ _ _ _ _ r f q => wpAny_items_nil (q _ s _ σ μ h r f .nil (Step.refl _ _ _))
theorem okl_cons {e : Expr} {es : List Expr} {QL : List V → Sto → Prop} (h : Ok c d env e lk σ (fun y σ' => OkL c d env es lk σ' (fun ys σ'' => QL (y :: ys) σ'')))
    (he : ∀ env, starEach (e :: es) env = (false, eval e env) :: starEach es env) : OkL c d env (e :: es) lk σ QL := by
  intro A s μ Qr Er pos a r f q
  refine wpAny_items_cons ?_ (he env)
  refine h A s μ _ Er a r f fun v s' y σ' μ' hq r' f' hv st => ?_
  refine hq A s' μ' _ Er pos a r' f' fun vs s'' ys σ'' μ'' hq' r'' f'' hvs st' => ?_
  exact q _ s'' _ σ'' μ'' hq' r'' f'' (.cons (hv.step st') hvs) (st.trans st')

theorem ok_binop {l r : Expr} {op : Operator} (h : Ok c d env l lk σ (fun a σ' => Ok c d env r lk σ' (fun b σ'' => Run2 c d env lk σ'' (binaryOp op) a b Q))) :
    Ok c d env (.BinOp l op r pos) lk σ Q := by
  intro A s μ Qr Er ok r f q
  refine wpAny_BinOp (h A s μ _ Er ok r f fun va s₁ a σ₁ μ₁ h₁ r₁ f₁ v₁ st₁ => ?_)
  refine h₁ A s₁ μ₁ _ Er ok r₁ f₁ fun vb s₂ b σ₂ μ₂ h₂ r₂ f₂ v₂ st₂ => ?_
  exact h₂ A s₂ μ₂ va vb Qr Er ok r₂ f₂ (v₁.step st₂) v₂ (q.after (st₁.trans st₂))

theorem ok_unop {x : Expr} {op : UnaryOp} (h : Ok c d env x lk σ (fun a σ' => Run1 c d env lk σ' (unaryOp op) a Q)) : Ok c d env (.UnaryOp op x pos) lk σ Q := by
  intro A s μ Qr Er ok r f q
  refine wpAny_UnaryOp (h A s μ _ Er ok r f fun va s₁ a σ₁ μ₁ h₁ r₁ f₁ v₁ st₁ => ?_)
  exact h₁ A s₁ μ₁ va Qr Er ok r₁ f₁ v₁ (q.after st₁)

theorem ok_compare {l r : Expr} {op : CmpOp} (h : Ok c d env l lk σ (fun a σ' => Ok c d env r lk σ' (fun b σ'' => Run2 c d env lk σ'' (compareOp op) a b Q)))
    (hm : behindInMarks op r = false) : Ok c d env (.Compare l [op] [r] pos) lk σ Q := by
  intro A s μ Qr Er ok r f q
  refine wpAny_Compare1 (h A s μ _ Er ok r f fun va s₁ a σ₁ μ₁ h₁ r₁ f₁ v₁ st₁ => ?_) hm
  refine h₁ A s₁ μ₁ _ Er ok r₁ f₁ fun vb s₂ b σ₂ μ₂ h₂ r₂ f₂ v₂ st₂ => ?_
  exact h₂ A s₂ μ₂ va vb Qr Er ok r₂ f₂ (v₁.step st₂) v₂ (q.after (st₁.trans st₂))

theorem ok_ifexp {test body orelse : Expr} (h : OkT c d env test lk σ (fun b σ' => (b = true → Ok c d env body lk σ' Q) ∧ (b = false → Ok c d env orelse lk σ' Q))) :
    Ok c d env (.IfExp test body orelse pos) lk σ Q := by
  intro A s μ Qr Er ok r f q
  refine wpAny_IfExp (h A s μ _ Er ok r f fun b s₁ σ₁ μ₁ h₁ r₁ f₁ st₁ => ?_)
  cases b with
  | true => exact h₁.1 rfl A s₁ μ₁ Qr Er ok r₁ f₁ (q.after st₁)
  | false => exact h₁.2 rfl A s₁ μ₁ Qr Er ok r₁ f₁ (q.after st₁)

/-- tests -/
theorem okt_compare {l r : Expr} {op : CmpOp} {QT : Bool → Sto → Prop} (h : Ok c d env l lk σ (fun a σ' => Ok c d env r lk σ' (fun b σ'' => Run2 c d env lk σ'' (compareOp op) a b (fun y σ₃ => ∃ t, y = .bool t ∧ QT t σ₃))))
    (hm : behindInMarks op r = false) : OkT c d env (.Compare l [op] [r] pos) lk σ QT := by
  intro A s μ Qr Er ok r f q
  refine wpAny_isTrue_Compare1 (h A s μ _ Er ok r f fun va s₁ a σ₁ μ₁ h₁ r₁ f₁ v₁ st₁ => ?_) hm
  refine h₁ A s₁ μ₁ _ Er ok r₁ f₁ fun vb s₂ b σ₂ μ₂ h₂ r₂ f₂ v₂ st₂ => ?_
  refine h₂ A s₂ μ₂ va vb _ Er ok r₂ f₂ (v₁.step st₂) v₂ fun v s₃ y σ₃ μ₃ h₃ r₃ f₃ v₃ st₃ => ?_
  obtain ⟨t, rfl, hq⟩ := h₃
  obtain rfl := v₃.bool'
  exact wpAny_truthy_bool (q t s₃ σ₃ μ₃ hq r₃ f₃ ((st₁.trans st₂).trans st₃))

theorem okt_not {x : Expr} {QT : Bool → Sto → Prop} (h : OkT c d env x lk σ (fun b σ' => QT (!b) σ')) : OkT c d env (.UnaryOp .Not x pos) lk σ QT := by
  intro A s μ Qr Er ok r f q
  exact wpAny_isTrue_Not (h A s μ _ Er ok r f fun b s₁ σ₁ μ₁ h₁ r₁ f₁ st₁ => q _ s₁ σ₁ μ₁ h₁ r₁ f₁ st₁)

noncomputable def OkAll (c : Ctx) (d : Nat) (env : Env) (op : BoolOp) (es : List Expr) (lk : Loc) (σ : Sto) (Q : Bool → Sto → Prop) : Prop :=
  ∀ A s μ Qr Er, AOk A d → HR c s.heap μ σ → FR c env lk s.heap μ →
    (∀ b s' σ' μ', Q b σ' → HR c s'.heap μ' σ' → FR c env lk s'.heap μ' → Step (own env) μ μ' s s' → Qr b s') →
    wpAny c.M A (allTrue op es env) Qr Er s
theorem okt_boolop {op : BoolOp} {es : List Expr} {QT : Bool → Sto → Prop} (h : OkAll c d env op es lk σ QT) : OkT c d env (.BoolOp op es pos) lk σ QT := by
  intro A s μ Qr Er ok r f q
  exact wpAny_isTrue_BoolOp (h A s μ _ Er ok r f q)
theorem okall_and_nil {QT : Bool → Sto → Prop} (h : QT true σ) : OkAll c d env .And [] lk σ QT :=
  fun _ s μ _ _ _ r f q => wpAny_allTrue_And_nil (q _ s σ μ h r f (Step.refl _ _ _))
theorem okall_or_nil {QT : Bool → Sto → Prop} (h : QT false σ) : OkAll c d env .Or [] lk σ QT :=
  fun _ s μ _ _ _ r f q => wpAny_allTrue_Or_nil (q _ s σ μ h r f (Step.refl _ _ _))
theorem okall_and {e : Expr} {es : List Expr} {QT : Bool → Sto → Prop} (h : OkT c d env e lk σ (fun b σ' => (b = true → OkAll c d env .And es lk σ' QT) ∧ (b = false → QT false σ'))) : OkAll c d env .And (e :: es) lk σ QT := by
  intro A s μ Qr Er ok r f q
  refine wpAny_allTrue_And_cons (h A s μ _ Er ok r f fun b s₁ σ₁ μ₁ h₁ r₁ f₁ st₁ => ?_)
  cases b with
  | true => exact h₁.1 rfl A s₁ μ₁ Qr Er ok r₁ f₁ fun b s' σ' μ' a1 a2 a3 a4 => q b s' σ' μ' a1 a2 a3 (st₁.trans a4)
  | false => exact q false s₁ σ₁ μ₁ (h₁.2 rfl) r₁ f₁ st₁
theorem okall_or {e : Expr} {es : List Expr} {QT : Bool → Sto → Prop} (h : OkT c d env e lk σ (fun b σ' => (b = false → OkAll c d env .Or es lk σ' QT) ∧ (b = true → QT true σ'))) : OkAll c d env .Or (e :: es) lk σ QT := by
  intro A s μ Qr Er ok r f q
  refine wpAny_allTrue_Or_cons (h A s μ _ Er ok r f fun b s₁ σ₁ μ₁ h₁ r₁ f₁ st₁ => ?_)
  cases b with
  | false => exact h₁.1 rfl A s₁ μ₁ Qr Er ok r₁ f₁ fun b s' σ' μ' a1 a2 a3 a4 => q b s' σ' μ' a1 a2 a3 (st₁.trans a4)
  | true => exact q true s₁ σ₁ μ₁ (h₁.2 rfl) r₁ f₁ st₁

/-- a test that is a value: a bool -/
theorem okt_value {e : Expr} {QT : Bool → Sto → Prop} (h : Ok c d env e lk σ (fun y σ' => ∃ t, y = .bool t ∧ QT t σ'))
    (hw : ∀ (env : Env) (whole : Sem Value), isTrue e env whole = (do let v ← whole; standAt e.pos; holding [v] (truthy v))) : OkT c d env e lk σ QT := by
  intro A s μ Qr Er ok r f q
  rw [hw]
  refine wpAny_bind (h A s μ _ Er ok r f fun v s₁ y σ₁ μ₁ h₁ r₁ f₁ v₁ st₁ => ?_)
  obtain ⟨t, rfl, hq⟩ := h₁
  obtain rfl := v₁.bool'
  exact wpAny_bind (wpAny_standAt (wpAny_holding (wpAny_truthy_bool (q t s₁ σ₁ μ₁ hq r₁ f₁ st₁))))

/-- boolean operators for their value -/
theorem ok_and {x y : Expr} (h : Ok c d env x lk σ (fun v σ' => ∃ t, v = .bool t ∧ (t = true → Ok c d env y lk σ' Q) ∧ (t = false → Q (.bool false) σ'))) : Ok c d env (.BoolOp .And [x, y] pos) lk σ Q := by
  intro A s μ Qr Er ok r f q
  refine wpAny_And2 (h A s μ _ Er ok r f fun v s₁ y σ₁ μ₁ h₁ r₁ f₁ v₁ st₁ => ?_)
  obtain ⟨t, rfl, hq⟩ := h₁
  obtain rfl := v₁.bool'
  refine wpAny_truthy_bool ?_
  cases t with
  | true => exact hq.1 rfl A s₁ μ₁ Qr Er ok r₁ f₁ (q.after st₁)
  | false => exact q _ s₁ _ σ₁ μ₁ (hq.2 rfl) r₁ f₁ (.bool false) st₁
theorem ok_or {x y : Expr} (h : Ok c d env x lk σ (fun v σ' => ∃ t, v = .bool t ∧ (t = false → Ok c d env y lk σ' Q) ∧ (t = true → Q (.bool true) σ'))) : Ok c d env (.BoolOp .Or [x, y] pos) lk σ Q := by
  intro A s μ Qr Er ok r f q
  refine wpAny_Or2 (h A s μ _ Er ok r f fun v s₁ y σ₁ μ₁ h₁ r₁ f₁ v₁ st₁ => ?_)
  obtain ⟨t, rfl, hq⟩ := h₁
  obtain rfl := v₁.bool'
  refine wpAny_truthy_bool ?_
  cases t with
  | false => exact hq.1 rfl A s₁ μ₁ Qr Er ok r₁ f₁ (q.after st₁)
  | true => exact q _ s₁ _ σ₁ μ₁ (hq.2 rfl) r₁ f₁ (.bool true) st₁

/-- the heap with one more object -/
theorem HR.push {h : Heap} {μ : AMap} (r : HR c h μ σ) (o : Obj) : HR c (h.push o) μ σ := r.keep fun _ _ e => Heap.get?_push_of_some o e
theorem FR.push {s : Shared} {μ : AMap} (f : FR c env lk s.heap μ) (o : Obj) : FR c env lk (s.heap.push o) μ :=
  f.keep (s' := { s with heap := s.heap.push o }) (fun _ _ e => Heap.get?_push_of_some o e) rfl rfl
theorem HR.has {h : Heap} {μ : AMap} (r : HR c h μ σ) {k : Nat} {p : Addr × Addr} (hk : μ.1 k = some p) : ∃ x, σ k = some x ∧ CR c h μ x p := by
  cases hx : σ k with
  | none => exact nomatch (hk.symm.trans ((r.dom k).mp hx) : some p = none)
  | some x => exact ⟨x, rfl, r.cell k x p hx hk⟩
theorem CR.occ {h : Heap} {μ : AMap} {x : Cell} {p : Addr × Addr} (r : CR c h μ x p) : (∃ o, h.get? p.1 = some o) ∧ ∃ o, h.get? p.2 = some o := by
  cases x with
  | list => exact have z := r.2.elim fun _ q => q.elim fun _ q => ⟨_, q.1⟩; ⟨z, r.1 ▸ z⟩
  | dictS => exact have z := r.2.elim fun _ q => q.1.imp fun _ q => q.elim fun _ q => q.elim fun _ q => q.1; ⟨z, r.1 ▸ z⟩
  | dictI => exact have z := r.2.elim fun _ q => q.1.imp fun _ q => q.elim fun _ q => q.elim fun _ q => q.1; ⟨z, r.1 ▸ z⟩
  | inst => exact ⟨⟨_, r.1⟩, r.2.elim fun _ q => q.elim fun _ q => ⟨_, q.1⟩⟩
theorem HR.occ {h : Heap} {μ : AMap} (r : HR c h μ σ) {k : Nat} {p : Addr × Addr} (hk : μ.1 k = some p) : (∃ o, h.get? p.1 = some o) ∧ ∃ o, h.get? p.2 = some o := (r.has hk).elim fun _ z => z.2.occ
theorem frz_none {h : Heap} {μ : AMap} (r : HR c h μ σ) {a : Addr} (ha : h.get? a = none) : Frz μ a :=
  ⟨fun _ _ hk => ⟨(r.occ hk).1.elim fun _ e => (get_ne e ha).symm, (r.occ hk).2.elim fun _ e => (get_ne e ha).symm⟩, fun hh => (r.hid a hh).1.elim fun o e => nomatch (ha.symm.trans e : none = some o)⟩
theorem none_ge {h : Heap} {a : Addr} (ha : h.objs.size ≤ a) : h.get? a = none := by
  cases e : h.get? a with
  | none => rfl
  | some o => exact absurd (Heap.lt_size e) (Nat.not_lt.mpr ha)
theorem none_size (h : Heap) : h.get? h.objs.size = none := none_ge (Nat.le_refl _)
theorem frz_size {h : Heap} {μ : AMap} (r : HR c h μ σ) : Frz μ h.objs.size := frz_none r (none_size h)

theorem Step.push {X : Addr → Prop} {μ : AMap} {s : Shared} (o : Obj) : Step X μ μ s { s with heap := s.heap.push o } :=
  Step.ofKeep (fun _ _ e => Heap.get?_push_of_some o e) rfl rfl

theorem ok_tuple {es : List Expr} {k : Nat} (h : OkL c d env es lk σ (fun ys σ' => ys.length ≤ sizeLine ∧ Q (.tup ys) σ')) : Ok c d env (.Tuple es k pos) lk σ Q := by
  intro A s μ Qr Er ok r f q
  refine Tuple_ (h A s μ _ Er pos ok r f fun vs s₁ ys σ₁ μ₁ hq r₁ f₁ v₁ st₁ => ?_)
  have hl : vs.length ≤ sizeLine := by rw [← v₁.length]; exact hq.1
  refine wpAny_newObj_type (T := "tuple") (data := .seq vs.toArray) ?_ (by show vs.toArray.size ≤ sizeLine; rw [List.size_toArray]; exact hl)
  refine q _ { s₁ with heap := s₁.heap.push _ } (.tup ys) σ₁ μ₁ hq.2 (r₁.push _) (f₁.push _) ?_ (st₁.trans (Step.push _))
  exact .tup (Heap.get?_push_size _ rfl) (frz_size r₁) (v₁.step (X := fun _ => False) (s' := { s₁ with heap := s₁.heap.push _ }) (Step.push _))

theorem ok_list {es : List Expr} (h : OkL c d env es lk σ (fun ys σ' => ys.length ≤ sizeLine ∧ Q (.lst ys) σ')) : Ok c d env (.List es pos) lk σ Q := by
  intro A s μ Qr Er ok r f q
  refine List_ (h A s μ _ Er pos ok r f fun vs s₁ ys σ₁ μ₁ hq r₁ f₁ v₁ st₁ => ?_)
  have hl : vs.length ≤ sizeLine := by rw [← v₁.length]; exact hq.1
  refine wpAny_newObj_type (T := "list") (data := .seq vs.toArray) ?_ (by show vs.toArray.size ≤ sizeLine; rw [List.size_toArray]; exact hl)
  refine q _ { s₁ with heap := s₁.heap.push _ } (.lst ys) σ₁ μ₁ hq.2 (r₁.push _) (f₁.push _) ?_ (st₁.trans (Step.push _))
  exact .lst (Heap.get?_push_size _ rfl) (frz_size r₁) (v₁.step (X := fun _ => False) (s' := { s₁ with heap := s₁.heap.push _ }) (Step.push _))
end

-- C3

noncomputable def put (x : Str) (y : V) : Loc → Loc
  | [] => [(x, y)]
  | (z, w) :: r => if x == z then (z, y) :: r else (z, w) :: put x y r

theorem put_lookup (x z : Str) (y : V) : ∀ lk : Loc, (put x y lk).lookup z = if z = x then some y else lk.lookup z
  | [] => by
    simp only [put, List.lookup_cons, List.lookup_nil]
    by_cases h : z = x
    · simp [h]
    · have : (z == x) = false := by simpa using h
      simp [this, h]
  | (k, w) :: r => by
    unfold put
    by_cases hx : x = k
    · subst hx
      simp only [beq_self_eq_true, if_true, List.lookup_cons]
      by_cases h : z = x
      · simp [h]
      · have : (z == x) = false := by simpa using h
        simp [this, h]
    · have hx' : (x == k) = false := by simpa using hx
      simp only [hx', Bool.false_eq_true, if_false, List.lookup_cons, put_lookup x z y r]
      by_cases h : z = x
      · subst h
        simp [hx']
      · simp [h]

section
variable {c : Ctx} {d : Nat} {env : Env} {lk : Loc} {σ : Sto} {pos : Pos}

theorem FR.noH0 {h : Heap} {μ : AMap} (f : FR c env lk h μ) {a : Addr} (ha : own env a) : c.H0.get? a = none := by
  rcases ha with rfl | ⟨x, hx⟩
  · cases hq : c.H0.get? env.locals with
    | none => rfl
    | some o => exact absurd (Nat.lt_of_lt_of_le (Heap.lt_size hq) f.above) (Nat.lt_irrefl _)
  · exact (f.cell x a hx).2.2.1

theorem FR.frz {h : Heap} {μ : AMap} (f : FR c env lk h μ) {a : Addr} (ha : own env a) : Frz μ a := by
  rcases ha with rfl | ⟨x, hx⟩
  · exact f.frzL
  · exact (f.cell x a hx).2.1

theorem FR.no_seq {h : Heap} {μ : AMap} (f : FR c env lk h μ) {a : Addr} (ha : own env a) {C dd vs k sl} : h.get? a ≠ some ⟨C, dd, .seq vs k, sl⟩ := by
  rcases ha with rfl | ⟨x, hx⟩
  · obtain ⟨m, hn, _⟩ := f.ns
    exact Ns.no_seq hn
  · obtain ⟨_, _, _, v, hv, _⟩ := f.cell x a hx
    exact IsCell.no_seq hv

theorem own_step {s s' : Shared} {μ : AMap} (f : FR c env lk s.heap μ) (r : HR c s.heap μ σ) {a : Addr} (ha : own env a) (hs : Heap.SameBut a s.heap s'.heap) (hl : ∃ o, s'.heap.get? a = some o)
    (hg : s'.gens = s.gens) (ho : s'.os = s.os) : HR c s'.heap μ σ ∧ Step (own env) μ μ s s' :=
  have k : ∀ b o, ¬ b = a → s.heap.get? b = some o → s'.heap.get? b = some o := fun b o hb e => (hs.2 b hb).trans e
  have K : Kp s.heap s'.heap μ μ := .but (X := (· = a)) k fun b hb _ C d vs n sl => hb ▸ f.no_seq ha
  ⟨r.but (X := (· = a)) (fun b hb => hb ▸ ⟨f.frz ha, f.noH0 ha⟩) K k, .but (Y := (· = a)) K k (fun b hb => hb ▸ hl) (fun b hb _ => hb ▸ ha) (fun b hb e => (f.frz ha).2 (e ▸ hb)) hg ho⟩
theorem putl_hit {x : Str} {y w : V} (h : (put x y lk).lookup x = some w) : w = y := by
  rw [put_lookup, if_pos rfl] at h; exact (Option.some.inj h).symm
theorem putl_other {x z : Str} {y w : V} (n : z ≠ x) (h : (put x y lk).lookup z = some w) : lk.lookup z = some w := by
  rw [put_lookup, if_neg n] at h; exact h
theorem kind_ne {x z : Str} {k k' : NameKind} (h : env.kindOf x = some k) (h' : env.kindOf z = some k') (n : k ≠ k') : z ≠ x := fun e => n (Option.some.inj (h.symm.trans (e ▸ h')))

/-- storing into a variable of the frame -/
theorem store_var {A : Around} {s : Shared} {μ : AMap} {x : Str} {y : V} {v : Value} {Qr : Unit → Shared → Prop} {Er : Value → Shared → Prop} (f : FR c env lk s.heap μ) (r : HR c s.heap μ σ) (hv : VR s.heap μ y v)
    (hk : env.kindOf x = some .local ∨ env.kindOf x = some .cell) (q : ∀ s', HR c s'.heap μ σ → FR c env (put x y lk) s'.heap μ → Step (own env) μ μ s s' → Qr () s') : wpAny c.M A (storeName env x v) Qr Er s := by
  rcases hk with hk | hk
  · obtain ⟨m, hn, hm⟩ := f.ns
    refine wpAny_storeName_local hk hn (fun h' hn' hs => ?_) (by rw [f.kind]; rfl)
    have z := own_step (s' := { s with heap := h', toks := s.toks + 1 }) f r (.inl rfl) hs (hn'.elim fun o n => n.elim fun _ n => n.elim fun _ n => ⟨o, n.1⟩) rfl rfl
    refine q _ z.1 ⟨f.kind, f.globals, f.builtins, f.above, f.frzL, ⟨_, hn', fun w u hz hw => ?_⟩, fun w a ha => ?_, f.cells, f.apart⟩ z.2
    · by_cases e : w = x
      · subst e; exact ⟨v, if_pos rfl, putl_hit hw ▸ hv.step z.2⟩
      · exact (hm w u hz (putl_other e hw)).imp fun _ g => ⟨(if_neg e).trans g.1, g.2.step z.2⟩
    · have g := f.cell w a ha
      exact ⟨g.1, g.2.1, g.2.2.1, g.2.2.2.imp fun _ q => ⟨IsCell.keep q.1 fun o e => (hs.2 a g.1).trans e, fun u hw hl => (q.2 u hw (putl_other (hw.elim (kind_ne hk · nofun) (kind_ne hk · nofun)) hl)).imp fun _ g => ⟨g.1, g.2.step z.2⟩⟩⟩
  · obtain ⟨a, ha⟩ := f.cells x (.inl hk)
    have g := f.cell x a ha
    obtain ⟨u, hu, _⟩ := g.2.2.2
    refine wpAny_storeName_cell f.kind hk ha hu (fun h' hc' hs => ?_)
    have z := own_step (s' := { s with heap := h' }) f r (.inr ⟨x, ha⟩) hs (hc'.imp fun _ q => q.1) rfl rfl
    refine q _ z.1 ⟨f.kind, f.globals, f.builtins, f.above, f.frzL, f.ns.imp fun m n => ⟨n.1.sameBut hs (Ne.symm g.1), fun w u hz hw => ?_⟩, fun w a' ha' => ?_, f.cells, f.apart⟩ z.2
    · exact (n.2 w u hz (putl_other (kind_ne hk hz nofun) hw)).imp fun _ g => ⟨g.1, g.2.step z.2⟩
    · have g' := f.cell w a' ha'
      by_cases e : w = x
      · subst e
        obtain rfl := some_ne ha ha'
        exact ⟨g.1, g.2.1, g.2.2.1, some v, hc', fun w hw hl => ⟨v, rfl, putl_hit hl ▸ hv.step z.2⟩⟩
      · exact ⟨g'.1, g'.2.1, g'.2.2.1, g'.2.2.2.imp fun _ q => ⟨IsCell.keep q.1 fun o e' => (hs.2 a' (f.apart w x a' a ha' ha e)).trans e', fun u hw hl => (q.2 u hw (putl_other e hl)).imp fun _ g => ⟨g.1, g.2.step z.2⟩⟩⟩

theorem FR.weak {h : Heap} {μ : AMap} {lk' : Loc} (f : FR c env lk h μ) (hw : ∀ x y, lk'.lookup x = some y → lk.lookup x = some y) : FR c env lk' h μ where
  kind := f.kind
  globals := f.globals
  builtins := f.builtins
  above := f.above
  frzL := f.frzL
  ns := f.ns.imp fun _ n => ⟨n.1, fun x y hx hy => n.2 x y hx (hw x y hy)⟩
  cell := fun x a ha => have g := f.cell x a ha; ⟨g.1, g.2.1, g.2.2.1, g.2.2.2.imp fun _ q => ⟨q.1, fun y hy hl => q.2 y hy (hw x y hl)⟩⟩
  cells := f.cells
  apart := f.apart

noncomputable def mupd (μ : AMap) (k : Nat) (p : Addr × Addr) : AMap := (fun j => if j = k then some p else μ.1 j, μ.2)

theorem ite_which {α : Type} {p : Prop} [Decidable p] {a b : Option α} {q : α} (h : (if p then a else b) = some q) : (p ∧ a = some q) ∨ (¬ p ∧ b = some q) := by
  by_cases hp : p
  · rw [if_pos hp] at h; exact .inl ⟨hp, h⟩
  · rw [if_neg hp] at h; exact .inr ⟨hp, h⟩
theorem ite_none {α β : Type} {p : Prop} [Decidable p] {a : α} {b : β} {x : Option α} {y : Option β} (h : x = none ↔ y = none) : (if p then some a else x) = none ↔ (if p then some b else y) = none := by
  by_cases hp : p
  · rw [if_pos hp, if_pos hp]; exact ⟨nofun, nofun⟩
  · rw [if_neg hp, if_neg hp]; exact h

/-- a new cell at a free index -/
theorem HR.alloc {s s' : Shared} {μ : AMap} {X : Addr → Prop} (r : HR c s.heap μ σ) {k : Nat} (hk : σ k = none) (kp : ∀ b o, s.heap.get? b = some o → s'.heap.get? b = some o) (hg : s'.gens = s.gens) (ho : s'.os = s.os)
    {p : Addr × Addr} (z1 : c.H0.objs.size ≤ p.1) (z2 : c.H0.objs.size ≤ p.2) (n1 : s.heap.get? p.1 = none) (n2 : s.heap.get? p.2 = none) {x : Cell}
    (hc : (∀ {y v}, VR s.heap μ y v → VR s'.heap (mupd μ k p) y v) → (∀ {ys vs}, VRs s.heap μ ys vs → VRs s'.heap (mupd μ k p) ys vs) → CR c s'.heap (mupd μ k p) x p) :
    HR c s'.heap (mupd μ k p) (upd σ k x) ∧ Step X μ (mupd μ k p) s s' := by
  have wh : ∀ {j q}, (mupd μ k p).1 j = some q → (j = k ∧ some p = some q) ∨ (¬ j = k ∧ μ.1 j = some q) := ite_which
  have ext : ∀ j q, μ.1 j = some q → (mupd μ k p).1 j = some q := fun j q hj => (if_neg fun (e : j = k) => nomatch (((r.dom k).mp hk).symm.trans (e ▸ hj) : none = some q)).trans hj
  have ap : ∀ {b o}, s.heap.get? b = some o → b ≠ p.1 ∧ b ≠ p.2 := fun e => ⟨get_ne e n1, get_ne e n2⟩
  have fz : ∀ b o, s.heap.get? b = some o → Frz μ b → Frz (mupd μ k p) b := fun b o e f => ⟨fun j q hj => (wh hj).elim (fun z => Option.some.inj z.2 ▸ ap e) fun z => f.1 j q z.2, f.2⟩
  have K : Kp s.heap s'.heap μ (mupd μ k p) := .of (fun b o e f => ⟨kp b o e, fz b o e f⟩) ext
  have occ : ∀ {j q}, μ.1 j = some q → q.1 ≠ p.1 ∧ q.1 ≠ p.2 ∧ q.2 ≠ p.1 ∧ q.2 ≠ p.2 := fun hj =>
    (r.occ hj).1.elim fun _ e1 => (r.occ hj).2.elim fun _ e2 => ⟨(ap e1).1, (ap e1).2, (ap e2).1, (ap e2).2⟩
  refine ⟨⟨fun b o e => kp _ _ (r.base b o e), fun j => ite_none (r.dom j), fun i j q q' hi hj hij => ?_, fun j q hj => (wh hj).elim (fun z => Option.some.inj z.2 ▸ ⟨z1, z2⟩) fun z => r.above j q z.2, fun j y q hy hq => ?_, ?_, fun b hb => ?_⟩,
    ⟨fun b o _ _ e => kp b o e, fun b _ _ _ _ e => kp b _ e, fun b o e => ⟨o, kp b o e⟩, ext, fun j q hj h0 => ?_, rfl, fun b o _ e => kp b o e, hg, ho⟩⟩
  · rcases wh hi with z | z <;> rcases wh hj with y | y
    · exact absurd (z.1.trans y.1.symm) hij
    · exact Option.some.inj z.2 ▸ ⟨(occ y.2).1.symm, (occ y.2).2.2.1.symm, (occ y.2).2.1.symm, (occ y.2).2.2.2.symm⟩
    · exact Option.some.inj y.2 ▸ occ z.2
    · exact r.inj i j q q' z.2 y.2 hij
  · rcases wh hq with z | z
    · obtain rfl := Option.some.inj z.2
      exact Option.some.inj ((if_pos z.1).symm.trans hy) ▸ hc (fun v => v.at K) fun v => v.at K
    · exact (r.cell j y q ((if_neg z.1).symm.trans hy) z.2).at K (fun o => kp _ _) fun o => kp _ _
  · exact r.fin.elim fun n hn => ⟨max n (k + 1), fun j hj => (if_neg (Nat.ne_of_gt (Nat.le_trans (Nat.le_max_right n (k + 1)) hj))).trans (hn j (Nat.le_trans (Nat.le_max_left _ _) hj))⟩
  · have z := r.hid b hb
    exact ⟨z.1.imp fun o => kp b o, z.2.1, fun j q hj => (wh hj).elim (fun y => Option.some.inj y.2 ▸ z.1.elim fun _ e => ap e) fun y => z.2.2 j q y.2⟩
  · exact (wh hj).elim (fun z => Option.some.inj z.2 ▸ ⟨n1, n2⟩) fun z => nomatch (h0.symm.trans z.2 : none = some q)

theorem HR.free {h : Heap} {μ : AMap} (r : HR c h μ σ) : ∃ k, σ k = none := r.fin.elim fun n hn => ⟨n, (r.dom n).mpr (hn n (Nat.le_refl _))⟩

/-- a cell that is written anew: its mutable address takes another object -/
theorem HR.write {s s' : Shared} {μ : AMap} {X : Addr → Prop} (r : HR c s.heap μ σ) {k : Nat} {x x' : Cell} {p : Addr × Addr} (hk : σ k = some x) (hp : μ.1 k = some p) (hs : ∀ b o, b ≠ p.2 → s.heap.get? b = some o → s'.heap.get? b = some o)
    (hl : ∃ o, s'.heap.get? p.2 = some o) (hg : s'.gens = s.gens) (ho : s'.os = s.os)
    (hc : (∀ {y v}, VR s.heap μ y v → VR s'.heap μ y v) → (∀ {ys vs}, VRs s.heap μ ys vs → VRs s'.heap μ ys vs) → CR c s'.heap μ x' p) :
    HR c s'.heap μ (upd σ k x') ∧ Step X μ μ s s' := by
  have K : Kp s.heap s'.heap μ μ := .of (fun b o e f => ⟨hs b o (f.1 k p hp).2 e, f⟩) fun _ _ e => e
  have nh : ∀ b, μ.2 b → ¬ b = p.2 := fun b hb => ((r.hid b hb).2.2 k p hp).2
  refine ⟨⟨fun b o e => hs b o (get_ne e (r.fresh k p hp).2) (r.base b o e), fun j => ?_, r.inj, r.above, fun j y q hy hq => ?_, r.fin, fun b hb => ⟨(r.hid b hb).1.imp fun o => hs b o (nh b hb), (r.hid b hb).2⟩⟩,
    .but (Y := (· = p.2)) K hs (fun b hb => hb ▸ hl) (fun b hb f => absurd hb (f.1 k p hp).2) nh hg ho⟩
  · by_cases e : j = k
    · subst e; exact ⟨fun h => (nomatch ((if_pos rfl).symm.trans h : some x' = none)), fun h => (nomatch (hp.symm.trans h : some p = none))⟩
    · exact ⟨fun h => (r.dom j).mp ((if_neg e).symm.trans h), fun h => (if_neg e).trans ((r.dom j).mpr h)⟩
  · rcases ite_which hy with z | z
    · obtain rfl := z.1
      obtain rfl := some_ne hp hq
      exact Option.some.inj z.2 ▸ hc (fun v => v.at K) fun v => v.at K
    · have i := r.inj j k q p hq hp z.1
      exact (r.cell j y q z.2 hq).at K (fun o e => hs _ o i.2.1 e) fun o e => hs _ o i.2.2.2 e

/-- the hidden part may be more, or less -/
noncomputable def hide (μ : AMap) (D : Addr) : AMap := (μ.1, fun b => b = D ∨ μ.2 b)
end

-- C4

section
variable {c : Ctx} {d : Nat} {env : Env} {lk : Loc} {σ : Sto} {pos : Pos} {QX : Fl → Loc → Sto → Prop}

theorem FlPost.after {μ μ' : AMap} {s s' : Shared} {Qr : Flow → Shared → Prop} (q : FlPost c env μ s QX Qr) (st : Step (own env) μ μ' s s') : FlPost c env μ' s' QX Qr :=
  fun f s'' fl lk' σ'' μ'' hq r fr hv st' => q f s'' fl lk' σ'' μ'' hq r fr hv (st.trans st')
theorem stepOwn {μ μ' : AMap} {s s' : Shared} (st : Step (own env) μ μ' s s') : Step (own env) μ μ' s s' := st

theorem OkB.mono {sts : List Stmt} {Q' : Fl → Loc → Sto → Prop} (h : OkB c d env sts lk σ QX) (hQ : ∀ fl lk' σ', QX fl lk' σ' → Q' fl lk' σ') : OkB c d env sts lk σ Q' :=
  fun A s μ Qr Er a r f q => h A s μ Qr Er a r f fun fl s' y lk' σ' μ' hq => q fl s' y lk' σ' μ' (hQ _ _ _ hq)

theorem okb_nil (h : QX .next lk σ) : OkB c d env [] lk σ QX :=
  fun _ s μ _ _ _ r f q => wpAny_execs_nil (q .next s .next lk σ μ h r f trivial (Step.refl _ _ _))
theorem okb_cons {st : Stmt} {rest : List Stmt} (h : OkX c d env st lk σ (fun fl lk' σ' => match fl with | .next => OkB c d env rest lk' σ' QX | fl => QX fl lk' σ')) : OkB c d env (st :: rest) lk σ QX := by
  intro A s μ Qr Er ok r f q
  refine wpAny_execs_cons (h A s μ _ Er ok r f fun fl s₁ y lk₁ σ₁ μ₁ h₁ r₁ f₁ v₁ st₁ => ?_)
  cases y with
  | next => cases fl <;> first | exact v₁.elim | exact h₁ A s₁ μ₁ Qr Er ok r₁ f₁ (q.after st₁)
  | brk => cases fl <;> first | exact v₁.elim | exact q .brk s₁ .brk lk₁ σ₁ μ₁ h₁ r₁ f₁ trivial st₁
  | cont => cases fl <;> first | exact v₁.elim | exact q .cont s₁ .cont lk₁ σ₁ μ₁ h₁ r₁ f₁ trivial st₁
  | ret y => cases fl <;> first | exact v₁.elim | exact q _ s₁ (.ret y) lk₁ σ₁ μ₁ h₁ r₁ f₁ v₁ st₁

/-- fewer variables are needed -/
theorem okb_weak {sts : List Stmt} {lk' : Loc} (hw : ∀ x y, lk'.lookup x = some y → lk.lookup x = some y) (h : OkB c d env sts lk' σ QX) : OkB c d env sts lk σ QX :=
  fun A s μ Qr Er ok r f q => h A s μ Qr Er ok r (f.weak hw) q

theorem okx_return {e : Expr} (h : Ok c d env e lk σ (fun y σ' => QX (.ret y) lk σ')) : OkX c d env (.Return (some e) pos) lk σ QX := by
  intro A s μ Qr Er ok r f q
  exact wpAny_Return_some (h A s μ _ Er ok r f fun v s₁ y σ₁ μ₁ h₁ r₁ f₁ v₁ st₁ => q _ s₁ (.ret y) lk σ₁ μ₁ h₁ r₁ f₁ v₁ (stepOwn st₁))
theorem okx_return0 (h : QX (.ret .none) lk σ) : OkX c d env (.Return none pos) lk σ QX :=
  fun _ s μ _ _ _ r f q => wpAny_Return_none (q _ s (.ret .none) lk σ μ h r f .none (Step.refl _ _ _))
theorem okx_if {test : Expr} {body orelse : List Stmt} (h : OkT c d env test lk σ (fun b σ' => (b = true → OkB c d env body lk σ' QX) ∧ (b = false → OkB c d env orelse lk σ' QX))) :
    OkX c d env (.If test body orelse pos) lk σ QX := by
  intro A s μ Qr Er ok r f q
  refine wpAny_If (h A s μ _ Er ok r f fun b s₁ σ₁ μ₁ h₁ r₁ f₁ st₁ => ?_)
  cases b with
  | true => exact h₁.1 rfl A s₁ μ₁ Qr Er ok r₁ f₁ (q.after (stepOwn st₁))
  | false => exact h₁.2 rfl A s₁ μ₁ Qr Er ok r₁ f₁ (q.after (stepOwn st₁))
theorem okx_expr {e : Expr} (h : Ok c d env e lk σ (fun _ σ' => QX .next lk σ')) (hi : interactive env = false) (hs : swapsWith e none pos.line env = pure false) : OkX c d env (.Expr e pos) lk σ QX := by
  intro A s μ Qr Er ok r f q
  exact wpAny_Expr_any (h A s μ _ Er ok r f fun v s₁ y σ₁ μ₁ h₁ r₁ f₁ v₁ st₁ => q .next s₁ .next lk σ₁ μ₁ h₁ r₁ f₁ trivial (stepOwn st₁)) hi hs

/-- an assignment's target -/
noncomputable def OkA (c : Ctx) (d : Nat) (env : Env) (t : Expr) (y : V) (lk : Loc) (σ : Sto) (Q : Loc → Sto → Prop) : Prop :=
  ∀ A s μ v Qr Er, AOk A d → HR c s.heap μ σ → FR c env lk s.heap μ → VR s.heap μ y v →
    (∀ s' lk' σ' μ', Q lk' σ' → HR c s'.heap μ' σ' → FR c env lk' s'.heap μ' → Step (own env) μ μ' s s' → Qr () s') → wpAny c.M A (assign t env v) Qr Er s

theorem oka_name {x : Str} {y : V} {QA : Loc → Sto → Prop} (h : QA (put x y lk) σ) (hk : env.kindOf x = some .local ∨ env.kindOf x = some .cell) : OkA c d env (.Name x pos) y lk σ QA := by
  intro A s μ v Qr Er ok r f hv q
  exact wpAny_assign_Name (store_var f r hv hk fun s' r' f' st => q s' _ σ μ h r' f' st)

theorem okx_assign {t e : Expr} (h : Ok c d env e lk σ (fun y σ' => OkA c d env t y lk σ' (fun lk' σ'' => QX .next lk' σ''))) (he : assignEach [t] env = [(false, assign t env)])
    (hs : swapsWithSole [t] e pos.line env = pure false) (hw : swappedStores [t] e env = pure none) : OkX c d env (.Assign [t] e pos) lk σ QX := by
  intro A s μ Qr Er ok r f q
  refine wpAny_Assign_stores (h A s μ _ Er ok r f fun v s₁ y σ₁ μ₁ h₁ r₁ f₁ v₁ st₁ => ?_) hs hw
  rw [he]
  exact h₁ A s₁ μ₁ v _ Er ok r₁ f₁ v₁ fun s₂ lk₂ σ₂ μ₂ h₂ r₂ f₂ st₂ => q .next s₂ .next lk₂ σ₂ μ₂ h₂ r₂ f₂ trivial ((stepOwn st₁).trans st₂)

/-- several targets in order -/
noncomputable def OkAs (c : Ctx) (d : Nat) (env : Env) (ts : List Expr) (ys : List V) (lk : Loc) (σ : Sto) (Q : Loc → Sto → Prop) : Prop :=
  ∀ A s μ vs Qr Er, AOk A d → HR c s.heap μ σ → FR c env lk s.heap μ → VRs s.heap μ ys vs →
    (∀ s' lk' σ' μ', Q lk' σ' → HR c s'.heap μ' σ' → FR c env lk' s'.heap μ' → Step (own env) μ μ' s s' → Qr () s') → wpAny c.M A (assignInOrder ((assignEach ts env).map (·.2)) vs) Qr Er s
theorem okas_nil {QA : Loc → Sto → Prop} (h : QA lk σ) : OkAs c d env [] [] lk σ QA := by
  intro A s μ vs Qr Er ok r f hv q
  cases hv
  exact wpAny_assignInOrder_none (q s lk σ μ h r f (Step.refl _ _ _))
theorem okas_cons {t : Expr} {ts : List Expr} {y : V} {ys : List V} {QA : Loc → Sto → Prop} (h : OkA c d env t y lk σ (fun lk' σ' => OkAs c d env ts ys lk' σ' QA))
    (he : assignEach (t :: ts) env = (false, assign t env) :: assignEach ts env) : OkAs c d env (t :: ts) (y :: ys) lk σ QA := by
  intro A s μ vs Qr Er ok r f hv q
  cases hv with
  | cons h1 h2 =>
    rw [he, List.map_cons]
    refine wpAny_assignInOrder_more (h A s μ _ _ Er ok r f h1 fun s₁ lk₁ σ₁ μ₁ h₁ r₁ f₁ st₁ => ?_)
    exact h₁ A s₁ μ₁ _ Qr Er ok r₁ f₁ (h2.step st₁) fun s₂ lk₂ σ₂ μ₂ g₂ r₂ f₂ st₂ => q s₂ lk₂ σ₂ μ₂ g₂ r₂ f₂ (st₁.trans st₂)

theorem keep_of_extBut {h h' : Heap} (e : Heap.ExtBut h.objs.size h h') : ∀ b o, h.get? b = some o → h'.get? b = some o :=
  fun b o hb => e b o (Nat.ne_of_lt (Heap.lt_size hb)) hb

/-- a tuple unpacked -/
theorem oka_tuple {ts : List Expr} {k : Nat} {ys : List V} {QA : Loc → Sto → Prop} (h : OkAs c d env ts ys lk σ QA) (hn : (assignEach ts env).length = ys.length)
    (hs : (assignEach ts env).findIdx? (·.1) = none) : OkA c d env (.Tuple ts k pos) (.tup ys) lk σ QA := by
  intro A s μ v Qr Er ok r f hv q
  cases hv with
  | tup ho hf hvs =>
    rename_i a vs n
    refine wpAny_assign_Tuple ok.1 ⟨_, ho, rfl, _, rfl⟩ (by rw [hn, hvs.length, List.size_toArray]) hs fun h' he => ?_
    have kp := keep_of_extBut he
    have st : Step (fun _ => False) μ μ s { s with heap := h' } := Step.ofKeep kp rfl rfl
    exact h A { s with heap := h' } μ vs Qr Er ok (r.keep kp) (f.step0 st) (hvs.step st) fun s₁ lk₁ σ₁ μ₁ g r₁ f₁ st₁ => q s₁ lk₁ σ₁ μ₁ g r₁ f₁ ((st.mono fun _ x => x.elim).trans st₁)

/-- a, b = x, y: the stores come in the other order -/
theorem okx_swap {t e : Expr} {names : List Str} (h : Ok c d env e lk σ (fun y σ' => ∃ ys, y = .tup ys ∧ ys.length = names.length ∧
      ∀ lk', lk' = (names.zip ys).reverse.foldl (fun l p => put p.1 p.2 l) lk → QX .next lk' σ'))
    (hs : swapsWithSole [t] e pos.line env = pure false) (hw : swappedStores [t] e env = pure (some names)) (hk : ∀ x ∈ names, env.kindOf x = some .local ∨ env.kindOf x = some .cell) :
    OkX c d env (.Assign [t] e pos) lk σ QX := by
  intro A s μ Qr Er ok r f q
  rw [exec_Assign_arm]
  refine wpAny_bind (wpAny_standAt ?_)
  rw [hs]
  refine wpAny_bind (wpAny_pure ?_)
  rw [if_neg (by decide)]
  refine wpAny_bind (h A s μ _ Er ok r f fun v s₁ y σ₁ μ₁ h₁ r₁ f₁ v₁ st₁ => ?_)
  rw [hw]
  refine wpAny_bind (wpAny_pure ?_)
  obtain ⟨ys, rfl, hl, hq⟩ := h₁
  cases v₁ with
  | tup ho hf hvs =>
    rename_i a vs n
    have hvl : vs.length = names.length := by rw [← hvs.length]; exact hl
    show wpAny c.M A (do
      rule "assign.swapped-stores"
      let items ← unpackItems (.ref a) names.length none
      assignInOrder (names.reverse.map fun n => bindName env n) items.reverse
      pure .next) Qr Er s₁
    refine wpAny_bind (wpAny_rule (wpAny_bind ?_))
    rw [← hvl, ← List.size_toArray]
    refine wpAny_unpackItems_tuple ok.1 ⟨_, ho, rfl, _, rfl⟩ fun h' he => ?_
    have kp := keep_of_extBut he
    have st : Step (fun _ => False) μ₁ μ₁ s₁ { s₁ with heap := h' } := Step.ofKeep kp rfl rfl
    -- the stores
    have gen : ∀ (ns : List Str) (us : List Value) (zs : List V) (lk₀ : Loc) (s₀ : Shared) (Qr₀ : Unit → Shared → Prop), ns.length = us.length → VRs s₀.heap μ₁ zs us → (∀ x ∈ ns, env.kindOf x = some .local ∨ env.kindOf x = some .cell) →
        HR c s₀.heap μ₁ σ₁ → FR c env lk₀ s₀.heap μ₁ →
        (∀ s', HR c s'.heap μ₁ σ₁ → FR c env ((ns.zip zs).foldl (fun l p => put p.1 p.2 l) lk₀) s'.heap μ₁ → Step (own env) μ₁ μ₁ s₀ s' → Qr₀ () s') →
        wpAny c.M A (assignInOrder (ns.map fun n => bindName env n) us) Qr₀ Er s₀ := by
      intro ns
      induction ns with
      | nil =>
        intro us zs lk₀ s₀ Qr₀ hl hv _ r₀ f₀ q₀
        cases us with
        | nil => exact wpAny_assignInOrder_none (q₀ s₀ r₀ f₀ (Step.refl _ _ _))
        | cons _ _ => cases hl
      | cons n ns ih =>
        intro us zs lk₀ s₀ Qr₀ hl hv hk₀ r₀ f₀ q₀
        cases hv with
        | nil => cases hl
        | cons hv1 hv2 =>
          rw [List.map_cons]
          refine wpAny_assignInOrder_more (wpAny_bindName (store_var f₀ r₀ hv1 (hk₀ n (.head _)) fun s' r' f' st' => ?_))
          exact ih _ _ _ s' Qr₀ (Nat.succ.inj hl) (hv2.step st') (fun x hx => hk₀ x (.tail _ hx)) r' f' fun s'' r'' f'' st'' => q₀ s'' r'' f'' (st'.trans st'')
    refine wpAny_bind ?_
    have hzip : ∀ (ns : List Str) (zs : List V), ns.length = zs.length → ns.reverse.zip zs.reverse = (ns.zip zs).reverse := by
      intro ns zs h
      simp only [List.zip]
      exact (List.reverse_zipWith h).symm
    refine gen names.reverse vs.toArray.toList.reverse ys.reverse lk { s₁ with heap := h' } _ (by simp [hvl]) ?_ (fun x hx => hk x (List.mem_reverse.mp hx)) (r₁.keep kp) (f₁.step0 st) ?_
    · have rv : ∀ {xs : List V} {vs : List Value}, VRs h' μ₁ xs vs → VRs h' μ₁ xs.reverse vs.reverse := by
        intro xs vs h
        induction xs generalizing vs with
        | nil => cases h; exact .nil
        | cons x xs ih =>
          cases h with
          | cons a b => simp only [List.reverse_cons]; exact (ih b).append (.cons a .nil)
      exact rv (hvs.step st)
    · intro s' r' f' st'
      refine wpAny_pure (q .next s' .next _ σ₁ μ₁ (hq _ ?_) r' f' trivial ((stepOwn st₁).trans ((st.mono fun _ x => x.elim).trans st')))
      rw [hzip names ys hl.symm]
end

-- C5

noncomputable def rangeV (x step : Int) : Nat → List V
  | 0 => []
  | n + 1 => .int x :: rangeV (x + step) step n
noncomputable def enumV (i : Nat) : List V → List V
  | [] => []
  | x :: xs => .tup [.int i, x] :: enumV (i + 1) xs
noncomputable def signV (l : List Nat) : List V := l.map fun c => .str ⟨#[c]⟩

/-- an iterator in the heap: its source's condition, its addresses, what it will yield -/
inductive ItR (h : Heap) (μ : AMap) : (Sto → Prop) → List Addr → Addr → List V → Prop
  | listF {it l : Addr} {i n : Nat} {vs : List Value} {xs : List V} : h.IsListIter it l i → h.get? l = some (lstO vs.toArray n) → Frz μ l → VRs h μ xs (vs.drop i) → ItR h μ (fun _ => True) [it] it xs
  | listC {it : Addr} {k i : Nat} {p : Addr × Addr} {all : List V} : h.IsListIter it p.1 i → μ.1 k = some p → ItR h μ (fun σ => σ k = some (.list all)) [it] it (all.drop i)
  | tup {it l : Addr} {i n : Nat} {vs : List Value} {xs : List V} : h.IsTupleIter it l i → h.get? l = some (tupO vs.toArray n) → Frz μ l → VRs h μ xs (vs.drop i) → ItR h μ (fun _ => True) [it] it xs
  | range {it : Addr} {x step : Int} {n : Nat} : IsRangeIter h it x n step → ItR h μ (fun _ => True) [it] it (rangeV x step n)
  | sign {it : Addr} {x : Str} {t : Tok} {i : Nat} : h.IsStrIter it "str_ascii_iterator" x t i → ItR h μ (fun _ => True) [it] it (signV (x.cps.toList.drop i))
  | enumF {e it l : Addr} {i n : Nat} {old : Value} {vs : List Value} {xs : List V} : e ≠ it → IsEnum h e it i old → h.IsListIter it l i → h.get? l = some (lstO vs.toArray n) → Frz μ l → VRs h μ xs (vs.drop i) →
      ItR h μ (fun _ => True) [e, it] e (enumV i xs)
  | enumC {e it : Addr} {k i : Nat} {p : Addr × Addr} {old : Value} {all : List V} : e ≠ it → IsEnum h e it i old → h.IsListIter it p.1 i → μ.1 k = some p →
      ItR h μ (fun σ => σ k = some (.list all)) [e, it] e (enumV i (all.drop i))

theorem VRs.heads {h : Heap} {μ : AMap} {x : V} {xs : List V} {vs : List Value} {i : Nat} (r : VRs h μ (x :: xs) (vs.drop i)) : ∃ v, vs[i]? = some v ∧ VR h μ x v ∧ VRs h μ xs (vs.drop (i + 1)) :=
  r.heads'.elim fun v q => q.elim fun ws q => ⟨v, by rw [← List.head?_drop, q.1]; rfl, q.2.1, by rw [← List.tail_drop, q.1]; exact q.2.2⟩
theorem VRs.ends {h : Heap} {μ : AMap} {vs : List Value} {i : Nat} (r : VRs h μ [] (vs.drop i)) : vs[i]? = none := by rw [← List.head?_drop, r.nil']; rfl

section
variable {c : Ctx} {d : Nat} {env : Env} {lk : Loc} {σ : Sto} {pos : Pos}

theorem no_seq_fields {h : Heap} {b : Addr} {o : Obj} {vs : Array Value} (ho : h.get? b = some o) (hd : o.data = .fields vs) {C dd us n sl} : h.get? b ≠ some ⟨C, dd, .seq us n, sl⟩ :=
  fun e => nomatch hd.symm.trans (congrArg Obj.data (some_ne ho e))

theorem ItR.at {h h' : Heap} {μ μ' : AMap} {S : Sto → Prop} {fp : List Addr} {it : Addr} {xs : List V} (I : ItR h μ S fp it xs) (kp : ∀ b ∈ fp, ∀ o, h.get? b = some o → h'.get? b = some o)
    (K : Kp h h' μ μ') : ItR h' μ' S fp it xs :=
  ItR.rec (motive := fun S fp it xs _ => (∀ b ∈ fp, ∀ o, h.get? b = some o → h'.get? b = some o) → ItR h' μ' S fp it xs)
    (fun a b f r kp => .listF (a.imp fun _ q => ⟨kp _ (.head _) _ q.1, q.2⟩) (K.1 _ _ _ _ f b).1 (K.1 _ _ _ _ f b).2 (r.at K))
    (fun a b kp => .listC (a.imp fun _ q => ⟨kp _ (.head _) _ q.1, q.2⟩) (K.2 _ _ b))
    (fun a b f r kp => .tup (a.imp fun _ q => ⟨kp _ (.head _) _ q.1, q.2⟩) (K.1 _ _ _ _ f b).1 (K.1 _ _ _ _ f b).2 (r.at K))
    (fun a kp => .range (kp _ (.head _) _ a))
    (fun a kp => .sign (a.imp fun _ q => ⟨kp _ (.head _) _ q.1, q.2⟩))
    (fun ne a0 a b f r kp => .enumF ne (kp _ (.head _) _ a0) (a.imp fun _ q => ⟨kp _ (.tail _ (.head _)) _ q.1, q.2⟩) (K.1 _ _ _ _ f b).1 (K.1 _ _ _ _ f b).2 (r.at K))
    (fun ne a0 a b kp => .enumC ne (kp _ (.head _) _ a0) (a.imp fun _ q => ⟨kp _ (.tail _ (.head _)) _ q.1, q.2⟩) (K.2 _ _ b)) I kp

theorem ItR.step {X : Addr → Prop} {s s' : Shared} {μ μ' : AMap} {S : Sto → Prop} {fp : List Addr} {it : Addr} {xs : List V} (I : ItR s.heap μ S fp it xs) (st : Step X μ μ' s s') (hf : ∀ b ∈ fp, Frz μ b ∧ ¬ X b) : ItR s'.heap μ' S fp it xs :=
  I.at (fun b hb o e => st.keep b o (hf b hb).1 (hf b hb).2 e) st.kp

/-- the changes at an iterator's own addresses touch nothing else -/
theorem fp_step {s s' : Shared} {μ : AMap} {fp : List Addr} (f : FR c env lk s.heap μ) (r : HR c s.heap μ σ) (hf : ∀ b ∈ fp, Frz μ b ∧ ¬ own env b ∧ c.H0.get? b = none ∧ ∀ c d vs n sl, s.heap.get? b ≠ some ⟨c, d, .seq vs n, sl⟩)
    (k : ∀ b o, b ∉ fp → s.heap.get? b = some o → s'.heap.get? b = some o) : HR c s'.heap μ σ ∧ FR c env lk s'.heap μ ∧ Kp s.heap s'.heap μ μ :=
  have K : Kp s.heap s'.heap μ μ := .but (X := (· ∈ fp)) k fun b hb _ => (hf b hb).2.2.2
  ⟨r.but (X := (· ∈ fp)) (fun b hb => ⟨(hf b hb).1, (hf b hb).2.2.1⟩) K k, f.at K fun a o ho fz e => ⟨k a o (fun hb => (hf a hb).2.1 ho) e, fz⟩, K⟩

noncomputable def pairTarget : Expr → Bool
  | .Tuple .. => true
  | _ => false

theorem pair_is {t : Expr} (h : pairTarget t = true) : ∃ elts x1 tp, t = .Tuple elts x1 tp := by
  cases t <;> first | exact ⟨_, _, _, rfl⟩ | exact absurd h Bool.false_ne_true
theorem letGo_plain {A : Around} {s : Shared} {Qr : Unit → Shared → Prop} {Er : Value → Shared → Prop} {target : Expr} {it : Addr} {v : Value} {o : Obj} {n : String} {vs : Array Value} (ho : s.heap.get? it = some o) (hc : o.cls = .type n) (hd : o.data = .fields vs)
    (hn : (["enumerate", "zip", "dict_itemiterator", "dict_reverseitemiterator", "odict_iterator", "itertools.zip_longest", "itertools.pairwise"] : List String).contains n = false) (h : Qr () s) :
    wpAny c.M A (letOwnedTupleGo target (.ref it) v) Qr Er s := by
  have pl : wpAny c.M A (pure ()) Qr Er s := wpAny_pure h
  have ld : ∀ a : Addr, wpAny c.M A (do
      let o ← load it
      match o.cls, o.data with
      | .type n, .fields vs =>
        if ["enumerate", "zip", "dict_itemiterator", "dict_reverseitemiterator", "odict_iterator", "itertools.zip_longest", "itertools.pairwise"].contains n && vs[0]? == some (rawInt a) then
          rule "for.unpacks-the-owned-tuple"
          updateField it 0 .none
      | _, _ => pure ()) Qr Er s := fun a => by
    refine wpAny_bind (wpAny_load ho ?_)
    rw [hc, hd]
    dsimp only
    rw [hn]
    exact pl
  unfold letOwnedTupleGo
  cases target <;> first | exact pl | (cases v <;> first | exact pl | exact ld _)

theorem notin1 {b a : Addr} (h : b ∉ [a]) : b ≠ a := fun e => h (e ▸ .head _)
theorem notin2 {b a a' : Addr} (h : b ∉ [a, a']) : b ≠ a ∧ b ≠ a' := ⟨fun e => h (e ▸ .head _), fun e => h (e ▸ .tail _ (.head _))⟩

section
variable {A : Around} {s : Shared} {μ : AMap} {S : Sto → Prop} {fp : List Addr} {it l : Addr} {xs : List V} {target : Expr} {P : Value → Shared → Prop} {N : Shared → Prop} {Er Er' : Value → Shared → Prop} {R : Option Value → Shared → Prop} {vs : Array Value} {i n : Nat}
/-- what a turn must answer -/
noncomputable def TurnP (s : Shared) (μ : AMap) (S : Sto → Prop) (fp : List Addr) (it : Addr) (xs : List V) (P : Value → Shared → Prop) : Prop :=
  ∀ y ys v s', xs = y :: ys → VR s'.heap μ y v → ItR s'.heap μ S fp it ys → (∀ b o, b ∉ fp → s.heap.get? b = some o → s'.heap.get? b = some o) → (∀ b ∈ fp, ∃ o vs, s'.heap.get? b = some o ∧ o.data = .fields vs) → s'.gens = s.gens → s'.os = s.os → P v s'
noncomputable def TurnN (s : Shared) (fp : List Addr) (xs : List V) (N : Shared → Prop) : Prop :=
  ∀ s', xs = [] → (∀ b o, b ∉ fp → s.heap.get? b = some o → s'.heap.get? b = some o) → s'.gens = s.gens → s'.os = s.os → N s'
noncomputable def TurnR (c : Ctx) (A : Around) (target : Expr) (it : Addr) (P : Value → Shared → Prop) (N : Shared → Prop) (Er' : Value → Shared → Prop) (res : Option Value) (s₁ : Shared) : Prop := match res with
  | none => N s₁
  | some v => wpAny c.M A (letOwnedTupleGo target (.ref it) v) (fun _ s₁' => P v s₁') Er' s₁
theorem turn_end (hN : TurnN s [it] xs N) (hx : xs = []) (h' : Heap) (e : Heap.ExtBut it s.heap h') : TurnR c A target it P N Er' none { s with heap := h' } := hN _ hx (fun b o hb h => e b o (notin1 hb) h) rfl rfl
theorem turn_item (hp : TurnP s μ S [it] it xs P) {y : V} {ys : List V} {v : Value} {h' : Heap} {o : Obj} {n : String} {us : Array Value} {tk : Nat} (hx : xs = y :: ys) (hs : Heap.SameBut it s.heap h') (hv : VR h' μ y v) (I : ItR h' μ S [it] it ys) (ho : h'.get? it = some o) (hc : o.cls = .type n) (hd : o.data = .fields us)
    (hn : (["enumerate", "zip", "dict_itemiterator", "dict_reverseitemiterator", "odict_iterator", "itertools.zip_longest", "itertools.pairwise"] : List String).contains n = false) : TurnR c A target it P N Er' (some v) { s with heap := h', toks := tk } :=
  letGo_plain (s := { s with heap := h', toks := tk }) ho hc hd hn (hp y ys v _ hx hv I (fun b o hb h => (hs.2 b (notin1 hb)).trans h) (fun b hb => ⟨o, us, List.mem_singleton.mp hb ▸ ho, hd⟩) rfl rfl)
theorem kp_same {h h' : Heap} {o : Obj} {us : Array Value} (hs : Heap.SameBut it h h') (ho : h.get? it = some o) (hd : o.data = .fields us) : Kp h h' μ μ :=
  .but (X := (· = it)) (fun b o hb e => (hs.2 b hb).trans e) fun b hb _ C d vs n sl => hb ▸ no_seq_fields ho hd
/-- the items of a list, of a tuple -/
theorem turn_list (hh : A.handled = none) (a : s.heap.IsListIter it l i) (b : s.heap.get? l = some (lstO vs n)) (q : VRs s.heap μ xs (vs.toList.drop i)) (hp : TurnP s μ S [it] it xs P) (hN : TurnN s [it] xs N)
    (mk : ∀ y ys h', xs = y :: ys → Kp s.heap h' μ μ → VRs s.heap μ ys (vs.toList.drop (i + 1)) → h'.IsListIter it l (i + 1) → ItR h' μ S [it] it ys) : wpAny c.M A (pyNext (.ref it)) (TurnR c A target it P N Er') Er s := by
  cases xs with
  | nil => exact wpAny_pyNext_list_end hh a ⟨_, b, rfl, _, rfl⟩ (Array.getElem?_toList ▸ q.ends) (turn_end hN rfl)
  | cons y ys =>
    obtain ⟨v, e1, e2, e3⟩ := q.heads
    refine wpAny_pyNext_list_item a ⟨_, b, rfl, _, rfl⟩ (Array.getElem?_toList ▸ e1) fun h' hit hs => ?_
    have K : Kp s.heap h' μ μ := a.elim fun _ z => kp_same hs z.1 z.2.2
    exact hit.elim fun o z => turn_item (tk := s.toks) hp rfl hs (e2.at K) (mk y ys h' rfl K e3 hit) z.1 z.2.1 z.2.2 (by decide)
theorem turn_tup (hh : A.handled = none) (a : s.heap.IsTupleIter it l i) (b : s.heap.get? l = some (tupO vs n)) (q : VRs s.heap μ xs (vs.toList.drop i)) (hp : TurnP s μ S [it] it xs P) (hN : TurnN s [it] xs N)
    (mk : ∀ y ys h', xs = y :: ys → Kp s.heap h' μ μ → VRs s.heap μ ys (vs.toList.drop (i + 1)) → h'.IsTupleIter it l (i + 1) → ItR h' μ S [it] it ys) : wpAny c.M A (pyNext (.ref it)) (TurnR c A target it P N Er') Er s := by
  cases xs with
  | nil => exact wpAny_pyNext_tuple_end hh a ⟨_, b, rfl, _, rfl⟩ (Array.getElem?_toList ▸ q.ends) (turn_end hN rfl)
  | cons y ys =>
    obtain ⟨v, e1, e2, e3⟩ := q.heads
    refine wpAny_pyNext_tuple_item a ⟨_, b, rfl, _, rfl⟩ (Array.getElem?_toList ▸ e1) fun h' hit hs => ?_
    have K : Kp s.heap h' μ μ := a.elim fun _ z => kp_same hs z.1 z.2.2
    exact hit.elim fun o z => turn_item (tk := s.toks) hp rfl hs (e2.at K) (mk y ys h' rfl K e3 hit) z.1 z.2.1 z.2.2 (by decide)
theorem turn_range (hh : A.handled = none) {x step : Int} (a : IsRangeIter s.heap it x n step) (hp : TurnP s μ (fun _ => True) [it] it (rangeV x step n) P) (hN : TurnN s [it] (rangeV x step n) N) : wpAny c.M A (pyNext (.ref it)) (TurnR c A target it P N Er') Er s := by
  cases n with
  | zero => exact wpAny_pyNext_range_end hh a (Int.le_refl 0) (turn_end hN rfl)
  | succ n =>
    refine wpAny_pyNext_range_item a (Int.natCast_pos.mpr (Nat.succ_pos n)) fun h' hit hs => ?_
    rw [show ((n + 1 : Nat) : Int) - 1 = (n : Int) from Int.add_sub_cancel (n : Int) 1] at hit
    exact turn_item hp rfl hs (.int _ _) (.range hit) hit rfl rfl (by decide)
theorem turn_sign (hh : A.handled = none) {x : Str} {t : Tok} (a : s.heap.IsStrIter it "str_ascii_iterator" x t i) (hp : TurnP s μ (fun _ => True) [it] it (signV (x.cps.toList.drop i)) P) (hN : TurnN s [it] (signV (x.cps.toList.drop i)) N) : wpAny c.M A (pyNext (.ref it)) (TurnR c A target it P N Er') Er s := by
  cases hx : x.cps.toList.drop i with
  | nil => exact wpAny_pyNext_ascii_end hh a (by rw [← Array.getElem?_toList, ← List.head?_drop, hx]; rfl) (turn_end hN (hx ▸ rfl))
  | cons y ys =>
    refine wpAny_pyNext_ascii_item a (by rw [← Array.getElem?_toList, ← List.head?_drop, hx]; rfl) fun h' hit hs => ?_
    have hys : x.cps.toList.drop (i + 1) = ys := by rw [← List.tail_drop, hx]; rfl
    exact hit.elim fun o z => turn_item (ys := signV ys) hp (hx ▸ rfl) hs (.str _ _) (hys ▸ .sign hit) z.1 z.2.1 z.2.2 (by decide)
/-- the pairs of an enumeration -/
theorem turn_enum {e : Addr} {old : Value} (hh : A.handled = none) (ne : e ≠ it) (a0 : IsEnum s.heap e it i old) (a : s.heap.IsListIter it l i) (b : s.heap.get? l = some (lstO vs n)) (q : VRs s.heap μ xs (vs.toList.drop i)) (r : HR c s.heap μ σ) (pt : pairTarget target = true)
    (hp : TurnP s μ S [e, it] e (enumV i xs) P) (hN : TurnN s [e, it] (enumV i xs) N)
    (mk : ∀ y ys h' old', xs = y :: ys → Kp s.heap h' μ μ → VRs s.heap μ ys (vs.toList.drop (i + 1)) → IsEnum h' e it ((i : Int) + 1) old' → h'.IsListIter it l (i + 1) → ItR h' μ S [e, it] e (enumV (i + 1) ys)) : wpAny c.M A (pyNext (.ref e)) (TurnR c A target e P N Er') Er s := by
  cases xs with
  | nil =>
    refine wpAny_bind (wpAny_attempt (wpAny_callSpecial?_slot (name := Str.ofString "__next__") (T := "enumerate") ⟨_, a0, rfl⟩ F.slot_enumerate_next
      (wpAny_call_entry F.slot_enumerate_next ⟨_, a0, rfl⟩ F.entry_enumerate_next ?_ (F.args_enumerate_next_1 _))))
    show wpAny _ _ (field (.ref e) 2 >>= _) _ _ _
    refine wpAny_bind (wpAny_field a0 rfl (x := .ref it) rfl ?_)
    refine wpAny_bind (wpAny_nextOf_list_end (show A.in1.handled = none from hh) a ⟨_, b, rfl, _, rfl⟩ (Array.getElem?_toList ▸ q.ends) fun h' x he' hx' => ?_)
    exact wpAny_bind (wpAny_isInstance (T := "StopIteration") (b := true) hx' isSubtype_stop (wpAny_pure (hN _ rfl (fun b o hb h => he' b o (notin2 hb).2 h) rfl rfl)))
  | cons y ys =>
    obtain ⟨v, e1, e2, e3⟩ := q.heads
    refine wpAny_pyNext_enum_item a0 a ⟨_, b, rfl, _, rfl⟩ (Array.getElem?_toList ▸ e1) ne fun h' he hit hta hsz kp => ?_
    obtain ⟨elts, x1, tp, rfl⟩ := pair_is pt
    refine wpAny_letOwnedTupleGo_enum he fun h'' he'' hs'' => ?_
    have kq : ∀ b o, b ∉ [e, it] → s.heap.get? b = some o → h''.get? b = some o := fun b o h1 e => (hs''.2 b (notin2 h1).1).trans (kp b o (notin2 h1).1 (notin2 h1).2 e)
    have K : Kp s.heap h'' μ μ := .but (X := (· ∈ [e, it])) kq fun b hb _ C d vs n sl => (List.mem_cons.mp hb).elim (fun q => q ▸ no_seq_fields a0 rfl) fun hb => a.elim fun o z => List.mem_singleton.mp hb ▸ no_seq_fields z.1 z.2.2
    have htup : h''.get? s.heap.objs.size = some (tupO #[.int i s.toks, v] 0) := (hs''.2 _ (Nat.ne_of_gt (Heap.lt_size a0))).trans hta
    have hit'' : h''.IsListIter it l (i + 1) := hit.imp fun o z => ⟨(hs''.2 it (Ne.symm ne)).trans z.1, z.2⟩
    exact hp _ (enumV (i + 1) ys) _ _ rfl (.tup htup (frz_size r) (.cons (.int _ _) (.cons (e2.at K) .nil))) (mk y ys h'' _ rfl K e3 he'' hit'') kq (fun b hb => (List.mem_cons.mp hb).elim (fun q => ⟨_, _, q ▸ he'', rfl⟩) fun hb => hit''.imp fun o z => ⟨_, List.mem_singleton.mp hb ▸ z.1, z.2.2⟩) rfl rfl
theorem drop_tail {all : List V} {y : V} {ys : List V} (h : all.drop i = y :: ys) : all.drop (i + 1) = ys := by rw [← List.tail_drop, h]; rfl
/-- a turn of an iterator: the next item, with the tuple that it owns let go -/
theorem itr_turn (hh : A.handled = none) (I : ItR s.heap μ S fp it xs) (r : HR c s.heap μ σ) (hS : S σ) (ht : fp.length = 2 → pairTarget target = true) (hp : TurnP s μ S fp it xs P) (hN : TurnN s fp xs N) :
    wpAny c.M A (pyNext (.ref it)) (TurnR c A target it P N Er') Er s :=
  ItR.rec (motive := fun S fp it xs _ => S σ → (fp.length = 2 → pairTarget target = true) → TurnP s μ S fp it xs P → TurnN s fp xs N → wpAny c.M A (pyNext (.ref it)) (TurnR c A target it P N Er') Er s)
    (fun a b f q _ _ hp hN => turn_list hh a b q hp hN fun y ys h' _ K e3 hit => .listF hit (K.1 _ _ _ _ f b).1 f (e3.at K))
    (fun a b hS _ hp hN => (r.cell _ _ _ hS b).2.elim fun vs z => z.elim fun n z => turn_list hh a z.1 (z.2.drop _) hp hN fun y ys h' hx K e3 hit => drop_tail hx ▸ .listC hit b)
    (fun a b f q _ _ hp hN => turn_tup hh a b q hp hN fun y ys h' _ K e3 hit => .tup hit (K.1 _ _ _ _ f b).1 f (e3.at K))
    (fun a _ _ hp hN => turn_range hh a hp hN)
    (fun a _ _ hp hN => turn_sign hh a hp hN)
    (fun ne a0 a b f q _ ht hp hN => turn_enum hh ne a0 a b q r (ht rfl) hp hN fun y ys h' old' _ K e3 he hit => .enumF ne he hit (K.1 _ _ _ _ f b).1 f (e3.at K))
    (fun ne a0 a b hS ht hp hN => (r.cell _ _ _ hS b).2.elim fun vs z => z.elim fun n z => turn_enum hh ne a0 a z.1 (z.2.drop _) r (ht rfl) hp hN fun y ys h' old' hx K e3 he hit => drop_tail hx ▸ .enumC ne he hit b) I hS ht hp hN
end
end

-- C6

noncomputable def Sub (a b : Loc) : Prop := ∀ x y, a.lookup x = some y → b.lookup x = some y
theorem Sub.refl (a : Loc) : Sub a a := fun _ _ h => h

section
variable {c : Ctx} {d : Nat} {env : Env} {lk : Loc} {σ : Sto} {pos : Pos} {QX : Fl → Loc → Sto → Prop}

/-- where an iterator's addresses stand: not there at first -/
noncomputable def FpOk (c : Ctx) (env : Env) (s s' : Shared) (μ' : AMap) (fp : List Addr) : Prop := ∀ b ∈ fp, s.heap.get? b = none ∧ Frz μ' b ∧ ∃ o vs, s'.heap.get? b = some o ∧ o.data = .fields vs

/-- the source of a loop: its expression, and the iterator taken of it -/
noncomputable def OkIt (c : Ctx) (d : Nat) (env : Env) (e : Expr) (lk : Loc) (σ : Sto) (pt : Bool) (Q : (Sto → Prop) → List V → Sto → Prop) : Prop :=
  ∀ A s μ Qr Er, AOk A d → HR c s.heap μ σ → FR c env lk s.heap μ →
    (∀ it s' S fp xs σ' μ', Q S xs σ' → HR c s'.heap μ' σ' → FR c env lk s'.heap μ' → Step (own env) μ μ' s s' → ItR s'.heap μ' S fp it xs → FpOk c env s s' μ' fp → (fp.length = 2 → pt = true) → Qr (.ref it) s') →
    wpAny c.M A (eval e env) (fun x s₁ => wpAny c.M A (pyIter x) Qr Er s₁) Er s

noncomputable def LoopOk (c : Ctx) (d : Nat) (env : Env) (target : Expr) (body : List Stmt) (S : Sto → Prop) (Q : Fl → Loc → Sto → Prop) : List V → Loc → Sto → Prop
  | [], lk, σ => ∃ lk', Sub lk' lk ∧ Q .next lk' σ
  | x :: xs, lk, σ => OkA c d env target x lk σ (fun lk₁ σ₁ => OkB c d env body lk₁ σ₁ (fun fl lk₂ σ₂ => match fl with
      | .next => S σ₂ ∧ ∃ lk', Sub lk' lk₂ ∧ LoopOk c d env target body S Q xs lk' σ₂
      | .cont => S σ₂ ∧ ∃ lk', Sub lk' lk₂ ∧ LoopOk c d env target body S Q xs lk' σ₂
      | .brk => Q .next lk₂ σ₂
      | .ret y => Q (.ret y) lk₂ σ₂))

theorem step_fp {X : Addr → Prop} {μ μ' : AMap} {s s₁ s₂ : Shared} {fp : List Addr} (st : Step X μ μ' s s₁) (hf : ∀ b ∈ fp, s.heap.get? b = none) (k : ∀ b o, b ∉ fp → s₁.heap.get? b = some o → s₂.heap.get? b = some o)
    (hg : s₂.gens = s₁.gens) (ho : s₂.os = s₁.os) : Step X μ μ' s s₂ :=
  have nf : ∀ {b o}, s.heap.get? b = some o → b ∉ fp := fun e hb => nomatch ((hf _ hb).symm.trans e : none = some _)
  ⟨fun b o f x e => k b o (nf e) (st.keep b o f x e), fun b c vs n f e => k b _ (nf e) (st.seq b c vs n f e), fun b o e => (st.live b o e).imp fun o' => k b o' (nf e), st.ext, st.new, st.hid, fun b o hh e => k b o (nf e) (st.hkeep b o hh e), hg.trans st.gens, ho.trans st.os⟩

theorem own_occ {h : Heap} {μ : AMap} (f : FR c env lk h μ) {a : Addr} (ha : own env a) : ∃ o, h.get? a = some o :=
  ha.elim (fun e => e ▸ f.ns.elim fun _ n => n.1.imp fun _ n => n.elim fun _ n => n.elim fun _ n => n.1) fun z => z.elim fun x hx => (f.cell x a hx).2.2.2.elim fun _ n => n.1.imp fun _ n => n.1
theorem none_own {h : Heap} {μ : AMap} (f : FR c env lk h μ) {a : Addr} (ha : h.get? a = none) (o : own env a) : False := (own_occ f o).elim fun o e => nomatch (ha.symm.trans e : none = some o)
theorem none_base {h : Heap} {μ : AMap} (r : HR c h μ σ) {a : Addr} (ha : h.get? a = none) : c.H0.get? a = none := by
  cases e : c.H0.get? a with
  | none => rfl
  | some o => exact nomatch (ha.symm.trans (r.base a o e) : none = some o)
noncomputable def FpOk2 (s' : Shared) (μ' : AMap) (fp : List Addr) : Prop := ∀ b ∈ fp, Frz μ' b ∧ ∃ o vs, s'.heap.get? b = some o ∧ o.data = .fields vs
theorem fp_facts {s s₂ : Shared} {μ μ₂ : AMap} {fp : List Addr} (f : FR c env lk s.heap μ) (r : HR c s.heap μ σ) (h0 : ∀ b ∈ fp, s.heap.get? b = none) (h2 : FpOk2 s₂ μ₂ fp) :
    ∀ b ∈ fp, Frz μ₂ b ∧ ¬ own env b ∧ c.H0.get? b = none ∧ ∀ c d vs n sl, s₂.heap.get? b ≠ some ⟨c, d, .seq vs n, sl⟩ :=
  fun b hb => ⟨(h2 b hb).1, none_own f (h0 b hb), none_base r (h0 b hb), (h2 b hb).2.elim fun o z => z.elim fun us z _ _ _ _ _ => no_seq_fields z.1 z.2⟩
theorem fp_step2 {X : Addr → Prop} {s s' : Shared} {μ μ' : AMap} {fp : List Addr} (st : Step X μ μ' s s') (hx : ∀ b ∈ fp, ¬ X b) (hf : ∀ b ∈ fp, Frz μ b) (h : ∀ b ∈ fp, ∃ o vs, s.heap.get? b = some o ∧ o.data = .fields vs) : FpOk2 s' μ' fp :=
  fun b hb => (h b hb).elim fun o z => z.elim fun us z => ⟨st.frz z.1 (hf b hb), o, us, st.keep b o (hf b hb) (hx b hb) z.1, z.2⟩

/-- where a loop stands -/
structure LoopI (c : Ctx) (d : Nat) (env : Env) (target : Expr) (body : List Stmt) (S : Sto → Prop) (Q : Fl → Loc → Sto → Prop) (s : Shared) (μ : AMap) (fp : List Addr) (it : Addr) (s' : Shared) (xs : List V) (lk : Loc) (σ : Sto) (μ' : AMap) : Prop where
  l : LoopOk c d env target body S Q xs lk σ
  hS : S σ
  r : HR c s'.heap μ' σ
  f : FR c env lk s'.heap μ'
  I : ItR s'.heap μ' S fp it xs
  st : Step (own env) μ μ' s s'
  fl : FpOk2 s' μ' fp

theorem okx_for {target iter : Expr} {body : List Stmt} (h : OkIt c d env iter lk σ (pairTarget target) (fun S xs σ' => S σ' ∧ LoopOk c d env target body S QX xs lk σ'))
    (hs : ∀ x, foldedSetIterable iter env x = pure x) : OkX c d env (.For target iter body [] pos) lk σ QX := by
  intro A s μ Qr Er ok r f q
  refine wpAny_For (h A s μ _ Er ok r f fun it s₁ S fp xs σ₁ μ₁ h₁ r₁ f₁ st₁ I₁ hfp hpt => ?_) hs
  refine codeAny_forLoop_any (fun n s' => ∃ xs lk' σ' μ', xs.length = n ∧ LoopI c d env target body S QX s μ fp it s' xs lk' σ' μ') ?_ xs.length ⟨xs, lk, σ₁, μ₁, rfl, h₁.2, h₁.1, r₁, f₁, I₁, st₁, fun b hb => (hfp b hb).2⟩
  rintro n s₂ ⟨xs, lk₂, σ₂, μ₂, rfl, z⟩
  have h0 : ∀ b ∈ fp, s.heap.get? b = none := fun b hb => (hfp b hb).1
  have hf2 := fp_facts f r h0 z.fl
  refine itr_turn ok.1 z.I z.r z.hS hpt (fun y ys v s₃ hx hv I₃ kp hfl hg ho => ?_) (fun s₃ hx kp hg ho => ?_)
  · have g := fp_step (s' := s₃) z.f z.r hf2 kp
    have st₃ : Step (own env) μ μ₂ s s₃ := step_fp z.st h0 kp hg ho
    have hl := z.l
    subst hx
    refine hl A s₃ μ₂ v _ _ ok g.1 g.2.1 hv fun s₄ lk₄ σ₄ μ₄ h₄ r₄ f₄ st₄ => ?_
    refine h₄ A s₄ μ₄ _ _ ok r₄ f₄ fun fl s₅ w lk₅ σ₅ μ₅ h₅ r₅ f₅ v₅ st₅ => ?_
    have st35 := st₄.trans st₅
    have fin : (S σ₅ ∧ ∃ lk', Sub lk' lk₅ ∧ LoopOk c d env target body S QX ys lk' σ₅) → ∃ m, m < (y :: ys).length ∧ ∃ xs lk' σ' μ', xs.length = m ∧ LoopI c d env target body S QX s μ fp it s₅ xs lk' σ' μ' := fun h =>
      h.2.elim fun lk' h' => ⟨ys.length, Nat.lt_succ_self _, ys, lk', σ₅, μ₅, rfl, h'.2, h.1, r₅, f₅.weak h'.1, I₃.step st35 (fun b hb => ⟨(z.fl b hb).1, (hf2 b hb).2.1⟩), st₃.trans st35, fp_step2 st35 (fun b hb => (hf2 b hb).2.1) (fun b hb => (z.fl b hb).1) hfl⟩
    cases w with
    | next => cases fl <;> first | exact v₅.elim | exact fin h₅
    | cont => cases fl <;> first | exact v₅.elim | exact fin h₅
    | brk => cases fl <;> first | exact v₅.elim | exact q .next s₅ .next lk₅ σ₅ μ₅ h₅ r₅ f₅ trivial (st₃.trans st35)
    | ret y => cases fl <;> first | exact v₅.elim | exact q _ s₅ (.ret y) lk₅ σ₅ μ₅ h₅ r₅ f₅ v₅ (st₃.trans st35)
  · have g := fp_step (s' := s₃) z.f z.r hf2 kp
    have hl := z.l
    subst hx
    exact hl.elim fun lk' h => wpAny_execs_nil (q .next s₃ .next lk' σ₂ μ₂ h.2 g.1 (g.2.1.weak h.1) trivial (step_fp z.st h0 kp hg ho))

/-- a new object's address -/
theorem push_fp {X : Addr → Prop} {s s₁ : Shared} {μ μ₁ : AMap} (st : Step X μ μ₁ s s₁) (r₁ : HR c s₁.heap μ₁ σ) (o : Obj) {us : Array Value} (hd : o.data = .fields us) (hfr : o.isFreed = false) : FpOk c env s { s₁ with heap := s₁.heap.push o } μ₁ [s₁.heap.objs.size] :=
  fun b hb => List.mem_singleton.mp hb ▸ ⟨st.back (none_size _), frz_size r₁, o, us, Heap.get?_push_size _ hfr, hd⟩
theorem len1_ne {a : Addr} {p : Prop} (h : [a].length = 2) : p := nomatch h
theorem Kp.push {h : Heap} {μ : AMap} (o : Obj) : Kp h (h.push o) μ μ := .all fun _ _ e => Heap.get?_push_of_some o e

/-- sources -/
theorem okit_val {e : Expr} {pt : Bool} {QI : (Sto → Prop) → List V → Sto → Prop} (h : Ok c d env e lk σ (fun y σ' => ∃ xs, (y = .tup xs ∨ y = .lst xs) ∧ QI (fun _ => True) xs σ')) : OkIt c d env e lk σ pt QI := by
  intro A s μ Qr Er ok r f q
  refine h A s μ _ Er ok r f fun v s₁ y σ₁ μ₁ h₁ r₁ f₁ v₁ st₁ => ?_
  obtain ⟨xs, hy, hq⟩ := h₁
  rcases hy with rfl | rfl
  · obtain ⟨a, vs, n, rfl, ho, hf, hvs⟩ := v₁.tup'
    exact wpAny_pyIter_tuple ⟨_, ho, rfl, _, rfl⟩ (q _ { s₁ with heap := s₁.heap.push _ } _ _ _ σ₁ μ₁ hq (r₁.push _) (f₁.push _) (st₁.trans (Step.push _)) (.tup (i := 0) ⟨_, Heap.get?_push_size _ rfl, rfl, rfl⟩ (Heap.get?_push_of_some _ ho) hf (hvs.at (.push _))) (push_fp st₁ r₁ _ rfl rfl) len1_ne)
  · obtain ⟨a, vs, n, rfl, ho, hf, hvs⟩ := v₁.lst'
    exact wpAny_pyIter_list ⟨_, ho, rfl, _, rfl⟩ (q _ { s₁ with heap := s₁.heap.push _ } _ _ _ σ₁ μ₁ hq (r₁.push _) (f₁.push _) (st₁.trans (Step.push _)) (.listF (i := 0) ⟨_, Heap.get?_push_size _ rfl, rfl, rfl⟩ (Heap.get?_push_of_some _ ho) hf (hvs.at (.push _))) (push_fp st₁ r₁ _ rfl rfl) len1_ne)

theorem okit_cell {e : Expr} {pt : Bool} {QI : (Sto → Prop) → List V → Sto → Prop} (h : Ok c d env e lk σ (fun y σ' => ∃ k xs, y = .ref k ∧ σ' k = some (.list xs) ∧ QI (fun σ => σ k = some (.list xs)) xs σ')) : OkIt c d env e lk σ pt QI := by
  intro A s μ Qr Er ok r f q
  refine h A s μ _ Er ok r f fun v s₁ y σ₁ μ₁ h₁ r₁ f₁ v₁ st₁ => ?_
  obtain ⟨k, xs, rfl, hk, hq⟩ := h₁
  obtain ⟨p, rfl, hp⟩ := v₁.ref'
  obtain ⟨_, vs, n, ho, hvs⟩ := r₁.cell k _ p hk hp
  exact wpAny_pyIter_list ⟨_, ho, rfl, _, rfl⟩ (q _ { s₁ with heap := s₁.heap.push _ } _ _ _ σ₁ μ₁ hq (r₁.push _) (f₁.push _) (st₁.trans (Step.push _)) (.listC (i := 0) ⟨_, Heap.get?_push_size _ rfl, rfl, rfl⟩ hp) (push_fp st₁ r₁ _ rfl rfl) len1_ne)

theorem okit_str {e : Expr} {pt : Bool} {QI : (Sto → Prop) → List V → Sto → Prop} (h : Ok c d env e lk σ (fun y σ' => ∃ x, y = .str x ∧ x.cps.all (· < 128) = true ∧ QI (fun _ => True) (signV x.cps.toList) σ')) : OkIt c d env e lk σ pt QI := by
  intro A s μ Qr Er ok r f q
  refine h A s μ _ Er ok r f fun v s₁ y σ₁ μ₁ h₁ r₁ f₁ v₁ st₁ => ?_
  obtain ⟨x, rfl, ha, hq⟩ := h₁
  obtain ⟨t, rfl⟩ := v₁.str'
  exact wpAny_pyIter_ascii ha (q _ { s₁ with heap := s₁.heap.push _ } _ _ _ σ₁ μ₁ hq (r₁.push _) (f₁.push _) (st₁.trans (Step.push _)) (.sign (i := 0) ⟨_, Heap.get?_push_size _ rfl, rfl, rfl⟩) (push_fp st₁ r₁ _ rfl rfl) len1_ne)

/-- what is called -/
noncomputable def keepB (K : Frag) (f : Value) : Bool := match f with
  | .ref _ => keepIn K f
  | _ => true
theorem keeps_B {K : Frag} {M : Model} {f : Value} (hk : keepB K f = true) (h : Heap) (X : K.In h) : ∃ k, (k = Keeper.frame ∨ k = Keeper.machine ∨ k = Keeper.boundFrame) ∧ Looks M h (keeperOf f) k := by
  cases f with
  | ref a => exact keeps_K (show keepIn K (.ref a) = true from hk) h X
  | _ => exact ⟨.machine, .inr (.inl rfl), Looks.of_pure rfl⟩

theorem callWith_ok {f : Value} {first : List V} {args : List Expr} {A : Around} {s : Shared} {μ : AMap} {vs₀ : List Value} {Qr : Value → Shared → Prop} {Er : Value → Shared → Prop} {p : Pos} {Q : V → Sto → Prop}
    (ok : AOk A d) (r : HR c s.heap μ σ) (f₀ : FR c env lk s.heap μ) (hk : keepB c.K f = true) (hv : VRs s.heap μ first vs₀) (h : OkL c d env args lk σ (fun ys σ' => CallF c d env lk σ' f (first ++ ys) Q))
    (hplain : (backTo p (starEach args env)).any (·.1) = false) (q : ValPost c env lk μ s Q Qr) : wpAny c.M A (callWith p f vs₀ (backTo p (starEach args env)) []) Qr Er s := by
  refine callWith_of (P := fun h => c.K.In h) (by rw [hplain]; rfl) (keeps_B hk) ?_
  have fin : wpAny c.M A (spliced (backTo p (starEach args env))) (fun vs s₁ => c.K.In s₁.heap ∧ wpAny c.M A (call f (vs₀ ++ vs)) Qr Er s₁) Er s := by
    refine h A s μ _ Er p ok r f₀ fun vs s₁ ys σ₁ μ₁ h₁ r₁ f₁ v₁ st₁ => ⟨r₁.K, ?_⟩
    exact h₁ A s₁ μ₁ _ Qr Er ok r₁ f₁ ((hv.step st₁).append v₁) (q.after st₁)
  cases hl : backTo p (starEach args env) with
  | nil =>
    rw [hl] at fin
    intro Γ pp hΓ
    have z : c.K.In s.heap ∧ wpAny c.M A (call f (vs₀ ++ [])) Qr Er s := fin Γ pp hΓ
    exact evalArgs_nil3 (Q := fun a s₁ => c.K.In s₁.heap ∧ wpAny c.M A (call f (vs₀ ++ a.pos) a.kw) Qr Er s₁) z Γ pp hΓ
  | cons x rest =>
    obtain ⟨b, t⟩ := x
    have hb : b = false := by
      rw [hl, List.any_cons] at hplain
      cases b <;> first | rfl | cases hplain
    subst hb
    rw [hl] at fin
    exact evalArgs_plain fin

/-- f(x, ..) where f is a name -/
theorem ok_call {id : Str} {p : Pos} {args : List Expr} {Q : V → Sto → Prop} (h : Ok c d env (.Name id p) lk σ (fun y σ' => ∃ f, y = .raw f ∧ keepB c.K f = true ∧ OkL c d env args lk σ' (fun ys σ'' => CallF c d env lk σ'' f ys Q)))
    (hplain : ∀ p, (backTo p (starEach args env)).any (·.1) = false) : Ok c d env (.Call (.Name id p) args [] pos) lk σ Q := by
  intro A s μ Qr Er ok r f q
  refine wpAny_Call_NameR (h A s μ _ Er ok r f fun v s₁ y σ₁ μ₁ h₁ r₁ f₁ v₁ st₁ => ?_)
  obtain ⟨g, rfl, hk, hq⟩ := h₁
  obtain rfl := v₁.raw'
  exact callWith_ok (first := []) ok r₁ f₁ hk .nil hq (hplain _) (q.after st₁)
end

-- C7

theorem lk_or {α : Type} {x n : Str} {a b : α} {cs : List (Str × α)} (h : ((n, a) :: cs).lookup x = some b) : (x = n ∧ a = b) ∨ (¬ x = n ∧ cs.lookup x = some b) := by
  rw [List.lookup_cons] at h
  by_cases e : x = n
  · rw [beq_iff_eq.mpr e] at h; exact .inl ⟨e, Option.some.inj h⟩
  · rw [beq_eq_false_iff_ne.mpr e] at h; exact .inr ⟨e, h⟩
theorem lk_hit {α : Type} {x : Str} {a : α} {cs : List (Str × α)} : ((x, a) :: cs).lookup x = some a := by rw [List.lookup_cons, beq_self_eq_true]
theorem lk_some {α : Type} {x n : Str} {a : α} {cs : List (Str × α)} (h : ∃ b, cs.lookup x = some b) : ∃ b, ((n, a) :: cs).lookup x = some b := by
  by_cases e : x = n
  · exact ⟨a, e ▸ lk_hit⟩
  · exact h.imp fun b hb => by rw [List.lookup_cons, beq_eq_false_iff_ne.mpr e]; exact hb
theorem closure_gen {env : Env} (f : Str × NameKind → List (Str × Addr) → Sem (ForInStep (List (Str × Addr))))
    (hf : ∀ n k cs, f (n, k) cs = if (k == NameKind.free) = true then (cellOf env n >>= fun a => pure (.yield ((n, a) :: cs))) else pure (.yield cs)) (l : List (Str × NameKind)) :
    ∀ (acc : List (Str × Addr)), (∀ p ∈ l, p.2 = .free → ∃ a, env.cells.lookup p.1 = some a) →
      ∃ cl, forIn l acc f = pure cl ∧ (∀ x a, cl.lookup x = some a → (acc.lookup x = some a) ∨ (env.cells.lookup x = some a ∧ (x, NameKind.free) ∈ l)) ∧
        ∀ x, ((x, NameKind.free) ∈ l ∨ ∃ a, acc.lookup x = some a) → ∃ a, cl.lookup x = some a := by
  induction l with
  | nil => exact fun acc _ => ⟨acc, List.forIn_nil, fun x a h => .inl h, fun x h => h.elim (fun h => absurd h List.not_mem_nil) id⟩
  | cons p r ih =>
    intro acc h
    have e0 := hf p.1 p.2 acc
    by_cases hk : p.2 = .free
    · obtain ⟨a, ha⟩ := h p (.head _) hk
      obtain ⟨cl, e1, e2, e3⟩ := ih ((p.1, a) :: acc) fun p hp => h p (.tail _ hp)
      refine ⟨cl, ?_, fun x b hx => (e2 x b hx).elim (fun q => (lk_or q).elim (fun z => .inr ⟨by rw [z.1, ← z.2]; exact ha, by rw [z.1, ← hk]; exact .head _⟩) fun z => .inl z.2) fun q => .inr ⟨q.1, .tail _ q.2⟩,
        fun x hx => e3 x (hx.elim (fun hx => (List.mem_cons.mp hx).elim (fun q => .inr ⟨a, by rw [← q]; exact lk_hit⟩) .inl) fun z => .inr (lk_some z))⟩
      have hc : cellOf env p.1 = pure a := by unfold cellOf; rw [ha]
      rw [List.forIn_cons, e0, hk, if_pos (show (NameKind.free == NameKind.free) = true from rfl), hc]
      exact e1
    · obtain ⟨cl, e1, e2, e3⟩ := ih acc fun p hp => h p (.tail _ hp)
      refine ⟨cl, ?_, fun x b hx => (e2 x b hx).imp id fun q => ⟨q.1, .tail _ q.2⟩, fun x hx => e3 x (hx.imp (fun hx => (List.mem_cons.mp hx).elim (fun q => absurd (congrArg Prod.snd q).symm hk) id) id)⟩
      rw [List.forIn_cons, e0, if_neg (fun z => hk (beq_iff_eq.mp z))]
      exact e1

theorem closure_ok {scope : Scope} {env : Env} (h : ∀ p ∈ scope.names, p.2 = .free → ∃ a, env.cells.lookup p.1 = some a) :
    ∃ cl, closureFor scope env = pure cl ∧ (∀ x a, cl.lookup x = some a → env.cells.lookup x = some a ∧ (x, NameKind.free) ∈ scope.names) ∧ ∀ x, (x, NameKind.free) ∈ scope.names → ∃ a, cl.lookup x = some a := by
  have hf : ∃ f : Str × NameKind → List (Str × Addr) → Sem (ForInStep (List (Str × Addr))), closureFor scope env = (forIn scope.names [] f >>= fun cs => pure cs) ∧
      ∀ n k cs, f (n, k) cs = if (k == NameKind.free) = true then (cellOf env n >>= fun a => pure (.yield ((n, a) :: cs))) else pure (.yield cs) :=
    ⟨_, rfl, fun n k cs => by cases k <;> rfl⟩
  obtain ⟨f, e, hf⟩ := hf
  obtain ⟨cl, e1, e2, e3⟩ := closure_gen f hf scope.names [] h
  refine ⟨cl, by rw [e, e1]; rfl, fun x a hx => ?_, fun x hx => e3 x (.inl hx)⟩
  rcases e2 x a hx with q | q
  · simp at q
  · exact q

section
variable {prog : Program} {w : World} {A : Around} {R : Result → Shared → Prop} {s : Shared}
theorem compLoop_rule {elt target iter : Expr} {ifs : List Expr} {scope : Scope} {pos : Pos} {it acc : Value} {env : Env} {E : Value → Shared → Prop} (hE : E = notedBy (model prog w) A env fun e s' => R (.error e) s') (I : Nat → Shared → Prop)
    (turn : ∀ n s, I n s → wpAny (model prog w) A (pyNext it) (fun r s₁ => match r with
      | none => R (.ok .next) s₁
      | some v => wpAny (model prog w) A (letOwnedTupleGo target it v) (fun _ s₁' => wpAny (model prog w) A (assign target env v) (fun _ s₂ =>
          wpAny (model prog w) A (forIn ifs true fun c r => if r = true then do let ok ← isTrue c env (eval c env); pure (ForInStep.yield ok) else pure (ForInStep.yield r)) (fun ok s₃ =>
            if ok = true then wpAny (model prog w) A (eval elt env) (fun x s₄ =>
              wpAny (model prog w) A (call (.builtin "list.append") [acc, x]) (fun _ s₅ => ∃ m, m < n ∧ I m s₅) E s₄) E s₃
            else ∃ m, m < n ∧ I m s₃) E s₂) E s₁') E s₁) E s)
    (n : Nat) (h : I n s) : codeAny (model prog w) A (.compLoop (.ListComp elt [⟨target, iter, ifs, 0⟩] scope pos) 0 it acc env) R s := by
  subst hE
  refine codeAny_loop rfl I (fun n s hI => ?_) n h
  show wpAny _ A ((compTurn (.ListComp elt [⟨target, iter, ifs, 0⟩] scope pos) 0 it acc env).onRaise (fun x => do noteFrame x env; theTreesLotGoes x)) _ _ s
  refine wpAny_noted ?_
  rw [compTurn_list]
  refine wpAny_bind (wpAny_standAt (wpAny_bind (wpAny_mono (turn n s hI) (fun r s₁ h₁ => ?_) fun _ _ h' => h')))
  cases r with
  | none => exact wpAny_pure h₁
  | some v =>
    refine wpAny_bind (wpAny_mono h₁ (fun _ s₁' h₁' => ?_) fun _ _ h' => h')
    refine wpAny_bind (wpAny_mono h₁' (fun _ s₂ h₂ => wpAny_bind (wpAny_mono h₂ (fun ok s₃ h₃ => ?_) fun _ _ h' => h')) fun _ _ h' => h')
    cases ok with
    | false => exact wpAny_pure ⟨rfl, h₃⟩
    | true =>
      exact wpAny_bind (wpAny_bind (wpAny_mono h₃ (fun x s₄ h₄ => wpAny_bind (wpAny_mono h₄ (fun _ s₅ h₅ => wpAny_pure (wpAny_pure ⟨rfl, h₅⟩)) fun _ _ h' => h')) fun _ _ h' => h'))
end

section
variable {c : Ctx} {d : Nat} {env : Env} {lk : Loc} {σ : Sto} {pos : Pos} {QX : Fl → Loc → Sto → Prop}

noncomputable def TestsOk (c : Ctx) (d : Nat) (env : Env) : List Expr → Loc → Sto → (Bool → Sto → Prop) → Prop
  | [], _, σ, Q => Q true σ
  | [t], lk, σ, Q => OkT c d env t lk σ Q
  | _, _, _, _ => False

noncomputable def CompOk (c : Ctx) (d : Nat) (cenv : Env) (target : Expr) (ifs : List Expr) (elt : Expr) (lk : Loc) (S : Sto → Prop) (Q : List V → Sto → Prop) : List V → List V → Sto → Prop
  | [], acc, σ => Q acc σ
  | x :: xs, acc, σ => acc.length ≤ sizeLine ∧ OkA c d cenv target x lk σ (fun lk₁ σ₁ => Sub lk lk₁ ∧ TestsOk c d cenv ifs lk₁ σ₁ (fun b σ₂ =>
      (b = true → Ok c d cenv elt lk₁ σ₂ (fun y σ₃ => S σ₃ ∧ CompOk c d cenv target ifs elt lk S Q xs (acc ++ [y]) σ₃)) ∧
      (b = false → S σ₂ ∧ CompOk c d cenv target ifs elt lk S Q xs acc σ₂)))

/-- the scope of a comprehension against its frame's -/
structure CScope (scope : Scope) (env : Env) (lk : Loc) : Prop where
  kind : scope.kind = .function
  cell : ∀ p ∈ scope.names, p.2 ≠ .cell
  names : ∀ p ∈ scope.names, scope.names.lookup p.1 = some p.2
  free : ∀ p ∈ scope.names, p.2 = .free → env.kindOf p.1 = some .cell ∨ env.kindOf p.1 = some .free
  apart : ∀ p ∈ scope.names, p.2 = .local → lk.lookup p.1 = none

theorem relabel_lookup {env : Env} {x : Str} : ∀ (names : List (Str × NameKind)),
    (names.map fun (n, k) => if (k == NameKind.free && env.scope.kind == .function && env.kindOf n == some .cell) then (n, NameKind.cell) else (n, k)).lookup x =
      (names.lookup x).map fun k => if (k == NameKind.free && env.scope.kind == .function && env.kindOf x == some .cell) then NameKind.cell else k
  | [] => rfl
  | (n, k') :: r => by
    have ih := @relabel_lookup env x r
    by_cases hx : x = n
    · subst hx
      by_cases hq : (k' == NameKind.free && env.scope.kind == .function && env.kindOf x == some .cell) = true
      · simp only [List.map_cons, if_pos hq, List.lookup_cons, beq_self_eq_true, Option.map_some]
      · simp only [List.map_cons, if_neg hq, List.lookup_cons, beq_self_eq_true, Option.map_some]
    · have hb : (x == n) = false := by simpa using hx
      by_cases hq : (k' == NameKind.free && env.scope.kind == .function && env.kindOf n == some .cell) = true
      · simp only [List.map_cons, if_pos hq, List.lookup_cons, hb]; exact ih
      · simp only [List.map_cons, if_neg hq, List.lookup_cons, hb]; exact ih

theorem mem_of_lookup' {names : List (Str × NameKind)} {x : Str} {k : NameKind} (h : names.lookup x = some k) : (x, k) ∈ names := by
  induction names with
  | nil => simp at h
  | cons p r ih =>
    obtain ⟨n, k'⟩ := p
    rw [List.lookup_cons] at h
    cases hx : x == n with
    | true =>
      simp only [hx] at h
      cases h
      obtain rfl : x = n := by simpa using hx
      exact .head _
    | false =>
      simp only [hx] at h
      exact .tail _ (ih h)

theorem relabel_free {env : Env} {names : List (Str × NameKind)} {x : Str} {k : NameKind}
    (h : (names.map fun (n, k) => if (k == NameKind.free && env.scope.kind == .function && env.kindOf n == some .cell) then (n, NameKind.cell) else (n, k)).lookup x = some k) (hk : k = .cell ∨ k = .free)
    (hc : ∀ p ∈ names, p.2 ≠ .cell) : names.lookup x = some .free := by
  rw [relabel_lookup] at h
  cases hq : names.lookup x with
  | none => rw [hq] at h; cases h
  | some k' =>
    rw [hq, Option.map_some] at h
    have h := Option.some.inj h
    have n1 := hc _ (mem_of_lookup' hq)
    cases k' with
    | free => rfl
    | cell => exact absurd rfl n1
    | _ => rcases hk with rfl | rfl <;> simp at h

theorem relabel_isfree {env : Env} {names : List (Str × NameKind)} {x : Str} (h : names.lookup x = some .free) :
    (names.map fun (n, k) => if (k == NameKind.free && env.scope.kind == .function && env.kindOf n == some .cell) then (n, NameKind.cell) else (n, k)).lookup x = some .cell ∨
    (names.map fun (n, k) => if (k == NameKind.free && env.scope.kind == .function && env.kindOf n == some .cell) then (n, NameKind.cell) else (n, k)).lookup x = some .free := by
  rw [relabel_lookup, h, Option.map_some]
  split
  · exact .inl rfl
  · exact .inr rfl

theorem relabel_local {env : Env} {names : List (Str × NameKind)} {x : Str}
    (h : (names.map fun (n, k) => if (k == NameKind.free && env.scope.kind == .function && env.kindOf n == some .cell) then (n, NameKind.cell) else (n, k)).lookup x = some .local) : names.lookup x = some .local := by
  rw [relabel_lookup] at h
  cases hq : names.lookup x with
  | none => rw [hq] at h; cases h
  | some k' =>
    rw [hq, Option.map_some] at h
    have h := Option.some.inj h
    split at h
    · cases h
    · rw [h]

theorem FR.lift {h h' : Heap} {μ μ' : AMap} (f : FR c env lk h μ) (hk : ∀ b o, h.get? b = some o → Frz μ b → h'.get? b = some o ∧ Frz μ' b) (he : ∀ k p, μ.1 k = some p → μ'.1 k = some p) : FR c env lk h' μ' := f.at (.of hk he) fun a o _ fz e => hk a o e fz

theorem HR.lift {h h' : Heap} {μ : AMap} {X : Addr → Prop} (r : HR c h μ σ) (K : Kp h h' μ (μ.1, X))
    (hc : ∀ k p, μ.1 k = some p → (∀ o, h.get? p.1 = some o → h'.get? p.1 = some o) ∧ ∀ o, h.get? p.2 = some o → h'.get? p.2 = some o) (hb : ∀ b o, c.H0.get? b = some o → h'.get? b = some o)
    (hh : ∀ b, X b → (∃ o, h'.get? b = some o) ∧ c.H0.get? b = none ∧ ∀ k p, μ.1 k = some p → b ≠ p.1 ∧ b ≠ p.2) : HR c h' (μ.1, X) σ :=
  ⟨hb, r.dom, r.inj, r.above, fun k x p hx hp => (r.cell k x p hx hp).at K (hc k p hp).1 (hc k p hp).2, r.fin, hh⟩

noncomputable def unhide (μ μ' : AMap) : AMap := (μ'.1, μ.2)

section
variable {scope : Scope} {cl : List (Str × Addr)} {C D : Addr} {s s₃ s₄ s₆ : Shared} {μ μ₃ μ₆ : AMap} {lk₆ : Loc} {S : Sto → Prop} {fp : List Addr} {it : Addr} {xs acc : List V}
/-- what a comprehension's frame takes of the frame about it -/
noncomputable def Caught (scope : Scope) (cl : List (Str × Addr)) (env : Env) : Prop := ∀ x a, cl.lookup x = some a → env.cells.lookup x = some a ∧ scope.names.lookup x = some .free
theorem comp_own (h1 : Caught scope cl env) {b : Addr} (h : own (compEnvC scope cl C env) b) : b = C ∨ own env b := h.imp id fun z => .inr (z.imp fun x hx => (h1 x b hx).1)
theorem comp_back (h1 : Caught scope cl env) (nC : ¬ own env C) (f₄ : FR c env lk s₄.heap μ₃) (cf₆ : FR c (compEnvC scope cl C env) lk₆ s₆.heap μ₆) (hsub : Sub lk lk₆) (st : Step (own (compEnvC scope cl C env)) μ₃ μ₆ s₄ s₆) : FR c env lk s₆.heap μ₆ where
  kind := f₄.kind
  globals := f₄.globals
  builtins := f₄.builtins
  above := f₄.above
  frzL := (own_occ f₄ (.inl rfl)).elim fun o e => st.frz e f₄.frzL
  ns := have nL : ¬ own (compEnvC scope cl C env) env.locals := fun h => h.elim (fun e => nC (.inl (Eq.symm e))) fun z => z.elim fun x hx => (f₄.cell x _ (h1 x _ hx).1).1 rfl
    f₄.ns.imp fun m n => ⟨Ns.keep' n.1 fun o e => st.keep _ _ f₄.frzL nL e, fun x y h1 h2 => (n.2 x y h1 h2).imp fun _ g => ⟨g.1, g.2.step st⟩⟩
  cell := fun x a ha => by
    have g := f₄.cell x a ha
    by_cases hcap : ∃ z, cl.lookup z = some a
    · obtain ⟨z, hz⟩ := hcap
      obtain rfl : z = x := Classical.byContradiction fun hne => f₄.apart z x a a (h1 z a hz).1 ha hne rfl
      have k := cf₆.cell z a hz
      exact ⟨g.1, k.2.1, g.2.2.1, k.2.2.2.imp fun _ q => ⟨q.1, fun y hy hl => q.2 y (relabel_isfree (h1 z a hz).2) (hsub z y hl)⟩⟩
    · have na : ¬ own (compEnvC scope cl C env) a := fun ho => ho.elim (fun (e : a = C) => nC (e ▸ .inr ⟨x, ha⟩)) hcap
      exact ⟨g.1, (own_occ f₄ (.inr ⟨x, ha⟩)).elim fun o e => st.frz e g.2.1, g.2.2.1, g.2.2.2.imp fun _ q => ⟨IsCell.keep q.1 fun o e => st.keep _ _ g.2.1 na e, fun y hy hl => (q.2 y hy hl).imp fun _ z => ⟨z.1, z.2.step st⟩⟩⟩
  cells := f₄.cells
  apart := f₄.apart
theorem comp_step (h1 : Caught scope cl env) (nD : s.heap.get? D = none) (nC : s.heap.get? C = none) (st₄ : Step (own env) μ (unhide μ μ₃) s s₄) (st₆ : Step (own (compEnvC scope cl C env)) μ₃ μ₆ s₄ s₆) (hh : μ₃.2 = (hide μ D).2) : Step (own env) μ (unhide μ μ₆) s s₆ :=
  have fz : ∀ {b o}, s.heap.get? b = some o → Frz μ b → Frz μ₃ b := fun e f => ⟨(st₄.frz e f).1, fun h => (hh ▸ h : (hide μ D).2 _).elim (get_ne e nD) f.2⟩
  { keep := fun b o f hx e => st₆.keep b o (fz e f) (fun ho => (comp_own h1 ho).elim (get_ne e nC) hx) (st₄.keep b o f hx e)
    seq := fun b k vs n f e => st₆.seq b k vs n (fz e f) (st₄.seq b k vs n f e)
    live := fun b o e => (st₄.live b o e).elim (st₆.live b)
    ext := fun k q e => st₆.ext k q (st₄.ext k q e)
    new := fun k q hk h0 => (st₆.which hk).elim (fun h => st₄.new k q h h0) fun n => ⟨st₄.back n.1, st₄.back n.2⟩
    hid := rfl
    hkeep := fun b o hb e => st₆.hkeep b o (hh ▸ .inr hb : μ₃.2 b) (st₄.hkeep b o hb e)
    gens := st₆.gens.trans st₄.gens
    os := st₆.os.trans st₄.os }
/-- what a comprehension's turn carries on: the iterator, the hidden list, the frame about it -/
structure CompB (c : Ctx) (env : Env) (lk : Loc) (S : Sto → Prop) (s : Shared) (μ : AMap) (fp : List Addr) (it D : Addr) (s' : Shared) (xs acc : List V) (μ' : AMap) : Prop where
  I : ItR s'.heap μ' S fp it xs
  d : ∃ vs n, s'.heap.get? D = some (lstO vs n) ∧ VRs s'.heap μ' acc vs.toList
  f : FR c env lk s'.heap μ'
  st : Step (own env) μ (unhide μ μ') s s'
  h : μ'.2 = (hide μ D).2
  fl : FpOk2 s' μ' fp
theorem CompB.hid (B : CompB c env lk S s μ fp it D s₃ xs acc μ₃) : μ₃.2 D := B.h ▸ .inl rfl
theorem CompB.turn {ys : List V} (B : CompB c env lk S s μ fp it D s₃ xs acc μ₃) (h0 : ∀ b ∈ fp, s.heap.get? b = none) (nf : D ∉ fp) (K : Kp s₃.heap s₄.heap μ₃ μ₃) (f₄ : FR c env lk s₄.heap μ₃) (I : ItR s₄.heap μ₃ S fp it ys) (kp : ∀ b o, b ∉ fp → s₃.heap.get? b = some o → s₄.heap.get? b = some o)
    (hfl : ∀ b ∈ fp, ∃ o vs, s₄.heap.get? b = some o ∧ o.data = .fields vs) (hg : s₄.gens = s₃.gens) (ho : s₄.os = s₃.os) : CompB c env lk S s μ fp it D s₄ ys acc μ₃ :=
  ⟨I, B.d.imp fun _ => Exists.imp fun _ q => ⟨kp D _ nf q.1, q.2.at K⟩, f₄, step_fp B.st h0 kp hg ho, B.h, fun b hb => ⟨(B.fl b hb).1, hfl b hb⟩⟩
theorem CompB.step (B : CompB c env lk S s μ fp it D s₄ xs acc μ₃) (h1 : Caught scope cl env) (no : ¬ own env C) (nD : s.heap.get? D = none) (nC : s.heap.get? C = none) (nf : ∀ b ∈ fp, ¬ own (compEnvC scope cl C env) b)
    (cf₆ : FR c (compEnvC scope cl C env) lk₆ s₆.heap μ₆) (hsub : Sub lk lk₆) (st : Step (own (compEnvC scope cl C env)) μ₃ μ₆ s₄ s₆) : CompB c env lk S s μ fp it D s₆ xs acc μ₆ :=
  ⟨B.I.step st fun b hb => ⟨(B.fl b hb).1, nf b hb⟩, B.d.imp fun _ => Exists.imp fun _ q => ⟨st.hkeep D _ B.hid q.1, q.2.step st⟩, comp_back h1 no B.f cf₆ hsub st, comp_step h1 nD nC B.st st B.h, st.hid.trans B.h, fp_step2 st nf (fun b hb => (B.fl b hb).1) fun b hb => (B.fl b hb).2⟩
/-- where a comprehension stands -/
noncomputable def CompI (c : Ctx) (d : Nat) (cenv env : Env) (target : Expr) (ifs : List Expr) (elt : Expr) (lk : Loc) (S : Sto → Prop) (QC : List V → Sto → Prop) (s : Shared) (μ : AMap) (fp : List Addr) (it D : Addr) (n : Nat) (s' : Shared) : Prop :=
  ∃ xs acc σ' μ', xs.length = n ∧ CompOk c d cenv target ifs elt lk S QC xs acc σ' ∧ S σ' ∧ HR c s'.heap μ' σ' ∧ FR c cenv lk s'.heap μ' ∧ CompB c env lk S s μ fp it D s' xs acc μ'
theorem tests_ok {A : Around} {cenv : Env} {ifs : List Expr} {QT : Bool → Sto → Prop} {QTr : Bool → Shared → Prop} {E' : Value → Shared → Prop} (ok : AOk A d) (hT : TestsOk c d cenv ifs lk σ QT) (r : HR c s.heap μ σ) (cf : FR c cenv lk s.heap μ)
    (qT : ∀ b s' σ' μ', QT b σ' → HR c s'.heap μ' σ' → FR c cenv lk s'.heap μ' → Step (own cenv) μ μ' s s' → QTr b s') :
    wpAny c.M A (forIn ifs true fun t r => if r = true then do let ok ← isTrue t cenv (eval t cenv); pure (ForInStep.yield ok) else pure (ForInStep.yield r)) QTr E' s := by
  cases ifs with
  | nil => exact wpAny_tests_nil (qT true s σ μ hT r cf (Step.refl _ _ _))
  | cons t rest =>
    cases rest with
    | nil => exact wpAny_tests_one (hT A s μ QTr E' ok r cf qT)
    | cons _ _ => exact hT.elim
/-- a turn's value is laid at the list's end -/
theorem comp_append {A : Around} {cenv : Env} {target elt : Expr} {ifs : List Expr} {QC : List V → Sto → Prop} {y : V} {u : Value} {n : Nat} {E' : Value → Shared → Prop} (B : CompB c env lk S s μ fp it D s₆ xs acc μ₆) (r : HR c s₆.heap μ₆ σ) (cf : FR c cenv lk s₆.heap μ₆) (v : VR s₆.heap μ₆ y u)
    (hS : S σ) (hl : CompOk c d cenv target ifs elt lk S QC xs (acc ++ [y]) σ) (hn : xs.length < n) (hlen : acc.length ≤ sizeLine) (nf : D ∉ fp) (nD : s.heap.get? D = none) :
    wpAny c.M A (call (.builtin "list.append") [.ref D, u]) (fun _ s' => ∃ m, m < n ∧ CompI c d cenv env target ifs elt lk S QC s μ fp it D m s') E' s₆ := by
  obtain ⟨vs, nn, hD, hv⟩ := B.d
  refine wpAny_list_append_plain (items := vs) ⟨nn, hD⟩ (fun h hpl hs => ?_) (by rw [← Array.length_toList, ← hv.length]; exact hlen)
  obtain ⟨n₈, hD₈⟩ := hpl
  have kp : ∀ b o, ¬ b = D → s₆.heap.get? b = some o → h.get? b = some o := fun b o hb e => (hs.2 b hb).trans e
  have lk₈ : ∀ b o, s₆.heap.get? b = some o → Frz μ₆ b → h.get? b = some o ∧ Frz μ₆ b := fun b o e fz => ⟨kp b o (fun q => fz.2 (q ▸ B.hid)) e, fz⟩
  have K : Kp s₆.heap h μ₆ μ₆ := .of lk₈ fun _ _ e => e
  have zD := r.hid D B.hid
  have r₈ : HR c h μ₆ σ := r.lift (X := μ₆.2) K (fun k q hq => ⟨fun o => kp _ o (zD.2.2 k q hq).1.symm, fun o => kp _ o (zD.2.2 k q hq).2.symm⟩) (fun b o e => kp b o (get_ne e zD.2.1) (r.base b o e)) fun b hb =>
    ⟨(Classical.em (b = D)).elim (fun e => ⟨_, e ▸ hD₈⟩) fun e => (r.hid b hb).1.imp fun o => kp b o e, (r.hid b hb).2⟩
  have nb : ∀ b ∈ fp, ¬ b = D := fun b hb e => nf (e ▸ hb)
  exact ⟨xs.length, hn, xs, acc ++ [y], σ, μ₆, rfl, hl, hS, r₈, cf.at K fun a o _ fz e => lk₈ a o e fz, B.I.at (fun b hb o e => kp b o (nb b hb) e) K,
    ⟨vs.push u, n₈, hD₈, (by rw [Array.toList_push]; exact (hv.at K).append (.cons (v.at K) .nil))⟩, B.f.at K fun a o _ fz e => lk₈ a o e fz,
    step_fp (fp := [D]) B.st (fun b hb => List.mem_singleton.mp hb ▸ nD) (fun b o hb e => kp b o (notin1 hb) e) rfl rfl, B.h, fun b hb => ⟨(B.fl b hb).1, (B.fl b hb).2.imp fun o => Exists.imp fun us z => ⟨kp b o (nb b hb) z.1, z.2⟩⟩⟩
theorem it_self {A : Around} {Q' E' : Value → Shared → Prop} (I : ItR s.heap μ S fp it xs) (q : Q' (.ref it) s) : wpAny c.M A (pyIter (.ref it)) Q' E' s :=
  ItR.rec (motive := fun _ _ it _ _ => Q' (.ref it) s → wpAny c.M A (pyIter (.ref it)) Q' E' s) (fun a _ _ _ q => wpAny_pyIter_listiter a q) (fun a _ q => wpAny_pyIter_listiter a q) (fun a _ _ _ q => wpAny_pyIter_tupleiter a q)
    (fun a q => wpAny_pyIter_rangeiter a q) (fun a q => wpAny_pyIter_striter_ascii a q) (fun _ a _ _ _ _ q => wpAny_pyIter_enum a q) (fun _ a _ _ q => wpAny_pyIter_enum a q) I q
/-- the frame of a comprehension -/
theorem comp_frame (f : FR c env lk s.heap μ) (hsc : CScope scope env lk) (h1 : Caught scope cl env) (h2 : ∀ x, (x, NameKind.free) ∈ scope.names → ∃ a, cl.lookup x = some a) (nC : ¬ own env C) (fz : Frz μ C) (ab : c.H0.objs.size ≤ C) {m : Str → Option Value} (hn : s.heap.Ns C m) : FR c (compEnvC scope cl C env) lk s.heap μ where
  kind := hsc.kind
  globals := f.globals
  builtins := f.builtins
  above := ab
  frzL := fz
  ns := ⟨m, hn, fun x y hx hy => nomatch ((hsc.apart _ (mem_of_lookup' (relabel_local hx)) rfl).symm.trans hy : none = some y)⟩
  cell := fun x a ha => have g := f.cell x a (h1 x a ha).1
    ⟨fun (e : a = C) => nC (.inr ⟨x, (e ▸ (h1 x a ha).1 : env.cells.lookup x = some C)⟩), g.2.1, g.2.2.1, g.2.2.2.imp fun _ q => ⟨q.1, fun y _ hl => q.2 y (hsc.free _ (mem_of_lookup' (h1 x a ha).2) rfl) hl⟩⟩
  cells := fun x hx => h2 x (mem_of_lookup' (hx.elim (fun hx => relabel_free hx (.inl rfl) hsc.cell) fun hx => relabel_free hx (.inr rfl) hsc.cell))
  apart := fun x y a b ha hb => f.apart x y a b (h1 x a ha).1 (h1 y b hb).1
end

/-- a comprehension's turns -/
theorem comp_loop {elt target iter : Expr} {ifs : List Expr} {scope : Scope} {cl : List (Str × Addr)} {p : Pos} {A : Around} {s s₂ : Shared} {μ : AMap} {S : Sto → Prop} {fp : List Addr} {it C D : Addr} {R : Result → Shared → Prop} {QC : List V → Sto → Prop}
    (ok : AOk A d) (r : HR c s.heap μ σ) (f : FR c env lk s.heap μ) (h1 : Caught scope cl env) (nD : s.heap.get? D = none) (nC : s.heap.get? C = none) (hpt : fp.length = 2 → pairTarget target = true) (h0 : ∀ b ∈ fp, s.heap.get? b = none) (nfC : C ∉ fp) (nfD : D ∉ fp)
    (n : Nat) (I : CompI c d (compEnvC scope cl C env) env target ifs elt lk S QC s μ fp it D n s₂)
    (fin : ∀ s' acc σ' μ', QC acc σ' → HR c s'.heap μ' σ' → FR c (compEnvC scope cl C env) lk s'.heap μ' → (∃ vs n, s'.heap.get? D = some (lstO vs n) ∧ VRs s'.heap μ' acc vs.toList) → FR c env lk s'.heap μ' → Step (own env) μ (unhide μ μ') s s' → μ'.2 = (hide μ D).2 → R (.ok .next) s') :
    codeAny c.M A (.compLoop (.ListComp elt [⟨target, iter, ifs, 0⟩] scope p) 0 (.ref it) (.ref D) (compEnvC scope cl C env)) R s₂ := by
  have no : ¬ own env C := none_own f nC
  have nf : ∀ b ∈ fp, ¬ own (compEnvC scope cl C env) b := fun b hb ho => (comp_own h1 ho).elim (fun e => nfC (e ▸ hb)) (none_own f (h0 b hb))
  refine compLoop_rule rfl (CompI c d (compEnvC scope cl C env) env target ifs elt lk S QC s μ fp it D) ?_ n I
  generalize notedBy (model c.prog c.w) A (compEnvC scope cl C env) (fun e s' => R (.error e) s') = E
  rintro n s₃ ⟨xs, acc, σ₃, μ₃, rfl, hl, hS, r₃, cf₃, B⟩
  have hf3 : ∀ b ∈ fp, Frz μ₃ b ∧ ¬ own (compEnvC scope cl C env) b ∧ c.H0.get? b = none ∧ ∀ c d vs n sl, s₃.heap.get? b ≠ some ⟨c, d, .seq vs n, sl⟩ := fun b hb => have z := fp_facts f r h0 B.fl b hb; ⟨z.1, nf b hb, z.2.2⟩
  refine itr_turn ok.1 B.I r₃ hS hpt (fun y ys v s₄ hx hv I₄ kp hfl hg ho => ?_) (fun s₄ hx kp hg ho => ?_)
  · have g := fp_step (s' := s₄) cf₃ r₃ hf3 kp
    have B₄ := B.turn h0 nfD g.2.2 (fp_step (s' := s₄) B.f r₃ (fp_facts f r h0 B.fl) kp).2.1 I₄ kp hfl hg ho
    subst hx
    refine hl.2 A s₄ μ₃ v _ _ ok g.1 g.2.1 hv fun s₅ lk₅ σ₅ μ₅ h₅ r₅ cf₅ st₅ => ?_
    refine tests_ok ok h₅.2 r₅ cf₅ fun b s₆ σ₆ μ₆ h₆ r₆ cf₆ st₆ => ?_
    have st := st₅.trans st₆
    cases b with
    | false => exact ⟨ys.length, Nat.lt_succ_self _, ys, acc, σ₆, μ₆, rfl, (h₆.2 rfl).2, (h₆.2 rfl).1, r₆, cf₆.weak h₅.1, B₄.step h1 no nD nC nf cf₆ h₅.1 st⟩
    | true =>
      refine h₆.1 rfl A s₆ μ₆ _ _ ok r₆ cf₆ fun u s₇ y' σ₇ μ₇ h₇ r₇ cf₇ v₇ st₇ => ?_
      exact comp_append (B₄.step h1 no nD nC nf cf₇ h₅.1 (st.trans st₇)) r₇ (cf₇.weak h₅.1) v₇ h₇.1 h₇.2 (Nat.lt_succ_self _) hl.1 nfD nD
  · have g := fp_step (s' := s₄) cf₃ r₃ hf3 kp
    subst hx
    exact fin s₄ acc σ₃ μ₃ hl g.1 g.2.1 (B.d.imp fun _ => Exists.imp fun _ q => ⟨kp D _ nfD q.1, q.2.at g.2.2⟩) (fp_step (s' := s₄) B.f r₃ (fp_facts f r h0 B.fl) kp).2.1 (step_fp B.st h0 kp hg ho) B.h

/-- a comprehension's block -/
theorem comp_core {elt target iter : Expr} {ifs : List Expr} {scope : Scope} {p : Pos} {use : Option (Value → Sem Unit)} {A : Around} {s : Shared} {μ : AMap} {Qr : Value → Shared → Prop} {Er : Value → Shared → Prop} {QC : List V → Sto → Prop}
    (ok : AOk A d) (r : HR c s.heap μ σ) (f : FR c env lk s.heap μ) (hsc : CScope scope env lk) (hsF : ∀ x, foldedSetIterable iter env x = pure x)
    (h : OkIt c d env iter lk σ (pairTarget target) (fun S xs σ' => S σ' ∧ ∀ C cl, CompOk c d (compEnvC scope cl C env) target ifs elt lk S QC xs [] σ'))
    (fin : ∀ s' D C acc σ' μ', QC acc σ' → HR c s'.heap μ' σ' → FR c env lk s'.heap μ' → VR s'.heap μ' (.lst acc) (.ref D) → Step (own env) μ μ' s s' → Frz μ' C → ¬ own env C → c.H0.get? C = none → s.heap.get? C = none → (∃ m, s'.heap.Ns C m) →
      compPost c.M A Er use Qr (.ref D) C (.ok .next) s') :
    wpAny c.M A (comprehension (.ListComp elt [⟨target, iter, ifs, 0⟩] scope p) scope env (firstIterPos [⟨target, iter, ifs, 0⟩] p) (newList []) false (eval iter env) use) Qr Er s := by
  obtain ⟨cl, hcl, hcl1, hcl2⟩ := closure_ok fun p hp hk => f.cells _ (hsc.free p hp hk)
  have h1 : Caught scope cl env := fun x a hx => ⟨(hcl1 x a hx).1, hsc.names _ (hcl1 x a hx).2⟩
  refine wpAny_comprehension_free (g := ⟨target, iter, ifs, 0⟩) (gs := []) rfl hsF hcl hsc.kind (fun x hx hl => (hsc.names x hx).trans (congrArg some hl)) ?_
  refine h A s μ _ Er ok r f fun it s₁ S fp xs σ₁ μ₁ h₁ r₁ f₁ st₁ I₁ hfp hpt => ?_
  refine wpAny_newObj_type (T := "list") (data := .seq ([] : List Value).toArray) ?_ (by show _ ≤ sizeLine; decide)
  refine wpAny_newFunctionEnv hsc.cell (fun y hy => nomatch hy) (fun h₂ hns₂ hsb₂ => ?_) hsc.kind
  dsimp only at hns₂ hsb₂ ⊢
  generalize hH : s₁.heap.push { cls := .type "list", dict := none, data := .seq ([] : List Value).toArray } = H at hns₂ hsb₂ ⊢
  generalize hD0 : s₁.heap.objs.size = D
  have hC : H.objs.size = D + 1 := by rw [← hH, Heap.size_push, hD0]
  have nD : s₁.heap.get? D = none := none_ge (Nat.le_of_eq hD0)
  have nC : s₁.heap.get? H.objs.size = none := none_ge (by rw [hC, hD0]; exact Nat.le_succ _)
  have hH1 : ∀ {b o}, H.get? b = some o → b ≠ H.objs.size := fun e => Nat.ne_of_lt (Heap.lt_size e)
  have hH2 : ∀ {b o}, s₁.heap.get? b = some o → H.get? b = some o := fun e => hH ▸ Heap.get?_push_of_some _ e
  have hH3 : ∀ {b o}, H.get? b = some o → h₂.get? b = some o := fun e => hsb₂.extBut _ _ (hH1 e) (Heap.get?_push_of_some _ e)
  have old : ∀ b o, s₁.heap.get? b = some o → h₂.get? b = some o := fun b o e => hH3 (hH2 e)
  have eD : H.get? D = some (lstO #[] 0) := by rw [← hH, ← hD0]; exact Heap.get?_push_size _ rfl
  have ab : c.H0.objs.size ≤ H.objs.size := by rw [hC, ← hD0]; exact Nat.le_succ_of_le r₁.size
  have dC := hH1 eD
  have eD := hH3 eD
  clear hH3 hH2 hH1 hC hD0 hsb₂ hH
  generalize H.objs.size = C at *
  let s₂ : Shared := { s₁ with heap := h₂, toks := s₁.toks + ([] : List (Str × Value)).length }
  have h0 : ∀ b ∈ fp, s.heap.get? b = none := fun b hb => (hfp b hb).1
  have occ : ∀ b ∈ fp, ∃ o, s₁.heap.get? b = some o := fun b hb => (hfp b hb).2.2.imp fun o z => z.elim fun _ z => z.1
  have hid : ∀ b o, s₁.heap.get? b = some o → Frz μ₁ b → h₂.get? b = some o ∧ Frz (hide μ₁ D) b := fun b o e fz => ⟨old b o e, fz.1, fun hh => hh.elim (get_ne e nD) fz.2⟩
  have K : Kp s₁.heap h₂ μ₁ (hide μ₁ D) := .of hid fun _ _ e => e
  have r₂ : HR c h₂ (hide μ₁ D) σ₁ := r₁.lift K (fun k q hq => ⟨old _, old _⟩) (fun b o e => old b o (r₁.base b o e)) fun b hb =>
    hb.elim (fun e => e ▸ ⟨⟨_, eD⟩, none_base r₁ nD, (frz_none r₁ nD).1⟩) fun hb => ⟨(r₁.hid b hb).1.imp fun o => old b o, (r₁.hid b hb).2⟩
  have f₂ : FR c env lk s₂.heap (hide μ₁ D) := f₁.at K fun a o _ fz e => hid a o e fz
  have sD := st₁.back nD
  have sC := st₁.back nC
  have cf₂ := comp_frame f₂ hsc h1 hcl2 (none_own f sC) ⟨(frz_none r₁ nC).1, fun hh => hh.elim (fun e => dC (Eq.symm e)) (frz_none r₁ nC).2⟩ ab hns₂
  have I₂ : ItR s₂.heap (hide μ₁ D) S fp it xs := I₁.at (fun b hb o => old b o) K
  have hh : (hide μ₁ D).2 = (hide μ D).2 := by show (fun b => b = D ∨ μ₁.2 b) = _; rw [st₁.hid]; rfl
  have hu : unhide μ (hide μ₁ D) = μ₁ := by show (μ₁.1, μ.2) = μ₁; rw [← st₁.hid]
  have loop := comp_loop (iter := iter) (p := p) (R := compPost c.M A Er use Qr (.ref D) C) ok r f h1 sD sC hpt h0 (fun hb => (occ C hb).elim fun o e => nomatch (nC.symm.trans e : none = some o)) (fun hb => (occ D hb).elim fun o e => nomatch (nD.symm.trans e : none = some o)) xs.length
    ⟨xs, [], σ₁, hide μ₁ D, rfl, h₁.2 C cl, h₁.1, r₂, cf₂, I₂, ⟨#[], 0, eD, .nil⟩, f₂, (by rw [hu]; exact st₁.trans (Step.ofKeep (s' := s₂) old rfl rfl)), hh, fun b hb => (hfp b hb).2.2.elim fun o z => z.elim fun us z => ⟨(hid b o z.1 (hfp b hb).2.1).2, o, us, old b o z.1, z.2⟩⟩
    fun s₄ acc σ₃ μ₃ hl r₄ cf₄ Bd Bf Bst Bh => by
      have Bhid : μ₃.2 D := Bh ▸ .inl rfl
      have un : ∀ b, Frz μ₃ b → Frz (unhide μ μ₃) b := fun b fz => ⟨fz.1, fun hh => fz.2 (Bh ▸ .inr hh)⟩
      have Ku : Kp s₄.heap s₄.heap μ₃ (unhide μ μ₃) := .of (fun b o e fz => ⟨e, un b fz⟩) fun _ _ e => e
      have ru : HR c s₄.heap (unhide μ μ₃) σ₃ := r₄.lift Ku (fun _ _ _ => ⟨fun _ e => e, fun _ e => e⟩) r₄.base fun b hb => r₄.hid b (Bh ▸ .inr hb)
      obtain ⟨vs, nn, hD, hv⟩ := Bd
      exact fin s₄ D C acc σ₃ (unhide μ μ₃) hl ru (Bf.at Ku fun a o _ fz e => ⟨e, un a fz⟩) (.lst (vs := vs.toList) hD ⟨(r₄.hid D Bhid).2.2, fun hh => (r.hid D hh).1.elim fun o e => nomatch (sD.symm.trans e : none = some o)⟩ (hv.at Ku)) Bst (un C cf₄.frzL) (none_own f sC) (none_base r sC) sC (cf₄.ns.imp fun _ n => n.1)
  exact codeAny_compStart_list loop (it_self I₂ loop)
end

-- C8

section
variable {c : Ctx} {d : Nat} {env : Env} {lk : Loc} {σ : Sto} {pos : Pos} {QX : Fl → Loc → Sto → Prop} {Q : V → Sto → Prop}

theorem Ns.no_seq' {h : Heap} {a : Addr} {m : Str → Option Value} (n : h.Ns a m) : ∀ c d vs k sl, h.get? a ≠ some ⟨c, d, .seq vs k, sl⟩ := fun _ _ _ _ _ => Ns.no_seq n

/-- the block's frame is let go: nothing else changes -/
theorem let_frame {s s' : Shared} {μ : AMap} {C : Addr} (r : HR c s.heap μ σ) (f : FR c env lk s.heap μ) (fz : Frz μ C) (no : ¬ own env C) (h0 : c.H0.get? C = none) (hn : ∃ m, s.heap.Ns C m) (hs : Heap.SameBut C s.heap s'.heap) :
    HR c s'.heap μ σ ∧ FR c env lk s'.heap μ ∧ Kp s.heap s'.heap μ μ :=
  fp_step (fp := [C]) (s' := s') f r (fun b hb => List.mem_singleton.mp hb ▸ ⟨fz, no, h0, fun _ _ _ _ _ => hn.elim fun _ n => Ns.no_seq n⟩) (fun b o hb e => (hs.2 b (notin1 hb)).trans e)

theorem ok_listcomp {elt target iter : Expr} {ifs : List Expr} {scope : Scope} (hsc : CScope scope env lk) (hsF : ∀ x, foldedSetIterable iter env x = pure x)
    (h : OkIt c d env iter lk σ (pairTarget target) (fun S xs σ' => S σ' ∧ ∀ C cl, CompOk c d (compEnvC scope cl C env) target ifs elt lk S (fun acc σ'' => Q (.lst acc) σ'') xs [] σ')) :
    Ok c d env (.ListComp elt [⟨target, iter, ifs, 0⟩] scope pos) lk σ Q := by
  intro A s μ Qr Er ok r f q
  rw [eval_ListComp]
  refine comp_core ok r f hsc hsF h fun s' D C acc σ' μ' hq r' f' v' st fz no h0 hs0 hn => hn.imp fun m n => ⟨n, fun h' hs => ?_⟩
  have z := let_frame (s' := { s' with heap := h' }) r' f' fz no h0 hn hs
  exact q _ { s' with heap := h' } (.lst acc) σ' μ' hq z.1 z.2.1 (v'.at z.2.2) (step_fp (fp := [C]) st (fun b hb => List.mem_singleton.mp hb ▸ hs0) (fun b o hb e => (hs.2 b (notin1 hb)).trans e) rfl rfl)

/-- x = [.. for ..]: the store stands within the block -/
theorem okx_assign_comp {x : Str} {px cpos : Pos} {elt target iter : Expr} {ifs : List Expr} {scope : Scope} (hsc : CScope scope env lk) (hsF : ∀ x, foldedSetIterable iter env x = pure x)
    (hsw : swapsWith (.ListComp elt [⟨target, iter, ifs, 0⟩] scope cpos) (some (.Name x px)) pos.line env = pure true)
    (h : OkIt c d env iter lk σ (pairTarget target) (fun S xs σ' => S σ' ∧ ∀ C cl, CompOk c d (compEnvC scope cl C env) target ifs elt lk S (fun acc σ'' => QX .next (put x (.lst acc) lk) σ'') xs [] σ'))
    (hk : env.kindOf x = some .local ∨ env.kindOf x = some .cell) :
    OkX c d env (.Assign [.Name x px] (.ListComp elt [⟨target, iter, ifs, 0⟩] scope cpos) pos) lk σ QX := by
  intro A s μ Qr Er ok r f q
  rw [exec_Assign_Name_used _ _ _ _ hsw]
  refine wpAny_bind (wpAny_standAt (wpAny_bind ?_))
  show wpAny _ A (do let _ ← comprehension (.ListComp elt [⟨target, iter, ifs, 0⟩] scope cpos) scope env _ (newList []) false (eval iter env) (some (assign (.Name x px) env))) _ _ s
  refine wpAny_bind (wpAny_mono (comp_core (use := some (assign (.Name x px) env)) (Qr := fun _ s' => Qr .next s') ok r f hsc hsF h fun s' D C acc σ' μ' hq r' f' v' st fz no h0 hs0 hn => ?_) (fun _ _ hh => wpAny_pure (wpAny_pure hh)) fun _ _ e => e)
  show wpAny _ A (assign (.Name x px) env (.ref D)) _ _ s'
  refine wpAny_assign_Name (store_var f' r' v' hk fun s'' r'' f'' st'' => ?_)
  have hn'' : ∃ m, s''.heap.Ns C m := hn.imp fun _ n => Ns.keep' n fun o e => st''.keep C o fz no e
  refine hn''.imp fun m n => ⟨n, fun h' hs => ?_⟩
  have fz' : Frz _ C := hn.elim fun _ n => n.elim fun o n => n.elim fun _ n => n.elim fun _ n => st''.frz n.1 fz
  have z := let_frame (s' := { s'' with heap := h' }) r'' f'' fz' no h0 hn'' hs
  exact q .next { s'' with heap := h' } .next _ σ' μ' hq z.1 z.2.1 trivial (step_fp (fp := [C]) (st.trans st'') (fun b hb => List.mem_singleton.mp hb ▸ hs0) (fun b o hb e => (hs.2 b (notin1 hb)).trans e) rfl rfl)

/-- range(..) -/
theorem bb_range : bootBuiltins "range" = some (.type "range") := by decide +kernel

/-- a call whose value is iterated over -/
noncomputable def CallIt (c : Ctx) (d : Nat) (env : Env) (lk : Loc) (σ : Sto) (f : Value) (args : List V) (pt : Bool) (Q : (Sto → Prop) → List V → Sto → Prop) : Prop :=
  ∀ A s μ vs Qr Er, AOk A d → HR c s.heap μ σ → FR c env lk s.heap μ → VRs s.heap μ args vs →
    (∀ it s' S fp xs, Q S xs σ → HR c s'.heap μ σ → FR c env lk s'.heap μ → Step (own env) μ μ s s' → ItR s'.heap μ S fp it xs → FpOk c env s s' μ fp → (fp.length = 2 → pt = true) → Qr (.ref it) s') →
    wpAny c.M A (call f vs) (fun x s₁ => wpAny c.M A (pyIter x) Qr Er s₁) Er s
theorem okit_call {x : Str} {T : String} {p : Pos} {e : Expr} {es : List Expr} {pt : Bool} {QI : (Sto → Prop) → List V → Sto → Prop} (hx : nsIn c.K mainGlobals x = some none) (hb : bootBuiltins x = some (.type T)) (hn : x ≠ "__name__") (hk : env.kindOf x = some .globalImplicit) (hd : (x == ("__debug__" : Str)) = false)
    (h : OkL c d env (e :: es) lk σ (fun ys σ' => CallIt c d env lk σ' (.type T) ys pt QI)) (hst : ∀ p, (backTo p (starEach (e :: es) env)).any (·.1) = false) (hne : ∀ p, ∃ x r, backTo p (starEach (e :: es) env) = (false, x) :: r) :
    OkIt c d env (.Call (.Name x p) (e :: es) [] pos) lk σ pt QI := by
  intro A s μ Qr Er ok r f q
  refine wpAny_Call_NameR (ok_builtin (Q := fun y σ' => y = .raw (.type T) ∧ σ' = σ) hx hb hn ⟨rfl, rfl⟩ hk hd A s μ _ Er ok r f fun v s₁ y σ₁ μ₁ h₁ r₁ f₁ v₁ st₁ => ?_)
  obtain ⟨rfl, rfl⟩ := h₁
  obtain rfl := v₁.raw'
  refine PySem.callWith_type (hst _) ?_
  have z := h A s₁ μ₁ (fun vs s' => wpAny c.M A (call (.type T) ([] ++ vs) []) (fun x s₁ => wpAny c.M A (pyIter x) Qr Er s₁) Er s') Er pos ok r₁ f₁ fun vs s₂ ys σ₂ μ₂ h₂ r₂ f₂ v₂ st₂ =>
    h₂ A s₂ μ₂ vs Qr Er ok r₂ f₂ v₂ fun it s' S fp xs hq a1 a2 a3 a4 a5 a6 => q it s' S fp xs _ μ₂ hq a1 a2 ((st₁.trans st₂).trans a3) a4 (fun b hb => ⟨(st₁.trans st₂).back (a5 b hb).1, (a5 b hb).2⟩) a6
  obtain ⟨x, rr, e⟩ := hne pos
  rw [e] at z ⊢
  exact evalArgs_plain z

theorem fits_of {i : Int} (h : -(2 ^ 63) ≤ i) (h' : i < 2 ^ 63) : Builtin.Range.rangeFitsLong i = true := Bool.and_eq_true_iff.mpr ⟨decide_eq_true h, decide_eq_true h'⟩
theorem fits62 {i : Int} (h : -(2 ^ 62) ≤ i) (h' : i < 2 ^ 62) : Builtin.Range.rangeFitsLong i = true := fits_of (Int.le_trans (by decide) h) (Int.lt_trans h' (by decide))
theorem toNat_if (a b : Int) : (if a < b then b - a else 0) = ((b - a).toNat : Int) := by
  by_cases h : a < b
  · rw [if_pos h]; exact (Int.toNat_of_nonneg (Int.sub_nonneg_of_le (Int.le_of_lt h))).symm
  · rw [if_neg h, Int.toNat_of_nonpos (Int.sub_nonpos_of_le (Int.not_lt.mp h))]; rfl
noncomputable def rangeOk (a b k : Int) (n : Nat) : Prop := Builtin.Range.small a b k = true ∧ Builtin.Range.rangeSize a b k = (n : Int)
theorem rangeOk_one {a b : Int} (ha : -(2 ^ 62) ≤ a) (ha' : a < 2 ^ 62) (hb : -(2 ^ 62) ≤ b) (hb' : b < 2 ^ 62) : rangeOk a b 1 (b - a).toNat := ⟨small_one ha ha' hb hb', (rangeSize_one a b).trans (toNat_if a b)⟩
theorem rangeOk_down {a b : Int} (ha : -(2 ^ 62) ≤ a) (ha' : a < 2 ^ 62) (hb : -(2 ^ 62) ≤ b) (hb' : b < 2 ^ 62) : rangeOk a b (-1) (a - b).toNat := by
  have e : Builtin.Range.rangeSize a b (-1) = ((a - b).toNat : Int) := by
    show (if (-1 : Int) > 0 then _ else if b < a then (a - b - 1) / 1 + 1 else 0) = _
    rw [if_neg (by decide), Int.ediv_one, Int.sub_add_cancel]
    exact toNat_if b a
  refine ⟨?_, e⟩
  unfold Builtin.Range.small
  have l : ((a - b).toNat : Int) < 2 ^ 63 := by omega
  rw [e, fits62 ha ha', fits62 hb hb', fits_of (Int.le_trans (by decide) (Int.natCast_nonneg _)) l, if_neg (by decide), show b + ((-1 : Int) + 1) = b from Int.add_zero b, fits62 hb hb', Bool.or_true]
  rfl

/-- what a call of range lays, and iter of it -/
theorem range_tail {A : Around} {s : Shared} {μ : AMap} {Qr : Value → Shared → Prop} {Er : Value → Shared → Prop} {a b k : Int} {t u v : Tok} {n : Nat} {tk : Nat} {pt : Bool} {QI : (Sto → Prop) → List V → Sto → Prop}
    (r : HR c s.heap μ σ) (f : FR c env lk s.heap μ) (ro : rangeOk a b k n) (hq : QI (fun _ => True) (rangeV a k n) σ)
    (q : ∀ it s' S fp xs, QI S xs σ → HR c s'.heap μ σ → FR c env lk s'.heap μ → Step (own env) μ μ s s' → ItR s'.heap μ S fp it xs → FpOk c env s s' μ fp → (fp.length = 2 → pt = true) → Qr (.ref it) s') :
    wpAny c.M A (pyIter (.ref s.heap.objs.size)) Qr Er { s with heap := s.heap.push { cls := .type "range", data := .fields #[.int a t, .int b u, .int k v] }, toks := tk } := by
  let s₂ : Shared := { s with heap := s.heap.push { cls := .type "range", data := .fields #[.int a t, .int b u, .int k v] }, toks := tk }
  have r₂ : HR c s₂.heap μ σ := r.push _
  have st₂ : Step (own env) μ μ s s₂ := Step.ofKeep (fun _ _ e => Heap.get?_push_of_some _ e) rfl rfl
  refine wpAny_pyIter_range (s := s₂) (IsRange.new _ _ _ _ _ _ _) ro.1 ?_
  rw [ro.2]
  exact q _ { s₂ with heap := s₂.heap.push _ } _ [s₂.heap.objs.size] _ hq (r₂.push _) ((f.push _).push (s := s₂) _) (st₂.trans (Step.push _)) (.range (Heap.get?_push_size _ rfl)) (push_fp st₂ r₂ _ rfl rfl) len1_ne

theorem okit_range1 {p : Pos} {e : Expr} {pt : Bool} {QI : (Sto → Prop) → List V → Sto → Prop} (hx : nsIn c.K mainGlobals "range" = some none) (hk : env.kindOf "range" = some .globalImplicit)
    (h : Ok c d env e lk σ (fun y σ' => ∃ b, y = .int b ∧ b < 2 ^ 62 ∧ -(2 ^ 62) ≤ b ∧ QI (fun _ => True) (rangeV 0 1 b.toNat) σ'))
    (he : ∀ env, starEach [e] env = (false, eval e env) :: starEach [] env) : OkIt c d env (.Call (.Name "range" p) [e] [] pos) lk σ pt QI := by
  refine okit_call hx bb_range (by decide) hk (by decide) (okl_cons (h.mono fun y σ' hh => okl_nil ?_) he) (fun p => by rw [he]; rfl) fun p => by rw [he]; exact ⟨_, _, rfl⟩
  obtain ⟨b, rfl, hb, hb', hq⟩ := hh
  intro A s μ vs Qr Er ok r f hv q
  obtain ⟨v, rfl, h1⟩ := hv.one
  obtain ⟨t, rfl⟩ := h1.int'
  have ro := rangeOk_one (a := 0) (b := b) (by decide) (by decide) hb' hb
  rw [Int.sub_zero] at ro
  exact call_range_1 (range_tail r f ro hq q)
theorem okit_range2 {p : Pos} {e₁ e₂ : Expr} {pt : Bool} {QI : (Sto → Prop) → List V → Sto → Prop} (hx : nsIn c.K mainGlobals "range" = some none) (hk : env.kindOf "range" = some .globalImplicit)
    (h : OkL c d env [e₁, e₂] lk σ (fun ys σ' => ∃ a b, ys = [.int a, .int b] ∧ -(2 ^ 62) ≤ a ∧ a < 2 ^ 62 ∧ -(2 ^ 62) ≤ b ∧ b < 2 ^ 62 ∧ QI (fun _ => True) (rangeV a 1 (b - a).toNat) σ'))
    (hst : ∀ p, (backTo p (starEach [e₁, e₂] env)).any (·.1) = false) (hne : ∀ p, ∃ x r, backTo p (starEach [e₁, e₂] env) = (false, x) :: r) : OkIt c d env (.Call (.Name "range" p) [e₁, e₂] [] pos) lk σ pt QI := by
  refine okit_call hx bb_range (by decide) hk (by decide) (h.mono fun ys σ' hh => ?_) hst hne
  obtain ⟨a, b, rfl, ha, ha', hb, hb', hq⟩ := hh
  intro A s μ vs Qr Er ok r f hv q
  obtain ⟨v, w, rfl, h1, h2⟩ := hv.two
  obtain ⟨t, rfl⟩ := h1.int'
  obtain ⟨t, rfl⟩ := h2.int'
  exact call_range_2 (range_tail r f (rangeOk_one ha ha' hb hb') hq q)
theorem okit_range3 {p : Pos} {e₁ e₂ e₃ : Expr} {pt : Bool} {QI : (Sto → Prop) → List V → Sto → Prop} (hx : nsIn c.K mainGlobals "range" = some none) (hk : env.kindOf "range" = some .globalImplicit)
    (h : OkL c d env [e₁, e₂, e₃] lk σ (fun ys σ' => ∃ a b, ys = [.int a, .int b, .int (-1)] ∧ -(2 ^ 62) ≤ a ∧ a < 2 ^ 62 ∧ -(2 ^ 62) ≤ b ∧ b < 2 ^ 62 ∧ QI (fun _ => True) (rangeV a (-1) (a - b).toNat) σ'))
    (hst : ∀ p, (backTo p (starEach [e₁, e₂, e₃] env)).any (·.1) = false) (hne : ∀ p, ∃ x r, backTo p (starEach [e₁, e₂, e₃] env) = (false, x) :: r) : OkIt c d env (.Call (.Name "range" p) [e₁, e₂, e₃] [] pos) lk σ pt QI := by
  refine okit_call hx bb_range (by decide) hk (by decide) (h.mono fun ys σ' hh => ?_) hst hne
  obtain ⟨a, b, rfl, ha, ha', hb, hb', hq⟩ := hh
  intro A s μ vs Qr Er ok r f hv q
  obtain ⟨v, w, u, rfl, h1, h2, h3⟩ := hv.three
  obtain ⟨t, rfl⟩ := h1.int'
  obtain ⟨t, rfl⟩ := h2.int'
  obtain ⟨t, rfl⟩ := h3.int'
  exact call_range_3 (by decide) (range_tail r f (rangeOk_down ha ha' hb hb') hq q) (.inl (PyProof.noPylong_small (by omega)))

theorem bb_enumerate : bootBuiltins "enumerate" = some (.type "enumerate") := by decide +kernel
/-- what a call of enumerate lays -/
theorem enum_tail {A : Around} {s : Shared} {μ : AMap} {Qr : Value → Shared → Prop} {Er : Value → Shared → Prop} {l : Addr} {vs : Array Value} {n : Nat} {xs : List V} {S : Sto → Prop} {QI : (Sto → Prop) → List V → Sto → Prop}
    (r : HR c s.heap μ σ) (f : FR c env lk s.heap μ) (ho : s.heap.get? l = some (lstO vs n)) (hq : QI S (enumV 0 xs) σ)
    (mk : ∀ h', Kp s.heap h' μ μ → (∀ b o, s.heap.get? b = some o → h'.get? b = some o) → s.heap.objs.size + 1 ≠ s.heap.objs.size → IsEnum h' (s.heap.objs.size + 1) s.heap.objs.size 0 .none → h'.IsListIter s.heap.objs.size l 0 → ItR h' μ S [s.heap.objs.size + 1, s.heap.objs.size] (s.heap.objs.size + 1) (enumV 0 xs))
    (q : ∀ it s' S fp xs, QI S xs σ → HR c s'.heap μ σ → FR c env lk s'.heap μ → Step (own env) μ μ s s' → ItR s'.heap μ S fp it xs → FpOk c env s s' μ fp → (fp.length = 2 → true = true) → Qr (.ref it) s') :
    wpAny c.M A (call (.type "enumerate") [.ref l]) (fun x s₁ => wpAny c.M A (pyIter x) Qr Er s₁) Er s := by
  refine call_enumerate_list ⟨_, ho, rfl, _, rfl⟩ fun h' he hi hsz kp => wpAny_pyIter_enum he ?_
  have n1 : s.heap.get? (s.heap.objs.size + 1) = none := none_ge (Nat.le_succ _)
  refine q _ { s with heap := h' } _ [s.heap.objs.size + 1, s.heap.objs.size] _ hq (r.keep kp) (f.keep (s' := { s with heap := h' }) kp rfl rfl) (Step.ofKeep kp rfl rfl) (mk h' (.all kp) kp (Nat.succ_ne_self _) he hi) (fun b hb => ?_) fun _ => rfl
  rcases List.mem_cons.mp hb with e | hb
  · exact e ▸ ⟨n1, frz_none r n1, _, _, he, rfl⟩
  · exact List.mem_singleton.mp hb ▸ ⟨none_size _, frz_size r, hi.imp fun o z => ⟨_, z.1, z.2.2⟩⟩

theorem okit_enum {p : Pos} {e : Expr} {QI : (Sto → Prop) → List V → Sto → Prop} (hx : nsIn c.K mainGlobals "enumerate" = some none) (hk : env.kindOf "enumerate" = some .globalImplicit)
    (h : Ok c d env e lk σ (fun y σ' => (∃ xs, y = .lst xs ∧ QI (fun _ => True) (enumV 0 xs) σ') ∨ ∃ k xs, y = .ref k ∧ σ' k = some (.list xs) ∧ QI (fun σ => σ k = some (.list xs)) (enumV 0 xs) σ'))
    (he : ∀ env, starEach [e] env = (false, eval e env) :: starEach [] env) : OkIt c d env (.Call (.Name "enumerate" p) [e] [] pos) lk σ true QI := by
  refine okit_call hx bb_enumerate (by decide) hk (by decide) (okl_cons (h.mono fun y σ' hh => okl_nil ?_) he) (fun p => by rw [he]; rfl) fun p => by rw [he]; exact ⟨_, _, rfl⟩
  intro A s μ vs Qr Er ok r f hv q
  obtain ⟨v, rfl, h1⟩ := hv.one
  rcases hh with ⟨xs, rfl, hq⟩ | ⟨k, xs, rfl, hs, hq⟩
  · obtain ⟨a, vs, n, rfl, ho, hf, hvs⟩ := h1.lst'
    exact enum_tail r f ho hq (fun h' K kp ne he hi => .enumF (i := 0) ne he hi (kp _ _ ho) hf (hvs.at K)) q
  · obtain ⟨p, rfl, hp⟩ := h1.ref'
    obtain ⟨_, vs, n, ho, hvs⟩ := r.cell k _ p hs hp
    exact enum_tail r f ho hq (fun h' K kp ne he hi => .enumC (i := 0) ne he hi hp) q
end

-- C9

theorem bindL_not {kindOf : Str → Option NameKind} {x : Str} : ∀ (bs : List (Str × Value)) (m : Str → Option Value), x ∉ bs.map (·.1) → bindL kindOf bs m x = m x
  | [], _, _ => rfl
  | (n, v) :: r, m, h => by
    unfold bindL
    rw [bindL_not r _ (fun hx => h (.tail _ hx))]
    have hne : x ≠ n := fun e => h (e ▸ .head _)
    split
    · show (if x = n then some v else m x) = m x
      rw [if_neg hne]
    · rfl
theorem bindC_not {kindOf : Str → Option NameKind} {x : Str} : ∀ (bs : List (Str × Value)) (m : Str → Option Value), x ∉ bs.map (·.1) → bindC kindOf bs m x = m x
  | [], _, _ => rfl
  | (n, v) :: r, m, h => by
    unfold bindC
    rw [bindC_not r _ (fun hx => h (.tail _ hx))]
    have hne : x ≠ n := fun e => h (e ▸ .head _)
    split
    · rfl
    · show (if x = n then some v else m x) = m x
      rw [if_neg hne]

theorem zip_names (ps : List Str) : ∀ (vs : List Value), ∀ x ∈ (ps.zip vs).map (·.1), x ∈ ps := by
  induction ps with
  | nil => intro vs x hx; simp at hx
  | cons p r ih =>
    intro vs x hx
    cases vs with
    | nil => simp at hx
    | cons v vs =>
      simp only [List.zip_cons_cons, List.map_cons, List.mem_cons] at hx
      rcases hx with rfl | hx
      · exact .head _
      · exact .tail _ (ih vs x hx)

theorem lk_in {α : Type} {x n : Str} {a : α} {r : List (Str × α)} (h : x ≠ n) : ((n, a) :: r).lookup x = r.lookup x := by rw [List.lookup_cons, beq_eq_false_iff_ne.mpr h]
theorem bind_has {h : Heap} {μ : AMap} {x : Str} {y : V} (B : List (Str × Value) → (Str → Option Value) → Str → Option Value) (h0 : ∀ bs m v, x ∉ bs.map (·.1) → B ((x, v) :: bs) m x = some v) (h1 : ∀ n v bs m, x ≠ n → ∃ m', B ((n, v) :: bs) m x = B bs m' x)
    {args : List V} {vs : List Value} (r : VRs h μ args vs) : ∀ (ps : List Str) (m : Str → Option Value), ps.Nodup → (ps.zip args).lookup x = some y → ∃ v, B (ps.zip vs) m x = some v ∧ VR h μ y v :=
  VRs.ind (P := fun args vs => ∀ (ps : List Str) (m : Str → Option Value), ps.Nodup → (ps.zip args).lookup x = some y → ∃ v, B (ps.zip vs) m x = some v ∧ VR h μ y v)
    (fun ps m _ e => by rw [List.zip_nil_right] at e; cases e)
    (fun {_ v _ vs} a _ ih ps m hn e => by
      cases ps with
      | nil => cases e
      | cons p ps =>
        rcases lk_or (show List.lookup x ((p, _) :: ps.zip _) = some y from e) with z | z
        · obtain ⟨rfl, rfl⟩ := z
          exact ⟨v, h0 _ _ _ fun hm => (List.nodup_cons.mp hn).1 (zip_names ps vs x hm), a⟩
        · obtain ⟨m', e'⟩ := h1 p v (ps.zip vs) m z.1
          exact (ih ps m' (List.nodup_cons.mp hn).2 z.2).imp fun _ g => ⟨e'.trans g.1, g.2⟩) r
theorem bindL_has {h : Heap} {μ : AMap} {kindOf : Str → Option NameKind} {x : Str} {y : V} (hk : kindOf x = some .local) (ps : List Str) (args : List V) (vs : List Value) (m : Str → Option Value) (r : VRs h μ args vs) (hn : ps.Nodup) :
    (ps.zip args).lookup x = some y → ∃ v, bindL kindOf (ps.zip vs) m x = some v ∧ VR h μ y v :=
  bind_has (bindL kindOf) (fun bs m v hm => by
    unfold bindL
    rw [bindL_not _ _ hm, if_pos hk]
    exact if_pos rfl) (fun n v bs m _ => ⟨_, rfl⟩) r ps m hn
theorem bindC_has {h : Heap} {μ : AMap} {kindOf : Str → Option NameKind} {x : Str} {y : V} (hk : kindOf x ≠ some .local) (ps : List Str) (args : List V) (vs : List Value) (m : Str → Option Value) (r : VRs h μ args vs) (hn : ps.Nodup) :
    (ps.zip args).lookup x = some y → ∃ v, bindC kindOf (ps.zip vs) m x = some v ∧ VR h μ y v :=
  bind_has (bindC kindOf) (fun bs m v hm => by
    unfold bindC
    rw [bindC_not _ _ hm, if_neg hk]
    exact if_pos rfl) (fun n v bs m _ => ⟨_, rfl⟩) r ps m hn

theorem len_cons {α : Type} {n : Nat} {l : List α} (h : l.length = n + 1) : ∃ a r, l = a :: r ∧ r.length = n := by
  cases l with
  | nil => cases h
  | cons a r => exact ⟨a, r, rfl, Nat.succ.inj h⟩
theorem len_1 {α : Type} {l : List α} (h : l.length = 1) : ∃ a, l = [a] := (len_cons h).imp fun a z => z.elim fun r z => z.1.trans (congrArg (a :: ·) (List.length_eq_zero_iff.mp z.2))
theorem len_2 {α : Type} {l : List α} (h : l.length = 2) : ∃ a b, l = [a, b] := (len_cons h).imp fun a z => z.elim fun r z => (len_1 z.2).imp fun b e => z.1.trans (congrArg (a :: ·) e)
theorem len_3 {α : Type} {l : List α} (h : l.length = 3) : ∃ a b c, l = [a, b, c] := (len_cons h).imp fun a z => z.elim fun r z => (len_2 z.2).imp fun b => Exists.imp fun c e => z.1.trans (congrArg (a :: ·) e)
theorem len_4 {α : Type} {l : List α} (h : l.length = 4) : ∃ a b c d, l = [a, b, c, d] := (len_cons h).imp fun a z => z.elim fun r z => (len_3 z.2).imp fun b => Exists.imp fun c => Exists.imp fun d e => z.1.trans (congrArg (a :: ·) e)
theorem len_5 {α : Type} {l : List α} (h : l.length = 5) : ∃ a b c d e, l = [a, b, c, d, e] := (len_cons h).imp fun a z => z.elim fun r z => (len_4 z.2).imp fun b => Exists.imp fun c => Exists.imp fun d => Exists.imp fun f e => z.1.trans (congrArg (a :: ·) e)
theorem len_6 {α : Type} {l : List α} (h : l.length = 6) : ∃ a b c d e f, l = [a, b, c, d, e, f] := (len_cons h).imp fun a z => z.elim fun r z => (len_5 z.2).imp fun b => Exists.imp fun c => Exists.imp fun d => Exists.imp fun f => Exists.imp fun g e => z.1.trans (congrArg (a :: ·) e)

theorem pair_apart {cs : List (Str × Addr)} (hp : cs.Pairwise fun x y => x.2 ≠ y.2) {x y : Str} {a b : Addr} (ha : cs.lookup x = some a) (hb : cs.lookup y = some b) (hxy : x ≠ y) : a ≠ b := by
  induction cs with
  | nil => cases ha
  | cons p r ih =>
    have hp' := List.pairwise_cons.mp hp
    rcases lk_or ha with z | z <;> rcases lk_or hb with w | w
    · exact absurd (z.1.trans w.1.symm) hxy
    · exact z.2 ▸ hp'.1 _ (mem_of_lookup w.2)
    · exact w.2 ▸ (hp'.1 _ (mem_of_lookup z.2)).symm
    · exact ih hp'.2 z.2 w.2

section
variable {c : Ctx} {d : Nat} {env : Env} {lk : Loc} {σ : Sto} {pos : Pos} {QX : Fl → Loc → Sto → Prop} {Q : V → Sto → Prop}

/-- how a def's body ends -/
noncomputable def RetOk (Q : V → Sto → Prop) (fl : Fl) (_ : Loc) (σ : Sto) : Prop := match fl with
  | .ret y => Q y σ
  | .next => Q .none σ
  | _ => False

/-- a call, as code -/
noncomputable def CodeOk (c : Ctx) (d : Nat) (f : Value) (args : List V) (σ : Sto) (Q : V → Sto → Prop) : Prop :=
  ∀ A s μ vs R, AOk A d → HR c s.heap μ σ → VRs s.heap μ args vs →
    (∀ v s' y σ' μ', Q y σ' → HR c s'.heap μ' σ' → VR s'.heap μ' y v → Step (fun _ => False) μ μ' s s' → R (.ok (.ret v)) s') → codeAny c.M A (.call f ⟨vs, []⟩) R s
theorem CodeOk.call {f : Value} {args : List V} (h : CodeOk c d f args σ Q) : CallOk c d f args σ Q :=
  fun A s μ vs Qr Er ok r hv q => wpAny_call (h A s μ vs _ ok r hv q)

/-- a body's end, seen from without -/
theorem frame_post {Qr : Flow → Shared → Prop} {R : Value → Shared → Prop} {s s₁ : Shared} {μ : AMap} (hr : ∀ v s', R v s' → Qr (.ret v) s') (hn : ∀ s', R .none s' → Qr .next s') (fresh : ∀ b, own env b → s.heap.get? b = none) (st0 : Step (own env) μ μ s s₁)
    (q : ∀ v s' y σ' μ', Q y σ' → HR c s'.heap μ' σ' → VR s'.heap μ' y v → Step (fun _ => False) μ μ' s s' → R v s') : FlPost c env μ s₁ (RetOk Q) Qr := by
  intro fl s' z lk' σ' μ' hq r' f' v' st
  have st' := st0.trans st
  have stF : Step (fun _ => False) μ μ' s s' := { st' with keep := fun b o hf _ e => st'.keep b o hf (fun ho => nomatch ((fresh b ho).symm.trans e : none = some o)) e }
  cases z with
  | next => cases fl <;> first | exact v'.elim | exact hn _ (q .none s' .none σ' μ' hq r' .none stF)
  | brk => exact hq.elim
  | cont => exact hq.elim
  | ret y => cases fl <;> first | exact v'.elim | exact hr _ _ (q _ s' y σ' μ' hq r' v' stF)

/-- a def of the module, called: its body is walked in a frame of its own -/
theorem codeOk_def {a : Addr} {oc : Value} {od : Option Addr} {osl : Array (Option Value)} {name qual : Str} {params : Arguments} {body : List Stmt} {scope : Scope} {dV kV doc pm cdv ct : Value} {an : Option Addr} {ps : List Str} {args : List V}
    (ho : c.K.lookup a = some ⟨oc, od, .func (fnOf name qual params body scope dV kV doc pm an cdv ct), osl⟩) (hcd : codeIn c.K cdv qual = true)
    (hlen : args.length = ps.length)
    (hbind : ∀ vs : List Value, vs.length = ps.length → bindArgs (fnOf name qual params body scope dV kV doc pm an cdv ct) ⟨vs, []⟩ = pure (ps.zip vs))
    (hnd : ps.Nodup) (hps : ∀ x ∈ ps, scope.names.lookup x = some .local ∨ scope.names.lookup x = some .cell) (hfree : ∀ p ∈ scope.names, p.2 ≠ .free)
    (hkind : scope.kind = .function) (hco : scope.isCoroutine = false) (hgen : scope.isGenerator = false)
    (h : ∀ L, OkB c d (envOfC qual scope L a cdv) body (ps.zip args) σ (RetOk Q)) : CodeOk c (d + 1) (.ref a) args σ Q := by
  intro A s μ vs R ok r hv q
  have hoh := r.K _ _ ho
  have hvl : vs.length = ps.length := by rw [← hv.length]; exact hlen
  refine codeAny_call_cells (binds := ps.zip vs) ok.room hoh rfl r.nolimit (codeRec_of r.K hcd) rfl (hbind vs hvl) rfl (fun x hx => ?_) (fun s₁ IC => ?_) hco hgen hkind
  · exact (hps _ (zip_names ps vs x.1 (List.mem_map_of_mem hx))).imp id fun e => ⟨e, cellsFrom_some _ _ _ (.inl e)⟩
  · have keep := IC.toInCall.keep
    have sm : s₁.gens = s.gens ∧ s₁.os = s.os := IC.toInCall.same.elim fun _ z => z.elim fun _ z => ⟨z ▸ rfl, z ▸ rfl⟩
    let env₁ := callEnvC (fnOf name qual params body scope dV kV doc pm an cdv ct) s.heap.objs.size a
    have above : ∀ x b, env₁.cells.lookup x = some b → s.heap.objs.size < b := fun x b hb => IC.above x b (mem_of_lookup hb)
    have v₁ : VRs s₁.heap μ args vs := hv.at (.all keep)
    have f₁ : FR c env₁ (ps.zip args) s₁.heap μ :=
      { kind := hkind
        globals := rfl
        builtins := rfl
        above := r.size
        frzL := frz_size r
        ns := ⟨_, IC.toInCall.ns, fun x y hx hy => bindL_has hx ps args vs _ v₁ hnd hy⟩
        cell := fun x b hb => ⟨Nat.ne_of_gt (above x b hb), frz_none r (none_ge (Nat.le_of_lt (above x b hb))), none_base r (none_ge (Nat.le_of_lt (above x b hb))), _, IC.cell x b hb, fun y hk hy => bindC_has (fun e => hk.elim (fun hk => nomatch (hk.symm.trans e : some NameKind.cell = some .local)) fun hk => nomatch (hk.symm.trans e : some NameKind.free = some .local)) ps args vs _ v₁ hnd hy⟩
        cells := fun x hx => hx.elim (fun hx => Option.isSome_iff_exists.mp (cellsFrom_some _ _ _ (.inl hx))) fun hx => absurd rfl (hfree _ (mem_of_lookup' hx))
        apart := fun x y b b' hb hb' hxy => pair_apart IC.apart hb hb' hxy }
    exact h s.heap.objs.size (A.deeper env₁) s₁ μ _ _ ok.deeper (r.keep keep) f₁ (frame_post (R := fun v s' => R (.ok (.ret v)) s') (fun _ _ h => h) (fun _ h => h) (fun b o => o.elim (fun (e : b = s.heap.objs.size) => e ▸ none_size _) fun z => z.elim fun x hx => none_ge (Nat.le_of_lt (above x b hx))) (Step.ofKeep keep sm.1 sm.2) q)
end

-- C10

theorem nsFind_list (es : List DictEntry) (x : Str) : nsFind es.toArray x = (es.find? fun e => e.key.isStr x).map (·.val) := by
  simp [nsFind, findBy, List.find?_toArray]

theorem ns_getL {es : List DictEntry} (hk : StrKeys es.toArray) (x : Str) : getL x es = some (nsFind es.toArray x) := by
  rw [nsFind_list]
  unfold getL
  cases he : es.find? (·.key.isStr x) with
  | some e => rfl
  | none =>
    have : es.any (·.refKey) = false := by
      rw [List.any_eq_false]
      intro e hm
      obtain ⟨n, t, h⟩ := hk e (by simpa using hm)
      simp [DictEntry.refKey, h]
    rw [this]; rfl

theorem isStr_str (x y : Str) (t : Tok) : (Value.str y t).isStr x = decide (x = y) := by
  show (y == x) = decide (x = y)
  by_cases h : x = y
  · subst h; simp
  · have : ¬ y = x := fun e => h e.symm
    simp [h, this]

theorem ns_putL (name : Str) (hsh : Int) (tk : Tok) (v : Value) (x : Str) : ∀ es : List DictEntry, nsFind (putL name hsh (.str name tk) v es).toArray x = if x = name then some v else nsFind es.toArray x
  | [] => by
    rw [nsFind_list, nsFind_list]
    unfold putL
    simp only [List.find?_cons, isStr_str]
    by_cases h : x = name <;> simp [h]
  | e :: r => by
    have ih := ns_putL name hsh tk v x r
    rw [nsFind_list] at ih ⊢
    rw [nsFind_list] at ih ⊢
    unfold putL
    by_cases he : e.key.isStr name = true
    · rw [if_pos he]
      simp only [List.find?_cons]
      by_cases h : x = name
      · subst h; simp [he]
      · have : e.key.isStr x = false := by
          cases hh : e.key.isStr x
          · rfl
          · exact absurd (Value.isStr_inj _ _ _ hh he) h
        simp [this, h]
    · rw [if_neg he]
      simp only [List.find?_cons]
      cases hx : e.key.isStr x with
      | false => simpa using ih
      | true =>
        have : x ≠ name := by rintro rfl; exact he hx
        simp [this]

theorem putL_keys {name : Str} {hsh : Int} {tk : Tok} {v : Value} : ∀ {es : List DictEntry}, StrKeys es.toArray → StrKeys (putL name hsh (.str name tk) v es).toArray
  | [], _ => by
    intro e he
    simp only [putL, List.mem_toArray, List.mem_cons, List.not_mem_nil, or_false] at he
    subst he
    exact ⟨name, tk, rfl⟩
  | a :: r, hk => by
    intro e he
    unfold putL at he
    split at he
    · simp only [List.mem_toArray, List.mem_cons] at he
      rcases he with rfl | he
      · exact hk a (by simp)
      · exact hk e (by simp [he])
    · simp only [List.mem_toArray, List.mem_cons] at he
      rcases he with rfl | he
      · exact hk _ (by simp)
      · exact putL_keys (es := r) (fun e he => hk e (by simp only [List.mem_toArray] at he ⊢; exact .tail _ he)) e (by simpa using he)

theorem putL_length {name : Str} {hsh : Int} {key v : Value} : ∀ {es : List DictEntry}, (putL name hsh key v es).length ≤ es.length + 1
  | [] => by simp [putL]
  | a :: r => by
    unfold putL
    split
    · simp
    · have := putL_length (name := name) (hsh := hsh) (key := key) (v := v) (es := r)
      simp only [List.length_cons]; omega
theorem putL_length_old {name : Str} {hsh : Int} {key v : Value} : ∀ {es : List DictEntry}, (nsFind es.toArray name).isSome = true → (putL name hsh key v es).length = es.length
  | [], h => by rw [nsFind_list] at h; simp at h
  | a :: r, h => by
    unfold putL
    by_cases ha : a.key.isStr name = true
    · rw [if_pos ha]; simp
    · rw [if_neg ha]
      have : (nsFind r.toArray name).isSome = true := by
        rw [nsFind_list] at h ⊢
        simpa [List.find?_cons, ha] using h
      simp [putL_length_old this]

/-- a plain class of the module -/
structure ClsF (K : Frag) (C : Addr) : Prop where
  ga : findIn K (.ref C) "__getattribute__" = some (some (.builtin "object.__getattribute__"))
  gt : findIn K (.ref C) "__getattr__" = some none
  sa : findIn K (.ref C) "__setattr__" = some (some (.builtin "object.__setattr__"))
  po : plainOver K C = true
  hd : (clsIn K C).any (·.hasDict) = true

section
variable {c : Ctx} {d : Nat} {env : Env} {lk : Loc} {σ : Sto} {pos : Pos} {QX : Fl → Loc → Sto → Prop} {Q : V → Sto → Prop}

theorem OR.some_of {h : Heap} {μ : AMap} {y : V} {o : Option Value} (r : OR h μ (some y) o) : ∃ v, o = some v ∧ VR h μ y v := by
  cases o with
  | none => exact r.elim
  | some v => exact ⟨v, rfl, r⟩
theorem OR.none_of {h : Heap} {μ : AMap} {o : Option Value} (r : OR h μ none o) : o = none := by
  cases o with
  | none => rfl
  | some v => exact r.elim

theorem OR.some_at {h : Heap} {μ : AMap} {y : V} {a : Option V} {o : Option Value} (r : OR h μ a o) (e : a = some y) : ∃ v, o = some v ∧ VR h μ y v := OR.some_of (e ▸ r)
theorem OR.isSome {h : Heap} {μ : AMap} {a : Option V} {o : Option Value} (r : OR h μ a o) : o.isSome = a.isSome := by
  cases a <;> cases o <;> first | rfl | exact r.elim
/-- what is handed out as it is -/
noncomputable def HandOk : V → Prop
  | .raw v => handedIn v = true
  | _ => True
theorem VR.handed {h : Heap} {μ : AMap} {y : V} {v : Value} (r : VR h μ y v) : HandOk y → handedIn v = true :=
  VR.rec (motive_1 := fun y v _ => HandOk y → handedIn v = true) (motive_2 := fun _ _ _ => True) (fun _ => rfl) (fun _ _ => rfl) (fun _ _ _ => rfl) (fun _ _ _ => rfl) (fun _ h => h) (fun _ _ => rfl) (fun _ _ _ _ _ => rfl) (fun _ _ _ _ _ => rfl) trivial (fun _ _ _ _ => trivial) r

theorem run_attr {C : Addr} {n k : Nat} {f : Str → Option V} {name : Str} {y : V} (hs : σ k = some (.inst C n f)) (hC : ClsF c.K C) (hn : findIn c.K (.ref C) name = some none) (hf : f name = some y) (hy : HandOk y) (h : Q y σ) :
    Run1 c d env lk σ (fun v => getAttr v name true) (.ref k) Q := by
  intro A s μ va Qr Er ok r fr hv q
  obtain ⟨p, rfl, hp⟩ := hv.ref'
  obtain ⟨hx, es, m, hd, hk, _, hr⟩ := r.cell k _ p hs hp
  obtain ⟨v, hv, hvr⟩ := OR.some_of (hf ▸ hr name)
  obtain ⟨cd, hcd, hhd⟩ := any_some hC.hd
  have I : InstAt s.heap p.1 ⟨.ref C, some p.2, .plain, #[]⟩ C (some (dictOf es m)) := ⟨hx, rfl, rfl, hd⟩
  have own : PySem.W.ownOf cd (some (dictOf es m)) name = some (some v) := by
    unfold PySem.W.ownOf
    rw [hhd, if_pos rfl]
    exact (lookIn_dict ..).trans ((ns_getL hk name).trans (congrArg some hv))
  refine get_value r.K I hC.ga (v := v) ?_ (hvr.handed hy) (q.same h r fr hvr)
  unfold findObj
  rw [hcd, Option.bind_some, hn, Option.bind_some]
  show (PySem.W.ownOf cd (some (dictOf es m)) name).bind _ = _
  rw [own]; rfl

theorem ok_attr {o : Expr} {attr : Str} (h : Ok c d env o lk σ (fun y σ' => Run1 c d env lk σ' (fun v => getAttr v attr true) y Q)) (hb : attributeBase o attr env (eval o env) = eval o env) :
    Ok c d env (.Attribute o attr pos) lk σ Q := by
  intro A s μ Qr Er ok r f q
  rw [arm_eval_Attribute, hb]
  refine wpAny_bind (h A s μ _ Er ok r f fun v s₁ y σ₁ μ₁ h₁ r₁ f₁ v₁ st₁ => wpAny_bind (wpAny_standAt (wpAny_bind (wpAny_holding ?_))))
  refine h₁ A s₁ μ₁ v _ Er ok r₁ f₁ v₁ fun u s₂ z σ₂ μ₂ h₂ r₂ f₂ v₂ st₂ => ?_
  exact wpAny_bind (wpAny_letTemporaryGo (wpAny_pure (q u s₂ z σ₂ μ₂ h₂ r₂ f₂ v₂ (st₁.trans st₂))))

/-- o.attr, o an expression whose value is an object's cell -/
theorem ok_field {o : Expr} {attr : Str} (h : Ok c d env o lk σ (fun y σ' => ∃ k C n f z, y = .ref k ∧ σ' k = some (.inst C n f) ∧ ClsF c.K C ∧ findIn c.K (.ref C) attr = some none ∧ f attr = some z ∧ HandOk z ∧ Q z σ'))
    (hb : attributeBase o attr env (eval o env) = eval o env) : Ok c d env (.Attribute o attr pos) lk σ Q :=
  ok_attr (h.mono fun y σ' hh => by
    obtain ⟨k, C, n, f, z, rfl, h1, h2, h3, h4, h5, h6⟩ := hh
    exact run_attr h1 h2 h3 h4 h5 h6) hb

theorem osa_mine {A : Around} {s : Shared} {R : Result → Shared → Prop} {x C dx : Addr} {name : Str} {tk : Tok} {v : Value} {es : List DictEntry} {n : Nat} (X : c.K.In s.heap) (hx : s.heap.get? x = some ⟨.ref C, some dx, .plain, #[]⟩) (hd : s.heap.get? dx = some (dictOf es n))
    (hk : StrKeys es.toArray) (hC : ClsF c.K C) (ht : takerIn c.K C name = some none) (hz : es.length ≤ 900)
    (h : ∀ h', h'.get? dx = some (dictOf (putL name (PyData.keyHash c.w.params name) (.str name s.toks) v es) (putN name es n)) → Heap.SameBut dx s.heap h' → R (.ok (.ret .none)) { s with heap := h', toks := s.toks + 1 }) :
    codeAny c.M A (.call (.builtin "object.__setattr__") ⟨[.ref x, .str name tk, v], []⟩) R s := by
  have I : InstAt s.heap x ⟨.ref C, some dx, .plain, #[]⟩ C (some (dictOf es n)) := ⟨hx, rfl, rfl, hd⟩
  refine osa_open X I hC.po ht fun b => ?_
  obtain ⟨cd, hc, hhd⟩ := any_some hC.hd
  refine wpAny_bind (wpAny_pure (wpAny_bind (wpAny_bind (wpAny_loadPart hx (wpAny_bind ((looks_clsIn X hc).here ?_))))))
  rw [hhd]
  refine wpAny_pure (a := some dx) (wpAny_bind (wpAny_pure (wpAny_bind ?_)))
  unfold nsSet
  refine wpAny_bind (wpAny_bind (wpAny_askSetting (wpAny_pure (wpAny_bind (wpAny_mkText (wpAny_bind (wpAny_loadPart hd ?_)))))))
  have nr : es.toArray.any (·.refKey) = false := by
    rw [Array.any_eq_false']
    intro e he
    obtain ⟨m, t, q⟩ := hk e he
    simp [DictEntry.refKey, q]
  dsimp only
  rw [aRefKeyMayBeTheName_at, nr, Bool.and_false]
  have new : (s.heap.update dx (Obj.putName name (PyData.keyHash c.w.params name) (.str name s.toks) v)).get? dx = some (dictOf (putL name (PyData.keyHash c.w.params name) (.str name s.toks) v es) (putN name es n)) := by
    rw [Heap.get?_update_self _ hd (by rw [putName_dict]; rfl), putName_dict]
  refine wpAny_updatePart hd ?_
  refine wpAny_bind (wpAny_lookBehind new (pastItsLine_dict (by
    rw [List.size_toArray, sizeLine_eq]
    exact Nat.le_trans (Nat.le_trans putL_length (Nat.succ_le_succ hz)) (by decide))) ?_)
  exact wpAny_pure (h _ new (Heap.SameBut.update ..))

/-- o.attr = .. -/
theorem set_field {A : Around} {s : Shared} {μ : AMap} {Qr : Unit → Shared → Prop} {Er : Value → Shared → Prop} {C : Addr} {n n' k : Nat} {f : Str → Option V} {name : Str} {y : V} {v : Value} {p : Addr × Addr}
    (r : HR c s.heap μ σ) (fr : FR c env lk s.heap μ) (hs : σ k = some (.inst C n f)) (hp : μ.1 k = some p) (hC : ClsF c.K C) (ht : takerIn c.K C name = some none) (hv : VR s.heap μ y v) (hn : n ≤ 900) (hn' : n' = if (f name).isSome then n else n + 1)
    (q : ∀ s', HR c s'.heap μ (upd σ k (.inst C n' (fun z => if z = name then some y else f z))) → FR c env lk s'.heap μ → Step (own env) μ μ s s' → Qr () s') : wpAny c.M A (setAttr (.ref p.1) name v) Qr Er s := by
  obtain ⟨hx, es, m, hd, hk, hl, hr⟩ := r.cell k _ p hs hp
  have I : InstAt s.heap p.1 ⟨.ref C, some p.2, .plain, #[]⟩ C (some (dictOf es m)) := ⟨hx, rfl, rfl, hd⟩
  refine set_plain r.K I hC.sa ?_
  refine osa_mine (s := { s with toks := s.toks + 1 }) (tk := s.toks) r.K hx hd hk hC ht (Nat.le_trans hl hn) fun h' hd' hs' => ?_
  have hne : p.1 ≠ p.2 := fun e => nomatch (congrArg Obj.data (some_ne hx ((congrArg s.heap.get? e).trans hd)) : Data.plain = .dict _ _)
  have kp : ∀ b o, s.heap.get? b = some o → Frz μ b → h'.get? b = some o ∧ Frz μ b := fun b o e fz => ⟨(hs'.2 b (fz.1 k p hp).2).trans e, fz⟩
  have K : Kp s.heap h' μ μ := .of kp fun _ _ e => e
  have z := HR.write (X := own env) (s' := { s with heap := h', toks := s.toks + 1 + 1 }) (x' := .inst C n' (fun z => if z = name then some y else f z)) r hs hp (fun b o hb e => (hs'.2 b hb).trans e) ⟨_, hd'⟩ rfl rfl (fun _ _ => by
    refine ⟨(hs'.2 p.1 hne).trans hx, _, _, hd', putL_keys hk, ?_, fun z => ?_⟩
    · rw [hn']
      by_cases q : (f name).isSome = true
      · rw [if_pos q, putL_length_old ((hr name).isSome.trans q)]; exact hl
      · rw [if_neg q]; exact Nat.le_trans putL_length (Nat.succ_le_succ hl)
    · show OR h' μ (if z = name then some y else f z) _
      rw [ns_putL]
      by_cases q : z = name
      · rw [if_pos q, if_pos q]; exact hv.at K
      · rw [if_neg q, if_neg q]; exact (hr z).at K)
  exact q _ z.1 (fr.at K fun a o _ fz e => kp a o e fz) z.2

theorem oka_field {o : Expr} {attr : Str} {y : V} {QA : Loc → Sto → Prop} (h : Ok c d env o lk σ (fun z σ' => ∃ k C n f, z = .ref k ∧ σ' k = some (.inst C n f) ∧ ClsF c.K C ∧ takerIn c.K C attr = some none ∧ n ≤ 900 ∧
      QA lk (upd σ' k (.inst C (if (f attr).isSome then n else n + 1) (fun z => if z = attr then some y else f z))))) : OkA c d env (.Attribute o attr pos) y lk σ QA := by
  intro A s μ v Qr Er ok r f hv q
  rw [assign_Attribute]
  refine wpAny_bind (wpAny_holding (h A s μ _ Er ok r f fun vo s₁ z σ₁ μ₁ h₁ r₁ f₁ v₁ st₁ => wpAny_bind (wpAny_standAt (wpAny_bind (wpAny_holding ?_)))))
  obtain ⟨k, C, n, g, rfl, hs, hC, ht, hn, hq⟩ := h₁
  obtain ⟨p, rfl, hp⟩ := v₁.ref'
  exact set_field r₁ f₁ hs hp hC ht (hv.step st₁) hn rfl fun s₂ r₂ f₂ st₂ => wpAny_release (q s₂ lk _ μ₁ hq r₂ f₂ (st₁.trans st₂))
end

-- C11

section
variable {c : Ctx} {d : Nat} {env : Env} {lk : Loc} {σ : Sto} {pos : Pos} {QX : Fl → Loc → Sto → Prop} {Q : V → Sto → Prop}

/-- the library's ledger form: all that is new, written out -/
theorem news_all (c : Ctx) (L : Addr) (h : Heap) : ∃ news, News c.H0 L h news ∧ ∀ a o, h.get? a = some o → c.H0.get? a = none → a ≠ L → (a, o) ∈ news := by
  refine ⟨(List.range h.objs.size).filterMap fun a => if c.H0.get? a = none ∧ a ≠ L then (h.get? a).map fun o => (a, o) else none, fun p hp => ?_, fun a o h1 h2 h3 => ?_⟩
  · obtain ⟨a, _, ha⟩ := List.mem_filterMap.mp hp
    split at ha
    · rename_i q
      obtain ⟨o, ho, rfl⟩ := Option.map_eq_some_iff.mp ha
      exact ⟨ho, q.2, q.1⟩
    · cases ha
  · refine List.mem_filterMap.mpr ⟨a, List.mem_range.mpr (Heap.lt_size h1), ?_⟩
    rw [if_pos ⟨h2, h3⟩, h1]; rfl

theorem fr_of {s : Shared} {μ : AMap} (f : FR c env lk s.heap μ) (r : HR c s.heap μ σ) : ∃ m, Fr c.H0 env.locals s.heap m := by
  obtain ⟨m, hn, _⟩ := f.ns
  exact ⟨m, hn, r.base, f.above⟩

theorem ns_eq {h : Heap} {a : Addr} {m m' : Str → Option Value} (n : h.Ns a m) (n' : h.Ns a m') : m = m' := by
  funext x
  obtain ⟨o, es, ep, ho, hd, _, q⟩ := n
  obtain ⟨o', es', ep', ho', hd', _, q'⟩ := n'
  obtain rfl := some_ne ho ho'
  have e := hd.symm.trans hd'
  rw [← q, ← q', (Data.dict.inj e).1]
theorem news_step {s s' : Shared} {μ : AMap} {m : Str → Option Value} {news : List (Addr × Obj)} (r : HR c s.heap μ σ) (f : FR c env lk s.heap μ) (F₀ : Fr c.H0 env.locals s.heap m) (ha : ∀ a o, s.heap.get? a = some o → c.H0.get? a = none → a ≠ env.locals → (a, o) ∈ news)
    (F' : Fr c.H0 env.locals s'.heap m) (N' : News c.H0 env.locals s'.heap news) (hg : s'.gens = s.gens) (ho : s'.os = s.os) : HR c s'.heap μ σ ∧ FR c env lk s'.heap μ ∧ Step (own env) μ μ s s' := by
  have kp : ∀ b o, ¬ b = env.locals → s.heap.get? b = some o → s'.heap.get? b = some o := fun b o hb e => by
    cases h0 : c.H0.get? b with
    | none => exact (N' (b, o) (ha b o e h0 hb)).1
    | some o' => exact (some_ne (r.base b o' h0) e) ▸ F'.keep b o' h0
  have K : Kp s.heap s'.heap μ μ := .but (X := (· = env.locals)) kp fun b hb _ C d vs n sl => hb ▸ Ns.no_seq F₀.ns
  have oL : ∃ o, s'.heap.get? env.locals = some o := F'.ns.elim fun o n => n.elim fun _ n => n.elim fun _ n => ⟨o, n.1⟩
  exact ⟨r.but (X := (· = env.locals)) (fun b hb => hb ▸ ⟨f.frzL, H0_none f.above⟩) K kp,
    { kind := f.kind
      globals := f.globals
      builtins := f.builtins
      above := f.above
      frzL := f.frzL
      ns := f.ns.elim fun m' n => ⟨m', (ns_eq F₀.ns n.1 : m = m') ▸ F'.ns, fun x y h1 h2 => (n.2 x y h1 h2).imp fun _ z => ⟨z.1, z.2.at K⟩⟩
      cell := fun x a ha => have g := f.cell x a ha; ⟨g.1, g.2.1, g.2.2.1, g.2.2.2.imp fun _ q => ⟨IsCell.keep q.1 fun o e => kp _ _ g.1 e, fun y hy hl => (q.2 y hy hl).imp fun _ z => ⟨z.1, z.2.at K⟩⟩⟩
      cells := f.cells
      apart := f.apart },
    .but (Y := (· = env.locals)) K kp (fun b hb => hb ▸ oL) (fun b hb _ => .inl hb) (fun b hb e => f.frzL.2 (e ▸ hb)) hg ho⟩

theorem run_ii {t : Value → Value → Sem Value} {a b : Int} (h : ∀ A s μ ta tb Qr Er, AOk A d → HR c s.heap μ σ → FR c env lk s.heap μ → ValPost c env lk μ s Q Qr → wpAny c.M A (t (.int a ta) (.int b tb)) Qr Er s) : Run2 c d env lk σ t (.int a) (.int b) Q :=
  fun A s μ va vb Qr Er ok r f ha hb q => ha.int'.elim fun ta ea => hb.int'.elim fun tb eb => ea ▸ eb ▸ h A s μ ta tb Qr Er ok r f q
/-- ints -/
theorem run_add {a b : Int} (h : Q (.int (a + b)) σ) : Run2 c d env lk σ (binaryOp .Add) (.int a) (.int b) Q :=
  run_ii fun A s μ ta tb Qr Er ok r f q => P.add_int (q.same h r f (.int _ _))
theorem run_iadd {a b : Int} (h : Q (.int (a + b)) σ) : Run2 c d env lk σ (inplaceOp .Add) (.int a) (.int b) Q :=
  run_ii fun A s μ ta tb Qr Er ok r f q => wpAny_iadd_int (q.same h r f (.int _ _))
theorem run_sub {a b : Int} (h : Q (.int (a - b)) σ) : Run2 c d env lk σ (binaryOp .Sub) (.int a) (.int b) Q :=
  run_ii fun A s μ ta tb Qr Er ok r f q => PyProof.Rows.sub_int (q.same h r f (.int _ _))
theorem run_mul {a b : Int} (hm : IntMulOk a b) (h : Q (.int (a * b)) σ) : Run2 c d env lk σ (binaryOp .Mult) (.int a) (.int b) Q :=
  run_ii fun A s μ ta tb Qr Er ok r f q => AutoIntOps.mul_0 (q.same h r f (.int _ _)) hm
theorem run_mod {a b : Int} (hb0 : b ≠ 0) (h : Q (.int (a.fmod b)) σ) : Run2 c d env lk σ (binaryOp .Mod) (.int a) (.int b) Q :=
  run_ii fun A s μ ta tb Qr Er ok r f q => mod_int' hb0 (q.same h r f (.int _ _))
theorem run_lshift {a n : Int} (h0 : 0 ≤ n) (h1 : n ≤ 1000000) (ha' : a.natAbs < 2 ^ 64) (h : Q (.int (a * 2 ^ n.toNat)) σ) : Run2 c d env lk σ (binaryOp .LShift) (.int a) (.int n) Q :=
  run_ii fun A s μ ta tb Qr Er ok r f q => lshift_int_small h0 h1 ha' (q.same h r f (.int _ _))
theorem run_neg {a : Int} (h : Q (.int (-a)) σ) : Run1 c d env lk σ (unaryOp .USub) (.int a) Q := by
  intro A s μ va Qr Er ok r f ha q
  exact ha.int'.elim fun _ e => e ▸ neg_int (q.same h r f (.int _ _))
theorem run_lt {a b : Int} (h : Q (.bool (decide (a < b))) σ) : Run2 c d env lk σ (compareOp .Lt) (.int a) (.int b) Q :=
  run_ii fun A s μ ta tb Qr Er ok r f q => PyProof.Rows.lt_int (q.now h r f (.bool _))
theorem run_le {a b : Int} (h : Q (.bool (decide (a ≤ b))) σ) : Run2 c d env lk σ (compareOp .LtE) (.int a) (.int b) Q :=
  run_ii fun A s μ ta tb Qr Er ok r f q => PyProof.Rows.le_int (q.now h r f (.bool _))
theorem run_gt {a b : Int} (h : Q (.bool (decide (b < a))) σ) : Run2 c d env lk σ (compareOp .Gt) (.int a) (.int b) Q :=
  run_ii fun A s μ ta tb Qr Er ok r f q => PyProof.Rows.gt_int (q.now h r f (.bool _))
theorem run_ge {a b : Int} (h : Q (.bool (decide (b ≤ a))) σ) : Run2 c d env lk σ (compareOp .GtE) (.int a) (.int b) Q :=
  run_ii fun A s μ ta tb Qr Er ok r f q => PyProof.Rows.ge_int (q.now h r f (.bool _))
theorem run_eq {a b : Int} (h : Q (.bool (decide (a = b))) σ) : Run2 c d env lk σ (compareOp .Eq) (.int a) (.int b) Q :=
  run_ii fun A s μ ta tb Qr Er ok r f q => PyProof.Rows.eq_int (q.now h r f (.bool _))
theorem run_ne {a b : Int} (h : Q (.bool (!decide (a = b))) σ) : Run2 c d env lk σ (compareOp .NotEq) (.int a) (.int b) Q :=
  run_ii fun A s μ ta tb Qr Er ok r f q => PyProof.Rows.ne_int (q.now h r f (.bool _))
theorem run_eqs {a b : Str} (h : Q (.bool (a == b)) σ) : Run2 c d env lk σ (compareOp .Eq) (.str a) (.str b) Q :=
  fun A s μ va vb Qr Er ok r f ha hb q => ha.str'.elim fun ta ea => hb.str'.elim fun tb eb => ea ▸ eb ▸ PyProof.Rows.eq_str (q.now h r f (.bool _))
noncomputable def isNone : V → Option Bool
  | .none => some true
  | .raw _ => none
  | _ => some false
theorem VR.isNone {h : Heap} {μ : AMap} {x : V} {v : Value} {t : Bool} (r : VR h μ x v) (e : Mine.isNone x = some t) : (v == Value.none) = t :=
  VR.rec (motive_1 := fun x v _ => ∀ t, Mine.isNone x = some t → (v == Value.none) = t) (motive_2 := fun _ _ _ => True) (fun _ e => Option.some.inj e) (fun _ _ e => Option.some.inj e) (fun _ _ _ e => Option.some.inj e) (fun _ _ _ e => Option.some.inj e) (fun _ _ e => nomatch e)
    (fun _ _ e => Option.some.inj e) (fun _ _ _ _ _ e => Option.some.inj e) (fun _ _ _ _ _ e => Option.some.inj e) trivial (fun _ _ _ _ => trivial) r t e
theorem run_isNone {a : V} {t : Bool} (ht : isNone a = some t) (h : Q (.bool t) σ) : Run2 c d env lk σ (compareOp .Is) a .none Q := fun A s μ va vb Qr Er ok r f ha hb q => by
  rw [hb.none']
  exact is_none (ha.isNone ht ▸ q.now h r f (.bool _))
theorem run_isNotNone {a : V} {t : Bool} (ht : isNone a = some t) (h : Q (.bool (!t)) σ) : Run2 c d env lk σ (compareOp .IsNot) a .none Q := fun A s μ va vb Qr Er ok r f ha hb q => by
  rw [hb.none']
  exact isNot_none (ha.isNone ht ▸ q.now h r f (.bool _))

-- plain data, as the library's data
mutual
noncomputable def V.py : V → PyData
  | .none => .none
  | .int i => .int i
  | .str x => .str x
  | .tup xs => .tuple (pys xs)
  | .lst xs => .list (pys xs)
  | _ => .none
noncomputable def pys : List V → List PyData
  | [] => []
  | x :: xs => x.py :: pys xs
end
mutual
noncomputable def V.plain : Nat → V → Bool
  | _, .none => true
  | _, .int _ => true
  | _, .str x => PyData.strOk x
  | n + 1, .tup xs => plains n xs
  | n + 1, .lst xs => plains n xs
  | _, _ => false
noncomputable def plains : Nat → List V → Bool
  | _, [] => true
  | n, x :: xs => x.plain n && plains n xs
end

theorem pl_no {n : Nat} {x : V} {p : Prop} (hx : V.plain 0 x = false) (hs : ∀ n, V.plain (n + 1) x = false) (h : x.plain n = true) : p := by
  cases n with
  | zero => exact absurd (hx.symm.trans h) Bool.false_ne_true
  | succ n => exact absurd ((hs n).symm.trans h) Bool.false_ne_true
theorem pl_tup {n : Nat} {xs : List V} (h : (V.tup xs).plain n = true) : ∃ m, n = m + 1 ∧ plains m xs = true := by
  cases n with
  | zero => exact absurd h Bool.false_ne_true
  | succ n => exact ⟨n, rfl, h⟩
theorem pl_lst {n : Nat} {xs : List V} (h : (V.lst xs).plain n = true) : ∃ m, n = m + 1 ∧ plains m xs = true := by
  cases n with
  | zero => exact absurd h Bool.false_ne_true
  | succ n => exact ⟨n, rfl, h⟩
theorem pl_str {n : Nat} {x : Str} (h : (V.str x).plain n = true) : PyData.strOk x = true := by cases n <;> exact h
theorem pl_and {n : Nat} {x : V} {xs : List V} (h : plains n (x :: xs) = true) : x.plain n = true ∧ plains n xs = true := Bool.and_eq_true_iff.mp (by cases n <;> exact h)
theorem VR.reads {h : Heap} {μ : AMap} {n : Nat} {x : V} {v : Value} (hp : x.plain n = true) (r : VR h μ x v) : ∃ as, Reads h v x.py as :=
  VR.rec (motive_1 := fun x v _ => ∀ n, x.plain n = true → ∃ as, Reads h v x.py as) (motive_2 := fun xs vs _ => ∀ n, plains n xs = true → ∃ as, ReadsAll h vs (pys xs) as)
    (fun _ _ => ⟨_, Reads.none⟩) (fun _ _ h => pl_no rfl (fun _ => rfl) h) (fun i t _ _ => ⟨_, Reads.int i t⟩) (fun x t _ _ => ⟨_, Reads.str x t⟩) (fun _ _ h => pl_no rfl (fun _ => rfl) h) (fun _ _ h => pl_no rfl (fun _ => rfl) h)
    (fun ho _ _ ih _ h => (pl_tup h).elim fun m z => (ih m z.2).elim fun as q => ⟨as, reads_tuple_at ho rfl rfl q⟩) (fun ho _ _ ih _ h => (pl_lst h).elim fun m z => (ih m z.2).elim fun as q => ⟨_, reads_list_at ho rfl rfl q⟩)
    (fun _ _ => ⟨_, ReadsAll.nil⟩) (fun _ _ i1 i2 n h => (i1 n (pl_and h).1).elim fun _ q => (i2 n (pl_and h).2).elim fun _ p => ⟨_, ReadsAll.cons q p⟩) r n hp
theorem VRs.reads {h : Heap} {μ : AMap} {n : Nat} {xs : List V} {vs : List Value} (hp : plains n xs = true) (r : VRs h μ xs vs) : ∃ as, ReadsAll h vs (pys xs) as :=
  VRs.ind (P := fun xs vs => plains n xs = true → ∃ as, ReadsAll h vs (pys xs) as) (fun _ => ⟨_, ReadsAll.nil⟩) (fun a _ ih h => (a.reads (pl_and h).1).elim fun _ q => (ih (pl_and h).2).elim fun _ p => ⟨_, ReadsAll.cons q p⟩) r hp
theorem V.lay (n : Nat) (x : V) (h : x.plain n = true) : x.py.canLay0 = true ∧ x.py.depth ≤ n :=
  V.rec (motive_1 := fun x => ∀ n, x.plain n = true → x.py.canLay0 = true ∧ x.py.depth ≤ n) (motive_2 := fun xs => ∀ n, plains n xs = true → PyData.canLayAll0 (pys xs) = true ∧ PyData.depthAll (pys xs) ≤ n)
    (fun n _ => ⟨rfl, Nat.zero_le _⟩) (fun _ n h => pl_no rfl (fun _ => rfl) h) (fun _ n _ => ⟨rfl, Nat.zero_le _⟩) (fun _ n h => ⟨pl_str h, Nat.zero_le _⟩)
    (fun _ ih n h => (pl_tup h).elim fun m z => ⟨(ih m z.2).1, z.1 ▸ Nat.succ_le_succ (ih m z.2).2⟩) (fun _ ih n h => (pl_lst h).elim fun m z => ⟨(ih m z.2).1, z.1 ▸ Nat.succ_le_succ (ih m z.2).2⟩)
    (fun _ n h => pl_no rfl (fun _ => rfl) h) (fun _ n h => pl_no rfl (fun _ => rfl) h) (fun n _ => ⟨rfl, Nat.zero_le _⟩) (fun _ _ i1 i2 n h => ⟨Bool.and_eq_true_iff.mpr ⟨(i1 n (pl_and h).1).1, (i2 n (pl_and h).2).1⟩, Nat.max_le.mpr ⟨(i1 n (pl_and h).1).2, (i2 n (pl_and h).2).2⟩⟩) x n h
theorem lays (n : Nat) (xs : List V) (h : plains n xs = true) : PyData.canLayAll0 (pys xs) = true ∧ PyData.depthAll (pys xs) ≤ n :=
  List.rec (motive := fun xs => plains n xs = true → PyData.canLayAll0 (pys xs) = true ∧ PyData.depthAll (pys xs) ≤ n) (fun _ => ⟨rfl, Nat.zero_le _⟩)
    (fun x _ ih h => ⟨Bool.and_eq_true_iff.mpr ⟨(V.lay n x (pl_and h).1).1, (ih (pl_and h).2).1⟩, Nat.max_le.mpr ⟨(V.lay n x (pl_and h).1).2, (ih (pl_and h).2).2⟩⟩) xs h
theorem iff_no {p q : Prop} (h : p → False) (h' : q → False) : p ↔ q := ⟨fun x => (h x).elim, fun x => (h' x).elim⟩
noncomputable def V.hd : V → Nat
  | .none => 0
  | .int _ => 1
  | .str _ => 2
  | .tup _ => 3
  | .lst _ => 4
  | _ => 5
theorem no_hd {x y : V} (h : Nat.beq x.hd y.hd = false) (e : x = y) : False := Nat.ne_of_beq_eq_false h (congrArg V.hd e)
theorem V.eqv_iff (n k : Nat) (x y : V) (hx : x.plain n = true) (hy : y.plain k = true) : PyData.eqv x.py y.py = true ↔ x = y := by
  refine V.rec (motive_1 := fun x => ∀ n k y, x.plain n = true → y.plain k = true → (PyData.eqv x.py y.py = true ↔ x = y)) (motive_2 := fun xs => ∀ n k ys, plains n xs = true → plains k ys = true → (PyData.eqvAll (pys xs) (pys ys) = true ↔ xs = ys))
    (fun n k y _ hy => ?_) (fun _ n k y h => pl_no rfl (fun _ => rfl) h) (fun i n k y _ hy => ?_) (fun i n k y _ hy => ?_) (fun xs ih n k y hx hy => ?_) (fun xs ih n k y hx hy => ?_) (fun _ n k y h => pl_no rfl (fun _ => rfl) h) (fun _ n k y h => pl_no rfl (fun _ => rfl) h)
    (fun n k ys _ _ => ?_) (fun x xs i1 i2 n k ys hx hy => ?_) x n k y hx hy
  · cases y <;> first | exact ⟨fun _ => rfl, fun _ => rfl⟩ | exact iff_no Bool.false_ne_true (no_hd rfl) | exact pl_no rfl (fun _ => rfl) hy
  · cases y <;> first | exact ⟨fun h => congrArg V.int (beq_iff_eq.mp h), fun h => beq_iff_eq.mpr (V.int.inj h)⟩ | exact iff_no Bool.false_ne_true (no_hd rfl) | exact pl_no rfl (fun _ => rfl) hy
  · cases y <;> first | exact ⟨fun h => congrArg V.str (beq_iff_eq.mp h), fun h => beq_iff_eq.mpr (V.str.inj h)⟩ | exact iff_no Bool.false_ne_true (no_hd rfl) | exact pl_no rfl (fun _ => rfl) hy
  · cases y <;> first | exact (pl_tup hx).elim fun a z => (pl_tup hy).elim fun b w => (ih a b _ z.2 w.2).trans ⟨congrArg V.tup, V.tup.inj⟩ | exact iff_no Bool.false_ne_true (no_hd rfl) | exact pl_no rfl (fun _ => rfl) hy
  · cases y <;> first | exact (pl_lst hx).elim fun a z => (pl_lst hy).elim fun b w => (ih a b _ z.2 w.2).trans ⟨congrArg V.lst, V.lst.inj⟩ | exact iff_no Bool.false_ne_true (no_hd rfl) | exact pl_no rfl (fun _ => rfl) hy
  · cases ys <;> first | exact ⟨fun _ => rfl, fun _ => rfl⟩ | exact iff_no Bool.false_ne_true nofun
  · cases ys with
    | nil => exact iff_no Bool.false_ne_true nofun
    | cons y ys =>
      have e1 := i1 n k y (pl_and hx).1 (pl_and hy).1
      have e2 := i2 n k ys (pl_and hx).2 (pl_and hy).2
      exact ⟨fun h => have z := Bool.and_eq_true_iff.mp h; by rw [e1.mp z.1, e2.mp z.2], fun h => Bool.and_eq_true_iff.mpr ⟨e1.mpr (List.cons.inj h).1, e2.mpr (List.cons.inj h).2⟩⟩

theorem V.shaped {x : V} (h : x.plain 8 = true) : SeqAt.shaped x.py = true := by
  obtain ⟨h1, h2⟩ := V.lay 8 x h
  unfold SeqAt.shaped
  rw [h1, Bool.true_and]
  exact decide_eq_true (Nat.le_trans h2 (by decide))

theorem AOk.units64 {A : Around} {d : Nat} (h : AOk A d) : A.units + 64 < cLine := Nat.lt_of_lt_of_le (Nat.add_lt_add_right (Nat.lt_of_le_of_lt (Nat.le_add_right _ _) h.2.2) 64) (by decide : 9800 + 64 ≤ 9900)
theorem iff_dec {p : Prop} [Decidable p] {b : Bool} (h : b = true ↔ p) : b = decide p := by
  by_cases hq : p
  · rw [decide_eq_true hq]; exact h.mpr hq
  · rw [decide_eq_false hq]; exact Bool.eq_false_iff.mpr fun x => hq (h.mp x)

open Classical in
theorem run_eqv {a b : V} (ha' : a.plain 8 = true) (hb' : b.plain 8 = true) (h : Q (.bool (decide (a = b))) σ) : Run2 c d env lk σ (compareOp .Eq) a b Q := by
  intro A s μ va vb Qr Er ok r f ha hb q
  obtain ⟨as, ra⟩ := ha.reads ha'
  obtain ⟨bs, rb⟩ := hb.reads hb'
  refine eq_dataH ra rb (V.shaped ha') (V.shaped hb') ok.units64 ?_
  rw [iff_dec (V.eqv_iff 8 8 a b ha' hb')]; exact q.now h r f (.bool _)
open Classical in
theorem run_nev {a b : V} (ha' : a.plain 8 = true) (hb' : b.plain 8 = true) (h : Q (.bool (!decide (a = b))) σ) : Run2 c d env lk σ (compareOp .NotEq) a b Q := by
  intro A s μ va vb Qr Er ok r f ha hb q
  obtain ⟨as, ra⟩ := ha.reads ha'
  obtain ⟨bs, rb⟩ := hb.reads hb'
  refine ne_dataH ra rb (V.shaped ha') (V.shaped hb') ok.units64 ?_
  rw [iff_dec (V.eqv_iff 8 8 a b ha' hb')]; exact q.now h r f (.bool _)

/-- a list cell that is plain is read too -/
theorem cell_reads {h : Heap} {μ : AMap} {k : Nat} {xs : List V} {v : Value} {n : Nat} (r : HR c h μ σ) (hs : σ k = some (.list xs)) (hp : plains n xs = true) (hv : VR h μ (.ref k) v) : ∃ as, Reads h v (V.lst xs).py as := by
  obtain ⟨p, rfl, hk⟩ := hv.ref'
  obtain ⟨_, vs, m, ho, hvs⟩ := r.cell k _ p hs hk
  exact (VRs.reads hp hvs).elim fun as q => ⟨_, reads_list_at ho rfl rfl q⟩

/-- what a value looks like as data: a list's cell as its list -/
noncomputable def Seen (σ : Sto) (a : V) (a' : V) : Prop := a'.plain 8 = true ∧ (a = a' ∨ ∃ k xs, a = .ref k ∧ σ k = some (.list xs) ∧ a' = .lst xs)
theorem seen_reads {h : Heap} {μ : AMap} {a a' : V} {v : Value} (r : HR c h μ σ) (hs : Seen σ a a') (hv : VR h μ a v) : ∃ as, Reads h v a'.py as := by
  obtain ⟨hp, rfl | ⟨k, xs, rfl, hk, rfl⟩⟩ := hs
  · exact hv.reads hp
  · exact cell_reads (n := 7) r hk hp hv

open Classical in
theorem run_eqc {a b a' b' : V} (ha' : Seen σ a a') (hb' : Seen σ b b') (h : Q (.bool (decide (a' = b'))) σ) : Run2 c d env lk σ (compareOp .Eq) a b Q := by
  intro A s μ va vb Qr Er ok r f ha hb q
  obtain ⟨as, ra⟩ := seen_reads r ha' ha
  obtain ⟨bs, rb⟩ := seen_reads r hb' hb
  refine eq_dataH ra rb (V.shaped ha'.1) (V.shaped hb'.1) ok.units64 ?_
  rw [iff_dec (V.eqv_iff 8 8 a' b' ha'.1 hb'.1)]; exact q.now h r f (.bool _)
open Classical in
theorem run_nec {a b a' b' : V} (ha' : Seen σ a a') (hb' : Seen σ b b') (h : Q (.bool (!decide (a' = b'))) σ) : Run2 c d env lk σ (compareOp .NotEq) a b Q := by
  intro A s μ va vb Qr Er ok r f ha hb q
  obtain ⟨as, ra⟩ := seen_reads r ha' ha
  obtain ⟨bs, rb⟩ := seen_reads r hb' hb
  refine ne_dataH ra rb (V.shaped ha'.1) (V.shaped hb'.1) ok.units64 ?_
  rw [iff_dec (V.eqv_iff 8 8 a' b' ha'.1 hb'.1)]; exact q.now h r f (.bool _)

theorem any_eqv {x : V} {k n : Nat} {xs : List V} (h : plains n xs = true) (hx : x.plain k = true) : ((pys xs).any (fun y => PyData.eqv y x.py) = true ↔ x ∈ xs) :=
  List.rec (motive := fun xs => plains n xs = true → ((pys xs).any (fun y => PyData.eqv y x.py) = true ↔ x ∈ xs)) (fun _ => iff_no Bool.false_ne_true nofun)
    (fun y ys ih h => Bool.or_eq_true_iff.trans ((or_congr ((V.eqv_iff n k y x (pl_and h).1 hx).trans eq_comm) (ih (pl_and h).2)).trans List.mem_cons.symm)) xs h

open Classical in
theorem run_in {x : V} {xs : List V} (hx : x.plain 8 = true) (hxs : plains 8 xs = true) (h : Q (.bool (decide (x ∈ xs))) σ) : Run2 c d env lk σ (compareOp .In) x (.tup xs) Q := by
  intro A s μ va vb Qr Er ok r f ha hb q
  obtain ⟨as, ra⟩ := ha.reads hx
  obtain ⟨bs, rb⟩ := VR.reads (n := 9) (x := .tup xs) hxs hb
  refine SeqAt.in_tuple_reads rb ra (lays 8 xs hxs).1 (V.lay 8 x hx).1 ?_ (iff_dec (any_eqv hxs hx) ▸ q.now h r f (.bool _))
  have l4 := Nat.le_trans (Nat.min_le_right (PyData.depthAll (pys xs)) x.py.depth) (V.lay 8 x hx).2
  have := ok.units64
  omega
end

-- C12

theorem seqIndex_in {k : Int} {n : Nat} (h0 : 0 ≤ k) (hn : k.toNat < n) : seqIndex? k n = some k.toNat := by
  unfold seqIndex?
  simp only [if_neg (Int.not_lt.mpr h0)]
  exact if_pos (Bool.and_eq_true_iff.mpr ⟨decide_eq_true h0, decide_eq_true ((Int.toNat_lt h0).mp hn)⟩)

section
variable {c : Ctx} {d : Nat} {env : Env} {lk : Loc} {σ : Sto} {pos : Pos} {QX : Fl → Loc → Sto → Prop} {Q : V → Sto → Prop}

/-- o[i] -/
theorem ok_item {o i : Expr} (h : Ok c d env o lk σ (fun y σ' => Ok c d env i lk σ' (fun z σ'' => Run2 c d env lk σ'' (subscriptTail o i) y z Q))) : Ok c d env (.Subscript o i pos) lk σ Q := by
  intro A s μ Qr Er ok r f q
  refine Subscript_ (h A s μ _ Er ok r f fun va s₁ a σ₁ μ₁ h₁ r₁ f₁ v₁ st₁ => ?_)
  refine h₁ A s₁ μ₁ _ Er ok r₁ f₁ fun vb s₂ b σ₂ μ₂ h₂ r₂ f₂ v₂ st₂ => ?_
  exact h₂ A s₂ μ₂ va vb Qr Er ok r₂ f₂ (v₁.step st₂) v₂ (q.after (st₁.trans st₂))

noncomputable def PlainSub (i : Expr) : Prop := ∀ a b, ∃ ops, subscripted i false a b = operate ops (getItem a b)

theorem VRs.getA {h : Heap} {μ : AMap} {xs : List V} {vs : List Value} {i : Nat} {x : V} (r : VRs h μ xs vs) (e : xs[i]? = some x) : ∃ v, vs.toArray[i]? = some v ∧ VR h μ x v :=
  (r.get e).imp fun v z => ⟨List.getElem?_toArray.trans z.1, z.2⟩
theorem item_tup {o i : Expr} {xs : List V} {k : Int} {y : V} (hs : PlainSub i) (h0 : 0 ≤ k) (hk : k < 2 ^ 62) (hy : xs[k.toNat]? = some y) (h : Q y σ) : Run2 c d env lk σ (subscriptTail o i) (.tup xs) (.int k) Q := by
  intro A s μ va vb Qr Er ok r f ha hb q
  obtain ⟨t, rfl⟩ := hb.int'
  obtain ⟨a, vs, n, rfl, ho, hf, hvs⟩ := ha.tup'
  obtain ⟨v, h1, h2⟩ := hvs.getA hy
  obtain ⟨ops, e⟩ := hs (.ref a) (.int k t)
  have hlt : k.toNat < vs.toArray.size := (Array.getElem?_eq_some_iff.mp h1).1
  exact tail_any (T := "tuple") ⟨_, ho, rfl⟩ slot_tuple_getitem.lookup (PyProof.Rows.getItem_tuple (j := k.toNat) ⟨_, ho, rfl, _, rfl⟩ (Int.le_trans (by decide) h0) (Int.lt_trans hk (by decide)) (seqIndex_in h0 hlt) h1 (q.now h r f h2)) e

theorem item_lst {o i : Expr} {xs : List V} {k : Int} {y : V} (hs : PlainSub i) (h0 : 0 ≤ k) (hk : k < 2 ^ 62) (hy : xs[k.toNat]? = some y) (h : Q y σ) : Run2 c d env lk σ (subscriptTail o i) (.lst xs) (.int k) Q := by
  intro A s μ va vb Qr Er ok r f ha hb q
  obtain ⟨t, rfl⟩ := hb.int'
  obtain ⟨a, vs, n, rfl, ho, hf, hvs⟩ := ha.lst'
  obtain ⟨v, h1, h2⟩ := hvs.getA hy
  obtain ⟨ops, e⟩ := hs (.ref a) (.int k t)
  exact tail_any (T := "list") ⟨_, ho, rfl⟩ list_getitem_lookup (wpAny_getItem_list ⟨_, ho, rfl, _, rfl⟩ h0 (Int.lt_trans hk (by decide)) h1 (q.now h r f h2)) e

theorem item_cell {o i : Expr} {j : Nat} {xs : List V} {k : Int} {y : V} (hs : PlainSub i) (hj : σ j = some (.list xs)) (h0 : 0 ≤ k) (hk : k < 2 ^ 62) (hy : xs[k.toNat]? = some y) (h : Q y σ) : Run2 c d env lk σ (subscriptTail o i) (.ref j) (.int k) Q := by
  intro A s μ va vb Qr Er ok r f ha hb q
  obtain ⟨t, rfl⟩ := hb.int'
  obtain ⟨p, rfl, hp⟩ := ha.ref'
  obtain ⟨_, vs, n, ho, hvs⟩ := r.cell j _ p hj hp
  obtain ⟨v, h1, h2⟩ := hvs.getA hy
  obtain ⟨ops, e⟩ := hs (.ref p.1) (.int k t)
  exact tail_any (T := "list") ⟨_, ho, rfl⟩ list_getitem_lookup (wpAny_getItem_list ⟨_, ho, rfl, _, rfl⟩ h0 (Int.lt_trans hk (by decide)) (by simpa using h1) (q.now h r f h2)) e

theorem item_dictS {o i : Expr} {j : Nat} {g : Str → Option V} {k : Str} {y : V} (hs : PlainSub i) (hj : σ j = some (.dictS g)) (hy : g k = some y) (h : Q y σ) : Run2 c d env lk σ (subscriptTail o i) (.ref j) (.str k) Q := by
  intro A s μ va vb Qr Er ok r f ha hb q
  obtain ⟨t, rfl⟩ := hb.str'
  obtain ⟨p, rfl, hp⟩ := ha.ref'
  obtain ⟨_, kvs, hd, hvs⟩ := r.cell j _ p hj hp
  obtain ⟨v, h1, h2⟩ := (hvs k).some_at hy
  obtain ⟨ops, e⟩ := hs (.ref p.1) (.str k t)
  exact tail_any (T := "dict") hd.typeIs slot_dict_getitem.lookup (wpAny_getItem_of (strKind_is _ _ k t) hd.mapOf h1 (q.same h r f h2)) e

theorem item_dictI {o i : Expr} {j : Nat} {g : Int → Option V} {k : Int} {y : V} (hs : PlainSub i) (hj : σ j = some (.dictI g)) (hy : g k = some y) (h : Q y σ) : Run2 c d env lk σ (subscriptTail o i) (.ref j) (.int k) Q := by
  intro A s μ va vb Qr Er ok r f ha hb q
  obtain ⟨t, rfl⟩ := hb.int'
  obtain ⟨p, rfl, hp⟩ := ha.ref'
  obtain ⟨_, kvs, hd, hvs⟩ := r.cell j _ p hj hp
  obtain ⟨v, h1, h2⟩ := (hvs k).some_at hy
  obtain ⟨ops, e⟩ := hs (.ref p.1) (.int k t)
  exact tail_any (T := "dict") hd.typeIs slot_dict_getitem.lookup (wpAny_getItem_of (intKind_is _ _ k t) hd.mapOf h1 (q.same h r f h2)) e

/-- k in d, k not in d -/
theorem dict_low {h : Heap} {μ : AMap} (r : HR c h μ σ) (hlow : 3 < c.H0.objs.size) {k : Nat} {p : Addr × Addr} (hp : μ.1 k = some p) : (p.1 == sysModules) = false := by
  exact beq_eq_false_iff_ne.mpr fun q => absurd (Nat.lt_of_lt_of_le hlow (Nat.le_trans (r.above k p hp).1 (Nat.le_of_eq q))) (by decide : ¬ 3 < 1)
theorem run_inI {j : Nat} {g : Int → Option V} {k : Int} (hlow : 3 < c.H0.objs.size) (hj : σ j = some (.dictI g)) (h : Q (.bool (g k).isSome) σ) : Run2 c d env lk σ (compareOp .In) (.int k) (.ref j) Q := by
  intro A s μ va vb Qr Er ok r f ha hb q
  obtain ⟨t, rfl⟩ := ha.int'
  obtain ⟨p, rfl, hp⟩ := hb.ref'
  obtain ⟨_, kvs, hd, hvs⟩ := r.cell j _ p hj hp
  have e : (valueAt kvs k).isSome = (g k).isSome := (hvs k).isSome
  exact wpAny_in_of (intKind_is _ _ k t) (dict_low r hlow hp) hd.mapOf (by rw [e]; exact q.same h r f (.bool _))
theorem run_notInI {j : Nat} {g : Int → Option V} {k : Int} (hlow : 3 < c.H0.objs.size) (hj : σ j = some (.dictI g)) (h : Q (.bool (!(g k).isSome)) σ) : Run2 c d env lk σ (compareOp .NotIn) (.int k) (.ref j) Q := by
  intro A s μ va vb Qr Er ok r f ha hb q
  obtain ⟨t, rfl⟩ := ha.int'
  obtain ⟨p, rfl, hp⟩ := hb.ref'
  obtain ⟨_, kvs, hd, hvs⟩ := r.cell j _ p hj hp
  have e : (valueAt kvs k).isSome = (g k).isSome := (hvs k).isSome
  exact wpAny_notIn_of (intKind_is _ _ k t) (dict_low r hlow hp) hd.mapOf (by rw [e]; exact q.same h r f (.bool _))

/-- a part of a slice -/
noncomputable def OkP (c : Ctx) (d : Nat) (env : Env) (e : Option Expr) (lk : Loc) (σ : Sto) (Q : V → Sto → Prop) : Prop := match e with
  | none => Q .none σ
  | some e => Ok c d env e lk σ Q
theorem okp_eval {e : Option Expr} (h : OkP c d env e lk σ Q) : ∀ A s μ Qr Er, AOk A d → HR c s.heap μ σ → FR c env lk s.heap μ → ValPost c env lk μ s Q Qr → wpAny c.M A (evalPart e env) Qr Er s := by
  intro A s μ Qr Er ok r f q
  cases e with
  | none => exact wpAny_pure (q.now h r f .none)
  | some e => exact h A s μ Qr Er ok r f q

/-- what a slice picks -/
inductive Pick : V → V → V → List V → List V → Prop
  | from (a : Int) (xs : List V) : 0 ≤ a → Pick (.int a) .none .none xs (xs.drop a.toNat)
  | upto (b : Int) (xs : List V) : 0 ≤ b → Pick .none (.int b) .none xs (xs.take b.toNat)
  | rev (xs : List V) : Pick .none .none (.int (-1)) xs xs.reverse

theorem VRs.rev {h : Heap} {μ : AMap} {xs : List V} {vs : List Value} (r : VRs h μ xs vs) : VRs h μ xs.reverse vs.reverse :=
  VRs.ind (P := fun xs vs => VRs h μ xs.reverse vs.reverse) .nil (fun a _ ih => by rw [List.reverse_cons, List.reverse_cons]; exact ih.append (.cons a .nil)) r

theorem Pick.at {h : Heap} {μ : AMap} {l u t : V} {xs ys : List V} {vl vu vt : Value} {vs : Array Value} (p : Pick l u t xs ys) (hl : VR h μ l vl) (hu : VR h μ u vu) (ht : VR h μ t vt) (hx : VRs h μ xs vs.toList) :
    ∃ lo hi st, IsPart vl lo ∧ IsPart vu hi ∧ IsPart vt st ∧ st ≠ some 0 ∧ VRs h μ ys (slicePick vs lo hi st).toList :=
  Pick.rec (motive := fun l u t xs ys _ => VR h μ l vl → VR h μ u vu → VR h μ t vt → VRs h μ xs vs.toList → ∃ lo hi st, IsPart vl lo ∧ IsPart vu hi ∧ IsPart vt st ∧ st ≠ some 0 ∧ VRs h μ ys (slicePick vs lo hi st).toList)
    (fun a xs h0 hl hu ht hx => hl.int'.elim fun _ el => by
      rw [el, hu.none', ht.none']
      obtain ⟨n, rfl⟩ := Int.eq_ofNat_of_zero_le h0
      exact ⟨_, _, _, .int _ _, .none, .none, nofun, by rw [slicePick_from', List.toList_toArray]; exact hx.drop n⟩)
    (fun b xs h0 hl hu ht hx => hu.int'.elim fun _ eu => by
      rw [hl.none', eu, ht.none']
      obtain ⟨n, rfl⟩ := Int.eq_ofNat_of_zero_le h0
      exact ⟨_, _, _, .none, .int _ _, .none, nofun, by rw [slicePick_upto', List.toList_toArray]; exact hx.take n⟩)
    (fun xs hl hu ht hx => ht.int'.elim fun _ et => by
      rw [hl.none', hu.none', et]
      exact ⟨_, _, _, .none, .none, .int _ _, nofun, by rw [krv_pick, List.toList_toArray]; exact hx.rev⟩) p hl hu ht hx

/-- a list: frozen or a cell -/
noncomputable def AsList (σ : Sto) (y : V) (xs : List V) : Prop := y = .lst xs ∨ ∃ k, y = .ref k ∧ σ k = some (.list xs)
theorem AsList.at {h : Heap} {μ : AMap} {y : V} {xs : List V} {v : Value} (r : HR c h μ σ) (hv : VR h μ y v) (a : AsList σ y xs) : ∃ b vs n, v = .ref b ∧ h.get? b = some (lstO vs n) ∧ VRs h μ xs vs.toList := by
  rcases a with rfl | ⟨k, rfl, hk⟩
  · exact hv.lst'.imp fun a z => z.elim fun vs z => ⟨vs.toArray, z.imp fun n z => ⟨z.1, z.2.1, z.2.2.2⟩⟩
  · exact hv.ref'.elim fun p z => ⟨p.1, (r.cell k _ p hk z.2).2.imp fun vs w => w.imp fun n w => ⟨z.1, w.1, w.2⟩⟩

theorem slice_core {o : Expr} {lo up st : Option Expr} {p : Pos} {R : List V → Sto → Prop} {A : Around} {s : Shared} {μ : AMap} {Qr : Value → Shared → Prop} {Er : Value → Shared → Prop} (ok : AOk A d) (r : HR c s.heap μ σ) (f : FR c env lk s.heap μ)
    (h : Ok c d env o lk σ (fun y σ₁ => OkP c d env lo lk σ₁ (fun l σ₂ => OkP c d env up lk σ₂ (fun u σ₃ => OkP c d env st lk σ₃ (fun t σ₄ =>
      ∃ xs ys, AsList σ₄ y xs ∧ xs.length ≤ sizeLine ∧ Pick l u t xs ys ∧ R ys σ₄)))))
    (hs : PlainSub (.Slice lo up st p))
    (q : ∀ s' σ' μ' ys vs, R ys σ' → HR c s'.heap μ' σ' → FR c env lk s'.heap μ' → VRs s'.heap μ' ys vs → Step (own env) μ μ' s s' → Qr (.ref s'.heap.objs.size) { s' with heap := s'.heap.push { cls := .type "list", data := .seq vs.toArray } }) :
    wpAny c.M A (eval (.Subscript o (.Slice lo up st p) pos) env) Qr Er s := by
  refine Subscript_ (h A s μ _ Er ok r f fun va s₁ a σ₁ μ₁ h₁ r₁ f₁ v₁ st₁ => wpAny_Slice ?_)
  refine okp_eval h₁ A s₁ μ₁ _ Er ok r₁ f₁ fun vl s₂ l σ₂ μ₂ h₂ r₂ f₂ v₂ st₂ => ?_
  refine okp_eval h₂ A s₂ μ₂ _ Er ok r₂ f₂ fun vu s₃ u σ₃ μ₃ h₃ r₃ f₃ v₃ st₃ => ?_
  refine okp_eval h₃ A s₃ μ₃ _ Er ok r₃ f₃ fun vt s₄ t σ₄ μ₄ h₄ r₄ f₄ v₄ st₄ => ?_
  obtain ⟨xs, ys, hx, hxl, hp, hq⟩ := h₄
  obtain ⟨b, vs, n, rfl, ho, hvs⟩ := hx.at r₄ (v₁.step (st₂.trans (st₃.trans st₄)))
  obtain ⟨l', u', t', p1, p2, p3, p4, hys⟩ := hp.at (v₂.step (st₃.trans st₄)) (v₃.step st₄) v₄ hvs
  let s₅ : Shared := { s₄ with heap := s₄.heap.push { cls := .type "slice", data := .fields #[vl, vu, vt] } }
  obtain ⟨ops, e⟩ := hs (.ref b) (.ref s₄.heap.objs.size)
  have ho5 : s₅.heap.get? b = some (lstO vs n) := Heap.get?_push_of_some _ ho
  refine tail_any (s := s₅) (T := "list") ⟨_, ho5, rfl⟩ list_getitem_lookup (wpAny_getItem_list_slice (l := b) ⟨_, ho5, rfl, _, rfl⟩ (Heap.IsSliceOf.new ..) p1 p2 p3 p4 ?_ ?_) e
  · exact q s₅ σ₄ μ₄ ys (slicePick vs l' u' t').toList hq (r₄.push _) (f₄.push _) (hys.step (X := fun _ => False) (s := s₄) (s' := s₅) (Step.push _)) ((((st₁.trans st₂).trans st₃).trans st₄).trans (Step.push _))
  · exact Nat.le_trans (Nat.le_of_eq (hvs.length.trans Array.length_toList).symm) hxl

theorem ok_slice {o : Expr} {lo up st : Option Expr} {p : Pos}
    (h : Ok c d env o lk σ (fun y σ₁ => OkP c d env lo lk σ₁ (fun l σ₂ => OkP c d env up lk σ₂ (fun u σ₃ => OkP c d env st lk σ₃ (fun t σ₄ =>
      ∃ xs ys, AsList σ₄ y xs ∧ xs.length ≤ sizeLine ∧ Pick l u t xs ys ∧ Q (.lst ys) σ₄)))))
    (hs : PlainSub (.Slice lo up st p)) : Ok c d env (.Subscript o (.Slice lo up st p) pos) lk σ Q := by
  intro A s μ Qr Er ok r f q
  refine slice_core (R := fun ys σ => Q (.lst ys) σ) ok r f h hs fun s' σ' μ' ys vs hq r' f' v' st' => ?_
  refine q _ { s' with heap := s'.heap.push _ } (.lst ys) σ' μ' hq (r'.push _) (f'.push _) ?_ (st'.trans (Step.push _))
  exact .lst (Heap.get?_push_size _ rfl) (frz_size r') (v'.step (X := fun _ => False) (s' := { s' with heap := s'.heap.push _ }) (Step.push _))

/-- a fresh list as a cell -/
theorem alloc_list {s : Shared} {μ : AMap} {ys : List V} {vs : List Value} {k : Nat} (r : HR c s.heap μ σ) (f : FR c env lk s.heap μ) (hk : σ k = none) (hv : VRs s.heap μ ys vs) :
    HR c (s.heap.push { cls := .type "list", data := .seq vs.toArray }) (mupd μ k (s.heap.objs.size, s.heap.objs.size)) (upd σ k (.list ys)) ∧
    FR c env lk (s.heap.push { cls := .type "list", data := .seq vs.toArray }) (mupd μ k (s.heap.objs.size, s.heap.objs.size)) ∧
    Step (own env) μ (mupd μ k (s.heap.objs.size, s.heap.objs.size)) s { s with heap := s.heap.push { cls := .type "list", data := .seq vs.toArray } } := by
  obtain ⟨r', st⟩ := HR.alloc (X := fun _ => False) (s' := { s with heap := s.heap.push { cls := .type "list", data := .seq vs.toArray } }) (p := (s.heap.objs.size, s.heap.objs.size)) (x := .list ys) r hk (fun _ _ e => Heap.get?_push_of_some _ e) rfl rfl r.size r.size (none_size _) (none_size _)
    (fun _ lfs => ⟨rfl, vs.toArray, 0, Heap.get?_push_size _ rfl, by simpa using lfs hv⟩)
  exact ⟨r', f.step0 st, st.mono fun _ x => x.elim⟩
theorem mupd_self {μ : AMap} {k : Nat} {p : Addr × Addr} : (mupd μ k p).1 k = some p := by show (if k = k then some p else μ.1 k) = some p; rw [if_pos rfl]

theorem ok_sliceC {o : Expr} {lo up st : Option Expr} {p : Pos}
    (h : Ok c d env o lk σ (fun y σ₁ => OkP c d env lo lk σ₁ (fun l σ₂ => OkP c d env up lk σ₂ (fun u σ₃ => OkP c d env st lk σ₃ (fun t σ₄ =>
      ∃ xs ys, AsList σ₄ y xs ∧ xs.length ≤ sizeLine ∧ Pick l u t xs ys ∧ ∀ k, σ₄ k = none → Q (.ref k) (upd σ₄ k (.list ys)))))))
    (hs : PlainSub (.Slice lo up st p)) : Ok c d env (.Subscript o (.Slice lo up st p) pos) lk σ Q := by
  intro A s μ Qr Er ok r f q
  refine slice_core (R := fun ys σ => ∀ k, σ k = none → Q (.ref k) (upd σ k (.list ys))) ok r f h hs fun s' σ' μ' ys vs hq r' f' v' st' => ?_
  obtain ⟨k, hk⟩ := r'.free
  obtain ⟨r'', f'', st''⟩ := alloc_list (lk := lk) r' f' hk v'
  exact q _ _ (.ref k) _ _ (hq k hk) r'' f'' (.ref mupd_self) (st'.trans st'')

theorem ok_listC {es : List Expr} (h : OkL c d env es lk σ (fun ys σ' => ys.length ≤ sizeLine ∧ ∀ k, σ' k = none → Q (.ref k) (upd σ' k (.list ys)))) : Ok c d env (.List es pos) lk σ Q := by
  intro A s μ Qr Er ok r f q
  refine List_ (h A s μ _ Er pos ok r f fun vs s₁ ys σ₁ μ₁ hq r₁ f₁ v₁ st₁ => ?_)
  have hl : vs.length ≤ sizeLine := by rw [← v₁.length]; exact hq.1
  refine wpAny_newObj_type (T := "list") (data := .seq vs.toArray) ?_ (by show vs.toArray.size ≤ sizeLine; rw [List.size_toArray]; exact hl)
  obtain ⟨k, hk⟩ := r₁.free
  obtain ⟨r'', f'', st''⟩ := alloc_list (lk := lk) r₁ f₁ hk v₁
  exact q _ _ (.ref k) _ _ (hq.2 k hk) r'' f'' (.ref mupd_self) (st₁.trans st'')

/-- {} -/
theorem ok_dictS (h : ∀ k, σ k = none → Q (.ref k) (upd σ k (.dictS fun _ => none))) : Ok c d env (.Dict [] [] pos) lk σ Q := by
  intro A s μ Qr Er ok r f q
  refine wpAny_Dict_empty ?_
  obtain ⟨k, hk⟩ := r.free
  obtain ⟨r', st⟩ := HR.alloc (X := fun _ => False) (s' := { s with heap := s.heap.push { cls := .type "dict", data := .dict #[] } }) (p := (s.heap.objs.size, s.heap.objs.size)) (x := .dictS fun _ => none) r hk (fun _ _ e => Heap.get?_push_of_some _ e) rfl rfl r.size r.size (none_size _) (none_size _)
    (fun _ lfs => ⟨rfl, [], Heap.DictOf.new _, fun _ => trivial⟩)
  exact q _ _ (.ref k) _ _ (h k hk) r' (f.step0 st) (.ref mupd_self) (st.mono fun _ x => x.elim)
theorem ok_dictI (h : ∀ k, σ k = none → Q (.ref k) (upd σ k (.dictI fun _ => none))) : Ok c d env (.Dict [] [] pos) lk σ Q := by
  intro A s μ Qr Er ok r f q
  refine wpAny_Dict_empty ?_
  obtain ⟨k, hk⟩ := r.free
  obtain ⟨r', st⟩ := HR.alloc (X := fun _ => False) (s' := { s with heap := s.heap.push { cls := .type "dict", data := .dict #[] } }) (p := (s.heap.objs.size, s.heap.objs.size)) (x := .dictI fun _ => none) r hk (fun _ _ e => Heap.get?_push_of_some _ e) rfl rfl r.size r.size (none_size _) (none_size _)
    (fun _ lfs => ⟨rfl, [], Heap.DictOf.new _, fun _ => trivial⟩)
  exact q _ _ (.ref k) _ _ (h k hk) r' (f.step0 st) (.ref mupd_self) (st.mono fun _ x => x.elim)
end

-- C13

/-- an item of a plain list is set: the list stays plain -/
theorem setItem_plain {prog : Program} {w : World} {A : Around} {E : Value → Shared → Prop} {s : Shared} {l : Addr} {vs : Array Value} {n : Nat} {k : Int} {t : Tok} {v : Value} {Q : Unit → Shared → Prop} (ho : s.heap.get? l = some (lstO vs n)) (h0 : 0 ≤ k) (hfit : k < 2 ^ 63) (hn : k < vs.size)
    (hQ : ∀ h', h'.get? l = some (lstO (vs.setIfInBounds k.toNat v) n) → Heap.SameBut l s.heap h' → Q () { s with heap := h' }) : wpAny (model prog w) A (setItem (.ref l) (.int k t) v) Q E s := by
  have hT : s.TypeIs (.ref l) "list" := ⟨_, ho, rfl⟩
  have last : (s.heap.update l (Obj.mapSeq (·.setIfInBounds k.toNat v))).get? l = some (lstO (vs.setIfInBounds k.toNat v) n) := by
    have e : Obj.mapSeq (·.setIfInBounds k.toNat v) (lstO vs n) = lstO (vs.setIfInBounds k.toNat v) n := by
      simp [Obj.mapSeq]
    rw [Heap.get?_update_self _ ho (by rw [e]; rfl), e]
  have fin := hQ _ last (Heap.SameBut.update ..)
  clear hQ last
  unfold setItem
  try with_reducible refine wpAny_holding ?_
  first | refine wpAny_bind (wpAny_pure ?_) | skip
  refine wpAny_bind (wpAny_sequenceKey hT (by decide) ?_)
  refine wpAny_bind (wpAny_callSpecial?_slot (name := Str.ofString "__setitem__") hT PySem.slot_list_setitem
    (wpAny_call_entry PySem.slot_list_setitem hT PySem.entry_list_setitem ?_ (PySem.args_list_setitem _ _ _)))
  show wpAny _ _ (Builtin.List.listSubscript? (.int k t) >>= _) _ _ s
  refine wpAny_bind (wpAny_listSubscript_int (fitsIndex_of h0 hfit) ?_)
  clear hfit
  obtain ⟨j, rfl⟩ := Int.eq_ofNat_of_zero_le h0
  have hj : j < vs.size := by omega
  have hx' : vs[j]? = some vs[j] := Array.getElem?_eq_getElem hj
  show wpAny _ _ ((seqItemAt l j >>= fun r => pure (r.map (j, ·))) >>= _) _ _ s
  refine wpAny_bind (wpAny_bind (wpAny_seqItemAt ho rfl (wpAny_pure ?_)))
  rw [hx']
  show wpAny _ _ (setSeqItemAt l j v >>= _) _ _ s
  refine wpAny_bind (wpAny_setSeqItemAt ho rfl ?_)
  first
    | exact wpAny_bind (wpAny_pure (wpAny_pure ⟨.none, rfl, wpAny_pure fin⟩))
    | exact wpAny_pure ⟨.none, rfl, wpAny_pure fin⟩

theorem va_cons {K : Type} [DecidableEq K] (a x : K) (b : Value) (r : List (K × Value)) : valueAt ((a, b) :: r) x = if a = x then some b else valueAt r x := by
  unfold valueAt
  rw [List.find?_cons]
  by_cases h : a = x
  · rw [if_pos h, decide_eq_true h]; rfl
  · rw [if_neg h, decide_eq_false h]
theorem va_map {K : Type} [DecidableEq K] (k x : K) (v : Value) (l : List (K × Value)) : valueAt (l.map fun kv => if kv.1 = k then (kv.1, v) else kv) x = if x = k then (valueAt l x).map (fun _ => v) else valueAt l x := by
  induction l with
  | nil => exact (ite_self _).symm
  | cons p r ih =>
    rw [List.map_cons, va_cons p.1 x p.2 r]
    by_cases ha : p.1 = k
    · rw [if_pos ha, va_cons, ih]
      by_cases hx : p.1 = x
      · rw [if_pos hx, if_pos hx, if_pos (hx.symm.trans ha)]; rfl
      · rw [if_neg hx, if_neg hx]
    · rw [if_neg ha, va_cons p.1 x p.2, ih]
      by_cases hx : p.1 = x
      · rw [if_pos hx, if_pos hx, if_neg (fun e => ha (hx.trans e))]
      · rw [if_neg hx, if_neg hx]
theorem va_append {K : Type} [DecidableEq K] (k x : K) (v : Value) (l : List (K × Value)) (h : ∀ p ∈ l, ¬ p.1 = k) : valueAt (l ++ [(k, v)]) x = if x = k then some v else valueAt l x := by
  induction l with
  | nil =>
    refine (va_cons k x v []).trans ?_
    by_cases e : k = x
    · rw [if_pos e, if_pos e.symm]
    · rw [if_neg e, if_neg fun q => e q.symm]
  | cons p r ih =>
    rw [List.cons_append, va_cons p.1 x p.2, va_cons p.1 x p.2, ih fun p hp => h p (.tail _ hp)]
    by_cases hx : p.1 = x
    · rw [if_pos hx, if_pos hx, if_neg (fun e => h p (.head _) (hx.trans e))]
    · rw [if_neg hx, if_neg hx]
theorem stored_at {K : Type} [DecidableEq K] (k x : K) (v : Value) (kvs : List (K × Value)) : valueAt (stored kvs k v) x = if x = k then some v else valueAt kvs x := by
  unfold stored
  by_cases h : (kvs.any fun kv => decide (kv.1 = k)) = true
  · rw [if_pos h, va_map]
    by_cases hx : x = k
    · subst hx
      rw [if_pos rfl, if_pos rfl]
      have : (valueAt kvs x).isSome = true := by
        unfold valueAt
        rw [Option.isSome_map, List.find?_isSome]
        exact List.any_eq_true.mp h
      obtain ⟨u, hu⟩ := Option.isSome_iff_exists.mp this
      rw [hu]; rfl
    · rw [if_neg hx, if_neg hx]
  · rw [if_neg h]
    exact va_append k x v kvs fun p hp e => h (List.any_eq_true.mpr ⟨p, hp, decide_eq_true e⟩)

theorem nodup_bound {K : Type} [DecidableEq K] : ∀ (l ks : List K), l.Nodup → (∀ k ∈ l, k ∈ ks) → l.length ≤ ks.length
  | [], _, _, _ => Nat.zero_le _
  | a :: r, ks, hn, h => by
    have hn' := List.nodup_cons.mp hn
    have := nodup_bound r (ks.erase a) hn'.2 fun k hk => (List.mem_erase_of_ne (fun (e : k = a) => hn'.1 (by rw [← e]; exact hk))).mpr (h k (.tail _ hk))
    have ha := h a (.head _)
    rw [List.length_erase_of_mem ha] at this
    have := List.length_pos_of_mem ha
    show r.length + 1 ≤ ks.length
    omega

/-- few keys -/
noncomputable def Few {K V : Type} (f : K → Option V) : Prop := ∃ ks : List K, ks.length ≤ 1000 ∧ ∀ k, f k ≠ none → k ∈ ks

section
variable {c : Ctx} {d : Nat} {env : Env} {lk : Loc} {σ : Sto} {pos : Pos} {QX : Fl → Loc → Sto → Prop} {Q : V → Sto → Prop}

theorem few_pairs {K : Type} [DecidableEq K] {prog : Program} {w : World} {knd : KeyKind prog w K} {h : Heap} {μ : AMap} {a : Addr} {kvs : List (K × Value)} {f : K → Option V} (hd : h.DictOf knd a kvs) (hv : ∀ k, OR h μ (f k) (valueAt kvs k)) (hf : Few f) : kvs.length ≤ sizeLine := by
  obtain ⟨o, es, ep, ho, _, _, _, _, hn⟩ := hd
  obtain ⟨ks, hl, hk⟩ := hf
  have := nodup_bound (kvs.map (·.1)) ks hn fun k hm => hk k fun e => by
    have := OR.none_of (e ▸ hv k)
    obtain ⟨p, hp, rfl⟩ := List.mem_map.mp hm
    unfold valueAt at this
    rw [Option.map_eq_none_iff, List.find?_eq_none] at this
    exact this p hp (decide_eq_true rfl)
  rw [List.length_map] at this
  exact Nat.le_trans (Nat.le_trans this hl) (by rw [sizeLine_eq]; decide)

/-- o[i] = .. -/
noncomputable def Set3 (c : Ctx) (d : Nat) (env : Env) (lk : Loc) (σ : Sto) (a b y : V) (Q : Loc → Sto → Prop) : Prop :=
  ∀ A s μ va vb vy Qr Er, AOk A d → HR c s.heap μ σ → FR c env lk s.heap μ → VR s.heap μ a va → VR s.heap μ b vb → VR s.heap μ y vy →
    (∀ s' lk' σ' μ', Q lk' σ' → HR c s'.heap μ' σ' → FR c env lk' s'.heap μ' → Step (own env) μ μ' s s' → Qr () s') → wpAny c.M A (setItem va vb vy) Qr Er s

theorem oka_sub {o i : Expr} {y : V} {QA : Loc → Sto → Prop} (h : Ok c d env o lk σ (fun a σ' => Ok c d env i lk σ' (fun b σ'' => Set3 c d env lk σ'' a b y QA))) : OkA c d env (.Subscript o i pos) y lk σ QA := by
  intro A s μ v Qr Er ok r f hv q
  rw [assign_Subscript]
  refine wpAny_bind (wpAny_holding (h A s μ _ Er ok r f fun va s₁ a σ₁ μ₁ h₁ r₁ f₁ v₁ st₁ => wpAny_bind (wpAny_holding ?_)))
  refine h₁ A s₁ μ₁ _ Er ok r₁ f₁ fun vb s₂ b σ₂ μ₂ h₂ r₂ f₂ v₂ st₂ => wpAny_bind (wpAny_standAt (wpAny_bind (wpAny_holding ?_)))
  refine h₂ A s₂ μ₂ va vb v _ Er ok r₂ f₂ (v₁.step st₂) v₂ (hv.step (st₁.trans st₂)) fun s₃ lk₃ σ₃ μ₃ h₃ r₃ f₃ st₃ => ?_
  exact wpAny_release (q s₃ lk₃ σ₃ μ₃ h₃ r₃ f₃ ((st₁.trans st₂).trans st₃))

/-- a cell with one object is written anew -/
theorem cell_write {s s' : Shared} {μ : AMap} {j : Nat} {x x' : Cell} {p : Addr × Addr} (r : HR c s.heap μ σ) (f : FR c env lk s.heap μ) (hj : σ j = some x) (hp : μ.1 j = some p) (e : p.1 = p.2) (hs : Heap.SameBut p.1 s.heap s'.heap) (ho : ∃ o, s'.heap.get? p.1 = some o) (hg : s'.gens = s.gens) (hos : s'.os = s.os)
    (hc : Kp s.heap s'.heap μ μ → CR c s'.heap μ x' p) : HR c s'.heap μ (upd σ j x') ∧ FR c env lk s'.heap μ ∧ Step (own env) μ μ s s' :=
  have kp : ∀ b o, s.heap.get? b = some o → Frz μ b → s'.heap.get? b = some o ∧ Frz μ b := fun b o eb fz => ⟨(hs.2 b (fz.1 j p hp).1).trans eb, fz⟩
  have z := HR.write (X := own env) r hj hp (fun b o hb e' => (hs.2 b fun q => hb (q.trans e)).trans e') (e ▸ ho) hg hos fun _ _ => hc (.of kp fun _ _ e => e)
  ⟨z.1, f.at (.of kp fun _ _ e => e) fun a o _ fz e => kp a o e fz, z.2⟩
theorem size_of {h : Heap} {μ : AMap} {xs : List V} {vs : Array Value} (r : VRs h μ xs vs.toList) : xs.length = vs.size := r.length.trans Array.length_toList

theorem set_cell {j : Nat} {xs : List V} {k : Int} {y : V} {QA : Loc → Sto → Prop} (hj : σ j = some (.list xs)) (h0 : 0 ≤ k) (hk : k < 2 ^ 62) (hn : k.toNat < xs.length) (h : QA lk (upd σ j (.list (xs.set k.toNat y)))) : Set3 c d env lk σ (.ref j) (.int k) y QA := by
  intro A s μ va vb vy Qr Er ok r f ha hb hy q
  obtain ⟨t, rfl⟩ := hb.int'
  obtain ⟨p, rfl, hp⟩ := ha.ref'
  obtain ⟨e, vs, n, ho, hvs⟩ := r.cell j _ p hj hp
  refine setItem_plain ho h0 (Int.lt_trans hk (by decide)) ((Int.toNat_lt h0).mp (size_of hvs ▸ hn)) fun h' hn' hs => ?_
  have z := cell_write (s' := { s with heap := h' }) (x' := .list (xs.set k.toNat y)) r f hj hp e hs ⟨_, hn'⟩ rfl rfl fun K => ⟨e, _, n, hn', by rw [Array.toList_setIfInBounds]; exact (hvs.at K).set (hy.at K)⟩
  exact q _ lk _ μ h z.1 z.2.1 z.2.2

theorem or_upd {K : Type} [DecidableEq K] {h h' : Heap} {μ : AMap} {g : K → Option V} {kvs : List (K × Value)} {k : K} {y : V} {v : Value} (k' : Kp h h' μ μ) (hv : ∀ x, OR h μ (g x) (valueAt kvs x)) (hy : VR h μ y v) (x : K) : OR h' μ (if x = k then some y else g x) (valueAt (stored kvs k v) x) := by
  rw [stored_at]
  by_cases hx : x = k
  · rw [if_pos hx, if_pos hx]; exact hy.at k'
  · rw [if_neg hx, if_neg hx]; exact (hv x).at k'
theorem set_dictS {j : Nat} {g : Str → Option V} {k : Str} {y : V} {QA : Loc → Sto → Prop} (hj : σ j = some (.dictS g)) (hf : Few g) (h : QA lk (upd σ j (.dictS fun x => if x = k then some y else g x))) : Set3 c d env lk σ (.ref j) (.str k) y QA := by
  intro A s μ va vb vy Qr Er ok r f ha hb hy q
  obtain ⟨t, rfl⟩ := hb.str'
  obtain ⟨p, rfl, hp⟩ := ha.ref'
  obtain ⟨e, kvs, hd, hvs⟩ := r.cell j _ p hj hp
  refine wpAny_setItem_pairs (strKind_is _ _ k t) hd (fun h' hd' hs => ?_) (few_pairs hd hvs hf)
  have z := cell_write (s' := { s with heap := h', toks := s.toks + 1 }) (x' := .dictS fun x => if x = k then some y else g x) r f hj hp e hs (hd'.imp fun o z => z.elim fun _ z => z.elim fun _ z => z.1) rfl rfl fun K => ⟨e, _, hd', or_upd K hvs hy⟩
  exact q _ lk _ μ h z.1 z.2.1 z.2.2

theorem set_dictI {j : Nat} {g : Int → Option V} {k : Int} {y : V} {QA : Loc → Sto → Prop} (hj : σ j = some (.dictI g)) (hf : Few g) (h : QA lk (upd σ j (.dictI fun x => if x = k then some y else g x))) : Set3 c d env lk σ (.ref j) (.int k) y QA := by
  intro A s μ va vb vy Qr Er ok r f ha hb hy q
  obtain ⟨t, rfl⟩ := hb.int'
  obtain ⟨p, rfl, hp⟩ := ha.ref'
  obtain ⟨e, kvs, hd, hvs⟩ := r.cell j _ p hj hp
  refine wpAny_setItem_pairs (intKind_is _ _ k t) hd (fun h' hd' hs => ?_) (few_pairs hd hvs hf)
  have z := cell_write (s' := { s with heap := h', toks := s.toks + 1 }) (x' := .dictI fun x => if x = k then some y else g x) r f hj hp e hs (hd'.imp fun o z => z.elim fun _ z => z.elim fun _ z => z.1) rfl rfl fun K => ⟨e, _, hd', or_upd K hvs hy⟩
  exact q _ lk _ μ h z.1 z.2.1 z.2.2

/-- a method's name: what is found -/
noncomputable def Meth (c : Ctx) (σ : Sto) (y : V) (name : Str) (g : Value) : Prop :=
  ∀ (A : Around) (s : Shared) (μ : AMap) (v : Value) (pl : Sem Bool) (Qr : Value × List Value → Shared → Prop) (Er : Value → Shared → Prop), HR c s.heap μ σ → VR s.heap μ y v → Qr (g, [v]) s → wpAny c.M A (getMethod v name pl) Qr Er s

theorem ok_meth {o : Expr} {name : Str} {apos : Pos} {args : List Expr} (h : Ok c d env o lk σ (fun y σ' => ∃ g, Meth c σ' y name g ∧ keepB c.K g = true ∧ OkL c d env args lk σ' (fun ys σ'' => CallF c d env lk σ'' g (y :: ys) Q)))
    (hb : attributeBase o name env (eval o env) = eval o env) (hform : methodCallForm (args.length + 0) (backTo pos (starEach args env)) (backToKw pos (keywordEach [] env)) = true) (hline : (apos.endLine == pos.line) = true)
    (hplain : (backTo pos (starEach args env)).any (·.1) = false) : Ok c d env (.Call (.Attribute o name apos) args [] pos) lk σ Q := by
  intro A s μ Qr Er ok r f q
  rw [arm_eval_Call, hb]
  refine wpAny_bind (h A s μ _ Er ok r f fun v s₁ y σ₁ μ₁ h₁ r₁ f₁ v₁ st₁ => wpAny_bind (wpAny_standAt ?_))
  obtain ⟨g, hm, hk, hq⟩ := h₁
  have hpos : methodCallPos true o env apos pos = pure pos := by unfold methodCallPos; simp [hline]
  unfold methodCall
  show wpAny c.M A (do
    let (f, first) ← holding [v] (calleeOf (methodCallForm (args.length + 0) (backTo pos (starEach args env)) (backToKw pos (keywordEach [] env))) o env v name)
    let callPos ← methodCallPos (methodCallForm (args.length + 0) (backTo pos (starEach args env)) (backToKw pos (keywordEach [] env))) o env apos pos
    callWith callPos f first (backTo pos (starEach args env)) []) Qr Er s₁
  rw [hform]
  unfold calleeOf
  refine wpAny_bind (wpAny_holding (hm A s₁ μ₁ v _ _ Er r₁ v₁ ?_))
  refine wpAny_bind (wpAny_of_eq hpos ?_)
  exact callWith_ok (first := [y]) ok r₁ f₁ hk (.cons v₁ .nil) hq hplain (q.after st₁)

theorem meth_inst {k : Nat} {C g : Addr} {n : Nat} {fl : Str → Option V} {name : Str} (hs : σ k = some (.inst C n fl)) (hC : ClsF c.K C) (hf : findIn c.K (.ref C) name = some (some (.ref g))) (ht : typeIn c.K (.ref g) = some (.type "function")) (hn : fl name = none) :
    Meth c σ (.ref k) name (.ref g) := by
  intro A s μ v pl Qr Er r hv q
  obtain ⟨p, rfl, hp⟩ := hv.ref'
  obtain ⟨hx, es, m, hd, hk, _, hr⟩ := r.cell k _ p hs hp
  have I : InstAt s.heap p.1 ⟨.ref C, some p.2, .plain, #[]⟩ C (some (dictOf es m)) := ⟨hx, rfl, rfl, hd⟩
  refine method_fn r.K I hC.ga hC.gt hf ht ?_ q
  show (lookIn name (dictOf es m)).map _ = _
  rw [lookIn_dict, ns_getL hk, OR.none_of (show OR s.heap μ none (nsFind es.toArray name) from hn ▸ hr name)]; rfl

theorem meth_append {k : Nat} {xs : List V} (hs : σ k = some (.list xs)) : Meth c σ (.ref k) "append" (.builtin "list.append") := by
  intro A s μ v pl Qr Er r hv q
  obtain ⟨p, rfl, hp⟩ := hv.ref'
  obtain ⟨_, vs, n, ho, _⟩ := r.cell k _ p hs hp
  exact getMethod_builtin (T := "list") ⟨_, ho, rfl⟩ F.plainAttrs_list F.slot_list_append F.type_list_append (fun a e => ⟨_, Value.ref.inj e ▸ ho, rfl⟩) q
theorem meth_pop {k : Nat} {xs : List V} (hs : σ k = some (.list xs)) : Meth c σ (.ref k) "pop" (.builtin "list.pop") := by
  intro A s μ v pl Qr Er r hv q
  obtain ⟨p, rfl, hp⟩ := hv.ref'
  obtain ⟨_, vs, n, ho, _⟩ := r.cell k _ p hs hp
  exact getMethod_builtin (T := "list") ⟨_, ho, rfl⟩ F.plainAttrs_list F.slot_list_pop F.type_list_pop (fun a e => ⟨_, Value.ref.inj e ▸ ho, rfl⟩) q
theorem meth_get {k : Nat} {g : Str → Option V} (hs : σ k = some (.dictS g)) : Meth c σ (.ref k) "get" (.builtin "dict.get") := by
  intro A s μ v pl Qr Er r hv q
  obtain ⟨p, rfl, hp⟩ := hv.ref'
  obtain ⟨_, kvs, hd, _⟩ := r.cell k _ p hs hp
  exact getMethod_builtin (T := "dict") hd.typeIs F.plainAttrs_dict F.slot_dict_get F.type_dict_get hd.mapOf.noDict q

theorem callf_append {k : Nat} {xs : List V} {y : V} (hs : σ k = some (.list xs)) (hl : xs.length ≤ sizeLine) (h : Q .none (upd σ k (.list (xs ++ [y])))) : CallF c d env lk σ (.builtin "list.append") [.ref k, y] Q := by
  intro A s μ vs Qr Er ok r f hv q
  obtain ⟨_, u, rfl, ha, hy⟩ := hv.two
  obtain ⟨p, rfl, hp⟩ := ha.ref'
  obtain ⟨e, ws, n, ho, hws⟩ := r.cell k _ p hs hp
  refine wpAny_list_append_plain (hsz := size_of hws ▸ hl) ⟨n, ho⟩ fun h' hn' hs' => hn'.elim fun n' hn' => ?_
  have z := cell_write (s' := { s with heap := h' }) (x' := .list (xs ++ [y])) r f hs hp e hs' ⟨_, hn'⟩ rfl rfl fun K => ⟨e, _, n', hn', by rw [Array.toList_push]; exact (hws.at K).append (.cons (hy.at K) .nil)⟩
  exact q _ _ .none _ μ h z.1 z.2.1 .none z.2.2

theorem callf_pop {k : Nat} {xs : List V} {y : V} (hs : σ k = some (.list (xs ++ [y]))) (hl : xs.length + 1 ≤ sizeLine) (h : Q y (upd σ k (.list xs))) : CallF c d env lk σ (.builtin "list.pop") [.ref k] Q := by
  intro A s μ vs Qr Er ok r f hv q
  obtain ⟨_, rfl, ha⟩ := hv.one
  obtain ⟨p, rfl, hp⟩ := ha.ref'
  obtain ⟨e, ws, n, ho, hws⟩ := r.cell k _ p hs hp
  have hlen : xs.length + 1 = ws.size := List.length_append.symm.trans (size_of hws)
  obtain ⟨v, h1, h2⟩ := hws.get (i := xs.length) (x := y) List.getElem?_concat_length
  have h3 := (hws.take xs.length)
  rw [List.take_left] at h3
  have e1 : ws.size - 1 = xs.length := by rw [← hlen]; rfl
  have hv : ws[ws.size - 1]? = some v := by rw [e1, ← Array.getElem?_toList]; exact h1
  have hlt : ws.size - 1 < ws.size := e1 ▸ Nat.lt_of_succ_le (Nat.le_of_eq hlen)
  have e2 : (ws.eraseIdxIfInBounds (ws.size - 1)).toList = ws.toList.take xs.length := by
    rw [Array.eraseIdxIfInBounds, dif_pos hlt, Array.toList_eraseIdx, e1, List.eraseIdx_eq_take_drop_succ, List.drop_of_length_le (Nat.le_of_eq (Array.length_toList.trans hlen.symm)), List.append_nil]
  refine call_meets F.slot_list_pop ⟨_, ho, rfl⟩ F.entry_list_pop (F.args_list_pop_1 _) (MeetsSeq.list_pop_last p.1 ws n v hv (hlen ▸ hl)) ⟨ho, ?_⟩
  have new := Heap.get?_update_self (Obj.mapSeq fun xs => xs.eraseIdxIfInBounds (ws.size - 1)) ho rfl
  have z := cell_write (s' := { s with heap := _ }) (x' := .list xs) r f hs hp e (Heap.SameBut.update ..) ⟨_, new⟩ rfl rfl fun K => ⟨e, _, _, new, by rw [e2]; exact h3.at K⟩
  exact q _ _ y _ μ h z.1 z.2.1 (h2.step z.2.2) z.2.2

theorem getD_or {h : Heap} {μ : AMap} {x : Option V} {v : Option Value} {y : V} {u : Value} (r : OR h μ x v) (hy : VR h μ y u) : VR h μ (x.getD y) (v.getD u) := by
  cases x <;> cases v <;> first | exact r | exact r.elim | exact hy

theorem callf_get1 {k : Nat} {g : Str → Option V} {x : Str} (hlow : 3 < c.H0.objs.size) (hs : σ k = some (.dictS g)) (h : Q ((g x).getD .none) σ) : CallF c d env lk σ (.builtin "dict.get") [.ref k, .str x] Q := by
  intro A s μ vs Qr Er ok r f hv q
  obtain ⟨_, _, rfl, ha, hx⟩ := hv.two
  obtain ⟨t, rfl⟩ := hx.str'
  obtain ⟨p, rfl, hp⟩ := ha.ref'
  obtain ⟨e, kvs, hd, hvs⟩ := r.cell k _ p hs hp
  exact call_meetsIn F.slot_dict_get hd.typeIs F.entry_dict_get (F.args_dict_get_2 _ _) (meets_dict_get (strKind _ _) p.1 (strKind_is _ _ x t) (dict_low r hlow hp)) ⟨_, hd.mapOf, q.same h r f (getD_or (hvs x) .none)⟩
theorem callf_get2 {k : Nat} {g : Str → Option V} {x : Str} {y : V} (hlow : 3 < c.H0.objs.size) (hs : σ k = some (.dictS g)) (h : Q ((g x).getD y) σ) : CallF c d env lk σ (.builtin "dict.get") [.ref k, .str x, y] Q := by
  intro A s μ vs Qr Er ok r f hv q
  obtain ⟨_, _, _, rfl, ha, hx, hy⟩ := hv.three
  obtain ⟨t, rfl⟩ := hx.str'
  obtain ⟨p, rfl, hp⟩ := ha.ref'
  obtain ⟨e, kvs, hd, hvs⟩ := r.cell k _ p hs hp
  exact call_meetsIn F.slot_dict_get hd.typeIs F.entry_dict_get (F.args_dict_get_3 _ _ _) (meets_dict_get_default (strKind _ _) p.1 (strKind_is _ _ x t) (dict_low r hlow hp) _) ⟨_, hd.mapOf, q.same h r f (getD_or (hvs x) hy)⟩
end

-- C14

/-- drawing from a list's iterator -/
theorem draw_plain {prog : Program} {w : World} {A : Around} {E : Value → Shared → Prop} {it l : Addr} {items : Array Value} (hne : l ≠ it) : ∀ (n i : Nat) (s : Shared) (Q : List Value → Shared → Prop), s.heap.IsListIter it l i → s.heap.IsList l items → i + n ≤ items.size →
    (∀ h', h'.IsListIter it l (i + n) → Heap.SameBut it s.heap h' → Q ((items.toList.drop i).take n) { s with heap := h' }) → wpAny (model prog w) A (draw (.ref it) n) Q E s
  | 0, i, s, Q, hit, _, _, hQ => wpAny_pure (by simpa using hQ s.heap hit (Heap.SameBut.refl ..))
  | n + 1, i, s, Q, hit, ht, hle, hQ => by
    have hlt : i < items.size := by omega
    show wpAny _ _ (pyNext (.ref it) >>= _) Q E s
    refine wpAny_bind (wpAny_pyNext_list_item hit ht (x := items[i]) (by simp [hlt]) fun h₁ hit₁ hs₁ => ?_)
    have ht₁ : h₁.IsList l items := by obtain ⟨o, ho, q⟩ := ht; exact ⟨o, (hs₁.2 l hne).trans ho, q⟩
    refine wpAny_bind (wpAny_holding (draw_plain hne n (i + 1) _ _ hit₁ ht₁ (by omega) fun h₂ hit₂ hs₂ => wpAny_pure ?_))
    have hd : items.toList.drop i = items[i] :: items.toList.drop (i + 1) := by simp [List.drop_eq_getElem_cons, hlt]
    have := hQ h₂ (by rw [show i + (n + 1) = i + 1 + n by omega]; exact hit₂) (hs₁.trans hs₂)
    rw [hd, List.take_succ_cons] at this
    exact this

theorem isList_keep {h h' : Heap} {l : Addr} {items : Array Value} (x : h.IsList l items) (k : ∀ o, h.get? l = some o → h'.get? l = some o) : h'.IsList l items := Exists.imp (fun _ q => ⟨k _ q.1, q.2⟩) x
theorem unpack_list {prog : Program} {w : World} {A : Around} {E : Value → Shared → Prop} {s : Shared} {t : Addr} {items : Array Value} {n : Nat} {Q : List Value → Shared → Prop} (hh : A.handled = none) (ht : s.heap.IsList t items) (hn : items.size = n)
    (hQ : ∀ h', (∀ b o, s.heap.get? b = some o → h'.get? b = some o) → Q items.toList { s with heap := h' }) : wpAny (model prog w) A (unpackItems (.ref t) n none) Q E s := by
  subst hn
  have nit : ∀ b o, s.heap.get? b = some o → b ≠ s.heap.objs.size := fun b o e => Nat.ne_of_lt (Heap.lt_size e)
  have hlt : t ≠ s.heap.objs.size := Exists.elim ht fun o q => nit _ _ q.1
  unfold unpackItems
  refine wpAny_bind ?_
  unfold notIterableAtAll
  refine wpAny_bind (wpAny_specialOf ht.typeIs F.slot_list_iter.lookup (wpAny_pure ?_))
  rw [if_neg Bool.false_ne_true]
  refine wpAny_bind (wpAny_holding (wpAny_pyIter_list ht ?_))
  have ht₀ := isList_keep ht fun o e => Heap.get?_push_of_some ({ cls := .type "list_iterator", data := .fields #[.ref t, .int 0 0] } : Obj) e
  refine wpAny_bind (wpAny_holding (draw_plain hlt items.size 0 _ _ ⟨_, Heap.get?_push_size _ rfl, rfl, rfl⟩ ht₀ (Nat.le_of_eq (Nat.zero_add _)) fun h₁ hit₁ hs₁ => ?_))
  rw [show List.take items.size (List.drop 0 items.toList) = items.toList from List.take_of_length_le (Nat.le_of_eq Array.length_toList), if_neg (fun h => absurd Array.length_toList (Nat.ne_of_lt h))]
  have ht₁ := isList_keep ht₀ fun o e => (hs₁.2 t hlt).trans e
  refine wpAny_bind (wpAny_holding (wpAny_pyNext_list_end hh hit₁ ht₁ (Array.getElem?_eq_none (Nat.le_of_eq (Nat.zero_add _).symm)) fun h₂ he₂ => ?_))
  exact wpAny_pure (hQ h₂ fun b o e => he₂ b o (nit b o e) ((hs₁.2 b (nit b o e)).trans (Heap.get?_push_of_some _ e)))

theorem weight_call (C : Addr) (rest : List Value) : (Code.builtin "type.__call__" ⟨.ref C :: rest, []⟩).weight = 1 := by kernel_rfl
theorem units_call (C : Addr) (rest : List Value) : (Code.builtin "type.__call__" ⟨.ref C :: rest, []⟩).cUnits = 1 := by kernel_rfl

theorem bb_len : bootBuiltins "len" = some (.builtin "len") := by decide +kernel
theorem bb_isinstance : bootBuiltins "isinstance" = some (.builtin "isinstance") := by decide +kernel
theorem bb_str : bootBuiltins "str" = some (.type "str") := by decide +kernel
theorem bb_tuple : bootBuiltins "tuple" = some (.type "tuple") := by decide +kernel
theorem bb_int : bootBuiltins "int" = some (.type "int") := by decide +kernel
theorem bb_min : bootBuiltins "min" = some (.builtin "min") := by decide +kernel
theorem bb_max : bootBuiltins "max" = some (.builtin "max") := by decide +kernel

section
variable {c : Ctx} {d : Nat} {env : Env} {lk : Loc} {σ : Sto} {pos : Pos} {QX : Fl → Loc → Sto → Prop} {Q : V → Sto → Prop}

theorem oka_unpack {ts : List Expr} {k : Nat} {ys : List V} {QA : Loc → Sto → Prop} (h : OkAs c d env ts ys lk σ QA) (hn : (assignEach ts env).length = ys.length)
    (hs : (assignEach ts env).findIdx? (·.1) = none) : OkA c d env (.Tuple ts k pos) (.lst ys) lk σ QA := by
  intro A s μ v Qr Er ok r f hv q
  obtain ⟨a, vs, n, rfl, ho, hf, hvs⟩ := hv.lst'
  rw [arm_assign_Tuple]
  refine wpAny_bind (wpAny_standAt ?_)
  unfold unpack
  rw [hs]
  refine wpAny_bind (wpAny_holding (unpack_list ok.1 ⟨_, ho, rfl, _, rfl⟩ (by rw [hn, hvs.length, List.size_toArray]) fun h' kp => ?_))
  have st : Step (fun _ => False) μ μ s { s with heap := h' } := Step.ofKeep kp rfl rfl
  exact h A { s with heap := h' } μ vs Qr Er ok (r.keep kp) (f.step0 st) (hvs.step st) fun s₁ lk₁ σ₁ μ₁ g r₁ f₁ st₁ => q s₁ lk₁ σ₁ μ₁ g r₁ f₁ ((st.mono fun _ x => x.elim).trans st₁)

theorem callOk_of {f : Value} {args : List V} (h : CodeOk c d f args σ Q) : CallOk c d f args σ Q := h.call

theorem aok_call {A : Around} {C : Addr} {vs : List Value} (h : AOk A (d + 1)) : AOk (A.under (.builtin "type.__call__" ⟨.ref C :: vs, []⟩)) d := by
  refine ⟨h.1, ?_, ?_⟩
  · show A.depth + (Code.builtin "type.__call__" ⟨.ref C :: vs, []⟩).weight + 2 * d < 990
    rw [weight_call]
    exact Nat.lt_of_le_of_lt (Nat.le_of_eq (Nat.add_right_comm A.depth 1 (2 * d))) (Nat.lt_of_succ_lt h.2.1)
  · show A.units + (Code.builtin "type.__call__" ⟨.ref C :: vs, []⟩).cUnits + 8 * d < 9800
    rw [units_call]
    exact Nat.lt_of_le_of_lt (Nat.le_of_eq (Nat.add_right_comm A.units 1 (8 * d))) (Nat.lt_of_le_of_lt (Nat.add_le_add_left (by decide : 1 ≤ 8) (A.units + 8 * d)) h.2.2)
/-- a class, called -/
theorem callOk_new {C fI : Addr} {args : List V} (hm : makesIn c.K C = true) (hi : findIn c.K (.ref C) "__init__" = some (some (.ref fI))) (hf : typeIn c.K (.ref fI) = some (.type "function"))
    (h : ∀ k, σ k = none → CodeOk c d (.ref fI) (.ref k :: args) (upd σ k (.inst C 0 fun _ => none)) (fun y σ' => y = .none ∧ Q (.ref k) σ')) : CallOk c (d + 1) (.ref C) args σ Q := by
  intro A s μ vs Qr Er ok r hv q
  refine wpAny_call ?_
  obtain ⟨hp, g, dd, t, os⟩ := s
  refine make_core (makes_of r.K hm) (looks_findIn r.K hi) (fun self => bind_fn r.K self hf) (.inl rfl) ?_
  obtain ⟨k, hk⟩ := r.free
  have kp : ∀ b o, hp.get? b = some o → ((hp.push emptyDict).push (instObj C hp.objs.size)).get? b = some o := fun b o e => Heap.get?_push_of_some _ (Heap.get?_push_of_some _ e)
  have e2 : (hp.push emptyDict).objs.size = hp.objs.size + 1 := Heap.size_push ..
  have n1 : hp.get? (hp.objs.size + 1) = none := none_ge (Nat.le_succ _)
  obtain ⟨r', st⟩ := HR.alloc (X := fun _ => False) (s := ⟨hp, g, dd, t, os⟩) (s' := ⟨(hp.push emptyDict).push (instObj C hp.objs.size), g, dd, t, os⟩) (p := (hp.objs.size + 1, hp.objs.size)) (x := .inst C 0 fun _ => none) r hk kp rfl rfl
    (Nat.le_succ_of_le r.size) r.size n1 (none_size _) (fun _ _ => by
      refine ⟨?_, [], 0, Heap.get?_push_of_some _ (Heap.get?_push_size _ rfl), fun e he => absurd (List.mem_toArray.mp he) List.not_mem_nil, Nat.le_refl _, fun x => ?_⟩
      · have := Heap.get?_push_size (hp.push emptyDict) (o := instObj C hp.objs.size) rfl
        rw [e2] at this
        exact this
      · rw [nsFind_list]; trivial)
  have ok' := aok_call (C := C) (vs := vs) ok
  refine h k hk _ _ _ (.ref (hp.objs.size + 1) :: vs) _ ok' r' (.cons (.ref mupd_self) (hv.step st)) fun v s' y σ' μ' hq r'' hv' st' => ?_
  obtain ⟨rfl, hq⟩ := hq
  obtain rfl := hv'.none'
  exact ⟨rfl, q _ s' (.ref k) σ' μ' hq r'' (.ref (st'.ext _ _ mupd_self)) (st.trans st')⟩

/-- len -/
theorem callf_len {a : V} {xs : List V} (ha : a = .tup xs ∨ AsList σ a xs) (hl : xs.length ≤ sizeLine) (h : Q (.int xs.length) σ) : CallF c d env lk σ (.builtin "len") [a] Q := by
  intro A s μ vs Qr Er ok r f hv q
  obtain ⟨u, rfl, ha'⟩ := hv.one
  rw [sizeLine_eq] at hl
  rcases ha with rfl | ha
  · obtain ⟨b, vs, n, rfl, ho, hf, hvs⟩ := ha'.tup'
    have e : xs.length = vs.toArray.size := hvs.length
    rw [e] at h hl
    exact PyProof.Rows.len_tuple ⟨_, ho, rfl, _, rfl⟩ (by omega) (q.same h r f (.int _ _))
  · obtain ⟨b, vs, n, rfl, ho, hvs⟩ := ha.at r ha'
    rw [size_of hvs] at h hl
    exact call_len_list ⟨_, ho, rfl, _, rfl⟩ (by omega) (q.same h r f (.int _ _))

theorem callf_isi_str {i : Int} (h : Q (.bool false) σ) : CallF c d env lk σ (.builtin "isinstance") [.int i, .raw (.type "str")] Q := by
  intro A s μ vs Qr Er ok r f hv q
  obtain ⟨_, _, rfl, h1, h2⟩ := hv.two
  obtain ⟨t, rfl⟩ := h1.int'
  obtain rfl := h2.raw'
  exact IsiPair.int_str (q.same h r f (.bool _))
theorem callf_isi_tuple {i : Int} (h : Q (.bool false) σ) : CallF c d env lk σ (.builtin "isinstance") [.int i, .raw (.type "tuple")] Q := by
  intro A s μ vs Qr Er ok r f hv q
  obtain ⟨_, _, rfl, h1, h2⟩ := hv.two
  obtain ⟨t, rfl⟩ := h1.int'
  obtain rfl := h2.raw'
  exact IsiPair.int_tuple (q.same h r f (.bool _))
theorem callf_int_bool {b : Bool} (h : Q (.int (if b then 1 else 0)) σ) : CallF c d env lk σ (.type "int") [.bool b] Q := by
  intro A s μ vs Qr Er ok r f hv q
  obtain ⟨_, rfl, h1⟩ := hv.one
  obtain rfl := h1.bool'
  exact call_int_bool (q.same h r f (.int _ _))
theorem callf_str_int {a : Int} (ha : a.natAbs.log2 < 1920) (h : Q (.str (toString a)) σ) : CallF c d env lk σ (.type "str") [.int a] Q := by
  intro A s μ vs Qr Er ok r f hv q
  obtain ⟨_, rfl, h1⟩ := hv.one
  obtain ⟨t, rfl⟩ := h1.int'
  exact P.str_of_int ha (q.same h r f (.str _ _))
theorem callf_min2 {a b : Int} (h : Q (.int (if b < a then b else a)) σ) : CallF c d env lk σ (.builtin "min") [.int a, .int b] Q := by
  intro A s μ vs Qr Er ok r f hv q
  obtain ⟨_, _, rfl, h1, h2⟩ := hv.two
  obtain ⟨t, rfl⟩ := h1.int'
  obtain ⟨u, rfl⟩ := h2.int'
  refine min_two_ints ok.1 fun h' tk kp => ?_
  refine q _ { s with heap := h', toks := tk } _ σ μ h (r.keep kp) (f.keep (s' := { s with heap := h', toks := tk }) kp rfl rfl) ?_ (Step.ofKeep kp rfl rfl)
  by_cases e : b < a
  · rw [if_pos e, if_pos e]; exact .int _ _
  · rw [if_neg e, if_neg e]; exact .int _ _

/-- list + list -/
theorem run_addl {a b : V} {xs ys : List V} (ha : AsList σ a xs) (hb : AsList σ b ys) (hl : xs.length + ys.length ≤ sizeLine) (h : Q (.lst (xs ++ ys)) σ) : Run2 c d env lk σ (binaryOp .Add) a b Q := by
  intro A s μ va vb Qr Er ok r f hva hvb q
  obtain ⟨l1, vs, n, rfl, ho, hvs⟩ := ha.at r hva
  obtain ⟨l2, ws, m, rfl, ho', hws⟩ := hb.at r hvb
  have e1 := size_of hvs
  have e2 := size_of hws
  refine P.add_list (hsz := by rw [← e1, ← e2]; exact hl) ho ho' ?_
  refine q _ { s with heap := s.heap.push _ } _ σ μ h (r.push _) (f.push _) (.lst (vs := (vs ++ ws).toList) (n := 0) ?_ (frz_size r) ?_) (Step.push _)
  · exact Heap.get?_push_size _ rfl
  · rw [Array.toList_append]
    exact (hvs.append hws).step (X := fun _ => False) (s' := { s with heap := s.heap.push _ }) (Step.push _)

/-- a variable, loaded -/
theorem load_var {A : Around} {s : Shared} {μ : AMap} {Qr : Value → Shared → Prop} {Er : Value → Shared → Prop} {x : Str} {y : V} (r : HR c s.heap μ σ) (f : FR c env lk s.heap μ) (hl : lk.lookup x = some y) (hk : env.kindOf x = some .local ∨ env.kindOf x = some .cell)
    (q : ∀ v, VR s.heap μ y v → Qr v s) : wpAny c.M A (loadName env x) Qr Er s := by
  rcases hk with hk | hk
  · obtain ⟨m, hn, hm⟩ := f.ns
    obtain ⟨v, h1, h2⟩ := hm x y hk hl
    exact wpAny_loadName_local f.kind hk hn h1 (q v h2)
  · obtain ⟨a', ha⟩ := f.cells x (.inl hk)
    obtain ⟨_, _, _, v, h4, h5⟩ := f.cell x a' ha
    obtain ⟨u, rfl, h6⟩ := h5 y (.inl hk) hl
    exact wpAny_loadName_cell f.kind hk ha h4 (q u h6)

theorem okx_aug {x : Str} {p : Pos} {op : Operator} {e : Expr} {y : V} (hl : lk.lookup x = some y) (hk : env.kindOf x = some .local ∨ env.kindOf x = some .cell)
    (h : Ok c d env e lk σ (fun z σ' => Run2 c d env lk σ' (inplaceOp op) y z (fun u σ'' => QX .next (put x u lk) σ''))) : OkX c d env (.AugAssign (.Name x p) op e pos) lk σ QX := by
  intro A s μ Qr Er ok r f q
  refine wpAny_AugAssign_Name (load_var r f hl hk fun v hv => ?_)
  refine h A s μ _ Er ok r f fun vz s₁ z σ₁ μ₁ h₁ r₁ f₁ v₁ st₁ => ?_
  refine h₁ A s₁ μ₁ v vz _ Er ok r₁ f₁ (hv.step st₁) v₁ fun vu s₂ u σ₂ μ₂ h₂ r₂ f₂ v₂ st₂ => ?_
  exact store_var f₂ r₂ v₂ hk fun s₃ r₃ f₃ st₃ => q .next s₃ .next _ σ₂ μ₂ h₂ r₃ f₃ trivial ((st₁.trans st₂).trans st₃)

/-- a op b op c -/
theorem ok_chain2 {l r₁ r₂ : Expr} {op₁ op₂ : CmpOp} (h : Ok c d env l lk σ (fun a σ₁ => Ok c d env r₁ lk σ₁ (fun b σ₂ => Run2 c d env lk σ₂ (compareOp op₁) a b (fun y σ₃ => ∃ t, y = .bool t ∧
      (t = false → Q (.bool false) σ₃) ∧ (t = true → Ok c d env r₂ lk σ₃ (fun e σ₄ => Run2 c d env lk σ₄ (compareOp op₂) b e Q))))))
    (hm : lastMarks [op₁, op₂] [r₁, r₂] = false) : Ok c d env (.Compare l [op₁, op₂] [r₁, r₂] pos) lk σ Q := by
  intro A s μ Qr Er ok r f q
  refine Compare_chain (h A s μ _ Er ok r f fun va s₁ a σ₁ μ₁ h₁ r₁ f₁ v₁ st₁ => chain_link ?_) hm
  refine h₁ A s₁ μ₁ _ Er ok r₁ f₁ fun vb s₂ b σ₂ μ₂ h₂ r₂ f₂ v₂ st₂ => ?_
  refine h₂ A s₂ μ₂ va vb _ Er ok r₂ f₂ (v₁.step st₂) v₂ fun vc s₃ y σ₃ μ₃ h₃ r₃ f₃ v₃ st₃ => ?_
  obtain ⟨t, rfl, hf, ht⟩ := h₃
  obtain rfl := v₃.bool'
  refine wpAny_truthy_bool ?_
  cases t with
  | false => exact q _ s₃ _ σ₃ μ₃ (hf rfl) r₃ f₃ (.bool _) ((st₁.trans st₂).trans st₃)
  | true =>
    refine chain_last (ht rfl A s₃ μ₃ _ Er ok r₃ f₃ fun ve s₄ e σ₄ μ₄ h₄ r₄ f₄ v₄ st₄ => ?_)
    exact h₄ A s₄ μ₄ vb ve Qr Er ok r₄ f₄ (v₂.step (st₃.trans st₄)) v₄ (q.after (((st₁.trans st₂).trans st₃).trans st₄))

theorem okt_chain2 {l r₁ r₂ : Expr} {op₁ op₂ : CmpOp} {QT : Bool → Sto → Prop} (h : Ok c d env l lk σ (fun a σ₁ => Ok c d env r₁ lk σ₁ (fun b σ₂ => Run2 c d env lk σ₂ (compareOp op₁) a b (fun y σ₃ => ∃ t, y = .bool t ∧
      (t = false → QT false σ₃) ∧ (t = true → Ok c d env r₂ lk σ₃ (fun e σ₄ => Run2 c d env lk σ₄ (compareOp op₂) b e (fun y σ₅ => ∃ u, y = .bool u ∧ QT u σ₅)))))))
    (hm : lastMarks [op₁, op₂] [r₁, r₂] = false) : OkT c d env (.Compare l [op₁, op₂] [r₁, r₂] pos) lk σ QT := by
  intro A s μ Qr Er ok r f q
  refine isTrue_chain (h A s μ _ Er ok r f fun va s₁ a σ₁ μ₁ h₁ r₁ f₁ v₁ st₁ => test_link ?_) hm
  refine h₁ A s₁ μ₁ _ Er ok r₁ f₁ fun vb s₂ b σ₂ μ₂ h₂ r₂ f₂ v₂ st₂ => ?_
  refine h₂ A s₂ μ₂ va vb _ Er ok r₂ f₂ (v₁.step st₂) v₂ fun vc s₃ y σ₃ μ₃ h₃ r₃ f₃ v₃ st₃ => ?_
  obtain ⟨t, rfl, hf, ht⟩ := h₃
  obtain rfl := v₃.bool'
  refine wpAny_truthy_bool ?_
  cases t with
  | false => exact q _ s₃ σ₃ μ₃ (hf rfl) r₃ f₃ ((st₁.trans st₂).trans st₃)
  | true =>
    refine test_last (ht rfl A s₃ μ₃ _ Er ok r₃ f₃ fun ve s₄ e σ₄ μ₄ h₄ r₄ f₄ v₄ st₄ => ?_)
    refine h₄ A s₄ μ₄ vb ve _ Er ok r₄ f₄ (v₂.step (st₃.trans st₄)) v₄ fun vf s₅ y σ₅ μ₅ h₅ r₅ f₅ v₅ st₅ => ?_
    obtain ⟨u, rfl, hq⟩ := h₅
    obtain rfl := v₅.bool'
    exact wpAny_truthy_bool (q u s₅ σ₅ μ₅ hq r₅ f₅ ((((st₁.trans st₂).trans st₃).trans st₄).trans st₅))
end

-- D0

/-- the def at a place of the text stands at an address -/
noncomputable def HasFn (K : Frag) (a : Addr) (qual : Str) (st : Stmt) : Prop :=
  ∃ oc od osl doc pm an cdv ct, K.lookup a = some ⟨oc, od, .func (fnOf (stName st) qual (stArgs st) (stBody st) (stScope st) .none .none doc pm an cdv ct), osl⟩ ∧ codeIn K cdv qual = true

section
variable {c : Ctx} {d : Nat} {env : Env} {lk : Loc} {σ : Sto} {pos : Pos} {QX : Fl → Loc → Sto → Prop} {Q : V → Sto → Prop}

/-- a block's parts, joined with what comes behind -/
noncomputable def Then (c : Ctx) (d : Nat) (env : Env) (rest : List Stmt) (QX : Fl → Loc → Sto → Prop) (fl : Fl) (lk : Loc) (σ : Sto) : Prop := match fl with
  | .next => OkB c d env rest lk σ QX
  | fl => QX fl lk σ
theorem then_next {rest : List Stmt} (h : OkB c d env rest lk σ QX) : Then c d env rest QX .next lk σ := h
theorem then_ret {rest : List Stmt} {y : V} (h : QX (.ret y) lk σ) : Then c d env rest QX (.ret y) lk σ := h
theorem then_brk {rest : List Stmt} (h : QX .brk lk σ) : Then c d env rest QX .brk lk σ := h
theorem then_cont {rest : List Stmt} (h : QX .cont lk σ) : Then c d env rest QX .cont lk σ := h
theorem ret_ret {y : V} (h : Q y σ) : RetOk Q (.ret y) lk σ := h
theorem ret_next (h : Q .none σ) : RetOk Q .next lk σ := h

theorem okb_assign {t e : Expr} {rest : List Stmt} (h : Ok c d env e lk σ (fun y σ' => OkA c d env t y lk σ' (fun lk' σ'' => OkB c d env rest lk' σ'' QX))) (he : assignEach [t] env = [(false, assign t env)])
    (hs : swapsWithSole [t] e pos.line env = pure false) (hw : swappedStores [t] e env = pure none) : OkB c d env (.Assign [t] e pos :: rest) lk σ QX := okb_cons (okx_assign h he hs hw)
theorem okb_let {x : Str} {p : Pos} {e : Expr} {rest : List Stmt} (h : Ok c d env e lk σ (fun y σ' => OkB c d env rest (put x y lk) σ' QX)) (hk : env.kindOf x = some .local ∨ env.kindOf x = some .cell)
    (hs : swapsWithSole [.Name x p] e pos.line env = pure false) (hw : swappedStores [.Name x p] e env = pure none) : OkB c d env (.Assign [.Name x p] e pos :: rest) lk σ QX :=
  okb_assign (h.mono fun y σ' hh => oka_name hh hk) rfl hs hw
theorem okb_swap {t e : Expr} {rest : List Stmt} {names : List Str} (h : Ok c d env e lk σ (fun y σ' => ∃ ys, y = .tup ys ∧ ys.length = names.length ∧ OkB c d env rest ((names.zip ys).reverse.foldl (fun l p => put p.1 p.2 l) lk) σ' QX))
    (hs : swapsWithSole [t] e pos.line env = pure false) (hw : swappedStores [t] e env = pure (some names)) (hk : ∀ x ∈ names, env.kindOf x = some .local ∨ env.kindOf x = some .cell) :
    OkB c d env (.Assign [t] e pos :: rest) lk σ QX := okb_cons (okx_swap (h.mono fun y σ' hh => by obtain ⟨ys, h1, h2, h3⟩ := hh; exact ⟨ys, h1, h2, fun lk' e => e ▸ h3⟩) hs hw hk)
theorem okb_comp {x : Str} {px cpos : Pos} {elt target iter : Expr} {ifs : List Expr} {scope : Scope} {rest : List Stmt} (hsc : CScope scope env lk) (hsF : ∀ x, foldedSetIterable iter env x = pure x)
    (hsw : swapsWith (.ListComp elt [⟨target, iter, ifs, 0⟩] scope cpos) (some (.Name x px)) pos.line env = pure true)
    (h : OkIt c d env iter lk σ (pairTarget target) (fun S xs σ' => S σ' ∧ ∀ C cl, CompOk c d (compEnvC scope cl C env) target ifs elt lk S (fun acc σ'' => OkB c d env rest (put x (.lst acc) lk) σ'' QX) xs [] σ'))
    (hk : env.kindOf x = some .local ∨ env.kindOf x = some .cell) : OkB c d env (.Assign [.Name x px] (.ListComp elt [⟨target, iter, ifs, 0⟩] scope cpos) pos :: rest) lk σ QX := okb_cons (okx_assign_comp hsc hsF hsw h hk)
theorem okb_expr {e : Expr} {rest : List Stmt} (h : Ok c d env e lk σ (fun _ σ' => OkB c d env rest lk σ' QX)) (hi : interactive env = false) (hs : swapsWith e none pos.line env = pure false) : OkB c d env (.Expr e pos :: rest) lk σ QX := okb_cons (okx_expr h hi hs)
theorem okb_aug {x : Str} {p : Pos} {op : Operator} {e : Expr} {y : V} {rest : List Stmt} (hl : lk.lookup x = some y) (hk : env.kindOf x = some .local ∨ env.kindOf x = some .cell)
    (h : Ok c d env e lk σ (fun z σ' => Run2 c d env lk σ' (inplaceOp op) y z (fun u σ'' => OkB c d env rest (put x u lk) σ'' QX))) : OkB c d env (.AugAssign (.Name x p) op e pos :: rest) lk σ QX := okb_cons (okx_aug hl hk h)
theorem okb_return {e : Expr} {rest : List Stmt} (h : Ok c d env e lk σ (fun y σ' => QX (.ret y) lk σ')) : OkB c d env (.Return (some e) pos :: rest) lk σ QX := okb_cons (okx_return h)
theorem okb_return0 {rest : List Stmt} (h : QX (.ret .none) lk σ) : OkB c d env (.Return none pos :: rest) lk σ QX := okb_cons (okx_return0 h)
theorem okb_if {test : Expr} {body orelse rest : List Stmt} (h : OkT c d env test lk σ (fun b σ' => (b = true → OkB c d env body lk σ' (Then c d env rest QX)) ∧ (b = false → OkB c d env orelse lk σ' (Then c d env rest QX)))) :
    OkB c d env (.If test body orelse pos :: rest) lk σ QX := okb_cons (okx_if h)
/-- how a loop's body may end -/
noncomputable def LoopFl (c : Ctx) (d : Nat) (env : Env) (target : Expr) (body : List Stmt) (S : Sto → Prop) (Q : Fl → Loc → Sto → Prop) (xs : List V) (fl : Fl) (lk : Loc) (σ : Sto) : Prop := match fl with
  | .next => S σ ∧ ∃ lk', Sub lk' lk ∧ LoopOk c d env target body S Q xs lk' σ
  | .cont => S σ ∧ ∃ lk', Sub lk' lk ∧ LoopOk c d env target body S Q xs lk' σ
  | .brk => Q .next lk σ
  | .ret y => Q (.ret y) lk σ
theorem loop_nil {target : Expr} {body : List Stmt} {S : Sto → Prop} (h : QX .next lk σ) : LoopOk c d env target body S QX [] lk σ := ⟨lk, Sub.refl _, h⟩
theorem loop_cons {target : Expr} {body : List Stmt} {S : Sto → Prop} {x : V} {xs : List V} (h : OkA c d env target x lk σ (fun lk₁ σ₁ => OkB c d env body lk₁ σ₁ (LoopFl c d env target body S QX xs))) : LoopOk c d env target body S QX (x :: xs) lk σ := by
  refine fun A s μ v Qr Er ok r f hv q => h A s μ v Qr Er ok r f hv fun s' lk' σ' μ' hq => q s' lk' σ' μ' ?_
  refine hq.mono fun fl lk'' σ'' hh => ?_
  cases fl <;> exact hh
theorem loopfl_next {target : Expr} {body : List Stmt} {S : Sto → Prop} {xs : List V} (lk' : Loc) (hs : S σ) (hw : Sub lk' lk) (h : LoopOk c d env target body S QX xs lk' σ) : LoopFl c d env target body S QX xs .next lk σ := ⟨hs, lk', hw, h⟩
theorem loopfl_cont {target : Expr} {body : List Stmt} {S : Sto → Prop} {xs : List V} (lk' : Loc) (hs : S σ) (hw : Sub lk' lk) (h : LoopOk c d env target body S QX xs lk' σ) : LoopFl c d env target body S QX xs .cont lk σ := ⟨hs, lk', hw, h⟩
theorem loopfl_ret {target : Expr} {body : List Stmt} {S : Sto → Prop} {xs : List V} {y : V} (h : QX (.ret y) lk σ) : LoopFl c d env target body S QX xs (.ret y) lk σ := h
theorem okb_for {target iter : Expr} {body rest : List Stmt} (h : OkIt c d env iter lk σ (pairTarget target) (fun S xs σ' => S σ' ∧ LoopOk c d env target body S (Then c d env rest QX) xs lk σ'))
    (hs : ∀ x, foldedSetIterable iter env x = pure x) : OkB c d env (.For target iter body [] pos :: rest) lk σ QX := okb_cons (okx_for h hs)

theorem lookup_hit {x : Str} {y : V} {r : Loc} : List.lookup x ((x, y) :: r) = some y := by simp
theorem lookup_skip {x z : Str} {y w : V} {r : Loc} (h : (x == z) = false) (hr : r.lookup x = some y) : List.lookup x ((z, w) :: r) = some y := by simp [List.lookup_cons, h, hr]
theorem put_hit {x : Str} {y w : V} {r : Loc} : put x y ((x, w) :: r) = (x, y) :: r := by simp [put]
theorem put_skip {x z : Str} {y w : V} {r r' : Loc} (h : (x == z) = false) (hr : put x y r = r') : put x y ((z, w) :: r) = (z, w) :: r' := by simp [put, h, hr]
theorem put_new {x : Str} {y : V} : put x y [] = [(x, y)] := rfl

theorem code_fn {a : Addr} {qual : Str} {st : Stmt} (ps : List Str) {args : List V} (hf : HasFn c.K a qual st)
    (hlen : args.length = ps.length)
    (hbind : ∀ doc pm an cdv ct (vs : List Value), vs.length = ps.length → bindArgs (fnOf (stName st) qual (stArgs st) (stBody st) (stScope st) .none .none doc pm an cdv ct) ⟨vs, []⟩ = pure (ps.zip vs))
    (hsc : ((ps.all fun x => ((stScope st).names.lookup x == some .local || (stScope st).names.lookup x == some .cell)) && (stScope st).names.all (fun p => p.2 != .free) && (stScope st).kind == .function && !(stScope st).isCoroutine && !(stScope st).isGenerator) = true)
    (hnd : ps.Nodup)
    (h : ∀ L cdv, OkB c d (envOfC qual (stScope st) L a cdv) (stBody st) (ps.zip args) σ (RetOk Q)) : CodeOk c (d + 1) (.ref a) args σ Q := by
  obtain ⟨oc, od, osl, doc, pm, an, cdv, ct, ho, hcd⟩ := hf
  have a := Bool.and_eq_true_iff.mp hsc
  have b := Bool.and_eq_true_iff.mp a.1
  have e := Bool.and_eq_true_iff.mp b.1
  have f := Bool.and_eq_true_iff.mp e.1
  exact codeOk_def ho hcd hlen (hbind doc pm an cdv ct) hnd (fun x hx => (Bool.or_eq_true_iff.mp (List.all_eq_true.mp f.1 x hx)).imp beq_iff_eq.mp beq_iff_eq.mp) (fun p hp => bne_iff_ne.mp (List.all_eq_true.mp f.2 p hp)) (beq_iff_eq.mp e.2) (Bool.not_eq_true' _ ▸ b.2) (Bool.not_eq_true' _ ▸ a.2) fun L => h L cdv

end

-- D1

structure GFn (K : Frag) (name : Str) (st : Stmt) (a : Addr) : Prop where
  ns : nsIn K mainGlobals name = some (some (.ref a))
  fn : HasFn K a name st
  keep : keepIn K (.ref a) = true
/-- a def with a default -/
structure GFnD (K : Frag) (name : Str) (st : Stmt) (a : Addr) : Prop where
  ns : nsIn K mainGlobals name = some (some (.ref a))
  fn : ∃ oc od osl kV doc pm an cdv ct T vs n, K.lookup a = some ⟨oc, od, .func (fnOf (stName st) name (stArgs st) (stBody st) (stScope st) (.ref T) kV doc pm an cdv ct), osl⟩ ∧ codeIn K cdv name = true ∧ K.lookup T = some (tupO vs n) ∧ vs.size = 1 ∧ kV = .none
  keep : keepIn K (.ref a) = true
structure GCls (K : Frag) (name : Str) (st : Stmt) (C fI : Addr) : Prop where
  ns : nsIn K mainGlobals name = some (some (.ref C))
  keep : keepIn K (.ref C) = true
  cls : ClsF K C
  makes : makesIn K C = true
  init : findIn K (.ref C) "__init__" = some (some (.ref fI))
  initT : typeIn K (.ref fI) = some (.type "function")
  initF : HasFn K fI (name ++ "." ++ "__init__") (mth st 0)
structure FieldK (K : Frag) (C : Addr) (x : Str) : Prop where
  get : findIn K (.ref C) x = some none
  put : takerIn K C x = some none
structure MethK (K : Frag) (C : Addr) (x qual : Str) (st : Stmt) (a : Addr) : Prop where
  get : findIn K (.ref C) x = some (some (.ref a))
  ty : typeIn K (.ref a) = some (.type "function")
  fn : HasFn K a qual st
  keep : keepIn K (.ref a) = true

set_option genInjectivity false in
set_option genSizeOf false in
structure Ads where
  (f_fits f_whole_of f_is_nought f_is_true f_put_upon f_floor_of f_found_at f_cut_to f_while_begin f_while_end f_gosub f_return_place f_chosen f_put_row_of f_put_if f_put_all f_gather f_join_rows f_flatten f_place_of f_end_of_while f_do_flow f_do_jump f_do_loop f_wend_place : Addr)
  (c_Control c_Flat c_FlowRun : Addr)
  (i_Control i_Flat i_FlowRun : Addr)
  (m_worth m_whole m_value_of_name m_store m_go : Addr)
  (t_jumps : Addr)

structure Lib (c : Ctx) (A : Ads) : Prop where
  low : 3 < c.H0.objs.size
  b_len : nsIn c.K mainGlobals "len" = some none
  b_range : nsIn c.K mainGlobals "range" = some none
  b_enumerate : nsIn c.K mainGlobals "enumerate" = some none
  b_isinstance : nsIn c.K mainGlobals "isinstance" = some none
  b_str : nsIn c.K mainGlobals "str" = some none
  b_tuple : nsIn c.K mainGlobals "tuple" = some none
  b_int : nsIn c.K mainGlobals "int" = some none
  b_min : nsIn c.K mainGlobals "min" = some none
  fits : GFn c.K "fits" (nth P1 7) A.f_fits
  whole_of : GFn c.K "whole_of" (nth P1 8) A.f_whole_of
  is_nought : GFn c.K "is_nought" (nth P1 10) A.f_is_nought
  is_true : GFn c.K "is_true" (nth P1 11) A.f_is_true
  put_upon : GFn c.K "put_upon" (nth P1 40) A.f_put_upon
  floor_of : GFn c.K "floor_of" (nth P1 41) A.f_floor_of
  found_at : GFn c.K "found_at" (nth P1 42) A.f_found_at
  cut_to : GFn c.K "cut_to" (nth P1 43) A.f_cut_to
  while_begin : GFn c.K "while_begin" (nth P1 48) A.f_while_begin
  while_end : GFn c.K "while_end" (nth P1 49) A.f_while_end
  gosub : GFn c.K "gosub" (nth P1 51) A.f_gosub
  return_place : GFn c.K "return_place" (nth P1 52) A.f_return_place
  chosen : GFn c.K "chosen" (nth P1 53) A.f_chosen
  put_row_of : GFn c.K "put_row_of" (nth P1 56) A.f_put_row_of
  put_if : GFn c.K "put_if" (nth P1 57) A.f_put_if
  put_all : GFn c.K "put_all" (nth P1 58) A.f_put_all
  gather : GFn c.K "gather" (nth P1 59) A.f_gather
  join_rows : GFn c.K "join_rows" (nth P1 60) A.f_join_rows
  flatten : GFn c.K "flatten" (nth P1 62) A.f_flatten
  place_of : GFn c.K "place_of" (nth P1 63) A.f_place_of
  end_of_while : GFn c.K "end_of_while" (nth P1 65) A.f_end_of_while
  do_flow : GFn c.K "do_flow" (nth P1 69) A.f_do_flow
  do_jump : GFn c.K "do_jump" (nth P1 70) A.f_do_jump
  do_loop : GFn c.K "do_loop" (nth P1 71) A.f_do_loop
  wend_place : GFnD c.K "wend_place" (nth P1 50) A.f_wend_place
  most_number : ∃ t, nsIn c.K mainGlobals "MOST_NUMBER" = some (some (.int 255 t))
  jumps : nsIn c.K mainGlobals "JUMPS" = some (some (.ref A.t_jumps))
  jumpsV : VR c.H0 (fun _ => none, fun _ => False) (.tup [.str "IFNOT", .str "JUMP", .str "GOTO", .str "GOSUB", .str "ONGO", .str "RETURN"]) (.ref A.t_jumps)
  Control : GCls c.K "Control" (nth P1 39) A.c_Control A.i_Control
  Control_pile : FieldK c.K A.c_Control "pile"
  Control_most : FieldK c.K A.c_Control "most"
  Control_failed_at : FieldK c.K A.c_Control "failed_at"
  Flat : GCls c.K "Flat" (nth P1 55) A.c_Flat A.i_Flat
  Flat_rows : FieldK c.K A.c_Flat "rows"
  Flat_places : FieldK c.K A.c_Flat "places"
  Flat_data : FieldK c.K A.c_Flat "data"
  Flat_pairs : FieldK c.K A.c_Flat "pairs"
  Flat_loops : FieldK c.K A.c_Flat "loops"
  Flat_fns : FieldK c.K A.c_Flat "fns"
  FlowRun : GCls c.K "FlowRun" (nth P1 74) A.c_FlowRun A.i_FlowRun
  FlowRun_flat : FieldK c.K A.c_FlowRun "flat"
  FlowRun_values : FieldK c.K A.c_FlowRun "values"
  FlowRun_worth_of : FieldK c.K A.c_FlowRun "worth_of"
  FlowRun_bits : FieldK c.K A.c_FlowRun "bits"
  FlowRun_digits : FieldK c.K A.c_FlowRun "digits"
  FlowRun_control : FieldK c.K A.c_FlowRun "control"
  FlowRun_notes : FieldK c.K A.c_FlowRun "notes"
  FlowRun_worth : MethK c.K A.c_FlowRun "worth" "FlowRun.worth" (mth (nth P1 74) 1) A.m_worth
  FlowRun_whole : MethK c.K A.c_FlowRun "whole" "FlowRun.whole" (mth (nth P1 74) 2) A.m_whole
  FlowRun_value_of_name : MethK c.K A.c_FlowRun "value_of_name" "FlowRun.value_of_name" (mth (nth P1 74) 3) A.m_value_of_name
  FlowRun_store : MethK c.K A.c_FlowRun "store" "FlowRun.store" (mth (nth P1 74) 4) A.m_store
  FlowRun_go : MethK c.K A.c_FlowRun "go" "FlowRun.go" (mth (nth P1 74) 6) A.m_go

theorem le_line {n : Nat} (h : n ≤ 10000) : n ≤ sizeLine := by rw [sizeLine_eq]; omega

section
variable {c : Ctx} {d : Nat} {env : Env} {lk : Loc} {σ : Sto} {pos : Pos} {QX : Fl → Loc → Sto → Prop} {Q : V → Sto → Prop}

noncomputable abbrev VarK (env : Env) (x : Str) : Prop := env.kindOf x = some .local ∨ env.kindOf x = some .cell ∨ env.kindOf x = some .free
noncomputable abbrev StoK (env : Env) (x : Str) : Prop := env.kindOf x = some .local ∨ env.kindOf x = some .cell
theorem vk_fn {qual : Str} {sc : Scope} {L a : Addr} {cdv : Value} {x : Str} (h : (sc.names.lookup x == some .local || sc.names.lookup x == some .cell) = true) : VarK (envOfC qual sc L a cdv) x := by
  rcases Bool.or_eq_true_iff.mp h with h | h
  · exact .inl (beq_iff_eq.mp h)
  · exact .inr (.inl (beq_iff_eq.mp h))
theorem sk_fn {qual : Str} {sc : Scope} {L a : Addr} {cdv : Value} {x : Str} (h : (sc.names.lookup x == some .local || sc.names.lookup x == some .cell) = true) : StoK (envOfC qual sc L a cdv) x := by
  rcases Bool.or_eq_true_iff.mp h with h | h
  · exact .inl (beq_iff_eq.mp h)
  · exact .inr (beq_iff_eq.mp h)
theorem gk_fn {qual : Str} {sc : Scope} {L a : Addr} {cdv : Value} {x : Str} (h : sc.names.lookup x = some .globalImplicit) : (envOfC qual sc L a cdv).kindOf x = some .globalImplicit := h
theorem vk_comp {scope : Scope} {cl : List (Str × Addr)} {C : Addr} {env : Env} {x : Str} (h : (scope.names.lookup x == some .local || scope.names.lookup x == some .free) = true) : VarK (compEnvC scope cl C env) x := by
  rcases Bool.or_eq_true_iff.mp h with h | h
  · exact .inl (lookup_relabel_local (beq_iff_eq.mp h))
  · exact .inr (relabel_isfree (beq_iff_eq.mp h))
theorem sk_comp {scope : Scope} {cl : List (Str × Addr)} {C : Addr} {env : Env} {x : Str} (h : scope.names.lookup x = some .local) : StoK (compEnvC scope cl C env) x := .inl (lookup_relabel_local h)
theorem gk_comp {scope : Scope} {cl : List (Str × Addr)} {C : Addr} {env : Env} {x : Str} (h : scope.names.lookup x = some .globalImplicit) : (compEnvC scope cl C env).kindOf x = some .globalImplicit := by
  show (relabel scope env).names.lookup x = _
  unfold relabel
  rw [relabel_lookup, h]
  rfl

theorem okv {x : Str} {y : V} (hl : lk.lookup x = some y) (hk : VarK env x) (hd : ((x == ("__debug__" : Str)) || (x == ("__classdict__" : Str))) = false) (h : Q y σ) : Ok c d env (.Name x pos) lk σ Q := by
  obtain ⟨h1, h2⟩ := Bool.or_eq_false_iff.mp hd
  exact ok_var hl h hk h1 h2

/-- an object's own attribute -/
noncomputable def InstF (c : Ctx) (σ : Sto) (k : Nat) (attr : Str) (z : V) : Prop := ∃ C n f, σ k = some (.inst C n f) ∧ ClsF c.K C ∧ findIn c.K (.ref C) attr = some none ∧ f attr = some z ∧ HandOk z

theorem okv_field {x attr : Str} {p : Pos} {k : Nat} {z : V} (hl : lk.lookup x = some (.ref k)) (hk : VarK env x) (hd : ((x == ("__debug__" : Str)) || (x == ("__classdict__" : Str))) = false) (hF : InstF c σ k attr z)
    (hb : attributeBase (.Name x p) attr env (eval (.Name x p) env) = eval (.Name x p) env) (h : Q z σ) : Ok c d env (.Attribute (.Name x p) attr pos) lk σ Q := by
  obtain ⟨C, n, f, h1, h2, h3, h4, h5⟩ := hF
  exact ok_field (okv hl hk hd ⟨k, C, n, f, z, rfl, h1, h2, h3, h4, h5, h⟩) hb
theorem ok_fieldF {o : Expr} {attr : Str} (h : Ok c d env o lk σ (fun y σ' => ∃ k z, y = .ref k ∧ InstF c σ' k attr z ∧ Q z σ')) (hb : attributeBase o attr env (eval o env) = eval o env) : Ok c d env (.Attribute o attr pos) lk σ Q :=
  ok_field (h.mono fun y σ' hh => by
    obtain ⟨k, z, rfl, ⟨C, n, f, h1, h2, h3, h4, h5⟩, hq⟩ := hh
    exact ⟨k, C, n, f, z, rfl, h1, h2, h3, h4, h5, hq⟩) hb

theorem CodeOk.mono {f : Value} {args : List V} {d' : Nat} {Q' : V → Sto → Prop} (h : CodeOk c d f args σ Q) (hd : d ≤ d') (hQ : ∀ y σ', Q y σ' → Q' y σ') : CodeOk c d' f args σ Q' :=
  fun A s μ vs R a r v q => h A s μ vs R (a.mono hd) r v fun v s' y σ' μ' hq => q v s' y σ' μ' (hQ _ _ hq)
theorem CodeOk.f {f : Value} {args : List V} {d' : Nat} (h : CodeOk c d f args σ Q) (hd : d ≤ d') : CallF c d' env lk σ f args Q := (h.call.mono hd fun _ _ h => h).toF

/-- f(..), f a def or a class of the module -/
theorem okg_call {id : Str} {p : Pos} {args : List Expr} {a : Addr} (hn : nsIn c.K mainGlobals id = some (some (.ref a))) (hkp : keepIn c.K (.ref a) = true) (hk : env.kindOf id = some .globalImplicit) (hd : (id == ("__debug__" : Str)) = false)
    (hplain : ∀ p, (backTo p (starEach args env)).any (·.1) = false) (h : OkL c d env args lk σ (fun ys σ'' => CallF c d env lk σ'' (.ref a) ys Q)) : Ok c d env (.Call (.Name id p) args [] pos) lk σ Q :=
  ok_call (ok_globalR hn ⟨_, rfl, hkp, h⟩ hk hd) hplain
/-- a builtin, called -/
theorem okb_call {id : Str} {p : Pos} {args : List Expr} {g : Value} (hn : nsIn c.K mainGlobals id = some none) (hv : bootBuiltins id = some g) (hkp : keepB c.K g = true) (hx : id ≠ "__name__") (hk : env.kindOf id = some .globalImplicit) (hd : (id == ("__debug__" : Str)) = false)
    (hplain : ∀ p, (backTo p (starEach args env)).any (·.1) = false) (h : OkL c d env args lk σ (fun ys σ'' => CallF c d env lk σ'' g ys Q)) : Ok c d env (.Call (.Name id p) args [] pos) lk σ Q :=
  ok_call (ok_builtin hn hv hx ⟨_, rfl, hkp, h⟩ hk hd) hplain
theorem okgv {id : Str} {v : Value} {y : V} (hn : nsIn c.K mainGlobals id = some (some v)) (hv : VR c.H0 (fun _ => none, fun _ => False) y v) (hk : env.kindOf id = some .globalImplicit) (hd : (id == ("__debug__" : Str)) = false) (h : Q y σ) : Ok c d env (.Name id pos) lk σ Q := ok_global hn hv h hk hd
theorem okbv {id : Str} {g : Value} (hn : nsIn c.K mainGlobals id = some none) (hv : bootBuiltins id = some g) (hx : id ≠ "__name__") (hk : env.kindOf id = some .globalImplicit) (hd : (id == ("__debug__" : Str)) = false) (h : Q (.raw g) σ) : Ok c d env (.Name id pos) lk σ Q := ok_builtin hn hv hx h hk hd
end

-- D2

theorem lookup_put_hit {x : Str} {y : V} {lk : Loc} : (put x y lk).lookup x = some y := by rw [put_lookup, if_pos rfl]
theorem lookup_put_skip {x z : Str} {y w : V} {lk : Loc} (h : (z == x) = false) (hr : lk.lookup z = some w) : (put x y lk).lookup z = some w := by
  rw [put_lookup, if_neg (beq_eq_false_iff_ne.mp h)]; exact hr
theorem none_nil {x : Str} : List.lookup x ([] : Loc) = none := rfl
theorem none_cons {x z : Str} {w : V} {r : Loc} (h : (x == z) = false) (hr : r.lookup x = none) : List.lookup x ((z, w) :: r) = none := by simp [List.lookup_cons, h, hr]
theorem none_put {x z : Str} {y : V} {lk : Loc} (h : (z == x) = false) (hr : lk.lookup z = none) : (put x y lk).lookup z = none := by
  rw [put_lookup, if_neg (beq_eq_false_iff_ne.mp h)]; exact hr
theorem sub_nil {b : Loc} : Sub [] b := fun x y h => nomatch h
theorem sub_cons {x : Str} {y : V} {a b : Loc} (h : b.lookup x = some y) (hs : Sub a b) : Sub ((x, y) :: a) b := fun z w hz =>
  (lk_or hz).elim (fun q => q.1 ▸ q.2 ▸ h) fun q => hs z w q.2
theorem sub_put {x : Str} {y : V} {lk : Loc} (h : lk.lookup x = none) : Sub lk (put x y lk) := by
  intro z w hz
  rw [put_lookup]
  by_cases e : z = x
  · subst e; rw [h] at hz; cases hz
  · rw [if_neg e]; exact hz
theorem Sub.trans {a b c : Loc} (h : Sub a b) (h' : Sub b c) : Sub a c := fun x y e => h' x y (h x y e)

section
variable {c : Ctx} {d : Nat} {env : Env} {lk : Loc} {σ : Sto} {pos : Pos} {QX : Fl → Loc → Sto → Prop} {Q : V → Sto → Prop}

theorem loop_weak {target : Expr} {body : List Stmt} {S : Sto → Prop} {xs : List V} {lk' : Loc} (hw : Sub lk' lk) (h : LoopOk c d env target body S QX xs lk' σ) : LoopOk c d env target body S QX xs lk σ := by
  cases xs with
  | nil => obtain ⟨l, h1, h2⟩ := h; exact ⟨l, h1.trans hw, h2⟩
  | cons x xs => exact fun A s μ v Qr Er ok r f hv q => h A s μ v Qr Er ok r (f.weak hw) hv q
theorem okb_sub {sts : List Stmt} {lk' : Loc} (hw : Sub lk' lk) (h : OkB c d env sts lk' σ QX) : OkB c d env sts lk σ QX := okb_weak hw h

/-- a loop whose target is a name -/
theorem loop_name {x : Str} {p : Pos} {body : List Stmt} {S : Sto → Prop} {y : V} {xs : List V} (hk : StoK env x) (h : OkB c d env body (put x y lk) σ (LoopFl c d env (.Name x p) body S QX xs)) : LoopOk c d env (.Name x p) body S QX (y :: xs) lk σ :=
  loop_cons (oka_name h hk)
theorem loop_pair {x z : Str} {p p' pp : Pos} {k : Nat} {body : List Stmt} {S : Sto → Prop} {y w : V} {xs : List V} (hk : StoK env x) (hk' : StoK env z) (h : OkB c d env body (put z w (put x y lk)) σ (LoopFl c d env (.Tuple [.Name x p, .Name z p'] k pp) body S QX xs)) :
    LoopOk c d env (.Tuple [.Name x p, .Name z p'] k pp) body S QX (.tup [y, w] :: xs) lk σ :=
  loop_cons (oka_tuple (okas_cons (oka_name (okas_cons (oka_name (okas_nil h) hk') rfl) hk) rfl) rfl rfl)

/-- a comprehension's turns -/
theorem comp_nil {cenv : Env} {target elt : Expr} {ifs : List Expr} {S : Sto → Prop} {QC : List V → Sto → Prop} {acc : List V} (h : QC acc σ) : CompOk c d cenv target ifs elt lk S QC [] acc σ := h
theorem comp_name {cenv : Env} {x : Str} {p : Pos} {elt : Expr} {S : Sto → Prop} {QC : List V → Sto → Prop} {y : V} {xs acc : List V} (hk : StoK cenv x) (hn : lk.lookup x = none) (hl : acc.length ≤ sizeLine)
    (h : Ok c d cenv elt (put x y lk) σ (fun z σ' => S σ' ∧ CompOk c d cenv (.Name x p) [] elt lk S QC xs (acc ++ [z]) σ')) : CompOk c d cenv (.Name x p) [] elt lk S QC (y :: xs) acc σ :=
  ⟨hl, oka_name ⟨sub_put hn, fun _ => h, fun e => nomatch e⟩ hk⟩
theorem comp_nameif {cenv : Env} {x : Str} {p : Pos} {elt t : Expr} {S : Sto → Prop} {QC : List V → Sto → Prop} {y : V} {xs acc : List V} (hk : StoK cenv x) (hn : lk.lookup x = none) (hl : acc.length ≤ sizeLine)
    (h : OkT c d cenv t (put x y lk) σ (fun b σ' => (b = true → Ok c d cenv elt (put x y lk) σ' (fun z σ'' => S σ'' ∧ CompOk c d cenv (.Name x p) [t] elt lk S QC xs (acc ++ [z]) σ'')) ∧ (b = false → S σ' ∧ CompOk c d cenv (.Name x p) [t] elt lk S QC xs acc σ'))) :
    CompOk c d cenv (.Name x p) [t] elt lk S QC (y :: xs) acc σ :=
  ⟨hl, oka_name ⟨sub_put hn, h⟩ hk⟩
theorem comp_pair {cenv : Env} {x z : Str} {p p' pp : Pos} {k : Nat} {elt : Expr} {S : Sto → Prop} {QC : List V → Sto → Prop} {y w : V} {xs acc : List V} (hk : StoK cenv x) (hk' : StoK cenv z) (hn : lk.lookup x = none) (hn' : lk.lookup z = none) (hxz : (z == x) = false) (hl : acc.length ≤ sizeLine)
    (h : Ok c d cenv elt (put z w (put x y lk)) σ (fun u σ' => S σ' ∧ CompOk c d cenv (.Tuple [.Name x p, .Name z p'] k pp) [] elt lk S QC xs (acc ++ [u]) σ')) : CompOk c d cenv (.Tuple [.Name x p, .Name z p'] k pp) [] elt lk S QC (.tup [y, w] :: xs) acc σ :=
  ⟨hl, oka_tuple (okas_cons (oka_name (okas_cons (oka_name (okas_nil ⟨(sub_put hn).trans (sub_put (none_put hxz hn')), fun _ => h, fun e => nomatch e⟩) hk') rfl) hk) rfl) rfl rfl⟩

theorem run_not {b : Bool} (h : Q (.bool (!b)) σ) : Run1 c d env lk σ (unaryOp .Not) (.bool b) Q := by
  intro A s μ va Qr Er ok r f ha q
  cases ha
  exact not_of (wpAny_truthy_bool (q.now h r f (.bool _)))
end

-- D3
section
variable {c : Ctx} {d : Nat} {env : Env} {lk : Loc} {σ : Sto} {pos : Pos} {QX : Fl → Loc → Sto → Prop} {Q : V → Sto → Prop}
noncomputable def scOk (sc : Scope) (ps : List Str) : Bool := (ps.all fun x => (sc.names.lookup x == some .local || sc.names.lookup x == some .cell)) && sc.names.all (fun p => p.2 != .free) && sc.kind == .function && !sc.isCoroutine && !sc.isGenerator && decide ps.Nodup

theorem code_fn1 {a : Addr} {qual : Str} {st : Stmt} (x0 : Str) {y0 : V} (hf : HasFn c.K a qual st)
    (hbind : ∀ doc pm an cdv ct v0, bindArgs (fnOf (stName st) qual (stArgs st) (stBody st) (stScope st) .none .none doc pm an cdv ct) ⟨[v0], []⟩ = pure [(x0, v0)])
    (hsc : scOk (stScope st) [x0] = true)
    (h : ∀ L cdv, OkB c d (envOfC qual (stScope st) L a cdv) (stBody st) [(x0, y0)] σ (RetOk Q)) : CodeOk c (d + 1) (.ref a) [y0] σ Q := by
  obtain ⟨h1, h2⟩ := Bool.and_eq_true_iff.mp hsc
  refine code_fn [x0] hf rfl (fun doc pm an cdv ct vs hvs => ?_) h1 (of_decide_eq_true h2) h
  obtain ⟨v0, rfl⟩ := len_1 hvs
  exact hbind doc pm an cdv ct v0

theorem code_fn2 {a : Addr} {qual : Str} {st : Stmt} (x0 x1 : Str) {y0 y1 : V} (hf : HasFn c.K a qual st)
    (hbind : ∀ doc pm an cdv ct v0 v1, bindArgs (fnOf (stName st) qual (stArgs st) (stBody st) (stScope st) .none .none doc pm an cdv ct) ⟨[v0, v1], []⟩ = pure [(x0, v0), (x1, v1)])
    (hsc : scOk (stScope st) [x0, x1] = true)
    (h : ∀ L cdv, OkB c d (envOfC qual (stScope st) L a cdv) (stBody st) [(x0, y0), (x1, y1)] σ (RetOk Q)) : CodeOk c (d + 1) (.ref a) [y0, y1] σ Q := by
  obtain ⟨h1, h2⟩ := Bool.and_eq_true_iff.mp hsc
  refine code_fn [x0, x1] hf rfl (fun doc pm an cdv ct vs hvs => ?_) h1 (of_decide_eq_true h2) h
  obtain ⟨v0, v1, rfl⟩ := len_2 hvs
  exact hbind doc pm an cdv ct v0 v1

theorem code_fn3 {a : Addr} {qual : Str} {st : Stmt} (x0 x1 x2 : Str) {y0 y1 y2 : V} (hf : HasFn c.K a qual st)
    (hbind : ∀ doc pm an cdv ct v0 v1 v2, bindArgs (fnOf (stName st) qual (stArgs st) (stBody st) (stScope st) .none .none doc pm an cdv ct) ⟨[v0, v1, v2], []⟩ = pure [(x0, v0), (x1, v1), (x2, v2)])
    (hsc : scOk (stScope st) [x0, x1, x2] = true)
    (h : ∀ L cdv, OkB c d (envOfC qual (stScope st) L a cdv) (stBody st) [(x0, y0), (x1, y1), (x2, y2)] σ (RetOk Q)) : CodeOk c (d + 1) (.ref a) [y0, y1, y2] σ Q := by
  obtain ⟨h1, h2⟩ := Bool.and_eq_true_iff.mp hsc
  refine code_fn [x0, x1, x2] hf rfl (fun doc pm an cdv ct vs hvs => ?_) h1 (of_decide_eq_true h2) h
  obtain ⟨v0, v1, v2, rfl⟩ := len_3 hvs
  exact hbind doc pm an cdv ct v0 v1 v2

theorem code_fn4 {a : Addr} {qual : Str} {st : Stmt} (x0 x1 x2 x3 : Str) {y0 y1 y2 y3 : V} (hf : HasFn c.K a qual st)
    (hbind : ∀ doc pm an cdv ct v0 v1 v2 v3, bindArgs (fnOf (stName st) qual (stArgs st) (stBody st) (stScope st) .none .none doc pm an cdv ct) ⟨[v0, v1, v2, v3], []⟩ = pure [(x0, v0), (x1, v1), (x2, v2), (x3, v3)])
    (hsc : scOk (stScope st) [x0, x1, x2, x3] = true)
    (h : ∀ L cdv, OkB c d (envOfC qual (stScope st) L a cdv) (stBody st) [(x0, y0), (x1, y1), (x2, y2), (x3, y3)] σ (RetOk Q)) : CodeOk c (d + 1) (.ref a) [y0, y1, y2, y3] σ Q := by
  obtain ⟨h1, h2⟩ := Bool.and_eq_true_iff.mp hsc
  refine code_fn [x0, x1, x2, x3] hf rfl (fun doc pm an cdv ct vs hvs => ?_) h1 (of_decide_eq_true h2) h
  obtain ⟨v0, v1, v2, v3, rfl⟩ := len_4 hvs
  exact hbind doc pm an cdv ct v0 v1 v2 v3

theorem code_fn5 {a : Addr} {qual : Str} {st : Stmt} (x0 x1 x2 x3 x4 : Str) {y0 y1 y2 y3 y4 : V} (hf : HasFn c.K a qual st)
    (hbind : ∀ doc pm an cdv ct v0 v1 v2 v3 v4, bindArgs (fnOf (stName st) qual (stArgs st) (stBody st) (stScope st) .none .none doc pm an cdv ct) ⟨[v0, v1, v2, v3, v4], []⟩ = pure [(x0, v0), (x1, v1), (x2, v2), (x3, v3), (x4, v4)])
    (hsc : scOk (stScope st) [x0, x1, x2, x3, x4] = true)
    (h : ∀ L cdv, OkB c d (envOfC qual (stScope st) L a cdv) (stBody st) [(x0, y0), (x1, y1), (x2, y2), (x3, y3), (x4, y4)] σ (RetOk Q)) : CodeOk c (d + 1) (.ref a) [y0, y1, y2, y3, y4] σ Q := by
  obtain ⟨h1, h2⟩ := Bool.and_eq_true_iff.mp hsc
  refine code_fn [x0, x1, x2, x3, x4] hf rfl (fun doc pm an cdv ct vs hvs => ?_) h1 (of_decide_eq_true h2) h
  obtain ⟨v0, v1, v2, v3, v4, rfl⟩ := len_5 hvs
  exact hbind doc pm an cdv ct v0 v1 v2 v3 v4

theorem code_fn6 {a : Addr} {qual : Str} {st : Stmt} (x0 x1 x2 x3 x4 x5 : Str) {y0 y1 y2 y3 y4 y5 : V} (hf : HasFn c.K a qual st)
    (hbind : ∀ doc pm an cdv ct v0 v1 v2 v3 v4 v5, bindArgs (fnOf (stName st) qual (stArgs st) (stBody st) (stScope st) .none .none doc pm an cdv ct) ⟨[v0, v1, v2, v3, v4, v5], []⟩ = pure [(x0, v0), (x1, v1), (x2, v2), (x3, v3), (x4, v4), (x5, v5)])
    (hsc : scOk (stScope st) [x0, x1, x2, x3, x4, x5] = true)
    (h : ∀ L cdv, OkB c d (envOfC qual (stScope st) L a cdv) (stBody st) [(x0, y0), (x1, y1), (x2, y2), (x3, y3), (x4, y4), (x5, y5)] σ (RetOk Q)) : CodeOk c (d + 1) (.ref a) [y0, y1, y2, y3, y4, y5] σ Q := by
  obtain ⟨h1, h2⟩ := Bool.and_eq_true_iff.mp hsc
  refine code_fn [x0, x1, x2, x3, x4, x5] hf rfl (fun doc pm an cdv ct vs hvs => ?_) h1 (of_decide_eq_true h2) h
  obtain ⟨v0, v1, v2, v3, v4, v5, rfl⟩ := len_6 hvs
  exact hbind doc pm an cdv ct v0 v1 v2 v3 v4 v5

theorem run_eqs_t {a b : Str} (e : (a == b) = true) (h : Q (.bool true) σ) : Run2 c d env lk σ (compareOp .Eq) (.str a) (.str b) Q := run_eqs (by rw [e]; exact h)
theorem run_eqs_f {a b : Str} (e : (a == b) = false) (h : Q (.bool false) σ) : Run2 c d env lk σ (compareOp .Eq) (.str a) (.str b) Q := run_eqs (by rw [e]; exact h)
theorem t_false {QT QF : Prop} (h : QF) : ∃ t, V.bool false = .bool t ∧ ((t = true → QT) ∧ (t = false → QF)) := ⟨false, rfl, (fun e => nomatch e), fun _ => h⟩
theorem t_true {QT QF : Prop} (h : QT) : ∃ t, V.bool true = .bool t ∧ ((t = true → QT) ∧ (t = false → QF)) := ⟨true, rfl, fun _ => h, (fun e => nomatch e)⟩
theorem t_dec {p : Prop} [Decidable p] {QT QF : Prop} (h : p → QT) (h' : ¬ p → QF) : ∃ t, V.bool (decide p) = .bool t ∧ ((t = true → QT) ∧ (t = false → QF)) := ⟨_, rfl, fun e => h (of_decide_eq_true e), fun e => h' (of_decide_eq_false e)⟩
theorem t_bool {b : Bool} {QT QF : Prop} (h : b = true → QT) (h' : b = false → QF) : ∃ t, V.bool b = .bool t ∧ ((t = true → QT) ∧ (t = false → QF)) := ⟨_, rfl, h, h'⟩
theorem b_false {QT QF : Prop} (h : QF) : (false = true → QT) ∧ (false = false → QF) := ⟨(fun e => nomatch e), fun _ => h⟩
theorem b_true {QT QF : Prop} (h : QT) : (true = true → QT) ∧ (true = false → QF) := ⟨fun _ => h, (fun e => nomatch e)⟩
theorem tn_true {QT QF : Prop} (h : QF) : ∃ t, V.bool true = .bool t ∧ (((!t) = true → QT) ∧ ((!t) = false → QF)) := ⟨true, rfl, (fun e => nomatch e), fun _ => h⟩
theorem tn_false {QT QF : Prop} (h : QT) : ∃ t, V.bool false = .bool t ∧ (((!t) = true → QT) ∧ ((!t) = false → QF)) := ⟨false, rfl, fun _ => h, (fun e => nomatch e)⟩
theorem tn_dec {p : Prop} [Decidable p] {QT QF : Prop} (h : ¬ p → QT) (h' : p → QF) : ∃ t, V.bool (decide p) = .bool t ∧ (((!t) = true → QT) ∧ ((!t) = false → QF)) := ⟨_, rfl, fun e => h (by simpa using e), fun e => h' (by simpa using e)⟩
theorem t_ndec {p : Prop} [Decidable p] {QT QF : Prop} (h : ¬ p → QT) (h' : p → QF) : ∃ t, V.bool (!decide p) = .bool t ∧ ((t = true → QT) ∧ (t = false → QF)) := ⟨_, rfl, fun e => h (by simpa using e), fun e => h' (by simpa using e)⟩
theorem run_notInI_f {j : Nat} {g : Int → Option V} {k : Int} {y : V} (hlow : 3 < c.H0.objs.size) (hj : σ j = some (.dictI g)) (hy : g k = some y) (h : Q (.bool false) σ) : Run2 c d env lk σ (compareOp .NotIn) (.int k) (.ref j) Q := run_notInI hlow hj (by rw [hy]; exact h)
theorem run_notInI_t {j : Nat} {g : Int → Option V} {k : Int} (hlow : 3 < c.H0.objs.size) (hj : σ j = some (.dictI g)) (hy : g k = none) (h : Q (.bool true) σ) : Run2 c d env lk σ (compareOp .NotIn) (.int k) (.ref j) Q := run_notInI hlow hj (by rw [hy]; exact h)
theorem plainSub {i : Expr} (h : ∀ a b, ∃ ops, subscripted i false a b = operate ops (getItem a b)) : PlainSub i := h
theorem t_any {b : Bool} {P : Bool → Prop} (h : P b) : ∃ t, V.bool b = .bool t ∧ P t := ⟨_, rfl, h⟩
theorem envLooks {p : Prop} (h : p) : p := h
end

-- G0
section
variable {c : Ctx} {d : Nat} {env : Env} {lk : Loc} {σ : Sto} {Q : V → Sto → Prop} {e l r : Expr} {es : List Expr} {pos p : Pos} {y a b : V} {ys : List V}
-- leaves: their value, with no continuation in sight
structure Val (e : Expr) (c : Ctx) (d : Nat) (env : Env) (lk : Loc) (σ : Sto) (y : V) : Prop where
  ok : ∀ Q : V → Sto → Prop, Q y σ → Ok c d env e lk σ Q
structure ValL (es : List Expr) (c : Ctx) (d : Nat) (env : Env) (lk : Loc) (σ : Sto) (ys : List V) : Prop where
  ok : ∀ Q : List V → Sto → Prop, Q ys σ → OkL c d env es lk σ Q
noncomputable def leaf (e : Expr) : Bool := Nat.beq e.ctorIdx 23 || Nat.beq e.ctorIdx 19 || Nat.beq e.ctorIdx 20
noncomputable def leaves : List Expr → Bool
  | [] => true
  | e :: r => leaf e && leaves r
theorem val_int {i : Int} {k} : Val (.Constant (.int i) k pos) c d env lk σ (.int i) := ⟨fun _ => ok_int⟩
theorem val_str {x : Str} {k} : Val (.Constant (.str x) k pos) c d env lk σ (.str x) := ⟨fun _ => ok_str⟩
theorem val_none {k} : Val (.Constant .none k pos) c d env lk σ .none := ⟨fun _ => ok_none⟩
theorem val_bool {b : Bool} {k} : Val (.Constant (.bool b) k pos) c d env lk σ (.bool b) := ⟨fun _ => ok_bool⟩
theorem val_name {x : Str} (hl : lk.lookup x = some y) (hk : VarK env x) (hd : ((x == ("__debug__" : Str)) || (x == ("__classdict__" : Str))) = false) : Val (.Name x pos) c d env lk σ y := ⟨fun _ => okv hl hk hd⟩
theorem val_field {x attr : Str} {k : Nat} (hl : lk.lookup x = some (.ref k)) (hk : VarK env x) (hd : ((x == ("__debug__" : Str)) || (x == ("__classdict__" : Str))) = false) (hF : InstF c σ k attr y)
    (hb : attributeBase (.Name x p) attr env (eval (.Name x p) env) = eval (.Name x p) env) : Val (.Attribute (.Name x p) attr pos) c d env lk σ y := ⟨fun _ => okv_field hl hk hd hF hb⟩
theorem valL_nil : ValL [] c d env lk σ [] := ⟨fun _ => okl_nil⟩
theorem valL_cons (v : Val e c d env lk σ y) (he : ∀ env, starEach (e :: es) env = (false, eval e env) :: starEach es env) (vs : ValL es c d env lk σ ys) : ValL (e :: es) c d env lk σ (y :: ys) := ⟨fun _ h => okl_cons (v.ok _ (vs.ok _ h)) he⟩
theorem okl_vals {QL : List V → Sto → Prop} (hl : leaves es = true) (v : ValL es c d env lk σ ys) (h : QL ys σ) : OkL c d env es lk σ QL := v.ok QL h
theorem vals_binop {op : Operator} (hl : (leaf l && leaf r) = true) (v : Val l c d env lk σ a) (w : Val r c d env lk σ b) (h : Run2 c d env lk σ (binaryOp op) a b Q) : Ok c d env (.BinOp l op r pos) lk σ Q := ok_binop (v.ok _ (w.ok _ h))
theorem vals_item (hl : (leaf l && leaf r) = true) (v : Val l c d env lk σ a) (w : Val r c d env lk σ b) (h : Run2 c d env lk σ (subscriptTail l r) a b Q) : Ok c d env (.Subscript l r pos) lk σ Q := ok_item (v.ok _ (w.ok _ h))
theorem vals_cmp {op : CmpOp} (hl : (leaf l && leaf r) = true) (v : Val l c d env lk σ a) (w : Val r c d env lk σ b) (hm : behindInMarks op r = false) (h : Run2 c d env lk σ (compareOp op) a b Q) : Ok c d env (.Compare l [op] [r] pos) lk σ Q := ok_compare (v.ok _ (w.ok _ h)) hm
theorem vals_cmpT {op : CmpOp} {QT : Bool → Sto → Prop} (hl : (leaf l && leaf r) = true) (v : Val l c d env lk σ a) (w : Val r c d env lk σ b) (hm : behindInMarks op r = false) (h : Run2 c d env lk σ (compareOp op) a b (fun y σ₃ => ∃ t, y = .bool t ∧ QT t σ₃)) : OkT c d env (.Compare l [op] [r] pos) lk σ QT := okt_compare (v.ok _ (w.ok _ h)) hm
end

-- D4
section
variable {c : Ctx} {A : Ads} {d : Nat} {env : Env} {lk : Loc} {σ : Sto} {pos : Pos} {QX : Fl → Loc → Sto → Prop} {Q : V → Sto → Prop}

theorem code_fnD2 {a : Addr} {name : Str} {st : Stmt} (x0 x1 : Str) {y0 y1 : V} (hf : GFnD c.K name st a)
    (hb : ∀ T doc pm an cdv ct v0 v1, ∃ k, bindArgs (fnOf (stName st) name (stArgs st) (stBody st) (stScope st) (.ref T) .none doc pm an cdv ct) ⟨[v0, v1], []⟩ = seqItems? (.ref T) >>= k ∧ ∀ u, k (some #[u]) = pure [(x0, v0), (x1, v1)])
    (hsc : scOk (stScope st) [x0, x1] = true) (hne : (x0 == x1) = false) (hloc : (stScope st).names.lookup x0 = some .local ∧ (stScope st).names.lookup x1 = some .local) (hcl : ∀ L, cellsFrom L (stScope st).names [] = [])
    (hnc : ((stScope st).names.all fun p => p.2 != .cell) = true)
    (h : ∀ L cdv, OkB c d (envOfC name (stScope st) L a cdv) (stBody st) [(x0, y0), (x1, y1)] σ (RetOk Q)) : CodeOk c (d + 1) (.ref a) [y0, y1] σ Q := by
  obtain ⟨hns, ⟨oc, od, osl, kV, doc, pm, an, cdv, ct, T, vs, n, ho, hcd, hT, hvs, rfl⟩, hkp⟩ := hf
  have a1 := Bool.and_eq_true_iff.mp (Bool.and_eq_true_iff.mp hsc).1
  have a2 := Bool.and_eq_true_iff.mp a1.1
  have a3 := Bool.and_eq_true_iff.mp a2.1
  have a4 := Bool.and_eq_true_iff.mp a3.1
  have hfree : ∀ p ∈ (stScope st).names, p.2 ≠ .free := fun p hp => bne_iff_ne.mp (List.all_eq_true.mp a4.2 p hp)
  have hcell : ∀ p ∈ (stScope st).names, p.2 ≠ .cell := fun p hp => bne_iff_ne.mp (List.all_eq_true.mp hnc p hp)
  intro A s μ vals R ok r hv q
  obtain ⟨v0, v1, rfl, e0, e1⟩ := hv.two
  obtain ⟨u, hu⟩ := len_1 (l := vs.toList) (Array.length_toList.trans hvs)
  obtain rfl : vs = #[u] := Array.toList_inj.mp hu
  obtain ⟨k, hk1, hk2⟩ := hb T doc pm an cdv ct v0 v1
  refine codeAny_call_def ok.room (r.K _ _ ho) rfl r.nolimit (codeRec_of r.K hcd) rfl (BindsTo.of_defaults rfl (r.K _ _ hT) rfl hk1 (hk2 u)) hcell (fun x hx => ?_) (fun h₀ hn kp => ?_) (Bool.not_eq_true' _ ▸ a2.2) (Bool.not_eq_true' _ ▸ a1.2) (beq_iff_eq.mp a3.2)
  · exact (List.mem_cons.mp hx).elim (fun e => e ▸ hloc.1) fun hx => List.mem_singleton.mp hx ▸ hloc.2
  · have ee : callEnv (fnOf (stName st) name (stArgs st) (stBody st) (stScope st) (.ref T) .none doc pm an cdv ct) s.heap.objs.size a = envOfC name (stScope st) s.heap.objs.size a cdv := by
      unfold callEnv envOfC newEnv
      rw [hcl]
    rw [ee]
    have noc : ∀ {x b}, (envOfC name (stScope st) s.heap.objs.size a cdv).cells.lookup x = some b → False := fun h => by
      rw [show (envOfC name (stScope st) s.heap.objs.size a cdv).cells = [] from hcl _] at h
      cases h
    let s₁ : Shared := { s with heap := h₀, toks := s.toks + 2 }
    have K : Kp s.heap s₁.heap μ μ := .all kp
    have hx : x0 ≠ x1 := fun e => absurd (beq_iff_eq.mpr e) (hne ▸ Bool.false_ne_true)
    have f₁ : FR c (envOfC name (stScope st) s.heap.objs.size a cdv) [(x0, y0), (x1, y1)] s₁.heap μ :=
      { kind := beq_iff_eq.mp a3.2
        globals := rfl
        builtins := rfl
        above := r.size
        frzL := frz_size r
        ns := ⟨_, hn, fun x y _ hy => (lk_or hy).elim (fun z => ⟨v0, z.1 ▸ ((lk_in hx).trans lk_hit), z.2 ▸ e0.at K⟩) fun z => (lk_or z.2).elim (fun w => ⟨v1, w.1 ▸ lk_hit, w.2 ▸ e1.at K⟩) fun w => nomatch w.2⟩
        cell := fun x b hb => (noc hb).elim
        cells := fun x hx => hx.elim (fun hx => absurd rfl (hcell _ (mem_of_lookup' hx))) fun hx => absurd rfl (hfree _ (mem_of_lookup' hx))
        apart := fun x y b b' hb => (noc hb).elim }
    exact h s.heap.objs.size cdv (A.deeper _) s₁ μ _ _ ok.deeper (r.keep kp) f₁ (frame_post (R := fun v s' => R (.ok (.ret v)) s') (fun _ _ h => h) (fun _ h => h) (fun b o => o.elim (fun (e : b = s.heap.objs.size) => e ▸ none_size _) fun z => z.elim fun x hx => (noc hx).elim) (Step.ofKeep kp rfl rfl) q)

noncomputable def NoneAll (lk : Loc) : List Str → Prop
  | [] => True
  | x :: r => lk.lookup x = none ∧ NoneAll lk r
theorem NoneAll.at {x : Str} {ls : List Str} (h : NoneAll lk ls) (hm : x ∈ ls) : lk.lookup x = none := by
  induction ls with
  | nil => exact absurd hm List.not_mem_nil
  | cons y r ih => exact (List.mem_cons.mp hm).elim (fun e => e ▸ h.1) (ih h.2)
noncomputable def compChk (names outer : List (Str × NameKind)) (ls : List Str) : Bool :=
  names.all fun p => p.2 != .cell && names.lookup p.1 == some p.2 && (p.2 != .free || outer.lookup p.1 == some .cell || outer.lookup p.1 == some .free) && (p.2 != .local || ls.contains p.1)
theorem cscope_fn {scope sc : Scope} {qual : Str} {L a : Addr} {cdv : Value} (ls : List Str) (hk : scope.kind = .function) (hc : compChk scope.names sc.names ls = true) (hn : NoneAll lk ls) : CScope scope (envOfC qual sc L a cdv) lk := by
  have h : ∀ p ∈ scope.names, (((p.2 ≠ .cell ∧ scope.names.lookup p.1 = some p.2) ∧ ((p.2 ≠ .free ∨ sc.names.lookup p.1 = some .cell) ∨ sc.names.lookup p.1 = some .free)) ∧ (p.2 ≠ .local ∨ p.1 ∈ ls)) := fun p hp => by
    have := List.all_eq_true.mp hc p hp
    simpa only [Bool.and_eq_true, Bool.or_eq_true, bne_iff_ne, beq_iff_eq, List.contains_iff_mem] using this
  refine ⟨hk, fun p hp => (h p hp).1.1.1, fun p hp => (h p hp).1.1.2, fun p hp e => ?_, fun p hp e => ?_⟩
  · rcases (h p hp).1.2 with (q | q) | q
    · exact absurd e q
    · exact .inl q
    · exact .inr q
  · rcases (h p hp).2 with q | q
    · exact absurd e q
    · exact hn.at q
noncomputable def compChk2 (names outer : List (Str × NameKind)) (ls : List Str) : Bool :=
  names.all fun p => p.2 != .cell && names.lookup p.1 == some p.2 && (p.2 != .free || outer.lookup p.1 == some .free) && (p.2 != .local || ls.contains p.1)
theorem cscope_comp {scope sc : Scope} {cl : List (Str × Addr)} {C : Addr} {env : Env} (ls : List Str) (hk : scope.kind = .function) (hc : compChk2 scope.names sc.names ls = true) (hn : NoneAll lk ls) : CScope scope (compEnvC sc cl C env) lk := by
  have h : ∀ p ∈ scope.names, (((p.2 ≠ .cell ∧ scope.names.lookup p.1 = some p.2) ∧ (p.2 ≠ .free ∨ sc.names.lookup p.1 = some .free)) ∧ (p.2 ≠ .local ∨ p.1 ∈ ls)) := fun p hp => by
    have := List.all_eq_true.mp hc p hp
    simpa only [Bool.and_eq_true, Bool.or_eq_true, bne_iff_ne, beq_iff_eq, List.contains_iff_mem] using this
  refine ⟨hk, fun p hp => (h p hp).1.1.1, fun p hp => (h p hp).1.1.2, fun p hp e => ?_, fun p hp e => ?_⟩
  · rcases (h p hp).1.2 with q | q
    · exact absurd e q
    · exact relabel_isfree q
  · rcases (h p hp).2 with q | q
    · exact absurd e q
    · exact hn.at q
open Classical in
theorem run_eqv_t {a b : V} (ha : a.plain 8 = true) (hb : b.plain 8 = true) (e : a = b) (h : Q (.bool true) σ) : Run2 c d env lk σ (compareOp .Eq) a b Q := run_eqv ha hb (by rw [decide_eq_true e]; exact h)
open Classical in
theorem run_eqv_f {a b : V} (ha : a.plain 8 = true) (hb : b.plain 8 = true) (e : a ≠ b) (h : Q (.bool false) σ) : Run2 c d env lk σ (compareOp .Eq) a b Q := run_eqv ha hb (by rw [decide_eq_false e]; exact h)
open Classical in
theorem run_nev_t {a b : V} (ha : a.plain 8 = true) (hb : b.plain 8 = true) (e : a ≠ b) (h : Q (.bool true) σ) : Run2 c d env lk σ (compareOp .NotEq) a b Q := run_nev ha hb (by rw [decide_eq_false e]; exact h)
open Classical in
theorem run_nev_f {a b : V} (ha : a.plain 8 = true) (hb : b.plain 8 = true) (e : a = b) (h : Q (.bool false) σ) : Run2 c d env lk σ (compareOp .NotEq) a b Q := run_nev ha hb (by rw [decide_eq_true e]; exact h)
theorem ex_field {k : Nat} {attr : Str} {z : V} {R : V → Prop} (hF : InstF c σ k attr z) (h : R z) : ∃ k' z', V.ref k = .ref k' ∧ InstF c σ k' attr z' ∧ R z' := ⟨k, z, rfl, hF, h⟩
open Classical in
theorem run_in_t {x : V} {xs : List V} (hx : x.plain 8 = true) (hxs : plains 8 xs = true) (e : x ∈ xs) (h : Q (.bool true) σ) : Run2 c d env lk σ (compareOp .In) x (.tup xs) Q := run_in hx hxs (by rw [decide_eq_true e]; exact h)
open Classical in
theorem run_in_f {x : V} {xs : List V} (hx : x.plain 8 = true) (hxs : plains 8 xs = true) (e : x ∉ xs) (h : Q (.bool false) σ) : Run2 c d env lk σ (compareOp .In) x (.tup xs) Q := run_in hx hxs (by rw [decide_eq_false e]; exact h)
theorem okb_swap2 {t e : Expr} {rest : List Stmt} (x y : Str) (h : Ok c d env e lk σ (fun v σ' => ∃ a b, v = .tup [a, b] ∧ OkB c d env rest (put x a (put y b lk)) σ' QX))
    (hs : swapsWithSole [t] e pos.line env = pure false) (hw : swappedStores [t] e env = pure (some [x, y])) (hx : StoK env x) (hy : StoK env y) : OkB c d env (.Assign [t] e pos :: rest) lk σ QX :=
  okb_swap (names := [x, y]) (h.mono fun v σ' hh => by obtain ⟨a, b, rfl, hh⟩ := hh; exact ⟨[a, b], rfl, rfl, hh⟩) hs hw (fun z hz => by
    simp only [List.mem_cons, List.not_mem_nil, or_false] at hz
    rcases hz with rfl | rfl
    · exact hx
    · exact hy)
theorem okb_swap3 {t e : Expr} {rest : List Stmt} (x y z : Str) (h : Ok c d env e lk σ (fun v σ' => ∃ a b g, v = .tup [a, b, g] ∧ OkB c d env rest (put x a (put y b (put z g lk))) σ' QX))
    (hs : swapsWithSole [t] e pos.line env = pure false) (hw : swappedStores [t] e env = pure (some [x, y, z])) (hx : StoK env x) (hy : StoK env y) (hz : StoK env z) : OkB c d env (.Assign [t] e pos :: rest) lk σ QX :=
  okb_swap (names := [x, y, z]) (h.mono fun v σ' hh => by obtain ⟨a, b, g, rfl, hh⟩ := hh; exact ⟨[a, b, g], rfl, rfl, hh⟩) hs hw (fun u hu => by
    simp only [List.mem_cons, List.not_mem_nil, or_false] at hu
    rcases hu with rfl | rfl | rfl
    · exact hx
    · exact hy
    · exact hz)
theorem ex_two {a b : V} {R : V → V → Prop} (h : R a b) : ∃ a' b', V.tup [a, b] = .tup [a', b'] ∧ R a' b' := ⟨a, b, rfl, h⟩
theorem ex_three {a b g : V} {R : V → V → V → Prop} (h : R a b g) : ∃ a' b' g', V.tup [a, b, g] = .tup [a', b', g'] ∧ R a' b' g' := ⟨a, b, g, rfl, h⟩
theorem loop_ind {target : Expr} {body : List Stmt} {S : Sto → Prop} (J : List V → Loc → Sto → Prop)
    (hs : ∀ x r lk σ, J (x :: r) lk σ → (∀ lk' σ', J r lk' σ' → LoopOk c d env target body S QX r lk' σ') → LoopOk c d env target body S QX (x :: r) lk σ)
    (hn : ∀ lk σ, J [] lk σ → LoopOk c d env target body S QX [] lk σ) : ∀ {xs : List V} {lk : Loc} {σ : Sto}, J xs lk σ → LoopOk c d env target body S QX xs lk σ
  | [], _, _, h => hn _ _ h
  | x :: r, _, _, h => hs x r _ _ h fun lk' σ' h' => loop_ind J hs hn h'
theorem comp_ind {cenv : Env} {target elt : Expr} {ifs : List Expr} {S : Sto → Prop} {QC : List V → Sto → Prop} (J : List V → List V → Sto → Prop)
    (hs : ∀ x r acc σ, J (x :: r) acc σ → (∀ acc' σ', J r acc' σ' → CompOk c d cenv target ifs elt lk S QC r acc' σ') → CompOk c d cenv target ifs elt lk S QC (x :: r) acc σ)
    (hn : ∀ acc σ, J [] acc σ → QC acc σ) : ∀ {xs acc : List V} {σ : Sto}, J xs acc σ → CompOk c d cenv target ifs elt lk S QC xs acc σ
  | [], _, _, h => hn _ _ h
  | x :: r, _, _, h => hs x r _ _ h fun acc' σ' h' => comp_ind J hs hn h'
theorem plainI {i : Expr} (h : ∀ a b, ∃ ops, subscripted i false a b = operate ops (getItem a b) := by exact fun _ _ => ⟨_, rfl⟩) : PlainSub i := h
theorem len1 {a : V} : [a].length ≤ sizeLine := le_line (by show 1 ≤ 10000; decide)
theorem len2 {a b : V} : [a, b].length ≤ sizeLine := le_line (by show 2 ≤ 10000; decide)
theorem len3 {a b e : V} : [a, b, e].length ≤ sizeLine := le_line (by show 3 ≤ 10000; decide)
theorem len0 : ([] : List V).length ≤ sizeLine := le_line (by show 0 ≤ 10000; decide)
end

-- E1
section
set_option compiler.extract_closed false
local macro_rules | `(tactic| k_memK) => `(tactic| first | exact vk_fn (by decide +kernel) | exact vk_comp (by decide +kernel))
local macro_rules | `(tactic| k_upd) => `(tactic| first | exact sk_fn (by decide +kernel) | exact sk_comp (by decide +kernel))
local macro_rules | `(tactic| k_updF) => `(tactic| first | exact gk_fn (by decide +kernel) | exact gk_comp (by decide +kernel))
local macro_rules | `(tactic| kpt_turns) => `(tactic| with_reducible repeat (first | exact lookup_put_hit | exact lookup_hit | (apply lookup_put_skip; focus decide +kernel) | (apply lookup_skip; focus decide +kernel)))
local macro_rules | `(tactic| keq_hits) => `(tactic| with_reducible repeat (first | exact none_nil | (apply none_put; focus decide +kernel) | (apply none_cons; focus decide +kernel)))
local macro_rules | `(tactic| keq_rows) => `(tactic| with_reducible repeat (first | exact sub_nil | (apply sub_cons; focus kpt_turns)))
local macro_rules | `(tactic| kpf_c) => `(tactic| with_reducible first | exact val_name (by kpt_turns) (by k_memK) (by decide +kernel) | exact val_int | exact val_str | exact val_field (by kpt_turns) (by k_memK) (by decide +kernel) (by assumption) (by with_unfolding_all rfl) | exact val_none | exact val_bool)
local macro_rules | `(tactic| kpf_close) => `(tactic| with_reducible first | exact valL_cons (by kpf_c) (fun _ => by with_unfolding_all rfl) (by kpf_close) | exact valL_nil)
local macro_rules | `(tactic| kct_strs) => `(tactic| with_reducible first
  | (change OkL ..; first | refine okl_vals (by with_unfolding_all rfl) (by kpf_close) ?_ | refine okl_cons ?_ (fun _ => by with_unfolding_all rfl) | refine okl_nil ?_)
  | (change Ok ..; first | (change Ok _ _ _ (.Call ..) ..; first | refine okb_call (‹Lib _ _›).b_len bb_len rfl (by decide +kernel) (by k_updF) (by decide +kernel) (fun _ => by with_unfolding_all rfl) ?_ | refine okb_call (‹Lib _ _›).b_isinstance bb_isinstance rfl (by decide +kernel) (by k_updF) (by decide +kernel) (fun _ => by with_unfolding_all rfl) ?_ | refine okb_call (‹Lib _ _›).b_int bb_int rfl (by decide +kernel) (by k_updF) (by decide +kernel) (fun _ => by with_unfolding_all rfl) ?_ | refine okb_call (‹Lib _ _›).b_min bb_min rfl (by decide +kernel) (by k_updF) (by decide +kernel) (fun _ => by with_unfolding_all rfl) ?_ | refine okb_call (‹Lib _ _›).b_str bb_str rfl (by decide +kernel) (by k_updF) (by decide +kernel) (fun _ => by with_unfolding_all rfl) ?_) | (change Ok _ _ _ (.Attribute ..) ..; first | refine okv_field (by kpt_turns) (by k_memK) (by decide +kernel) (by assumption) (by with_unfolding_all rfl) ?_ | refine ok_fieldF ?_ (by with_unfolding_all rfl)) | (change Ok _ _ _ (.Name ..) ..; first | refine okv (by kpt_turns) (by k_memK) (by decide +kernel) ?_ | refine okbv (‹Lib _ _›).b_str bb_str (by decide +kernel) (by k_updF) (by decide +kernel) ?_ | refine okbv (‹Lib _ _›).b_tuple bb_tuple (by decide +kernel) (by k_updF) (by decide +kernel) ?_) | (change Ok _ _ _ (.Constant ..) ..; first | refine ok_int ?_ | refine ok_str ?_ | refine ok_none ?_ | refine ok_bool ?_) | refine vals_binop (by with_unfolding_all rfl) (by kpf_c) (by kpf_c) ?_ | refine vals_item (by with_unfolding_all rfl) (by kpf_c) (by kpf_c) ?_ | refine vals_cmp (by with_unfolding_all rfl) (by kpf_c) (by kpf_c) (by with_unfolding_all rfl) ?_ | refine ok_binop ?_ | refine ok_item ?_ | refine ok_compare ?_ (by with_unfolding_all rfl) | refine ok_tuple ?_ | refine ok_ifexp ?_ | refine ok_unop ?_)
  | (change OkT ..; first | refine vals_cmpT (by with_unfolding_all rfl) (by kpf_c) (by kpf_c) (by with_unfolding_all rfl) ?_ | refine okt_compare ?_ (by with_unfolding_all rfl) | refine okt_boolop ?_ | refine okt_not ?_ | refine okt_value ?_ (fun _ _ => by with_unfolding_all rfl))
  | (change Run2 ..; first | refine item_tup plainI (by decide) (by decide) (by with_unfolding_all rfl) ?_ | refine run_add ?_ | refine run_sub ?_ | refine run_lt ?_ | refine run_le ?_ | refine run_gt ?_ | refine run_ge ?_ | refine run_eq ?_ | refine run_ne ?_ | refine run_eqs_f (by decide +kernel) ?_ | refine run_eqs_t (by decide +kernel) ?_ | refine run_eqs ?_)
  | (change OkB ..; first | refine okb_return ?_ | refine okb_if ?_ | refine okb_let ?_ (by k_upd) (by with_unfolding_all rfl) (by with_unfolding_all rfl) | refine okb_expr ?_ (by with_unfolding_all rfl) (by with_unfolding_all rfl) | refine okb_nil ?_ | refine okb_for ?_ (fun _ => by with_unfolding_all rfl))
  | (change CallF ..; first | refine callf_isi_str ?_ | refine callf_isi_tuple ?_ | refine callf_int_bool ?_)
  | (change Exists _; first | refine t_false ?_ | refine t_true ?_ | refine tn_true ?_ | refine tn_false ?_ | refine ex_field (by assumption) ?_ | refine ex_two ?_ | refine ex_three ?_)
  | (change And _ _; first | refine And.intro len2 ?_ | refine And.intro len3 ?_ | refine And.intro len0 ?_ | refine And.intro len1 ?_ | refine b_false ?_ | refine b_true ?_)
  | (change OkAll ..; first | refine okall_and ?_ | refine okall_or ?_ | refine okall_and_nil ?_ | refine okall_or_nil ?_)
  | (change OkIt ..; first | refine okit_range1 (‹Lib _ _›).b_range (by k_updF) ?_ (fun _ => by with_unfolding_all rfl) | refine okit_range2 (‹Lib _ _›).b_range (by k_updF) ?_ (fun _ => by with_unfolding_all rfl) (fun _ => ⟨_, _, by with_unfolding_all rfl⟩) | refine okit_range3 (‹Lib _ _›).b_range (by k_updF) ?_ (fun _ => by with_unfolding_all rfl) (fun _ => ⟨_, _, by with_unfolding_all rfl⟩) | refine okit_enum (‹Lib _ _›).b_enumerate (by k_updF) ?_ (fun _ => by with_unfolding_all rfl))
  | (change Run1 ..; first | refine run_neg ?_)
  | refine ret_ret ?_
  | refine then_ret ?_
  | refine then_next ?_
  | refine loopfl_ret ?_)
local macro_rules | `(tactic| kas_types) => `(tactic| repeat kct_strs)
local macro_rules | `(tactic| kat_tups) => `(tactic| conv in (stBody _) => whnf)
section
section
variable {c : Ctx} {A : Ads} {d : Nat} {env : Env} {lk : Loc} {σ : Sto} {pos : Pos} {QX : Fl → Loc → Sto → Prop} {Q : V → Sto → Prop}

theorem t_is_nought (LB : Lib c A) {i : Int} (h : Q (.bool (decide (i = 0))) σ) : CodeOk c 1 (.ref A.f_is_nought) [.int i] σ Q := by
  refine code_fn1 "value" LB.is_nought.fn (by intros; rfl) (by decide +kernel) fun L cdv => ?_
  kat_tups
  kas_types
  exact h

theorem t_is_true (LB : Lib c A) {i : Int} (h : Q (.bool (!decide (i = 0))) σ) : CodeOk c 2 (.ref A.f_is_true) [.int i] σ Q := by
  refine code_fn1 "value" LB.is_true.fn (by intros; rfl) (by decide +kernel) fun L cdv => ?_
  kat_tups
  kas_types
  with_reducible refine okg_call (‹Lib _ _›).is_nought.ns (‹Lib _ _›).is_nought.keep (by k_updF) (by decide +kernel) (fun _ => by with_unfolding_all rfl) ?_
  kas_types
  refine CodeOk.f (t_is_nought LB ?_) (by decide)
  exact run_not h

theorem t_fits (LB : Lib c A) {i : Int} (h1 : -32768 ≤ i) (h2 : i < 32768) (h : Q (.bool true) σ) : CodeOk c 1 (.ref A.f_fits) [.int i, .int 16] σ Q := by
  refine code_fn2 "number" "bits" LB.fits.fn (by intros; rfl) (by decide +kernel) fun L cdv => ?_
  kat_tups
  kas_types
  refine ok_chain2 ?_ (by with_unfolding_all rfl)
  kas_types
  refine run_lshift (by decide) (by decide) (by decide) ?_
  kas_types
  refine ⟨_, rfl, fun e => ?_, fun _ => ?_⟩
  · exact absurd (of_decide_eq_false e) (by simpa using h1)
  · kas_types
    refine run_lshift (by decide) (by decide) (by decide) ?_
    kas_types
    have : decide (i < 1 * 2 ^ (16 - 1 : Int).toNat) = true := decide_eq_true (by simpa using h2)
    rw [this]
    exact h

theorem t_whole_of (LB : Lib c A) {i : Int} (h1 : -32768 ≤ i) (h2 : i < 32768) (h : Q (.int i) σ) : CodeOk c 2 (.ref A.f_whole_of) [.int i, .int 16] σ Q := by
  refine code_fn2 "value" "bits" LB.whole_of.fn (by intros; rfl) (by decide +kernel) fun L cdv => ?_
  kat_tups
  kas_types
  with_reducible refine okg_call (‹Lib _ _›).fits.ns (‹Lib _ _›).fits.keep (by k_updF) (by decide +kernel) (fun _ => by with_unfolding_all rfl) ?_
  kas_types
  refine CodeOk.f (t_fits LB h1 h2 ?_) (by decide)
  kas_types
  exact h

theorem t_chosen (LB : Lib c A) {i : Int} {n : Nat} (h1 : 0 ≤ i) (h2 : i ≤ 255) (h : Q (if 1 ≤ i ∧ i ≤ n then .int (i - 1) else .none) σ) : CodeOk c 1 (.ref A.f_chosen) [.int i, .int n] σ Q := by
  obtain ⟨t, hm⟩ := LB.most_number
  refine code_fn2 "number" "many" LB.chosen.fn (by intros; rfl) (by decide +kernel) fun L cdv => ?_
  kat_tups
  kas_types
  refine okt_chain2 ?_ (by with_unfolding_all rfl)
  kas_types
  refine ⟨_, rfl, fun e => absurd (of_decide_eq_false e) (by omega), fun _ => ?_⟩
  refine okgv hm (.int _ _) (by k_updF) (by decide +kernel) ?_
  refine run_le ?_
  rw [decide_eq_true h2]
  refine t_any (b_false ?_)
  · kas_types
    refine okt_chain2 ?_ (by with_unfolding_all rfl)
    kas_types
    refine ⟨_, rfl, fun e => ?_, fun e => ?_⟩
    · refine b_false ?_
      have e := of_decide_eq_false e
      rw [if_neg (fun x => e x.1)] at h
      exact ok_none h
    · have e := of_decide_eq_true e
      kas_types
      refine t_dec (fun q => ?_) (fun q => ?_)
      · rw [if_pos ⟨e, q⟩] at h
        kas_types
        exact h
      · rw [if_neg (fun x => q x.2)] at h
        exact ok_none h
end

end

-- E2
section
section
variable {c : Ctx} {A : Ads} {d : Nat} {env : Env} {lk : Loc} {σ : Sto} {pos : Pos} {QX : Fl → Loc → Sto → Prop} {Q : V → Sto → Prop}

structure CtlAt (A : Ads) (σ : Sto) (kc kp : Nat) : Prop where
  at_ : ∃ n f, n ≤ 900 ∧ σ kc = some (.inst A.c_Control n f) ∧ f "pile" = some (.ref kp) ∧ f "most" = some (.int 20)
structure FlatAt (A : Ads) (σ : Sto) (kf kr kl kp : Nat) : Prop where
  at_ : ∃ n f, σ kf = some (.inst A.c_Flat n f) ∧ f "rows" = some (.ref kr) ∧ f "places" = some (.ref kl) ∧ f "pairs" = some (.ref kp)

theorem CtlAt.pile (h : CtlAt A σ kc kp) (LB : Lib c A) : InstF c σ kc "pile" (.ref kp) := by
  obtain ⟨n, f, _, h1, h2, h3⟩ := h.at_
  exact ⟨_, n, f, h1, LB.Control.cls, LB.Control_pile.get, h2, trivial⟩
theorem CtlAt.most (h : CtlAt A σ kc kp) (LB : Lib c A) : InstF c σ kc "most" (.int 20) := by
  obtain ⟨n, f, _, h1, h2, h3⟩ := h.at_
  exact ⟨_, n, f, h1, LB.Control.cls, LB.Control_most.get, h3, trivial⟩
theorem FlatAt.rows (h : FlatAt A σ kf kr kl kp) (LB : Lib c A) : InstF c σ kf "rows" (.ref kr) := by
  obtain ⟨n, f, h1, h2, h3, h4⟩ := h.at_
  exact ⟨_, n, f, h1, LB.Flat.cls, LB.Flat_rows.get, h2, trivial⟩
theorem FlatAt.places (h : FlatAt A σ kf kr kl kp) (LB : Lib c A) : InstF c σ kf "places" (.ref kl) := by
  obtain ⟨n, f, h1, h2, h3, h4⟩ := h.at_
  exact ⟨_, n, f, h1, LB.Flat.cls, LB.Flat_places.get, h3, trivial⟩
theorem FlatAt.pairs (h : FlatAt A σ kf kr kl kp) (LB : Lib c A) : InstF c σ kf "pairs" (.ref kp) := by
  obtain ⟨n, f, h1, h2, h3, h4⟩ := h.at_
  exact ⟨_, n, f, h1, LB.Flat.cls, LB.Flat_pairs.get, h4, trivial⟩

theorem t_put_upon (LB : Lib c A) {kc kp : Nat} {xs : List V} {e : V} (hc : CtlAt A σ kc kp) (hp : σ kp = some (.list xs)) (hl : xs.length < 20) (h : Q .none (upd σ kp (.list (xs ++ [e])))) : CodeOk c 1 (.ref A.f_put_upon) [.ref kc, e] σ Q := by
  have f1 := hc.pile LB
  have f2 := hc.most LB
  refine code_fn2 "control" "entry" LB.put_upon.fn (by intros; rfl) (by decide +kernel) fun L cdv => ?_
  kat_tups
  kas_types
  refine callf_len (.inr (.inr ⟨_, rfl, hp⟩)) (le_line (by omega)) ?_
  kas_types
  rw [decide_eq_false (by omega)]
  kas_types
  with_reducible refine ok_meth ?_ (by with_unfolding_all rfl) (by with_unfolding_all rfl) (by with_unfolding_all rfl) (by with_unfolding_all rfl)
  kas_types
  refine ⟨_, meth_append hp, rfl, ?_⟩
  kas_types
  refine callf_append hp (le_line (by omega)) ?_
  kas_types
  exact h

theorem t_gosub (LB : Lib c A) {kc kp : Nat} {xs : List V} {e : Int} (hc : CtlAt A σ kc kp) (hp : σ kp = some (.list xs)) (hl : xs.length < 20) (h : Q .none (upd σ kp (.list (xs ++ [.tup [.str "GOSUB", .int e]])))) : CodeOk c 2 (.ref A.f_gosub) [.ref kc, .int e] σ Q := by
  refine code_fn2 "control" "place" LB.gosub.fn (by intros; rfl) (by decide +kernel) fun L cdv => ?_
  kat_tups
  kas_types
  with_reducible refine okg_call (‹Lib _ _›).put_upon.ns (‹Lib _ _›).put_upon.keep (by k_updF) (by decide +kernel) (fun _ => by with_unfolding_all rfl) ?_
  kas_types
  refine CodeOk.f (t_put_upon LB hc hp hl ?_) (by decide)
  kas_types
  exact h

theorem t_cut_to (LB : Lib c A) {kc kp : Nat} {xs : List V} {n : Nat} (hc : CtlAt A σ kc kp) (hp : σ kp = some (.list xs)) (hl : xs.length ≤ 100)
    (h : ∀ k σ', σ k = none → CtlAt A σ' kc k → σ' k = some (.list (xs.take n)) → (∀ j, j ≠ k → j ≠ kc → σ' j = σ j) → Q .none σ') : CodeOk c 1 (.ref A.f_cut_to) [.ref kc, .int n] σ Q := by
  have hpile := hc.pile LB
  obtain ⟨m, f, hm, h1, h2, h3⟩ := hc.at_
  refine code_fn2 "control" "many" LB.cut_to.fn (by intros; rfl) (by decide +kernel) fun L cdv => ?_
  kat_tups
  refine okb_assign ?_ (by with_unfolding_all rfl) (by with_unfolding_all rfl) (by with_unfolding_all rfl)
  refine ok_sliceC ?_ (fun _ _ => ⟨_, rfl⟩)
  kas_types
  show Ok c 0 _ _ _ _ _
  kas_types
  refine ⟨xs, _, .inr ⟨_, rfl, hp⟩, le_line (by omega), .upto _ _ (by omega), fun k hk => ?_⟩
  have hne : kc ≠ k := by rintro rfl; rw [h1] at hk; cases hk
  refine oka_field ?_
  kas_types
  refine ⟨kc, A.c_Control, m, f, rfl, (upd_ne hne).trans h1, LB.Control.cls, LB.Control_pile.put, hm, ?_⟩
  kas_types
  refine h k _ hk ⟨_, _, ?_, upd_self .., ?_, ?_⟩ ?_ ?_
  · rw [if_pos (by rw [h2]; rfl)]; exact hm
  · rw [if_pos rfl]
  · rw [if_neg (by decide)]; exact h3
  · rw [upd_ne (Ne.symm hne), upd_self, Int.toNat_natCast]
  · intro j h4 h5
    rw [upd_ne h5, upd_ne h4]
end

end

-- E3
section
section
variable {c : Ctx} {A : Ads} {d : Nat} {env : Env} {lk : Loc} {σ : Sto} {pos : Pos} {QX : Fl → Loc → Sto → Prop} {Q : V → Sto → Prop}

theorem t_floor_gosub (LB : Lib c A) {kp : Nat} {ys : List V} {e : V} (hp : σ kp = some (.list (ys ++ [.tup [.str "GOSUB", e]]))) (hl : ys.length < 100) (h : Q (.int (ys.length + 1)) σ) : CodeOk c 1 (.ref A.f_floor_of) [.ref kp] σ Q := by
  refine code_fn1 "pile" LB.floor_of.fn (by intros; rfl) (by decide +kernel) fun L cdv => ?_
  kat_tups
  kas_types
  refine callf_len (.inr (.inr ⟨_, rfl, hp⟩)) (le_line (by simp; omega)) ?_
  kas_types
  refine ⟨_, _, rfl, by omega, by simp; omega, by decide, by decide, trivial, ?_⟩
  have e1 : ((((ys ++ [V.tup [.str "GOSUB", e]]).length : Nat) : Int) - 0).toNat = ys.length + 1 := by simp
  rw [e1]
  refine loop_name (by k_upd) ?_
  kas_types
  refine item_cell (fun _ _ => ⟨_, rfl⟩) hp (by omega) (by omega) (y := .tup [.str "GOSUB", e]) (by simp) ?_
  kas_types
  simpa using h

theorem t_floor_nil (LB : Lib c A) {kp : Nat} (hp : σ kp = some (.list [])) (h : Q (.int 0) σ) : CodeOk c 1 (.ref A.f_floor_of) [.ref kp] σ Q := by
  refine code_fn1 "pile" LB.floor_of.fn (by intros; rfl) (by decide +kernel) fun L cdv => ?_
  kat_tups
  kas_types
  refine callf_len (.inr (.inr ⟨_, rfl, hp⟩)) (le_line (by decide)) ?_
  kas_types
  refine ⟨_, _, rfl, by decide, by decide, by decide, by decide, trivial, ?_⟩
  refine loop_nil ?_
  kas_types
  exact h

theorem t_floor_whil (LB : Lib c A) {kp : Nat} {e : V} (hp : σ kp = some (.list [.tup [.str "WHILE", e]])) (h : Q (.int 0) σ) : CodeOk c 1 (.ref A.f_floor_of) [.ref kp] σ Q := by
  refine code_fn1 "pile" LB.floor_of.fn (by intros; rfl) (by decide +kernel) fun L cdv => ?_
  kat_tups
  kas_types
  refine callf_len (.inr (.inr ⟨_, rfl, hp⟩)) (le_line (by show 1 ≤ 10000; decide)) ?_
  kas_types
  refine ⟨_, _, rfl, by simp, by simp, by decide, by decide, trivial, ?_⟩
  refine loop_name (by k_upd) ?_
  kas_types
  refine item_cell (fun _ _ => ⟨_, rfl⟩) hp (by simp) (by simp) (y := .tup [.str "WHILE", e]) rfl ?_
  kas_types
  refine loopfl_next [] trivial (by keq_rows) (loop_nil ?_)
  kas_types
  exact h

theorem t_return_place (LB : Lib c A) {kc kp : Nat} {ys : List V} {e : Int} (hc : CtlAt A σ kc kp) (hp : σ kp = some (.list (ys ++ [.tup [.str "GOSUB", .int e]]))) (hl : ys.length < 100)
    (h : ∀ k σ', σ k = none → CtlAt A σ' kc k → σ' k = some (.list ys) → (∀ j, j ≠ k → j ≠ kc → σ' j = σ j) → Q (.int e) σ') : CodeOk c 2 (.ref A.f_return_place) [.ref kc] σ Q := by
  have f1 := hc.pile LB
  refine code_fn1 "control" LB.return_place.fn (by intros; rfl) (by decide +kernel) fun L cdv => ?_
  kat_tups
  kas_types
  with_reducible refine okg_call (‹Lib _ _›).floor_of.ns (‹Lib _ _›).floor_of.keep (by k_updF) (by decide +kernel) (fun _ => by with_unfolding_all rfl) ?_
  kas_types
  refine CodeOk.f (t_floor_gosub LB hp hl ?_) (by decide)
  kas_types
  rw [decide_eq_false (by omega)]
  kas_types
  refine item_cell (fun _ _ => ⟨_, rfl⟩) hp (by omega) (by omega) (y := .tup [.str "GOSUB", .int e]) (by simp) ?_
  kas_types
  with_reducible refine okg_call (‹Lib _ _›).cut_to.ns (‹Lib _ _›).cut_to.keep (by k_updF) (by decide +kernel) (fun _ => by with_unfolding_all rfl) ?_
  kas_types
  have e1 : ((ys.length : Int) + 1 - 1) = ((ys.length : Nat) : Int) := by omega
  rw [e1]
  refine CodeOk.f (t_cut_to LB hc hp (by simp; omega) fun k σ' h1 h2 h3 h4 => ?_) (by decide)
  kas_types
  refine h k σ' h1 h2 ?_ h4
  simpa using h3

theorem t_place_of (LB : Lib c A) {kf kr kl kp : Nat} {g : Int → Option V} {l : Int} {n : V} (hf : FlatAt A σ kf kr kl kp) (hg : σ kl = some (.dictI g)) (hn : g l = some n) (h : Q n σ) : CodeOk c 1 (.ref A.f_place_of) [.ref kf, .int l] σ Q := by
  have f1 := hf.places LB
  refine code_fn2 "flat" "line" LB.place_of.fn (by intros; rfl) (by decide +kernel) fun L cdv => ?_
  kat_tups
  kas_types
  refine run_notInI_f LB.low hg hn ?_
  kas_types
  refine item_dictI (fun _ _ => ⟨_, rfl⟩) hg hn ?_
  kas_types
  exact h

theorem t_end_of_while (LB : Lib c A) {kf kr kl kp : Nat} {g : Int → Option V} {l : Int} {n : V} (hf : FlatAt A σ kf kr kl kp) (hg : σ kp = some (.dictI g)) (hn : g l = some n) (h : Q n σ) : CodeOk c 1 (.ref A.f_end_of_while) [.ref kf, .int l] σ Q := by
  have f1 := hf.pairs LB
  refine code_fn2 "flat" "row" LB.end_of_while.fn (by intros; rfl) (by decide +kernel) fun L cdv => ?_
  kat_tups
  kas_types
  refine run_notInI_f LB.low hg hn ?_
  kas_types
  refine item_dictI (fun _ _ => ⟨_, rfl⟩) hg hn ?_
  kas_types
  exact h

theorem t_put_row_of (LB : Lib c A) {kf kr kl kp : Nat} {rows : List V} {line st : V} (hf : FlatAt A σ kf kr kl kp) (hr : σ kr = some (.list rows)) (hl : rows.length ≤ 1000) (hne : kf ≠ kr)
    (h : Q (.int rows.length) (upd σ kr (.list (rows ++ [.tup [line, st]])))) : CodeOk c 1 (.ref A.f_put_row_of) [.ref kf, line, st] σ Q := by
  have f1 := hf.rows LB
  have f2 : InstF c (upd σ kr (.list (rows ++ [.tup [line, st]]))) kf "rows" (.ref kr) := by
    obtain ⟨C, n, f, h1, h2⟩ := f1
    exact ⟨C, n, f, (upd_ne hne).trans h1, h2⟩
  refine code_fn3 "flat" "line" "statement" LB.put_row_of.fn (by intros; rfl) (by decide +kernel) fun L cdv => ?_
  kat_tups
  kas_types
  with_reducible refine ok_meth ?_ (by with_unfolding_all rfl) (by with_unfolding_all rfl) (by with_unfolding_all rfl) (by with_unfolding_all rfl)
  kas_types
  refine ⟨_, meth_append hr, rfl, ?_⟩
  kas_types
  refine callf_append hr (le_line (by omega)) ?_
  kas_types
  refine callf_len (.inr (.inr ⟨_, rfl, upd_self ..⟩)) (le_line (by simp; omega)) ?_
  kas_types
  simpa using h
end

end

-- E4
section
section
variable {c : Ctx} {A : Ads} {d : Nat} {env : Env} {lk : Loc} {σ : Sto} {pos : Pos} {QX : Fl → Loc → Sto → Prop} {Q : V → Sto → Prop}

open Classical in
theorem t_found_whil (LB : Lib c A) {kp : Nat} {r : Int} (hp : σ kp = some (.list [.tup [.str "WHILE", .int r]])) (h : Q (.int 0) σ) : CodeOk c 2 (.ref A.f_found_at) [.ref kp, .str "WHILE", .int r] σ Q := by
  refine code_fn3 "pile" "kind" "name" LB.found_at.fn (by intros; rfl) (by decide +kernel) fun L cdv => ?_
  kat_tups
  kas_types
  refine callf_len (.inr (.inr ⟨_, rfl, hp⟩)) len1 ?_
  kas_types
  with_reducible refine okg_call (‹Lib _ _›).floor_of.ns (‹Lib _ _›).floor_of.keep (by k_updF) (by decide +kernel) (fun _ => by with_unfolding_all rfl) ?_
  kas_types
  refine CodeOk.f (t_floor_whil LB hp ?_) (by decide)
  kas_types
  refine ⟨_, _, rfl, by simp, by simp, by decide, by decide, trivial, ?_⟩
  refine loop_name (by k_upd) ?_
  kas_types
  refine item_cell plainI hp (by simp) (by simp) (y := .tup [.str "WHILE", .int r]) rfl ?_
  kas_types
  refine item_cell plainI hp (by simp) (by simp) (y := .tup [.str "WHILE", .int r]) rfl ?_
  kas_types
  refine run_in rfl (by with_unfolding_all rfl) ?_
  rw [decide_eq_true (by simp)]
  kas_types
  exact h

open Classical in
theorem t_while_begin0 (LB : Lib c A) {kc kp : Nat} {r : Int} (hc : CtlAt A σ kc kp) (hp : σ kp = some (.list [])) (h : Q .none (upd σ kp (.list [.tup [.str "WHILE", .int r]]))) : CodeOk c 2 (.ref A.f_while_begin) [.ref kc, .int r] σ Q := by
  have f1 := hc.pile LB
  refine code_fn2 "control" "place" LB.while_begin.fn (by intros; rfl) (by decide +kernel) fun L cdv => ?_
  kat_tups
  kas_types
  refine okb_comp (cscope_fn [".0", "at"] rfl (by decide +kernel) ⟨by keq_hits, by keq_hits, trivial⟩) (fun _ => by with_unfolding_all rfl) (by with_unfolding_all rfl) ?_ (by k_upd)
  kas_types
  with_reducible refine okg_call (‹Lib _ _›).floor_of.ns (‹Lib _ _›).floor_of.keep (by k_updF) (by decide +kernel) (fun _ => by with_unfolding_all rfl) ?_
  kas_types
  refine CodeOk.f (t_floor_nil LB hp ?_) (by decide)
  kas_types
  refine callf_len (.inr (.inr ⟨_, rfl, hp⟩)) len0 ?_
  kas_types
  refine ⟨_, _, rfl, by simp, by simp, by simp, by simp, trivial, fun C cl => comp_nil ?_⟩
  kas_types
  refine ok_list ?_
  kas_types
  refine run_nev_f (by with_unfolding_all rfl) (by with_unfolding_all rfl) rfl ?_
  kas_types
  with_reducible refine okg_call (‹Lib _ _›).put_upon.ns (‹Lib _ _›).put_upon.keep (by k_updF) (by decide +kernel) (fun _ => by with_unfolding_all rfl) ?_
  kas_types
  refine CodeOk.f (t_put_upon LB hc hp (by decide) ?_) (by decide)
  kas_types
  exact h

open Classical in
theorem t_while_begin1 (LB : Lib c A) {kc kp : Nat} {r : Int} (hc : CtlAt A σ kc kp) (hp : σ kp = some (.list [.tup [.str "WHILE", .int r]]))
    (h : ∀ k σ', σ k = none → CtlAt A σ' kc k → σ' k = some (.list [.tup [.str "WHILE", .int r]]) → (∀ j, j ≠ k → j ≠ kc → σ' j = σ j) → Q .none σ') : CodeOk c 2 (.ref A.f_while_begin) [.ref kc, .int r] σ Q := by
  have f1 := hc.pile LB
  refine code_fn2 "control" "place" LB.while_begin.fn (by intros; rfl) (by decide +kernel) fun L cdv => ?_
  kat_tups
  kas_types
  refine okb_comp (cscope_fn [".0", "at"] rfl (by decide +kernel) ⟨by keq_hits, by keq_hits, trivial⟩) (fun _ => by with_unfolding_all rfl) (by with_unfolding_all rfl) ?_ (by k_upd)
  kas_types
  with_reducible refine okg_call (‹Lib _ _›).floor_of.ns (‹Lib _ _›).floor_of.keep (by k_updF) (by decide +kernel) (fun _ => by with_unfolding_all rfl) ?_
  kas_types
  refine CodeOk.f (t_floor_whil LB hp ?_) (by decide)
  kas_types
  refine callf_len (.inr (.inr ⟨_, rfl, hp⟩)) len1 ?_
  kas_types
  refine ⟨_, _, rfl, by simp, by simp, by simp, by simp, trivial, fun C cl => comp_nameif (by k_upd) (by keq_hits) len0 ?_⟩
  kas_types
  refine item_cell plainI hp (by simp) (by simp) (y := .tup [.str "WHILE", .int r]) rfl ?_
  kas_types
  refine run_eqv_t (by with_unfolding_all rfl) (by with_unfolding_all rfl) rfl ?_
  kas_types
  refine ⟨trivial, comp_nil ?_⟩
  kas_types
  refine ok_list ?_
  kas_types
  refine run_nev_t (by with_unfolding_all rfl) (by with_unfolding_all rfl) (by simp) ?_
  kas_types
  with_reducible refine okg_call (‹Lib _ _›).cut_to.ns (‹Lib _ _›).cut_to.keep (by k_updF) (by decide +kernel) (fun _ => by with_unfolding_all rfl) ?_
  kas_types
  refine item_lst plainI (by decide) (by decide) (y := .int 0) rfl ?_
  kas_types
  refine CodeOk.f (t_cut_to (n := 1) LB hc hp (by simp) fun k σ' h1 h2 h3 h4 => ?_) (by decide)
  kas_types
  exact h k σ' h1 h2 h3 h4

open Classical in
theorem t_while_end (LB : Lib c A) {kc kp : Nat} {r : Int} (hc : CtlAt A σ kc kp) (hp : σ kp = some (.list [.tup [.str "WHILE", .int r]]))
    (h : ∀ k σ', σ k = none → CtlAt A σ' kc k → σ' k = some (.list []) → (∀ j, j ≠ k → j ≠ kc → σ' j = σ j) → Q .none σ') : CodeOk c 2 (.ref A.f_while_end) [.ref kc, .int r] σ Q := by
  have f1 := hc.pile LB
  refine code_fn2 "control" "place" LB.while_end.fn (by intros; rfl) (by decide +kernel) fun L cdv => ?_
  kat_tups
  kas_types
  refine okb_comp (cscope_fn [".0", "at"] rfl (by decide +kernel) ⟨by keq_hits, by keq_hits, trivial⟩) (fun _ => by with_unfolding_all rfl) (by with_unfolding_all rfl) ?_ (by k_upd)
  kas_types
  with_reducible refine okg_call (‹Lib _ _›).floor_of.ns (‹Lib _ _›).floor_of.keep (by k_updF) (by decide +kernel) (fun _ => by with_unfolding_all rfl) ?_
  kas_types
  refine CodeOk.f (t_floor_whil LB hp ?_) (by decide)
  kas_types
  refine callf_len (.inr (.inr ⟨_, rfl, hp⟩)) len1 ?_
  kas_types
  refine ⟨_, _, rfl, by simp, by simp, by simp, by simp, trivial, fun C cl => comp_nameif (by k_upd) (by keq_hits) len0 ?_⟩
  kas_types
  refine item_cell plainI hp (by simp) (by simp) (y := .tup [.str "WHILE", .int r]) rfl ?_
  kas_types
  refine run_eqv_t (by with_unfolding_all rfl) (by with_unfolding_all rfl) rfl ?_
  kas_types
  refine ⟨trivial, comp_nil ?_⟩
  kas_types
  refine ok_list ?_
  kas_types
  refine run_nev_t (by with_unfolding_all rfl) (by with_unfolding_all rfl) (by simp) ?_
  kas_types
  with_reducible refine okg_call (‹Lib _ _›).cut_to.ns (‹Lib _ _›).cut_to.keep (by k_updF) (by decide +kernel) (fun _ => by with_unfolding_all rfl) ?_
  kas_types
  refine item_lst plainI (by decide) (by decide) (y := .int 0) rfl ?_
  kas_types
  refine CodeOk.f (t_cut_to (n := 0) LB hc hp (by simp) fun k σ' h1 h2 h3 h4 => ?_) (by decide)
  kas_types
  exact h k σ' h1 h2 h3 h4

theorem t_wend_place (LB : Lib c A) {kc kp : Nat} {r : Int} (hc : CtlAt A σ kc kp) (hp : σ kp = some (.list [.tup [.str "WHILE", .int r]]))
    (h : ∀ k σ', σ k = none → CtlAt A σ' kc k → σ' k = some (.list [.tup [.str "WHILE", .int r]]) → (∀ j, j ≠ k → j ≠ kc → σ' j = σ j) → Q (.int r) σ') : CodeOk c 3 (.ref A.f_wend_place) [.ref kc, .int r] σ Q := by
  have f1 := hc.pile LB
  refine code_fnD2 "control" "place" LB.wend_place (fun T doc pm an cdv ct v0 v1 => ⟨_, rfl, fun u => rfl⟩) (by decide +kernel) (by decide +kernel) ⟨by decide +kernel, by decide +kernel⟩ (fun _ => rfl) (by decide +kernel) fun L cdv => ?_
  kat_tups
  kas_types
  with_reducible refine okg_call (‹Lib _ _›).found_at.ns (‹Lib _ _›).found_at.keep (by k_updF) (by decide +kernel) (fun _ => by with_unfolding_all rfl) ?_
  kas_types
  refine CodeOk.f (t_found_whil LB hp ?_) (by decide)
  kas_types
  rw [decide_eq_false (by decide)]
  kas_types
  with_reducible refine okg_call (‹Lib _ _›).cut_to.ns (‹Lib _ _›).cut_to.keep (by k_updF) (by decide +kernel) (fun _ => by with_unfolding_all rfl) ?_
  kas_types
  refine CodeOk.f (t_cut_to (n := 1) LB hc hp (by simp) fun k σ' h1 h2 h3 h4 => ?_) (by decide)
  have f2 := h2.pile LB
  kas_types
  refine item_cell plainI h3 (by simp) (by simp) (y := .tup [.str "WHILE", .int r]) rfl ?_
  kas_types
  exact h k σ' h1 h2 h3 h4
end

end

-- M0

noncomputable abbrev Tree := Str × Str × Int
noncomputable def encT (t : Tree) : V := .tup [.str t.1, .str t.2.1, .int t.2.2]

inductive St where
  | let_ (x : Str) (t : Tree)
  | rem (s : Str)
  | end_
  | goto (l : Int)
  | gosub (l : Int)
  | ongo (w : Str) (t : Tree) (ls : List Int)
  | ret
  | whil (t : Tree)
  | wend
  | if_ (t : Tree) (a b : List St)
  deriving Inhabited

mutual
noncomputable def encS : St → V
  | .let_ x t => .tup [.str "LET", .tup [.str "name", .str x], encT t]
  | .rem s => .tup [.str "REM", .str s]
  | .end_ => .tup [.str "END"]
  | .goto l => .tup [.str "GOTO", .int l]
  | .gosub l => .tup [.str "GOSUB", .int l]
  | .ongo w t ls => .tup [.str "ONGO", .str w, encT t, .lst (ls.map .int)]
  | .ret => .tup [.str "RETURN", .none]
  | .whil t => .tup [.str "WHILE", encT t]
  | .wend => .tup [.str "WEND"]
  | .if_ t a b => .tup [.str "IF", encT t, .lst (encSs a), .lst (encSs b)]
noncomputable def encSs : List St → List V
  | [] => []
  | s :: r => encS s :: encSs r
end

/-- a row of the flat program -/
inductive Row where
  | st (s : St)
  | ifnot (t : Tree) (n : Nat)
  | jump (n : Nat)
  deriving Inhabited
noncomputable def encR : Row → V
  | .st s => encS s
  | .ifnot t n => .tup [.str "IFNOT", encT t, .int n]
  | .jump n => .tup [.str "JUMP", .int n]
noncomputable def encRow (p : Int × Row) : V := .tup [.int p.1, encR p.2]

mutual
noncomputable def flatS (line : Int) (n : Nat) : St → List (Int × Row)
  | .if_ t a b =>
    let ra := flatSs line (n + 1) a
    let m := n + 1 + ra.length
    if b.isEmpty then (line, .ifnot t m) :: ra
    else
      let rb := flatSs line (m + 1) b
      (line, .ifnot t (m + 1)) :: ra ++ (line, .jump (m + 1 + rb.length)) :: rb
  | s => [(line, .st s)]
noncomputable def flatSs (line : Int) (n : Nat) : List St → List (Int × Row)
  | [] => []
  | s :: r =>
    let a := flatS line n s
    a ++ flatSs line (n + a.length) r
end

inductive Ent where
  | gosub (n : Nat)
  | whil (n : Nat)
  deriving DecidableEq
noncomputable def encE : Ent → V
  | .gosub n => .tup [.str "GOSUB", .int n]
  | .whil n => .tup [.str "WHILE", .int n]

structure Ms where
  pc : Nat
  vals : Str → Option Int
  pile : List Ent
  notes : List (Str × Int)
noncomputable def encN (p : Str × Int) : V := .tup [.str p.1, .int p.2]

structure Prg where
  rows : List (Int × Row)
  places : Int → Option Nat
  pairs : Nat → Option Nat

noncomputable abbrev Wf := Tree → (Str → Option Int) → Int

/-- one turn; what is not told here does not come up -/
noncomputable def step (w : Wf) (P : Prg) (m : Ms) : Row → Except Str Ms
  | .st (.let_ x t) => .ok { m with vals := fun y => if y = x then some (w t m.vals) else m.vals y, pc := m.pc + 1 }
  | .st (.rem s) => .ok { m with notes := m.notes ++ [(s, (m.vals "X").getD 0)], pc := m.pc + 1 }
  | .st .end_ => .ok { m with pc := P.rows.length }
  | .st (.goto l) => match P.places l with
    | some n => .ok { m with pc := n }
    | none => .error "UL"
  | .st (.gosub l) => match P.places l with
    | some n => if m.pile.length < 20 then .ok { m with pc := n, pile := m.pile ++ [.gosub (m.pc + 1)] } else .error "OM"
    | none => .error "UL"
  | .st (.ongo g t ls) =>
    if 0 ≤ w t m.vals ∧ w t m.vals ≤ 255 then
      if 1 ≤ w t m.vals ∧ w t m.vals ≤ ls.length then
        match (ls[(w t m.vals - 1).toNat]?).bind P.places with
        | some n =>
          if g = "GOSUB" then (if m.pile.length < 20 then .ok { m with pc := n, pile := m.pile ++ [.gosub (m.pc + 1)] } else .error "OM")
          else .ok { m with pc := n }
        | none => .error "UL"
      else .ok { m with pc := m.pc + 1 }
    else .error "FC"
  | .st .ret => match m.pile.getLast? with
    | some (.gosub n) => .ok { m with pc := n, pile := m.pile.dropLast }
    | some (.whil _) => .error "??"
    | none => .error "RG"
  | .st (.whil t) =>
    if w t m.vals ≠ 0 then
      if m.pile = [] then .ok { m with pc := m.pc + 1, pile := [.whil m.pc] }
      else if m.pile = [.whil m.pc] then .ok { m with pc := m.pc + 1 } else .error "??"
    else if m.pile = [.whil m.pc] then
      match P.pairs m.pc with
      | some n => .ok { m with pc := n + 1, pile := [] }
      | none => .error "WE"
    else .error "??"
  | .st .wend => match P.pairs m.pc with
    | some n => if m.pile = [.whil n] then .ok { m with pc := n } else .error "??"
    | none => .error "WE"
  | .st (.if_ ..) => .error "??"
  | .ifnot t n => .ok { m with pc := if w t m.vals ≠ 0 then m.pc + 1 else n }
  | .jump n => .ok { m with pc := n }

noncomputable def goN (w : Wf) (P : Prg) : Nat → Ms → Except Str Ms
  | 0, m => .ok m
  | n + 1, m => match P.rows[m.pc]? with
    | none => .ok m
    | some (_, r) => match step w P m r with
      | .ok m' => goN w P n m'
      | .error e => .error e

-- E5
section
structure Objs where
  (kRun kFlat kVals kCtl kNotes kRows kPl kPairs : Nat)

noncomputable def names9 : List Str := ["A", "B", "L", "X", "P", "Q", "R", "K", "W"]

/-- a run's objects stand as the machine says -/
structure RunAt (A : Ads) (aW : Addr) (o : Objs) (kp : Nat) (P : Prg) (σ : Sto) (m : Ms) : Prop where
  run : ∃ n f, σ o.kRun = some (.inst A.c_FlowRun n f) ∧ f "flat" = some (.ref o.kFlat) ∧ f "values" = some (.ref o.kVals) ∧ f "worth_of" = some (.raw (.ref aW)) ∧ f "bits" = some (.int 16) ∧ f "control" = some (.ref o.kCtl) ∧ f "notes" = some (.ref o.kNotes) ∧
    f "worth" = none ∧ f "whole" = none ∧ f "value_of_name" = none ∧ f "store" = none ∧ f "go" = none
  flat : FlatAt A σ o.kFlat o.kRows o.kPl o.kPairs
  ctl : CtlAt A σ o.kCtl kp
  pile : σ kp = some (.list (m.pile.map encE))
  vals : σ o.kVals = some (.dictS fun x => (m.vals x).map .int)
  notes : σ o.kNotes = some (.list (m.notes.map encN))
  rows : σ o.kRows = some (.list (P.rows.map encRow))
  places : σ o.kPl = some (.dictI fun l => (P.places l).map fun n => .int n)
  pairs : ∃ g, σ o.kPairs = some (.dictI g) ∧ ∀ n : Nat, g n = (P.pairs n).map fun k => .int k
  nd : [o.kRun, o.kFlat, o.kVals, o.kCtl, o.kNotes, o.kRows, o.kPl, o.kPairs, kp].Nodup
  len : P.rows.length ≤ 1000
  few : ∀ x, m.vals x ≠ none → x ∈ names9

structure Keep (o : Objs) (kp : Nat) (σ σ' : Sto) : Prop where
  same : ∀ j x, σ j = some x → j ≠ o.kVals → j ≠ o.kCtl → j ≠ o.kNotes → j ≠ kp → σ' j = some x
  dom : ∀ j, σ' j = none → σ j = none
theorem Keep.refl (o : Objs) (kp : Nat) (σ : Sto) : Keep o kp σ σ := ⟨fun _ _ h _ _ _ _ => h, fun _ h => h⟩
theorem upd_dom {σ : Sto} {k j : Nat} {x : Cell} (h : upd σ k x j = none) : σ j = none := by
  by_cases e : j = k
  · subst e; rw [upd_self] at h; cases h
  · rwa [upd_ne e] at h

theorem ne_none {σ : Sto} {k j : Nat} {x : Cell} (h : σ j = some x) (hk : σ k = none) : j ≠ k := by rintro rfl; rw [h] at hk; cases hk

section
variable {c : Ctx} {A : Ads} {aW : Addr} {o : Objs} {kp : Nat} {P : Prg} {m m' : Ms} {d : Nat} {env : Env} {lk : Loc} {σ σ' : Sto} {pos : Pos} {QX : Fl → Loc → Sto → Prop} {Q : V → Sto → Prop}

theorem RunAt.same (r : RunAt A aW o kp P σ m) (h1 : m'.vals = m.vals) (h2 : m'.pile = m.pile) (h3 : m'.notes = m.notes) : RunAt A aW o kp P σ m' :=
  { r with pile := by rw [h2]; exact r.pile, vals := by rw [h1]; exact r.vals, notes := by rw [h3]; exact r.notes, few := by rw [h1]; exact r.few }

theorem nd_ne {l : List Nat} {a b : Nat} (h : l.Nodup) (i j : Nat) (hi : l[i]? = some a) (hj : l[j]? = some b) (n : Nat.beq i j = false) : a ≠ b := fun e =>
  Nat.ne_of_beq_eq_false n ((List.getElem?_inj (List.getElem?_eq_some_iff.mp hi).1 h).mp (hi.trans ((congrArg some e).trans hj.symm)))
theorem nd_last {l : List Nat} {x k : Nat} (h : (l ++ [x]).Nodup) (hk : ∀ y ∈ l, y ≠ k) : (l ++ [k]).Nodup :=
  List.nodup_append.mpr ⟨(List.nodup_append.mp h).1, List.nodup_cons.mpr ⟨List.not_mem_nil, List.nodup_nil⟩, fun y hy z hz => List.mem_singleton.mp hz ▸ hk y hy⟩

theorem RunAt.setVals (r : RunAt A aW o kp P σ m) (h2 : m'.pile = m.pile) (h3 : m'.notes = m.notes) (hf : ∀ x, m'.vals x ≠ none → x ∈ names9) :
    RunAt A aW o kp P (upd σ o.kVals (.dictS fun x => (m'.vals x).map .int)) m' ∧ Keep o kp σ (upd σ o.kVals (.dictS fun x => (m'.vals x).map .int)) := by
  refine ⟨⟨?_, ?_, ?_, ?_, upd_self .., ?_, ?_, ?_, ?_, r.nd, r.len, hf⟩, ⟨fun j x h1 h2 _ _ _ => (upd_ne h2).trans h1, fun j h => upd_dom h⟩⟩
  · obtain ⟨n, f, h, q⟩ := r.run; exact ⟨n, f, (upd_ne (nd_ne r.nd 0 2 rfl rfl rfl)).trans h, q⟩
  · obtain ⟨n, f, h, q⟩ := r.flat.at_; exact ⟨n, f, (upd_ne (nd_ne r.nd 1 2 rfl rfl rfl)).trans h, q⟩
  · obtain ⟨n, f, hn, h, q⟩ := r.ctl.at_; exact ⟨n, f, hn, (upd_ne (Ne.symm (nd_ne r.nd 2 3 rfl rfl rfl))).trans h, q⟩
  · rw [h2]; exact (upd_ne (Ne.symm (nd_ne r.nd 2 8 rfl rfl rfl))).trans r.pile
  · rw [h3]; exact (upd_ne (Ne.symm (nd_ne r.nd 2 4 rfl rfl rfl))).trans r.notes
  · exact (upd_ne (Ne.symm (nd_ne r.nd 2 5 rfl rfl rfl))).trans r.rows
  · exact (upd_ne (Ne.symm (nd_ne r.nd 2 6 rfl rfl rfl))).trans r.places
  · obtain ⟨g, h, q⟩ := r.pairs; exact ⟨g, (upd_ne (Ne.symm (nd_ne r.nd 2 7 rfl rfl rfl))).trans h, q⟩

theorem RunAt.addNote (r : RunAt A aW o kp P σ m) (h1 : m'.vals = m.vals) (h2 : m'.pile = m.pile) :
    RunAt A aW o kp P (upd σ o.kNotes (.list (m'.notes.map encN))) m' ∧ Keep o kp σ (upd σ o.kNotes (.list (m'.notes.map encN))) := by
  refine ⟨⟨?_, ?_, ?_, ?_, ?_, upd_self .., ?_, ?_, ?_, r.nd, r.len, by rw [h1]; exact r.few⟩, ⟨fun j x h1 _ _ h2 _ => (upd_ne h2).trans h1, fun j h => upd_dom h⟩⟩
  · obtain ⟨n, f, h, q⟩ := r.run; exact ⟨n, f, (upd_ne (nd_ne r.nd 0 4 rfl rfl rfl)).trans h, q⟩
  · obtain ⟨n, f, h, q⟩ := r.flat.at_; exact ⟨n, f, (upd_ne (nd_ne r.nd 1 4 rfl rfl rfl)).trans h, q⟩
  · obtain ⟨n, f, hn, h, q⟩ := r.ctl.at_; exact ⟨n, f, hn, (upd_ne (nd_ne r.nd 3 4 rfl rfl rfl)).trans h, q⟩
  · rw [h2]; exact (upd_ne (Ne.symm (nd_ne r.nd 4 8 rfl rfl rfl))).trans r.pile
  · rw [h1]; exact (upd_ne (nd_ne r.nd 2 4 rfl rfl rfl)).trans r.vals
  · exact (upd_ne (Ne.symm (nd_ne r.nd 4 5 rfl rfl rfl))).trans r.rows
  · exact (upd_ne (Ne.symm (nd_ne r.nd 4 6 rfl rfl rfl))).trans r.places
  · obtain ⟨g, h, q⟩ := r.pairs; exact ⟨g, (upd_ne (Ne.symm (nd_ne r.nd 4 7 rfl rfl rfl))).trans h, q⟩

theorem RunAt.setPile (r : RunAt A aW o kp P σ m) (h1 : m'.vals = m.vals) (h3 : m'.notes = m.notes) :
    RunAt A aW o kp P (upd σ kp (.list (m'.pile.map encE))) m' ∧ Keep o kp σ (upd σ kp (.list (m'.pile.map encE))) := by
  refine ⟨⟨?_, ?_, ?_, upd_self .., ?_, ?_, ?_, ?_, ?_, r.nd, r.len, by rw [h1]; exact r.few⟩, ⟨fun j x h1 _ _ _ h2 => (upd_ne h2).trans h1, fun j h => upd_dom h⟩⟩
  · obtain ⟨n, f, h, q⟩ := r.run; exact ⟨n, f, (upd_ne (nd_ne r.nd 0 8 rfl rfl rfl)).trans h, q⟩
  · obtain ⟨n, f, h, q⟩ := r.flat.at_; exact ⟨n, f, (upd_ne (nd_ne r.nd 1 8 rfl rfl rfl)).trans h, q⟩
  · obtain ⟨n, f, hn, h, q⟩ := r.ctl.at_; exact ⟨n, f, hn, (upd_ne (nd_ne r.nd 3 8 rfl rfl rfl)).trans h, q⟩
  · rw [h1]; exact (upd_ne (nd_ne r.nd 2 8 rfl rfl rfl)).trans r.vals
  · rw [h3]; exact (upd_ne (nd_ne r.nd 4 8 rfl rfl rfl)).trans r.notes
  · exact (upd_ne (nd_ne r.nd 5 8 rfl rfl rfl)).trans r.rows
  · exact (upd_ne (nd_ne r.nd 6 8 rfl rfl rfl)).trans r.places
  · obtain ⟨g, h, q⟩ := r.pairs; exact ⟨g, (upd_ne (nd_ne r.nd 7 8 rfl rfl rfl)).trans h, q⟩

theorem RunAt.newPile (r : RunAt A aW o kp P σ m) {k : Nat} (hk : σ k = none) (hc : CtlAt A σ' o.kCtl k) (hp : σ' k = some (.list (m'.pile.map encE))) (hs : ∀ j, j ≠ k → j ≠ o.kCtl → σ' j = σ j) (h1 : m'.vals = m.vals) (h3 : m'.notes = m.notes) :
    RunAt A aW o k P σ' m' ∧ Keep o kp σ σ' := by
  have go : ∀ {j x}, σ j = some x → j ≠ o.kCtl → σ' j = some x := fun {j x} h hc => (hs j (ne_none h hk) hc).trans h
  obtain ⟨n1, fR, hR, qR⟩ := r.run
  obtain ⟨n2, fF, hF, qF⟩ := r.flat.at_
  obtain ⟨n3, fC, hCn, hC, qC⟩ := r.ctl.at_
  obtain ⟨g, hg, qg⟩ := r.pairs
  refine ⟨⟨⟨n1, fR, go hR (nd_ne r.nd 0 3 rfl rfl rfl), qR⟩, ⟨n2, fF, go hF (nd_ne r.nd 1 3 rfl rfl rfl), qF⟩, hc, hp, ?_, ?_, go r.rows (Ne.symm (nd_ne r.nd 3 5 rfl rfl rfl)), go r.places (Ne.symm (nd_ne r.nd 3 6 rfl rfl rfl)), ⟨g, go hg (Ne.symm (nd_ne r.nd 3 7 rfl rfl rfl)), qg⟩, ?_, r.len, by rw [h1]; exact r.few⟩, ⟨fun j x h _ h2 _ _ => go h h2, fun j h => ?_⟩⟩
  · rw [h1]; exact go r.vals (nd_ne r.nd 2 3 rfl rfl rfl)
  · rw [h3]; exact go r.notes (Ne.symm (nd_ne r.nd 3 4 rfl rfl rfl))
  · exact nd_last (l := [o.kRun, o.kFlat, o.kVals, o.kCtl, o.kNotes, o.kRows, o.kPl, o.kPairs]) r.nd (List.forall_mem_cons.mpr ⟨ne_none hR hk, (List.forall_mem_cons.mpr ⟨ne_none hF hk, (List.forall_mem_cons.mpr ⟨ne_none r.vals hk, (List.forall_mem_cons.mpr ⟨ne_none hC hk, (List.forall_mem_cons.mpr ⟨ne_none r.notes hk, (List.forall_mem_cons.mpr ⟨ne_none r.rows hk, (List.forall_mem_cons.mpr ⟨ne_none r.places hk, (List.forall_mem_cons.mpr ⟨ne_none hg hk, (fun _ h => absurd h List.not_mem_nil)⟩)⟩)⟩)⟩)⟩)⟩)⟩)⟩)
  · by_cases e1 : j = k
    · subst e1; exact hk
    · by_cases e2 : j = o.kCtl
      · subst e2
        obtain ⟨n, f, _, hh, _⟩ := hc.at_
        rw [hh] at h; cases h
      · rw [← hs j e1 e2]; exact h

theorem Keep.trans {σ₁ σ₂ : Sto} {kp' : Nat} (a : Keep o kp σ σ₁) (b : Keep o kp' σ₁ σ₂) (h : kp' = kp ∨ σ kp' = none) : Keep o kp σ σ₂ := ⟨fun j x h1 h2 h3 h4 h5 =>
  b.same j x (a.same j x h1 h2 h3 h4 h5) h2 h3 h4 (h.elim (fun e => e ▸ h5) fun e => ne_none h1 e), fun j h => a.dom j (b.dom j h)⟩

structure RunF (c : Ctx) (A : Ads) (aW : Addr) (o : Objs) (kp : Nat) (σ : Sto) : Prop where
  f1 : InstF c σ o.kRun "flat" (.ref o.kFlat)
  f2 : InstF c σ o.kRun "values" (.ref o.kVals)
  f3 : (handedIn (.ref aW) = true → InstF c σ o.kRun "worth_of" (.raw (.ref aW)))
  f4 : InstF c σ o.kRun "bits" (.int 16)
  f5 : InstF c σ o.kRun "control" (.ref o.kCtl)
  f6 : InstF c σ o.kRun "notes" (.ref o.kNotes)
  f7 : InstF c σ o.kFlat "rows" (.ref o.kRows)
  f8 : InstF c σ o.kCtl "pile" (.ref kp)
theorem RunAt.f_ (r : RunAt A aW o kp P σ m) (LB : Lib c A) : RunF c A aW o kp σ := by
  obtain ⟨n, f, h, h1, h2, h3, h4, h5, h6, _⟩ := r.run
  exact ⟨⟨_, n, f, h, LB.FlowRun.cls, LB.FlowRun_flat.get, h1, trivial⟩, ⟨_, n, f, h, LB.FlowRun.cls, LB.FlowRun_values.get, h2, trivial⟩, fun e => ⟨_, n, f, h, LB.FlowRun.cls, LB.FlowRun_worth_of.get, h3, e⟩, ⟨_, n, f, h, LB.FlowRun.cls, LB.FlowRun_bits.get, h4, trivial⟩,
    ⟨_, n, f, h, LB.FlowRun.cls, LB.FlowRun_control.get, h5, trivial⟩, ⟨_, n, f, h, LB.FlowRun.cls, LB.FlowRun_notes.get, h6, trivial⟩, r.flat.rows LB, r.ctl.pile LB⟩
structure RunM (c : Ctx) (A : Ads) (o : Objs) (σ : Sto) : Prop where
  m1 : Meth c σ (.ref o.kRun) "worth" (.ref A.m_worth)
  m2 : Meth c σ (.ref o.kRun) "whole" (.ref A.m_whole)
  m3 : Meth c σ (.ref o.kRun) "value_of_name" (.ref A.m_value_of_name)
  m4 : Meth c σ (.ref o.kRun) "store" (.ref A.m_store)
  m5 : Meth c σ (.ref o.kRun) "go" (.ref A.m_go)
theorem RunAt.m_ (r : RunAt A aW o kp P σ m) (LB : Lib c A) : RunM c A o σ := by
  obtain ⟨n, f, h, _, _, _, _, _, _, h1, h2, h3, h4, h5⟩ := r.run
  exact ⟨meth_inst h LB.FlowRun.cls LB.FlowRun_worth.get LB.FlowRun_worth.ty h1, meth_inst h LB.FlowRun.cls LB.FlowRun_whole.get LB.FlowRun_whole.ty h2, meth_inst h LB.FlowRun.cls LB.FlowRun_value_of_name.get LB.FlowRun_value_of_name.ty h3,
    meth_inst h LB.FlowRun.cls LB.FlowRun_store.get LB.FlowRun_store.ty h4, meth_inst h LB.FlowRun.cls LB.FlowRun_go.get LB.FlowRun_go.ty h5⟩

/-- what worth_of reckons -/
structure WorthOk (c : Ctx) (aW : Addr) (w : Wf) (dW : Nat) : Prop where
  hand : handedIn (.ref aW) = true
  keep : keepIn c.K (.ref aW) = true
  pos : 1 ≤ dW
  call : ∀ (σ : Sto) (t : Tree) (kv : Nat) (vals : Str → Option Int) (Q : V → Sto → Prop), σ kv = some (.dictS fun x => (vals x).map .int) → Q (.int (w t vals)) σ → CodeOk c dW (.ref aW) [encT t, .ref kv] σ Q

variable {w : Wf} {dW : Nat}
theorem t_worth (LB : Lib c A) (W : WorthOk c aW w dW) (r : RunAt A aW o kp P σ m) {t : Tree} (h : Q (.int (w t m.vals)) σ) : CodeOk c (dW + 1) (.ref A.m_worth) [.ref o.kRun, encT t] σ Q := by
  obtain ⟨f1, f2, f3, f4, f5, f6, f7, f8⟩ := r.f_ LB
  have f3 := f3 W.hand
  refine code_fn2 "self" "tree" LB.FlowRun_worth.fn (by intros; rfl) (by decide +kernel) fun L cdv => ?_
  kat_tups
  kas_types
  refine ok_call ?_ (fun _ => by with_unfolding_all rfl)
  kas_types
  refine ⟨_, rfl, W.keep, ?_⟩
  kas_types
  refine (W.call σ t _ m.vals _ r.vals ?_).f (Nat.le_refl _)
  kas_types
  exact h

theorem t_whole (LB : Lib c A) (W : WorthOk c aW w dW) (r : RunAt A aW o kp P σ m) {t : Tree} (h1 : -32768 ≤ w t m.vals) (h2 : w t m.vals < 32768) (h : Q (.int (w t m.vals)) σ) : CodeOk c (dW + 2) (.ref A.m_whole) [.ref o.kRun, encT t] σ Q := by
  obtain ⟨f1, f2, f3, f4, f5, f6, f7, f8⟩ := r.f_ LB
  obtain ⟨m1, m2, m3, m4, m5⟩ := r.m_ LB
  have hp := W.pos
  refine code_fn2 "self" "tree" LB.FlowRun_whole.fn (by intros; rfl) (by decide +kernel) fun L cdv => ?_
  kat_tups
  kas_types
  with_reducible refine okg_call (‹Lib _ _›).whole_of.ns (‹Lib _ _›).whole_of.keep (by k_updF) (by decide +kernel) (fun _ => by with_unfolding_all rfl) ?_
  kas_types
  with_reducible refine ok_meth ?_ (by with_unfolding_all rfl) (by with_unfolding_all rfl) (by with_unfolding_all rfl) (by with_unfolding_all rfl)
  kas_types
  refine ⟨_, m1, LB.FlowRun_worth.keep, ?_⟩
  kas_types
  refine (t_worth LB W r ?_).f (Nat.le_refl _)
  kas_types
  refine CodeOk.f (t_whole_of LB h1 h2 ?_) (by omega)
  kas_types
  exact h

theorem t_value_of_name (LB : Lib c A) (r : RunAt A aW o kp P σ m) {x : Str} (h : Q (.int ((m.vals x).getD 0)) σ) : CodeOk c 1 (.ref A.m_value_of_name) [.ref o.kRun, .str x] σ Q := by
  obtain ⟨f1, f2, f3, f4, f5, f6, f7, f8⟩ := r.f_ LB
  refine code_fn2 "self" "name" LB.FlowRun_value_of_name.fn (by intros; rfl) (by decide +kernel) fun L cdv => ?_
  kat_tups
  kas_types
  with_reducible refine ok_meth ?_ (by with_unfolding_all rfl) (by with_unfolding_all rfl) (by with_unfolding_all rfl) (by with_unfolding_all rfl)
  kas_types
  refine ⟨_, meth_get r.vals, rfl, ?_⟩
  kas_types
  refine callf_get2 LB.low r.vals ?_
  kas_types
  have : ((m.vals x).map V.int).getD (.int 0) = .int ((m.vals x).getD 0) := by cases m.vals x <;> rfl
  rw [this]; exact h

theorem t_store (LB : Lib c A) (r : RunAt A aW o kp P σ m) {x : Str} {i : Int} (h : Q .none (upd σ o.kVals (.dictS fun y => if y = x then some (.int i) else (m.vals y).map .int))) : CodeOk c 1 (.ref A.m_store) [.ref o.kRun, .str x, .int i] σ Q := by
  obtain ⟨f1, f2, f3, f4, f5, f6, f7, f8⟩ := r.f_ LB
  refine code_fn3 "self" "name" "value" LB.FlowRun_store.fn (by intros; rfl) (by decide +kernel) fun L cdv => ?_
  kat_tups
  refine okb_assign ?_ (by with_unfolding_all rfl) (by with_unfolding_all rfl) (by with_unfolding_all rfl)
  kas_types
  refine oka_sub ?_
  kas_types
  refine set_dictS r.vals ⟨names9, by decide, fun k hk => r.few k (fun e => hk (by show Option.map V.int (m.vals k) = none; rw [e]; rfl))⟩ ?_
  kas_types
  exact h
end

end

-- E6
section
section
variable {c : Ctx} {A : Ads} {aW : Addr} {o : Objs} {kp : Nat} {P : Prg} {m m' : Ms} {d : Nat} {env : Env} {lk : Loc} {σ σ' : Sto} {pos : Pos} {QX : Fl → Loc → Sto → Prop} {Q : V → Sto → Prop} {w : Wf} {dW : Nat}

theorem t_jump_ifnot (LB : Lib c A) (W : WorthOk c aW w dW) (r : RunAt A aW o kp P σ m) {pc n : Nat} {t : Tree} (h : Q (.int (if w t m.vals ≠ 0 then (pc : Int) + 1 else n)) σ) :
    CodeOk c (dW + 4) (.ref A.f_do_jump) [.ref o.kRun, .int pc, .tup [.str "IFNOT", encT t, .int n]] σ Q := by
  obtain ⟨m1, m2, m3, m4, m5⟩ := r.m_ LB
  refine code_fn3 "run" "at" "statement" LB.do_jump.fn (by intros; rfl) (by decide +kernel) fun L cdv => ?_
  kat_tups
  kas_types
  with_reducible refine okg_call (‹Lib _ _›).is_true.ns (‹Lib _ _›).is_true.keep (by k_updF) (by decide +kernel) (fun _ => by with_unfolding_all rfl) ?_
  kas_types
  with_reducible refine ok_meth ?_ (by with_unfolding_all rfl) (by with_unfolding_all rfl) (by with_unfolding_all rfl) (by with_unfolding_all rfl)
  kas_types
  refine ⟨_, m1, LB.FlowRun_worth.keep, ?_⟩
  kas_types
  refine (t_worth LB W r ?_).f (by omega)
  kas_types
  refine (t_is_true LB ?_).f (by omega)
  refine t_ndec (fun e => ?_) (fun e => ?_)
  · rw [if_pos e] at h
    kas_types
    exact h
  · rw [if_neg (fun q => q e)] at h
    kas_types
    exact h

theorem t_jump_jump (LB : Lib c A) {pc n : Int} {kR : Nat} (h : Q (.int n) σ) : CodeOk c (dW + 4) (.ref A.f_do_jump) [.ref kR, .int pc, .tup [.str "JUMP", .int n]] σ Q := by
  refine code_fn3 "run" "at" "statement" LB.do_jump.fn (by intros; rfl) (by decide +kernel) fun L cdv => ?_
  kat_tups
  kas_types
  exact h

theorem t_jump_goto (LB : Lib c A) (r : RunAt A aW o kp P σ m) {pc l : Int} {n : Nat} (hn : P.places l = some n) (h : Q (.int n) σ) : CodeOk c (dW + 4) (.ref A.f_do_jump) [.ref o.kRun, .int pc, .tup [.str "GOTO", .int l]] σ Q := by
  obtain ⟨f1, f2, f3, f4, f5, f6, f7, f8⟩ := r.f_ LB
  refine code_fn3 "run" "at" "statement" LB.do_jump.fn (by intros; rfl) (by decide +kernel) fun L cdv => ?_
  kat_tups
  kas_types
  with_reducible refine okg_call (‹Lib _ _›).place_of.ns (‹Lib _ _›).place_of.keep (by k_updF) (by decide +kernel) (fun _ => by with_unfolding_all rfl) ?_
  kas_types
  refine (t_place_of (n := .int n) LB r.flat r.places (by rw [hn]; rfl) ?_).f (by omega)
  kas_types
  exact h

theorem t_jump_gosub (LB : Lib c A) (r : RunAt A aW o kp P σ m) {pc n : Nat} {l : Int} (hn : P.places l = some n) (hl : m.pile.length < 20) (h : Q (.int n) (upd σ kp (.list ((m.pile ++ [Ent.gosub (pc + 1)]).map encE)))) : CodeOk c (dW + 4) (.ref A.f_do_jump) [.ref o.kRun, .int pc, .tup [.str "GOSUB", .int l]] σ Q := by
  obtain ⟨f1, f2, f3, f4, f5, f6, f7, f8⟩ := r.f_ LB
  refine code_fn3 "run" "at" "statement" LB.do_jump.fn (by intros; rfl) (by decide +kernel) fun L cdv => ?_
  kat_tups
  kas_types
  with_reducible refine okg_call (‹Lib _ _›).place_of.ns (‹Lib _ _›).place_of.keep (by k_updF) (by decide +kernel) (fun _ => by with_unfolding_all rfl) ?_
  kas_types
  refine (t_place_of (n := .int n) LB r.flat r.places (by rw [hn]; rfl) ?_).f (by omega)
  kas_types
  with_reducible refine okg_call (‹Lib _ _›).gosub.ns (‹Lib _ _›).gosub.keep (by k_updF) (by decide +kernel) (fun _ => by with_unfolding_all rfl) ?_
  kas_types
  refine (t_gosub LB r.ctl r.pile (by simpa using hl) ?_).f (by omega)
  kas_types
  simpa [encE] using h

theorem t_jump_ret (LB : Lib c A) (r : RunAt A aW o kp P σ m) {pc : Int} {p : List Ent} {n : Nat} (hp : m.pile = p ++ [.gosub n]) (hl : p.length < 100)
    (h : ∀ k σ', σ k = none → CtlAt A σ' o.kCtl k → σ' k = some (.list (p.map encE)) → (∀ j, j ≠ k → j ≠ o.kCtl → σ' j = σ j) → Q (.int n) σ') : CodeOk c (dW + 4) (.ref A.f_do_jump) [.ref o.kRun, .int pc, .tup [.str "RETURN", .none]] σ Q := by
  obtain ⟨f1, f2, f3, f4, f5, f6, f7, f8⟩ := r.f_ LB
  have hq := r.pile
  rw [hp, List.map_append] at hq
  refine code_fn3 "run" "at" "statement" LB.do_jump.fn (by intros; rfl) (by decide +kernel) fun L cdv => ?_
  kat_tups
  kas_types
  with_reducible refine okg_call (‹Lib _ _›).return_place.ns (‹Lib _ _›).return_place.keep (by k_updF) (by decide +kernel) (fun _ => by with_unfolding_all rfl) ?_
  kas_types
  refine (t_return_place LB r.ctl hq (by simpa using hl) fun k σ' h1 h2 h3 h4 => ?_).f (by omega)
  kas_types
  refine run_isNone (t := true) rfl ?_
  kas_types
  exact h k σ' h1 h2 h3 h4

theorem t_jump_on0 (LB : Lib c A) (W : WorthOk c aW w dW) (r : RunAt A aW o kp P σ m) {pc : Int} {g : Str} {t : Tree} {ls : List Int} (h0 : 0 ≤ w t m.vals) (h1 : w t m.vals ≤ 255) (h2 : ¬ (1 ≤ w t m.vals ∧ w t m.vals ≤ ls.length)) (hl : ls.length ≤ 1000)
    (h : Q (.int (pc + 1)) σ) : CodeOk c (dW + 4) (.ref A.f_do_jump) [.ref o.kRun, .int pc, .tup [.str "ONGO", .str g, encT t, .lst (ls.map .int)]] σ Q := by
  obtain ⟨m1, m2, m3, m4, m5⟩ := r.m_ LB
  refine code_fn3 "run" "at" "statement" LB.do_jump.fn (by intros; rfl) (by decide +kernel) fun L cdv => ?_
  kat_tups
  kas_types
  with_reducible refine okg_call (‹Lib _ _›).chosen.ns (‹Lib _ _›).chosen.keep (by k_updF) (by decide +kernel) (fun _ => by with_unfolding_all rfl) ?_
  kas_types
  with_reducible refine ok_meth ?_ (by with_unfolding_all rfl) (by with_unfolding_all rfl) (by with_unfolding_all rfl) (by with_unfolding_all rfl)
  kas_types
  refine ⟨_, m2, LB.FlowRun_whole.keep, ?_⟩
  kas_types
  refine (t_whole LB W r (by omega) (by omega) ?_).f (by omega)
  kas_types
  refine callf_len (.inr (.inl rfl)) (le_line (by simp; omega)) ?_
  kas_types
  refine (t_chosen (n := (ls.map V.int).length) LB h0 h1 ?_).f (by omega)
  rw [if_neg (by simpa using h2)]
  kas_types
  refine run_isNone (t := true) rfl ?_
  kas_types
  exact h

theorem t_jump_on1 (LB : Lib c A) (W : WorthOk c aW w dW) (r : RunAt A aW o kp P σ m) {pc : Nat} {g : Str} {t : Tree} {ls : List Int} {l : Int} {n : Nat} (h0 : 1 ≤ w t m.vals) (h1 : w t m.vals ≤ 255) (hl : ls.length ≤ 1000) (h2 : ls[(w t m.vals - 1).toNat]? = some l) (hn : P.places l = some n)
    (hg : (g == "GOSUB") = false) (h : Q (.int n) σ) : CodeOk c (dW + 4) (.ref A.f_do_jump) [.ref o.kRun, .int pc, .tup [.str "ONGO", .str g, encT t, .lst (ls.map .int)]] σ Q := by
  obtain ⟨m1, m2, m3, m4, m5⟩ := r.m_ LB
  obtain ⟨f1, f2, f3, f4, f5, f6, f7, f8⟩ := r.f_ LB
  have hlt := (List.getElem?_eq_some_iff.mp h2).1
  refine code_fn3 "run" "at" "statement" LB.do_jump.fn (by intros; rfl) (by decide +kernel) fun L cdv => ?_
  kat_tups
  kas_types
  with_reducible refine okg_call (‹Lib _ _›).chosen.ns (‹Lib _ _›).chosen.keep (by k_updF) (by decide +kernel) (fun _ => by with_unfolding_all rfl) ?_
  kas_types
  with_reducible refine ok_meth ?_ (by with_unfolding_all rfl) (by with_unfolding_all rfl) (by with_unfolding_all rfl) (by with_unfolding_all rfl)
  kas_types
  refine ⟨_, m2, LB.FlowRun_whole.keep, ?_⟩
  kas_types
  refine (t_whole LB W r (by omega) (by omega) ?_).f (by omega)
  kas_types
  refine callf_len (.inr (.inl rfl)) (le_line (by simp; omega)) ?_
  kas_types
  refine (t_chosen (n := (ls.map V.int).length) LB (by omega) h1 ?_).f (by omega)
  rw [if_pos ⟨h0, by simp; omega⟩]
  kas_types
  refine run_isNone (t := false) rfl ?_
  kas_types
  refine okb_swap2 "word" "line" ?_ (by with_unfolding_all rfl) (by with_unfolding_all rfl) (by k_upd) (by k_upd)
  kas_types
  refine item_lst plainI (by omega) (by omega) (y := .int l) (by rw [List.getElem?_map, h2]; rfl) ?_
  kas_types
  with_reducible refine okg_call (‹Lib _ _›).place_of.ns (‹Lib _ _›).place_of.keep (by k_updF) (by decide +kernel) (fun _ => by with_unfolding_all rfl) ?_
  kas_types
  refine (t_place_of (n := .int n) LB r.flat r.places (by rw [hn]; rfl) ?_).f (by omega)
  kas_types
  rw [hg]
  kas_types
  exact h

theorem t_jump_on2 (LB : Lib c A) (W : WorthOk c aW w dW) (r : RunAt A aW o kp P σ m) {pc : Nat} {t : Tree} {ls : List Int} {l : Int} {n : Nat} (h0 : 1 ≤ w t m.vals) (h1 : w t m.vals ≤ 255) (hl : ls.length ≤ 1000) (h2 : ls[(w t m.vals - 1).toNat]? = some l) (hn : P.places l = some n)
    (hp : m.pile.length < 20) (h : Q (.int n) (upd σ kp (.list ((m.pile ++ [Ent.gosub (pc + 1)]).map encE)))) : CodeOk c (dW + 4) (.ref A.f_do_jump) [.ref o.kRun, .int pc, .tup [.str "ONGO", .str "GOSUB", encT t, .lst (ls.map .int)]] σ Q := by
  obtain ⟨m1, m2, m3, m4, m5⟩ := r.m_ LB
  obtain ⟨f1, f2, f3, f4, f5, f6, f7, f8⟩ := r.f_ LB
  have hlt := (List.getElem?_eq_some_iff.mp h2).1
  refine code_fn3 "run" "at" "statement" LB.do_jump.fn (by intros; rfl) (by decide +kernel) fun L cdv => ?_
  kat_tups
  kas_types
  with_reducible refine okg_call (‹Lib _ _›).chosen.ns (‹Lib _ _›).chosen.keep (by k_updF) (by decide +kernel) (fun _ => by with_unfolding_all rfl) ?_
  kas_types
  with_reducible refine ok_meth ?_ (by with_unfolding_all rfl) (by with_unfolding_all rfl) (by with_unfolding_all rfl) (by with_unfolding_all rfl)
  kas_types
  refine ⟨_, m2, LB.FlowRun_whole.keep, ?_⟩
  kas_types
  refine (t_whole LB W r (by omega) (by omega) ?_).f (by omega)
  kas_types
  refine callf_len (.inr (.inl rfl)) (le_line (by simp; omega)) ?_
  kas_types
  refine (t_chosen (n := (ls.map V.int).length) LB (by omega) h1 ?_).f (by omega)
  rw [if_pos ⟨h0, by simp; omega⟩]
  kas_types
  refine run_isNone (t := false) rfl ?_
  kas_types
  refine okb_swap2 "word" "line" ?_ (by with_unfolding_all rfl) (by with_unfolding_all rfl) (by k_upd) (by k_upd)
  kas_types
  refine item_lst plainI (by omega) (by omega) (y := .int l) (by rw [List.getElem?_map, h2]; rfl) ?_
  kas_types
  with_reducible refine okg_call (‹Lib _ _›).place_of.ns (‹Lib _ _›).place_of.keep (by k_updF) (by decide +kernel) (fun _ => by with_unfolding_all rfl) ?_
  kas_types
  refine (t_place_of (n := .int n) LB r.flat r.places (by rw [hn]; rfl) ?_).f (by omega)
  kas_types
  with_reducible refine okg_call (‹Lib _ _›).gosub.ns (‹Lib _ _›).gosub.keep (by k_updF) (by decide +kernel) (fun _ => by with_unfolding_all rfl) ?_
  kas_types
  refine (t_gosub LB r.ctl r.pile (by simpa using hp) ?_).f (by omega)
  kas_types
  simpa [encE] using h

theorem t_loop_while1 (LB : Lib c A) (W : WorthOk c aW w dW) (r : RunAt A aW o kp P σ m) {pc : Nat} {t : Tree} (ht : w t m.vals ≠ 0) (hp : m.pile = []) (h : Q (.int (pc + 1)) (upd σ kp (.list ([Ent.whil pc].map encE)))) :
    CodeOk c (dW + 4) (.ref A.f_do_loop) [.ref o.kRun, .int pc, .tup [.str "WHILE", encT t]] σ Q := by
  obtain ⟨m1, m2, m3, m4, m5⟩ := r.m_ LB
  obtain ⟨f1, f2, f3, f4, f5, f6, f7, f8⟩ := r.f_ LB
  have hq := r.pile
  rw [hp] at hq
  refine code_fn3 "run" "at" "statement" LB.do_loop.fn (by intros; rfl) (by decide +kernel) fun L cdv => ?_
  kat_tups
  kas_types
  with_reducible refine okg_call (‹Lib _ _›).is_true.ns (‹Lib _ _›).is_true.keep (by k_updF) (by decide +kernel) (fun _ => by with_unfolding_all rfl) ?_
  kas_types
  with_reducible refine ok_meth ?_ (by with_unfolding_all rfl) (by with_unfolding_all rfl) (by with_unfolding_all rfl) (by with_unfolding_all rfl)
  kas_types
  refine ⟨_, m1, LB.FlowRun_worth.keep, ?_⟩
  kas_types
  refine (t_worth LB W r ?_).f (by omega)
  kas_types
  refine (t_is_true LB ?_).f (by omega)
  rw [decide_eq_false ht]
  refine ⟨_, rfl, b_true ?_⟩
  kas_types
  with_reducible refine okg_call (‹Lib _ _›).while_begin.ns (‹Lib _ _›).while_begin.keep (by k_updF) (by decide +kernel) (fun _ => by with_unfolding_all rfl) ?_
  kas_types
  refine (t_while_begin0 LB r.ctl hq ?_).f (by omega)
  kas_types
  exact h

theorem t_loop_while2 (LB : Lib c A) (W : WorthOk c aW w dW) (r : RunAt A aW o kp P σ m) {pc : Nat} {t : Tree} (ht : w t m.vals ≠ 0) (hp : m.pile = [.whil pc])
    (h : ∀ k σ', σ k = none → CtlAt A σ' o.kCtl k → σ' k = some (.list ([Ent.whil pc].map encE)) → (∀ j, j ≠ k → j ≠ o.kCtl → σ' j = σ j) → Q (.int (pc + 1)) σ') :
    CodeOk c (dW + 4) (.ref A.f_do_loop) [.ref o.kRun, .int pc, .tup [.str "WHILE", encT t]] σ Q := by
  obtain ⟨m1, m2, m3, m4, m5⟩ := r.m_ LB
  obtain ⟨f1, f2, f3, f4, f5, f6, f7, f8⟩ := r.f_ LB
  have hq := r.pile
  rw [hp] at hq
  refine code_fn3 "run" "at" "statement" LB.do_loop.fn (by intros; rfl) (by decide +kernel) fun L cdv => ?_
  kat_tups
  kas_types
  with_reducible refine okg_call (‹Lib _ _›).is_true.ns (‹Lib _ _›).is_true.keep (by k_updF) (by decide +kernel) (fun _ => by with_unfolding_all rfl) ?_
  kas_types
  with_reducible refine ok_meth ?_ (by with_unfolding_all rfl) (by with_unfolding_all rfl) (by with_unfolding_all rfl) (by with_unfolding_all rfl)
  kas_types
  refine ⟨_, m1, LB.FlowRun_worth.keep, ?_⟩
  kas_types
  refine (t_worth LB W r ?_).f (by omega)
  kas_types
  refine (t_is_true LB ?_).f (by omega)
  rw [decide_eq_false ht]
  refine ⟨_, rfl, b_true ?_⟩
  kas_types
  with_reducible refine okg_call (‹Lib _ _›).while_begin.ns (‹Lib _ _›).while_begin.keep (by k_updF) (by decide +kernel) (fun _ => by with_unfolding_all rfl) ?_
  kas_types
  refine (t_while_begin1 LB r.ctl hq fun k σ' h1 h2 h3 h4 => ?_).f (by omega)
  kas_types
  exact h k σ' h1 h2 h3 h4

theorem t_loop_while3 (LB : Lib c A) (W : WorthOk c aW w dW) (r : RunAt A aW o kp P σ m) {pc n : Nat} {t : Tree} (ht : w t m.vals = 0) (hp : m.pile = [.whil pc]) (hn : P.pairs pc = some n)
    (h : ∀ k σ', σ k = none → CtlAt A σ' o.kCtl k → σ' k = some (.list (([] : List Ent).map encE)) → (∀ j, j ≠ k → j ≠ o.kCtl → σ' j = σ j) → Q (.int (n + 1)) σ') :
    CodeOk c (dW + 4) (.ref A.f_do_loop) [.ref o.kRun, .int pc, .tup [.str "WHILE", encT t]] σ Q := by
  obtain ⟨m1, m2, m3, m4, m5⟩ := r.m_ LB
  obtain ⟨f1, f2, f3, f4, f5, f6, f7, f8⟩ := r.f_ LB
  have hq := r.pile
  rw [hp] at hq
  refine code_fn3 "run" "at" "statement" LB.do_loop.fn (by intros; rfl) (by decide +kernel) fun L cdv => ?_
  kat_tups
  kas_types
  with_reducible refine okg_call (‹Lib _ _›).is_true.ns (‹Lib _ _›).is_true.keep (by k_updF) (by decide +kernel) (fun _ => by with_unfolding_all rfl) ?_
  kas_types
  with_reducible refine ok_meth ?_ (by with_unfolding_all rfl) (by with_unfolding_all rfl) (by with_unfolding_all rfl) (by with_unfolding_all rfl)
  kas_types
  refine ⟨_, m1, LB.FlowRun_worth.keep, ?_⟩
  kas_types
  refine (t_worth LB W r ?_).f (by omega)
  kas_types
  refine (t_is_true LB ?_).f (by omega)
  rw [decide_eq_true ht]
  refine ⟨_, rfl, b_false ?_⟩
  kas_types
  with_reducible refine okg_call (‹Lib _ _›).while_end.ns (‹Lib _ _›).while_end.keep (by k_updF) (by decide +kernel) (fun _ => by with_unfolding_all rfl) ?_
  kas_types
  refine (t_while_end LB r.ctl hq fun k σ' h1 h2 h3 h4 => ?_).f (by omega)
  have r' : RunAt A aW o k P σ' { m with pile := [] } := (r.newPile (m' := { m with pile := [] }) h1 h2 h3 h4 rfl rfl).1
  obtain ⟨f1', f2', f3', f4', f5', f6', f7', f8'⟩ := r'.f_ LB
  kas_types
  with_reducible refine okg_call (‹Lib _ _›).end_of_while.ns (‹Lib _ _›).end_of_while.keep (by k_updF) (by decide +kernel) (fun _ => by with_unfolding_all rfl) ?_
  kas_types
  obtain ⟨g, hg, qg⟩ := r'.pairs
  refine (t_end_of_while (n := .int n) LB r'.flat hg (by rw [qg, hn]; rfl) ?_).f (by omega)
  kas_types
  exact h k σ' h1 h2 h3 h4

theorem t_loop_wend (LB : Lib c A) (r : RunAt A aW o kp P σ m) {pc n : Nat} (hp : m.pile = [.whil n]) (hn : P.pairs pc = some n) (hd : 1 ≤ dW)
    (h : ∀ k σ', σ k = none → CtlAt A σ' o.kCtl k → σ' k = some (.list ([Ent.whil n].map encE)) → (∀ j, j ≠ k → j ≠ o.kCtl → σ' j = σ j) → Q (.int n) σ') :
    CodeOk c (dW + 4) (.ref A.f_do_loop) [.ref o.kRun, .int pc, .tup [.str "WEND"]] σ Q := by
  obtain ⟨f1, f2, f3, f4, f5, f6, f7, f8⟩ := r.f_ LB
  have hq := r.pile
  rw [hp] at hq
  refine code_fn3 "run" "at" "statement" LB.do_loop.fn (by intros; rfl) (by decide +kernel) fun L cdv => ?_
  kat_tups
  kas_types
  with_reducible refine okg_call (‹Lib _ _›).wend_place.ns (‹Lib _ _›).wend_place.keep (by k_updF) (by decide +kernel) (fun _ => by with_unfolding_all rfl) ?_
  kas_types
  with_reducible refine okg_call (‹Lib _ _›).end_of_while.ns (‹Lib _ _›).end_of_while.keep (by k_updF) (by decide +kernel) (fun _ => by with_unfolding_all rfl) ?_
  kas_types
  obtain ⟨g, hg, qg⟩ := r.pairs
  refine (t_end_of_while (n := .int n) LB r.flat hg (by rw [qg, hn]; rfl) ?_).f (by omega)
  kas_types
  refine (t_wend_place LB r.ctl hq fun k σ' h1 h2 h3 h4 => ?_).f (by omega)
  kas_types
  exact h k σ' h1 h2 h3 h4
end

end

-- E7
section
section
variable {c : Ctx} {A : Ads} {aW : Addr} {o : Objs} {kp : Nat} {P : Prg} {m m' : Ms} {d : Nat} {env : Env} {lk : Loc} {σ σ' : Sto} {pos : Pos} {QX : Fl → Loc → Sto → Prop} {Q : V → Sto → Prop} {w : Wf} {dW : Nat}
/-- how a loop's body may end, told by the loop's invariant -/
noncomputable def LoopJ (S : Sto → Prop) (J : List V → Loc → Sto → Prop) (QX : Fl → Loc → Sto → Prop) (r : List V) (fl : Fl) (lk : Loc) (σ : Sto) : Prop := match fl with
  | .next => S σ ∧ ∃ lk', Sub lk' lk ∧ J r lk' σ
  | .cont => S σ ∧ ∃ lk', Sub lk' lk ∧ J r lk' σ
  | .brk => QX .next lk σ
  | .ret y => QX (.ret y) lk σ
theorem loopj_ret {S : Sto → Prop} {J : List V → Loc → Sto → Prop} {r : List V} {y : V} (h : QX (.ret y) lk σ) : LoopJ S J QX r (.ret y) lk σ := h
theorem loop_invA {target : Expr} {body : List Stmt} {S : Sto → Prop} (J : List V → Loc → Sto → Prop)
    (hs : ∀ (QB : Fl → Loc → Sto → Prop) y r lk₁ σ₁, J (y :: r) lk₁ σ₁ → (∀ fl lk₂ σ₂, LoopJ S J QX r fl lk₂ σ₂ → QB fl lk₂ σ₂) → OkA c d env target y lk₁ σ₁ (fun lk₂ σ₂ => OkB c d env body lk₂ σ₂ QB))
    (hn : ∀ lk₁ σ₁, J [] lk₁ σ₁ → QX .next lk₁ σ₁) {xs : List V} : ∀ {lk : Loc} {σ : Sto}, J xs lk σ → LoopOk c d env target body S QX xs lk σ := by
  induction xs with
  | nil => exact fun h => loop_nil (hn _ _ h)
  | cons y r ih => exact fun h => hs _ y r _ _ h fun fl lk₂ σ₂ q => match fl, q with
    | .next, q => ⟨q.1, q.2.imp fun _ z => ⟨z.1, ih z.2⟩⟩
    | .cont, q => ⟨q.1, q.2.imp fun _ z => ⟨z.1, ih z.2⟩⟩
    | .brk, q => q
    | .ret _, q => q
theorem loop_inv1 {x : Str} {p : Pos} {body : List Stmt} {S : Sto → Prop} (J : List V → Loc → Sto → Prop) (hk : StoK env x)
    (hs : ∀ (QB : Fl → Loc → Sto → Prop) y r lk₁ σ₁, J (y :: r) lk₁ σ₁ → (∀ fl lk₂ σ₂, LoopJ S J QX r fl lk₂ σ₂ → QB fl lk₂ σ₂) → OkB c d env body (put x y lk₁) σ₁ QB)
    (hn : ∀ lk₁ σ₁, J [] lk₁ σ₁ → QX .next lk₁ σ₁) {xs : List V} (h : J xs lk σ) : LoopOk c d env (.Name x p) body S QX xs lk σ := loop_invA J (fun QB y r lk₁ σ₁ a b => oka_name (hs QB y r lk₁ σ₁ a b) hk) hn h
theorem loop_inv2 {x z : Str} {p p' pp : Pos} {k : Nat} {body : List Stmt} {S : Sto → Prop} (J : List V → Loc → Sto → Prop) (hk : StoK env x) (hk' : StoK env z)
    (hs : ∀ (QB : Fl → Loc → Sto → Prop) y r lk₁ σ₁, J (y :: r) lk₁ σ₁ → (∀ fl lk₂ σ₂, LoopJ S J QX r fl lk₂ σ₂ → QB fl lk₂ σ₂) → ∃ a b, y = .tup [a, b] ∧ OkB c d env body (put z b (put x a lk₁)) σ₁ QB)
    (hn : ∀ lk₁ σ₁, J [] lk₁ σ₁ → QX .next lk₁ σ₁) {xs : List V} (h : J xs lk σ) : LoopOk c d env (.Tuple [.Name x p, .Name z p'] k pp) body S QX xs lk σ :=
  loop_invA J (fun QB y r lk₁ σ₁ j q => by
    obtain ⟨a, b, rfl, h⟩ := hs QB y r lk₁ σ₁ j q
    exact oka_tuple (okas_cons (oka_name (okas_cons (oka_name (okas_nil h) hk') rfl) hk) rfl) rfl rfl) hn h
/-- a comprehension, told by its invariant -/
theorem comp_invA {cenv : Env} {target elt : Expr} {S : Sto → Prop} {QC : List V → Sto → Prop} (J : List V → List V → Sto → Prop)
    (hs : ∀ (QE : V → Sto → Prop) y r acc σ₁, J (y :: r) acc σ₁ → (∀ z σ₂, S σ₂ → J r (acc ++ [z]) σ₂ → QE z σ₂) → acc.length ≤ sizeLine ∧ OkA c d cenv target y lk σ₁ (fun lk₁ σ₂ => Sub lk lk₁ ∧ Ok c d cenv elt lk₁ σ₂ QE))
    (hn : ∀ acc σ₁, J [] acc σ₁ → QC acc σ₁) {xs : List V} : ∀ {acc : List V} {σ : Sto}, J xs acc σ → CompOk c d cenv target [] elt lk S QC xs acc σ := by
  induction xs with
  | nil => exact fun h => hn _ _ h
  | cons y r ih =>
    intro acc σ h
    have z := hs (fun z σ₂ => S σ₂ ∧ CompOk c d cenv target [] elt lk S QC r (acc ++ [z]) σ₂) y r acc σ h fun z σ₂ a b => ⟨a, ih b⟩
    exact ⟨z.1, fun A s μ v Qr Er ok r f hv q => z.2 A s μ v Qr Er ok r f hv fun s' lk' σ' μ' w => q s' lk' σ' μ' ⟨w.1, fun _ => w.2, fun e => nomatch e⟩⟩
theorem comp_inv1 {cenv : Env} {x : Str} {p : Pos} {elt : Expr} {S : Sto → Prop} {QC : List V → Sto → Prop} (J : List V → List V → Sto → Prop) (hk : StoK cenv x) (hx : lk.lookup x = none)
    (hs : ∀ (QE : V → Sto → Prop) y r acc σ₁, J (y :: r) acc σ₁ → (∀ z σ₂, S σ₂ → J r (acc ++ [z]) σ₂ → QE z σ₂) → acc.length ≤ sizeLine ∧ Ok c d cenv elt (put x y lk) σ₁ QE)
    (hn : ∀ acc σ₁, J [] acc σ₁ → QC acc σ₁) {xs acc : List V} (h : J xs acc σ) : CompOk c d cenv (.Name x p) [] elt lk S QC xs acc σ :=
  comp_invA J (fun QE y r acc σ₁ a b => have z := hs QE y r acc σ₁ a b; ⟨z.1, oka_name ⟨sub_put hx, z.2⟩ hk⟩) hn h
theorem comp_inv2 {cenv : Env} {x z : Str} {p p' pp : Pos} {k : Nat} {elt : Expr} {S : Sto → Prop} {QC : List V → Sto → Prop} (J : List V → List V → Sto → Prop) (hk : StoK cenv x) (hk' : StoK cenv z) (hx : lk.lookup x = none) (hx' : lk.lookup z = none) (hxz : (z == x) = false)
    (hs : ∀ (QE : V → Sto → Prop) y r acc σ₁, J (y :: r) acc σ₁ → (∀ z σ₂, S σ₂ → J r (acc ++ [z]) σ₂ → QE z σ₂) → acc.length ≤ sizeLine ∧ ∃ a b, y = .tup [a, b] ∧ Ok c d cenv elt (put z b (put x a lk)) σ₁ QE)
    (hn : ∀ acc σ₁, J [] acc σ₁ → QC acc σ₁) {xs acc : List V} (h : J xs acc σ) : CompOk c d cenv (.Tuple [.Name x p, .Name z p'] k pp) [] elt lk S QC xs acc σ :=
  comp_invA J (fun QE y r acc σ₁ j q => by
    obtain ⟨h1, a, b, rfl, h⟩ := hs QE y r acc σ₁ j q
    exact ⟨h1, oka_tuple (okas_cons (oka_name (okas_cons (oka_name (okas_nil ⟨(sub_put hx).trans (sub_put (none_put hxz hx')), h⟩) hk') rfl) hk) rfl) rfl rfl⟩) hn h

noncomputable def jumpWords : List Str := ["IFNOT", "JUMP", "GOTO", "GOSUB", "ONGO", "RETURN"]
theorem t_flow_jump (LB : Lib c A) {rest : List V} {wd : Str} {a b : V} (hw : V.str wd ∈ [V.str "IFNOT", V.str "JUMP", V.str "GOTO", V.str "GOSUB", V.str "ONGO", V.str "RETURN"]) (hp : V.plain 8 (.str wd) = true)
    (h : CodeOk c (dW + 4) (.ref A.f_do_jump) [a, b, .tup (.str wd :: rest)] σ Q) : CodeOk c (dW + 5) (.ref A.f_do_flow) [a, b, .tup (.str wd :: rest)] σ Q := by
  refine code_fn3 "run" "at" "statement" LB.do_flow.fn (by intros; rfl) (by decide +kernel) fun L cdv => ?_
  kat_tups
  kas_types
  refine okgv LB.jumps LB.jumpsV (by k_updF) (by decide +kernel) ?_
  refine run_in_t hp (by with_unfolding_all rfl) hw ?_
  kas_types
  with_reducible refine okg_call (‹Lib _ _›).do_jump.ns (‹Lib _ _›).do_jump.keep (by k_updF) (by decide +kernel) (fun _ => by with_unfolding_all rfl) ?_
  kas_types
  exact h.f (Nat.le_refl _)

theorem t_flow_loop (LB : Lib c A) {rest : List V} {wd : Str} {a b : V} (hw : V.str wd ∉ [V.str "IFNOT", V.str "JUMP", V.str "GOTO", V.str "GOSUB", V.str "ONGO", V.str "RETURN"]) (hp : V.plain 8 (.str wd) = true)
    (h : CodeOk c (dW + 4) (.ref A.f_do_loop) [a, b, .tup (.str wd :: rest)] σ Q) : CodeOk c (dW + 5) (.ref A.f_do_flow) [a, b, .tup (.str wd :: rest)] σ Q := by
  refine code_fn3 "run" "at" "statement" LB.do_flow.fn (by intros; rfl) (by decide +kernel) fun L cdv => ?_
  kat_tups
  kas_types
  refine okgv LB.jumps LB.jumpsV (by k_updF) (by decide +kernel) ?_
  refine run_in_f hp (by with_unfolding_all rfl) hw ?_
  kas_types
  with_reducible refine okg_call (‹Lib _ _›).do_loop.ns (‹Lib _ _›).do_loop.keep (by k_updF) (by decide +kernel) (fun _ => by with_unfolding_all rfl) ?_
  kas_types
  exact h.f (Nat.le_refl _)

noncomputable def flowRow : Row → Bool
  | .st (.let_ ..) => false
  | .st (.rem ..) => false
  | .st .end_ => false
  | _ => true

theorem getLast_gosub {p : List Ent} {n : Nat} (h : p.getLast? = some (.gosub n)) : p = p.dropLast ++ [.gosub n] := by
  obtain ⟨q, rfl⟩ := List.getLast?_eq_some_iff.mp h
  simp

theorem notin_strs {wd : Str} {l : List Str} (h : l.contains wd = false) : V.str wd ∉ l.map V.str := fun hm => (List.mem_map.mp hm).elim fun x z => absurd (List.contains_iff_mem.mpr (V.str.inj z.2 ▸ z.1)) (h ▸ Bool.false_ne_true)
theorem t_do_flow (LB : Lib c A) (W : WorthOk c aW w dW) (r : RunAt A aW o kp P σ m) {row : Row} (hf : flowRow row = true) (hs : step w P m row = .ok m') (hl : ∀ g t ls, row = .st (.ongo g t ls) → ls.length ≤ 1000) (hp : m.pile.length < 50)
    (h : ∀ σ' kp', RunAt A aW o kp' P σ' m' → Keep o kp σ σ' → (kp' = kp ∨ σ kp' = none) → m'.notes = m.notes → Q (.int m'.pc) σ') :
    CodeOk c (dW + 5) (.ref A.f_do_flow) [.ref o.kRun, .int m.pc, encR row] σ Q := by
  have sameQ : ∀ (k : Nat), { m with pc := k } = m' → Q (.int k) σ := fun k e => by
    subst e
    exact h σ kp (r.same rfl rfl rfl) (Keep.refl _ _ _) (.inl rfl) rfl
  cases row with
  | ifnot t n =>
    replace hs := Except.ok.inj hs
    refine t_flow_jump LB (.head _) (by with_unfolding_all rfl) (t_jump_ifnot LB W r ?_)
    have := sameQ _ hs
    by_cases q : w t m.vals ≠ 0
    · rw [if_pos q] at this ⊢; simpa using this
    · rw [if_neg q] at this ⊢; exact this
  | jump n =>
    replace hs := Except.ok.inj hs
    exact t_flow_jump LB (.tail _ (.head _)) (by with_unfolding_all rfl) (t_jump_jump LB (by simpa using sameQ _ hs))
  | st s =>
    cases s with
    | let_ x t => cases hf
    | rem s => cases hf
    | end_ => cases hf
    | if_ t a b => cases hs
    | goto l =>
      dsimp only [step] at hs
      cases hn : P.places l with
      | none => rw [hn] at hs; cases hs
      | some n =>
        rw [hn] at hs
        replace hs := Except.ok.inj hs
        exact t_flow_jump LB (.tail _ (.tail _ (.head _))) (by with_unfolding_all rfl) (t_jump_goto LB r hn (by simpa using sameQ _ hs))
    | gosub l =>
      dsimp only [step] at hs
      cases hn : P.places l with
      | none => rw [hn] at hs; cases hs
      | some n =>
        rw [hn] at hs
        simp only at hs
        split at hs
        · rename_i hlt
          replace hs := Except.ok.inj hs
          subst hs
          obtain ⟨r', k'⟩ := r.setPile (m' := { m with pc := n, pile := m.pile ++ [.gosub (m.pc + 1)] }) rfl rfl
          exact t_flow_jump LB (.tail _ (.tail _ (.tail _ (.head _)))) (by with_unfolding_all rfl) (t_jump_gosub LB r hn hlt (h _ _ r' k' (.inl rfl) rfl))
        · cases hs
    | ret =>
      dsimp only [step] at hs
      cases hq : m.pile.getLast? with
      | none => rw [hq] at hs; cases hs
      | some e =>
        rw [hq] at hs
        cases e with
        | whil n => cases hs
        | gosub n =>
          replace hs := Except.ok.inj hs
          subst hs
          have hpl := getLast_gosub hq
          refine t_flow_jump LB (.tail _ (.tail _ (.tail _ (.tail _ (.tail _ (.head _)))))) (by with_unfolding_all rfl) (t_jump_ret LB r hpl (by rw [List.length_dropLast]; omega) fun k σ' h1 h2 h3 h4 => ?_)
          obtain ⟨r', k'⟩ := r.newPile (m' := { m with pc := n, pile := m.pile.dropLast }) h1 h2 h3 h4 rfl rfl
          simpa using h _ _ r' k' (.inr h1) rfl
    | ongo g t ls =>
      have hls := hl g t ls rfl
      dsimp only [step] at hs
      split at hs
      · rename_i hb
        split at hs
        · rename_i hc
          cases hq : ls[(w t m.vals - 1).toNat]? with
          | none => rw [hq] at hs; cases hs
          | some l =>
            rw [hq] at hs
            simp only [Option.bind_some] at hs
            cases hn : P.places l with
            | none => rw [hn] at hs; cases hs
            | some n =>
              rw [hn] at hs
              simp only at hs
              split at hs
              · rename_i hg
                subst hg
                split at hs
                · rename_i hlt
                  replace hs := Except.ok.inj hs
                  subst hs
                  obtain ⟨r', k'⟩ := r.setPile (m' := { m with pc := n, pile := m.pile ++ [.gosub (m.pc + 1)] }) rfl rfl
                  exact t_flow_jump LB (.tail _ (.tail _ (.tail _ (.tail _ (.head _))))) (by with_unfolding_all rfl) (t_jump_on2 LB W r hc.1 hb.2 hls hq hn hlt (h _ _ r' k' (.inl rfl) rfl))
                · cases hs
              · rename_i hg
                replace hs := Except.ok.inj hs
                exact t_flow_jump LB (.tail _ (.tail _ (.tail _ (.tail _ (.head _))))) (by with_unfolding_all rfl) (t_jump_on1 LB W r hc.1 hb.2 hls hq hn (by simpa using hg) (by simpa using sameQ _ hs))
        · rename_i hc
          replace hs := Except.ok.inj hs
          exact t_flow_jump LB (.tail _ (.tail _ (.tail _ (.tail _ (.head _))))) (by with_unfolding_all rfl) (t_jump_on0 LB W r hb.1 hb.2 hc hls (by simpa using sameQ _ hs))
      · cases hs
    | whil t =>
      dsimp only [step] at hs
      split at hs
      · rename_i ht
        split at hs
        · rename_i hq
          replace hs := Except.ok.inj hs
          subst hs
          obtain ⟨r', k'⟩ := r.setPile (m' := { m with pc := m.pc + 1, pile := [.whil m.pc] }) rfl rfl
          exact t_flow_loop LB (notin_strs (l := ["IFNOT", "JUMP", "GOTO", "GOSUB", "ONGO", "RETURN"]) (by decide +kernel)) (by with_unfolding_all rfl) (t_loop_while1 LB W r ht hq (by simpa using h _ _ r' k' (.inl rfl) rfl))
        · split at hs
          · rename_i hq
            replace hs := Except.ok.inj hs
            subst hs
            refine t_flow_loop LB (notin_strs (l := ["IFNOT", "JUMP", "GOTO", "GOSUB", "ONGO", "RETURN"]) (by decide +kernel)) (by with_unfolding_all rfl) (t_loop_while2 LB W r ht hq fun k σ' h1 h2 h3 h4 => ?_)
            obtain ⟨r', k'⟩ := r.newPile (m' := { m with pc := m.pc + 1 }) h1 h2 (by rw [h3, hq]) h4 rfl rfl
            simpa using h _ _ r' k' (.inr h1) rfl
          · cases hs
      · rename_i ht
        split at hs
        · rename_i hq
          cases hn : P.pairs m.pc with
          | none => rw [hn] at hs; cases hs
          | some n =>
            rw [hn] at hs
            replace hs := Except.ok.inj hs
            subst hs
            refine t_flow_loop LB (notin_strs (l := ["IFNOT", "JUMP", "GOTO", "GOSUB", "ONGO", "RETURN"]) (by decide +kernel)) (by with_unfolding_all rfl) (t_loop_while3 LB W r (by simpa using ht) hq hn fun k σ' h1 h2 h3 h4 => ?_)
            obtain ⟨r', k'⟩ := r.newPile (m' := { m with pc := n + 1, pile := [] }) h1 h2 h3 h4 rfl rfl
            simpa using h _ _ r' k' (.inr h1) rfl
        · cases hs
    | wend =>
      dsimp only [step] at hs
      cases hn : P.pairs m.pc with
      | none => rw [hn] at hs; cases hs
      | some n =>
        rw [hn] at hs
        simp only at hs
        split at hs
        · rename_i hq
          replace hs := Except.ok.inj hs
          subst hs
          refine t_flow_loop LB (notin_strs (l := ["IFNOT", "JUMP", "GOTO", "GOSUB", "ONGO", "RETURN"]) (by decide +kernel)) (by with_unfolding_all rfl) (t_loop_wend LB r hq hn W.pos fun k σ' h1 h2 h3 h4 => ?_)
          obtain ⟨r', k'⟩ := r.newPile (m' := { m with pc := n }) h1 h2 (by rw [h3, hq]) h4 rfl rfl
          simpa using h _ _ r' k' (.inr h1) rfl
        · cases hs

theorem flow_split {row : Row} (h : flowRow row = true) : ∃ wd rest, encR row = .tup (.str wd :: rest) ∧ (wd == ("LET" : Str)) = false ∧ (wd == ("REM" : Str)) = false ∧ (wd == ("END" : Str)) = false := by
  cases row with
  | ifnot t n => exact ⟨"IFNOT", _, rfl, by decide +kernel, by decide +kernel, by decide +kernel⟩
  | jump n => exact ⟨"JUMP", _, rfl, by decide +kernel, by decide +kernel, by decide +kernel⟩
  | st s =>
    cases s with
    | let_ x t => cases h
    | rem s => cases h
    | end_ => cases h
    | goto l => exact ⟨"GOTO", _, rfl, by decide +kernel, by decide +kernel, by decide +kernel⟩
    | gosub l => exact ⟨"GOSUB", _, rfl, by decide +kernel, by decide +kernel, by decide +kernel⟩
    | ongo g t ls => exact ⟨"ONGO", _, rfl, by decide +kernel, by decide +kernel, by decide +kernel⟩
    | ret => exact ⟨"RETURN", _, rfl, by decide +kernel, by decide +kernel, by decide +kernel⟩
    | whil t => exact ⟨"WHILE", _, rfl, by decide +kernel, by decide +kernel, by decide +kernel⟩
    | wend => exact ⟨"WEND", _, rfl, by decide +kernel, by decide +kernel, by decide +kernel⟩
    | if_ t a b => exact ⟨"IF", _, rfl, by decide +kernel, by decide +kernel, by decide +kernel⟩

/-- rows that go can take -/
noncomputable def WfRow (row : Row) : Prop := match row with
  | .st (.let_ x _) => x ∈ names9
  | .st (.ongo _ _ ls) => ls.length ≤ 1000
  | _ => True

theorem goN_done {n : Nat} (h : P.rows.length ≤ m.pc) : goN w P n m = .ok m := by
  cases n with
  | zero => rfl
  | succ n =>
    unfold goN
    rw [List.getElem?_eq_none h]

noncomputable def goQ (Q : V → Sto → Prop) (P : Prg) (n : Nat) (σ : Sto) : Prop := Q (.int (if P.rows.length ≤ n then (n : Int) else -1)) σ

set_option maxHeartbeats 4000000 in
theorem t_go (LB : Lib c A) (W : WorthOk c aW w dW) (hP : ∀ p ∈ P.rows, WfRow p.2) {most : Nat} (r : RunAt A aW o kp P σ m) (hm : goN w P most m = .ok m') (hmost : most ≤ 1000) (hn : m.notes.length + most ≤ 1000) (hpl : ∀ k m₁, goN w P k m = .ok m₁ → m₁.pile.length < 50)
    (h : ∀ σ' kp', RunAt A aW o kp' P σ' m' → Keep o kp σ σ' → goQ Q P m'.pc σ') :
    CodeOk c (dW + 6) (.ref A.m_go) [.ref o.kRun, .int m.pc, .int most] σ Q := by
  refine code_fn3 "self" "at" "most" LB.FlowRun_go.fn (by intros; rfl) (by decide +kernel) fun L cdv => ?_
  kat_tups
  kas_types
  refine ⟨_, rfl, by omega, by omega, trivial, ?_⟩
  rw [Int.toNat_natCast]
  refine loop_inv1 (fun xs lk₁ σ₁ => ∃ (n : Nat) (a : Int) (m₁ : Ms) (kp₁ : Nat), xs = rangeV a 1 n ∧ lk₁ = ([("self", .ref o.kRun), ("at", .int m₁.pc), ("most", .int most)] : Loc) ∧ RunAt A aW o kp₁ P σ₁ m₁ ∧ Keep o kp σ σ₁ ∧ (kp₁ = kp ∨ σ kp₁ = none) ∧
    goN w P n m₁ = .ok m' ∧ m₁.notes.length + n ≤ 1000 ∧ (∀ k m₂, goN w P k m₁ = .ok m₂ → m₂.pile.length < 50)) (by k_upd) (fun QB x xs lk₁ σ₁ hJ hB => ?_) (fun lk₁ σ₁ hJ => ?_) ⟨most, 0, m, kp, rfl, rfl, r, Keep.refl _ _ _, .inl rfl, hm, hn, hpl⟩
  · obtain ⟨n, a, m₁, kp₁, hx, rfl, r₁, k₁, hk₁, hm₁, hn₁, hp₁⟩ := hJ
    cases n with
    | zero => cases hx
    | succ n =>
      rw [rangeV] at hx
      injection hx with hx1 hx2
      subst hx1
      obtain ⟨f1, f2, f3, f4, f5, f6, f7, f8⟩ := r₁.f_ LB
      obtain ⟨e1, e2, e3, e4, e5⟩ := r₁.m_ LB
      have hlen := r₁.len
      kas_types
      refine callf_len (.inr (.inr ⟨_, rfl, r₁.rows⟩)) (le_line (by simp; omega)) ?_
      kas_types
      cases hrow : P.rows[m₁.pc]? with
      | none =>
        have hge := List.getElem?_eq_none_iff.mp hrow
        rw [decide_eq_true (by simp; omega)]
        kas_types
        rw [goN_done hge] at hm₁
        cases hm₁
        have hq := h _ _ r₁ k₁
        unfold goQ at hq
        rw [if_pos hge] at hq
        refine hB (.ret _) _ _ (loopj_ret ?_)
        kas_types
        exact hq
      | some lr =>
        obtain ⟨line, row⟩ := lr
        have hlt := (List.getElem?_eq_some_iff.mp hrow).1
        rw [decide_eq_false (by simp; omega)]
        kas_types
        refine item_cell plainI r₁.rows (by omega) (by omega) (y := encRow (line, row)) (by rw [Int.toNat_natCast, List.getElem?_map, hrow]; rfl) ?_
        show Ok c _ _ _ _ _ _
        unfold encRow
        kas_types
        have hwf := hP _ (List.mem_of_getElem? hrow)
        have hstep : (match step w P m₁ row with | .ok m₂ => goN w P n m₂ | .error e => .error e) = .ok m' := by
          have := hm₁
          unfold goN at this
          rw [hrow] at this
          exact this
        cases hst : step w P m₁ row with
        | error e => rw [hst] at hstep; cases hstep
        | ok m₂ =>
          rw [hst] at hstep
          have hp₂ : ∀ k m₃, goN w P k m₂ = .ok m₃ → m₃.pile.length < 50 := fun k m₃ e => hp₁ (k + 1) m₃ (by
            unfold goN
            rw [hrow]
            show (match step w P m₁ row with | .ok m₂ => goN w P k m₂ | .error e => .error e) = _
            rw [hst]; exact e)
          have next : ∀ {σ₂ kp₂}, RunAt A aW o kp₂ P σ₂ m₂ → Keep o kp₁ σ₁ σ₂ → (kp₂ = kp₁ ∨ σ₁ kp₂ = none) → m₂.notes.length + n ≤ 1000 → ∀ lk₂, Sub ([("self", .ref o.kRun), ("at", .int m₂.pc), ("most", .int most)] : Loc) lk₂ → QB .next lk₂ σ₂ := fun r₂ k₂ e₂ hn₂ lk₂ hs => by
            subst hx2
            exact hB .next lk₂ _ ⟨trivial, _, hs, n, a + 1, m₂, _, rfl, rfl, r₂, k₁.trans k₂ hk₁, e₂.elim (fun e => e ▸ hk₁) fun e => .inr (k₁.dom _ e), hstep, hn₂, hp₂⟩
          by_cases hfl : flowRow row = true
          · obtain ⟨wd, rest, he, w1, w2, w3⟩ := flow_split hfl
            rw [he]
            kas_types
            rw [w1]
            kas_types
            rw [w2]
            kas_types
            rw [w3]
            kas_types
            with_reducible refine okg_call (‹Lib _ _›).do_flow.ns (‹Lib _ _›).do_flow.keep (by k_updF) (by decide +kernel) (fun _ => by with_unfolding_all rfl) ?_
            kas_types
            rw [← he]
            refine (t_do_flow LB W r₁ hfl hst (fun g t ls e => by rw [e] at hwf; exact hwf) (hp₁ 0 m₁ rfl) fun σ₂ kp₂ r₂ k₂ e₂ e₃ => ?_).f (Nat.le_refl _)
            kas_types
            exact next r₂ k₂ e₂ (by rw [e₃]; omega) _ (by keq_rows)
          · cases row with
            | ifnot t n => exact absurd rfl hfl
            | jump n => exact absurd rfl hfl
            | st s =>
              cases s with
              | goto l => exact absurd rfl hfl
              | gosub l => exact absurd rfl hfl
              | ongo g t ls => exact absurd rfl hfl
              | ret => exact absurd rfl hfl
              | whil t => exact absurd rfl hfl
              | wend => exact absurd rfl hfl
              | if_ t a b => exact absurd rfl hfl
              | end_ =>
                replace hst := Except.ok.inj hst
                subst hst
                unfold encR encS
                kas_types
                refine callf_len (.inr (.inr ⟨_, rfl, r₁.rows⟩)) (le_line (by simp; omega)) ?_
                kas_types
                replace hstep : goN w P n { m₁ with pc := P.rows.length } = .ok m' := hstep
                rw [goN_done (Nat.le_refl _)] at hstep
                cases hstep
                have hq := h _ _ (r₁.same (m' := { m₁ with pc := P.rows.length }) rfl rfl rfl) k₁
                unfold goQ at hq
                rw [if_pos (Nat.le_refl _)] at hq
                refine hB (.ret _) _ _ (loopj_ret ?_)
                kas_types
                simpa using hq
              | rem s =>
                replace hst := Except.ok.inj hst
                subst hst
                unfold encR encS
                kas_types
                with_reducible refine ok_meth ?_ (by with_unfolding_all rfl) (by with_unfolding_all rfl) (by with_unfolding_all rfl) (by with_unfolding_all rfl)
                kas_types
                refine ⟨_, meth_append r₁.notes, rfl, ?_⟩
                kas_types
                with_reducible refine ok_meth ?_ (by with_unfolding_all rfl) (by with_unfolding_all rfl) (by with_unfolding_all rfl) (by with_unfolding_all rfl)
                kas_types
                refine ⟨_, e3, LB.FlowRun_value_of_name.keep, ?_⟩
                kas_types
                refine (t_value_of_name LB r₁ ?_).f (by omega)
                kas_types
                refine callf_append r₁.notes (le_line (by simp; omega)) ?_
                refine okb_aug (by kpt_turns) (by k_upd) ?_
                kas_types
                refine run_iadd ?_
                kas_types
                obtain ⟨r₂, k₂⟩ := r₁.addNote (m' := { m₁ with notes := m₁.notes ++ [(s, (m₁.vals "X").getD 0)], pc := m₁.pc + 1 }) rfl rfl
                have nx : ∀ lk₂, Sub ([("self", .ref o.kRun), ("at", .int ((m₁.pc : Int) + 1)), ("most", .int most)] : Loc) lk₂ → QB .next lk₂ _ := next r₂ k₂ (.inl rfl) (by simp; omega)
                simp only [List.map_append] at nx
                exact nx _ (by keq_rows)
              | let_ x t =>
                replace hst := Except.ok.inj hst
                subst hst
                unfold encR encS
                kas_types
                with_reducible refine ok_meth ?_ (by with_unfolding_all rfl) (by with_unfolding_all rfl) (by with_unfolding_all rfl) (by with_unfolding_all rfl)
                kas_types
                refine ⟨_, e4, LB.FlowRun_store.keep, ?_⟩
                kas_types
                with_reducible refine ok_meth ?_ (by with_unfolding_all rfl) (by with_unfolding_all rfl) (by with_unfolding_all rfl) (by with_unfolding_all rfl)
                kas_types
                refine ⟨_, e1, LB.FlowRun_worth.keep, ?_⟩
                kas_types
                refine (t_worth LB W r₁ ?_).f (by omega)
                kas_types
                refine (t_store LB r₁ ?_).f (by omega)
                refine okb_aug (by kpt_turns) (by k_upd) ?_
                kas_types
                refine run_iadd ?_
                kas_types
                obtain ⟨r₂, k₂⟩ := r₁.setVals (m' := { m₁ with vals := fun y => if y = x then some (w t m₁.vals) else m₁.vals y, pc := m₁.pc + 1 }) rfl rfl (fun y hy => by
                  by_cases hyx : y = x
                  · subst hyx; exact hwf
                  · simp only [if_neg hyx] at hy; exact r₁.few y hy)
                have nx : ∀ lk₂, Sub ([("self", .ref o.kRun), ("at", .int ((m₁.pc : Int) + 1)), ("most", .int most)] : Loc) lk₂ → QB .next lk₂ _ := next r₂ k₂ (.inl rfl) (by simpa using (by omega : m₁.notes.length + n ≤ 1000))
                rw [show (fun y => Option.map V.int (if y = x then some (w t m₁.vals) else m₁.vals y)) = (fun y => if y = x then some (.int (w t m₁.vals)) else (m₁.vals y).map .int) from funext fun y => by
                  by_cases hyx : y = x
                  · rw [if_pos hyx, if_pos hyx]; rfl
                  · rw [if_neg hyx, if_neg hyx]] at nx
                exact nx _ (by keq_rows)
  · obtain ⟨n, a, m₁, kp₁, hx, rfl, r₁, k₁, hk₁, hm₁, hn₁, hp₁⟩ := hJ
    cases n with
    | succ n => cases hx
    | zero =>
      cases hm₁
      obtain ⟨f1, f2, f3, f4, f5, f6, f7, f8⟩ := r₁.f_ LB
      have hlen := r₁.len
      kas_types
      refine callf_len (.inr (.inr ⟨_, rfl, r₁.rows⟩)) (le_line (by simp; omega)) ?_
      kas_types
      have hq := h _ _ r₁ k₁
      refine t_dec (fun e => ?_) (fun e => ?_)
      · kas_types
        unfold goQ at hq
        rw [if_pos (by simpa using e)] at hq
        exact hq
      · kas_types
        unfold goQ at hq
        rw [if_neg (by simpa using e)] at hq
        exact hq
end

end

-- E8
section
mutual
noncomputable def depS : St → Nat
  | .if_ _ a b => 1 + max (depSs a) (depSs b)
  | _ => 0
noncomputable def depSs : List St → Nat
  | [] => 0
  | s :: r => max (depS s) (depSs r)
end

section
variable {c : Ctx} {A : Ads} {d : Nat} {env : Env} {lk : Loc} {σ σ' : Sto} {pos : Pos} {QX : Fl → Loc → Sto → Prop} {Q : V → Sto → Prop}

theorem FlatAt.upd_ {kf kr kl kp k : Nat} {x : Cell} (h : FlatAt A σ kf kr kl kp) (hk : kf ≠ k) : FlatAt A (upd σ k x) kf kr kl kp := by
  obtain ⟨n, f, h1, q⟩ := h.at_
  exact ⟨n, f, (upd_ne hk).trans h1, q⟩

/-- the word of a statement -/
theorem encS_word (s : St) : ∃ wd rest, encS s = .tup (.str wd :: rest) ∧ ((wd == ("IF" : Str)) = true ↔ ∃ t a b, s = .if_ t a b) := by
  cases s with
  | let_ x t => exact ⟨"LET", _, rfl, fun h => absurd h (by decide +kernel), fun ⟨_, _, _, h⟩ => by cases h⟩
  | rem s => exact ⟨"REM", _, rfl, fun h => absurd h (by decide +kernel), fun ⟨_, _, _, h⟩ => by cases h⟩
  | end_ => exact ⟨"END", _, rfl, fun h => absurd h (by decide +kernel), fun ⟨_, _, _, h⟩ => by cases h⟩
  | goto l => exact ⟨"GOTO", _, rfl, fun h => absurd h (by decide +kernel), fun ⟨_, _, _, h⟩ => by cases h⟩
  | gosub l => exact ⟨"GOSUB", _, rfl, fun h => absurd h (by decide +kernel), fun ⟨_, _, _, h⟩ => by cases h⟩
  | ongo g t ls => exact ⟨"ONGO", _, rfl, fun h => absurd h (by decide +kernel), fun ⟨_, _, _, h⟩ => by cases h⟩
  | ret => exact ⟨"RETURN", _, rfl, fun h => absurd h (by decide +kernel), fun ⟨_, _, _, h⟩ => by cases h⟩
  | whil t => exact ⟨"WHILE", _, rfl, fun h => absurd h (by decide +kernel), fun ⟨_, _, _, h⟩ => by cases h⟩
  | wend => exact ⟨"WEND", _, rfl, fun h => absurd h (by decide +kernel), fun ⟨_, _, _, h⟩ => by cases h⟩
  | if_ t a b => exact ⟨"IF", _, rfl, fun _ => ⟨t, a, b, rfl⟩, fun _ => by decide +kernel⟩

theorem flatS_one {line : Int} {n : Nat} {s : St} (h : ¬ ∃ t a b, s = .if_ t a b) : flatS line n s = [(line, .st s)] := by
  cases s with
  | if_ t a b => exact absurd ⟨t, a, b, rfl⟩ h
  | _ => simp [flatS]

noncomputable def PutIfOk (c : Ctx) (A : Ads) (line : Int) (t : Tree) (a b : List St) : Prop := ∀ (kf kr kl kp : Nat) (R : List V) (σ : Sto) (Q : V → Sto → Prop), FlatAt A σ kf kr kl kp → σ kr = some (.list R) → kf ≠ kr →
  R.length + (flatS line R.length (.if_ t a b)).length ≤ 900 → Q .none (upd σ kr (.list (R ++ (flatS line R.length (.if_ t a b)).map encRow))) → CodeOk c (2 * depS (.if_ t a b) + 1) (.ref A.f_put_if) [.ref kf, .int line, encS (.if_ t a b)] σ Q
noncomputable def PutAllOk (c : Ctx) (A : Ads) (line : Int) (sts : List St) : Prop := ∀ (kf kr kl kp : Nat) (R : List V) (σ : Sto) (Q : V → Sto → Prop), FlatAt A σ kf kr kl kp → σ kr = some (.list R) → kf ≠ kr →
  R.length + (flatSs line R.length sts).length ≤ 900 → Q .none (upd σ kr (.list (R ++ (flatSs line R.length sts).map encRow))) → CodeOk c (2 * depSs sts + 2) (.ref A.f_put_all) [.ref kf, .int line, .lst (encSs sts)] σ Q

theorem depS_mem {s : St} : ∀ {sts : List St}, s ∈ sts → depS s ≤ depSs sts
  | _ :: _, .head _ => by simp only [depSs]; omega
  | _ :: _, .tail _ h => by have := depS_mem h; simp only [depSs]; omega

theorem t_put_all (LB : Lib c A) {line : Int} {sts : List St} (H : ∀ t a b, .if_ t a b ∈ sts → PutIfOk c A line t a b) : PutAllOk c A line sts := by
  intro kf kr kl kp R σ Q hf hr hne hl h
  refine code_fn3 "flat" "line" "statements" LB.put_all.fn (by intros; rfl) (by decide +kernel) fun L cdv => ?_
  kat_tups
  kas_types
  refine okit_val ?_
  kas_types
  refine ⟨_, .inr rfl, trivial, ?_⟩
  refine loop_inv1 (fun xs lk₁ σ₁ => ∃ (sts₁ : List St) (R₁ : List V), xs = encSs sts₁ ∧ lk₁ = ([("flat", .ref kf), ("line", .int line), ("statements", .lst (encSs sts))] : Loc) ∧ σ₁ = upd σ kr (.list R₁) ∧ (∀ s ∈ sts₁, s ∈ sts) ∧
    R₁ ++ (flatSs line R₁.length sts₁).map encRow = R ++ (flatSs line R.length sts).map encRow ∧ R₁.length + (flatSs line R₁.length sts₁).length ≤ 900) (by k_upd) (fun QB x xs lk₁ σ₁ hJ hB => ?_) (fun lk₁ σ₁ hJ => ?_) ⟨sts, R, rfl, rfl, ?_, fun _ h => h, rfl, hl⟩
  · obtain ⟨sts₁, R₁, hx, rfl, rfl, hm, he, hl₁⟩ := hJ
    cases sts₁ with
    | nil => cases hx
    | cons s r =>
      rw [encSs] at hx
      injection hx with hx1 hx2
      subst hx1
      rw [flatSs] at he hl₁
      simp only [List.length_append] at hl₁
      have hf₁ : FlatAt A (upd σ kr (.list R₁)) kf kr kl kp := hf.upd_ hne
      obtain ⟨wd, rest, hw, hif⟩ := encS_word s
      have nxt : ∀ R₂, R₂ = R₁ ++ (flatS line R₁.length s).map encRow → ∀ lk₂, Sub ([("flat", .ref kf), ("line", .int line), ("statements", .lst (encSs sts))] : Loc) lk₂ → QB .next lk₂ (upd σ kr (.list R₂)) := fun R₂ e lk₂ hs =>
        hB .next _ _ ⟨trivial, _, hs, r, R₂, hx2, rfl, rfl, fun s hs => hm s (.tail _ hs), by rw [e, ← he, List.map_append, List.append_assoc, List.length_append, List.length_map], by rw [e, List.length_append, List.length_map, Nat.add_assoc]; exact hl₁⟩
      by_cases hq : ∃ t a b, s = .if_ t a b
      · obtain ⟨t, a, b, rfl⟩ := hq
        have hpi := H t a b (hm _ (.head _))
        have hdp := depS_mem (hm _ (.head _))
        have hw' := hif.mpr ⟨t, a, b, rfl⟩
        rw [hw]
        kas_types
        rw [hw']
        kas_types
        with_reducible refine okg_call (‹Lib _ _›).put_if.ns (‹Lib _ _›).put_if.keep (by k_updF) (by decide +kernel) (fun _ => by with_unfolding_all rfl) ?_
        kas_types
        rw [← hw]
        refine (hpi kf kr kl kp R₁ _ _ hf₁ (upd_self ..) hne (by omega) ?_).f (by omega)
        kas_types
        rw [upd_upd]
        exact nxt _ rfl _ (by keq_rows)
      · have hw' : (wd == ("IF" : Str)) = false := by
          cases e : wd == ("IF" : Str) with
          | false => rfl
          | true => exact absurd (hif.mp e) hq
        rw [flatS_one hq] at nxt
        rw [hw]
        kas_types
        rw [hw']
        kas_types
        with_reducible refine okg_call (‹Lib _ _›).put_row_of.ns (‹Lib _ _›).put_row_of.keep (by k_updF) (by decide +kernel) (fun _ => by with_unfolding_all rfl) ?_
        kas_types
        refine (t_put_row_of LB hf₁ (upd_self ..) (by omega) hne ?_).f (by omega)
        kas_types
        rw [upd_upd]
        exact nxt _ (by rw [← hw]; rfl) _ (by keq_rows)
  · obtain ⟨sts₁, R₁, hx, rfl, rfl, hm, he, hl₁⟩ := hJ
    cases sts₁ with
    | cons s r => cases hx
    | nil =>
      rw [flatSs] at he
      simp only [List.map_nil, List.append_nil] at he
      subst he
      kas_types
      exact h
  · funext j
    by_cases hj : j = kr
    · subst hj; rw [upd_self]; exact hr
    · rw [upd_ne hj]

theorem set_mid {A B : List V} {x y : V} : (A ++ [x] ++ B).set A.length y = A ++ [y] ++ B := by
  simp [List.set_append]
theorem encSs_len : ∀ {l : List St}, (encSs l).length = l.length
  | [] => rfl
  | _ :: r => by simp [encSs, encSs_len (l := r)]

theorem flatS_pos {line : Int} {n : Nat} {s : St} : 1 ≤ (flatS line n s).length := by
  by_cases hq : ∃ t a b, s = .if_ t a b
  · obtain ⟨t, a, b, rfl⟩ := hq
    simp only [flatS]
    split <;> simp
  · rw [flatS_one hq]; simp
theorem flatSs_ge {line : Int} : ∀ {l : List St} {n : Nat}, l.length ≤ (flatSs line n l).length
  | [], _ => Nat.zero_le _
  | s :: r, n => by
    have h1 := flatS_pos (line := line) (n := n) (s := s)
    have h2 := flatSs_ge (line := line) (l := r) (n := n + (flatS line n s).length)
    simp only [flatSs, List.length_append, List.length_cons]
    omega

set_option maxHeartbeats 1000000 in
theorem t_put_if (LB : Lib c A) {line : Int} {t : Tree} {a b : List St} (Ha : PutAllOk c A line a) (Hb : PutAllOk c A line b) : PutIfOk c A line t a b := by
  intro kf kr kl kp R σ Q hf hr hne hl h
  have hd : depS (.if_ t a b) = 1 + max (depSs a) (depSs b) := by simp [depS]
  rw [hd]
  have fu : ∀ x, FlatAt A (upd σ kr x) kf kr kl kp := fun x => hf.upd_ hne
  have i0 : ∀ x, InstF c (upd σ kr x) kf "rows" (.ref kr) := fun x => (fu x).rows LB
  rw [show encS (.if_ t a b) = .tup [.str "IF", encT t, .lst (encSs a), .lst (encSs b)] from by simp [encS]]
  simp only [flatS] at hl h
  refine code_fn3 "flat" "line" "statement" LB.put_if.fn (by intros; rfl) (by decide +kernel) fun L cdv => ?_
  kat_tups
  kas_types
  with_reducible refine okg_call (‹Lib _ _›).put_row_of.ns (‹Lib _ _›).put_row_of.keep (by k_updF) (by decide +kernel) (fun _ => by with_unfolding_all rfl) ?_
  kas_types
  have hlen : R.length ≤ 900 := by omega
  refine (t_put_row_of LB hf hr (by omega) hne ?_).f (by omega)
  kas_types
  with_reducible refine okg_call (‹Lib _ _›).put_all.ns (‹Lib _ _›).put_all.keep (by k_updF) (by decide +kernel) (fun _ => by with_unfolding_all rfl) ?_
  kas_types
  generalize hS : V.tup [V.int line, V.tup [V.str "IF", encT t, V.lst (encSs a), V.lst (encSs b)]] = X
  have la : (R ++ [X]).length = R.length + 1 := by simp
  have hla : R.length + 1 + (flatSs line (R.length + 1) a).length ≤ 900 := by
    split at hl <;> simp only [List.length_cons, List.length_append] at hl <;> omega
  refine (Ha kf kr kl kp (R ++ [X]) _ _ (fu _) (upd_self ..) hne (by rw [la]; exact hla) ?_).f (by omega)
  rw [upd_upd, la]
  kas_types
  generalize hra : flatSs line (R.length + 1) a = ra at *
  have j1 := i0 (.list (R ++ [X] ++ List.map encRow ra))
  have ll : (R ++ [X] ++ List.map encRow ra).length = R.length + 1 + ra.length := by simp; omega
  cases b with
  | nil =>
    refine callf_len (.inr (.inl rfl)) len0 ?_
    kas_types
    rw [decide_eq_true (by simp [encSs])]
    kas_types
    refine okb_assign ?_ (by with_unfolding_all rfl) (by with_unfolding_all rfl) (by with_unfolding_all rfl)
    kas_types
    refine callf_len (.inr (.inr ⟨_, rfl, upd_self ..⟩)) (le_line (by rw [ll]; omega)) ?_
    kas_types
    refine oka_sub ?_
    kas_types
    refine set_cell (upd_self ..) (by omega) (by omega) (by rw [ll]; omega) ?_
    rw [upd_upd, ll, Int.toNat_natCast, set_mid]
    refine okb_return0 (then_ret (ret_ret ?_))
    simp only [List.isEmpty_nil, if_true] at h
    simpa [encRow, encR, List.append_assoc] using h
  | cons b0 b' =>
    generalize hb : b0 :: b' = bb at *
    have hbe : bb.isEmpty = false := by rw [← hb]; rfl
    have hbl := flatSs_ge (line := line) (l := bb) (n := R.length + 1 + ra.length + 1)
    simp only [hbe, Bool.false_eq_true, if_false] at hl h
    generalize hrb : flatSs line (R.length + 1 + ra.length + 1) bb = rb at *
    simp only [List.length_cons, List.length_append] at hl
    refine callf_len (.inr (.inl rfl)) (le_line (by rw [encSs_len]; omega)) ?_
    kas_types
    rw [decide_eq_false (by rw [encSs_len, ← hb]; simp; omega)]
    kas_types
    with_reducible refine okg_call (‹Lib _ _›).put_row_of.ns (‹Lib _ _›).put_row_of.keep (by k_updF) (by decide +kernel) (fun _ => by with_unfolding_all rfl) ?_
    kas_types
    refine (t_put_row_of LB (fu _) (upd_self ..) (by rw [ll]; omega) hne ?_).f (by omega)
    rw [upd_upd, hS, ll]
    have j2 := i0 (.list (R ++ [X] ++ List.map encRow ra ++ [X]))
    have l2 : (R ++ [X] ++ List.map encRow ra ++ [X]).length = R.length + 1 + ra.length + 1 := by simp; omega
    refine okb_assign ?_ (by with_unfolding_all rfl) (by with_unfolding_all rfl) (by with_unfolding_all rfl)
    kas_types
    refine callf_len (.inr (.inr ⟨_, rfl, upd_self ..⟩)) (le_line (by rw [l2]; omega)) ?_
    kas_types
    refine oka_sub ?_
    kas_types
    refine set_cell (upd_self ..) (by omega) (by omega) (by rw [l2]; omega) ?_
    rw [upd_upd, l2, Int.toNat_natCast, show R ++ [X] ++ List.map encRow ra ++ [X] = R ++ [X] ++ (List.map encRow ra ++ [X]) by simp, set_mid]
    generalize hY : V.tup [V.int line, V.tup [V.str "IFNOT", encT t, V.int ((R.length + 1 + ra.length + 1 : Nat) : Int)]] = Y
    kas_types
    with_reducible refine okg_call (‹Lib _ _›).put_all.ns (‹Lib _ _›).put_all.keep (by k_updF) (by decide +kernel) (fun _ => by with_unfolding_all rfl) ?_
    kas_types
    have l3 : (R ++ [Y] ++ (List.map encRow ra ++ [X])).length = R.length + 1 + ra.length + 1 := by simp; omega
    refine (Hb kf kr kl kp (R ++ [Y] ++ (List.map encRow ra ++ [X])) _ _ (fu _) (upd_self ..) hne (by rw [l3, hrb]; omega) ?_).f (by omega)
    rw [upd_upd, l3, hrb]
    kas_types
    have j3 := i0 (.list (R ++ [Y] ++ (List.map encRow ra ++ [X]) ++ List.map encRow rb))
    have l4 : (R ++ [Y] ++ (List.map encRow ra ++ [X]) ++ List.map encRow rb).length = R.length + 1 + ra.length + 1 + rb.length := by simp; omega
    refine okb_assign ?_ (by with_unfolding_all rfl) (by with_unfolding_all rfl) (by with_unfolding_all rfl)
    kas_types
    refine callf_len (.inr (.inr ⟨_, rfl, upd_self ..⟩)) (le_line (by rw [l4]; omega)) ?_
    kas_types
    refine oka_sub ?_
    kas_types
    refine set_cell (upd_self ..) (by omega) (by omega) (by rw [l4]; omega) ?_
    have l5 : (R ++ [Y] ++ List.map encRow ra).length = R.length + 1 + ra.length := by simp; omega
    rw [upd_upd, l4, Int.toNat_natCast, show R ++ [Y] ++ (List.map encRow ra ++ [X]) ++ List.map encRow rb = R ++ [Y] ++ List.map encRow ra ++ [X] ++ List.map encRow rb by simp, ← l5, set_mid]
    kas_types
    refine ret_next ?_
    rw [l5, ← hY]
    simpa [encRow, encR, List.append_assoc, Int.add_assoc, Int.add_comm, Int.add_left_comm] using h
end

end

-- E9
section
section
variable {c : Ctx} {A : Ads} {d : Nat} {env : Env} {lk : Loc} {σ σ' : Sto} {pos : Pos} {QX : Fl → Loc → Sto → Prop} {Q : V → Sto → Prop}

theorem put_all_any (LB : Lib c A) {line : Int} : ∀ (n : Nat) (sts : List St), depSs sts ≤ n → PutAllOk c A line sts := by
  intro n
  induction n with
  | zero =>
    intro sts h
    refine t_put_all LB fun t a b hm => ?_
    have := depS_mem hm
    have : depS (.if_ t a b) = 1 + max (depSs a) (depSs b) := by simp [depS]
    omega
  | succ n ih =>
    intro sts h
    refine t_put_all LB fun t a b hm => ?_
    have h1 := depS_mem hm
    have h2 : depS (.if_ t a b) = 1 + max (depSs a) (depSs b) := by simp [depS]
    exact t_put_if LB (ih a (by omega)) (ih b (by omega))

theorem ifs_hit {α : Type} {x : Str} {v : α} {f : Str → α} : (fun z => if z = x then v else f z) x = v := if_pos rfl
theorem ifs_skip {α : Type} {x y : Str} {v w : α} {f : Str → α} (h : (y == x) = false) (hr : f y = w) : (fun z => if z = x then v else f z) y = w := by
  show (if y = x then v else f y) = w
  rw [if_neg (by intro e; subst e; simp at h)]; exact hr

/-- self.x = .., a fresh cell -/
theorem okb_init {x : Str} {e : Expr} {p pa : Pos} {rest : List Stmt} {k : Nat} {C : Addr} {n : Nat} {f : Str → Option V} (cell : Cell) (hl : lk.lookup (Str.ofString "self") = some (V.ref k)) (hk : VarK env "self")
    (hs : σ k = some (.inst C n f)) (hC : ClsF c.K C) (hf : FieldK c.K C x) (hn : n ≤ 800) (hfx : f x = none)
    (he : ∀ Q, (∀ j, σ j = none → Q (.ref j) (upd σ j cell)) → Ok c d env e lk σ Q)
    (h : ∀ j, σ j = none → OkB c d env rest lk (upd (upd σ j cell) k (.inst C (n + 1) (fun z => if z = x then some (.ref j) else f z))) QX)
    (h1 : assignEach [.Attribute (.Name "self" p) x pa] env = [(false, assign (.Attribute (.Name "self" p) x pa) env)])
    (h2 : swapsWithSole [.Attribute (.Name "self" p) x pa] e pos.line env = pure false) (h3 : swappedStores [.Attribute (.Name "self" p) x pa] e env = pure none) : OkB c d env (.Assign [.Attribute (.Name "self" p) x pa] e pos :: rest) lk σ QX := by
  refine okb_assign (he _ fun j hj => ?_) h1 h2 h3
  refine oka_field (okv hl hk (by decide +kernel) ?_)
  have hne : k ≠ j := ne_none hs hj
  refine ⟨k, C, n, f, rfl, (upd_ne hne).trans hs, hC, hf.put, by omega, ?_⟩
  have := h j hj
  rw [hfx]
  exact this

theorem okN_list {Q : V → Sto → Prop} (h : ∀ j, σ j = none → Q (.ref j) (upd σ j (.list []))) : Ok c d env (.List [] pos) lk σ Q := ok_listC (okl_nil ⟨len0, h⟩)

theorem init_facts {σ : Sto} {j k : Nat} {cell i0 i1 : Cell} (hj : σ j = none) (hk : σ k = some i0) : (upd (upd σ j cell) k i1) j = some cell ∧ (upd (upd σ j cell) k i1) k = some i1 ∧ (∀ i x, σ i = some x → i ≠ k → upd (upd σ j cell) k i1 i = some x) ∧ (∀ i, upd (upd σ j cell) k i1 i = none → σ i = none) :=
  ⟨by rw [upd_ne (Ne.symm (ne_none hk hj)), upd_self], upd_self .., fun i x h hi => by rw [upd_ne hi, upd_ne (ne_none h hj)]; exact h, fun i h => upd_dom (upd_dom h)⟩

theorem t_flat_init (LB : Lib c A) {k : Nat} (hs : σ k = some (.inst A.c_Flat 0 fun _ => none))
    (h : ∀ kr kl kp σ', σ kr = none → σ kl = none → σ kp = none → kr ≠ kl → kr ≠ kp → kl ≠ kp → FlatAt A σ' k kr kl kp → σ' kr = some (.list []) → σ' kl = some (.dictI fun _ => none) → σ' kp = some (.dictI fun _ => none) →
      (∀ j x, σ j = some x → j ≠ k → σ' j = some x) → Q .none σ') : CodeOk c 1 (.ref A.i_Flat) [.ref k] σ Q := by
  refine code_fn1 "self" LB.Flat.initF (by intros; rfl) (by decide +kernel) fun L cdv => ?_
  kat_tups
  refine okb_init (.list []) lookup_hit (by k_memK) hs LB.Flat.cls LB.Flat_rows (by decide) rfl (fun Q h => okN_list h) (fun kr hkr => ?_) (by with_unfolding_all rfl) (by with_unfolding_all rfl) (by with_unfolding_all rfl)
  refine okb_init (.dictI fun _ => none) lookup_hit (by k_memK) (upd_self ..) LB.Flat.cls LB.Flat_places (by decide) (by repeat (first | rfl | rw [if_neg (by decide +kernel)])) (fun Q h => ok_dictI h) (fun kl hkl => ?_) (by with_unfolding_all rfl) (by with_unfolding_all rfl) (by with_unfolding_all rfl)
  refine okb_init (.list []) lookup_hit (by k_memK) (upd_self ..) LB.Flat.cls LB.Flat_data (by decide) (by repeat (first | rfl | rw [if_neg (by decide +kernel)])) (fun Q h => okN_list h) (fun kd hkd => ?_) (by with_unfolding_all rfl) (by with_unfolding_all rfl) (by with_unfolding_all rfl)
  refine okb_init (.dictI fun _ => none) lookup_hit (by k_memK) (upd_self ..) LB.Flat.cls LB.Flat_pairs (by decide) (by repeat (first | rfl | rw [if_neg (by decide +kernel)])) (fun Q h => ok_dictI h) (fun kp hkp => ?_) (by with_unfolding_all rfl) (by with_unfolding_all rfl) (by with_unfolding_all rfl)
  refine okb_init (.dictI fun _ => none) lookup_hit (by k_memK) (upd_self ..) LB.Flat.cls LB.Flat_loops (by decide) (by repeat (first | rfl | rw [if_neg (by decide +kernel)])) (fun Q h => ok_dictI h) (fun ko hko => ?_) (by with_unfolding_all rfl) (by with_unfolding_all rfl) (by with_unfolding_all rfl)
  refine okb_init (.dictI fun _ => none) lookup_hit (by k_memK) (upd_self ..) LB.Flat.cls LB.Flat_fns (by decide) (by repeat (first | rfl | rw [if_neg (by decide +kernel)])) (fun Q h => ok_dictI h) (fun kn hkn => ?_) (by with_unfolding_all rfl) (by with_unfolding_all rfl) (by with_unfolding_all rfl)
  kas_types
  obtain ⟨a1, a2, a3, a4⟩ := init_facts (cell := .list []) (i1 := .inst A.c_Flat (0 + 1) (fun z => if z = "rows" then some (.ref kr) else none)) hkr hs
  generalize upd (upd σ kr (.list [])) k (.inst A.c_Flat (0 + 1) (fun z => if z = "rows" then some (.ref kr) else none)) = σ1 at *
  obtain ⟨b1, b2, b3, b4⟩ := init_facts (cell := .dictI fun _ => none) (i1 := .inst A.c_Flat (0 + 1 + 1) (fun z => if z = "places" then some (.ref kl) else if z = "rows" then some (.ref kr) else none)) hkl a2
  generalize upd (upd σ1 kl (.dictI fun _ => none)) k (.inst A.c_Flat (0 + 1 + 1) (fun z => if z = "places" then some (.ref kl) else if z = "rows" then some (.ref kr) else none)) = σ2 at *
  obtain ⟨c1, c2, c3, c4⟩ := init_facts (cell := .list []) (i1 := .inst A.c_Flat (0 + 1 + 1 + 1) (fun z => if z = "data" then some (.ref kd) else if z = "places" then some (.ref kl) else if z = "rows" then some (.ref kr) else none)) hkd b2
  generalize upd (upd σ2 kd (.list [])) k (.inst A.c_Flat (0 + 1 + 1 + 1) (fun z => if z = "data" then some (.ref kd) else if z = "places" then some (.ref kl) else if z = "rows" then some (.ref kr) else none)) = σ3 at *
  obtain ⟨d1, d2, d3, d4⟩ := init_facts (cell := .dictI fun _ => none) (i1 := .inst A.c_Flat (0 + 1 + 1 + 1 + 1) (fun z => if z = "pairs" then some (.ref kp) else if z = "data" then some (.ref kd) else if z = "places" then some (.ref kl) else if z = "rows" then some (.ref kr) else none)) hkp c2
  generalize upd (upd σ3 kp (.dictI fun _ => none)) k (.inst A.c_Flat (0 + 1 + 1 + 1 + 1) (fun z => if z = "pairs" then some (.ref kp) else if z = "data" then some (.ref kd) else if z = "places" then some (.ref kl) else if z = "rows" then some (.ref kr) else none)) = σ4 at *
  obtain ⟨e1, e2, e3, e4⟩ := init_facts (cell := .dictI fun _ => none) (i1 := .inst A.c_Flat (0 + 1 + 1 + 1 + 1 + 1) (fun z => if z = "loops" then some (.ref ko) else if z = "pairs" then some (.ref kp) else if z = "data" then some (.ref kd) else if z = "places" then some (.ref kl) else if z = "rows" then some (.ref kr) else none)) hko d2
  generalize upd (upd σ4 ko (.dictI fun _ => none)) k (.inst A.c_Flat (0 + 1 + 1 + 1 + 1 + 1) (fun z => if z = "loops" then some (.ref ko) else if z = "pairs" then some (.ref kp) else if z = "data" then some (.ref kd) else if z = "places" then some (.ref kl) else if z = "rows" then some (.ref kr) else none)) = σ5 at *
  obtain ⟨f1, f2, f3, f4⟩ := init_facts (cell := .dictI fun _ => none) (i1 := .inst A.c_Flat (0 + 1 + 1 + 1 + 1 + 1 + 1) (fun z => if z = "fns" then some (.ref kn) else if z = "loops" then some (.ref ko) else if z = "pairs" then some (.ref kp) else if z = "data" then some (.ref kd) else if z = "places" then some (.ref kl) else if z = "rows" then some (.ref kr) else none)) hkn e2
  refine ret_next (h kr kl kp _ hkr (a4 _ hkl) (a4 _ (b4 _ (c4 _ hkp))) (ne_none a1 hkl) (ne_none (b3 _ _ a1 ?_) (c4 _ hkp)) (ne_none b1 (c4 _ hkp)) ⟨⟨_, _, f2, ?_, ?_, ?_⟩⟩ ?_ ?_ ?_ ?_)
  · exact Ne.symm (ne_none hs hkr)
  · show ite _ _ _ = _; repeat (first | exact if_pos rfl | rw [if_neg (by decide +kernel)])
  · show ite _ _ _ = _; repeat (first | exact if_pos rfl | rw [if_neg (by decide +kernel)])
  · show ite _ _ _ = _; repeat (first | exact if_pos rfl | rw [if_neg (by decide +kernel)])
  · have n := Ne.symm (ne_none hs hkr)
    exact f3 _ _ (e3 _ _ (d3 _ _ (c3 _ _ (b3 _ _ a1 n) n) n) n) n
  · have n := Ne.symm (ne_none a2 hkl)
    exact f3 _ _ (e3 _ _ (d3 _ _ (c3 _ _ b1 n) n) n) n
  · have n := Ne.symm (ne_none c2 hkp)
    exact f3 _ _ (e3 _ _ d1 n) n
  · exact fun j x hj n => f3 _ _ (e3 _ _ (d3 _ _ (c3 _ _ (b3 _ _ (a3 _ _ hj n) n) n) n) n) n
end

end

-- E10
section
section
variable {c : Ctx} {A : Ads} {d : Nat} {env : Env} {lk : Loc} {σ σ' : Sto} {pos : Pos} {QX : Fl → Loc → Sto → Prop} {Q : V → Sto → Prop}

/-- self.x = a value -/
theorem okb_initv {x : Str} {e : Expr} {p pa : Pos} {rest : List Stmt} {k : Nat} {C : Addr} {n : Nat} {f : Str → Option V} (y : V) (hl : lk.lookup (Str.ofString "self") = some (V.ref k)) (hk : VarK env "self")
    (hs : σ k = some (.inst C n f)) (hC : ClsF c.K C) (hf : FieldK c.K C x) (hn : n ≤ 800) (hfx : f x = none)
    (he : ∀ Q, Q y σ → Ok c d env e lk σ Q)
    (h : OkB c d env rest lk (upd σ k (.inst C (n + 1) (fun z => if z = x then some y else f z))) QX)
    (h1 : assignEach [.Attribute (.Name "self" p) x pa] env = [(false, assign (.Attribute (.Name "self" p) x pa) env)])
    (h2 : swapsWithSole [.Attribute (.Name "self" p) x pa] e pos.line env = pure false) (h3 : swappedStores [.Attribute (.Name "self" p) x pa] e env = pure none) : OkB c d env (.Assign [.Attribute (.Name "self" p) x pa] e pos :: rest) lk σ QX := by
  refine okb_assign (he _ ?_) h1 h2 h3
  refine oka_field (okv hl hk (by decide +kernel) ?_)
  refine ⟨k, C, n, f, rfl, hs, hC, hf.put, by omega, ?_⟩
  rw [hfx]
  exact h

/-- self.x = a new object -/
theorem okb_initc {x : Str} {e : Expr} {p pa : Pos} {rest : List Stmt} {k : Nat} {C : Addr} {n : Nat} {f : Str → Option V} (I : Nat → Sto → Prop) (hl : lk.lookup (Str.ofString "self") = some (V.ref k)) (hk : VarK env "self")
    (hC : ClsF c.K C) (hf : FieldK c.K C x) (hn : n ≤ 800) (hfx : f x = none)
    (he : ∀ Q, (∀ j σ', I j σ' → Q (.ref j) σ') → Ok c d env e lk σ Q)
    (hI : ∀ j σ', I j σ' → σ' k = some (.inst C n f))
    (h : ∀ j σ', I j σ' → OkB c d env rest lk (upd σ' k (.inst C (n + 1) (fun z => if z = x then some (.ref j) else f z))) QX)
    (h1 : assignEach [.Attribute (.Name "self" p) x pa] env = [(false, assign (.Attribute (.Name "self" p) x pa) env)])
    (h2 : swapsWithSole [.Attribute (.Name "self" p) x pa] e pos.line env = pure false) (h3 : swappedStores [.Attribute (.Name "self" p) x pa] e env = pure none) : OkB c d env (.Assign [.Attribute (.Name "self" p) x pa] e pos :: rest) lk σ QX := by
  refine okb_assign (he _ fun j σ' hj => ?_) h1 h2 h3
  refine oka_field (okv hl hk (by decide +kernel) ?_)
  refine ⟨k, C, n, f, rfl, hI j σ' hj, hC, hf.put, by omega, ?_⟩
  have := h j σ' hj
  rw [hfx]
  exact this

theorem t_ctl_init (LB : Lib c A) {k : Nat} (hs : σ k = some (.inst A.c_Control 0 fun _ => none))
    (h : ∀ kp σ', σ kp = none → CtlAt A σ' k kp → σ' kp = some (.list []) → (∀ j x, σ j = some x → j ≠ k → σ' j = some x) → (∀ j, σ' j = none → σ j = none) → Q .none σ') : CodeOk c 1 (.ref A.i_Control) [.ref k, .int 20] σ Q := by
  refine code_fn2 "self" "most" LB.Control.initF (by intros; rfl) (by decide +kernel) fun L cdv => ?_
  kat_tups
  refine okb_init (.list []) lookup_hit (by k_memK) hs LB.Control.cls LB.Control_pile (by decide) rfl (fun Q h => okN_list h) (fun kp hkp => ?_) (by with_unfolding_all rfl) (by with_unfolding_all rfl) (by with_unfolding_all rfl)
  have nk := ne_none hs hkp
  refine okb_initv (.int 20) lookup_hit (by k_memK) (upd_self ..) LB.Control.cls LB.Control_most (by decide) (by repeat (first | rfl | rw [if_neg (by decide +kernel)])) (fun Q h => ?_) ?_ (by with_unfolding_all rfl) (by with_unfolding_all rfl) (by with_unfolding_all rfl)
  · kas_types
    exact h
  rw [upd_upd]
  refine okb_initv (.int (-1)) lookup_hit (by k_memK) (upd_self ..) LB.Control.cls LB.Control_failed_at (by decide) (by repeat (first | rfl | rw [if_neg (by decide +kernel)])) (fun Q h => ?_) ?_ (by with_unfolding_all rfl) (by with_unfolding_all rfl) (by with_unfolding_all rfl)
  · kas_types
    exact h
  rw [upd_upd]
  kas_types
  refine ret_next (h kp _ hkp ⟨⟨_, _, ?_, upd_self .., ?_, ?_⟩⟩ ?_ ?_ ?_)
  · decide
  · show ite _ _ _ = _; repeat (first | exact if_pos rfl | rw [if_neg (by decide +kernel)])
  · show ite _ _ _ = _; repeat (first | exact if_pos rfl | rw [if_neg (by decide +kernel)])
  · rw [upd_ne (Ne.symm nk), upd_self]
  · intro j x hj hn
    rw [upd_ne hn, upd_ne (ne_none hj hkp)]
    exact hj
  · exact fun j hj => upd_dom (upd_dom hj)

theorem callf_new {id : Str} {st : Stmt} {C fI : Addr} {args : List V} {d' : Nat} (G : GCls c.K id st C fI) (hd : d + 1 ≤ d') (h : ∀ k, σ k = none → CodeOk c d (.ref fI) (.ref k :: args) (upd σ k (.inst C 0 fun _ => none)) (fun y σ' => y = .none ∧ Q (.ref k) σ')) :
    CallF c d' env lk σ (.ref C) args Q := ((callOk_new G.makes G.init G.initT h).mono hd fun _ _ h => h).toF

structure RunNew (A : Ads) (aW : Addr) (kf kv k kc kp kn : Nat) (σ σ' : Sto) : Prop where
  fresh : σ kc = none ∧ σ kp = none ∧ σ kn = none ∧ kc ≠ kp ∧ kc ≠ kn ∧ kp ≠ kn ∧ k ≠ kc ∧ k ≠ kp ∧ k ≠ kn
  run : ∃ n f, σ' k = some (.inst A.c_FlowRun n f) ∧ f "flat" = some (.ref kf) ∧ f "values" = some (.ref kv) ∧ f "worth_of" = some (.raw (.ref aW)) ∧ f "bits" = some (.int 16) ∧ f "control" = some (.ref kc) ∧ f "notes" = some (.ref kn) ∧
    f "worth" = none ∧ f "whole" = none ∧ f "value_of_name" = none ∧ f "store" = none ∧ f "go" = none
  ctl : CtlAt A σ' kc kp
  pile : σ' kp = some (.list [])
  notes : σ' kn = some (.list [])
  keep : ∀ j x, σ j = some x → j ≠ k → σ' j = some x
  dom : ∀ j, σ' j = none → σ j = none

theorem t_run_init (LB : Lib c A) {aW : Addr} {k kf kv : Nat} (hs : σ k = some (.inst A.c_FlowRun 0 fun _ => none))
    (h : ∀ kc kp kn σ', RunNew A aW kf kv k kc kp kn σ σ' → Q .none σ') : CodeOk c 3 (.ref A.i_FlowRun) [.ref k, .ref kf, .ref kv, .raw (.ref aW), .int 16, .int 9] σ Q := by
  refine code_fn6 "self" "flat" "values" "worth_of" "bits" "digits" LB.FlowRun.initF (by intros; rfl) (by decide +kernel) fun L cdv => ?_
  kat_tups
  refine okb_initv (.ref kf) lookup_hit (by k_memK) hs LB.FlowRun.cls LB.FlowRun_flat (by decide) rfl (fun Q h => ?_) ?_ (by with_unfolding_all rfl) (by with_unfolding_all rfl) (by with_unfolding_all rfl)
  · kas_types
    exact h
  refine okb_initv (.ref kv) lookup_hit (by k_memK) (upd_self ..) LB.FlowRun.cls LB.FlowRun_values (by decide) (by repeat (first | rfl | rw [if_neg (by decide +kernel)])) (fun Q h => ?_) ?_ (by with_unfolding_all rfl) (by with_unfolding_all rfl) (by with_unfolding_all rfl)
  · kas_types
    exact h
  rw [upd_upd]
  refine okb_initv (.raw (.ref aW)) lookup_hit (by k_memK) (upd_self ..) LB.FlowRun.cls LB.FlowRun_worth_of (by decide) (by repeat (first | rfl | rw [if_neg (by decide +kernel)])) (fun Q h => ?_) ?_ (by with_unfolding_all rfl) (by with_unfolding_all rfl) (by with_unfolding_all rfl)
  · kas_types
    exact h
  rw [upd_upd]
  refine okb_initv (.int 16) lookup_hit (by k_memK) (upd_self ..) LB.FlowRun.cls LB.FlowRun_bits (by decide) (by repeat (first | rfl | rw [if_neg (by decide +kernel)])) (fun Q h => ?_) ?_ (by with_unfolding_all rfl) (by with_unfolding_all rfl) (by with_unfolding_all rfl)
  · kas_types
    exact h
  rw [upd_upd]
  refine okb_initv (.int 9) lookup_hit (by k_memK) (upd_self ..) LB.FlowRun.cls LB.FlowRun_digits (by decide) (by repeat (first | rfl | rw [if_neg (by decide +kernel)])) (fun Q h => ?_) ?_ (by with_unfolding_all rfl) (by with_unfolding_all rfl) (by with_unfolding_all rfl)
  · kas_types
    exact h
  rw [upd_upd]
  generalize hf5 : (fun z => ite (z = Str.ofString "digits") _ _) = f5
  have b1 : (upd σ k (.inst A.c_FlowRun (0 + 1 + 1 + 1 + 1 + 1) f5)) k = some (.inst A.c_FlowRun (0 + 1 + 1 + 1 + 1 + 1) f5) := upd_self ..
  have b2 : ∀ j x, σ j = some x → j ≠ k → (upd σ k (.inst A.c_FlowRun (0 + 1 + 1 + 1 + 1 + 1) f5)) j = some x := fun j x hj hn => (upd_ne hn).trans hj
  have b3 : ∀ j, (upd σ k (.inst A.c_FlowRun (0 + 1 + 1 + 1 + 1 + 1) f5)) j = none → σ j = none := fun j hj => upd_dom hj
  generalize upd σ k (.inst A.c_FlowRun (0 + 1 + 1 + 1 + 1 + 1) f5) = σ1 at *
  refine okb_initc (C := A.c_FlowRun) (n := 0 + 1 + 1 + 1 + 1 + 1) (f := f5) (fun kc σ2 => ∃ kp, σ1 kc = none ∧ σ1 kp = none ∧ kc ≠ kp ∧ CtlAt A σ2 kc kp ∧ σ2 kp = some (.list []) ∧ (∀ j x, σ1 j = some x → σ2 j = some x) ∧ (∀ j, σ2 j = none → σ1 j = none)) lookup_hit (by k_memK) LB.FlowRun.cls LB.FlowRun_control (by decide) ?_ (fun Q h => ?_) ?_ ?_ (by with_unfolding_all rfl) (by with_unfolding_all rfl) (by with_unfolding_all rfl)
  · subst hf5
    show ite _ _ _ = _; repeat (first | rfl | exact if_pos rfl | rw [if_neg (by decide +kernel)])
  · with_reducible refine okg_call (‹Lib _ _›).Control.ns (‹Lib _ _›).Control.keep (by k_updF) (by decide +kernel) (fun _ => by with_unfolding_all rfl) ?_
    kas_types
    refine callf_new (d := 1) LB.Control (by decide) fun kc hkc => ?_
    refine t_ctl_init LB (upd_self ..) fun kp σ2 h1 h2 h3 h4 h5 => ⟨rfl, h _ _ ⟨kp, hkc, upd_dom h1, ne_none (upd_self ..) h1, h2, h3, fun j x hj => h4 j x ((upd_ne (ne_none hj hkc)).trans hj) (ne_none hj hkc), fun j hj => upd_dom (h5 j hj)⟩⟩
  · rintro kc σ2 ⟨kp, h1, h2, h3, h4, h5, h6, h7⟩
    exact h6 _ _ b1
  · rintro kc σ2 ⟨kp, h1, h2, h3, h4, h5, h6, h7⟩
    have b1' := h6 _ _ b1
    have nk := ne_none b1 h1
    have nkp := ne_none b1 h2
    refine okb_init (.list []) lookup_hit (by k_memK) (upd_self ..) LB.FlowRun.cls LB.FlowRun_notes (by decide) ?_ (fun Q h => okN_list h) (fun kn hkn => ?_) (by with_unfolding_all rfl) (by with_unfolding_all rfl) (by with_unfolding_all rfl)
    · subst hf5
      show ite _ _ _ = _; repeat (first | rfl | exact if_pos rfl | rw [if_neg (by decide +kernel)])
    obtain ⟨c1, c2, c3, c4⟩ := init_facts (cell := .list []) (i1 := .inst A.c_FlowRun (0 + 1 + 1 + 1 + 1 + 1 + 1 + 1) (fun z => if z = "notes" then some (.ref kn) else if z = "control" then some (.ref kc) else f5 z)) hkn (upd_self ..)
    kas_types
    have hkn2 : σ2 kn = none := upd_dom hkn
    obtain ⟨n, fC, hn, g1, g2⟩ := h4.at_
    refine ret_next (h kc kp kn _ ⟨⟨b3 _ h1, b3 _ h2, b3 _ (h7 _ hkn2), h3, ne_none g1 hkn2, ne_none h5 hkn2, nk, nkp, ne_none b1' hkn2⟩, ⟨_, _, c2, ?_⟩, ⟨n, fC, hn, ?_, g2⟩, ?_, c1, ?_, ?_⟩)
    · subst hf5
      refine ⟨?_, ?_, ?_, ?_, ?_, ?_, ?_, ?_, ?_, ?_, ?_⟩ <;> (show ite _ _ _ = _; repeat (first | rfl | exact if_pos rfl | rw [if_neg (by decide +kernel)]))
    · exact c3 _ _ ((upd_ne (Ne.symm nk)).trans g1) (Ne.symm nk)
    · exact c3 _ _ ((upd_ne (Ne.symm nkp)).trans h5) (Ne.symm nkp)
    · exact fun j x hj hn => c3 _ _ ((upd_ne hn).trans (h6 _ _ (b2 _ _ hj hn))) hn
    · exact fun j hj => b3 _ (h7 _ (upd_dom (c4 _ hj)))
end

end

-- E11
section
noncomputable def isWhile : Row → Bool
  | .st (.whil _) => true
  | _ => false
noncomputable def isWend : Row → Bool
  | .st .wend => true
  | _ => false
noncomputable def gath : List (Int × Row) → Nat → List Nat → (Nat → Option Nat) → (Nat → Option Nat)
  | [], _, _, g => g
  | x :: r, n, w, g =>
    if isWhile x.2 then gath r (n + 1) (w ++ [n]) g
    else if isWend x.2 then match w.getLast? with
      | none => gath r (n + 1) w g
      | some b => gath r (n + 1) w.dropLast (fun z => if z = n then some b else if z = b then some n else g z)
    else gath r (n + 1) w g
noncomputable def flatP : Nat → List (Int × List St) → List (Int × Row)
  | _, [] => []
  | n, p :: r => flatSs p.1 n p.2 ++ flatP (n + (flatSs p.1 n p.2).length) r
noncomputable def placesP : Nat → List (Int × List St) → (Int → Option Nat) → (Int → Option Nat)
  | _, [], g => g
  | n, p :: r, g => placesP (n + (flatSs p.1 n p.2).length) r (fun z => if z = p.1 then some n else g z)
noncomputable def encP (p : Int × List St) : V := .tup [.int p.1, .lst (encSs p.2)]
noncomputable def mkPrg (ps : List (Int × List St)) : Prg := ⟨flatP 0 ps, placesP 0 ps fun _ => none, gath (flatP 0 ps) 0 [] fun _ => none⟩

theorem encR_word (r : Row) : ∃ wd rest, encR r = .tup (.str wd :: rest) ∧ (wd == ("DATA" : Str)) = false ∧ (wd == ("WHILE" : Str)) = isWhile r ∧ (wd == ("WEND" : Str)) = isWend r ∧ (wd == ("DEFLINES" : Str)) = false ∧ (wd == ("FNEND" : Str)) = false ∧
    (wd == ("FOR" : Str)) = false ∧ (wd == ("NEXT" : Str)) = false := by
  cases r with
  | ifnot t n => refine ⟨"IFNOT", _, rfl, ?_, ?_, ?_, ?_, ?_, ?_, ?_⟩ <;> first | decide +kernel | (show (_ == _) = false; decide +kernel) | (show (_ == _) = true; decide +kernel)
  | jump n => refine ⟨"JUMP", _, rfl, ?_, ?_, ?_, ?_, ?_, ?_, ?_⟩ <;> first | decide +kernel | (show (_ == _) = false; decide +kernel) | (show (_ == _) = true; decide +kernel)
  | st s => cases s with
    | let_ x t => refine ⟨"LET", _, rfl, ?_, ?_, ?_, ?_, ?_, ?_, ?_⟩ <;> first | decide +kernel | (show (_ == _) = false; decide +kernel) | (show (_ == _) = true; decide +kernel)
    | rem s => refine ⟨"REM", _, rfl, ?_, ?_, ?_, ?_, ?_, ?_, ?_⟩ <;> first | decide +kernel | (show (_ == _) = false; decide +kernel) | (show (_ == _) = true; decide +kernel)
    | end_ => refine ⟨"END", _, rfl, ?_, ?_, ?_, ?_, ?_, ?_, ?_⟩ <;> first | decide +kernel | (show (_ == _) = false; decide +kernel) | (show (_ == _) = true; decide +kernel)
    | goto l => refine ⟨"GOTO", _, rfl, ?_, ?_, ?_, ?_, ?_, ?_, ?_⟩ <;> first | decide +kernel | (show (_ == _) = false; decide +kernel) | (show (_ == _) = true; decide +kernel)
    | gosub l => refine ⟨"GOSUB", _, rfl, ?_, ?_, ?_, ?_, ?_, ?_, ?_⟩ <;> first | decide +kernel | (show (_ == _) = false; decide +kernel) | (show (_ == _) = true; decide +kernel)
    | ongo g t ls => refine ⟨"ONGO", _, rfl, ?_, ?_, ?_, ?_, ?_, ?_, ?_⟩ <;> first | decide +kernel | (show (_ == _) = false; decide +kernel) | (show (_ == _) = true; decide +kernel)
    | ret => refine ⟨"RETURN", _, rfl, ?_, ?_, ?_, ?_, ?_, ?_, ?_⟩ <;> first | decide +kernel | (show (_ == _) = false; decide +kernel) | (show (_ == _) = true; decide +kernel)
    | whil t => refine ⟨"WHILE", _, rfl, ?_, ?_, ?_, ?_, ?_, ?_, ?_⟩ <;> first | decide +kernel | (show (_ == _) = false; decide +kernel) | (show (_ == _) = true; decide +kernel)
    | wend => refine ⟨"WEND", _, rfl, ?_, ?_, ?_, ?_, ?_, ?_, ?_⟩ <;> first | decide +kernel | (show (_ == _) = false; decide +kernel) | (show (_ == _) = true; decide +kernel)
    | if_ t a b => refine ⟨"IF", _, rfl, ?_, ?_, ?_, ?_, ?_, ?_, ?_⟩ <;> first | decide +kernel | (show (_ == _) = false; decide +kernel) | (show (_ == _) = true; decide +kernel)

section
variable {c : Ctx} {A : Ads} {d : Nat} {env : Env} {lk : Loc} {σ σ' : Sto} {pos : Pos} {QX : Fl → Loc → Sto → Prop} {Q : V → Sto → Prop}

theorem FlatAt.eq {kf kr kl kp : Nat} (h : FlatAt A σ kf kr kl kp) (hk : σ' kf = σ kf) : FlatAt A σ' kf kr kl kp := by
  obtain ⟨n, f, h1, q⟩ := h.at_
  exact ⟨n, f, hk.trans h1, q⟩

theorem t_join0 (LB : Lib c A) {kf ko : Nat} {n : Int} (ho : σ ko = some (.list [])) (h : Q .none σ) : CodeOk c 1 (.ref A.f_join_rows) [.ref kf, .ref ko, .int n] σ Q := by
  refine code_fn3 "flat" "open_rows" "at" LB.join_rows.fn (by intros; rfl) (by decide +kernel) fun L cdv => ?_
  kat_tups
  kas_types
  refine callf_len (.inr (.inr ⟨_, rfl, ho⟩)) len0 ?_
  kas_types
  rw [decide_eq_false (by simp)]
  kas_types
  exact ret_next h

theorem few_zero {g : Int → Option V} {N : Nat} (h : ∀ z, g z ≠ none → 0 ≤ z ∧ z < N) (hN : N ≤ 1000) : Few g :=
  ⟨(List.range N).map Int.ofNat, by simpa using hN, fun k hk => by
    obtain ⟨h1, h2⟩ := h k hk
    exact List.mem_map.mpr ⟨k.toNat, List.mem_range.mpr (by omega), by simp; omega⟩⟩

theorem t_join1 (LB : Lib c A) {kf kr kl kp ko : Nat} {n b : Nat} {ws : List V} {g : Int → Option V} (hf : FlatAt A σ kf kr kl kp) (ho : σ ko = some (.list (ws ++ [.int b]))) (hp : σ kp = some (.dictI g)) (n1 : kf ≠ ko) (n2 : kf ≠ kp) (n3 : kp ≠ ko)
    (hg : ∀ z, g z ≠ none → 0 ≤ z ∧ z < 900) (hb : b < 900) (hl : ws.length < 900) (hn : n < 900)
    (h : Q .none (upd (upd σ ko (.list ws)) kp (.dictI fun z => if z = n then some (.int b) else if z = b then some (.int n) else g z))) : CodeOk c 1 (.ref A.f_join_rows) [.ref kf, .ref ko, .int n] σ Q := by
  refine code_fn3 "flat" "open_rows" "at" LB.join_rows.fn (by intros; rfl) (by decide +kernel) fun L cdv => ?_
  kat_tups
  kas_types
  refine callf_len (.inr (.inr ⟨_, rfl, ho⟩)) (le_line (by simp; omega)) ?_
  kas_types
  rw [decide_eq_true (by simp)]
  kas_types
  with_reducible refine ok_meth ?_ (by with_unfolding_all rfl) (by with_unfolding_all rfl) (by with_unfolding_all rfl) (by with_unfolding_all rfl)
  kas_types
  refine ⟨_, meth_pop ho, rfl, ?_⟩
  kas_types
  refine callf_pop ho (le_line (by omega)) ?_
  kas_types
  have i1 := (hf.upd_ (x := .list ws) n1).pairs LB
  have p1 := (upd_ne (c := .list ws) n3).trans hp
  refine okb_assign ?_ (by with_unfolding_all rfl) (by with_unfolding_all rfl) (by with_unfolding_all rfl)
  kas_types
  refine oka_sub ?_
  kas_types
  refine set_dictI p1 (few_zero (N := 900) hg (by decide)) ?_
  have i2 := ((hf.upd_ (x := .list ws) n1).upd_ (x := .dictI fun z => if z = (b : Int) then some (V.int n) else g z) n2).pairs LB
  refine okb_assign ?_ (by with_unfolding_all rfl) (by with_unfolding_all rfl) (by with_unfolding_all rfl)
  kas_types
  refine oka_sub ?_
  kas_types
  refine set_dictI (upd_self ..) (few_zero (N := 900) (fun z hz => ?_) (by decide)) ?_
  · by_cases e : z = b
    · subst e; omega
    · rw [if_neg e] at hz; exact hg z hz
  rw [upd_upd]
  kas_types
  exact ret_next h

noncomputable def gIn (rows : List (Int × Row)) (g : Nat → Option Nat) (g' : Int → Option V) : Prop := (∀ n : Nat, g' n = (g n).map fun k => .int k) ∧ ∀ z, g' z ≠ none → 0 ≤ z ∧ z < rows.length

theorem enumV_cons {n : Nat} {x : V} {r : List V} : enumV n (x :: r) = .tup [.int n, x] :: enumV (n + 1) r := rfl

set_option maxHeartbeats 1000000 in
theorem t_gather (LB : Lib c A) {kf kr kl kp : Nat} {rows : List (Int × Row)} (hf : FlatAt A σ kf kr kl kp) (hr : σ kr = some (.list (rows.map encRow))) (hp : σ kp = some (.dictI fun _ => none)) (nd : [kf, kr, kl, kp].Nodup) (hl : rows.length ≤ 900)
    (h : ∀ σ' g', σ' kp = some (.dictI g') → (∀ n : Nat, g' n = (gath rows 0 [] (fun _ => none) n).map fun k => .int k) → (∀ j x, σ j = some x → j ≠ kp → σ' j = some x) → (∀ j, σ' j = none → σ j = none) → Q .none σ') :
    CodeOk c 2 (.ref A.f_gather) [.ref kf] σ Q := by
  simp only [List.nodup_cons, List.mem_cons, List.not_mem_nil, or_false, not_or] at nd
  obtain ⟨⟨n1, n2, n3⟩, ⟨n4, n5⟩, n6, _⟩ := nd
  refine code_fn1 "flat" LB.gather.fn (by intros; rfl) (by decide +kernel) fun L cdv => ?_
  kat_tups
  refine okb_swap3 "whiles" "fors" "heads" ?_ (by with_unfolding_all rfl) (by with_unfolding_all rfl) (by k_upd) (by k_upd) (by k_upd)
  refine ok_tuple ?_
  refine okl_cons ?_ (fun _ => by with_unfolding_all rfl)
  refine okN_list fun kw hkw => ?_
  refine okl_cons ?_ (fun _ => by with_unfolding_all rfl)
  refine okN_list fun ko hko => ?_
  refine okl_cons ?_ (fun _ => by with_unfolding_all rfl)
  refine okN_list fun kh hkh => ?_
  have w1 := ne_none (upd_self σ kw (.list [])) hko
  have w2 := ne_none ((upd_ne w1).trans (upd_self σ kw (.list []))) hkh
  have b1 : upd (upd (upd σ kw (.list [])) ko (.list [])) kh (.list []) kw = some (.list []) := by rw [upd_ne w2, upd_ne w1, upd_self]
  have b2 : ∀ j x, σ j = some x → upd (upd (upd σ kw (.list [])) ko (.list [])) kh (.list []) j = some x := fun j x hj => by
    have e1 := (upd_ne (c := Cell.list []) (ne_none hj hkw)).trans hj
    have e2 := (upd_ne (c := Cell.list []) (ne_none e1 hko)).trans e1
    exact (upd_ne (ne_none e2 hkh)).trans e2
  have b3 : ∀ j, upd (upd (upd σ kw (.list [])) ko (.list [])) kh (.list []) j = none → σ j = none := fun j hj => upd_dom (upd_dom (upd_dom hj))
  generalize upd (upd (upd σ kw (.list [])) ko (.list [])) kh (.list []) = σ0 at *
  have nkw : ∀ j x, σ j = some x → j ≠ kw := fun j x hj => ne_none hj hkw
  obtain ⟨nI, fI, hfI, _⟩ := hf.at_
  have m1 := nkw _ _ hfI
  have m2 := nkw _ _ hr
  have m3 := nkw _ _ hp
  have hr0 := b2 _ _ hr
  have hp0 := b2 _ _ hp
  have hf0 : FlatAt A σ0 kf kr kl kp := hf.eq ((b2 _ _ hfI).trans hfI.symm)
  kas_types
  refine okit_enum LB.b_enumerate (by k_updF) ?_ (fun _ => by with_unfolding_all rfl)
  have i0 := hf0.rows LB
  kas_types
  refine .inr ⟨kr, _, rfl, hr0, hr0, ?_⟩
  refine loop_weak (lk' := [("flat", .ref kf), ("heads", .ref kh), ("fors", .ref ko), ("whiles", .ref kw)]) (by keq_rows) ?_
  refine loop_inv2 (fun xs lk₁ σ₁ => ∃ (rs : List (Int × Row)) (n : Nat) (w : List Nat) (g : Nat → Option Nat) (g' : Int → Option V), xs = enumV n (rs.map encRow) ∧ lk₁ = ([("flat", .ref kf), ("heads", .ref kh), ("fors", .ref ko), ("whiles", .ref kw)] : Loc) ∧ n + rs.length = rows.length ∧
    σ₁ kw = some (.list (w.map fun k : Nat => .int k)) ∧ (∀ x ∈ w, x < n) ∧ w.length ≤ n ∧ σ₁ kp = some (.dictI g') ∧ gIn rows g g' ∧ gath rs n w g = gath rows 0 [] (fun _ => none) ∧ (∀ j x, σ j = some x → j ≠ kp → σ₁ j = some x) ∧ (∀ j, σ₁ j = none → σ j = none)) (by k_upd) (by k_upd) (fun QB x xs lk₁ σ₁ hJ hB => ?_) (fun lk₁ σ₁ hJ => ?_)
    ⟨rows, 0, [], _, _, rfl, rfl, by simp, b1, by simp, by simp, hp0, ⟨fun _ => rfl, fun _ h => absurd rfl h⟩, rfl, fun j x hj _ => b2 j x hj, b3⟩
  · obtain ⟨rs, n, w, g, g', hx, rfl, hn, hw, hwn, hwl, hp1, ⟨hg1, hg2⟩, hgath, hk1, hk2⟩ := hJ
    cases rs with
    | nil => cases hx
    | cons p rs =>
      obtain ⟨line, r⟩ := p
      rw [List.map_cons, enumV_cons] at hx
      injection hx with hx1 hx2
      subst hx1
      simp only [List.length_cons] at hn
      have hf1 : FlatAt A σ₁ kf kr kl kp := hf.eq ((hk1 _ _ hfI n3).trans hfI.symm)
      have hr1 := hk1 _ _ hr n5
      obtain ⟨wd, rest, hwd, e1, e2, e3, e4, e5, e6, e7⟩ := encR_word r
      have nxt : ∀ (w₂ : List Nat) (g₂ : Nat → Option Nat) (g₂' : Int → Option V) σ₂, σ₂ kw = some (.list (w₂.map fun k : Nat => .int k)) → (∀ x ∈ w₂, x < n + 1) → w₂.length ≤ n + 1 → σ₂ kp = some (.dictI g₂') → gIn rows g₂ g₂' → gath rs (n + 1) w₂ g₂ = gath ((line, r) :: rs) n w g →
          (∀ j x, σ₁ j = some x → j ≠ kp → j ≠ kw → σ₂ j = some x) → (∀ j, σ₂ j = none → σ₁ j = none) → ∀ lk₂, Sub ([("flat", .ref kf), ("heads", .ref kh), ("fors", .ref ko), ("whiles", .ref kw)] : Loc) lk₂ → QB .next lk₂ σ₂ :=
        fun w₂ g₂ g₂' σ₂ q1 q2 q3 q4 q5 q6 q7 q8 lk₂ hs => hB .next _ _ ⟨q7 _ _ hr1 n5 m2, _, hs, rs, n + 1, w₂, g₂, g₂', hx2, rfl, by omega, q1, q2, q3, q4, q5, q6.trans hgath, fun j x hj hn => q7 j x (hk1 j x hj hn) hn (nkw j x hj), fun j hj => hk2 j (q8 j hj)⟩
      refine ⟨_, _, rfl, ?_⟩
      rw [show encRow (line, r) = .tup [.int line, encR r] from rfl, hwd]
      refine okb_assign ?_ (by with_unfolding_all rfl) (by with_unfolding_all rfl) (by with_unfolding_all rfl)
      kas_types
      refine oka_tuple (okas_cons (oka_name (okas_cons (oka_name (okas_nil ?_) (by k_upd)) (by with_unfolding_all rfl)) (by k_upd)) (by with_unfolding_all rfl)) (by with_unfolding_all rfl) (by with_unfolding_all rfl)
      kas_types
      rw [e1]
      kas_types
      rw [e2]
      cases hq : isWhile r with
      | true =>
        kas_types
        with_reducible refine ok_meth ?_ (by with_unfolding_all rfl) (by with_unfolding_all rfl) (by with_unfolding_all rfl) (by with_unfolding_all rfl)
        kas_types
        refine ⟨_, meth_append hw, rfl, ?_⟩
        kas_types
        refine callf_append hw (le_line (by simp; omega)) ?_
        kas_types
        refine nxt (w ++ [n]) g g' _ (by rw [upd_self]; simp) ?_ (by simp; omega) ((upd_ne m3).trans hp1) ⟨hg1, hg2⟩ ?_ (fun j x hj _ hn => (upd_ne hn).trans hj) (fun j hj => upd_dom hj) _ (by keq_rows)
        · intro y hy
          rcases List.mem_append.mp hy with hy | hy
          · have := hwn y hy; omega
          · rw [List.mem_singleton.mp hy]; omega
        · simp only [gath, hq, if_true]
      | false =>
        kas_types
        rw [e3]
        cases hq2 : isWend r with
        | true =>
          kas_types
          with_reducible refine okg_call (‹Lib _ _›).join_rows.ns (‹Lib _ _›).join_rows.keep (by k_updF) (by decide +kernel) (fun _ => by with_unfolding_all rfl) ?_
          kas_types
          cases hlast : w.getLast? with
          | none =>
            have hw0 : w = [] := List.getLast?_eq_none_iff.mp hlast
            subst hw0
            refine (t_join0 LB hw ?_).f (by decide)
            kas_types
            refine nxt [] g g' _ hw (by simp) (by simp) hp1 ⟨hg1, hg2⟩ ?_ (fun j x hj _ _ => hj) (fun j hj => hj) _ (by keq_rows)
            simp [gath, hq, hq2]
          | some b =>
            obtain ⟨w', rfl⟩ : ∃ w', w = w' ++ [b] := List.getLast?_eq_some_iff.mp hlast
            have hb : b < n := hwn b (by simp)
            simp only [List.length_append, List.length_singleton] at hwl
            refine (t_join1 LB (n := n) (b := b) (ws := w'.map fun k : Nat => .int k) hf1 (by rw [hw]; simp) hp1 m1 n3 m3 (fun z hz => by have := hg2 z hz; omega) (by omega) (by simp; omega) (by omega) ?_).f (by decide)
            kas_types
            refine nxt w' (fun z => if z = n then some b else if z = b then some n else g z) _ _ ((upd_ne (Ne.symm m3)).trans (upd_self ..)) (fun x hx => by have := hwn x (by simp [hx]); omega) (by omega) (upd_self ..) ⟨fun z => ?_, fun z hz => ?_⟩ ?_ (fun j x hj q1 q2 => (upd_ne q1).trans ((upd_ne q2).trans hj)) (fun j hj => upd_dom (upd_dom hj)) _ (by keq_rows)
            · by_cases e1 : z = n
              · subst e1; simp
              · by_cases e2 : z = b
                · subst e2; simp [e1]
                · show ite _ _ (ite _ _ _) = Option.map _ (ite _ _ (ite _ _ _))
                  rw [if_neg (by omega), if_neg (by omega), if_neg e1, if_neg e2, hg1]
            · by_cases e1 : z = (n : Int)
              · omega
              · by_cases e2 : z = (b : Int)
                · omega
                · replace hz : (ite (z = (n : Int)) (some (V.int b)) (ite (z = (b : Int)) (some (V.int n)) (g' z))) ≠ none := hz
                  rw [if_neg e1, if_neg e2] at hz
                  exact hg2 z hz
            · simp [gath, hq, hq2]
        | false =>
          kas_types
          rw [e4]
          kas_types
          rw [e5]
          kas_types
          rw [e6]
          kas_types
          rw [e7]
          kas_types
          refine nxt w g g' _ hw (fun x hx => by have := hwn x hx; omega) (by omega) hp1 ⟨hg1, hg2⟩ ?_ (fun j x hj _ _ => hj) (fun j hj => hj) _ (by keq_rows)
          simp [gath, hq, hq2]
  · obtain ⟨rs, n, w, g, g', hx, rfl, hn, hw, hwn, hwl, hp1, ⟨hg1, hg2⟩, hgath, hk1, hk2⟩ := hJ
    cases rs with
    | cons s r => cases hx
    | nil =>
      kas_types
      refine ret_next (h _ g' hp1 (fun n => ?_) hk1 hk2)
      rw [hg1, ← hgath]
      rfl
end

end

-- E12
section
section
variable {c : Ctx} {A : Ads} {d : Nat} {env : Env} {lk : Loc} {σ σ' : Sto} {pos : Pos} {QX : Fl → Loc → Sto → Prop} {Q : V → Sto → Prop}

structure FlatNew (A : Ads) (P : Prg) (kf kr kl kp : Nat) (σ σ' : Sto) : Prop where
  fresh : σ kf = none ∧ σ kr = none ∧ σ kl = none ∧ σ kp = none
  nd : [kf, kr, kl, kp].Nodup
  flat : FlatAt A σ' kf kr kl kp
  rows : σ' kr = some (.list (P.rows.map encRow))
  places : σ' kl = some (.dictI fun l => (P.places l).map fun n => .int n)
  pairs : ∃ g, σ' kp = some (.dictI g) ∧ ∀ n : Nat, g n = (P.pairs n).map fun k => .int k
  keep : ∀ j x, σ j = some x → σ' j = some x
  dom : ∀ j, σ' j = none → σ j = none

theorem few_list {g : Int → Option V} {ks : List Int} (h : ∀ z, g z ≠ none → z ∈ ks) (hN : ks.length ≤ 1000) : Few g := ⟨ks, hN, h⟩

set_option maxHeartbeats 1000000 in
theorem t_flatten (LB : Lib c A) {ps : List (Int × List St)} {D : Nat} (hps : ps.length ≤ 100) (hne : ∀ p ∈ ps, p.2 ≠ []) (hD : ∀ p ∈ ps, depSs p.2 ≤ D) (hl : (flatP 0 ps).length ≤ 900)
    (h : ∀ kf kr kl kp σ', FlatNew A (mkPrg ps) kf kr kl kp σ σ' → Q (.ref kf) σ') : CodeOk c (2 * D + 3) (.ref A.f_flatten) [.lst (ps.map encP)] σ Q := by
  refine code_fn1 "parsed" LB.flatten.fn (by intros; rfl) (by decide +kernel) fun L cdv => ?_
  kat_tups
  kas_types
  with_reducible refine okg_call (‹Lib _ _›).Flat.ns (‹Lib _ _›).Flat.keep (by k_updF) (by decide +kernel) (fun _ => by with_unfolding_all rfl) ?_
  kas_types
  refine callf_new (d := 1) LB.Flat (by omega) fun kf hkf => ?_
  refine t_flat_init LB (upd_self ..) fun kr kl kp σ0 q1 q2 q3 n4 n5 n6 hf0 hr0 hl0 hp0 hk0 => ⟨rfl, ?_⟩
  have n1 := ne_none (upd_self σ kf (.inst A.c_Flat 0 fun _ => none)) q1
  have n2 := ne_none (upd_self σ kf (.inst A.c_Flat 0 fun _ => none)) q2
  have n3 := ne_none (upd_self σ kf (.inst A.c_Flat 0 fun _ => none)) q3
  replace q1 : σ kr = none := upd_dom q1
  replace q2 : σ kl = none := upd_dom q2
  replace q3 : σ kp = none := upd_dom q3
  have hk0' : ∀ j x, σ j = some x → σ0 j = some x := fun j x hj => hk0 j x ((upd_ne (ne_none hj hkf)).trans hj) (ne_none hj hkf)
  kas_types
  refine okit_val ?_
  kas_types
  refine ⟨_, .inr rfl, trivial, ?_⟩
  refine loop_weak (lk' := [("parsed", .lst (ps.map encP)), ("flat", .ref kf)]) (by keq_rows) ?_
  have fl : ∀ R D, FlatAt A (upd (upd σ0 kr (.list R)) kl (.dictI D)) kf kr kl kp := fun R D => (hf0.upd_ n1).upd_ n2
  have ir : ∀ R D, InstF c (upd (upd σ0 kr (.list R)) kl (.dictI D)) kf "rows" (.ref kr) := fun R D => (fl R D).rows LB
  have il : ∀ R D, InstF c (upd (upd σ0 kr (.list R)) kl (.dictI D)) kf "places" (.ref kl) := fun R D => (fl R D).places LB
  have cr : ∀ R D, upd (upd σ0 kr (.list R)) kl (.dictI D) kr = some (.list R) := fun R D => (upd_ne n4).trans (upd_self ..)
  have cl : ∀ R D, upd (upd σ0 kr (.list R)) kl (.dictI D) kl = some (.dictI D) := fun R D => upd_self ..
  refine loop_inv2 (fun xs lk₁ σ₁ => ∃ (qs : List (Int × List St)) (R : List (Int × Row)) (g : Int → Option Nat), xs = qs.map encP ∧ lk₁ = ([("parsed", .lst (ps.map encP)), ("flat", .ref kf)] : Loc) ∧ (∀ p ∈ qs, p ∈ ps) ∧ R ++ flatP R.length qs = flatP 0 ps ∧ placesP R.length qs g = placesP 0 ps (fun _ => none) ∧
    (∀ z, g z ≠ none → z ∈ ps.map (·.1)) ∧ σ₁ = upd (upd σ0 kr (.list (R.map encRow))) kl (.dictI fun l => (g l).map fun n : Nat => .int n)) (by k_upd) (by k_upd) (fun QB x xs lk₁ σ₁ hJ hB => ?_) (fun lk₁ σ₁ hJ => ?_) ⟨ps, [], _, rfl, rfl, fun _ h => h, rfl, rfl, fun _ h => absurd rfl h, ?_⟩
  · obtain ⟨qs, R, g, hx, rfl, hm, hR, hG, hg, rfl⟩ := hJ
    cases qs with
    | nil => cases hx
    | cons p qs =>
      obtain ⟨line, sts⟩ := p
      rw [List.map_cons] at hx
      injection hx with hx1 hx2
      subst hx1
      have hmem := hm _ (.head _)
      have hDs : depSs sts ≤ D := hD _ hmem
      have hnes : sts ≠ [] := hne _ hmem
      have hge := flatSs_ge (line := line) (l := sts) (n := R.length)
      have hpos : 1 ≤ sts.length := by cases sts with
        | nil => exact absurd rfl hnes
        | cons a b => simp
      have hlen : R.length + (flatSs line R.length sts).length + (flatP (R.length + (flatSs line R.length sts).length) qs).length ≤ 900 := by
        rw [← hR] at hl
        simp only [flatP, List.length_append] at hl
        omega
      rw [show encP (line, sts) = .tup [.int line, .lst (encSs sts)] from rfl]
      refine ⟨_, _, rfl, ?_⟩
      refine okb_assign ?_ (by with_unfolding_all rfl) (by with_unfolding_all rfl) (by with_unfolding_all rfl)
      have i1 := ir (R.map encRow) (fun l => (g l).map fun n : Nat => .int n)
      have i2 := il (R.map encRow) (fun l => (g l).map fun n : Nat => .int n)
      kas_types
      refine callf_len (.inr (.inr ⟨_, rfl, cr _ _⟩)) (le_line (by simp; omega)) ?_
      refine oka_sub ?_
      kas_types
      refine set_dictI (cl _ _) (few_list (ks := ps.map (·.1)) (fun z hz => hg z (by intro e; rw [e] at hz; exact hz rfl)) (by simp; omega)) ?_
      rw [upd_upd, List.length_map]
      have eD : (fun x => if x = line then some (V.int (R.length : Nat)) else Option.map (fun n : Nat => V.int n) (g x)) = (fun l => ((fun z => if z = line then some R.length else g z) l).map fun n : Nat => .int n) := by
        funext z
        by_cases e : z = line <;> simp [e]
      rw [eD]
      generalize hg2 : (fun z => if z = line then some R.length else g z) = g2
      have hgl : g2 line = some R.length := by rw [← hg2]; simp
      kas_types
      with_reducible refine okg_call (‹Lib _ _›).put_all.ns (‹Lib _ _›).put_all.keep (by k_updF) (by decide +kernel) (fun _ => by with_unfolding_all rfl) ?_
      kas_types
      refine (put_all_any LB (depSs sts) sts (Nat.le_refl _) kf kr kl kp (R.map encRow) _ _ (fl _ _) (cr _ _) n1 (by rw [List.length_map]; omega) ?_).f (by omega)
      have ec : ∀ R', upd (upd (upd σ0 kr (.list (R.map encRow))) kl (.dictI fun l => (g2 l).map fun n : Nat => .int n)) kr (.list R') = upd (upd σ0 kr (.list R')) kl (.dictI fun l => (g2 l).map fun n : Nat => .int n) := fun R' => by
        funext j
        by_cases e1 : j = kr
        · subst e1; rw [upd_self, upd_ne n4, upd_self]
        · rw [upd_ne e1]
          by_cases e2 : j = kl
          · subst e2; rw [upd_self, upd_self]
          · rw [upd_ne e2, upd_ne e2, upd_ne e1, upd_ne e1]
      rw [ec, List.length_map, ← List.map_append]
      have i3 := ir ((R ++ flatSs line R.length sts).map encRow) (fun l => (g2 l).map fun n : Nat => .int n)
      have i4 := il ((R ++ flatSs line R.length sts).map encRow) (fun l => (g2 l).map fun n : Nat => .int n)
      kas_types
      refine item_dictI plainI (cl _ _) (y := .int R.length) (by rw [hgl]; rfl) ?_
      kas_types
      refine callf_len (.inr (.inr ⟨_, rfl, cr _ _⟩)) (le_line (by simp; omega)) ?_
      kas_types
      rw [decide_eq_false (by simp; omega)]
      kas_types
      refine hB .next _ _ ⟨trivial, ([("parsed", .lst (ps.map encP)), ("flat", .ref kf)] : Loc), by keq_rows, qs, R ++ flatSs line R.length sts, g2, hx2, rfl, fun p hp => hm p (.tail _ hp), ?_, ?_, ?_, rfl⟩
      · rw [← hR]; simp [flatP]
      · rw [← hG, ← hg2]; simp [placesP]
      · intro z hz
        rw [← hg2] at hz
        by_cases e : z = line
        · subst e; exact List.mem_map.mpr ⟨_, hmem, rfl⟩
        · exact hg z (by simpa [e] using hz)
  · obtain ⟨qs, R, g, hx, rfl, hm, hR, hG, hg, rfl⟩ := hJ
    cases qs with
    | cons s r => cases hx
    | nil =>
      simp only [flatP, List.append_nil] at hR
      simp only [placesP] at hG
      subst hR hG
      kas_types
      with_reducible refine okg_call (‹Lib _ _›).gather.ns (‹Lib _ _›).gather.keep (by k_updF) (by decide +kernel) (fun _ => by with_unfolding_all rfl) ?_
      kas_types
      refine (t_gather LB (fl _ _) (cr _ _) ((upd_ne (Ne.symm n6)).trans ((upd_ne (Ne.symm n5)).trans hp0)) ?_ hl fun σ' g' h1 h2 h3 h4 => ?_).f (by omega)
      · simp [n1, n2, n3, n4, n5, n6]
      kas_types
      have k1 : ∀ j x, σ j = some x → σ' j = some x := fun j x hj => h3 j x ((upd_ne (ne_none hj q2)).trans ((upd_ne (ne_none hj q1)).trans (hk0' j x hj))) (ne_none hj q3)
      obtain ⟨nI, fI, g1, g2⟩ := (fl (List.map encRow (flatP 0 ps)) (fun l => Option.map (fun n : Nat => .int n) (placesP 0 ps (fun x => none) l))).at_
      refine ret_ret (lk := []) (h kf kr kl kp σ' ⟨⟨hkf, q1, q2, q3⟩, by simp [n1, n2, n3, n4, n5, n6], ⟨nI, fI, h3 _ _ g1 n3, g2⟩, h3 _ _ (cr _ _) n5, (h3 _ _ (cl (List.map encRow (flatP 0 ps)) (fun l => Option.map (fun n : Nat => .int n) (placesP 0 ps (fun x => none) l))) n6).trans (congrArg (fun g => some (Cell.dictI g)) (funext fun l => by show _ = Option.map _ (do let a ← placesP 0 ps (fun x => none) l; pure (a : Int)); cases placesP 0 ps (fun x => none) l <;> rfl)), ⟨g', h1, h2⟩, k1, fun j hj => by
        cases e : σ j with
        | none => rfl
        | some x => rw [k1 j x e] at hj; cases hj⟩)
  · funext j
    by_cases e2 : j = kl
    · subst e2; rw [upd_self]; exact hl0
    · rw [upd_ne e2]
      by_cases e1 : j = kr
      · subst e1; rw [upd_self]; exact hr0
      · rw [upd_ne e1]
end

end

-- N1

/-- the rows l sit at n -/
noncomputable def At (P : Prg) (n : Nat) (l : List (Int × Row)) : Prop := ∀ j x, l[j]? = some x → P.rows[n + j]? = some x

section
variable {w : Wf} {P : Prg} {n a b k : Nat} {m m' m₁ m₂ : Ms}

theorem At.left {l r : List (Int × Row)} (h : At P n (l ++ r)) : At P n l := fun j x hj => h j x (by
  have : j < l.length := (List.getElem?_eq_some_iff.mp hj).1
  rw [List.getElem?_append_left this]; exact hj)
theorem At.right {l r : List (Int × Row)} (h : At P n (l ++ r)) : At P (n + l.length) r := fun j x hj => by
  have := h (l.length + j) x (by rw [List.getElem?_append_right (by omega)]; simpa using hj)
  rw [Nat.add_assoc]; exact this
theorem At.head {x : Int × Row} {r : List (Int × Row)} (h : At P n (x :: r)) : P.rows[n]? = some x := h 0 x rfl
theorem At.tail {x : Int × Row} {r : List (Int × Row)} (h : At P n (x :: r)) : At P (n + 1) r := fun j y hj => by
  have := h (j + 1) y (by simpa using hj)
  rw [Nat.add_assoc, Nat.add_comm 1 j]; exact this

structure Runs (w : Wf) (P : Prg) (n : Nat) (m m' : Ms) : Prop where
  go : ∀ k, goN w P (n + k) m = goN w P k m'
  mono : m.notes <+: m'.notes
  mid : ∀ j, j < n → ∃ mj, goN w P j m = .ok mj ∧ mj.pc < P.rows.length ∧ m.notes <+: mj.notes ∧ mj.notes <+: m'.notes

theorem Runs.refl : Runs w P 0 m m := ⟨fun k => by rw [Nat.zero_add], List.prefix_refl _, fun j h => absurd h (Nat.not_lt_zero j)⟩

theorem Runs.one {l : Int} {r : Row} (h : P.rows[m.pc]? = some (l, r)) (hs : step w P m r = .ok m') (hm : m.notes <+: m'.notes) : Runs w P 1 m m' := by
  refine ⟨fun k => ?_, hm, fun j hj => ⟨m, ?_, (List.getElem?_eq_some_iff.mp h).1, List.prefix_refl _, hm⟩⟩
  · rw [Nat.add_comm]; simp only [goN, h, hs]
  · rw [Nat.lt_one_iff.mp hj]; rfl

theorem Runs.trans (h : Runs w P a m m₁) (h' : Runs w P b m₁ m₂) : Runs w P (a + b) m m₂ := by
  refine ⟨fun k => by rw [Nat.add_assoc, h.go, h'.go], h.mono.trans h'.mono, fun j hj => ?_⟩
  by_cases hja : j < a
  · obtain ⟨mj, h1, h2, h3, h4⟩ := h.mid j hja
    exact ⟨mj, h1, h2, h3, h4.trans h'.mono⟩
  · obtain ⟨mj, h1, h2, h3, h4⟩ := h'.mid (j - a) (by omega)
    refine ⟨mj, ?_, h2, h.mono.trans h3, h4⟩
    rw [← h1, ← h.go (j - a)]
    congr 1
    omega

theorem Runs.ok (h : Runs w P n m m') : goN w P n m = .ok m' := by
  have := h.go 0
  rw [Nat.add_zero] at this
  rw [this]; rfl

theorem goN_end (h : P.rows.length ≤ m.pc) : ∀ n, goN w P n m = .ok m
  | 0 => rfl
  | n + 1 => by simp only [goN, List.getElem?_eq_none h]
end

inductive Out where
  | fall
  | goto (l : Int)
  | end_
  deriving DecidableEq
noncomputable abbrev Vals := Str → Option Int
noncomputable abbrev Nts := List (Str × Int)
noncomputable def setV (v : Vals) (x : Str) (n : Int) : Vals := fun y => if y = x then some n else v y

mutual
noncomputable def evS (w : Wf) : St → Vals → Nts → Option (Nat × Vals × Nts × Out)
  | .let_ x t, v, n => some (1, setV v x (w t v), n, .fall)
  | .rem s, v, n => some (1, v, n ++ [(s, (v "X").getD 0)], .fall)
  | .end_, v, n => some (1, v, n, .end_)
  | .goto l, v, n => some (1, v, n, .goto l)
  | .ongo g t ls, v, n =>
    if g = "GOTO" ∧ 0 ≤ w t v ∧ w t v ≤ 255 then
      if 1 ≤ w t v ∧ w t v ≤ ls.length then (ls[(w t v - 1).toNat]?).map fun l => (1, v, n, .goto l)
      else some (1, v, n, .fall)
    else none
  | .if_ t a b, v, n =>
    if w t v ≠ 0 then (evSs w a v n).map fun r => (1 + r.1 + (if r.2.2.2 = .fall ∧ b.isEmpty = false then 1 else 0), r.2.1, r.2.2.1, r.2.2.2)
    else (evSs w b v n).map fun r => (1 + r.1, r.2.1, r.2.2.1, r.2.2.2)
  | _, _, _ => none
noncomputable def evSs (w : Wf) : List St → Vals → Nts → Option (Nat × Vals × Nts × Out)
  | [], v, n => some (0, v, n, .fall)
  | s :: r, v, n => match evS w s v n with
    | some (k, v', n', .fall) => (evSs w r v' n').map fun q => (k + q.1, q.2.1, q.2.2.1, q.2.2.2)
    | some (k, v', n', .goto l) => some (k, v', n', .goto l)
    | some (k, v', n', .end_) => some (k, v', n', .end_)
    | none => none
end

noncomputable def dest (P : Prg) (e : Nat) : Out → Option Nat
  | .fall => some e
  | .goto l => P.places l
  | .end_ => some P.rows.length

mutual
theorem evS_ok {w : Wf} {P : Prg} {line : Int} (s : St) {m : Ms} {k : Nat} {v' : Vals} {nt' : Nts} {o : Out} {pc' : Nat} (hat : At P m.pc (flatS line m.pc s)) (he : evS w s m.vals m.notes = some (k, v', nt', o))
    (hd : dest P (m.pc + (flatS line m.pc s).length) o = some pc') : Runs w P k m ⟨pc', v', m.pile, nt'⟩ := by
  cases s with
  | let_ x t =>
    simp only [evS, Option.some.injEq, Prod.mk.injEq] at he
    obtain ⟨rfl, rfl, rfl, rfl⟩ := he
    simp only [flatS, dest, List.length_singleton, Option.some.injEq] at hat hd
    subst hd
    exact Runs.one hat.head rfl (List.prefix_refl _)
  | rem x =>
    simp only [evS, Option.some.injEq, Prod.mk.injEq] at he
    obtain ⟨rfl, rfl, rfl, rfl⟩ := he
    simp only [flatS, dest, List.length_singleton, Option.some.injEq] at hat hd
    subst hd
    exact Runs.one hat.head rfl (List.prefix_append _ _)
  | end_ =>
    simp only [evS, Option.some.injEq, Prod.mk.injEq] at he
    obtain ⟨rfl, rfl, rfl, rfl⟩ := he
    simp only [flatS, dest, List.length_singleton, Option.some.injEq] at hat hd
    subst hd
    exact Runs.one hat.head rfl (List.prefix_refl _)
  | goto l =>
    simp only [evS, Option.some.injEq, Prod.mk.injEq] at he
    obtain ⟨rfl, rfl, rfl, rfl⟩ := he
    simp only [flatS, dest] at hat hd
    exact Runs.one hat.head (by simp only [step, hd]) (List.prefix_refl _)
  | gosub l => simp [evS] at he
  | ret => simp [evS] at he
  | whil t => simp [evS] at he
  | wend => simp [evS] at he
  | ongo g t ls =>
    simp only [evS] at he
    by_cases h1 : g = "GOTO" ∧ 0 ≤ w t m.vals ∧ w t m.vals ≤ 255
    · rw [if_pos h1] at he
      obtain ⟨hg, h2⟩ := h1
      have hng : ¬ g = "GOSUB" := by rw [hg]; decide +kernel
      by_cases h3 : 1 ≤ w t m.vals ∧ w t m.vals ≤ ls.length
      · rw [if_pos h3] at he
        cases hl : ls[(w t m.vals - 1).toNat]? with
        | none => rw [hl] at he; cases he
        | some l =>
          rw [hl] at he
          simp only [Option.map_some, Option.some.injEq, Prod.mk.injEq] at he
          obtain ⟨rfl, rfl, rfl, rfl⟩ := he
          simp only [flatS, dest] at hat hd
          exact Runs.one hat.head (by simp only [step, if_pos h2, if_pos h3, hl, Option.bind_some, hd, if_neg hng]) (List.prefix_refl _)
      · rw [if_neg h3] at he
        simp only [Option.some.injEq, Prod.mk.injEq] at he
        obtain ⟨rfl, rfl, rfl, rfl⟩ := he
        simp only [flatS, dest, List.length_singleton, Option.some.injEq] at hat hd
        subst hd
        exact Runs.one hat.head (by simp only [step, if_pos h2, if_neg h3]) (List.prefix_refl _)
    · rw [if_neg h1] at he; cases he
  | if_ t a b =>
    simp only [evS] at he
    simp only [flatS] at hat hd
    by_cases ht : w t m.vals ≠ 0
    · rw [if_pos ht] at he
      cases hr : evSs w a m.vals m.notes with
      | none => rw [hr] at he; cases he
      | some r =>
        obtain ⟨k1, v1, n1, o1⟩ := r
        rw [hr] at he
        simp only [Option.map_some, Option.some.injEq, Prod.mk.injEq] at he
        obtain ⟨rfl, rfl, rfl, rfl⟩ := he
        by_cases hb : b.isEmpty = true
        · rw [if_pos hb] at hat hd
          rw [if_neg (by simp [hb])]
          have s1 : Runs w P 1 m ⟨m.pc + 1, m.vals, m.pile, m.notes⟩ := Runs.one hat.head (by simp only [step, if_pos ht]) (List.prefix_refl _)
          refine s1.trans (evSs_ok a hat.tail hr ?_)
          rw [← hd]
          simp only [List.length_cons]
          congr 1
          omega
        · rw [if_neg hb] at hat hd
          have s1 : Runs w P 1 m ⟨m.pc + 1, m.vals, m.pile, m.notes⟩ := Runs.one (hat.left (l := _ :: _)).head (by simp only [step, if_pos ht]) (List.prefix_refl _)
          have ha := (hat.left (l := _ :: _)).tail
          cases o1 with
          | fall =>
            rw [if_pos ⟨rfl, by simpa using hb⟩]
            refine (s1.trans (evSs_ok a (pc' := _) ha hr rfl)).trans ?_
            have hj := hat.right (l := _ :: _)
            have hj2 := hj.head
            simp only [List.length_cons] at hj2
            simp only [dest, Option.some.injEq] at hd
            refine Runs.one (m := ⟨_, _, _, _⟩) (l := line) (r := .jump (m.pc + 1 + (flatSs line (m.pc + 1) a).length + 1 + (flatSs line (m.pc + 1 + (flatSs line (m.pc + 1) a).length + 1) b).length)) ?_ ?_ (List.prefix_refl _)
            · rw [← hj2]
              congr 1
              simp only []
              omega
            · subst hd
              simp only [step, List.length_cons, List.length_append]
              congr 2
              omega
          | goto l =>
            rw [if_neg (by simp)]
            exact s1.trans (evSs_ok a ha hr hd)
          | end_ =>
            rw [if_neg (by simp)]
            exact s1.trans (evSs_ok a ha hr hd)
    · rw [if_neg ht] at he
      cases hr : evSs w b m.vals m.notes with
      | none => rw [hr] at he; cases he
      | some r =>
        obtain ⟨k1, v1, n1, o1⟩ := r
        rw [hr] at he
        simp only [Option.map_some, Option.some.injEq, Prod.mk.injEq] at he
        obtain ⟨rfl, rfl, rfl, rfl⟩ := he
        by_cases hb : b.isEmpty = true
        · rw [if_pos hb] at hat hd
          have hb' : b = [] := List.isEmpty_iff.mp hb
          subst hb'
          simp only [evSs, Option.some.injEq, Prod.mk.injEq] at hr
          obtain ⟨rfl, rfl, rfl, rfl⟩ := hr
          simp only [dest, List.length_cons, Option.some.injEq] at hd
          subst hd
          refine Runs.one hat.head ?_ (List.prefix_refl _)
          simp only [step, if_neg ht]
          congr 2
          omega
        · rw [if_neg hb] at hat hd
          have s1 : Runs w P 1 m ⟨m.pc + 1 + (flatSs line (m.pc + 1) a).length + 1, m.vals, m.pile, m.notes⟩ := Runs.one (hat.left (l := _ :: _)).head (by simp only [step, if_neg ht]) (List.prefix_refl _)
          have hj := (hat.right (l := _ :: _)).tail
          have e : m.pc + ((line, Row.ifnot t (m.pc + 1 + (flatSs line (m.pc + 1) a).length + 1)) :: flatSs line (m.pc + 1) a).length + 1 = m.pc + 1 + (flatSs line (m.pc + 1) a).length + 1 := by simp only [List.length_cons]; omega
          rw [e] at hj
          refine s1.trans (evSs_ok b hj hr ?_)
          rw [← hd]
          congr 1
          simp only [List.length_cons, List.length_append]
          omega
theorem evSs_ok {w : Wf} {P : Prg} {line : Int} (l : List St) {m : Ms} {k : Nat} {v' : Vals} {nt' : Nts} {o : Out} {pc' : Nat} (hat : At P m.pc (flatSs line m.pc l)) (he : evSs w l m.vals m.notes = some (k, v', nt', o))
    (hd : dest P (m.pc + (flatSs line m.pc l).length) o = some pc') : Runs w P k m ⟨pc', v', m.pile, nt'⟩ := by
  cases l with
  | nil =>
    simp only [evSs, Option.some.injEq, Prod.mk.injEq] at he
    obtain ⟨rfl, rfl, rfl, rfl⟩ := he
    simp only [flatSs, dest, List.length_nil, Nat.add_zero, Option.some.injEq] at hd
    subst hd
    exact Runs.refl
  | cons s r =>
    simp only [evSs] at he
    simp only [flatSs] at hat hd
    cases hs : evS w s m.vals m.notes with
    | none => rw [hs] at he; cases he
    | some q =>
      obtain ⟨k1, v1, n1, o1⟩ := q
      rw [hs] at he
      cases o1 with
      | fall =>
        simp only [] at he
        have s1 := evS_ok s hat.left hs rfl
        cases hr : evSs w r v1 n1 with
        | none => rw [hr] at he; cases he
        | some q2 =>
          obtain ⟨k2, v2, n2, o2⟩ := q2
          rw [hr] at he
          simp only [Option.map_some, Option.some.injEq, Prod.mk.injEq] at he
          obtain ⟨rfl, rfl, rfl, rfl⟩ := he
          refine s1.trans (evSs_ok r hat.right hr ?_)
          rw [← hd, List.length_append, Nat.add_assoc]
      | goto l =>
        simp only [Option.some.injEq, Prod.mk.injEq] at he
        obtain ⟨rfl, rfl, rfl, rfl⟩ := he
        exact evS_ok s hat.left hs hd
      | end_ =>
        simp only [Option.some.injEq, Prod.mk.injEq] at he
        obtain ⟨rfl, rfl, rfl, rfl⟩ := he
        exact evS_ok s hat.left hs hd
end

theorem flatP_append : ∀ (a b : List (Int × List St)) (n : Nat), flatP n (a ++ b) = flatP n a ++ flatP (n + (flatP n a).length) b
  | [], b, n => by simp [flatP]
  | p :: a, b, n => by simp [flatP, flatP_append a b, List.append_assoc, Nat.add_assoc]
theorem placesP_append : ∀ (a b : List (Int × List St)) (n : Nat) (g : Int → Option Nat), placesP n (a ++ b) g = placesP (n + (flatP n a).length) b (placesP n a g)
  | [], b, n, g => by simp [flatP, placesP]
  | p :: a, b, n, g => by simp [flatP, placesP, placesP_append a b, Nat.add_assoc]
theorem placesP_not {l : Int} : ∀ (q : List (Int × List St)) (n : Nat) (g : Int → Option Nat), l ∉ q.map (·.1) → placesP n q g l = g l
  | [], n, g, _ => rfl
  | p :: q, n, g, h => by
    simp only [List.map_cons, List.mem_cons, not_or] at h
    simp only [placesP]
    rw [placesP_not q _ _ h.2, if_neg h.1]

theorem mk_at {pre post : List (Int × List St)} {p : Int × List St} : At (mkPrg (pre ++ p :: post)) (flatP 0 pre).length (flatSs p.1 (flatP 0 pre).length p.2) := by
  intro j x hj
  show (flatP 0 (pre ++ p :: post))[_]? = some x
  have hl : j < (flatSs p.1 (flatP 0 pre).length p.2).length := (List.getElem?_eq_some_iff.mp hj).1
  rw [flatP_append, List.getElem?_append_right (by omega), Nat.zero_add, flatP, List.getElem?_append_left (by omega)]
  rw [← hj]
  congr 1
  omega
theorem mk_place {pre post : List (Int × List St)} {p : Int × List St} (h : p.1 ∉ post.map (·.1)) : (mkPrg (pre ++ p :: post)).places p.1 = some (flatP 0 pre).length := by
  show placesP 0 (pre ++ p :: post) _ p.1 = _
  rw [placesP_append, placesP, placesP_not _ _ _ h, if_pos rfl, Nat.zero_add]

-- N2

/-- what _law_worth reckons -/
noncomputable def w1 : Wf := fun t vals =>
  if t.1 = "put" then t.2.2
  else if t.1 = "mix" then 4 * (vals "A").getD 0 + (vals "B").getD 0 + t.2.2
  else if t.1 = "next" then (vals t.2.1).getD 0 + t.2.2
  else if t.1 = "sum" then ((vals t.2.1).getD 0 + t.2.2).fmod 4
  else if t.1 = "is" then 0 - (if (vals t.2.1).getD 0 = t.2.2 then 1 else 0)
  else if t.1 = "less" then 0 - (if (vals t.2.1).getD 0 < t.2.2 then 1 else 0)
  else 0 - (if (vals t.2.1).getD 0 > t.2.2 then 1 else 0)

structure Part where
  (goal source more kind one other name how number : Nat)
structure Part.Ok (p : Part) (many : Nat) : Prop where
  goal : p.goal < 2
  source : p.source < 2
  more : p.more < 4
  kind : p.kind < 6
  one : p.one < many
  other : p.other < many
  name : p.name < 2
  how : p.how < 2
  number : p.number < 4

noncomputable def nm (n : Nat) : Str := if n = 0 then "A" else "B"
noncomputable def lineN (i : Nat) : Int := 10 + 10 * i
noncomputable def rm (n : Nat) : Str := Str.ofString (toString (n : Int))
noncomputable def bodyS (p : Part) (line : Nat) : List St := [.let_ "L" ("next", "L", 1), .let_ (nm p.goal) ("sum", nm p.source, p.more), .let_ "X" ("mix", "", 0), .rem (rm line)]
noncomputable def tst (p : Part) : Tree := (if p.how = 0 then "is" else "less", nm p.name, p.number)
noncomputable def jumpS (p : Part) : List St :=
  if p.kind = 1 then [.goto (lineN p.one)]
  else if p.kind = 2 then [.if_ (tst p) [.goto (lineN p.one)] [.goto (lineN p.other)]]
  else if p.kind = 3 then [.if_ (tst p) [.goto (lineN p.one)] []]
  else if p.kind = 4 then [.ongo "GOTO" ("sum", nm p.name, 0) [lineN p.one, lineN p.other]]
  else if p.kind = 5 then [.end_] else []
noncomputable def putP (n : Nat) : St := .let_ "P" ("put", "", n)
noncomputable def ledS (p : Part) (behind : Nat) : List St :=
  if p.kind = 1 then [putP (p.one + 1)]
  else if p.kind = 2 then [.if_ (tst p) [putP (p.one + 1)] [putP (p.other + 1)]]
  else if p.kind = 3 then [.if_ (tst p) [putP (p.one + 1)] [putP behind]]
  else if p.kind = 4 then [.if_ ("is", nm p.name, 1) [putP (p.one + 1)] [.if_ ("is", nm p.name, 2) [putP (p.other + 1)] [putP behind]]]
  else if p.kind = 5 then [putP 0] else [putP behind]
noncomputable def plainFrom : Nat → List Part → List (Int × List St)
  | _, [] => []
  | n, p :: r => (lineN n, bodyS p (n + 1) ++ jumpS p) :: plainFrom (n + 1) r
noncomputable def behindOf (n len : Nat) : Nat := if n + 1 < len then n + 2 else 0
noncomputable def ifsFrom (len : Nat) : Nat → List Part → List (Int × List St)
  | _, [] => []
  | n, p :: r => (40 + n, [.if_ ("is", "Q", (n : Int) + 1) (bodyS p (n + 1) ++ ledS p (behindOf n len)) []]) :: ifsFrom len (n + 1) r
noncomputable def subsFrom (len : Nat) : Nat → List Part → List (Int × List St)
  | _, [] => []
  | n, p :: r => (1000 + 10 * n, bodyS p (n + 1) ++ ledS p (behindOf n len) ++ [.ret]) :: subsFrom len (n + 1) r
noncomputable def headL : List (Int × List St) := [(10, [putP 1]), (20, [.whil ("more", "P", 0), .let_ "R" ("next", "R", 1)])]
noncomputable def loopedPs (called : Bool) (parts : List Part) : List (Int × List St) :=
  if called then headL ++ [(30, [.ongo "GOSUB" ("next", "P", 0) ((List.range parts.length).map fun n : Nat => 1000 + 10 * (n : Int))])] ++ [(50, [.wend])] ++ (60, [.end_]) :: subsFrom parts.length 0 parts
  else headL ++ (30, [.let_ "Q" ("next", "P", 0)]) :: ifsFrom parts.length 0 parts ++ [(50, [.wend])] ++ []

-- N3

/-- A and B are small -/
noncomputable def AB (v : Vals) : Prop := ∀ n, 0 ≤ (v (nm n)).getD 0 ∧ (v (nm n)).getD 0 < 4
noncomputable def Agree (v u : Vals) : Prop := v "A" = u "A" ∧ v "B" = u "B" ∧ v "L" = u "L" ∧ v "X" = u "X"

noncomputable def nxt (p : Part) (i len : Nat) (v : Vals) : Nat :=
  if p.kind = 1 then p.one
  else if p.kind = 2 then (if w1 (tst p) v ≠ 0 then p.one else p.other)
  else if p.kind = 3 then (if w1 (tst p) v ≠ 0 then p.one else i + 1)
  else if p.kind = 4 then (if (v (nm p.name)).getD 0 = 1 then p.one else if (v (nm p.name)).getD 0 = 2 then p.other else i + 1)
  else if p.kind = 5 then len else i + 1
noncomputable def bodyV (p : Part) (v : Vals) : Vals :=
  let v1 := setV v "L" (w1 ("next", "L", 1) v)
  let v2 := setV v1 (nm p.goal) (w1 ("sum", nm p.source, p.more) v1)
  setV v2 "X" (w1 ("mix", "", 0) v2)
structure Vs where
  (i : Nat) (v : Vals) (n : Nts)
noncomputable def visit (parts : List Part) (s : Vs) : Vs := match parts[s.i]? with
  | none => s
  | some p => ⟨nxt p s.i parts.length (bodyV p s.v), bodyV p s.v, s.n ++ [(rm (s.i + 1), (bodyV p s.v "X").getD 0)]⟩
noncomputable def vis (parts : List Part) : Nat → Vs → Vs
  | 0, s => s
  | k + 1, s => vis parts k (visit parts s)

theorem nm_cases (n : Nat) : nm n = "A" ∨ nm n = "B" := by unfold nm; split <;> simp
theorem setV_hit {v : Vals} {x : Str} {n : Int} : setV v x n x = some n := if_pos rfl
theorem setV_ne {v : Vals} {x y : Str} {n : Int} (h : y ≠ x) : setV v x n y = v y := if_neg h

theorem ne_AL : (Str.ofString "A") ≠ Str.ofString "L" := by decide +kernel
theorem ne_BL : (Str.ofString "B") ≠ Str.ofString "L" := by decide +kernel
theorem ne_AX : (Str.ofString "A") ≠ Str.ofString "X" := by decide +kernel
theorem ne_BX : (Str.ofString "B") ≠ Str.ofString "X" := by decide +kernel
theorem ne_LX : (Str.ofString "L") ≠ Str.ofString "X" := by decide +kernel
theorem ne_AB : (Str.ofString "A") ≠ Str.ofString "B" := by decide +kernel
theorem nm_L (n : Nat) : nm n ≠ "L" := by rcases nm_cases n with h | h <;> rw [h] <;> decide +kernel
theorem nm_X (n : Nat) : nm n ≠ "X" := by rcases nm_cases n with h | h <;> rw [h] <;> decide +kernel
theorem nm_P (n : Nat) : nm n ≠ "P" := by rcases nm_cases n with h | h <;> rw [h] <;> decide +kernel

theorem Agree.nm {v u : Vals} (h : Agree v u) (n : Nat) : v (nm n) = u (nm n) := by
  rcases nm_cases n with e | e <;> rw [e]
  · exact h.1
  · exact h.2.1

theorem w1_sum {x : Str} {n : Int} {v : Vals} : w1 ("sum", x, n) v = ((v x).getD 0 + n).fmod 4 := by
  dsimp only [w1]; rw [if_neg (by decide +kernel), if_neg (by decide +kernel), if_neg (by decide +kernel), if_pos rfl]
theorem w1_mix {x : Str} {n : Int} {v : Vals} : w1 ("mix", x, n) v = 4 * (v "A").getD 0 + (v "B").getD 0 + n := by
  dsimp only [w1]; rw [if_neg (by decide +kernel), if_pos rfl]
theorem w1_next {x : Str} {n : Int} {v : Vals} : w1 ("next", x, n) v = (v x).getD 0 + n := by
  dsimp only [w1]; rw [if_neg (by decide +kernel), if_neg (by decide +kernel), if_pos rfl]
theorem w1_put {x : Str} {n : Int} {v : Vals} : w1 ("put", x, n) v = n := by
  dsimp only [w1]; rw [if_pos rfl]
theorem w1_is {x : Str} {n : Int} {v : Vals} : w1 ("is", x, n) v = 0 - (if (v x).getD 0 = n then 1 else 0) := by
  dsimp only [w1]; rw [if_neg (by decide +kernel), if_neg (by decide +kernel), if_neg (by decide +kernel), if_neg (by decide +kernel), if_pos rfl]
theorem w1_less {x : Str} {n : Int} {v : Vals} : w1 ("less", x, n) v = 0 - (if (v x).getD 0 < n then 1 else 0) := by
  dsimp only [w1]; rw [if_neg (by decide +kernel), if_neg (by decide +kernel), if_neg (by decide +kernel), if_neg (by decide +kernel), if_neg (by decide +kernel), if_pos rfl]
theorem w1_more {x : Str} {n : Int} {v : Vals} : w1 ("more", x, n) v = 0 - (if (v x).getD 0 > n then 1 else 0) := by
  dsimp only [w1]; rw [if_neg (by decide +kernel), if_neg (by decide +kernel), if_neg (by decide +kernel), if_neg (by decide +kernel), if_neg (by decide +kernel), if_neg (by decide +kernel)]

theorem tst_agree {p : Part} {v u : Vals} (h : Agree v u) : w1 (tst p) v = w1 (tst p) u := by
  unfold tst
  split
  · rw [w1_is, w1_is, h.nm]
  · rw [w1_less, w1_less, h.nm]
theorem nxt_agree {p : Part} {i len : Nat} {v u : Vals} (h : Agree v u) : nxt p i len v = nxt p i len u := by
  unfold nxt; rw [tst_agree h, h.nm]

theorem fmod4 (x : Int) : 0 ≤ x.fmod 4 ∧ x.fmod 4 < 4 := by
  rw [Int.fmod_eq_emod_of_nonneg _ (by decide)]
  omega

theorem AB.body {p : Part} {v : Vals} (h : AB v) : AB (bodyV p v) := by
  intro n
  simp only [bodyV]
  rw [setV_ne (nm_X n)]
  by_cases e : nm n = nm p.goal
  · rw [e, setV_hit, w1_sum]
    exact fmod4 _
  · rw [setV_ne e, setV_ne (nm_L n)]
    exact h n

theorem Agree.setV {v u : Vals} (h : Agree v u) (x : Str) (n : Int) : Agree (setV v x n) (Mine.setV u x n) := by
  obtain ⟨h1, h2, h3, h4⟩ := h
  refine ⟨?_, ?_, ?_, ?_⟩ <;> simp only [Mine.setV] <;> split <;> first | rfl | assumption
theorem Agree.set_r {v u : Vals} (h : Agree v u) (x : Str) (n : Int) (hx : x ≠ "A" ∧ x ≠ "B" ∧ x ≠ "L" ∧ x ≠ "X") : Agree v (Mine.setV u x n) := by
  obtain ⟨h1, h2, h3, h4⟩ := h
  obtain ⟨x1, x2, x3, x4⟩ := hx
  exact ⟨by rw [setV_ne (Ne.symm x1)]; exact h1, by rw [setV_ne (Ne.symm x2)]; exact h2, by rw [setV_ne (Ne.symm x3)]; exact h3, by rw [setV_ne (Ne.symm x4)]; exact h4⟩

theorem Agree.body {p : Part} {v u : Vals} (h : Agree v u) : Agree (bodyV p v) (bodyV p u) := by
  simp only [bodyV]
  have a1 : Agree (Mine.setV v "L" (w1 ("next", "L", 1) v)) (Mine.setV u "L" (w1 ("next", "L", 1) u)) := by
    rw [w1_next, w1_next, h.2.2.1]; exact h.setV _ _
  have a2 : Agree (Mine.setV (Mine.setV v "L" (w1 ("next", "L", 1) v)) (Mine.nm p.goal) (w1 ("sum", Mine.nm p.source, p.more) (Mine.setV v "L" (w1 ("next", "L", 1) v)))) (Mine.setV (Mine.setV u "L" (w1 ("next", "L", 1) u)) (Mine.nm p.goal) (w1 ("sum", Mine.nm p.source, p.more) (Mine.setV u "L" (w1 ("next", "L", 1) u)))) := by
    rw [w1_sum (v := Mine.setV v _ _), w1_sum (v := Mine.setV u _ _), a1.nm]; exact a1.setV _ _
  rw [w1_mix, w1_mix, a2.1, a2.2.1]
  exact a2.setV _ _

/-- a value off A, B, L, X is not touched -/
theorem bodyV_off {p : Part} {v : Vals} {x : Str} (hx : x ≠ "A" ∧ x ≠ "B" ∧ x ≠ "L" ∧ x ≠ "X") : bodyV p v x = v x := by
  obtain ⟨x1, x2, x3, x4⟩ := hx
  simp only [bodyV]
  have hg : x ≠ nm p.goal := by rcases nm_cases p.goal with e | e <;> rw [e] <;> assumption
  rw [setV_ne x4, setV_ne hg, setV_ne x3]

theorem body_ev {p : Part} {l : Nat} {r : List St} {v : Vals} {n : Nts} : evSs w1 (bodyS p l ++ r) v n = (evSs w1 r (bodyV p v) (n ++ [(rm l, (bodyV p v "X").getD 0)])).map fun q => (4 + q.1, q.2.1, q.2.2.1, q.2.2.2) := by
  show evSs w1 (.let_ "L" ("next", "L", 1) :: .let_ (nm p.goal) ("sum", nm p.source, p.more) :: .let_ "X" ("mix", "", 0) :: .rem (rm l) :: r) v n = _
  simp only [evSs, evS]
  show Option.map _ (Option.map _ (Option.map _ (Option.map _ (evSs w1 r (bodyV p v) (n ++ [(rm l, (bodyV p v "X").getD 0)]))))) = _
  cases evSs w1 r (bodyV p v) (n ++ [(rm l, (bodyV p v "X").getD 0)]) with
  | none => rfl
  | some q =>
    simp only [Option.map_some]
    congr 2
    omega

theorem jump_ev {p : Part} {i len : Nat} {v : Vals} {n : Nts} (hp : p.Ok len) (hv : AB v) (hi : i < len) :
    ∃ t o, evSs w1 (jumpS p) v n = some (t, v, n, o) ∧ t ≤ 2 ∧ ((o = .fall ∧ nxt p i len v = i + 1) ∨ (∃ j, j < len ∧ o = .goto (lineN j) ∧ nxt p i len v = j) ∨ (o = .end_ ∧ nxt p i len v = len)) := by
  obtain ⟨_, _, _, hk, h1, h2, _⟩ := hp
  have hA := hv p.name
  unfold jumpS nxt
  by_cases k1 : p.kind = 1
  · rw [if_pos k1, if_pos k1]
    exact ⟨1, _, rfl, by decide, .inr (.inl ⟨_, h1, rfl, rfl⟩)⟩
  rw [if_neg k1, if_neg k1]
  by_cases k2 : p.kind = 2
  · rw [if_pos k2, if_pos k2]
    by_cases ht : w1 (tst p) v ≠ 0
    · rw [if_pos ht]
      exact ⟨2, .goto (lineN p.one), by simp [evSs, evS, ht], by decide, .inr (.inl ⟨_, h1, rfl, rfl⟩)⟩
    · rw [if_neg ht]
      exact ⟨2, .goto (lineN p.other), by simp at ht; simp [evSs, evS, ht], by decide, .inr (.inl ⟨_, h2, rfl, rfl⟩)⟩
  rw [if_neg k2, if_neg k2]
  by_cases k3 : p.kind = 3
  · rw [if_pos k3, if_pos k3]
    by_cases ht : w1 (tst p) v ≠ 0
    · rw [if_pos ht]
      exact ⟨2, .goto (lineN p.one), by simp [evSs, evS, ht], by decide, .inr (.inl ⟨_, h1, rfl, rfl⟩)⟩
    · rw [if_neg ht]
      exact ⟨1, .fall, by simp at ht; simp [evSs, evS, ht], by decide, .inl ⟨rfl, rfl⟩⟩
  rw [if_neg k3, if_neg k3]
  by_cases k4 : p.kind = 4
  · rw [if_pos k4, if_pos k4]
    have hw : w1 ("sum", nm p.name, 0) v = (v (nm p.name)).getD 0 := by
      rw [w1_sum, Int.add_zero, Int.fmod_eq_emod_of_nonneg _ (by decide)]; omega
    generalize hg : (v (nm p.name)).getD 0 = x at *
    have hx : x = 0 ∨ x = 1 ∨ x = 2 ∨ x = 3 := by omega
    rcases hx with rfl | rfl | rfl | rfl
    · exact ⟨1, .fall, by simp [evSs, evS, hw], by decide, .inl ⟨rfl, rfl⟩⟩
    · exact ⟨1, .goto (lineN p.one), by simp [evSs, evS, hw], by decide, .inr (.inl ⟨_, h1, rfl, rfl⟩)⟩
    · exact ⟨1, .goto (lineN p.other), by simp [evSs, evS, hw], by decide, .inr (.inl ⟨_, h2, rfl, rfl⟩)⟩
    · exact ⟨1, .fall, by simp [evSs, evS, hw], by decide, .inl ⟨rfl, rfl⟩⟩
  rw [if_neg k4, if_neg k4]
  by_cases k5 : p.kind = 5
  · rw [if_pos k5, if_pos k5]
    exact ⟨1, .end_, rfl, by decide, .inr (.inr ⟨rfl, rfl⟩)⟩
  rw [if_neg k5, if_neg k5]
  exact ⟨0, .fall, rfl, by decide, .inl ⟨rfl, rfl⟩⟩

noncomputable def Pv (j len : Nat) : Nat := if j < len then j + 1 else 0
theorem behind_Pv {i len : Nat} : behindOf i len = Pv (i + 1) len := rfl

theorem led_ev {p : Part} {i len : Nat} {v : Vals} {n : Nts} (hp : p.Ok len) :
    ∃ t, evSs w1 (ledS p (behindOf i len)) v n = some (t, setV v "P" ((Pv (nxt p i len v) len : Nat) : Int), n, .fall) ∧ t ≤ 4 := by
  obtain ⟨_, _, _, hk, h1, h2, _⟩ := hp
  have e1 : Pv p.one len = p.one + 1 := if_pos h1
  have e2 : Pv p.other len = p.other + 1 := if_pos h2
  have e3 : Pv len len = 0 := if_neg (by omega)
  unfold ledS nxt putP
  rw [behind_Pv]
  by_cases k1 : p.kind = 1
  · rw [if_pos k1, if_pos k1, e1]
    exact ⟨1, by simp [evSs, evS, w1_put], by decide⟩
  rw [if_neg k1, if_neg k1]
  by_cases k2 : p.kind = 2
  · rw [if_pos k2, if_pos k2]
    by_cases ht : w1 (tst p) v ≠ 0
    · rw [if_pos ht, e1]
      exact ⟨3, by simp [evSs, evS, ht, w1_put], by decide⟩
    · rw [if_neg ht, e2]
      exact ⟨2, by simp at ht; simp [evSs, evS, ht, w1_put], by decide⟩
  rw [if_neg k2, if_neg k2]
  by_cases k3 : p.kind = 3
  · rw [if_pos k3, if_pos k3]
    by_cases ht : w1 (tst p) v ≠ 0
    · rw [if_pos ht, e1]
      exact ⟨3, by simp [evSs, evS, ht, w1_put], by decide⟩
    · rw [if_neg ht]
      exact ⟨2, by simp at ht; simp [evSs, evS, ht, w1_put], by decide⟩
  rw [if_neg k3, if_neg k3]
  by_cases k4 : p.kind = 4
  · rw [if_pos k4, if_pos k4]
    by_cases q1 : (v (nm p.name)).getD 0 = 1
    · rw [if_pos q1, e1]
      exact ⟨3, by simp [evSs, evS, w1_is, q1, w1_put], by decide⟩
    · rw [if_neg q1]
      by_cases q2 : (v (nm p.name)).getD 0 = 2
      · rw [if_pos q2, e2]
        exact ⟨4, by simp [evSs, evS, w1_is, q2, w1_put], by decide⟩
      · rw [if_neg q2]
        exact ⟨3, by simp [evSs, evS, w1_is, q1, q2, w1_put], by decide⟩
  rw [if_neg k4, if_neg k4]
  by_cases k5 : p.kind = 5
  · rw [if_pos k5, if_pos k5, e3]
    exact ⟨1, by simp [evSs, evS, w1_put], by decide⟩
  rw [if_neg k5, if_neg k5]
  exact ⟨1, by simp [evSs, evS, w1_put], by decide⟩

-- N4

theorem plainFrom_append : ∀ (a b : List Part) (n : Nat), plainFrom n (a ++ b) = plainFrom n a ++ plainFrom (n + a.length) b
  | [], b, n => by simp [plainFrom]
  | p :: a, b, n => by simp [plainFrom, plainFrom_append a b, Nat.add_assoc, Nat.add_comm 1]
theorem plainFrom_keys {x : Int} : ∀ (a : List Part) (n : Nat), x ∈ (plainFrom n a).map (·.1) → ∃ j, n ≤ j ∧ x = lineN j
  | [], n, h => by simp [plainFrom] at h
  | p :: a, n, h => by
    simp only [plainFrom, List.map_cons, List.mem_cons] at h
    rcases h with h | h
    · exact ⟨n, Nat.le_refl _, h⟩
    · obtain ⟨j, h1, h2⟩ := plainFrom_keys a (n + 1) h
      exact ⟨j, by omega, h2⟩
theorem split_at {α : Type} {l : List α} {i : Nat} {x : α} (h : l[i]? = some x) : l = l.take i ++ x :: l.drop (i + 1) ∧ (l.take i).length = i := by
  obtain ⟨hi, hx⟩ := List.getElem?_eq_some_iff.mp h
  refine ⟨?_, by simp; omega⟩
  rw [← hx, ← List.drop_eq_getElem_cons hi, List.take_append_drop]

noncomputable def base (parts : List Part) (i : Nat) : Nat := (flatP 0 (plainFrom 0 (parts.take i))).length
noncomputable def plainP (parts : List Part) : Prg := mkPrg (plainFrom 0 parts)

theorem base_last {parts : List Part} : base parts parts.length = (plainP parts).rows.length := by
  unfold base plainP; rw [List.take_length]; rfl

theorem plain_split {parts : List Part} {i : Nat} {p : Part} (h : parts[i]? = some p) :
    plainFrom 0 parts = plainFrom 0 (parts.take i) ++ (lineN i, bodyS p (i + 1) ++ jumpS p) :: plainFrom (i + 1) (parts.drop (i + 1)) := by
  obtain ⟨h1, h2⟩ := split_at h
  conv => lhs; rw [h1]
  rw [plainFrom_append, h2, Nat.zero_add]
  rfl
theorem base_succ {parts : List Part} {i : Nat} {p : Part} (h : parts[i]? = some p) : base parts (i + 1) = base parts i + (flatSs (lineN i) (base parts i) (bodyS p (i + 1) ++ jumpS p)).length := by
  obtain ⟨h1, h2⟩ := split_at h
  have : parts.take (i + 1) = parts.take i ++ [p] := by
    rw [List.take_add_one, h]; rfl
  unfold base
  rw [this, plainFrom_append, h2, Nat.zero_add, flatP_append, List.length_append, Nat.zero_add]
  simp only [plainFrom, flatP, List.append_nil]
theorem plain_at {parts : List Part} {i : Nat} {p : Part} (h : parts[i]? = some p) : At (plainP parts) (base parts i) (flatSs (lineN i) (base parts i) (bodyS p (i + 1) ++ jumpS p)) := by
  unfold plainP
  rw [plain_split h]
  exact mk_at
theorem plain_place {parts : List Part} {i : Nat} (hi : i < parts.length) : (plainP parts).places (lineN i) = some (base parts i) := by
  have h : parts[i]? = some parts[i] := List.getElem?_eq_some_iff.mpr ⟨hi, rfl⟩
  unfold plainP
  rw [plain_split h]
  refine mk_place (p := (lineN i, _)) fun hm => ?_
  obtain ⟨j, h1, h2⟩ := plainFrom_keys _ _ hm
  simp only [lineN] at h2
  omega

noncomputable def AllOk (parts : List Part) : Prop := ∀ p ∈ parts, p.Ok parts.length

theorem nxt_le {p : Part} {i len : Nat} {v : Vals} (hp : p.Ok len) (hi : i < len) : nxt p i len v ≤ len := by
  obtain ⟨_, _, _, hk, h1, h2, _⟩ := hp
  unfold nxt
  repeat' split
  all_goals omega

theorem visit_some {parts : List Part} {s : Vs} {p : Part} (h : parts[s.i]? = some p) : visit parts s = ⟨nxt p s.i parts.length (bodyV p s.v), bodyV p s.v, s.n ++ [(rm (s.i + 1), (bodyV p s.v "X").getD 0)]⟩ := by
  unfold visit; rw [h]
theorem visit_none {parts : List Part} {s : Vs} (h : parts.length ≤ s.i) : visit parts s = s := by
  unfold visit; rw [List.getElem?_eq_none h]
theorem vis_none {parts : List Part} {s : Vs} (h : parts.length ≤ s.i) : ∀ k, vis parts k s = s
  | 0 => rfl
  | k + 1 => by rw [vis, visit_none h, vis_none h k]
theorem visit_pre {parts : List Part} {s : Vs} : s.n <+: (visit parts s).n := by
  unfold visit
  split
  · exact List.prefix_refl _
  · exact List.prefix_append _ _
theorem vis_pre {parts : List Part} : ∀ (k : Nat) {s : Vs}, s.n <+: (vis parts k s).n
  | 0, s => List.prefix_refl _
  | k + 1, s => visit_pre.trans (vis_pre k)
theorem vis_add {parts : List Part} : ∀ (a b : Nat) {s : Vs}, vis parts (a + b) s = vis parts b (vis parts a s)
  | 0, b, s => by rw [Nat.zero_add]; rfl
  | a + 1, b, s => by rw [Nat.add_right_comm, vis, vis, vis_add a b]
theorem vis_mono {parts : List Part} {a b : Nat} (h : a ≤ b) {s : Vs} : (vis parts a s).n <+: (vis parts b s).n := by
  obtain ⟨k, rfl⟩ : ∃ k, b = a + k := ⟨b - a, by omega⟩
  rw [vis_add]
  exact vis_pre k

structure VOk (parts : List Part) (s : Vs) : Prop where
  i : s.i ≤ parts.length
  ab : AB s.v
theorem VOk.visit {parts : List Part} (hP : AllOk parts) {s : Vs} (h : VOk parts s) : VOk parts (visit parts s) := by
  unfold Mine.visit
  split
  · exact h
  · rename_i p hp
    exact ⟨nxt_le (hP p (List.mem_of_getElem? hp)) (List.getElem?_eq_some_iff.mp hp).1, h.ab.body⟩

noncomputable def plainM (parts : List Part) (s : Vs) : Ms := ⟨base parts s.i, s.v, [], s.n⟩

theorem plain_visit {parts : List Part} (hP : AllOk parts) {s : Vs} (hs : VOk parts s) (hi : s.i < parts.length) : ∃ t, 4 ≤ t ∧ t ≤ 6 ∧ Runs w1 (plainP parts) t (plainM parts s) (plainM parts (visit parts s)) := by
  have h : parts[s.i]? = some parts[s.i] := List.getElem?_eq_some_iff.mpr ⟨hi, rfl⟩
  generalize parts[s.i] = p at h
  have hp := hP p (List.mem_of_getElem? h)
  obtain ⟨t, o, he, ht, ho⟩ := jump_ev (n := s.n ++ [(rm (s.i + 1), (bodyV p s.v "X").getD 0)]) hp (hs.ab.body (p := p)) hi
  have hb := body_ev (p := p) (l := s.i + 1) (r := jumpS p) (v := s.v) (n := s.n)
  rw [he] at hb
  have hat := plain_at h
  refine ⟨4 + t, by omega, by omega, ?_⟩
  rw [visit_some h]
  refine evSs_ok (m := plainM parts s) _ hat hb ?_
  show dest (plainP parts) (base parts s.i + _) o = some (base parts (nxt p s.i parts.length (bodyV p s.v)))
  rcases ho with ⟨rfl, hn⟩ | ⟨j, hj, rfl, hn⟩ | ⟨rfl, hn⟩
  · rw [hn, base_succ h]; rfl
  · rw [hn]; exact plain_place hj
  · rw [hn, base_last]; rfl

theorem plain_run {parts : List Part} (hP : AllOk parts) : ∀ (N : Nat) (s : Vs), VOk parts s → ∃ mp, goN w1 (plainP parts) N (plainM parts s) = .ok mp ∧ (∃ K, mp.notes <+: (vis parts K s).n) ∧ s.n <+: mp.notes ∧
    ((plainP parts).rows.length ≤ mp.pc → ∃ K, 4 * K ≤ N ∧ (vis parts K s).i = parts.length ∧ mp.notes = (vis parts K s).n ∧ mp.vals = (vis parts K s).v) := by
  intro N
  induction N using Nat.strongRecOn with
  | _ N ih =>
    intro s hs
    by_cases hi : s.i < parts.length
    · obtain ⟨t, t1, t2, hr⟩ := plain_visit hP hs hi
      by_cases hN : N < t
      · obtain ⟨mj, h1, h2, h3, h4⟩ := hr.mid N hN
        exact ⟨mj, h1, ⟨1, h4⟩, h3, fun h => absurd h (by omega)⟩
      · obtain ⟨mp, h1, ⟨K, h2⟩, h3, h4⟩ := ih (N - t) (by omega) (visit parts s) (hs.visit hP)
        refine ⟨mp, ?_, ⟨K + 1, h2⟩, visit_pre.trans h3, fun h => ?_⟩
        · rw [← h1, ← hr.go]; congr 1; omega
        · obtain ⟨K, k1, k2⟩ := h4 h
          exact ⟨K + 1, by omega, k2⟩
    · have hi' : s.i = parts.length := by have := hs.i; omega
      refine ⟨plainM parts s, goN_end ?_ N, ⟨0, List.prefix_refl _⟩, List.prefix_refl _, fun _ => ⟨0, by omega, hi', rfl, rfl⟩⟩
      show _ ≤ base parts s.i
      rw [hi', base_last]
      exact Nat.le_refl _

-- N5

-- statements whose names and lists are fit; without WHILE and WEND where b is false
mutual
noncomputable def quS (b : Bool) : St → Bool
  | .whil _ => b
  | .wend => b
  | .let_ x _ => names9.contains x
  | .ongo _ _ ls => ls.length ≤ 1000
  | .if_ _ x y => quSs b x && quSs b y
  | .rem s => PyData.strOk s
  | _ => true
noncomputable def quSs (b : Bool) : List St → Bool
  | [] => true
  | s :: r => quS b s && quSs b r
end
noncomputable def remOk : Row → Bool
  | .st (.rem s) => PyData.strOk s
  | _ => true
noncomputable def QRow (b : Bool) (r : Row) : Prop := (b = false → isWhile r = false ∧ isWend r = false) ∧ WfRow r ∧ remOk r = true

theorem QRow.jump {b : Bool} {n : Nat} : QRow b (.jump n) := ⟨fun _ => ⟨rfl, rfl⟩, trivial, rfl⟩
theorem QRow.ifnot {b : Bool} {t : Tree} {n : Nat} : QRow b (.ifnot t n) := ⟨fun _ => ⟨rfl, rfl⟩, trivial, rfl⟩
mutual
theorem quS_ok {b : Bool} {line : Int} (s : St) (n : Nat) (h : quS b s = true) : ∀ x ∈ flatS line n s, QRow b x.2 := by
  intro x hx
  cases s with
  | if_ t p q =>
    simp only [quS, Bool.and_eq_true] at h
    simp only [flatS] at hx
    split at hx
    · rcases List.mem_cons.mp hx with e | hx
      · subst e; exact .ifnot
      · exact quSs_ok p _ h.1 x hx
    · rcases List.mem_append.mp hx with hx | hx
      · rcases List.mem_cons.mp hx with e | hx
        · subst e; exact .ifnot
        · exact quSs_ok p _ h.1 x hx
      · rcases List.mem_cons.mp hx with e | hx
        · subst e; exact .jump
        · exact quSs_ok q _ h.2 x hx
  | let_ y t =>
    rw [flatS_one (by rintro ⟨_, _, _, e⟩; cases e), List.mem_singleton] at hx
    subst hx
    exact ⟨fun _ => ⟨rfl, rfl⟩, by show y ∈ names9; simpa [quS] using h, rfl⟩
  | rem s =>
    rw [flatS_one (by rintro ⟨_, _, _, e⟩; cases e), List.mem_singleton] at hx
    subst hx
    exact ⟨fun _ => ⟨rfl, rfl⟩, trivial, h⟩
  | ongo g t ls =>
    rw [flatS_one (by rintro ⟨_, _, _, e⟩; cases e), List.mem_singleton] at hx
    subst hx
    exact ⟨fun _ => ⟨rfl, rfl⟩, by show ls.length ≤ 1000; simpa [quS] using h, rfl⟩
  | end_ =>
    rw [flatS_one (by rintro ⟨_, _, _, e⟩; cases e), List.mem_singleton] at hx
    subst hx
    exact ⟨fun _ => ⟨rfl, rfl⟩, trivial, rfl⟩
  | goto l =>
    rw [flatS_one (by rintro ⟨_, _, _, e⟩; cases e), List.mem_singleton] at hx
    subst hx
    exact ⟨fun _ => ⟨rfl, rfl⟩, trivial, rfl⟩
  | gosub l =>
    rw [flatS_one (by rintro ⟨_, _, _, e⟩; cases e), List.mem_singleton] at hx
    subst hx
    exact ⟨fun _ => ⟨rfl, rfl⟩, trivial, rfl⟩
  | ret =>
    rw [flatS_one (by rintro ⟨_, _, _, e⟩; cases e), List.mem_singleton] at hx
    subst hx
    exact ⟨fun _ => ⟨rfl, rfl⟩, trivial, rfl⟩
  | whil t =>
    rw [flatS_one (by rintro ⟨_, _, _, e⟩; cases e), List.mem_singleton] at hx
    subst hx
    exact ⟨fun e => (by subst e; cases h), trivial, rfl⟩
  | wend =>
    rw [flatS_one (by rintro ⟨_, _, _, e⟩; cases e), List.mem_singleton] at hx
    subst hx
    exact ⟨fun e => (by subst e; cases h), trivial, rfl⟩
theorem quSs_ok {b : Bool} {line : Int} (l : List St) (n : Nat) (h : quSs b l = true) : ∀ x ∈ flatSs line n l, QRow b x.2 := by
  intro x hx
  cases l with
  | nil => simp [flatSs] at hx
  | cons s r =>
    simp only [quSs, Bool.and_eq_true] at h
    simp only [flatSs, List.mem_append] at hx
    rcases hx with hx | hx
    · exact quS_ok s _ h.1 x hx
    · exact quSs_ok r _ h.2 x hx
end
theorem quP_ok {b : Bool} : ∀ (ps : List (Int × List St)) (n : Nat), (∀ p ∈ ps, quSs b p.2 = true) → ∀ x ∈ flatP n ps, QRow b x.2
  | [], n, h, x, hx => by simp [flatP] at hx
  | p :: r, n, h, x, hx => by
    simp only [flatP, List.mem_append] at hx
    rcases hx with hx | hx
    · exact quSs_ok p.2 _ (h p (.head _)) x hx
    · exact quP_ok r _ (fun q hq => h q (.tail _ hq)) x hx
theorem quSs_append {b : Bool} : ∀ (x y : List St), quSs b (x ++ y) = (quSs b x && quSs b y)
  | [], y => by simp [quSs]
  | s :: x, y => by simp [quSs, quSs_append x y, Bool.and_assoc]
theorem depSs_append : ∀ (x y : List St), depSs (x ++ y) = max (depSs x) (depSs y)
  | [], y => by simp [depSs]
  | s :: x, y => by simp [depSs, depSs_append x y, Nat.max_assoc]

-- how many rows a statement has at most
mutual
noncomputable def szS : St → Nat
  | .if_ _ a b => 2 + szSs a + szSs b
  | _ => 1
noncomputable def szSs : List St → Nat
  | [] => 0
  | s :: r => szS s + szSs r
end
mutual
theorem szS_ok {line : Int} (s : St) (n : Nat) : (flatS line n s).length ≤ szS s := by
  cases s with
  | if_ t a b =>
    simp only [flatS, szS]
    split
    · have := szSs_ok (line := line) a (n + 1)
      simp only [List.length_cons]; omega
    · have := szSs_ok (line := line) a (n + 1)
      have := szSs_ok (line := line) b (n + 1 + (flatSs line (n + 1) a).length + 1)
      simp only [List.length_cons, List.length_append]; omega
  | _ =>
    rw [flatS_one (by rintro ⟨_, _, _, e⟩; cases e)]
    simp [szS]
theorem szSs_ok {line : Int} (l : List St) (n : Nat) : (flatSs line n l).length ≤ szSs l := by
  cases l with
  | nil => simp [flatSs, szSs]
  | cons s r =>
    have h1 := szS_ok (line := line) s n
    have h2 := szSs_ok (line := line) r (n + (flatS line n s).length)
    simp only [flatSs, szSs, List.length_append]
    omega
end
theorem szSs_append : ∀ (x y : List St), szSs (x ++ y) = szSs x + szSs y
  | [], y => by simp [szSs]
  | s :: x, y => by simp [szSs, szSs_append x y, Nat.add_assoc]
theorem szP_ok {k : Nat} : ∀ (ps : List (Int × List St)) (n : Nat), (∀ p ∈ ps, szSs p.2 ≤ k) → (flatP n ps).length ≤ k * ps.length
  | [], n, h => by simp [flatP]
  | p :: r, n, h => by
    have h1 := szSs_ok (line := p.1) p.2 n
    have h2 := h p (.head _)
    have h3 := szP_ok r (n + (flatSs p.1 n p.2).length) fun q hq => h q (.tail _ hq)
    simp only [flatP, List.length_append, List.length_cons]
    rw [Nat.mul_add, Nat.mul_one]
    omega

theorem gath_quiet : ∀ (a r : List (Int × Row)) (n : Nat) (w : List Nat) (g : Nat → Option Nat), (∀ x ∈ a, QRow false x.2) → gath (a ++ r) n w g = gath r (n + a.length) w g
  | [], r, n, w, g, _ => rfl
  | x :: a, r, n, w, g, h => by
    have hx := h x (.head _)
    rw [List.cons_append, gath, if_neg (by simp [(hx.1 rfl).1]), if_neg (by simp [(hx.1 rfl).2]), gath_quiet a r _ w g fun y hy => h y (.tail _ hy)]
    congr 1
    simp only [List.length_cons]
    omega
theorem gath_quiet' {a : List (Int × Row)} {n : Nat} {w : List Nat} {g : Nat → Option Nat} (h : ∀ x ∈ a, QRow false x.2) : gath a n w g = g := by
  have := gath_quiet a [] n w g h
  rw [List.append_nil] at this
  rw [this]; rfl

theorem step_pile {w : Wf} {P : Prg} {m m' : Ms} {r : Row} (h : step w P m r = .ok m') (hp : m.pile.length ≤ 20) : m'.pile.length ≤ 20 := by
  cases r with
  | ifnot t n => simp only [step, Except.ok.injEq] at h; subst h; exact hp
  | jump n => simp only [step, Except.ok.injEq] at h; subst h; exact hp
  | st s => cases s with
    | let_ x t => simp only [step, Except.ok.injEq] at h; subst h; exact hp
    | rem s => simp only [step, Except.ok.injEq] at h; subst h; exact hp
    | end_ => simp only [step, Except.ok.injEq] at h; subst h; exact hp
    | goto l =>
      simp only [step] at h
      split at h <;> cases h
      exact hp
    | gosub l =>
      simp only [step] at h
      split at h
      · split at h <;> cases h
        simp only [List.length_append, List.length_singleton]; omega
      · cases h
    | ongo g t ls =>
      simp only [step] at h
      split at h
      · split at h
        · split at h
          · split at h
            · split at h <;> cases h
              simp only [List.length_append, List.length_singleton]; omega
            · cases h; exact hp
          · cases h
        · cases h; exact hp
      · cases h
    | ret =>
      simp only [step] at h
      split at h <;> cases h
      simp only [List.length_dropLast]; omega
    | whil t =>
      simp only [step] at h
      split at h
      · split at h
        · cases h; simp
        · split at h <;> cases h
          exact hp
      · split at h
        · split at h <;> cases h
          simp
        · cases h
    | wend =>
      simp only [step] at h
      split at h
      · split at h <;> cases h
        exact hp
      · cases h
    | if_ t a b => simp [step] at h
theorem goN_pile {w : Wf} {P : Prg} : ∀ (n : Nat) {m m' : Ms}, goN w P n m = .ok m' → m.pile.length ≤ 20 → m'.pile.length ≤ 20
  | 0, m, m', h, hp => by simp only [goN, Except.ok.injEq] at h; subst h; exact hp
  | n + 1, m, m', h, hp => by
    simp only [goN] at h
    split at h
    · cases h; exact hp
    · split at h
      · rename_i hs
        exact goN_pile n h (step_pile hs hp)
      · cases h

/-- at most one note a turn -/
theorem step_note {w : Wf} {P : Prg} {m m' : Ms} {r : Row} (h : step w P m r = .ok m') : m'.notes = m.notes ∨ ∃ s v, r = .st (.rem s) ∧ m'.notes = m.notes ++ [(s, v)] := by
  cases r with
  | ifnot t n => simp only [step, Except.ok.injEq] at h; subst h; exact .inl rfl
  | jump n => simp only [step, Except.ok.injEq] at h; subst h; exact .inl rfl
  | st s => cases s with
    | let_ x t => simp only [step, Except.ok.injEq] at h; subst h; exact .inl rfl
    | rem s => simp only [step, Except.ok.injEq] at h; subst h; exact .inr ⟨_, _, rfl, rfl⟩
    | end_ => simp only [step, Except.ok.injEq] at h; subst h; exact .inl rfl
    | goto l =>
      simp only [step] at h
      split at h <;> cases h
      exact .inl rfl
    | gosub l =>
      simp only [step] at h
      split at h
      · split at h <;> cases h
        exact .inl rfl
      · cases h
    | ongo g t ls =>
      simp only [step] at h
      split at h
      · split at h
        · split at h
          · split at h
            · split at h <;> cases h
              exact .inl rfl
            · cases h; exact .inl rfl
          · cases h
        · cases h; exact .inl rfl
      · cases h
    | ret =>
      simp only [step] at h
      split at h <;> cases h
      exact .inl rfl
    | whil t =>
      simp only [step] at h
      split at h
      · split at h
        · cases h; exact .inl rfl
        · split at h <;> cases h
          exact .inl rfl
      · split at h
        · split at h <;> cases h
          exact .inl rfl
        · cases h
    | wend =>
      simp only [step] at h
      split at h
      · split at h <;> cases h
        exact .inl rfl
      · cases h
    | if_ t a b => simp [step] at h
theorem goN_notes {w : Wf} {P : Prg} : ∀ (n : Nat) {m m' : Ms}, goN w P n m = .ok m' → m'.notes.length ≤ m.notes.length + n
  | 0, m, m', h => by simp only [goN, Except.ok.injEq] at h; subst h; exact Nat.le_refl _
  | n + 1, m, m', h => by
    simp only [goN] at h
    split at h
    · cases h; omega
    · split at h
      · rename_i m₁ hs
        have := goN_notes n h
        have : m₁.notes.length ≤ m.notes.length + 1 := by
          rcases step_note hs with e | ⟨_, _, _, e⟩ <;> rw [e] <;> simp
        omega
      · cases h
theorem goN_strs {w : Wf} {P : Prg} (hP : ∀ x ∈ P.rows, remOk x.2 = true) : ∀ (n : Nat) {m m' : Ms}, goN w P n m = .ok m' → (∀ p ∈ m.notes, PyData.strOk p.1 = true) → ∀ p ∈ m'.notes, PyData.strOk p.1 = true
  | 0, m, m', h, hm => by simp only [goN, Except.ok.injEq] at h; subst h; exact hm
  | n + 1, m, m', h, hm => by
    simp only [goN] at h
    split at h
    · cases h; exact hm
    · rename_i l r hr
      split at h
      · rename_i m₁ hs
        refine goN_strs hP n h ?_
        rcases step_note hs with e | ⟨s, v, rfl, e⟩
        · rw [e]; exact hm
        · rw [e]
          intro p hp
          rcases List.mem_append.mp hp with hp | hp
          · exact hm p hp
          · rw [List.mem_singleton.mp hp]
            exact hP _ (List.mem_of_getElem? hr)
      · cases h

-- L1
section
theorem to_true {QT QF : Prop} (h : QT) : ∃ t, V.bool true = .bool t ∧ ((t = false → QF) ∧ (t = true → QT)) := ⟨true, rfl, (fun e => nomatch e), fun _ => h⟩
theorem to_false {QT QF : Prop} (h : QF) : ∃ t, V.bool false = .bool t ∧ ((t = false → QF) ∧ (t = true → QT)) := ⟨false, rfl, fun _ => h, (fun e => nomatch e)⟩
theorem t_dt {p : Prop} [Decidable p] (hp : p) {QT QF : Prop} (h : QT) : ∃ t, V.bool (decide p) = .bool t ∧ ((t = true → QT) ∧ (t = false → QF)) := ⟨_, rfl, fun _ => h, fun e => absurd hp (of_decide_eq_false e)⟩
theorem t_df {p : Prop} [Decidable p] (hp : ¬ p) {QT QF : Prop} (h : QF) : ∃ t, V.bool (decide p) = .bool t ∧ ((t = true → QT) ∧ (t = false → QF)) := ⟨_, rfl, fun e => absurd (of_decide_eq_true e) hp, fun _ => h⟩
theorem to_dt {p : Prop} [Decidable p] (hp : p) {QT QF : Prop} (h : QT) : ∃ t, V.bool (decide p) = .bool t ∧ ((t = false → QF) ∧ (t = true → QT)) := ⟨_, rfl, fun e => absurd hp (of_decide_eq_false e), fun _ => h⟩
theorem to_df {p : Prop} [Decidable p] (hp : ¬ p) {QT QF : Prop} (h : QF) : ∃ t, V.bool (decide p) = .bool t ∧ ((t = false → QF) ∧ (t = true → QT)) := ⟨_, rfl, fun _ => h, fun e => absurd (of_decide_eq_true e) hp⟩
structure LawAds where
  (f_pull f_let f_body f_jump f_led f_looped f_worth f_law : Addr)
structure LawLib (c : Ctx) (W : LawAds) : Prop where
  pull : GFn c.K "_law_pull" (nth P1 76) W.f_pull
  let_ : GFn c.K "_law_let" (nth P1 77) W.f_let
  body : GFn c.K "_law_body" (nth P1 78) W.f_body
  jump : GFn c.K "_law_jump" (nth P1 79) W.f_jump
  led : GFn c.K "_law_led" (nth P1 80) W.f_led
  looped : GFn c.K "_law_looped" (nth P1 81) W.f_looped
  worth : GFn c.K "_law_worth" (nth P1 82) W.f_worth
  law : GFn c.K "law" (nth P1 83) W.f_law
  hand : handedIn (.ref W.f_worth) = true

noncomputable def usual1 : List Int := [0, 1, 0, 0, 1, 2, 2, 1, 0, 0, 2, 1, 0, 3, 1, 0, 0, 0, 0, 0, 1, 1, 2, 4, 0, 2, 1, 0, 0]
noncomputable def pullV (s : List Int) (k : Nat) (many : Int) : Int := (if k < s.length then s.getD k 0 else usual1.getD (k % 29) 0).fmod many

section
variable {c : Ctx} {A : Ads} {W : LawAds} {d : Nat} {env : Env} {lk : Loc} {σ σ' : Sto} {pos : Pos} {QX : Fl → Loc → Sto → Prop} {Q : V → Sto → Prop}

theorem t_pull (LB : Lib c A) (WL : LawLib c W) {kc k : Nat} {s : List Int} {many : Int} (hc : σ kc = some (.list [.lst (s.map .int), .int k])) (hs : s.length ≤ 63) (hk : k < 1000) (hm : 0 < many)
    (h : Q (.int (pullV s k many)) (upd σ kc (.list [.lst (s.map .int), .int ((k + 1 : Nat) : Int)]))) : CodeOk c 1 (.ref W.f_pull) [.ref kc, .int many] σ Q := by
  refine code_fn2 "cord" "many" WL.pull.fn (by intros; rfl) (by decide +kernel) fun L cdv => ?_
  kat_tups
  kas_types
  refine ok_list ?_
  kas_types
  refine ⟨le_line (by decide), ?_⟩
  rw [show ([.int 0, .int 1, .int 0, .int 0, .int 1, .int 2, .int 2, .int 1, .int 0, .int 0, .int 2, .int 1, .int 0, .int 3, .int 1, .int 0, .int 0, .int 0, .int 0, .int 0, .int 1, .int 1, .int 2, .int 4, .int 0, .int 2, .int 1, .int 0, .int 0] : List V) = usual1.map .int from rfl]
  generalize hU : usual1.map V.int = U
  have hUl : U.length = 29 := by rw [← hU]; rfl
  kas_types
  refine item_cell plainI hc (by decide) (by decide) (y := .int k) rfl ?_
  refine okb_assign ?_ (by with_unfolding_all rfl) (by with_unfolding_all rfl) (by with_unfolding_all rfl)
  kas_types
  refine oka_sub ?_
  kas_types
  refine set_cell hc (by decide) (by decide) (by simp) ?_
  rw [show ([V.lst (s.map .int), V.int k].set (Int.toNat 1) (V.int ((k : Int) + 1))) = [.lst (s.map .int), .int ((k + 1 : Nat) : Int)] from rfl]
  kas_types
  refine item_cell plainI (upd_self ..) (by decide) (by decide) (y := .lst (s.map .int)) rfl ?_
  kas_types
  refine callf_len (.inr (.inl rfl)) (le_line (by simp; omega)) ?_
  kas_types
  rw [List.length_map]
  by_cases hks : k < s.length
  · rw [decide_eq_true (by omega)]
    kas_types
    refine item_cell plainI (upd_self ..) (by decide) (by decide) (y := .lst (s.map .int)) rfl ?_
    kas_types
    refine item_lst plainI (by omega) (by omega) (y := .int (s.getD k 0)) (by simp [hks]) ?_
    kas_types
    refine run_mod (by omega) ?_
    have : pullV s k many = (s.getD k 0).fmod many := by unfold pullV; rw [if_pos hks]
    rw [← this]
    kas_types
    exact h
  · rw [decide_eq_false (by omega)]
    kas_types
    refine callf_len (.inr (.inl rfl)) (le_line (by omega)) ?_
    rw [hUl]
    refine run_mod (by decide) ?_
    have e : ((k : Int).fmod ((29 : Nat) : Int)) = ((k % 29 : Nat) : Int) := by rw [Int.fmod_eq_emod_of_nonneg _ (by omega)]; omega
    rw [e]
    refine item_lst plainI (by omega) (by omega) (y := .int (usual1.getD (k % 29) 0)) ?_ ?_
    · rw [Int.toNat_natCast, ← hU, List.getElem?_map]
      have hlt : k % 29 < usual1.length := by show k % 29 < 29; omega
      rw [List.getD_eq_getElem?_getD, List.getElem?_eq_getElem hlt]
      rfl
    kas_types
    refine run_mod (by omega) ?_
    have : pullV s k many = (usual1.getD (k % 29) 0).fmod many := by unfold pullV; rw [if_neg hks]
    rw [← this]
    kas_types
    exact h

theorem t_let (WL : LawLib c W) {x : Str} {t : V} (h : Q (.tup [.str "LET", .tup [.str "name", .str x], t]) σ) : CodeOk c 1 (.ref W.f_let) [.str x, t] σ Q := by
  refine code_fn2 "name" "tree" WL.let_.fn (by intros; rfl) (by decide +kernel) fun L cdv => ?_
  kat_tups
  kas_types
  exact h

noncomputable abbrev encPart (p : Part) : V := .lst [.int p.goal, .int p.source, .int p.more, .int p.kind, .int p.one, .int p.other, .int p.name, .int p.how, .int p.number]

theorem nm_get {n : Nat} (h : n < 2) : ([.str "A", .str "B"] : List V)[(n : Int).toNat]? = some (.str (nm n)) := by
  have : n = 0 ∨ n = 1 := by omega
  rcases this with rfl | rfl <;> rfl

theorem log2_small {n : Nat} (h : n < 1000) : (n : Int).natAbs.log2 < 1920 := by
  have := Nat.log2_le_self (n : Int).natAbs
  omega

theorem callf_let (WL : LawLib c W) {x : Str} {t : V} (hd : 1 ≤ d) (h : Q (.tup [.str "LET", .tup [.str "name", .str x], t]) σ) : CallF c d env lk σ (.ref W.f_let) [.str x, t] Q := (t_let WL h).f hd
end

end

-- L2
section
local macro_rules | `(tactic| kct_strs) => `(tactic| with_reducible first
  | (change Ok ..; first | (change Ok _ _ _ (.Call ..) ..; first | refine okg_call (‹LawLib _ _›).let_.ns (‹LawLib _ _›).let_.keep (by k_updF) (by decide +kernel) (fun _ => by with_unfolding_all rfl) ?_))
  | (change Run2 ..; first | refine item_lst plainI (by decide) (by decide) (by with_unfolding_all rfl) ?_)
  | (change CallF ..; first | refine callf_let (‹LawLib _ _›) (by omega) ?_)
  | (change Exists _; first | refine to_true ?_ | refine to_false ?_)
  | (change And _ _; first | refine And.intro (le_line (Nat.le_of_ble_eq_true (by with_unfolding_all rfl))) ?_))
local macro_rules | `(tactic| kct_strs) => `(tactic| with_reducible first
  | (change Ok ..; first | refine ok_list ?_))
section

section
variable {c : Ctx} {A : Ads} {W : LawAds} {d : Nat} {env : Env} {lk : Loc} {σ σ' : Sto} {pos : Pos} {QX : Fl → Loc → Sto → Prop} {Q : V → Sto → Prop}
theorem t_body (LB : Lib c A) (WL : LawLib c W) {p : Part} {line many : Nat} (hp : p.Ok many) (hl : line < 1000) (h : Q (.lst (encSs (bodyS p line))) σ) : CodeOk c 2 (.ref W.f_body) [encPart p, .int line] σ Q := by
  obtain ⟨p1, p2, p3, p4, p5, p6, p7, p8, p9⟩ := hp
  refine code_fn2 "part" "line" WL.body.fn (by intros; rfl) (by decide +kernel) fun L cdv => ?_
  kat_tups
  kas_types
  refine okb_swap3 "goal" "source" "more" ?_ (by with_unfolding_all rfl) (by with_unfolding_all rfl) (by k_upd) (by k_upd) (by k_upd)
  kas_types
  refine item_lst plainI (by omega) (by omega) (nm_get p1) ?_
  kas_types
  refine item_lst plainI (by omega) (by omega) (nm_get p2) ?_
  kas_types
  refine callf_str_int (log2_small hl) ?_
  kas_types
  exact h

theorem how_get {n : Nat} (h : n < 2) : ([.str "is", .str "less"] : List V)[(n : Int).toNat]? = some (.str (if n = 0 then "is" else "less")) := by
  have : n = 0 ∨ n = 1 := by omega
  rcases this with rfl | rfl <;> rfl

theorem part_drop {p : Part} : Pick (.int 3) .none .none [.int p.goal, .int p.source, .int p.more, .int p.kind, .int p.one, .int p.other, .int p.name, .int p.how, .int p.number] [.int p.kind, .int p.one, .int p.other, .int p.name, .int p.how, .int p.number] :=
  Pick.from 3 _ (by decide)

set_option maxHeartbeats 1000000 in
theorem t_jump (LB : Lib c A) (WL : LawLib c W) {p : Part} {many : Nat} (hp : p.Ok many) (h : Q (.lst (encSs (jumpS p))) σ) : CodeOk c 2 (.ref W.f_jump) [encPart p] σ Q := by
  obtain ⟨p1, p2, p3, p4, p5, p6, p7, p8, p9⟩ := hp
  refine code_fn1 "part" WL.jump.fn (by intros; rfl) (by decide +kernel) fun L cdv => ?_
  kat_tups
  kas_types
  refine okb_assign ?_ (by with_unfolding_all rfl) (by with_unfolding_all rfl) (by with_unfolding_all rfl)
  refine ok_slice ?_ plainI
  kas_types
  show Ok c 1 _ _ _ _ _
  kas_types
  refine ⟨_, _, .inl rfl, le_line (Nat.le_of_ble_eq_true (by with_unfolding_all rfl)), part_drop, ?_⟩
  refine oka_unpack (okas_cons (oka_name (okas_cons (oka_name (okas_cons (oka_name (okas_cons (oka_name (okas_cons (oka_name (okas_cons (oka_name (okas_nil ?_) (by k_upd)) (by with_unfolding_all rfl)) (by k_upd)) (by with_unfolding_all rfl)) (by k_upd)) (by with_unfolding_all rfl)) (by k_upd)) (by with_unfolding_all rfl)) (by k_upd)) (by with_unfolding_all rfl)) (by k_upd)) (by with_unfolding_all rfl)) (by with_unfolding_all rfl) (by with_unfolding_all rfl)
  refine okb_swap2 "goals" "test" ?_ (by with_unfolding_all rfl) (by with_unfolding_all rfl) (by k_upd) (by k_upd)
  kas_types
  refine run_mul (.of_left (by decide)) ?_
  kas_types
  refine run_mul (.of_left (by decide)) ?_
  kas_types
  refine item_lst plainI (by omega) (by omega) (how_get p8) ?_
  kas_types
  refine item_lst plainI (by omega) (by omega) (nm_get p7) ?_
  kas_types
  have hl := h
  unfold jumpS at hl
  by_cases k1 : p.kind = 1
  · first | with_reducible refine t_dt (by omega) ?_ | with_reducible refine to_dt (by omega) ?_
    kas_types
    rw [if_pos k1] at hl
    exact hl
  first | with_reducible refine t_df (by omega) ?_ | with_reducible refine to_df (by omega) ?_
  rw [if_neg k1] at hl
  kas_types
  by_cases k2 : p.kind = 2
  · first | with_reducible refine t_dt (by omega) ?_ | with_reducible refine to_dt (by omega) ?_
    kas_types
    first | with_reducible refine t_dt (by omega) ?_ | with_reducible refine to_dt (by omega) ?_
    kas_types
    rw [if_pos k2] at hl
    exact hl
  first | with_reducible refine t_df (by omega) ?_ | with_reducible refine to_df (by omega) ?_
  rw [if_neg k2] at hl
  kas_types
  by_cases k3 : p.kind = 3
  · first | with_reducible refine t_dt (by omega) ?_ | with_reducible refine to_dt (by omega) ?_
    kas_types
    first | with_reducible refine t_df (by omega) ?_ | with_reducible refine to_df (by omega) ?_
    kas_types
    rw [if_pos k3] at hl
    exact hl
  first | with_reducible refine t_df (by omega) ?_ | with_reducible refine to_df (by omega) ?_
  rw [if_neg k3] at hl
  kas_types
  by_cases k4 : p.kind = 4
  · first | with_reducible refine t_dt (by omega) ?_ | with_reducible refine to_dt (by omega) ?_
    kas_types
    refine item_lst plainI (by omega) (by omega) (nm_get p7) ?_
    kas_types
    rw [if_pos k4] at hl
    exact hl
  first | with_reducible refine t_df (by omega) ?_ | with_reducible refine to_df (by omega) ?_
  rw [if_neg k4] at hl
  kas_types
  by_cases k5 : p.kind = 5
  · first | with_reducible refine t_dt (by omega) ?_ | with_reducible refine to_dt (by omega) ?_
    kas_types
    rw [if_pos k5] at hl
    exact hl
  first | with_reducible refine t_df (by omega) ?_ | with_reducible refine to_df (by omega) ?_
  rw [if_neg k5] at hl
  kas_types
  exact hl
end

end

-- L3
section

section
variable {c : Ctx} {A : Ads} {W : LawAds} {d : Nat} {env : Env} {lk : Loc} {σ σ' : Sto} {pos : Pos} {QX : Fl → Loc → Sto → Prop} {Q : V → Sto → Prop}

set_option maxHeartbeats 1000000 in
theorem t_led (LB : Lib c A) (WL : LawLib c W) {p : Part} {many behind : Nat} (hp : p.Ok many) (h : Q (.lst (encSs (ledS p behind))) σ) : CodeOk c 2 (.ref W.f_led) [encPart p, .int behind] σ Q := by
  obtain ⟨p1, p2, p3, p4, p5, p6, p7, p8, p9⟩ := hp
  refine code_fn2 "part" "behind" WL.led.fn (by intros; rfl) (by decide +kernel) fun L cdv => ?_
  kat_tups
  kas_types
  refine okb_assign ?_ (by with_unfolding_all rfl) (by with_unfolding_all rfl) (by with_unfolding_all rfl)
  refine ok_slice ?_ plainI
  kas_types
  show Ok c 1 _ _ _ _ _
  kas_types
  refine ⟨_, _, .inl rfl, le_line (Nat.le_of_ble_eq_true (by with_unfolding_all rfl)), part_drop, ?_⟩
  refine oka_unpack (okas_cons (oka_name (okas_cons (oka_name (okas_cons (oka_name (okas_cons (oka_name (okas_cons (oka_name (okas_cons (oka_name (okas_nil ?_) (by k_upd)) (by with_unfolding_all rfl)) (by k_upd)) (by with_unfolding_all rfl)) (by k_upd)) (by with_unfolding_all rfl)) (by k_upd)) (by with_unfolding_all rfl)) (by k_upd)) (by with_unfolding_all rfl)) (by k_upd)) (by with_unfolding_all rfl)) (by with_unfolding_all rfl) (by with_unfolding_all rfl)
  refine okb_assign ?_ (by with_unfolding_all rfl) (by with_unfolding_all rfl) (by with_unfolding_all rfl)
  refine ok_listcomp (cscope_fn [".0", "place"] rfl (by decide +kernel) ⟨by keq_hits, by keq_hits, trivial⟩) (fun _ => by with_unfolding_all rfl) ?_
  refine okit_val ?_
  kas_types
  refine ⟨_, .inl rfl, trivial, fun C cl => ?_⟩
  refine comp_name (by k_upd) (by keq_hits) (Nat.zero_le _) ?_
  kas_types
  refine ⟨trivial, ?_⟩
  refine comp_name (by k_upd) (by keq_hits) (le_line (Nat.le_of_ble_eq_true (by with_unfolding_all rfl))) ?_
  kas_types
  refine ⟨trivial, ?_⟩
  refine comp_name (by k_upd) (by keq_hits) (le_line (Nat.le_of_ble_eq_true (by with_unfolding_all rfl))) ?_
  kas_types
  refine ⟨trivial, ?_⟩
  refine comp_nil ?_
  refine oka_unpack (okas_cons (oka_name (okas_cons (oka_name (okas_cons (oka_name (okas_nil ?_) (by k_upd)) (by with_unfolding_all rfl)) (by k_upd)) (by with_unfolding_all rfl)) (by k_upd)) (by with_unfolding_all rfl)) (by with_unfolding_all rfl) (by with_unfolding_all rfl)
  kas_types
  refine item_lst plainI (by omega) (by omega) (how_get p8) ?_
  kas_types
  refine item_lst plainI (by omega) (by omega) (nm_get p7) ?_
  kas_types
  have hl := h
  unfold ledS at hl
  by_cases k1 : p.kind = 1
  · first | with_reducible refine t_dt (by omega) ?_ | with_reducible refine to_dt (by omega) ?_
    kas_types
    rw [if_pos k1] at hl
    exact hl
  first | with_reducible refine t_df (by omega) ?_ | with_reducible refine to_df (by omega) ?_
  rw [if_neg k1] at hl
  kas_types
  by_cases k2 : p.kind = 2
  · first | with_reducible refine t_dt (by omega) ?_ | with_reducible refine to_dt (by omega) ?_
    kas_types
    first | with_reducible refine t_dt (by omega) ?_ | with_reducible refine to_dt (by omega) ?_
    kas_types
    rw [if_pos k2] at hl
    exact hl
  first | with_reducible refine t_df (by omega) ?_ | with_reducible refine to_df (by omega) ?_
  rw [if_neg k2] at hl
  kas_types
  by_cases k3 : p.kind = 3
  · first | with_reducible refine t_dt (by omega) ?_ | with_reducible refine to_dt (by omega) ?_
    kas_types
    first | with_reducible refine t_df (by omega) ?_ | with_reducible refine to_df (by omega) ?_
    kas_types
    rw [if_pos k3] at hl
    exact hl
  first | with_reducible refine t_df (by omega) ?_ | with_reducible refine to_df (by omega) ?_
  rw [if_neg k3] at hl
  kas_types
  by_cases k4 : p.kind = 4
  · first | with_reducible refine t_dt (by omega) ?_ | with_reducible refine to_dt (by omega) ?_
    kas_types
    refine item_lst plainI (by omega) (by omega) (nm_get p7) ?_
    kas_types
    refine item_lst plainI (by omega) (by omega) (nm_get p7) ?_
    kas_types
    rw [if_pos k4] at hl
    exact hl
  first | with_reducible refine t_df (by omega) ?_ | with_reducible refine to_df (by omega) ?_
  rw [if_neg k4] at hl
  kas_types
  by_cases k5 : p.kind = 5
  · first | with_reducible refine t_dt (by omega) ?_ | with_reducible refine to_dt (by omega) ?_
    kas_types
    rw [if_pos k5] at hl
    exact hl
  first | with_reducible refine t_df (by omega) ?_ | with_reducible refine to_df (by omega) ?_
  rw [if_neg k5] at hl
  kas_types
  exact hl
end

end

-- L4
section

section
variable {c : Ctx} {A : Ads} {W : LawAds} {d : Nat} {env : Env} {lk : Loc} {σ σ' : Sto} {pos : Pos} {QX : Fl → Loc → Sto → Prop} {Q : V → Sto → Prop}

theorem map_getD {o : Option Int} : (o.map V.int).getD (.int 0) = .int (o.getD 0) := by cases o <;> rfl
theorem beq_t {x y : Str} (h : x = y) : (x == y) = true := by simp [h]
theorem beq_f {x y : Str} (h : ¬ x = y) : (x == y) = false := by simp [h]

set_option maxHeartbeats 1000000 in
theorem t_lawworth (LB : Lib c A) (WL : LawLib c W) : WorthOk c W.f_worth w1 1 := by
  refine ⟨WL.hand, WL.worth.keep, Nat.le_refl _, fun σ t kv vals Q hv h => ?_⟩
  obtain ⟨word, name, number⟩ := t
  unfold encT
  dsimp only [w1] at h
  dsimp only
  refine code_fn2 "tree" "values" WL.worth.fn (by intros; rfl) (by decide +kernel) fun L cdv => ?_
  kat_tups
  refine okb_assign ?_ (by with_unfolding_all rfl) (by with_unfolding_all rfl) (by with_unfolding_all rfl)
  kas_types
  refine oka_tuple (okas_cons (oka_name (okas_cons (oka_name (okas_cons (oka_name (okas_nil ?_) (by k_upd)) (by with_unfolding_all rfl)) (by k_upd)) (by with_unfolding_all rfl)) (by k_upd)) (by with_unfolding_all rfl)) (by with_unfolding_all rfl) (by with_unfolding_all rfl)
  kas_types
  by_cases h1 : word = "put"
  · rw [beq_t h1]
    kas_types
    rw [if_pos h1] at h
    exact h
  rw [beq_f h1]
  rw [if_neg h1] at h
  kas_types
  by_cases h2 : word = "mix"
  · subst h2
    rw [beq_t rfl]
    kas_types
    with_reducible refine ok_meth ?_ (by with_unfolding_all rfl) (by with_unfolding_all rfl) (by with_unfolding_all rfl) (by with_unfolding_all rfl)
    kas_types
    refine ⟨_, meth_get hv, rfl, ?_⟩
    kas_types
    refine callf_get2 LB.low hv ?_
    rw [map_getD]
    refine run_mul (.of_left (by decide)) ?_
    kas_types
    with_reducible refine ok_meth ?_ (by with_unfolding_all rfl) (by with_unfolding_all rfl) (by with_unfolding_all rfl) (by with_unfolding_all rfl)
    kas_types
    refine ⟨_, meth_get hv, rfl, ?_⟩
    kas_types
    refine callf_get2 LB.low hv ?_
    rw [map_getD]
    kas_types
    rw [if_pos rfl] at h
    exact h
  rw [beq_f h2]
  rw [if_neg h2] at h
  kas_types
  with_reducible refine ok_meth ?_ (by with_unfolding_all rfl) (by with_unfolding_all rfl) (by with_unfolding_all rfl) (by with_unfolding_all rfl)
  kas_types
  refine ⟨_, meth_get hv, rfl, ?_⟩
  kas_types
  refine callf_get2 LB.low hv ?_
  rw [map_getD]
  kas_types
  rw [beq_f h2]
  kas_types
  by_cases h3 : word = "next"
  · rw [beq_t h3]
    kas_types
    rw [if_pos h3] at h
    exact h
  rw [beq_f h3]
  rw [if_neg h3] at h
  kas_types
  by_cases h4 : word = "sum"
  · rw [beq_t h4]
    kas_types
    refine run_mod (by decide) ?_
    kas_types
    rw [if_pos h4] at h
    exact h
  rw [beq_f h4]
  rw [if_neg h4] at h
  kas_types
  by_cases h5 : word = "is"
  · rw [beq_t h5]
    kas_types
    rw [if_pos h5] at h
    by_cases e : (vals name).getD 0 = number
    · rw [decide_eq_true e]
      rw [if_pos e] at h
      exact h
    · rw [decide_eq_false e]
      rw [if_neg e] at h
      exact h
  rw [beq_f h5]
  rw [if_neg h5] at h
  kas_types
  by_cases h6 : word = "less"
  · rw [beq_t h6]
    kas_types
    rw [if_pos h6] at h
    by_cases e : (vals name).getD 0 < number
    · rw [decide_eq_true e]
      rw [if_pos e] at h
      exact h
    · rw [decide_eq_false e]
      rw [if_neg e] at h
      exact h
  rw [beq_f h6]
  rw [if_neg h6] at h
  kas_types
  by_cases e : (vals name).getD 0 > number
  · rw [decide_eq_true e]
    rw [if_pos e] at h
    exact h
  · rw [decide_eq_false e]
    rw [if_neg e] at h
    exact h
end

end

-- L5
section

section
variable {c : Ctx} {A : Ads} {W : LawAds} {d : Nat} {env : Env} {lk : Loc} {σ σ' : Sto} {pos : Pos} {QX : Fl → Loc → Sto → Prop} {Q : V → Sto → Prop}

theorem encSs_append : ∀ (a b : List St), encSs (a ++ b) = encSs a ++ encSs b
  | [], b => rfl
  | x :: a, b => by simp [encSs, encSs_append a b]

theorem ok_cut {e : Expr} (y : V) (h1 : ∀ Q', Q' y σ → Ok c d env e lk σ Q') (h2 : Q y σ) : Ok c d env e lk σ Q := h1 Q h2

/-- done = _law_body(..) + _law_led(..) -/
noncomputable def doneS (p : Part) (n len : Nat) : List St := bodyS p (n + 1) ++ ledS p (behindOf n len)

theorem done_len {p : Part} {n len l b : Nat} : (encSs (bodyS p l)).length = 4 ∧ (encSs (ledS p b)).length = 1 ∧ (encSs (doneS p n len)).length = 5 := by
  have h1 : ∀ l, (bodyS p l).length = 4 := fun _ => rfl
  have h2 : ∀ b, (ledS p b).length = 1 := by
    intro b
    unfold ledS
    repeat' split
    all_goals rfl
  simp [encSs_len, doneS, h1, h2]

set_option maxHeartbeats 4000000 in
theorem t_looped (LB : Lib c A) (WL : LawLib c W) {parts : List Part} {called : Bool} (hP : AllOk parts) (hl : parts.length ≤ 10) (h : ∀ σ', (∀ j x, σ j = some x → σ' j = some x) → Q (.lst ((loopedPs called parts).map encP)) σ') :
    CodeOk c 3 (.ref W.f_looped) [.lst (parts.map fun p => encPart p), .bool called] σ Q := by
  refine code_fn2 "parts" "is_called" WL.looped.fn (by intros; rfl) (by decide +kernel) fun L cdv => ?_
  kat_tups
  refine okb_swap2 "lines" "last" ?_ (by with_unfolding_all rfl) (by with_unfolding_all rfl) (by k_upd) (by k_upd)
  refine ok_tuple ?_
  refine okl_cons ?_ (fun _ => by with_unfolding_all rfl)
  refine ok_listC ?_
  kas_types
  intro kl hkl
  refine okl_cons ?_ (fun _ => by with_unfolding_all rfl)
  refine ok_listC ?_
  refine okl_nil ⟨len0, fun ks hks => ?_⟩
  kas_types
  have hne := ne_none (upd_self ..) hks
  generalize hL0 : ([V.tup [V.int 10, _], _] : List V) = L0
  have el0 : L0 = headL.map encP := by rw [← hL0]; rfl
  have ll0 : L0.length = 2 := by rw [el0]; rfl
  have c1 := (upd_ne (c := .list []) hne).trans (upd_self σ kl (.list L0))
  have dom : ∀ j x, σ j = some x → upd (upd σ kl (.list L0)) ks (.list []) j = some x := fun j x hj => by
    have n1 := ne_none hj hkl
    rw [upd_ne (ne_none ((upd_ne n1).trans hj) hks), upd_ne n1]; exact hj
  have c2 : upd (upd σ kl (.list L0)) ks (.list []) ks = some (.list []) := upd_self ..
  generalize upd (upd σ kl (.list L0)) ks (.list []) = σ0 at *
  have nl : ∀ j x, σ j = some x → j ≠ kl := fun j x hj => ne_none hj hkl
  cases called with
  | false =>
    kas_types
    with_reducible refine ok_meth ?_ (by with_unfolding_all rfl) (by with_unfolding_all rfl) (by with_unfolding_all rfl) (by with_unfolding_all rfl)
    kas_types
    refine ⟨_, meth_append c1, rfl, ?_⟩
    kas_types
    refine callf_append c1 (le_line (by omega)) ?_
    kas_types
    refine okit_enum LB.b_enumerate (by k_updF) ?_ (fun _ => by with_unfolding_all rfl)
    kas_types
    refine .inl ⟨_, rfl, trivial, ?_⟩
    refine loop_weak (lk' := [("parts", .lst (parts.map fun p => encPart p)), ("is_called", .bool false), ("last", .ref ks), ("lines", .ref kl)]) (by keq_rows) ?_
    refine loop_inv2 (fun xs lk₁ σ₁ => ∃ (n : Nat) (rs : List Part) (D : List V), xs = enumV n (rs.map fun p => encPart p) ∧ lk₁ = ([("parts", .lst (parts.map fun p => encPart p)), ("is_called", .bool false), ("last", .ref ks), ("lines", .ref kl)] : Loc) ∧ n + rs.length = parts.length ∧ (∀ p ∈ rs, p.Ok parts.length) ∧
      σ₁ = upd σ0 kl (.list D) ∧ D.length = n + 3 ∧ D ++ (ifsFrom parts.length n rs).map encP = (headL ++ (30, [.let_ "Q" ("next", "P", 0)]) :: ifsFrom parts.length 0 parts).map encP) (by k_upd) (by k_upd) (fun QB x xs lk₁ σ₁ hJ hB => ?_) (fun lk₁ σ₁ hJ => ?_) ⟨0, parts, _, rfl, rfl, by simp, hP, rfl, by simp [ll0], by rw [el0]; simp [headL, encP, encSs, encS, encT]⟩
    · obtain ⟨n, rs, D, hx, rfl, hn, hok, rfl, hDl, hD⟩ := hJ
      cases rs with
      | nil => cases hx
      | cons p rs =>
        rw [List.map_cons, enumV_cons] at hx
        injection hx with hx1 hx2
        subst hx1
        simp only [List.length_cons] at hn
        have hp := hok p (.head _)
        refine ⟨_, _, rfl, ?_⟩
        with_reducible refine okb_let ?_ (by k_upd) (by with_unfolding_all rfl) (by with_unfolding_all rfl)
        refine ok_cut (.lst (encSs (doneS p n parts.length))) (fun Q' hQ => ?_) ?_
        · kas_types
          with_reducible refine okg_call (‹LawLib _ _›).body.ns (‹LawLib _ _›).body.keep (by k_updF) (by decide +kernel) (fun _ => by with_unfolding_all rfl) ?_
          kas_types
          refine (t_body LB WL (line := n + 1) hp (by omega) ?_).f (by decide)
          with_reducible refine okg_call (‹LawLib _ _›).led.ns (‹LawLib _ _›).led.keep (by k_updF) (by decide +kernel) (fun _ => by with_unfolding_all rfl) ?_
          with_reducible refine okl_cons ?_ (fun _ => by with_unfolding_all rfl)
          with_reducible refine okv (by kpt_turns) (by k_memK) (by decide +kernel) ?_
          with_reducible refine okl_cons ?_ (fun _ => by with_unfolding_all rfl)
          refine ok_cut (.int ((behindOf n parts.length : Nat) : Int)) (fun Q'' hQ' => ?_) ?_
          · kas_types
            refine callf_len (.inr (.inl rfl)) (le_line (by simp; omega)) ?_
            kas_types
            rw [List.length_map]
            unfold behindOf at hQ'
            by_cases hb : n + 1 < parts.length
            · rw [decide_eq_true (by omega)]
              kas_types
              rw [if_pos hb] at hQ'
              exact hQ'
            · rw [decide_eq_false (by omega)]
              kas_types
              rw [if_neg hb] at hQ'
              exact hQ'
          kas_types
          refine (t_led LB WL hp ?_).f (by decide)
          refine run_addl (.inl rfl) (.inl rfl) (le_line (by have h1 := (@done_len p n parts.length (n + 1) 0).1; have h2 := (@done_len p n parts.length 0 (behindOf n parts.length)).2.1; omega)) ?_
          rw [← encSs_append]
          exact hQ
        kas_types
        with_reducible refine ok_meth ?_ (by with_unfolding_all rfl) (by with_unfolding_all rfl) (by with_unfolding_all rfl) (by with_unfolding_all rfl)
        kas_types
        refine ⟨_, meth_append (upd_self ..), rfl, ?_⟩
        kas_types
        refine callf_append (upd_self ..) (le_line (by omega)) ?_
        kas_types
        rw [upd_upd]
        refine hB .next _ _ ⟨trivial, ([("parts", .lst (parts.map fun p => encPart p)), ("is_called", .bool false), ("last", .ref ks), ("lines", .ref kl)] : Loc), by keq_rows, n + 1, rs, _, hx2, rfl, by omega, fun q hq => hok q (.tail _ hq), rfl, by simp; omega, ?_⟩
        rw [← hD]
        simp [ifsFrom, encP, encSs, encS, encT, doneS]
    · obtain ⟨n, rs, D, hx, rfl, hn, hok, rfl, hDl, hD⟩ := hJ
      cases rs with
      | cons s r => cases hx
      | nil =>
        kas_types
        refine run_addl (.inr ⟨kl, rfl, upd_self ..⟩) (.inl rfl) (le_line (by simp; omega)) ?_
        kas_types
        refine run_addl (.inl rfl) (.inr ⟨ks, rfl, (upd_ne (Ne.symm hne)).trans c2⟩) (le_line (by simp; omega)) ?_
        simp only [ifsFrom, List.map_nil, List.append_nil] at hD
        refine ret_ret ?_
        have hh := h (upd σ0 kl (.list D)) (fun j x hj => (upd_ne (nl j x hj)).trans (dom j x hj))
        rw [show (loopedPs false parts).map encP = ((headL ++ (30, [.let_ "Q" ("next", "P", 0)]) :: ifsFrom parts.length 0 parts).map encP) ++ [encP (50, [.wend])] from by simp [loopedPs], ← hD] at hh
        rw [List.append_nil]
        exact hh
  | true =>
    kas_types
    with_reducible refine ok_meth ?_ (by with_unfolding_all rfl) (by with_unfolding_all rfl) (by with_unfolding_all rfl) (by with_unfolding_all rfl)
    kas_types
    refine ⟨_, meth_append c1, rfl, ?_⟩
    kas_types
    refine ok_cut (.lst (((List.range parts.length).map fun n : Nat => 1000 + 10 * (n : Int)).map .int)) (fun Q' hQ => ?_) ?_
    · refine ok_listcomp (cscope_fn [".0", "at"] rfl (by decide +kernel) ⟨by keq_hits, by keq_hits, trivial⟩) (fun _ => by with_unfolding_all rfl) ?_
      kas_types
      refine callf_len (.inr (.inl rfl)) (le_line (by simp; omega)) ?_
      kas_types
      refine ⟨_, rfl, by rw [List.length_map]; omega, by rw [List.length_map]; omega, trivial, fun C cl => ?_⟩
      rw [Int.toNat_natCast, List.length_map]
      refine comp_inv1 (fun xs acc σ₁ => ∃ k m : Nat, xs = rangeV k 1 m ∧ k + m = parts.length ∧ acc = ((List.range k).map fun n : Nat => 1000 + 10 * (n : Int)).map .int ∧ σ₁ = σ0) (by k_upd) (by keq_hits) (fun QE x r acc σ₁ hJ hE => ?_) (fun acc σ₁ hJ => ?_) ⟨0, parts.length, rfl, by omega, rfl, rfl⟩
      · obtain ⟨k, m, hx, hkm, rfl, rfl⟩ := hJ
        cases m with
        | zero => cases hx
        | succ m =>
          rw [rangeV] at hx
          injection hx with hx1 hx2
          subst hx1
          refine ⟨le_line (by simp; omega), ?_⟩
          kas_types
          refine run_mul (.of_left (by decide)) ?_
          kas_types
          refine hE _ _ trivial ⟨k + 1, m, hx2, by omega, ?_, rfl⟩
          rw [List.range_succ, List.map_append, List.map_append]
          rfl
      · obtain ⟨k, m, hx, hkm, rfl, rfl⟩ := hJ
        cases m with
        | succ m => cases hx
        | zero =>
          obtain rfl : k = parts.length := by omega
          exact hQ
    kas_types
    generalize hX : V.tup [.int 30, .lst [.tup [.str "ONGO", .str "GOSUB", .tup [.str "next", .str "P", .int 0], .lst (((List.range parts.length).map fun n : Nat => 1000 + 10 * (n : Int)).map .int)]]] = X
    refine callf_append c1 (le_line (by omega)) ?_
    with_reducible refine okb_let ?_ (by k_upd) (by with_unfolding_all rfl) (by with_unfolding_all rfl)
    refine ok_listC ?_
    kas_types
    intro kt hkt
    have dA : ∀ j x, σ j = some x → upd σ0 kl (.list (L0 ++ [X])) j = some x := fun j x hj => (upd_ne (nl j x hj)).trans (dom j x hj)
    have gA := upd_self σ0 kl (.list (L0 ++ [X]))
    generalize upd σ0 kl (.list (L0 ++ [X])) = σa at *
    have hnk : kl ≠ kt := ne_none gA hkt
    have dom1 : ∀ j x, σ j = some x → upd σa kt (.list [.tup [.int 60, .lst [.tup [.str "END"]]]]) j = some x ∧ j ≠ kt := fun j x hj => ⟨(upd_ne (ne_none (dA j x hj) hkt)).trans (dA j x hj), ne_none (dA j x hj) hkt⟩
    have d1 : upd σa kt (.list [.tup [.int 60, .lst [.tup [.str "END"]]]]) kl = some (.list (L0 ++ [X])) := (upd_ne hnk).trans gA
    have d2 : upd σa kt (.list [.tup [.int 60, .lst [.tup [.str "END"]]]]) kt = some (.list [.tup [.int 60, .lst [.tup [.str "END"]]]]) := upd_self ..
    generalize upd σa kt (.list [.tup [.int 60, .lst [.tup [.str "END"]]]]) = σ1 at *
    refine okb_nil (then_next ?_)
    refine okb_for ?_ (fun _ => by with_unfolding_all rfl)
    refine okit_enum LB.b_enumerate (by k_updF) ?_ (fun _ => by with_unfolding_all rfl)
    kas_types
    refine .inl ⟨_, rfl, trivial, ?_⟩
    refine loop_weak (lk' := [("parts", .lst (parts.map fun p => encPart p)), ("is_called", .bool true), ("last", .ref kt), ("lines", .ref kl)]) (by keq_rows) ?_
    refine loop_inv2 (fun xs lk₁ σ₁ => ∃ (n : Nat) (rs : List Part) (D : List V), xs = enumV n (rs.map fun p => encPart p) ∧ lk₁ = ([("parts", .lst (parts.map fun p => encPart p)), ("is_called", .bool true), ("last", .ref kt), ("lines", .ref kl)] : Loc) ∧ n + rs.length = parts.length ∧ (∀ p ∈ rs, p.Ok parts.length) ∧
      σ₁ = upd σ1 kt (.list D) ∧ D.length = n + 1 ∧ D ++ (subsFrom parts.length n rs).map encP = ((60, [.end_]) :: subsFrom parts.length 0 parts).map encP) (by k_upd) (by k_upd) (fun QB x xs lk₁ σ₁ hJ hB => ?_) (fun lk₁ σ₁ hJ => ?_) ⟨0, parts, [.tup [.int 60, .lst [.tup [.str "END"]]]], rfl, rfl, by simp, hP, ?_, rfl, rfl⟩
    · obtain ⟨n, rs, D, hx, rfl, hn, hok, rfl, hDl, hD⟩ := hJ
      cases rs with
      | nil => cases hx
      | cons p rs =>
        rw [List.map_cons, enumV_cons] at hx
        injection hx with hx1 hx2
        subst hx1
        simp only [List.length_cons] at hn
        have hp := hok p (.head _)
        refine ⟨_, _, rfl, ?_⟩
        with_reducible refine okb_let ?_ (by k_upd) (by with_unfolding_all rfl) (by with_unfolding_all rfl)
        refine ok_cut (.lst (encSs (doneS p n parts.length))) (fun Q' hQ => ?_) ?_
        · kas_types
          with_reducible refine okg_call (‹LawLib _ _›).body.ns (‹LawLib _ _›).body.keep (by k_updF) (by decide +kernel) (fun _ => by with_unfolding_all rfl) ?_
          kas_types
          refine (t_body LB WL (line := n + 1) hp (by omega) ?_).f (by decide)
          with_reducible refine okg_call (‹LawLib _ _›).led.ns (‹LawLib _ _›).led.keep (by k_updF) (by decide +kernel) (fun _ => by with_unfolding_all rfl) ?_
          with_reducible refine okl_cons ?_ (fun _ => by with_unfolding_all rfl)
          with_reducible refine okv (by kpt_turns) (by k_memK) (by decide +kernel) ?_
          with_reducible refine okl_cons ?_ (fun _ => by with_unfolding_all rfl)
          refine ok_cut (.int ((behindOf n parts.length : Nat) : Int)) (fun Q'' hQ' => ?_) ?_
          · kas_types
            refine callf_len (.inr (.inl rfl)) (le_line (by simp; omega)) ?_
            kas_types
            rw [List.length_map]
            unfold behindOf at hQ'
            by_cases hb : n + 1 < parts.length
            · rw [decide_eq_true (by omega)]
              kas_types
              rw [if_pos hb] at hQ'
              exact hQ'
            · rw [decide_eq_false (by omega)]
              kas_types
              rw [if_neg hb] at hQ'
              exact hQ'
          kas_types
          refine (t_led LB WL hp ?_).f (by decide)
          refine run_addl (.inl rfl) (.inl rfl) (le_line (by have h1 := (@done_len p n parts.length (n + 1) 0).1; have h2 := (@done_len p n parts.length 0 (behindOf n parts.length)).2.1; omega)) ?_
          rw [← encSs_append]
          exact hQ
        kas_types
        with_reducible refine ok_meth ?_ (by with_unfolding_all rfl) (by with_unfolding_all rfl) (by with_unfolding_all rfl) (by with_unfolding_all rfl)
        kas_types
        refine ⟨_, meth_append (upd_self ..), rfl, ?_⟩
        kas_types
        refine run_mul (.of_left (by decide)) ?_
        kas_types
        refine run_addl (.inl rfl) (.inl rfl) (le_line (by have := (@done_len p n parts.length 0 0).2.2; simp [this])) ?_
        kas_types
        refine callf_append (upd_self ..) (le_line (by omega)) ?_
        kas_types
        rw [upd_upd]
        refine hB .next _ _ ⟨trivial, ([("parts", .lst (parts.map fun p => encPart p)), ("is_called", .bool true), ("last", .ref kt), ("lines", .ref kl)] : Loc), by keq_rows, n + 1, rs, _, hx2, rfl, by omega, fun q hq => hok q (.tail _ hq), rfl, by simp; omega, ?_⟩
        rw [← hD]
        simp [subsFrom, encP, encSs, encS, doneS, encSs_append]
    · obtain ⟨n, rs, D, hx, rfl, hn, hok, rfl, hDl, hD⟩ := hJ
      cases rs with
      | cons s r => cases hx
      | nil =>
        kas_types
        refine run_addl (.inr ⟨kl, rfl, (upd_ne hnk).trans d1⟩) (.inl rfl) (le_line (by simp; omega)) ?_
        kas_types
        refine run_addl (.inl rfl) (.inr ⟨kt, rfl, upd_self ..⟩) (le_line (by simp; omega)) ?_
        simp only [subsFrom, List.map_nil, List.append_nil] at hD
        refine ret_ret ?_
        have hh := h (upd σ1 kt (.list D)) (fun j x hj => (upd_ne (dom1 j x hj).2).trans (dom1 j x hj).1)
        rw [show (loopedPs true parts).map encP = headL.map encP ++ [encP (30, [.ongo "GOSUB" ("next", "P", 0) ((List.range parts.length).map fun n : Nat => 1000 + 10 * (n : Int))])] ++ [encP (50, [.wend])] ++ (((60, [.end_]) :: subsFrom parts.length 0 parts).map encP) from by simp [loopedPs], ← hD, ← el0] at hh
        rw [← hX]
        exact hh
    · funext j
      by_cases e : j = kt
      · subst e; rw [upd_self]; exact d2
      · rw [upd_ne e]
end

end

-- L6
section

section
variable {c : Ctx} {A : Ads} {W : LawAds} {d : Nat} {env : Env} {lk : Loc} {σ σ' : Sto} {pos : Pos} {QX : Fl → Loc → Sto → Prop} {Q : V → Sto → Prop}

theorem t_pullN (LB : Lib c A) (WL : LawLib c W) {kc k many : Nat} {s : List Int} (hc : σ kc = some (.list [.lst (s.map .int), .int k])) (hs : s.length ≤ 63) (hk : k < 1000) (hm : 0 < many)
    (h : ∀ n : Nat, n < many → Q (.int n) (upd σ kc (.list [.lst (s.map .int), .int ((k + 1 : Nat) : Int)]))) : CodeOk c 1 (.ref W.f_pull) [.ref kc, .int many] σ Q := by
  refine t_pull LB WL hc hs hk (by omega) ?_
  have h1 : 0 ≤ pullV s k many ∧ pullV s k many < many := by
    unfold pullV
    rw [Int.fmod_eq_emod_of_nonneg _ (by omega)]
    exact ⟨Int.emod_nonneg _ (by omega), Int.emod_lt_of_pos _ (by omega)⟩
  have h2 : pullV s k many = ((pullV s k many).toNat : Int) := by omega
  rw [h2]
  exact h _ (by omega)

noncomputable def objsL (o : Objs) (kp : Nat) : List Nat := [o.kRun, o.kFlat, o.kVals, o.kCtl, o.kNotes, o.kRows, o.kPl, o.kPairs, kp]

theorem RunAt.mv {aW : Addr} {o : Objs} {kp : Nat} {P : Prg} {m : Ms} (r : RunAt A aW o kp P σ m) (hs : ∀ j ∈ objsL o kp, ∀ x, σ j = some x → σ' j = some x) : RunAt A aW o kp P σ' m := by
  obtain ⟨⟨n1, f1, h1, q1⟩, ⟨n2, f2, h2, q2⟩, ⟨n3, f3, hn3, h3, q3⟩, h4, h5, h6, h7, h8, ⟨g, h9, q9⟩, nd, hl, hf⟩ := r
  have m : ∀ j, j ∈ objsL o kp → ∀ x, σ j = some x → σ' j = some x := hs
  simp only [objsL, List.mem_cons, List.not_mem_nil, or_false] at m
  exact ⟨⟨n1, f1, m _ (by simp) _ h1, q1⟩, ⟨⟨n2, f2, m _ (by simp) _ h2, q2⟩⟩, ⟨⟨n3, f3, hn3, m _ (by simp) _ h3, q3⟩⟩, m _ (by simp) _ h4, m _ (by simp) _ h5, m _ (by simp) _ h6, m _ (by simp) _ h7, m _ (by simp) _ h8, ⟨g, m _ (by simp) _ h9, q9⟩, nd, hl, hf⟩

/-- what stands, stands on -/
noncomputable def Sub2 (σ σ' : Sto) : Prop := ∀ j x, σ j = some x → σ' j = some x
theorem Sub2.none (h : Sub2 σ σ') {j : Nat} (hj : σ' j = none) : σ j = none := by
  cases e : σ j with
  | none => rfl
  | some x => rw [h j x e] at hj; cases hj

theorem callf_run (LB : Lib c A) {aW : Addr} {P : Prg} {σ0 : Sto} {kf kr kl kp kv : Nat} (hd : 4 ≤ d) (F : FlatNew A P kf kr kl kp σ0 σ) (hkv : σ kv = none) (hlen : P.rows.length ≤ 1000)
    (h : ∀ o kp' σ', RunAt A aW o kp' P σ' ⟨0, fun _ => none, [], []⟩ → (∀ j ∈ objsL o kp', σ0 j = none) → Sub2 σ0 σ' → Q (.ref o.kRun) σ') :
    CallF c d env lk (upd σ kv (.dictS fun _ => none)) (.ref A.c_FlowRun) [.ref kf, .ref kv, .raw (.ref aW), .int 16, .int 9] Q := by
  refine callf_new (d := 3) LB.FlowRun (by omega) fun k hk => ?_
  refine t_run_init LB (upd_self ..) fun kc kq kn σ' R => ⟨rfl, ?_⟩
  obtain ⟨⟨fr1, fr2, fr3, fr4⟩, nd, flat, rows, places, ⟨g, pairs, hg⟩, keep, dom⟩ := F
  obtain ⟨⟨a1, a2, a3, a4, a5, a6, a7, a8, a9⟩, run, ctl, pile, notes, keep', dom'⟩ := R
  have e1 : ∀ {j x}, σ j = some x → σ' j = some x ∧ j ≠ kv ∧ j ≠ k ∧ j ≠ kc ∧ j ≠ kq ∧ j ≠ kn := fun {j x} hj => by
    have n1 := ne_none hj hkv
    have hj2 := (upd_ne (c := .dictS fun _ => none) n1).trans hj
    have n2 := ne_none hj2 hk
    have hj3 := (upd_ne (c := .inst A.c_FlowRun 0 fun _ => none) n2).trans hj2
    exact ⟨keep' j x hj3 n2, n1, n2, ne_none hj3 a1, ne_none hj3 a2, ne_none hj3 a3⟩
  have v0 : upd σ kv (.dictS fun _ => none) kv = some (.dictS fun _ => none) := upd_self ..
  have nvk := ne_none v0 hk
  have v1 := (upd_ne (c := .inst A.c_FlowRun 0 fun _ => none) nvk).trans v0
  have hv := keep' kv _ v1 nvk
  have z : ∀ j, upd (upd σ kv (.dictS fun _ => none)) k (.inst A.c_FlowRun 0 fun _ => none) j = none → σ0 j = none := fun j hj => dom j (upd_dom (upd_dom hj))
  obtain ⟨nF, fF, hF, qF⟩ := flat.at_
  obtain ⟨t1, x1, x2, x3, x4, x5⟩ := e1 hF
  obtain ⟨t2, y1, y2, y3, y4, y5⟩ := e1 rows
  obtain ⟨t3, z1, z2, z3, z4, z5⟩ := e1 places
  obtain ⟨t4, w1, w2, w3, w4, w5⟩ := e1 pairs
  simp only [List.nodup_cons, List.mem_cons, List.not_mem_nil, or_false, not_or] at nd
  obtain ⟨⟨nd1, nd2, nd3⟩, ⟨nd4, nd5⟩, nd6, _⟩ := nd
  refine h ⟨k, kf, kv, kc, kn, kr, kl, kp⟩ kq σ' ⟨run, ⟨⟨nF, fF, t1, qF⟩⟩, ctl, pile, hv, notes, t2, t3, ⟨g, t4, hg⟩, ?_, hlen, fun x hx => absurd rfl hx⟩ ?_ ?_
  · simp only [List.nodup_cons, List.mem_cons, List.not_mem_nil, or_false, not_or]
    have q1 := ne_none v1 a1
    have q2 := ne_none v1 a2
    have q3 := ne_none v1 a3
    refine ⟨⟨Ne.symm x2, Ne.symm nvk, a7, a9, Ne.symm y2, Ne.symm z2, Ne.symm w2, a8⟩, ⟨x1, x3, x5, nd1, nd2, nd3, x4⟩, ⟨q1, q3, Ne.symm y1, Ne.symm z1, Ne.symm w1, q2⟩, ⟨a5, Ne.symm y3, Ne.symm z3, Ne.symm w3, a4⟩, ⟨Ne.symm y5, Ne.symm z5, Ne.symm w5, Ne.symm a6⟩, ⟨nd4, nd5, y4⟩, ⟨nd6, z4⟩, w4, not_false, List.nodup_nil⟩
  · intro j hj
    simp only [objsL, List.mem_cons, List.not_mem_nil, or_false] at hj
    rcases hj with rfl | rfl | rfl | rfl | rfl | rfl | rfl | rfl | rfl
    · exact dom _ (upd_dom hk)
    · exact fr1
    · exact dom _ hkv
    · exact z _ a1
    · exact z _ a3
    · exact fr2
    · exact fr3
    · exact fr4
    · exact z _ a2
  · exact fun j x hj => (e1 (keep j x hj)).1

/-- two lists, compared -/
theorem cell_nec {k j : Nat} {xs ys : List V} (hk : σ k = some (.list xs)) (hj : σ j = some (.list ys)) (px : plains 7 xs = true) (py : plains 7 ys = true) (h : (xs = ys → Q (.bool false) σ) ∧ (xs ≠ ys → Q (.bool true) σ)) : Run2 c d env lk σ (compareOp .NotEq) (.ref k) (.ref j) Q := by
  intro A s μ va vb Qr Er ok r f ha hb q
  obtain ⟨as, ra⟩ := cell_reads r hk px ha
  obtain ⟨bs, rb⟩ := cell_reads r hj py hb
  have pa : (V.lst xs).plain 8 = true := by rw [V.plain]; exact px
  have pb : (V.lst ys).plain 8 = true := by rw [V.plain]; exact py
  refine ne_dataH ra rb (V.shaped pa) (V.shaped pb) ok.units64 ?_
  have e := V.eqv_iff 8 8 _ _ pa pb
  by_cases hq : xs = ys
  · have : PyData.eqv (V.lst xs).py (V.lst ys).py = true := e.mpr (by rw [hq])
    rw [this]
    exact q.now (h.1 hq) r f (.bool _)
  · have : PyData.eqv (V.lst xs).py (V.lst ys).py = false := Bool.eq_false_iff.mpr fun x => hq (by have := e.mp x; injection this)
    rw [this]
    exact q.now (h.2 hq) r f (.bool _)
end

end

-- L7
section
structure Shape (ps : List (Int × List St)) : Prop where
  few : ps.length ≤ 100
  ne : ∀ p ∈ ps, p.2 ≠ []
  dep : ∀ p ∈ ps, depSs p.2 ≤ 3
  len : (flatP 0 ps).length ≤ 900
  wf : ∀ x ∈ flatP 0 ps, WfRow x.2 ∧ remOk x.2 = true

noncomputable def m0 : Ms := ⟨0, fun _ => none, [], []⟩
noncomputable def Law1 : Prop := ∀ (parts : List Part) (called : Bool), AllOk parts → 2 ≤ parts.length → parts.length ≤ 4 → Shape (plainFrom 0 parts) ∧ Shape (loopedPs called parts) ∧
  ∃ mp ml, goN w1 (mkPrg (plainFrom 0 parts)) 40 m0 = .ok mp ∧ goN w1 (mkPrg (loopedPs called parts)) 200 m0 = .ok ml ∧
  (∀ p ∈ mp.notes, PyData.strOk p.1 = true) ∧ (∀ p ∈ ml.notes, PyData.strOk p.1 = true) ∧
  ((mkPrg (plainFrom 0 parts)).rows.length ≤ mp.pc → (mkPrg (loopedPs called parts)).rows.length ≤ ml.pc ∧ mp.notes = ml.notes ∧ ml.vals "R" = some (mp.notes.length : Int) ∧ ∀ x ∈ (["A", "B", "L", "X"] : List Str), mp.vals x = ml.vals x) ∧
  (mp.pc < (mkPrg (plainFrom 0 parts)).rows.length → 0 < mp.notes.length ∧ 0 < ml.notes.length ∧ ∀ n, n ≤ mp.notes.length → n ≤ ml.notes.length → mp.notes.take n = ml.notes.take n)

section
variable {c : Ctx} {A : Ads} {W : LawAds} {d : Nat} {env : Env} {lk : Loc} {σ σ' : Sto} {pos : Pos} {QX : Fl → Loc → Sto → Prop} {Q : V → Sto → Prop}

theorem InstF.mv {k : Nat} {a : Str} {z : V} (h : InstF c σ k a z) (hk : ∀ x, σ k = some x → σ' k = some x) : InstF c σ' k a z := by
  obtain ⟨C, n, f, h1, q⟩ := h
  exact ⟨C, n, f, hk _ h1, q⟩
theorem RunAt.some_ {aW : Addr} {o : Objs} {kp : Nat} {P : Prg} {m : Ms} (r : RunAt A aW o kp P σ m) : ∀ j ∈ objsL o kp, ∃ x, σ j = some x := by
  obtain ⟨⟨n1, f1, h1, q1⟩, ⟨n2, f2, h2, q2⟩, ⟨n3, f3, hn3, h3, q3⟩, h4, h5, h6, h7, h8, ⟨g, h9, q9⟩, nd, hl, hf⟩ := r
  intro j hj
  simp only [objsL, List.mem_cons, List.not_mem_nil, or_false] at hj
  rcases hj with rfl | rfl | rfl | rfl | rfl | rfl | rfl | rfl | rfl
  · exact ⟨_, h1⟩
  · exact ⟨_, h2⟩
  · exact ⟨_, h5⟩
  · exact ⟨_, h3⟩
  · exact ⟨_, h6⟩
  · exact ⟨_, h7⟩
  · exact ⟨_, h8⟩
  · exact ⟨_, h9⟩
  · exact ⟨_, h4⟩

theorem plains_notes : ∀ l : List (Str × Int), (∀ p ∈ l, PyData.strOk p.1 = true) → plains 7 (l.map encN) = true
  | [], _ => rfl
  | x :: l, h => by
    rw [List.map_cons, plains, plains_notes l fun p hp => h p (.tail _ hp)]
    show (PyData.strOk x.1 && (true && true)) && true = true
    rw [h x (.head _)]
    rfl

theorem gets_len {α β : Type} {dn rs : List α} {l : List α} {f : α → β} (h : dn ++ rs = l) (hl : l.length ≤ 10000 := by decide) : (dn.map f).length ≤ 10000 := by
  rw [List.length_map]
  exact Nat.le_trans (by rw [← h, List.length_append]; exact Nat.le_add_right _ _) hl
theorem gets_plain {f : Str → V} {l : List Str} (h : ∀ x, (f x).plain 7 = true) : (V.lst (l.map f)).plain 8 = true := by
  show plains 7 (l.map f) = true
  induction l with
  | nil => rfl
  | cons x l ih => exact Bool.and_eq_true_iff.mpr ⟨h x, ih⟩
theorem sign_ABLX : signV (Str.ofString "ABLX").cps.toList = [.str "A", .str "B", .str "L", .str "X"] := by with_unfolding_all rfl

theorem body_jump_len {p : Part} {l : Nat} : (bodyS p l).length + (jumpS p).length ≤ 10000 := by
  have h1 : (bodyS p l).length = 4 := rfl
  have h2 : (jumpS p).length ≤ 1 := by
    unfold jumpS
    repeat' split
    all_goals simp
  omega

set_option maxHeartbeats 2000000 in
theorem t_law (LB : Lib c A) (WL : LawLib c W) (hL : Law1) {script : List Int} (hs : script.length ≤ 63) (h : ∀ σ', Q (.bool true) σ') : CodeOk c 12 (.ref W.f_law) [.lst (script.map .int)] σ Q := by
  refine code_fn1 "script" WL.law.fn (by intros; rfl) (by decide +kernel) fun L cdv => ?_
  kat_tups
  with_reducible refine okb_let ?_ (by k_upd) (by with_unfolding_all rfl) (by with_unfolding_all rfl)
  refine ok_listC ?_
  with_reducible refine okl_cons ?_ (fun _ => by with_unfolding_all rfl)
  refine ok_slice ?_ plainI
  kas_types
  show Ok c 11 _ _ _ _ _
  kas_types
  refine ⟨_, _, .inl rfl, le_line (by simp; omega), .upto 40 _ (by decide), ?_⟩
  rw [show (40 : Int).toNat = 40 from rfl, ← List.map_take]
  have hs40 : (script.take 40).length ≤ 63 := by simp; omega
  generalize script.take 40 = s at *
  kas_types
  intro kc hkc
  have hc0 : upd σ kc (.list [.lst (s.map .int), .int 0]) kc = some (.list [.lst (s.map .int), .int ((0 : Nat) : Int)]) := upd_self ..
  refine okb_assign ?_ (by with_unfolding_all rfl) (by with_unfolding_all rfl) (by with_unfolding_all rfl)
  kas_types
  with_reducible refine okg_call (‹LawLib _ _›).pull.ns (‹LawLib _ _›).pull.keep (by k_updF) (by decide +kernel) (fun _ => by with_unfolding_all rfl) ?_
  kas_types
  refine (t_pullN LB WL (many := 2) hc0 hs40 (by decide) (by decide) fun n1 hn1 => ?_).f (by decide)
  rw [upd_upd]
  kas_types
  with_reducible refine okg_call (‹LawLib _ _›).pull.ns (‹LawLib _ _›).pull.keep (by k_updF) (by decide +kernel) (fun _ => by with_unfolding_all rfl) ?_
  kas_types
  refine (t_pullN LB WL (many := 3) (upd_self ..) hs40 (by decide) (by decide) fun n2 hn2 => ?_).f (by decide)
  rw [upd_upd]
  generalize decide ((n1 : Int) = 1) = called
  kas_types
  rw [show ((2 : Int) + n2) = ((2 + n2 : Nat) : Int) by omega]
  have hm1 : 2 ≤ 2 + n2 := by omega
  have hm2 : 2 + n2 ≤ 4 := by omega
  generalize 2 + n2 = many at *
  refine oka_tuple (okas_cons (oka_name (okas_cons (oka_name (okas_nil ?_) (by k_upd)) (by with_unfolding_all rfl)) (by k_upd)) (by with_unfolding_all rfl)) (by with_unfolding_all rfl) (by with_unfolding_all rfl)
  have hc2 := upd_self σ kc (.list [.lst (s.map .int), .int ((2 : Nat) : Int)])
  have dom : Sub2 σ (upd σ kc (.list [.lst (s.map .int), .int ((2 : Nat) : Int)])) := fun j x hj => (upd_ne (ne_none hj hkc)).trans hj
  refine okb_comp (cscope_fn [".0", "turn"] rfl (by decide +kernel) ⟨by keq_hits, by keq_hits, trivial⟩) (fun _ => by with_unfolding_all rfl) (by with_unfolding_all rfl) ?_ (by k_upd)
  kas_types
  refine ⟨_, rfl, by omega, by omega, trivial, fun C cl => ?_⟩
  rw [Int.toNat_natCast]
  refine comp_inv1 (fun xs acc σ₁ => ∃ (k m : Nat) (parts : List Part), xs = rangeV k 1 m ∧ k + m = many ∧ parts.length = k ∧ (∀ p ∈ parts, p.Ok many) ∧ acc = parts.map (fun p => encPart p) ∧ σ₁ = upd σ kc (.list [.lst (s.map .int), .int ((2 + 9 * k : Nat) : Int)])) (by k_upd) (by keq_hits) (fun QE x r acc σ₁ hJ hE => ?_) (fun acc σ₁ hJ => ?_) ⟨0, many, [], rfl, by omega, rfl, by simp, rfl, rfl⟩
  · obtain ⟨k, m, parts, hx, hkm, hpl, hpo, rfl, rfl⟩ := hJ
    cases m with
    | zero => cases hx
    | succ m =>
      rw [rangeV] at hx
      injection hx with hx1 hx2
      subst hx1
      refine ⟨le_line (by simp; omega), ?_⟩
      refine ok_listcomp (cscope_comp [".0", "below"] rfl (by decide +kernel) ⟨by keq_hits, by keq_hits, trivial⟩) (fun _ => by with_unfolding_all rfl) ?_
      refine okit_val ?_
      kas_types
      refine ⟨_, .inl rfl, trivial, fun C' cl' => ?_⟩
      rw [show ([.int 2, .int 2, .int 4, .int 6, .int many, .int many, .int 2, .int 2, .int 4] : List V) = ([2, 2, 4, 6, many, many, 2, 2, 4] : List Nat).map (fun n : Nat => V.int n) from rfl]
      have hpos : ∀ x ∈ ([2, 2, 4, 6, many, many, 2, 2, 4] : List Nat), 0 < x := by simp; omega
      have hbl : ([2, 2, 4, 6, many, many, 2, 2, 4] : List Nat).length = 9 := rfl
      have fin : ∀ ns : List Nat, ns.length = 9 → (∀ p ∈ ns.zip [2, 2, 4, 6, many, many, 2, 2, 4], p.1 < p.2) → ∃ p : Part, p.Ok many ∧ encPart p = .lst (ns.map fun n : Nat => V.int n) := by
        intro ns hl hz
        match ns, hl with
        | [a0, a1, a2, a3, a4, a5, a6, a7, a8], _ =>
          simp only [List.zip_cons_cons, List.zip_nil_right, List.mem_cons, List.not_mem_nil, or_false, forall_eq_or_imp, forall_eq] at hz
          obtain ⟨z0, z1, z2, z3, z4, z5, z6, z7, z8⟩ := hz
          exact ⟨⟨a0, a1, a2, a3, a4, a5, a6, a7, a8⟩, ⟨z0, z1, z2, z3, z4, z5, z6, z7, z8⟩, rfl⟩
      generalize ([2, 2, 4, 6, many, many, 2, 2, 4] : List Nat) = bs at *
      refine comp_inv1 (fun xs acc σ₁ => ∃ (ns done rest : List Nat), xs = rest.map (fun n : Nat => V.int n) ∧ bs = done ++ rest ∧ ns.length = done.length ∧ (∀ p ∈ ns.zip done, p.1 < p.2) ∧ acc = ns.map (fun n : Nat => V.int n) ∧ σ₁ = upd σ kc (.list [.lst (s.map .int), .int ((2 + 9 * k + ns.length : Nat) : Int)])) (by k_upd) (by keq_hits) (fun QE' x r' acc σ₁ hJ hE' => ?_) (fun acc σ₁ hJ => ?_) ⟨[], [], bs, rfl, rfl, rfl, by simp, rfl, rfl⟩
      · obtain ⟨ns, done, rest, hx, hbs, hnl, hz, rfl, rfl⟩ := hJ
        cases rest with
        | nil => cases hx
        | cons b rest =>
          rw [List.map_cons] at hx
          injection hx with hx1 hx2
          subst hx1
          have hb : 0 < b := hpos b (by rw [hbs]; simp)
          have hll : done.length + rest.length + 1 = 9 := by rw [← hbl, hbs]; simp; omega
          refine ⟨le_line (by simp; omega), ?_⟩
          with_reducible refine okg_call (‹LawLib _ _›).pull.ns (‹LawLib _ _›).pull.keep (by k_updF) (by decide +kernel) (fun _ => by with_unfolding_all rfl) ?_
          kas_types
          refine (t_pullN LB WL (many := b) (upd_self ..) hs40 (by omega) hb fun n hn => ?_).f (by decide)
          rw [upd_upd]
          refine hE' _ _ trivial ⟨ns ++ [n], done ++ [b], rest, hx2, by rw [hbs]; simp, by simp [hnl], ?_, by simp, ?_⟩
          · intro p hp
            rw [List.zip_append hnl] at hp
            rcases List.mem_append.mp hp with hp | hp
            · exact hz p hp
            · simp at hp
              subst hp
              exact hn
          · simp [Nat.add_assoc]
      · obtain ⟨ns, done, rest, hx, hbs, hnl, hz, rfl, rfl⟩ := hJ
        cases rest with
        | cons b rest => cases hx
        | nil =>
          rw [List.append_nil] at hbs
          subst hbs
          obtain ⟨p, hp, hpe⟩ := fin ns (by omega) hz
          rw [← hpe]
          refine hE _ _ trivial ⟨k + 1, m, parts ++ [p], hx2, by omega, by simp [hpl], ?_, by simp, ?_⟩
          · intro q hq
            rcases List.mem_append.mp hq with hq | hq
            · exact hpo q hq
            · rw [List.mem_singleton.mp hq]; exact hp
          · rw [hnl, hbl]
            rfl
  · obtain ⟨k, m, parts, hx, hkm, hpl, hpo, rfl, rfl⟩ := hJ
    cases m with
    | succ m => cases hx
    | zero =>
      obtain rfl : k = many := by omega
      subst hpl
      have hP : AllOk parts := hpo
      have dom1 : Sub2 σ (upd σ kc (.list [.lst (s.map .int), .int ((2 + 9 * parts.length : Nat) : Int)])) := fun j x hj => (upd_ne (ne_none hj hkc)).trans hj
      generalize upd σ kc (.list [.lst (s.map .int), .int ((2 + 9 * parts.length : Nat) : Int)]) = σ1 at *
      refine okb_comp (cscope_fn [".0", "at", "part"] rfl (by decide +kernel) ⟨by keq_hits, by keq_hits, by keq_hits, trivial⟩) (fun _ => by with_unfolding_all rfl) (by with_unfolding_all rfl) ?_ (by k_upd)
      refine okit_enum LB.b_enumerate (by k_updF) ?_ (fun _ => by with_unfolding_all rfl)
      kas_types
      refine .inl ⟨_, rfl, trivial, fun C cl => ?_⟩
      refine comp_inv2 (fun xs acc σ₁ => ∃ (n : Nat) (rs : List Part) (done : List (Int × List St)), xs = enumV n (rs.map fun p => encPart p) ∧ n + rs.length = parts.length ∧ (∀ p ∈ rs, p.Ok parts.length) ∧ done ++ plainFrom n rs = plainFrom 0 parts ∧ done.length = n ∧ acc = done.map encP ∧ σ₁ = σ1) (by k_upd) (by k_upd) (by keq_hits) (by keq_hits) (by decide +kernel) (fun QE x r acc σ₁ hJ hE => ?_) (fun acc σ₁ hJ => ?_) ⟨0, parts, [], rfl, by omega, hP, rfl, rfl, rfl, rfl⟩
      · obtain ⟨n, rs, done, hx, hn, hok, hd, hdl, rfl, rfl⟩ := hJ
        cases rs with
        | nil => cases hx
        | cons p rs =>
          rw [List.map_cons, enumV_cons] at hx
          injection hx with hx1 hx2
          subst hx1
          simp only [List.length_cons] at hn
          have hp := hok p (.head _)
          refine ⟨le_line (by simp; omega), _, _, rfl, ?_⟩
          kas_types
          refine run_mul (.of_left (by decide)) ?_
          kas_types
          with_reducible refine okg_call (‹LawLib _ _›).body.ns (‹LawLib _ _›).body.keep (by k_updF) (by decide +kernel) (fun _ => by with_unfolding_all rfl) ?_
          kas_types
          refine (t_body LB WL (line := n + 1) hp (by omega) ?_).f (by decide)
          kas_types
          with_reducible refine okg_call (‹LawLib _ _›).jump.ns (‹LawLib _ _›).jump.keep (by k_updF) (by decide +kernel) (fun _ => by with_unfolding_all rfl) ?_
          kas_types
          refine (t_jump LB WL hp ?_).f (by decide)
          refine run_addl (.inl rfl) (.inl rfl) (le_line (by rw [encSs_len, encSs_len]; exact body_jump_len)) ?_
          rw [← encSs_append]
          kas_types
          refine hE _ _ trivial ⟨n + 1, rs, done ++ [(lineN n, bodyS p (n + 1) ++ jumpS p)], hx2, by omega, fun q hq => hok q (.tail _ hq), by rw [← hd]; simp [plainFrom], by simp [hdl], ?_, rfl⟩
          rw [List.map_append]
          rfl
      · obtain ⟨n, rs, done, hx, hn, hok, hd, hdl, rfl, rfl⟩ := hJ
        cases rs with
        | cons p rs => cases hx
        | nil =>
          simp only [plainFrom, List.append_nil] at hd
          subst hd
          obtain ⟨sh1, sh2, mp, ml, g1, g2, so1, so2, gE, gM⟩ := hL parts called hP hm1 hm2
          with_reducible refine okb_let ?_ (by k_upd) (by with_unfolding_all rfl) (by with_unfolding_all rfl)
          with_reducible refine okg_call (‹Lib _ _›).FlowRun.ns (‹Lib _ _›).FlowRun.keep (by k_updF) (by decide +kernel) (fun _ => by with_unfolding_all rfl) ?_
          with_reducible refine okl_cons ?_ (fun _ => by with_unfolding_all rfl)
          with_reducible refine okg_call (‹Lib _ _›).flatten.ns (‹Lib _ _›).flatten.keep (by k_updF) (by decide +kernel) (fun _ => by with_unfolding_all rfl) ?_
          kas_types
          refine (t_flatten LB (D := 3) sh1.few sh1.ne sh1.dep sh1.len fun kf kr kl kp σ2 F1 => ?_).f (by decide)
          with_reducible refine okl_cons ?_ (fun _ => by with_unfolding_all rfl)
          refine ok_dictS fun kv hkv => ?_
          with_reducible refine okl_cons ?_ (fun _ => by with_unfolding_all rfl)
          refine okgv WL.worth.ns (.raw _) (by k_updF) (by decide +kernel) ?_
          kas_types
          refine callf_run LB (by decide) F1 hkv (by have := sh1.len; show (flatP 0 _).length ≤ 1000; omega) fun o1 q1 σ3 R1 fr1 dom3 => ?_
          with_reducible refine okb_let ?_ (by k_upd) (by with_unfolding_all rfl) (by with_unfolding_all rfl)
          with_reducible refine okg_call (‹Lib _ _›).FlowRun.ns (‹Lib _ _›).FlowRun.keep (by k_updF) (by decide +kernel) (fun _ => by with_unfolding_all rfl) ?_
          with_reducible refine okl_cons ?_ (fun _ => by with_unfolding_all rfl)
          with_reducible refine okg_call (‹Lib _ _›).flatten.ns (‹Lib _ _›).flatten.keep (by k_updF) (by decide +kernel) (fun _ => by with_unfolding_all rfl) ?_
          with_reducible refine okl_cons ?_ (fun _ => by with_unfolding_all rfl)
          with_reducible refine okg_call (‹LawLib _ _›).looped.ns (‹LawLib _ _›).looped.keep (by k_updF) (by decide +kernel) (fun _ => by with_unfolding_all rfl) ?_
          kas_types
          refine (t_looped LB WL hP (by omega) fun σ4 dom4 => ?_).f (by decide)
          kas_types
          refine (t_flatten LB (D := 3) sh2.few sh2.ne sh2.dep sh2.len fun kf' kr' kl' kp' σ5 F2 => ?_).f (by decide)
          with_reducible refine okl_cons ?_ (fun _ => by with_unfolding_all rfl)
          refine ok_dictS fun kv' hkv' => ?_
          with_reducible refine okl_cons ?_ (fun _ => by with_unfolding_all rfl)
          refine okgv WL.worth.ns (.raw _) (by k_updF) (by decide +kernel) ?_
          kas_types
          refine callf_run LB (by decide) F2 hkv' (by have := sh2.len; show (flatP 0 _).length ≤ 1000; omega) fun o2 q2 σ6 R2 fr2 dom6 => ?_
          have R1' := R1.mv (σ' := σ6) (fun j _ x hj => dom6 j x (dom4 j x hj))
          have apart : ∀ j ∈ objsL o1 q1, j ∉ objsL o2 q2 := fun j hj hj2 => by
            obtain ⟨x, hx⟩ := R1.some_ j hj
            have := fr2 j hj2
            rw [dom4 j x hx] at this
            cases this
          refine okb_swap2 "end" "other" ?_ (by with_unfolding_all rfl) (by with_unfolding_all rfl) (by k_upd) (by k_upd)
          refine ok_tuple ?_
          with_reducible refine okl_cons ?_ (fun _ => by with_unfolding_all rfl)
          obtain ⟨e1, e2, e3, e4, e5⟩ := R1'.m_ LB
          with_reducible refine ok_meth ?_ (by with_unfolding_all rfl) (by with_unfolding_all rfl) (by with_unfolding_all rfl) (by with_unfolding_all rfl)
          kas_types
          refine ⟨_, e5, LB.FlowRun_go.keep, ?_⟩
          kas_types
          refine (t_go LB (t_lawworth LB WL) (most := 40) (m := m0) (fun x hx => (sh1.wf x hx).1) R1' g1 (by decide) (by decide) (fun k m₁ hk => by have := goN_pile k hk (by decide); omega) fun σ7 q1' R1'' K1 => ?_).f (by decide)
          unfold goQ
          have sm : ∀ j ∈ objsL o2 q2, ∀ x, σ6 j = some x → σ7 j = some x := fun j hj x hx => K1.same j x hx (fun e => apart o1.kVals (by simp [objsL]) (e ▸ hj)) (fun e => apart o1.kCtl (by simp [objsL]) (e ▸ hj)) (fun e => apart o1.kNotes (by simp [objsL]) (e ▸ hj)) (fun e => apart q1 (by simp [objsL]) (e ▸ hj))
          have R2' := R2.mv sm
          with_reducible refine okl_cons ?_ (fun _ => by with_unfolding_all rfl)
          obtain ⟨e1', e2', e3', e4', e5'⟩ := R2'.m_ LB
          with_reducible refine ok_meth ?_ (by with_unfolding_all rfl) (by with_unfolding_all rfl) (by with_unfolding_all rfl) (by with_unfolding_all rfl)
          kas_types
          refine ⟨_, e5', LB.FlowRun_go.keep, ?_⟩
          kas_types
          refine (t_go LB (t_lawworth LB WL) (most := 200) (m := m0) (fun x hx => (sh2.wf x hx).1) R2' g2 (by decide) (by decide) (fun k m₁ hk => by have := goN_pile k hk (by decide); omega) fun σ8 q2' R2'' K2 => ?_).f (by decide)
          unfold goQ
          have sm2 : ∀ j ∈ objsL o1 q1, ∀ x, σ7 j = some x → σ8 j = some x := fun j hj x hx => K2.same j x hx (fun e => apart j hj (by rw [e]; simp [objsL])) (fun e => apart j hj (by rw [e]; simp [objsL])) (fun e => apart j hj (by rw [e]; simp [objsL])) (fun e => apart j hj (by rw [e]; simp [objsL]))
          obtain ⟨i1, i2, i3, i4, i5, i6, i7, i8⟩ := R1''.f_ LB
          obtain ⟨j1, j2, j3, j4, j5, j6, j7, j8⟩ := R2''.f_ LB
          have p2 := i2.mv (sm2 _ (by simp [objsL]))
          have p6 := i6.mv (sm2 _ (by simp [objsL]))
          have pv := sm2 _ (by simp [objsL]) _ R1''.vals
          have pn := sm2 _ (by simp [objsL]) _ R1''.notes
          have lv := R2''.vals
          have ln := R2''.notes
          have hn1 := goN_notes _ g1
          have hn2 := goN_notes _ g2
          clear i1 i2 i3 i4 i5 i6 i7 i8 R1'' R1' R1 R2 R2' K1 K2 sm sm2 apart e1 e2 e3 e4 e5 e1' e2' e3' e4' e5'
          kas_types
          by_cases q : (mkPrg (plainFrom 0 parts)).rows.length ≤ mp.pc
          · rw [if_pos q, decide_eq_false (by omega)]
            obtain ⟨w1, w2, w3, w4⟩ := gE q
            kas_types
            rw [if_pos w1, decide_eq_false (by omega)]
            kas_types
            refine cell_nec pn ln (plains_notes _ so1) (plains_notes _ so2) ⟨fun _ => ?_, fun e => absurd (by rw [w2]) e⟩
            kas_types
            refine callf_len (.inr (.inr ⟨_, rfl, pn⟩)) (le_line (by simp [m0] at hn1 ⊢; omega)) ?_
            kas_types
            refine item_dictS plainI lv (y := .int mp.notes.length) (by show Option.map V.int (ml.vals "R") = _; rw [w3]; rfl) ?_
            kas_types
            rw [List.length_map, decide_eq_true rfl, Bool.not_true]
            kas_types
            refine ok_cut (.lst ((["A", "B", "L", "X"] : List Str).map fun x : Str => ((mp.vals x).map V.int).getD .none)) (fun Q' hQ => ?_) ?_
            · refine ok_listcomp (cscope_fn [".0", "name"] rfl (by decide +kernel) ⟨by keq_hits, by keq_hits, trivial⟩) (fun _ => by with_unfolding_all rfl) ?_
              refine okit_str ?_
              kas_types
              refine ⟨_, rfl, by decide +kernel, trivial, fun C cl => ?_⟩
              rw [sign_ABLX]
              refine comp_inv1 (fun xs acc σ₁ => ∃ (dn rs : List Str), dn ++ rs = (["A", "B", "L", "X"] : List Str) ∧ xs = rs.map .str ∧ acc = dn.map (fun x : Str => ((mp.vals x).map V.int).getD .none) ∧ σ₁ = σ8) (by k_upd) (by keq_hits) (fun QE x r acc σ₁ hJ hE => ?_) (fun acc σ₁ hJ => ?_) ⟨[], (["A", "B", "L", "X"] : List Str), rfl, rfl, rfl, rfl⟩
              · obtain ⟨dn, rs, he, hx, rfl, rfl⟩ := hJ
                cases rs with
                | nil => cases hx
                | cons y rs =>
                  injection hx with hx1 hx2
                  subst hx1
                  refine ⟨le_line (gets_len he), ?_⟩
                  with_reducible refine ok_meth ?_ (by with_unfolding_all rfl) (by with_unfolding_all rfl) (by with_unfolding_all rfl) (by with_unfolding_all rfl)
                  kas_types
                  refine ⟨_, meth_get pv, rfl, ?_⟩
                  kas_types
                  refine callf_get1 LB.low pv ?_
                  exact hE _ _ trivial ⟨dn ++ [y], rs, (List.append_assoc dn [y] rs).trans he, hx2, (by rw [List.map_append]; rfl), rfl⟩
              · obtain ⟨dn, rs, he, hx, rfl, rfl⟩ := hJ
                cases rs with
                | nil => rw [List.append_nil] at he; subst he; exact hQ
                | cons y rs => cases hx
            refine ok_cut (.lst ((["A", "B", "L", "X"] : List Str).map fun x : Str => ((ml.vals x).map V.int).getD .none)) (fun Q' hQ => ?_) ?_
            · refine ok_listcomp (cscope_fn [".0", "name"] rfl (by decide +kernel) ⟨by keq_hits, by keq_hits, trivial⟩) (fun _ => by with_unfolding_all rfl) ?_
              refine okit_str ?_
              kas_types
              refine ⟨_, rfl, by decide +kernel, trivial, fun C cl => ?_⟩
              rw [sign_ABLX]
              refine comp_inv1 (fun xs acc σ₁ => ∃ (dn rs : List Str), dn ++ rs = (["A", "B", "L", "X"] : List Str) ∧ xs = rs.map .str ∧ acc = dn.map (fun x : Str => ((ml.vals x).map V.int).getD .none) ∧ σ₁ = σ8) (by k_upd) (by keq_hits) (fun QE x r acc σ₁ hJ hE => ?_) (fun acc σ₁ hJ => ?_) ⟨[], (["A", "B", "L", "X"] : List Str), rfl, rfl, rfl, rfl⟩
              · obtain ⟨dn, rs, he, hx, rfl, rfl⟩ := hJ
                cases rs with
                | nil => cases hx
                | cons y rs =>
                  injection hx with hx1 hx2
                  subst hx1
                  refine ⟨le_line (gets_len he), ?_⟩
                  with_reducible refine ok_meth ?_ (by with_unfolding_all rfl) (by with_unfolding_all rfl) (by with_unfolding_all rfl) (by with_unfolding_all rfl)
                  kas_types
                  refine ⟨_, meth_get lv, rfl, ?_⟩
                  kas_types
                  refine callf_get1 LB.low lv ?_
                  exact hE _ _ trivial ⟨dn ++ [y], rs, (List.append_assoc dn [y] rs).trans he, hx2, (by rw [List.map_append]; rfl), rfl⟩
              · obtain ⟨dn, rs, he, hx, rfl, rfl⟩ := hJ
                cases rs with
                | nil => rw [List.append_nil] at he; subst he; exact hQ
                | cons y rs => cases hx
            have pp : ∀ o : Option Int, V.plain 7 ((o.map V.int).getD .none) = true := fun o => by cases o <;> rfl
            refine run_eqv_t ?_ ?_ ?_ ?_
            · exact gets_plain fun x => pp _
            · exact gets_plain fun x => pp _
            · exact congrArg V.lst (List.map_congr_left fun x hx => by rw [w4 x hx])
            kas_types
            exact h _
          · rw [if_neg q, decide_eq_true (by decide)]
            obtain ⟨w1, w2, w3⟩ := gM (by omega)
            kas_types
            refine callf_len (.inr (.inr ⟨_, rfl, pn⟩)) (le_line (by simp [m0] at hn1 ⊢; omega)) ?_
            kas_types
            refine callf_len (.inr (.inr ⟨_, rfl, ln⟩)) (le_line (by simp [m0] at hn2 ⊢; omega)) ?_
            kas_types
            refine callf_min2 ?_
            rw [List.length_map, List.length_map]
            have hc : (if (ml.notes.length : Int) < mp.notes.length then (ml.notes.length : Int) else mp.notes.length) = ((min mp.notes.length ml.notes.length : Nat) : Int) := by split <;> omega
            rw [hc]
            have hcp : 0 < min mp.notes.length ml.notes.length := by omega
            have hce := w3 (min mp.notes.length ml.notes.length) (by omega) (by omega)
            generalize min mp.notes.length ml.notes.length = common at *
            kas_types
            refine ok_and ?_
            refine ok_compare ?_ (by with_unfolding_all rfl)
            kas_types
            rw [decide_eq_true (by omega)]
            refine t_true ?_
            refine ok_compare ?_ (by with_unfolding_all rfl)
            refine ok_slice ?_ plainI
            kas_types
            show Ok c 11 _ _ _ _ _
            kas_types
            refine ⟨_, _, .inr ⟨_, rfl, pn⟩, le_line (by simp [m0] at hn1 ⊢; omega), .upto _ _ (by omega), ?_⟩
            refine ok_slice ?_ plainI
            kas_types
            show Ok c 11 _ _ _ _ _
            kas_types
            refine ⟨_, _, .inr ⟨_, rfl, ln⟩, le_line (by simp [m0] at hn2 ⊢; omega), .upto _ _ (by omega), ?_⟩
            rw [Int.toNat_natCast, ← List.map_take, ← List.map_take]
            refine run_eqv_t ?_ ?_ ?_ ?_
            · rw [V.plain]; exact plains_notes _ fun p hp => so1 p (List.mem_of_mem_take hp)
            · rw [V.plain]; exact plains_notes _ fun p hp => so2 p (List.mem_of_mem_take hp)
            · rw [hce]
            kas_types
            exact h _
end

end

-- N6

theorem rm_ok {n : Nat} (h : n < 10) : PyData.strOk (rm n) = true := by
  have : ∀ n, n < 10 → PyData.strOk (rm n) = true := by decide +kernel
  exact this n h
theorem nm_mem (n : Nat) : names9.contains (nm n) = true := by
  rcases nm_cases n with h | h <;> rw [h] <;> decide +kernel

theorem body_facts {p : Part} {l : Nat} (hl : l < 10) : quSs false (bodyS p l) = true ∧ quSs true (bodyS p l) = true ∧ depSs (bodyS p l) = 0 ∧ szSs (bodyS p l) = 4 := by
  have hL : names9.contains ("L" : Str) = true := by decide +kernel
  have hX : names9.contains ("X" : Str) = true := by decide +kernel
  refine ⟨?_, ?_, rfl, rfl⟩ <;> simp only [bodyS, quSs, quS, nm_mem, rm_ok hl, hL, hX, Bool.and_self]
theorem jump_facts {p : Part} : quSs true (jumpS p) = true ∧ depSs (jumpS p) ≤ 1 ∧ szSs (jumpS p) ≤ 4 := by
  unfold jumpS
  repeat' split
  all_goals exact ⟨rfl, Nat.le_of_ble_eq_true rfl, Nat.le_of_ble_eq_true rfl⟩
theorem led_facts {p : Part} {b : Nat} : quSs false (ledS p b) = true ∧ quSs true (ledS p b) = true ∧ depSs (ledS p b) ≤ 2 ∧ szSs (ledS p b) ≤ 8 := by
  have hP : names9.contains ("P" : Str) = true := by decide +kernel
  unfold ledS putP
  repeat' split
  all_goals exact ⟨by simp only [quSs, quS, hP, Bool.and_self], by simp only [quSs, quS, hP, Bool.and_self], Nat.le_of_ble_eq_true rfl, Nat.le_of_ble_eq_true rfl⟩

theorem plainFrom_mem {x : Int × List St} : ∀ (a : List Part) (n : Nat), x ∈ plainFrom n a → ∃ p i, p ∈ a ∧ i < n + a.length ∧ x.2 = bodyS p (i + 1) ++ jumpS p
  | [], n, h => by simp [plainFrom] at h
  | p :: a, n, h => by
    rcases List.mem_cons.mp h with e | h
    · subst e; exact ⟨p, n, .head _, by simp, rfl⟩
    · obtain ⟨q, i, h1, h2, h3⟩ := plainFrom_mem a (n + 1) h
      exact ⟨q, i, .tail _ h1, by simp only [List.length_cons]; omega, h3⟩
theorem ifsFrom_mem {len : Nat} {x : Int × List St} : ∀ (a : List Part) (n : Nat), x ∈ ifsFrom len n a → ∃ p i, p ∈ a ∧ i < n + a.length ∧ x.2 = [.if_ ("is", "Q", (i : Int) + 1) (bodyS p (i + 1) ++ ledS p (behindOf i len)) []]
  | [], n, h => by simp [ifsFrom] at h
  | p :: a, n, h => by
    rcases List.mem_cons.mp h with e | h
    · subst e; exact ⟨p, n, .head _, by simp, rfl⟩
    · obtain ⟨q, i, h1, h2, h3⟩ := ifsFrom_mem a (n + 1) h
      exact ⟨q, i, .tail _ h1, by simp only [List.length_cons]; omega, h3⟩
theorem subsFrom_mem {len : Nat} {x : Int × List St} : ∀ (a : List Part) (n : Nat), x ∈ subsFrom len n a → ∃ p i, p ∈ a ∧ i < n + a.length ∧ x.2 = bodyS p (i + 1) ++ ledS p (behindOf i len) ++ [.ret]
  | [], n, h => by simp [subsFrom] at h
  | p :: a, n, h => by
    rcases List.mem_cons.mp h with e | h
    · subst e; exact ⟨p, n, .head _, by simp, rfl⟩
    · obtain ⟨q, i, h1, h2, h3⟩ := subsFrom_mem a (n + 1) h
      exact ⟨q, i, .tail _ h1, by simp only [List.length_cons]; omega, h3⟩
theorem plainFrom_len : ∀ (a : List Part) (n : Nat), (plainFrom n a).length = a.length
  | [], n => rfl
  | p :: a, n => by simp [plainFrom, plainFrom_len a]
theorem ifsFrom_len {len : Nat} : ∀ (a : List Part) (n : Nat), (ifsFrom len n a).length = a.length
  | [], n => rfl
  | p :: a, n => by simp [ifsFrom, ifsFrom_len a]
theorem subsFrom_len {len : Nat} : ∀ (a : List Part) (n : Nat), (subsFrom len n a).length = a.length
  | [], n => rfl
  | p :: a, n => by simp [subsFrom, subsFrom_len a]

theorem shape_of {ps : List (Int × List St)} (h1 : ps.length ≤ 20) (h2 : ∀ p ∈ ps, p.2 ≠ [] ∧ depSs p.2 ≤ 3 ∧ szSs p.2 ≤ 20 ∧ quSs true p.2 = true) : Shape ps := by
  refine ⟨by omega, fun p hp => (h2 p hp).1, fun p hp => (h2 p hp).2.1, ?_, fun x hx => (quP_ok (b := true) ps 0 (fun p hp => (h2 p hp).2.2.2) x hx).2⟩
  have := szP_ok (k := 20) ps 0 fun p hp => (h2 p hp).2.2.1
  omega

theorem shape_plain {parts : List Part} (hl : parts.length ≤ 4) : Shape (plainFrom 0 parts) := by
  refine shape_of (by rw [plainFrom_len]; omega) fun x hx => ?_
  obtain ⟨p, i, hp, hi, e⟩ := plainFrom_mem _ _ hx
  obtain ⟨b1, b2, b3, b4⟩ := body_facts (p := p) (l := i + 1) (by omega)
  obtain ⟨j1, j2, j3⟩ := jump_facts (p := p)
  rw [e]
  refine ⟨by simp [bodyS], ?_, ?_, ?_⟩
  · rw [depSs_append, b3]; omega
  · rw [szSs_append, b4]; omega
  · rw [quSs_append, b2, j1]; rfl

theorem shape_looped {parts : List Part} {called : Bool} (hl : parts.length ≤ 4) : Shape (loopedPs called parts) := by
  have hP : names9.contains ("P" : Str) = true := by decide +kernel
  have hQ : names9.contains ("Q" : Str) = true := by decide +kernel
  have hR : names9.contains ("R" : Str) = true := by decide +kernel
  cases called with
  | false =>
    refine shape_of (by simp [loopedPs, headL, ifsFrom_len]; omega) fun x hx => ?_
    simp only [loopedPs, headL, Bool.false_eq_true, if_false, List.cons_append, List.nil_append, List.append_nil, List.mem_cons, List.mem_append, List.not_mem_nil, or_false] at hx
    rcases hx with rfl | rfl | rfl | hx | rfl
    · exact ⟨by simp, by decide, by decide, by simp only [putP, quSs, quS, hP, Bool.and_self]⟩
    · exact ⟨by simp, by decide, by decide, by simp only [quSs, quS, hR, Bool.and_self]⟩
    · exact ⟨by simp, by decide, by decide, by simp only [quSs, quS, hQ, Bool.and_self]⟩
    · obtain ⟨p, i, hp, hi, e⟩ := ifsFrom_mem _ _ hx
      obtain ⟨b1, b2, b3, b4⟩ := body_facts (p := p) (l := i + 1) (by omega)
      obtain ⟨j0, j1, j2, j3⟩ := led_facts (p := p) (b := behindOf i parts.length)
      rw [e]
      refine ⟨by simp, ?_, ?_, ?_⟩
      · simp only [depSs, depS, depSs_append, b3]; omega
      · simp only [szSs, szS, szSs_append, b4]; omega
      · simp only [quSs, quS, quSs_append, b2, j1, Bool.and_self]
    · exact ⟨by simp, by decide, by decide, rfl⟩
  | true =>
    refine shape_of (by simp [loopedPs, headL, subsFrom_len]; omega) fun x hx => ?_
    simp only [loopedPs, headL, if_true, List.cons_append, List.nil_append, List.append_nil, List.mem_cons, List.mem_append, List.not_mem_nil, or_false] at hx
    rcases hx with rfl | rfl | rfl | rfl | rfl | hx
    · exact ⟨by simp, by decide, by decide, by simp only [putP, quSs, quS, hP, Bool.and_self]⟩
    · exact ⟨by simp, by decide, by decide, by simp only [quSs, quS, hR, Bool.and_self]⟩
    · exact ⟨by simp, by simp [depSs, depS], by simp [szSs, szS], by simp [quSs, quS]; omega⟩
    · exact ⟨by simp, by decide, by decide, rfl⟩
    · exact ⟨by simp, by decide, by decide, rfl⟩
    · obtain ⟨p, i, hp, hi, e⟩ := subsFrom_mem _ _ hx
      obtain ⟨b1, b2, b3, b4⟩ := body_facts (p := p) (l := i + 1) (by omega)
      obtain ⟨j0, j1, j2, j3⟩ := led_facts (p := p) (b := behindOf i parts.length)
      rw [e]
      refine ⟨by simp, ?_, ?_, ?_⟩
      · simp only [depSs, depS, depSs_append, b3]; omega
      · simp only [szSs, szS, szSs_append, b4]; omega
      · simp only [quSs, quS, quSs_append, b2, j1, Bool.and_self]

-- N7

theorem nQ : (Str.ofString "Q") ≠ "A" ∧ (Str.ofString "Q") ≠ "B" ∧ (Str.ofString "Q") ≠ "L" ∧ (Str.ofString "Q") ≠ "X" := by decide +kernel
theorem nP : (Str.ofString "P") ≠ "A" ∧ (Str.ofString "P") ≠ "B" ∧ (Str.ofString "P") ≠ "L" ∧ (Str.ofString "P") ≠ "X" := by decide +kernel
theorem nR : (Str.ofString "R") ≠ "A" ∧ (Str.ofString "R") ≠ "B" ∧ (Str.ofString "R") ≠ "L" ∧ (Str.ofString "R") ≠ "X" := by decide +kernel
theorem nPQ : (Str.ofString "P") ≠ "Q" := by decide +kernel
theorem nRQ : (Str.ofString "R") ≠ "Q" := by decide +kernel
theorem nRP : (Str.ofString "R") ≠ "P" := by decide +kernel

/-- a line's own statements, then those that tell P -/
theorem done_ev {p : Part} {i len : Nat} {v : Vals} {n : Nts} (hp : p.Ok len) : ∃ t, t ≤ 8 ∧ evSs w1 (doneS p i len) v n =
    some (t, setV (bodyV p v) "P" ((Pv (nxt p i len (bodyV p v)) len : Nat) : Int), n ++ [(rm (i + 1), (bodyV p v "X").getD 0)], .fall) := by
  obtain ⟨t, h1, h2⟩ := led_ev (i := i) (v := bodyV p v) (n := n ++ [(rm (i + 1), (bodyV p v "X").getD 0)]) hp
  refine ⟨4 + t, by omega, ?_⟩
  rw [doneS, body_ev, h1]
  rfl

/-- what a round does from its third row on: the line that P tells, once -/
structure LoopP (P : Prg) (parts : List Part) : Prop where
  r0 : P.rows[0]? = some (10, .st (putP 1))
  r1 : P.rows[1]? = some (20, .st (.whil ("more", "P", 0)))
  r2 : P.rows[2]? = some (20, .st (.let_ "R" ("next", "R", 1)))
  round : ∃ e, P.pairs 1 = some e ∧ P.pairs e = some 1 ∧ (∃ l, P.rows[e]? = some (l, .st .wend)) ∧
    (∀ (i : Nat) (p : Part) (u : Vals) (n : Nts), parts[i]? = some p → u "P" = some ((i + 1 : Nat) : Int) → ∃ t u', t ≤ 13 ∧ Runs w1 P t ⟨3, u, [.whil 1], n⟩ ⟨e, u', [.whil 1], n ++ [(rm (i + 1), (bodyV p u "X").getD 0)]⟩ ∧
      Agree (bodyV p u) u' ∧ u' "P" = some ((Pv (nxt p i parts.length (bodyV p u)) parts.length : Nat) : Int) ∧ u' "R" = u "R") ∧
    (∀ (u : Vals) (n : Nts), ∃ t, t ≤ 1 ∧ Runs w1 P t ⟨e + 1, u, [], n⟩ ⟨P.rows.length, u, [], n⟩)

structure LM (parts : List Part) (s : Vs) (u : Vals) (pile : List Ent) : Prop where
  ag : Agree s.v u
  p : u "P" = some ((Pv s.i parts.length : Nat) : Int)
  r : u "R" = if s.n = [] then none else some (s.n.length : Int)
  pile : pile = [.whil 1] ∨ (pile = [] ∧ s.i < parts.length)

theorem loop_round {P : Prg} {parts : List Part} (hL : LoopP P parts) (hP : AllOk parts) {s : Vs} {u : Vals} {pile : List Ent} (hs : VOk parts s) (hm : LM parts s u pile) (hi : s.i < parts.length) :
    ∃ t u', t ≤ 16 ∧ Runs w1 P t ⟨1, u, pile, s.n⟩ ⟨1, u', [.whil 1], (visit parts s).n⟩ ∧ LM parts (visit parts s) u' [.whil 1] := by
  obtain ⟨r0, r1, r2, e, pe1, pe2, ⟨l, re⟩, hround, hfin⟩ := hL
  obtain ⟨ag, hp, hr, hpile⟩ := hm
  have h : parts[s.i]? = some parts[s.i] := List.getElem?_eq_some_iff.mpr ⟨hi, rfl⟩
  generalize parts[s.i] = p at h
  have e1 : Pv s.i parts.length = s.i + 1 := if_pos hi
  rw [e1] at hp
  have w : w1 ("more", "P", 0) u ≠ 0 := by
    rw [w1_more, hp]
    simp
  have s1 : Runs w1 P 1 ⟨1, u, pile, s.n⟩ ⟨2, u, [.whil 1], s.n⟩ := by
    refine Runs.one (m := ⟨1, u, pile, s.n⟩) r1 ?_ (List.prefix_refl _)
    rcases hpile with rfl | ⟨rfl, _⟩
    · simp only [step, if_pos w, if_neg (show ¬ ([Ent.whil 1] = []) by simp), if_true]
    · simp only [step, if_pos w, if_true]
  have hr' : (u "R").getD 0 = s.n.length := by
    rw [hr]
    by_cases q : s.n = []
    · rw [if_pos q, q]; rfl
    · rw [if_neg q]; rfl
  have s2 : Runs w1 P 1 ⟨2, u, [.whil 1], s.n⟩ ⟨3, setV u "R" (s.n.length + 1 : Int), [.whil 1], s.n⟩ := by
    refine Runs.one (m := ⟨2, u, [.whil 1], s.n⟩) r2 ?_ (List.prefix_refl _)
    simp only [step, w1_next, hr']
    rfl
  have hp3 : setV u "R" (s.n.length + 1 : Int) "P" = some ((s.i + 1 : Nat) : Int) := by rw [setV_ne (Ne.symm nRP)]; exact hp
  obtain ⟨t, u', t1, s3, a3, p3, r3⟩ := hround s.i p (setV u "R" (s.n.length + 1 : Int)) s.n h hp3
  have ag1 : Agree s.v (setV u "R" (s.n.length + 1 : Int)) := ag.set_r _ _ nR
  have agb := ag1.body (p := p)
  have s4 : Runs w1 P 1 ⟨e, u', [.whil 1], s.n ++ [(rm (s.i + 1), (bodyV p (setV u "R" (s.n.length + 1 : Int)) "X").getD 0)]⟩ ⟨1, u', [.whil 1], s.n ++ [(rm (s.i + 1), (bodyV p (setV u "R" (s.n.length + 1 : Int)) "X").getD 0)]⟩ := by
    refine Runs.one (m := ⟨e, u', [.whil 1], _⟩) re ?_ (List.prefix_refl _)
    simp only [step, pe2, if_true]
  rw [visit_some h, agb.2.2.2]
  refine ⟨1 + 1 + t + 1, u', by omega, ((s1.trans s2).trans s3).trans s4, ⟨?_, ?_, ?_, .inl rfl⟩⟩
  · exact ⟨agb.1.trans a3.1, agb.2.1.trans a3.2.1, agb.2.2.1.trans a3.2.2.1, agb.2.2.2.trans a3.2.2.2⟩
  · rw [p3]
    show some _ = some ((Pv (nxt p s.i parts.length (bodyV p s.v)) parts.length : Nat) : Int)
    rw [nxt_agree agb]
  · rw [r3, setV_hit, if_neg (by simp)]
    simp

theorem loop_exit {P : Prg} {parts : List Part} (hL : LoopP P parts) {s : Vs} {u : Vals} {pile : List Ent} (hm : LM parts s u pile) (hi : s.i = parts.length) :
    ∃ t, t ≤ 2 ∧ Runs w1 P t ⟨1, u, pile, s.n⟩ ⟨P.rows.length, u, [], s.n⟩ := by
  obtain ⟨r0, r1, r2, e, pe1, pe2, ⟨l, re⟩, hround, hfin⟩ := hL
  obtain ⟨ag, hp, hr, hpile⟩ := hm
  have e1 : Pv s.i parts.length = 0 := if_neg (by omega)
  rw [e1] at hp
  have w : ¬ w1 ("more", "P", 0) u ≠ 0 := by
    rw [w1_more, hp]
    simp
  obtain rfl : pile = [.whil 1] := by
    rcases hpile with h | ⟨_, h⟩
    · exact h
    · omega
  have s1 : Runs w1 P 1 ⟨1, u, [.whil 1], s.n⟩ ⟨e + 1, u, [], s.n⟩ := by
    refine Runs.one (m := ⟨1, u, [.whil 1], s.n⟩) r1 ?_ (List.prefix_refl _)
    simp only [step, if_neg w, if_true, pe1]
  obtain ⟨t, t1, s2⟩ := hfin u s.n
  exact ⟨1 + t, by omega, s1.trans s2⟩

theorem looped_run {P : Prg} {parts : List Part} (hL : LoopP P parts) (hP : AllOk parts) : ∀ (N : Nat) (s : Vs) (u : Vals) (pile : List Ent), VOk parts s → LM parts s u pile →
    ∃ ml, goN w1 P N ⟨1, u, pile, s.n⟩ = .ok ml ∧ (∃ K, ml.notes <+: (vis parts K s).n) ∧ s.n <+: ml.notes := by
  intro N
  induction N using Nat.strongRecOn with
  | _ N ih =>
    intro s u pile hs hm
    by_cases hi : s.i < parts.length
    · obtain ⟨t, u', t1, hr, hm'⟩ := loop_round hL hP hs hm hi
      by_cases hN : N < t
      · obtain ⟨mj, h1, h2, h3, h4⟩ := hr.mid N hN
        exact ⟨mj, h1, ⟨1, h4⟩, h3⟩
      · have htp : 0 < t := by
          rcases Nat.eq_zero_or_pos t with rfl | h
          · have := hr.ok
            simp only [goN, Except.ok.injEq, Ms.mk.injEq] at this
            obtain ⟨_, _, _, hn⟩ := this
            have h' : parts[s.i]? = some parts[s.i] := List.getElem?_eq_some_iff.mpr ⟨hi, rfl⟩
            rw [visit_some h'] at hn
            have := congrArg List.length hn
            simp at this
          · exact h
        obtain ⟨ml, h1, ⟨K, h2⟩, h3⟩ := ih (N - t) (by omega) (visit parts s) u' _ (hs.visit hP) hm'
        refine ⟨ml, ?_, ⟨K + 1, h2⟩, visit_pre.trans h3⟩
        rw [← h1, ← hr.go]; congr 1; omega
    · have hi' : s.i = parts.length := by have := hs.i; omega
      obtain ⟨t, t1, hr⟩ := loop_exit hL hm hi'
      by_cases hN : N < t
      · obtain ⟨mj, h1, h2, h3, h4⟩ := hr.mid N hN
        exact ⟨mj, h1, ⟨0, h4⟩, h3⟩
      · refine ⟨⟨P.rows.length, u, [], s.n⟩, ?_, ⟨0, List.prefix_refl _⟩, List.prefix_refl _⟩
        rw [← goN_end (m := ⟨P.rows.length, u, [], s.n⟩) (Nat.le_refl _) (N - t), ← hr.go]; congr 1; omega

theorem looped_end {P : Prg} {parts : List Part} (hL : LoopP P parts) (hP : AllOk parts) : ∀ (K N : Nat) (s : Vs) (u : Vals) (pile : List Ent), VOk parts s → LM parts s u pile → (vis parts K s).i = parts.length → 16 * K + 2 ≤ N →
    ∃ ml pile', goN w1 P N ⟨1, u, pile, s.n⟩ = .ok ml ∧ P.rows.length ≤ ml.pc ∧ ml.notes = (vis parts K s).n ∧ LM parts (vis parts K s) ml.vals pile' := by
  intro K
  induction K with
  | zero =>
    intro N s u pile hs hm hi hN
    obtain ⟨t, t1, hr⟩ := loop_exit hL hm hi
    refine ⟨⟨P.rows.length, u, [], s.n⟩, pile, ?_, Nat.le_refl _, rfl, hm⟩
    rw [← goN_end (m := ⟨P.rows.length, u, [], s.n⟩) (Nat.le_refl _) (N - t), ← hr.go]; congr 1; omega
  | succ K ih =>
    intro N s u pile hs hm hi hN
    by_cases hlt : s.i < parts.length
    · obtain ⟨t, u', t1, hr, hm'⟩ := loop_round hL hP hs hm hlt
      obtain ⟨ml, pile', h1, h2, h3, h4⟩ := ih (N - t) (visit parts s) u' _ (hs.visit hP) hm' hi (by omega)
      refine ⟨ml, pile', ?_, h2, h3, h4⟩
      rw [← h1, ← hr.go]; congr 1; omega
    · have hge : parts.length ≤ s.i := by omega
      have e : vis parts (K + 1) s = vis parts K s := by rw [vis_none hge, vis_none hge]
      rw [e] at hi ⊢
      exact ih N s u pile hs hm hi (by omega)

noncomputable def s0 : Vs := ⟨0, fun _ => none, []⟩

theorem looped_start {P : Prg} {parts : List Part} (hL : LoopP P parts) (h0 : 0 < parts.length) : Runs w1 P 1 m0 ⟨1, setV (fun _ => none) "P" 1, [], []⟩ ∧ LM parts s0 (setV (fun _ => none) "P" 1) [] := by
  refine ⟨Runs.one (m := m0) hL.r0 ?_ (List.prefix_refl _), ⟨Agree.set_r ⟨rfl, rfl, rfl, rfl⟩ _ _ nP, ?_, ?_, .inr ⟨rfl, h0⟩⟩⟩
  · simp only [putP, step, w1_put]
    rfl
  · rw [setV_hit]
    show some _ = some ((Pv 0 parts.length : Nat) : Int)
    rw [show Pv 0 parts.length = 1 from if_pos h0]
    rfl
  · rw [setV_ne nRP]
    rfl

theorem law1_core {P : Prg} {parts : List Part} (hL : LoopP P parts) (hP : AllOk parts) (h2 : 2 ≤ parts.length) :
    ∃ mp ml, goN w1 (plainP parts) 40 m0 = .ok mp ∧ goN w1 P 200 m0 = .ok ml ∧
    ((plainP parts).rows.length ≤ mp.pc → P.rows.length ≤ ml.pc ∧ mp.notes = ml.notes ∧ ml.vals "R" = some (mp.notes.length : Int) ∧ ∀ x ∈ (["A", "B", "L", "X"] : List Str), mp.vals x = ml.vals x) ∧
    (mp.pc < (plainP parts).rows.length → 0 < mp.notes.length ∧ 0 < ml.notes.length ∧ ∀ n, n ≤ mp.notes.length → n ≤ ml.notes.length → mp.notes.take n = ml.notes.take n) := by
  have v0 : VOk parts s0 := ⟨Nat.zero_le _, fun n => by simp [s0]⟩
  have hi0 : s0.i < parts.length := by show 0 < _; omega
  obtain ⟨st, lm⟩ := looped_start hL (by omega)
  -- the plain program
  obtain ⟨t, t1, t2, hr⟩ := plain_visit hP v0 hi0
  have hm0 : plainM parts s0 = m0 := rfl
  obtain ⟨mp, g1, ⟨K1, k1⟩, b1, en1⟩ := plain_run hP 40 s0 v0
  rw [hm0] at g1
  have hone : (visit parts s0).n.length = 1 := by
    have h' : parts[s0.i]? = some parts[s0.i] := List.getElem?_eq_some_iff.mpr ⟨hi0, rfl⟩
    rw [visit_some h']; rfl
  have np : 0 < mp.notes.length := by
    obtain ⟨mp', g1', _, b1', _⟩ := plain_run hP (40 - t) (visit parts s0) (v0.visit hP)
    have : mp' = mp := by
      have : goN w1 (plainP parts) 40 (plainM parts s0) = .ok mp' := by rw [← g1', ← hr.go]; congr 1; omega
      rw [hm0, g1] at this
      injection this with this; exact this.symm
    subst this
    have := b1'.length_le
    omega
  -- the looped one
  obtain ⟨ml, g2, ⟨K2, k2⟩, b2⟩ := looped_run hL hP 199 s0 _ _ v0 lm
  have g2' : goN w1 P 200 m0 = .ok ml := by rw [show (200 : Nat) = 1 + 199 from rfl, st.go]; exact g2
  have nl : 0 < ml.notes.length := by
    obtain ⟨tr, u', q1, q2, q3⟩ := loop_round hL hP v0 lm hi0
    obtain ⟨ml', g3, _, b3⟩ := looped_run hL hP (199 - tr) (visit parts s0) u' _ (v0.visit hP) q3
    have : ml' = ml := by
      have : goN w1 P 199 ⟨1, setV (fun _ => none) "P" 1, [], s0.n⟩ = .ok ml' := by rw [← g3, ← q2.go]; congr 1; omega
      rw [g2] at this
      injection this with this; exact this.symm
    subst this
    have := b3.length_le
    omega
  refine ⟨mp, ml, g1, g2', fun hend => ?_, fun hmore => ⟨np, nl, fun n n1 n2 => ?_⟩⟩
  · obtain ⟨K, kk, ki, kn, kv⟩ := en1 hend
    obtain ⟨ml', pile', g3, e1, e2, e3⟩ := looped_end hL hP K 199 s0 _ _ v0 lm ki (by omega)
    have : ml' = ml := by
      have : goN w1 P 199 ⟨1, setV (fun _ => none) "P" 1, [], s0.n⟩ = .ok ml' := g3
      rw [g2] at this
      injection this with this; exact this.symm
    subst this
    obtain ⟨a1, a2, a3, a4⟩ := e3.ag
    refine ⟨e1, by rw [kn, e2], ?_, ?_⟩
    · rw [e3.r, kn, if_neg]
      intro e
      rw [kn, e] at np
      simp at np
    · rw [kv]
      intro x hx
      simp only [List.mem_cons, List.not_mem_nil, or_false] at hx
      rcases hx with rfl | rfl | rfl | rfl <;> assumption
  · have m1 := k1.trans (vis_mono (parts := parts) (s := s0) (Nat.le_max_left K1 K2))
    have m2 := k2.trans (vis_mono (parts := parts) (s := s0) (Nat.le_max_right K1 K2))
    obtain ⟨z1, hz1⟩ := m1
    obtain ⟨z2, hz2⟩ := m2
    have e1 := congrArg (List.take n) hz1
    have e2 := congrArg (List.take n) hz2
    rw [List.take_append_of_le_length n1] at e1
    rw [List.take_append_of_le_length n2] at e2
    rw [e1, e2]

-- N8

/-- the row of tests: no line is told -/
theorem ifs_skip_ {P : Prg} {len : Nat} : ∀ (rs : List Part) (at_ n : Nat) (u : Vals) (pile : List Ent) (nt : Nts) (q : Nat), At P n (flatP n (ifsFrom len at_ rs)) → u "Q" = some (q : Int) → (q ≤ at_ ∨ at_ + rs.length < q) →
    Runs w1 P rs.length ⟨n, u, pile, nt⟩ ⟨n + (flatP n (ifsFrom len at_ rs)).length, u, pile, nt⟩
  | [], at_, n, u, pile, nt, q, ha, hq, hr => Runs.refl
  | p :: rs, at_, n, u, pile, nt, q, ha, hq, hr => by
    simp only [ifsFrom, flatP] at ha ⊢
    simp only [List.length_cons] at hr ⊢
    have w : ¬ w1 ("is", "Q", (at_ : Int) + 1) u ≠ 0 := by
      rw [w1_is, hq]
      show ¬ (0 - (if (q : Int) = at_ + 1 then 1 else 0) : Int) ≠ 0
      rw [if_neg (by omega)]
      simp
    have s1 := evSs_ok (w := w1) (line := 40 + at_) (k := 1) (v' := u) (nt' := nt) (o := .fall) (m := ⟨n, u, pile, nt⟩) _ ha.left (by simp only [evSs, evS, if_neg w]; rfl) rfl
    have s2 := ifs_skip_ rs (at_ + 1) _ u pile nt q ha.right hq (by omega)
    have := s1.trans s2
    rw [Nat.add_comm 1] at this
    rw [List.length_append, ← Nat.add_assoc]
    exact this

theorem ifs_run {P : Prg} {len : Nat} : ∀ (rs : List Part) (at_ n : Nat) (u : Vals) (pile : List Ent) (nt : Nts) (i : Nat) (p : Part), At P n (flatP n (ifsFrom len at_ rs)) → u "Q" = some ((at_ + i + 1 : Nat) : Int) → rs[i]? = some p → p.Ok len →
    ∃ t, t ≤ rs.length + 8 ∧ Runs w1 P t ⟨n, u, pile, nt⟩ ⟨n + (flatP n (ifsFrom len at_ rs)).length, setV (bodyV p u) "P" ((Pv (nxt p (at_ + i) len (bodyV p u)) len : Nat) : Int), pile, nt ++ [(rm (at_ + i + 1), (bodyV p u "X").getD 0)]⟩
  | [], at_, n, u, pile, nt, i, p, ha, hq, hi, hp => by simp at hi
  | p' :: rs, at_, n, u, pile, nt, 0, p, ha, hq, hi, hp => by
    simp only [List.getElem?_cons_zero, Option.some.injEq] at hi
    subst hi
    simp only [ifsFrom, flatP] at ha ⊢
    have w : w1 ("is", "Q", (at_ : Int) + 1) u ≠ 0 := by
      rw [w1_is, hq]
      show (0 - (if ((at_ + 0 + 1 : Nat) : Int) = at_ + 1 then 1 else 0) : Int) ≠ 0
      rw [if_pos (by omega)]
      simp
    obtain ⟨t, t1, hd⟩ := done_ev (p := p') (i := at_) (v := u) (n := nt) hp
    have hd' : evSs w1 (bodyS p' (at_ + 1) ++ ledS p' (behindOf at_ len)) u nt = _ := hd
    have s1 := evSs_ok (w := w1) (line := 40 + at_) (k := 1 + t) (v' := setV (bodyV p' u) "P" ((Pv (nxt p' at_ len (bodyV p' u)) len : Nat) : Int)) (nt' := nt ++ [(rm (at_ + 1), (bodyV p' u "X").getD 0)]) (o := .fall) (m := ⟨n, u, pile, nt⟩) _ ha.left
      (by simp only [evSs, evS, if_pos w, hd']; rfl) rfl
    have hq2 : setV (bodyV p' u) "P" ((Pv (nxt p' at_ len (bodyV p' u)) len : Nat) : Int) "Q" = some ((at_ + 1 : Nat) : Int) := by
      rw [setV_ne (Ne.symm nPQ), bodyV_off nQ]; exact hq
    have s2 := ifs_skip_ rs (at_ + 1) _ _ pile (nt ++ [(rm (at_ + 1), (bodyV p' u "X").getD 0)]) (at_ + 1) ha.right hq2 (.inl (Nat.le_refl _))
    refine ⟨1 + t + rs.length, by simp only [List.length_cons]; omega, ?_⟩
    rw [List.length_append, ← Nat.add_assoc]
    exact s1.trans s2
  | p' :: rs, at_, n, u, pile, nt, i + 1, p, ha, hq, hi, hp => by
    simp only [ifsFrom, flatP] at ha ⊢
    have w : ¬ w1 ("is", "Q", (at_ : Int) + 1) u ≠ 0 := by
      rw [w1_is, hq]
      show ¬ (0 - (if ((at_ + (i + 1) + 1 : Nat) : Int) = at_ + 1 then 1 else 0) : Int) ≠ 0
      rw [if_neg (by omega)]
      simp
    have s1 := evSs_ok (w := w1) (line := 40 + at_) (k := 1) (v' := u) (nt' := nt) (o := .fall) (m := ⟨n, u, pile, nt⟩) _ ha.left (by simp only [evSs, evS, if_neg w]; rfl) rfl
    obtain ⟨t, t1, s2⟩ := ifs_run rs (at_ + 1) _ u pile nt i p ha.right (by rw [hq]; congr 2; omega) (by simpa using hi) hp
    refine ⟨1 + t, by simp only [List.length_cons]; omega, ?_⟩
    rw [List.length_append, ← Nat.add_assoc]
    have := s1.trans s2
    rw [show at_ + 1 + i = at_ + (i + 1) by omega] at this
    exact this

theorem loopP_false {parts : List Part} (hP : AllOk parts) (hl : parts.length ≤ 4) : LoopP (mkPrg (loopedPs false parts)) parts := by
  have hq : ∀ x ∈ flatP 4 (ifsFrom parts.length 0 parts), QRow false x.2 := by
    refine quP_ok _ 4 fun x hx => ?_
    obtain ⟨p, i, hp, hi, e⟩ := ifsFrom_mem _ _ hx
    obtain ⟨b1, b2, b3, b4⟩ := body_facts (p := p) (l := i + 1) (by omega)
    obtain ⟨j0, j1, j2, j3⟩ := led_facts (p := p) (b := behindOf i parts.length)
    rw [e]
    simp only [quSs, quS, quSs_append, b1, j0, Bool.and_self]
  have hrows : (mkPrg (loopedPs false parts)).rows = [(10, .st (putP 1)), (20, .st (.whil ("more", "P", 0))), (20, .st (.let_ "R" ("next", "R", 1))), (30, .st (.let_ "Q" ("next", "P", 0)))] ++ flatP 4 (ifsFrom parts.length 0 parts) ++ [(50, .st .wend)] := by
    show flatP 0 (loopedPs false parts) = _
    rw [show loopedPs false parts = [(10, [putP 1]), (20, [.whil ("more", "P", 0), .let_ "R" ("next", "R", 1)]), (30, [.let_ "Q" ("next", "P", 0)])] ++ (ifsFrom parts.length 0 parts ++ [(50, [.wend])]) from by simp [loopedPs, headL], flatP_append, flatP_append]
    rfl
  have hpairs : (mkPrg (loopedPs false parts)).pairs = fun z => if z = 4 + (flatP 4 (ifsFrom parts.length 0 parts)).length then some 1 else if z = 1 then some (4 + (flatP 4 (ifsFrom parts.length 0 parts)).length) else none := by
    show gath (mkPrg (loopedPs false parts)).rows 0 [] _ = _
    rw [hrows, List.append_assoc]
    show gath (flatP 4 (ifsFrom parts.length 0 parts) ++ _) 4 [1] _ = _
    rw [gath_quiet _ _ _ _ _ hq]
    rfl
  have hlen : (mkPrg (loopedPs false parts)).rows.length = 4 + (flatP 4 (ifsFrom parts.length 0 parts)).length + 1 := by rw [hrows]; simp; omega
  have hat : At (mkPrg (loopedPs false parts)) 4 (flatP 4 (ifsFrom parts.length 0 parts)) := by
    have h0 : At (mkPrg (loopedPs false parts)) 0 (mkPrg (loopedPs false parts)).rows := fun j x hj => by rw [Nat.zero_add]; exact hj
    rw [hrows] at h0
    exact h0.left.right
  have hend : (mkPrg (loopedPs false parts)).rows[4 + (flatP 4 (ifsFrom parts.length 0 parts)).length]? = some (50, .st .wend) := by
    have h0 : At (mkPrg (loopedPs false parts)) 0 (mkPrg (loopedPs false parts)).rows := fun j x hj => by rw [Nat.zero_add]; exact hj
    rw [hrows] at h0
    have := h0.right.head
    rw [List.length_append] at this
    rw [← this]
    congr 1
    simp
  have r3 : (mkPrg (loopedPs false parts)).rows[3]? = some (30, .st (.let_ "Q" ("next", "P", 0))) := by rw [hrows]; rfl
  refine ⟨by rw [hrows]; rfl, by rw [hrows]; rfl, by rw [hrows]; rfl, 4 + (flatP 4 (ifsFrom parts.length 0 parts)).length, ?_, ?_, ⟨_, hend⟩, ?_, ?_⟩
  · rw [hpairs]
    show (if 1 = 4 + _ then _ else if 1 = 1 then _ else _) = _
    rw [if_neg (by omega), if_pos rfl]
  · rw [hpairs]
    show (if _ = _ then _ else _) = _
    rw [if_pos rfl]
  · intro i p u n hi hu
    have hp := hP p (List.mem_of_getElem? hi)
    have s1 : Runs w1 (mkPrg (loopedPs false parts)) 1 ⟨3, u, [.whil 1], n⟩ ⟨4, setV u "Q" ((i + 1 : Nat) : Int), [.whil 1], n⟩ := by
      refine Runs.one (m := ⟨3, u, [.whil 1], n⟩) r3 ?_ (List.prefix_refl _)
      simp only [step, w1_next, hu]
      show Except.ok _ = Except.ok _
      simp
      rfl
    have hq' : setV u "Q" ((i + 1 : Nat) : Int) "Q" = some ((0 + i + 1 : Nat) : Int) := by rw [setV_hit, Nat.zero_add]
    obtain ⟨t, t1, s2⟩ := ifs_run (len := parts.length) parts 0 4 (setV u "Q" ((i + 1 : Nat) : Int)) [.whil 1] n i p hat hq' hi hp
    rw [Nat.zero_add] at s2
    have ag : Agree u (setV u "Q" ((i + 1 : Nat) : Int)) := Agree.set_r ⟨rfl, rfl, rfl, rfl⟩ _ _ nQ
    have agb := ag.body (p := p)
    refine ⟨1 + t, setV (bodyV p (setV u "Q" ((i + 1 : Nat) : Int))) "P" ((Pv (nxt p i parts.length (bodyV p (setV u "Q" ((i + 1 : Nat) : Int)))) parts.length : Nat) : Int), by omega, ?_, agb.set_r _ _ nP, ?_, ?_⟩
    · rw [agb.2.2.2]
      exact s1.trans s2
    · rw [setV_hit, nxt_agree agb]
    · rw [setV_ne nRP, bodyV_off nR, setV_ne nRQ]
  · intro u n
    refine ⟨0, by decide, ?_⟩
    rw [hlen]
    exact Runs.refl

theorem flatSs_append {line : Int} : ∀ (a b : List St) (n : Nat), flatSs line n (a ++ b) = flatSs line n a ++ flatSs line (n + (flatSs line n a).length) b
  | [], b, n => by simp [flatSs]
  | s :: a, b, n => by simp [flatSs, flatSs_append a b, List.append_assoc, Nat.add_assoc]
theorem subsFrom_append {len : Nat} : ∀ (a b : List Part) (n : Nat), subsFrom len n (a ++ b) = subsFrom len n a ++ subsFrom len (n + a.length) b
  | [], b, n => by simp [subsFrom]
  | p :: a, b, n => by simp [subsFrom, subsFrom_append a b, Nat.add_assoc, Nat.add_comm 1]
theorem subsFrom_keys {len : Nat} {x : Int} : ∀ (a : List Part) (n : Nat), x ∈ (subsFrom len n a).map (·.1) → ∃ j : Nat, n ≤ j ∧ x = 1000 + 10 * (j : Int)
  | [], n, h => by simp [subsFrom] at h
  | p :: a, n, h => by
    simp only [subsFrom, List.map_cons, List.mem_cons] at h
    rcases h with h | h
    · exact ⟨n, Nat.le_refl _, h⟩
    · obtain ⟨j, h1, h2⟩ := subsFrom_keys a (n + 1) h
      exact ⟨j, by omega, h2⟩

theorem loopP_true {parts : List Part} (hP : AllOk parts) (hl : parts.length ≤ 4) : LoopP (mkPrg (loopedPs true parts)) parts := by
  have hq : ∀ x ∈ flatP 6 (subsFrom parts.length 0 parts), QRow false x.2 := by
    refine quP_ok _ 6 fun x hx => ?_
    obtain ⟨p, i, hp, hi, e⟩ := subsFrom_mem _ _ hx
    obtain ⟨b1, b2, b3, b4⟩ := body_facts (p := p) (l := i + 1) (by omega)
    obtain ⟨j0, j1, j2, j3⟩ := led_facts (p := p) (b := behindOf i parts.length)
    rw [e]
    simp only [quSs, quS, quSs_append, b1, j0, Bool.and_self]
  let lines : List Int := (List.range parts.length).map fun n : Nat => 1000 + 10 * (n : Int)
  let H : List (Int × List St) := [(10, [putP 1]), (20, [.whil ("more", "P", 0), .let_ "R" ("next", "R", 1)]), (30, [.ongo "GOSUB" ("next", "P", 0) lines]), (50, [.wend]), (60, [.end_])]
  have hps : loopedPs true parts = H ++ subsFrom parts.length 0 parts := by simp [loopedPs, headL, H, lines]
  have hrows : (mkPrg (loopedPs true parts)).rows = [(10, .st (putP 1)), (20, .st (.whil ("more", "P", 0))), (20, .st (.let_ "R" ("next", "R", 1))), (30, .st (.ongo "GOSUB" ("next", "P", 0) lines)), (50, .st .wend), (60, .st .end_)] ++ flatP 6 (subsFrom parts.length 0 parts) := by
    show flatP 0 (loopedPs true parts) = _
    rw [hps, flatP_append]
    rfl
  have hpairs : (mkPrg (loopedPs true parts)).pairs = fun z => if z = 4 then some 1 else if z = 1 then some 4 else none := by
    show gath (mkPrg (loopedPs true parts)).rows 0 [] _ = _
    rw [hrows]
    show gath (flatP 6 (subsFrom parts.length 0 parts)) 6 [] (fun z => if z = 4 then some 1 else if z = 1 then some 4 else none) = _
    exact gath_quiet' hq
  have r3 : (mkPrg (loopedPs true parts)).rows[3]? = some (30, .st (.ongo "GOSUB" ("next", "P", 0) lines)) := by rw [hrows]; rfl
  have r5 : (mkPrg (loopedPs true parts)).rows[5]? = some (60, .st .end_) := by rw [hrows]; rfl
  refine ⟨by rw [hrows]; rfl, by rw [hrows]; rfl, by rw [hrows]; rfl, 4, ?_, ?_, ⟨50, by rw [hrows]; rfl⟩, ?_, ?_⟩
  · rw [hpairs]; rfl
  · rw [hpairs]; rfl
  · intro i p u n hi hu
    have hp := hP p (List.mem_of_getElem? hi)
    have hlt : i < parts.length := (List.getElem?_eq_some_iff.mp hi).1
    obtain ⟨sp1, sp2⟩ := split_at hi
    have hsplit : loopedPs true parts = (H ++ subsFrom parts.length 0 (parts.take i)) ++ (1000 + 10 * (i : Int), bodyS p (i + 1) ++ ledS p (behindOf i parts.length) ++ [.ret]) :: subsFrom parts.length (i + 1) (parts.drop (i + 1)) := by
      rw [hps]
      conv => lhs; rw [sp1]
      rw [subsFrom_append, sp2, Nat.zero_add, List.append_assoc]
      have : (parts.take i ++ p :: parts.drop (i + 1)).length = parts.length := by rw [← sp1]
      rw [this]
      rfl
    generalize hb : (flatP 0 (H ++ subsFrom parts.length 0 (parts.take i))).length = b
    have hplace : (mkPrg (loopedPs true parts)).places (1000 + 10 * (i : Int)) = some b := by
      rw [hsplit, ← hb]
      refine mk_place (p := (1000 + 10 * (i : Int), _)) fun hm => ?_
      obtain ⟨j, h1, h2⟩ := subsFrom_keys _ _ hm
      simp only [] at h2
      omega
    have hat : At (mkPrg (loopedPs true parts)) b (flatSs (1000 + 10 * (i : Int)) b (doneS p i parts.length ++ [.ret])) := by
      have h0 := mk_at (pre := H ++ subsFrom parts.length 0 (parts.take i)) (p := (1000 + 10 * (i : Int), bodyS p (i + 1) ++ ledS p (behindOf i parts.length) ++ [.ret])) (post := subsFrom parts.length (i + 1) (parts.drop (i + 1)))
      rw [← hsplit, hb] at h0
      exact h0
    rw [flatSs_append] at hat
    have hw : w1 ("next", "P", 0) u = ((i + 1 : Nat) : Int) := by rw [w1_next, hu]; simp
    have hli : lines[((((i + 1 : Nat) : Int)) - 1).toNat]? = some (1000 + 10 * (i : Int)) := by
      rw [show ((((i + 1 : Nat) : Int)) - 1).toNat = i by omega]
      simp [lines, hlt]
    have hll : lines.length = parts.length := by simp [lines]
    have s1 : Runs w1 (mkPrg (loopedPs true parts)) 1 ⟨3, u, [.whil 1], n⟩ ⟨b, u, [.whil 1, .gosub 4], n⟩ := by
      refine Runs.one (m := ⟨3, u, [.whil 1], n⟩) r3 ?_ (List.prefix_refl _)
      simp only [step, hw]
      rw [if_pos (by omega), if_pos (by rw [hll]; omega), hli]
      simp only [Option.bind_some, hplace, if_true]
      rfl
    obtain ⟨t, t1, hd⟩ := done_ev (p := p) (i := i) (v := u) (n := n) hp
    have s2 := evSs_ok (w := w1) (m := ⟨b, u, [.whil 1, .gosub 4], n⟩) (o := .fall) _ hat.left hd rfl
    have s3 : Runs w1 (mkPrg (loopedPs true parts)) 1 ⟨b + (flatSs (1000 + 10 * (i : Int)) b (doneS p i parts.length)).length, setV (bodyV p u) "P" ((Pv (nxt p i parts.length (bodyV p u)) parts.length : Nat) : Int), [.whil 1, .gosub 4], n ++ [(rm (i + 1), (bodyV p u "X").getD 0)]⟩
        ⟨4, setV (bodyV p u) "P" ((Pv (nxt p i parts.length (bodyV p u)) parts.length : Nat) : Int), [.whil 1], n ++ [(rm (i + 1), (bodyV p u "X").getD 0)]⟩ := by
      have hr := hat.right
      simp only [flatSs, flatS, List.append_nil] at hr
      exact Runs.one (m := ⟨_, _, _, _⟩) hr.head rfl (List.prefix_refl _)
    refine ⟨1 + t + 1, _, by omega, (s1.trans s2).trans s3, Agree.set_r ⟨rfl, rfl, rfl, rfl⟩ _ _ nP, setV_hit, ?_⟩
    rw [setV_ne nRP, bodyV_off nR]
  · intro u n
    exact ⟨1, Nat.le_refl _, Runs.one (m := ⟨5, u, [], n⟩) r5 rfl (List.prefix_refl _)⟩

theorem law1 : Law1 := by
  intro parts called hP h2 h4
  have hL : LoopP (mkPrg (loopedPs called parts)) parts := by
    cases called with
    | false => exact loopP_false hP h4
    | true => exact loopP_true hP h4
  obtain ⟨mp, ml, g1, g2, e1, e2⟩ := law1_core hL hP h2
  have sp := shape_plain h4
  have sl := shape_looped (called := called) h4
  exact ⟨sp, sl, mp, ml, g1, g2, goN_strs (fun x hx => (sp.wf x hx).2) _ g1 (by simp [m0]), goN_strs (fun x hx => (sl.wf x hx).2) _ g2 (by simp [m0]), e1, e2⟩

-- F1

theorem trim : ∀ (n : Nat) (h : Heap), h.objs.size = n → (∃ a o, h.get? a = some o) → ∃ H0 : Heap, (∀ b o, h.get? b = some o → H0.get? b = some o) ∧ (∀ b o, H0.get? b = some o → h.get? b = some o) ∧ ∃ o, H0.get? (H0.objs.size - 1) = some o
  | 0, h, hn, ⟨a, o, ha⟩ => by
    have : @LT.lt Nat _ a h.objs.size := Heap.lt_size ha
    omega
  | n + 1, h, hn, ⟨a, o, ha⟩ => by
    cases e : h.get? (h.objs.size - 1) with
    | some o' => exact ⟨h, fun _ _ q => q, fun _ _ q => q, o', e⟩
    | none =>
      have hp : ∀ b : Nat, (⟨h.objs.pop, h.life⟩ : Heap).get? b = h.get? b := by
        intro b
        by_cases hb : @LT.lt Nat _ b n
        · unfold Heap.get?
          simp only [Array.getElem?_pop]
          rw [if_pos (show @LT.lt Nat _ b (h.objs.size - 1) by omega)]
        · have e1 : (⟨h.objs.pop, h.life⟩ : Heap).get? b = none := by
            cases q : (⟨h.objs.pop, h.life⟩ : Heap).get? b with
            | none => rfl
            | some x =>
              have : @LT.lt Nat _ b (⟨h.objs.pop, h.life⟩ : Heap).objs.size := Heap.lt_size q
              simp only [Array.size_pop] at this
              omega
          rw [e1]
          by_cases hb2 : @Eq Nat b (h.objs.size - 1)
          · rw [hb2, e]
          · cases q : h.get? b with
            | none => rfl
            | some x =>
              have : @LT.lt Nat _ b h.objs.size := Heap.lt_size q
              omega
      obtain ⟨H0, h1, h2, h3⟩ := trim n ⟨h.objs.pop, h.life⟩ (by simp [hn]) ⟨a, o, by rw [hp]; exact ha⟩
      exact ⟨H0, fun b o q => h1 b o (by rw [hp]; exact q), fun b o q => by rw [← hp]; exact h2 b o q, h3⟩

noncomputable abbrev mu0 : AMap := (fun _ => none, fun _ => False)
theorem frz_mu0 (b : Addr) : Frz mu0 b := ⟨fun _ _ h => (nomatch h), fun h => h⟩

theorem well_ints {P : Params} {h : Heap} : ∀ (ns : List Int) (vs : List Value), WellAll P h vs (ns.map fun i => .int i) → VRs h mu0 (ns.map .int) vs
  | [], vs, w => by cases w; exact .nil
  | n :: ns, vs, w => by
    cases w with
    | cons a b =>
      cases a
      exact .cons (.int _ _) (well_ints ns _ b)

theorem ofPys_ints : ∀ ns : List Int, ofPys (ns.map .int) = ns.map fun i => .int i
  | [] => rfl
  | n :: ns => by rw [List.map_cons, ofPys, ofPys_ints ns]; rfl
theorem well_script {P : Params} {h : Heap} {v : Value} {ns : List Int} (w : Well P h v (ofPy (.list (ns.map .int)))) : VR h mu0 (.lst (ns.map .int)) v := by
  have w' : Well P h v (.list (ns.map fun i => .int i)) := by rw [← ofPys_ints]; exact w
  cases w' with
  | list ho hw => exact .lst ho (frz_mu0 _) (well_ints ns _ hw)

theorem fin_call (c : Ctx) {A : Ads} {W : LawAds} (LB : Lib c A) (WL : LawLib c W) {s₁ : Shared} (hb : ∀ b o, c.H0.get? b = some o → s₁.heap.get? b = some o) {ns : List Int} {v : Value} (hv : VR s₁.heap mu0 (.lst (ns.map .int)) v) (hl : ns.length ≤ 63)
    {Q : Value → Shared → Prop} {E : Value → Shared → Prop} (h : ∀ s', s'.gens = s₁.gens → s'.os = s₁.os → (∀ b o, s₁.heap.get? b = some o → s'.heap.get? b = some o) → Q (.bool true) s') : wpAny c.M callerA (call (.ref W.f_law) [v]) Q E s₁ := by
  have r : HR c s₁.heap mu0 (fun _ => none) :=
    ⟨hb, fun k => ⟨fun _ => rfl, fun _ => rfl⟩, fun k j p q h => (nomatch h), fun k p h => (nomatch h), fun k x p h => (nomatch h), ⟨0, fun _ _ => rfl⟩, fun b h => h.elim⟩
  have ok : AOk callerA 12 := ⟨rfl, by decide, by decide⟩
  refine (t_law LB WL law1 hl (Q := fun y _ => y = .bool true) fun _ => rfl).call callerA s₁ mu0 [v] Q E ok r (.cons hv .nil) fun v' s' y σ' μ' hq r' hv' st => ?_
  subst hq
  cases hv'
  exact h s' st.gens st.os fun b o q => st.keep b o (frz_mu0 b) (fun h => h) q

end
end
end Mine

set_option maxHeartbeats 8000000 in
theorem PySem.Challenge.cw_sm0007_01_holds : PySem.Challenge.rw_sm0007_01.Holds := by
  refine holds_law Mine.hd_said fun said => ?_
  refine holds_open (q := Mine.qv) (loose := Mine.loose1) (Xt := Mine.Xt1) (XP := XL Mine.qv []) (Yf := Hook.obs (kHook Mine.K1 Mine.as1 fun _ => rfl)) (Ya := Hook.val (kHook Mine.K1 Mine.as1 fun _ => rfl)) (YP := Hook.says (kHook Mine.K1 Mine.as1 fun _ => rfl)) (N := Mine.NN)
    (Mine.left1 Mine.hd_K) (Hook.of (kHook Mine.K1 Mine.as1 fun _ => rfl)) (Hook.keeps (kHook Mine.K1 Mine.as1 fun _ => rfl)) (fun s e => xl_of s (Bool.and_eq_true_iff.mp e).1) XL.keeps (by rfl) (by rfl) (by rfl) (fun s e => recFacts_of (Bool.and_eq_true_iff.mp e).2) (by rfl) said (by decide +kernel) ⟨rfl, rfl, rfl, rfl, rfl, by decide +kernel⟩ ?hw ?hc
  case hw => w_witness2
  intro w s₀ s₁ mg mb G Y fa o pm cd doc dV kV ho hd hcd hD hmg hg args vals as hpre hlay hrd hwl hlo
  have KX := kIn_of Y
  clear ho hd hcd hD
  refine Ground.open G ?_
  intro T B D TE TW
  have tr := topRead_of T
  wrow_args hpre hlay hrd hwl hlo
  rename Well _ _ _ _ => wl
  rename List Int => ns
  have hlen : ns.length ≤ 63 := by omega
  clear G Y T B D TE TW
  obtain ⟨H0, t1, t2, t3⟩ := Mine.trim _ s₁.heap rfl ⟨_, _, KX 3 _ rfl⟩
  have X := KX.keeps t1
  obtain ⟨A, W, LB, WL⟩ : ∃ A W, Mine.Lib ⟨PySem.Challenge.rw_sm0007_01.row.prog, w, _, H0, mg, mb, X, tr.g.keeps t1, tr.b.keeps t1, tr.nolimit.keeps t1, tr.builtins, t3⟩ A ∧
      Mine.LawLib ⟨PySem.Challenge.rw_sm0007_01.row.prog, w, _, H0, mg, mb, X, tr.g.keeps t1, tr.b.keeps t1, tr.nolimit.keeps t1, tr.builtins, t3⟩ W := by
      exact ⟨⟨_, _, _, _, _, _, _, _, _, _, _, _, _, _, _, _, _, _, _, _, _, _, _, _, _, _, _, _, _, _, _, _, _, _, _, _, _⟩, ⟨_, _, _, _, _, _, _, _⟩,
        {
    low := Heap.lt_size (X 3 _ rfl),
          b_len := rfl,
          b_range := rfl,
          b_enumerate := rfl,
          b_isinstance := rfl,
          b_str := rfl,
          b_tuple := rfl,
          b_int := rfl,
          b_min := rfl,
          fits := ⟨rfl, ⟨_, _, _, _, _, _, _, _, rfl, rfl⟩, rfl⟩,
          whole_of := ⟨rfl, ⟨_, _, _, _, _, _, _, _, rfl, rfl⟩, rfl⟩,
          is_nought := ⟨rfl, ⟨_, _, _, _, _, _, _, _, rfl, rfl⟩, rfl⟩,
          is_true := ⟨rfl, ⟨_, _, _, _, _, _, _, _, rfl, rfl⟩, rfl⟩,
          put_upon := ⟨rfl, ⟨_, _, _, _, _, _, _, _, rfl, rfl⟩, rfl⟩,
          floor_of := ⟨rfl, ⟨_, _, _, _, _, _, _, _, rfl, rfl⟩, rfl⟩,
          found_at := ⟨rfl, ⟨_, _, _, _, _, _, _, _, rfl, rfl⟩, rfl⟩,
          cut_to := ⟨rfl, ⟨_, _, _, _, _, _, _, _, rfl, rfl⟩, rfl⟩,
          while_begin := ⟨rfl, ⟨_, _, _, _, _, _, _, _, rfl, rfl⟩, rfl⟩,
          while_end := ⟨rfl, ⟨_, _, _, _, _, _, _, _, rfl, rfl⟩, rfl⟩,
          gosub := ⟨rfl, ⟨_, _, _, _, _, _, _, _, rfl, rfl⟩, rfl⟩,
          return_place := ⟨rfl, ⟨_, _, _, _, _, _, _, _, rfl, rfl⟩, rfl⟩,
          chosen := ⟨rfl, ⟨_, _, _, _, _, _, _, _, rfl, rfl⟩, rfl⟩,
          put_row_of := ⟨rfl, ⟨_, _, _, _, _, _, _, _, rfl, rfl⟩, rfl⟩,
          put_if := ⟨rfl, ⟨_, _, _, _, _, _, _, _, rfl, rfl⟩, rfl⟩,
          put_all := ⟨rfl, ⟨_, _, _, _, _, _, _, _, rfl, rfl⟩, rfl⟩,
          gather := ⟨rfl, ⟨_, _, _, _, _, _, _, _, rfl, rfl⟩, rfl⟩,
          join_rows := ⟨rfl, ⟨_, _, _, _, _, _, _, _, rfl, rfl⟩, rfl⟩,
          flatten := ⟨rfl, ⟨_, _, _, _, _, _, _, _, rfl, rfl⟩, rfl⟩,
          place_of := ⟨rfl, ⟨_, _, _, _, _, _, _, _, rfl, rfl⟩, rfl⟩,
          end_of_while := ⟨rfl, ⟨_, _, _, _, _, _, _, _, rfl, rfl⟩, rfl⟩,
          do_flow := ⟨rfl, ⟨_, _, _, _, _, _, _, _, rfl, rfl⟩, rfl⟩,
          do_jump := ⟨rfl, ⟨_, _, _, _, _, _, _, _, rfl, rfl⟩, rfl⟩,
          do_loop := ⟨rfl, ⟨_, _, _, _, _, _, _, _, rfl, rfl⟩, rfl⟩,
          wend_place := ⟨rfl, ⟨_, _, _, _, _, _, _, _, _, _, _, _, rfl, rfl, rfl, rfl, rfl⟩, rfl⟩,
          most_number := ⟨_, rfl⟩,
          jumps := rfl,
          jumpsV := Mine.VR.tup (X _ _ rfl) ⟨fun _ _ h => (nomatch h), fun h => h⟩ (.cons (.str _ _) (.cons (.str _ _) (.cons (.str _ _) (.cons (.str _ _) (.cons (.str _ _) (.cons (.str _ _) .nil)))))),
          Control := ⟨rfl, rfl, ⟨rfl, rfl, rfl, rfl, rfl⟩, rfl, rfl, rfl, ⟨_, _, _, _, _, _, _, _, rfl, rfl⟩⟩,
          Control_pile := ⟨rfl, rfl⟩,
          Control_most := ⟨rfl, rfl⟩,
          Control_failed_at := ⟨rfl, rfl⟩,
          Flat := ⟨rfl, rfl, ⟨rfl, rfl, rfl, rfl, rfl⟩, rfl, rfl, rfl, ⟨_, _, _, _, _, _, _, _, rfl, rfl⟩⟩,
          Flat_rows := ⟨rfl, rfl⟩,
          Flat_places := ⟨rfl, rfl⟩,
          Flat_data := ⟨rfl, rfl⟩,
          Flat_pairs := ⟨rfl, rfl⟩,
          Flat_loops := ⟨rfl, rfl⟩,
          Flat_fns := ⟨rfl, rfl⟩,
          FlowRun := ⟨rfl, rfl, ⟨rfl, rfl, rfl, rfl, rfl⟩, rfl, rfl, rfl, ⟨_, _, _, _, _, _, _, _, rfl, rfl⟩⟩,
          FlowRun_flat := ⟨rfl, rfl⟩,
          FlowRun_values := ⟨rfl, rfl⟩,
          FlowRun_worth_of := ⟨rfl, rfl⟩,
          FlowRun_bits := ⟨rfl, rfl⟩,
          FlowRun_digits := ⟨rfl, rfl⟩,
          FlowRun_control := ⟨rfl, rfl⟩,
          FlowRun_notes := ⟨rfl, rfl⟩,
          FlowRun_worth := ⟨rfl, rfl, ⟨_, _, _, _, _, _, _, _, rfl, rfl⟩, rfl⟩,
          FlowRun_whole := ⟨rfl, rfl, ⟨_, _, _, _, _, _, _, _, rfl, rfl⟩, rfl⟩,
          FlowRun_value_of_name := ⟨rfl, rfl, ⟨_, _, _, _, _, _, _, _, rfl, rfl⟩, rfl⟩,
          FlowRun_store := ⟨rfl, rfl, ⟨_, _, _, _, _, _, _, _, rfl, rfl⟩, rfl⟩,
          FlowRun_go := ⟨rfl, rfl, ⟨_, _, _, _, _, _, _, _, rfl, rfl⟩, rfl⟩ },
        { pull := ⟨rfl, ⟨_, _, _, _, _, _, _, _, rfl, rfl⟩, rfl⟩, let_ := ⟨rfl, ⟨_, _, _, _, _, _, _, _, rfl, rfl⟩, rfl⟩, body := ⟨rfl, ⟨_, _, _, _, _, _, _, _, rfl, rfl⟩, rfl⟩, jump := ⟨rfl, ⟨_, _, _, _, _, _, _, _, rfl, rfl⟩, rfl⟩, led := ⟨rfl, ⟨_, _, _, _, _, _, _, _, rfl, rfl⟩, rfl⟩, looped := ⟨rfl, ⟨_, _, _, _, _, _, _, _, rfl, rfl⟩, rfl⟩, worth := ⟨rfl, ⟨_, _, _, _, _, _, _, _, rfl, rfl⟩, rfl⟩, law := ⟨rfl, ⟨_, _, _, _, _, _, _, _, rfl, rfl⟩, rfl⟩, hand := rfl }⟩
    

  have hfa := mg_of X (tr.g.keeps t1) WL.law.ns
  have e : some (Value.ref W.f_law) = some (Value.ref fa) := hfa.symm.trans hmg
  injection e with e
  injection e with e
  subst e
  exact Mine.fin_call _ LB WL t2 (Mine.well_script wl) hlen fun s' q1 q2 q3 => GoodW.toG ⟨.inl ⟨.bool true, .bool true, [], rfl, fun _ => rfl, .bool true, by wrow_post, fun _ => ⟨List.nodup_nil, fun a ha => (nomatch ha)⟩⟩, q3, q2, q1.trans hg⟩


