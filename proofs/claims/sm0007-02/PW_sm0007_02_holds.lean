import PyProof.Rows.All
import Wide.All
import OpenK.AllK
import Wide.FinOn
import KE.KSuper
import PyProof.ExcInit
import PyProof.InstStoreFacts
import PyProof.ExcAttrAll.Exception
import KE.KxMul
import PyProof.ConsumeWalk
import PyProof.WalkInts
import Lean
import PySem.Challenge.RW_sm0007_02
open PySem PySem.W PySem.Calls PyProof.Rows
set_option Elab.async false
set_option maxRecDepth 100000
set_option linter.unusedVariables false
set_option linter.unusedSimpArgs false
set_option genSizeOf false
set_option genInjectivity false
namespace Mine
section
theorem nnI (n : Nat) : (0 : Int) ≤ (n : Int) := Int.natCast_nonneg n
theorem ltI {n m : Nat} (h : n < m) (hm : m ≤ 2 ^ 62) : (n : Int) < 2 ^ 62 := by omega
theorem eqI {a b : Nat} (h : a = b) : (a : Int) = (b : Int) := congrArg Nat.cast h
theorem neI {a b : Nat} (h : ¬ a = b) : ¬ (a : Int) = (b : Int) := fun e => h (Int.ofNat.inj e)
set_option compiler.extract_closed false
local macro_rules | `(tactic| lcg_sub) => `(tactic| with_unfolding_all rfl)
local macro_rules | `(tactic| lcg_src) => `(tactic| decide +kernel)
local macro_rules | `(tactic| lcg_off) => `(tactic| first | with_reducible exact nnI _ | with_reducible exact ltI (by assumption) (by decide) | exact eqI (by assumption) | exact neI (by assumption) | lia | omega)
local macro_rules | `(tactic| kbo_bools) => `(tactic| with_unfolding_all exact Eq.refl false)
local macro_rules | `(tactic| kcj_in) => `(tactic| with_unfolding_all exact Eq.refl true)
-- D00
noncomputable def stName : Stmt → Str
  | .FunctionDef n _ _ _ _ _ _ _ _ _ => n
  | _ => ""
noncomputable def stArgs : Stmt → Arguments
  | .FunctionDef _ a _ _ _ _ _ _ _ _ => a
  | _ => ⟨[], [], none, [], [], none, []⟩
noncomputable def stBody : Stmt → List Stmt
  | .FunctionDef _ _ b _ _ _ _ _ _ _ => b
  | .ClassDef _ _ _ b _ _ _ _ _ _ _ => b
  | _ => []
noncomputable def stScope : Stmt → Scope
  | .FunctionDef _ _ _ _ _ _ s _ _ _ => s
  | _ => ⟨.function, [], false, false, []⟩
noncomputable def nth (l : List Stmt) (i : Nat) : Stmt := match l, i with
  | [], _ => .Pass ⟨0, 0, 0, 0⟩
  | a :: _, 0 => a
  | _ :: r, i + 1 => nth r i
noncomputable def P1 : List Stmt := PySem.Challenge.pw_sm0007_02.main.body
noncomputable def mth (st : Stmt) (j : Nat) : Stmt := nth (stBody st) j
-- HA
section
set_option maxHeartbeats 0
noncomputable abbrev pg : Program := PySem.Challenge.rw_sm0007_02.row.toRowW.1
noncomputable def fO (st : Stmt) (qual : Str) (dV pm cdv : Value) : Obj := ⟨.type "function", none, .func (fnOf (stName st) qual (stArgs st) (stBody st) (stScope st) dV .none .none pm none cdv .none), #[]⟩
noncomputable def fR (st : Stmt) (qual : Str) : Obj := ⟨.none, none, .func (FuncData.mk (stName st) qual (stArgs st) (.stmts (stBody st)) (stScope st) 0 [] .none .none .none .none none .none .none 0), #[]⟩
noncomputable def hE (P : Params) (x : Str) (t : Nat) (v : Value) : DictEntry := ⟨PyData.keyHash P x, .str x t, v⟩
noncomputable def hS (x : Str) (t : Nat) : Value := .str x t
noncomputable def hC (vs : Array Value) : Obj := ⟨.type "code", none, .fields vs, #[]⟩
noncomputable def hQ (x y : Str) (t : Nat) (l a : Int) (r : List Value) : Array Value := ⟨[.str x t, .str y (t + 1), .str "/claim/cut.py" (t + 2), .int l 0, .int a 0, .int 0 0, .int 0 0, .int 3 0] ++ r⟩
noncomputable def hD (es : Array DictEntry) (n : Nat := 0) : Obj := ⟨.type "dict", none, .dict es n, #[]⟩
noncomputable def hT (vs : Array Value) (n : Nat := 0) : Obj := ⟨.type "tuple", none, .seq vs n, #[]⟩
noncomputable def up (l : List Obj) (us : List (Nat × Obj)) (r : List Obj) : List Obj := us.foldl (fun l u => l.set u.1 u.2) l ++ r
noncomputable def sp : List Obj → List Obj × List Obj
  | [] => ([], [])
  | [x] => ([x], [])
  | x :: y :: r => (x :: (sp r).1, y :: (sp r).2)
noncomputable def brn : Nat → List Obj → BT
  | 0, _ => .nil
  | _ + 1, [] => .nil
  | n + 1, x :: r => .node x (brn n (sp r).1) (brn n (sp r).2)
noncomputable def o_49 (P : Params) : Obj := Obj.mk .none none (Data.dict #[hE P "type.__subclasses__.Exception.0" 221 (.int 34 0), hE P "type.__subclasses__.Exception.n" 222 (.int 1 0)] 2) #[]
noncomputable def e_50 (P : Params) : List DictEntry := [hE P "__name__" 165 (hS "basicplus.values" 187), hE P "__doc__" 166 .none, hE P "__package__" 167 .none, hE P "__loader__" 168 (.builtin "__main__.__loader__#opaque"), hE P "__spec__" 169 .none, hE P "__annotations__" 170 (.ref 6), hE P "__builtins__" 171 (.ref 4), hE P "__file__" 173 (hS "/claim/cut.py" 172), hE P "__cached__" 174 .none, hE P "MOST_EXPONENT" 190 (.int 99 189), hE P "BasicError" 224 (.ref 34), hE P "figures_of" 233 (.ref 44), hE P "rounded_by" 244 (.ref 51), hE P "made" 256 (.ref 58), hE P "whole_near" 266 (.ref 65)]
noncomputable def o_50 (P : Params) : Obj := hD ⟨e_50 P⟩ 15
noncomputable def e_54 (P : Params) : List DictEntry := [hE P "__module__" 198 (hS "basicplus.values" 187), hE P "__qualname__" 200 (hS "BasicError" 199), hE P "__firstlineno__" 202 (.int 3 201), hE P "__init__" 213 (.ref 31), hE P "__static_attributes__" 216 (.ref 32), hE P "__classcell__" 217 (.ref 18)]
noncomputable def o_54 (P : Params) : Obj := hD ⟨e_54 P⟩ 6
noncomputable def o_55 (P : Params) : Obj := Obj.mk (.type "cell") none (Data.cell (some (.ref 34))) #[]
noncomputable def o_60 (P : Params) : Obj := hT #[hS "" 203]
noncomputable def o_61 (P : Params) : Obj := hT #[.ref 18]
noncomputable def o_67 (P : Params) : Obj := hC (hQ "__init__" "BasicError.__init__" 204 5 3 [.ref 25, .bool true, .int 181 0, .ref 26, .none, .ref 27, .ref 28, .ref 29, .int 211 0, .int 5 0, hS "/claim/cut.py" 212])
noncomputable def o_68 (P : Params) : Obj := Obj.mk (.type "function") none (Data.func (FuncData.mk (stName (mth (nth P1 2) 0)) "BasicError.__init__" (stArgs (mth (nth P1 2) 0)) (FuncBody.stmts (stBody (mth (nth P1 2) 0))) (stScope (mth (nth P1 2) 0)) 3 [(Str.ofString "__class__", 18)] (.ref 23) .none .none (hS "basicplus.values" 187) none (.ref 30) (.ref 24) 0)) #[]
noncomputable def e_70 (P : Params) : List DictEntry := [hE P "__module__" 198 (hS "basicplus.values" 187), hE P "__firstlineno__" 202 (.int 3 201), hE P "__init__" 213 (.ref 31), hE P "__static_attributes__" 216 (.ref 32), hE P "__weakref__" 219 (.ref 35), hE P "__doc__" 220 .none]
noncomputable def o_70 (P : Params) : Obj := hD ⟨e_70 P⟩ 4
noncomputable def o_71 (P : Params) : Obj := Obj.mk (.type "type") none (Data.cls (ClassData.mk (Str.ofString "BasicError") [.type "Exception"] [.ref 34, .type "Exception", .type "BaseException", .type "object"] 33 (Str.ofString "BasicError") true [] [] false none false)) #[some (.ref 15), none, some (hS "BasicError" 191), some (hS "BasicError" 199), some (.builtin "Exception.__new__"), some (.bool true)]
noncomputable def e_103 (P : Params) : List DictEntry := [hE P "__name__" 165 (hS "basicplus.decimals" 314), hE P "__doc__" 166 .none, hE P "__package__" 167 .none, hE P "__loader__" 168 (.builtin "__main__.__loader__#opaque"), hE P "__spec__" 169 .none, hE P "__annotations__" 170 (.ref 6), hE P "__builtins__" 171 (.ref 4), hE P "__file__" 173 (hS "/claim/cut.py" 172), hE P "__cached__" 174 .none, hE P "MOST_EXPONENT" 190 (.int 99 189), hE P "BasicError" 224 (.ref 34), hE P "figures_of" 233 (.ref 44), hE P "rounded_by" 244 (.ref 51), hE P "made" 256 (.ref 58), hE P "whole_near" 266 (.ref 65), hE P "fits" 274 (.ref 72), hE P "whole_of" 283 (.ref 79), hE P "decimal_of" 291 (.ref 86), hE P "is_nought" 298 (.ref 93), hE P "is_true" 305 (.ref 100), hE P "sign_of" 313 (.ref 107), hE P "ONE" 318 (.ref 108), hE P "MOST_POWER" 320 (.int 9999 319), hE P "d_negated" 327 (.ref 115), hE P "alike" 336 (.ref 122), hE P "d_add" 348 (.ref 129), hE P "d_sub" 357 (.ref 136), hE P "d_mul" 366 (.ref 143), hE P "with_rest" 375 (.ref 150)]
noncomputable def o_103 (P : Params) : Obj := hD ⟨e_103 P⟩ 29
noncomputable def o_110 (P : Params) : Obj := hC (hQ "fits" "fits" 267 46 2 [.ref 66, .bool true, .int 181 0, .ref 67, .none, .ref 68, .ref 69, .ref 70, .int 272 0, .int 46 0, hS "/claim/cut.py" 273])
noncomputable def o_111 (P : Params) : Obj := fO (nth P1 7) "fits" .none (hS "basicplus.values" 187) (.ref 71)
noncomputable def o_117 (P : Params) : Obj := hC (hQ "whole_of" "whole_of" 275 48 2 [.ref 73, .bool true, .int 181 0, .ref 74, .none, .ref 75, .ref 76, .ref 77, .int 281 0, .int 48 0, hS "/claim/cut.py" 282])
noncomputable def o_118 (P : Params) : Obj := fO (nth P1 8) "whole_of" .none (hS "basicplus.values" 187) (.ref 78)
noncomputable def o_131 (P : Params) : Obj := hC (hQ "is_nought" "is_nought" 292 59 1 [.ref 87, .bool true, .int 181 0, .ref 88, .none, .ref 89, .ref 90, .ref 91, .int 296 0, .int 59 0, hS "/claim/cut.py" 297])
noncomputable def o_132 (P : Params) : Obj := fO (nth P1 10) "is_nought" .none (hS "basicplus.values" 187) (.ref 92)
noncomputable def o_138 (P : Params) : Obj := hC (hQ "is_true" "is_true" 299 63 1 [.ref 94, .bool true, .int 181 0, .ref 95, .none, .ref 96, .ref 97, .ref 98, .int 303 0, .int 63 0, hS "/claim/cut.py" 304])
noncomputable def o_139 (P : Params) : Obj := fO (nth P1 11) "is_true" .none (hS "basicplus.values" 187) (.ref 99)
noncomputable def e_190 (P : Params) : List DictEntry := [hE P "__name__" 165 (hS "basicplus.arith" 421), hE P "__doc__" 166 .none, hE P "__package__" 167 .none, hE P "__loader__" 168 (.builtin "__main__.__loader__#opaque"), hE P "__spec__" 169 .none, hE P "__annotations__" 170 (.ref 6), hE P "__builtins__" 171 (.ref 4), hE P "__file__" 173 (hS "/claim/cut.py" 172), hE P "__cached__" 174 .none, hE P "MOST_EXPONENT" 190 (.int 99 189), hE P "BasicError" 224 (.ref 34), hE P "figures_of" 233 (.ref 44), hE P "rounded_by" 244 (.ref 51), hE P "made" 256 (.ref 58), hE P "whole_near" 266 (.ref 65), hE P "fits" 274 (.ref 72), hE P "whole_of" 283 (.ref 79), hE P "decimal_of" 291 (.ref 86), hE P "is_nought" 298 (.ref 93), hE P "is_true" 305 (.ref 100), hE P "sign_of" 313 (.ref 107), hE P "ONE" 318 (.ref 108), hE P "MOST_POWER" 320 (.int 9999 319), hE P "d_negated" 327 (.ref 115), hE P "alike" 336 (.ref 122), hE P "d_add" 348 (.ref 129), hE P "d_sub" 357 (.ref 136), hE P "d_mul" 366 (.ref 143), hE P "with_rest" 375 (.ref 150), hE P "d_div" 389 (.ref 157), hE P "d_compare" 400 (.ref 164), hE P "d_power" 412 (.ref 171), hE P "square_or_end" 420 (.ref 178), hE P "is_whole" 429 (.ref 185), hE P "settled" 438 (.ref 192), hE P "whole_reckoned" 449 (.ref 199), hE P "cut_quotient" 458 (.ref 206), hE P "cut_rest" 466 (.ref 213), hE P "exponent_of" 473 (.ref 220), hE P "whole_power" 483 (.ref 227), hE P "raised" 494 (.ref 234)]
noncomputable def o_190 (P : Params) : Obj := hD ⟨e_190 P⟩ 41
noncomputable def e_276 (P : Params) : List DictEntry := [hE P "__name__" 165 (hS "basicplus.control" 519), hE P "__doc__" 166 .none, hE P "__package__" 167 .none, hE P "__loader__" 168 (.builtin "__main__.__loader__#opaque"), hE P "__spec__" 169 .none, hE P "__annotations__" 170 (.ref 6), hE P "__builtins__" 171 (.ref 4), hE P "__file__" 173 (hS "/claim/cut.py" 172), hE P "__cached__" 174 .none, hE P "MOST_EXPONENT" 190 (.int 99 189), hE P "BasicError" 224 (.ref 34), hE P "figures_of" 233 (.ref 44), hE P "rounded_by" 244 (.ref 51), hE P "made" 256 (.ref 58), hE P "whole_near" 266 (.ref 65), hE P "fits" 274 (.ref 72), hE P "whole_of" 283 (.ref 79), hE P "decimal_of" 291 (.ref 86), hE P "is_nought" 298 (.ref 93), hE P "is_true" 305 (.ref 100), hE P "sign_of" 313 (.ref 107), hE P "ONE" 318 (.ref 108), hE P "MOST_POWER" 320 (.int 9999 319), hE P "d_negated" 327 (.ref 115), hE P "alike" 336 (.ref 122), hE P "d_add" 348 (.ref 129), hE P "d_sub" 357 (.ref 136), hE P "d_mul" 366 (.ref 143), hE P "with_rest" 375 (.ref 150), hE P "d_div" 389 (.ref 157), hE P "d_compare" 400 (.ref 164), hE P "d_power" 412 (.ref 171), hE P "square_or_end" 420 (.ref 178), hE P "is_whole" 429 (.ref 185), hE P "settled" 438 (.ref 192), hE P "whole_reckoned" 449 (.ref 199), hE P "cut_quotient" 458 (.ref 206), hE P "cut_rest" 466 (.ref 213), hE P "exponent_of" 473 (.ref 220), hE P "whole_power" 483 (.ref 227), hE P "raised" 494 (.ref 234), hE P "reckoned" 510 (.ref 241), hE P "order_of" 518 (.ref 248), hE P "MOST_NUMBER" 522 (.int 255 521), hE P "Control" 553 (.ref 265), hE P "put_upon" 561 (.ref 276), hE P "floor_of" 569 (.ref 283)]
noncomputable def o_276 (P : Params) : Obj := hD ⟨e_276 P⟩ 47
noncomputable def o_304 (P : Params) : Obj := hC (hQ "__init__" "Control.__init__" 535 174 2 [.ref 256, .bool true, .int 181 0, .ref 257, .none, .ref 258, .ref 259, .ref 260, .int 540 0, .int 174 0, hS "/claim/cut.py" 541])
noncomputable def o_305 (P : Params) : Obj := fO (mth (nth P1 39) 0) "Control.__init__" .none (hS "basicplus.control" 519) (.ref 261)
noncomputable def e_307 (P : Params) : List DictEntry := [hE P "__module__" 530 (hS "basicplus.control" 519), hE P "__firstlineno__" 534 (.int 172 533), hE P "__init__" 542 (.ref 262), hE P "__static_attributes__" 546 (.ref 263), hE P "__dict__" 548 (.ref 266), hE P "__weakref__" 550 (.ref 267), hE P "__doc__" 551 .none]
noncomputable def o_307 (P : Params) : Obj := hD ⟨e_307 P⟩ 4
noncomputable def o_308 (P : Params) : Obj := Obj.mk (.type "type") none (Data.cls (ClassData.mk (Str.ofString "Control") [.type "object"] [.ref 265, .type "object"] 264 (Str.ofString "Control") true [] [] false none false)) #[none, none, some (hS "Control" 523), some (hS "Control" 531), some (.builtin "object.__new__"), some (.bool true)]
noncomputable def o_318 (P : Params) : Obj := hC (hQ "put_upon" "put_upon" 554 178 2 [.ref 270, .bool true, .int 181 0, .ref 271, .none, .ref 272, .ref 273, .ref 274, .int 559 0, .int 178 0, hS "/claim/cut.py" 560])
noncomputable def o_319 (P : Params) : Obj := fO (nth P1 40) "put_upon" .none (hS "basicplus.control" 519) (.ref 275)
noncomputable def o_325 (P : Params) : Obj := hC (hQ "floor_of" "floor_of" 562 182 1 [.ref 277, .bool true, .int 181 0, .ref 278, .none, .ref 279, .ref 280, .ref 281, .int 567 0, .int 182 0, hS "/claim/cut.py" 568])
noncomputable def o_326 (P : Params) : Obj := fO (nth P1 41) "floor_of" .none (hS "basicplus.control" 519) (.ref 282)
noncomputable def e_327 (P : Params) : List DictEntry := [hE P "__name__" 165 (hS "basicplus.flatten" 683), hE P "__doc__" 166 .none, hE P "__package__" 167 .none, hE P "__loader__" 168 (.builtin "__main__.__loader__#opaque"), hE P "__spec__" 169 .none, hE P "__annotations__" 170 (.ref 6), hE P "__builtins__" 171 (.ref 4), hE P "__file__" 173 (hS "/claim/cut.py" 172), hE P "__cached__" 174 .none, hE P "MOST_EXPONENT" 190 (.int 99 189), hE P "BasicError" 224 (.ref 34), hE P "figures_of" 233 (.ref 44), hE P "rounded_by" 244 (.ref 51), hE P "made" 256 (.ref 58), hE P "whole_near" 266 (.ref 65), hE P "fits" 274 (.ref 72), hE P "whole_of" 283 (.ref 79), hE P "decimal_of" 291 (.ref 86), hE P "is_nought" 298 (.ref 93), hE P "is_true" 305 (.ref 100), hE P "sign_of" 313 (.ref 107), hE P "ONE" 318 (.ref 108), hE P "MOST_POWER" 320 (.int 9999 319), hE P "d_negated" 327 (.ref 115), hE P "alike" 336 (.ref 122), hE P "d_add" 348 (.ref 129), hE P "d_sub" 357 (.ref 136), hE P "d_mul" 366 (.ref 143), hE P "with_rest" 375 (.ref 150), hE P "d_div" 389 (.ref 157), hE P "d_compare" 400 (.ref 164), hE P "d_power" 412 (.ref 171), hE P "square_or_end" 420 (.ref 178), hE P "is_whole" 429 (.ref 185), hE P "settled" 438 (.ref 192), hE P "whole_reckoned" 449 (.ref 199), hE P "cut_quotient" 458 (.ref 206), hE P "cut_rest" 466 (.ref 213), hE P "exponent_of" 473 (.ref 220), hE P "whole_power" 483 (.ref 227), hE P "raised" 494 (.ref 234), hE P "reckoned" 510 (.ref 241), hE P "order_of" 518 (.ref 248), hE P "MOST_NUMBER" 522 (.int 255 521), hE P "Control" 553 (.ref 265), hE P "put_upon" 561 (.ref 276), hE P "floor_of" 569 (.ref 283), hE P "found_at" 579 (.ref 290), hE P "cut_to" 587 (.ref 297), hE P "is_past" 597 (.ref 304), hE P "for_begin" 609 (.ref 311), hE P "for_name" 618 (.ref 318), hE P "for_next" 635 (.ref 325), hE P "while_begin" 641 (.ref 330), hE P "while_end" 647 (.ref 335), hE P "wend_place" 657 (.ref 343), hE P "gosub" 665 (.ref 350), hE P "return_place" 674 (.ref 357), hE P "chosen" 682 (.ref 364)]
noncomputable def o_327 (P : Params) : Obj := hD ⟨e_327 P⟩ 59
noncomputable def o_334 (P : Params) : Obj := hC (hQ "found_at" "found_at" 570 187 3 [.ref 284, .bool true, .int 181 0, .ref 285, .none, .ref 286, .ref 287, .ref 288, .int 577 0, .int 187 0, hS "/claim/cut.py" 578])
noncomputable def o_335 (P : Params) : Obj := fO (nth P1 42) "found_at" .none (hS "basicplus.control" 519) (.ref 289)
noncomputable def o_341 (P : Params) : Obj := hC (hQ "cut_to" "cut_to" 580 192 2 [.ref 291, .bool true, .int 181 0, .ref 292, .none, .ref 293, .ref 294, .ref 295, .int 585 0, .int 192 0, hS "/claim/cut.py" 586])
noncomputable def o_342 (P : Params) : Obj := fO (nth P1 43) "cut_to" .none (hS "basicplus.control" 519) (.ref 296)
noncomputable def o_374 (P : Params) : Obj := hC (hQ "while_begin" "while_begin" 636 217 2 [.ref 326, .bool true, .int 181 0, .ref 327, .none, .none, .none, .ref 328, .int 639 0, .int 217 0, hS "/claim/cut.py" 640])
noncomputable def o_375 (P : Params) : Obj := fO (nth P1 48) "while_begin" .none (hS "basicplus.control" 519) (.ref 329)
noncomputable def o_379 (P : Params) : Obj := hC (hQ "while_end" "while_end" 642 224 2 [.ref 331, .bool true, .int 181 0, .ref 332, .none, .none, .none, .ref 333, .int 645 0, .int 224 0, hS "/claim/cut.py" 646])
noncomputable def o_380 (P : Params) : Obj := fO (nth P1 49) "while_end" .none (hS "basicplus.control" 519) (.ref 334)
noncomputable def o_381 (P : Params) : Obj := hT #[hS "" 648]
noncomputable def o_387 (P : Params) : Obj := hC (hQ "wend_place" "wend_place" 649 229 2 [.ref 337, .bool true, .int 181 0, .ref 338, .none, .ref 339, .ref 340, .ref 341, .int 655 0, .int 229 0, hS "/claim/cut.py" 656])
noncomputable def o_388 (P : Params) : Obj := fO (nth P1 50) "wend_place" (.ref 336) (hS "basicplus.control" 519) (.ref 342)
noncomputable def o_394 (P : Params) : Obj := hC (hQ "gosub" "gosub" 658 235 2 [.ref 344, .bool true, .int 181 0, .ref 345, .none, .ref 346, .ref 347, .ref 348, .int 663 0, .int 235 0, hS "/claim/cut.py" 664])
noncomputable def o_395 (P : Params) : Obj := fO (nth P1 51) "gosub" .none (hS "basicplus.control" 519) (.ref 349)
noncomputable def o_401 (P : Params) : Obj := hC (hQ "return_place" "return_place" 666 237 1 [.ref 351, .bool true, .int 181 0, .ref 352, .none, .ref 353, .ref 354, .ref 355, .int 672 0, .int 237 0, hS "/claim/cut.py" 673])
noncomputable def o_402 (P : Params) : Obj := fO (nth P1 52) "return_place" .none (hS "basicplus.control" 519) (.ref 356)
noncomputable def o_408 (P : Params) : Obj := hC (hQ "chosen" "chosen" 675 244 2 [.ref 358, .bool true, .int 181 0, .ref 359, .none, .ref 360, .ref 361, .ref 362, .int 680 0, .int 244 0, hS "/claim/cut.py" 681])
noncomputable def o_409 (P : Params) : Obj := fO (nth P1 53) "chosen" .none (hS "basicplus.control" 519) (.ref 363)
noncomputable def e_410 (P : Params) : List DictEntry := e_327 P ++ [hE P "Flat" 717 (.ref 381), hE P "put_row_of" 726 (.ref 392), hE P "put_if" 737 (.ref 399), hE P "put_all" 747 (.ref 406), hE P "gather" 763 (.ref 413), hE P "join_rows" 773 (.ref 420)]
noncomputable def o_410 (P : Params) : Obj := hD ⟨e_410 P⟩ 65
noncomputable def o_424 (P : Params) : Obj := hC (hQ "__init__" "Flat.__init__" 697 251 1 [.ref 372, .bool true, .int 181 0, .ref 373, .none, .ref 374, .ref 375, .ref 376, .int 701 0, .int 251 0, hS "/claim/cut.py" 702])
noncomputable def o_425 (P : Params) : Obj := fO (mth (nth P1 55) 0) "Flat.__init__" .none (hS "basicplus.flatten" 683) (.ref 377)
noncomputable def e_427 (P : Params) : List DictEntry := [hE P "__module__" 692 (hS "basicplus.flatten" 683), hE P "__firstlineno__" 696 (.int 249 695), hE P "__init__" 703 (.ref 378), hE P "__static_attributes__" 710 (.ref 379), hE P "__dict__" 712 (.ref 382), hE P "__weakref__" 714 (.ref 383), hE P "__doc__" 715 .none]
noncomputable def o_427 (P : Params) : Obj := hD ⟨e_427 P⟩ 4
noncomputable def o_428 (P : Params) : Obj := Obj.mk (.type "type") none (Data.cls (ClassData.mk (Str.ofString "Flat") [.type "object"] [.ref 381, .type "object"] 380 (Str.ofString "Flat") true [] [] false none false)) #[none, none, some (hS "Flat" 685), some (hS "Flat" 693), some (.builtin "object.__new__"), some (.bool true)]
noncomputable def o_438 (P : Params) : Obj := hC (hQ "put_row_of" "put_row_of" 718 258 3 [.ref 386, .bool true, .int 181 0, .ref 387, .none, .ref 388, .ref 389, .ref 390, .int 724 0, .int 258 0, hS "/claim/cut.py" 725])
noncomputable def o_439 (P : Params) : Obj := fO (nth P1 56) "put_row_of" .none (hS "basicplus.flatten" 683) (.ref 391)
noncomputable def o_445 (P : Params) : Obj := hC (hQ "put_if" "put_if" 727 261 3 [.ref 393, .bool true, .int 181 0, .ref 394, .none, .ref 395, .ref 396, .ref 397, .int 735 0, .int 261 0, hS "/claim/cut.py" 736])
noncomputable def o_446 (P : Params) : Obj := fO (nth P1 57) "put_if" .none (hS "basicplus.flatten" 683) (.ref 398)
noncomputable def o_452 (P : Params) : Obj := hC (hQ "put_all" "put_all" 738 271 3 [.ref 400, .bool true, .int 181 0, .ref 401, .none, .ref 402, .ref 403, .ref 404, .int 745 0, .int 271 0, hS "/claim/cut.py" 746])
noncomputable def o_453 (P : Params) : Obj := fO (nth P1 58) "put_all" .none (hS "basicplus.flatten" 683) (.ref 405)
noncomputable def o_459 (P : Params) : Obj := hC (hQ "gather" "gather" 748 277 1 [.ref 407, .bool true, .int 181 0, .ref 408, .none, .ref 409, .ref 410, .ref 411, .int 761 0, .int 277 0, hS "/claim/cut.py" 762])
noncomputable def o_460 (P : Params) : Obj := fO (nth P1 59) "gather" .none (hS "basicplus.flatten" 683) (.ref 412)
noncomputable def o_466 (P : Params) : Obj := hC (hQ "join_rows" "join_rows" 764 299 3 [.ref 414, .bool true, .int 181 0, .ref 415, .none, .ref 416, .ref 417, .ref 418, .int 771 0, .int 299 0, hS "/claim/cut.py" 772])
noncomputable def o_467 (P : Params) : Obj := fO (nth P1 60) "join_rows" .none (hS "basicplus.flatten" 683) (.ref 419)
noncomputable def e_468 (P : Params) : List DictEntry := [hE P "__name__" 165 (hS "basicplus.flow" 827), hE P "__doc__" 166 .none, hE P "__package__" 167 .none, hE P "__loader__" 168 (.builtin "__main__.__loader__#opaque"), hE P "__spec__" 169 .none, hE P "__annotations__" 170 (.ref 6), hE P "__builtins__" 171 (.ref 4), hE P "__file__" 173 (hS "/claim/cut.py" 172), hE P "__cached__" 174 .none, hE P "MOST_EXPONENT" 190 (.int 99 189), hE P "BasicError" 224 (.ref 34), hE P "figures_of" 233 (.ref 44), hE P "rounded_by" 244 (.ref 51), hE P "made" 256 (.ref 58), hE P "whole_near" 266 (.ref 65), hE P "fits" 274 (.ref 72), hE P "whole_of" 283 (.ref 79), hE P "decimal_of" 291 (.ref 86), hE P "is_nought" 298 (.ref 93), hE P "is_true" 305 (.ref 100), hE P "sign_of" 313 (.ref 107), hE P "ONE" 318 (.ref 108), hE P "MOST_POWER" 320 (.int 9999 319), hE P "d_negated" 327 (.ref 115), hE P "alike" 336 (.ref 122), hE P "d_add" 348 (.ref 129), hE P "d_sub" 357 (.ref 136), hE P "d_mul" 366 (.ref 143), hE P "with_rest" 375 (.ref 150), hE P "d_div" 389 (.ref 157), hE P "d_compare" 400 (.ref 164), hE P "d_power" 412 (.ref 171), hE P "square_or_end" 420 (.ref 178), hE P "is_whole" 429 (.ref 185), hE P "settled" 438 (.ref 192), hE P "whole_reckoned" 449 (.ref 199), hE P "cut_quotient" 458 (.ref 206), hE P "cut_rest" 466 (.ref 213), hE P "exponent_of" 473 (.ref 220), hE P "whole_power" 483 (.ref 227), hE P "raised" 494 (.ref 234), hE P "reckoned" 510 (.ref 241), hE P "order_of" 518 (.ref 248), hE P "MOST_NUMBER" 522 (.int 255 521), hE P "Control" 553 (.ref 265), hE P "put_upon" 561 (.ref 276), hE P "floor_of" 569 (.ref 283), hE P "found_at" 579 (.ref 290), hE P "cut_to" 587 (.ref 297), hE P "is_past" 597 (.ref 304), hE P "for_begin" 609 (.ref 311), hE P "for_name" 618 (.ref 318), hE P "for_next" 635 (.ref 325), hE P "while_begin" 641 (.ref 330), hE P "while_end" 647 (.ref 335), hE P "wend_place" 657 (.ref 343), hE P "gosub" 665 (.ref 350), hE P "return_place" 674 (.ref 357), hE P "chosen" 682 (.ref 364), hE P "Flat" 717 (.ref 381), hE P "put_row_of" 726 (.ref 392), hE P "put_if" 737 (.ref 399), hE P "put_all" 747 (.ref 406), hE P "gather" 763 (.ref 413), hE P "join_rows" 773 (.ref 420), hE P "end_loops" 784 (.ref 427), hE P "flatten" 794 (.ref 434), hE P "place_of" 802 (.ref 441), hE P "line_of" 810 (.ref 448), hE P "end_of_while" 818 (.ref 455), hE P "next_of_for" 826 (.ref 462), hE P "JUMPS" 835 (.ref 463), hE P "do_flow" 844 (.ref 470), hE P "do_jump" 858 (.ref 477), hE P "do_loop" 868 (.ref 484), hE P "do_for" 889 (.ref 491), hE P "next_from" 902 (.ref 498)]
noncomputable def o_468 (P : Params) : Obj := hD ⟨e_468 P⟩ 77
noncomputable def o_482 (P : Params) : Obj := hC (hQ "flatten" "flatten" 785 308 1 [.ref 428, .bool true, .int 181 0, .ref 429, .none, .ref 430, .ref 431, .ref 432, .int 792 0, .int 308 0, hS "/claim/cut.py" 793])
noncomputable def o_483 (P : Params) : Obj := fO (nth P1 62) "flatten" .none (hS "basicplus.flatten" 683) (.ref 433)
noncomputable def o_489 (P : Params) : Obj := hC (hQ "place_of" "place_of" 795 317 2 [.ref 435, .bool true, .int 181 0, .ref 436, .none, .ref 437, .ref 438, .ref 439, .int 800 0, .int 317 0, hS "/claim/cut.py" 801])
noncomputable def o_490 (P : Params) : Obj := fO (nth P1 63) "place_of" .none (hS "basicplus.flatten" 683) (.ref 440)
noncomputable def o_503 (P : Params) : Obj := hC (hQ "end_of_while" "end_of_while" 811 323 2 [.ref 449, .bool true, .int 181 0, .ref 450, .none, .ref 451, .ref 452, .ref 453, .int 816 0, .int 323 0, hS "/claim/cut.py" 817])
noncomputable def o_504 (P : Params) : Obj := fO (nth P1 65) "end_of_while" .none (hS "basicplus.flatten" 683) (.ref 454)
noncomputable def o_512 (P : Params) : Obj := hT #[hS "IFNOT" 829, hS "JUMP" 830, hS "GOTO" 831, hS "GOSUB" 832, hS "ONGO" 833, hS "RETURN" 834]
noncomputable def o_518 (P : Params) : Obj := hC (hQ "do_flow" "do_flow" 836 333 3 [.ref 464, .bool true, .int 181 0, .ref 465, .none, .ref 466, .ref 467, .ref 468, .int 842 0, .int 333 0, hS "/claim/cut.py" 843])
noncomputable def o_519 (P : Params) : Obj := fO (nth P1 69) "do_flow" .none (hS "basicplus.flow" 827) (.ref 469)
noncomputable def o_525 (P : Params) : Obj := hC (hQ "do_jump" "do_jump" 845 335 3 [.ref 471, .bool true, .int 181 0, .ref 472, .none, .ref 473, .ref 474, .ref 475, .int 856 0, .int 335 0, hS "/claim/cut.py" 857])
noncomputable def o_526 (P : Params) : Obj := fO (nth P1 70) "do_jump" .none (hS "basicplus.flow" 827) (.ref 476)
noncomputable def o_532 (P : Params) : Obj := hC (hQ "do_loop" "do_loop" 859 354 3 [.ref 478, .bool true, .int 181 0, .ref 479, .none, .ref 480, .ref 481, .ref 482, .int 866 0, .int 354 0, hS "/claim/cut.py" 867])
noncomputable def o_533 (P : Params) : Obj := fO (nth P1 71) "do_loop" .none (hS "basicplus.flow" 827) (.ref 483)
noncomputable def e_548 (P : Params) : List DictEntry := e_468 P ++ [hE P "FlowRun" 995 (.ref 557)]
noncomputable def o_548 (P : Params) : Obj := hD ⟨e_548 P⟩ 78
noncomputable def e_552 (P : Params) : List DictEntry := [hE P "__module__" 910 (hS "basicplus.flow" 827), hE P "__qualname__" 912 (hS "FlowRun" 911), hE P "__firstlineno__" 914 (.int 389 913), hE P "__init__" 926 (.ref 512), hE P "worth" 935 (.ref 519), hE P "whole" 943 (.ref 526), hE P "value_of_name" 951 (.ref 533), hE P "store" 960 (.ref 540), hE P "plus" 969 (.ref 547), hE P "go" 980 (.ref 554), hE P "__static_attributes__" 988 (.ref 555)]
noncomputable def o_552 (P : Params) : Obj := hD ⟨e_552 P⟩ 11
noncomputable def o_562 (P : Params) : Obj := hC (hQ "__init__" "FlowRun.__init__" 915 391 6 [.ref 506, .bool true, .int 181 0, .ref 507, .none, .ref 508, .ref 509, .ref 510, .int 924 0, .int 391 0, hS "/claim/cut.py" 925])
noncomputable def o_563 (P : Params) : Obj := fO (mth (nth P1 74) 0) "FlowRun.__init__" .none (hS "basicplus.flow" 827) (.ref 511)
noncomputable def o_569 (P : Params) : Obj := hC (hQ "worth" "FlowRun.worth" 927 400 2 [.ref 513, .bool true, .int 181 0, .ref 514, .none, .ref 515, .ref 516, .ref 517, .int 933 0, .int 400 0, hS "/claim/cut.py" 934])
noncomputable def o_570 (P : Params) : Obj := fO (mth (nth P1 74) 1) "FlowRun.worth" .none (hS "basicplus.flow" 827) (.ref 518)
noncomputable def o_576 (P : Params) : Obj := hC (hQ "whole" "FlowRun.whole" 936 404 2 [.ref 520, .bool true, .int 181 0, .ref 521, .none, .ref 522, .ref 523, .ref 524, .int 941 0, .int 404 0, hS "/claim/cut.py" 942])
noncomputable def o_577 (P : Params) : Obj := fO (mth (nth P1 74) 2) "FlowRun.whole" .none (hS "basicplus.flow" 827) (.ref 525)
noncomputable def o_583 (P : Params) : Obj := hC (hQ "value_of_name" "FlowRun.value_of_name" 944 407 2 [.ref 527, .bool true, .int 181 0, .ref 528, .none, .ref 529, .ref 530, .ref 531, .int 949 0, .int 407 0, hS "/claim/cut.py" 950])
noncomputable def o_584 (P : Params) : Obj := fO (mth (nth P1 74) 3) "FlowRun.value_of_name" .none (hS "basicplus.flow" 827) (.ref 532)
noncomputable def o_590 (P : Params) : Obj := hC (hQ "store" "FlowRun.store" 952 410 3 [.ref 534, .bool true, .int 181 0, .ref 535, .none, .ref 536, .ref 537, .ref 538, .int 958 0, .int 410 0, hS "/claim/cut.py" 959])
noncomputable def o_591 (P : Params) : Obj := fO (mth (nth P1 74) 4) "FlowRun.store" .none (hS "basicplus.flow" 827) (.ref 539)
noncomputable def o_604 (P : Params) : Obj := hC (hQ "go" "FlowRun.go" 970 416 3 [.ref 548, .bool true, .int 181 0, .ref 549, .none, .ref 550, .ref 551, .ref 552, .int 978 0, .int 416 0, hS "/claim/cut.py" 979])
noncomputable def o_605 (P : Params) : Obj := fO (mth (nth P1 74) 6) "FlowRun.go" .none (hS "basicplus.flow" 827) (.ref 553)
noncomputable def e_607 (P : Params) : List DictEntry := [hE P "__module__" 910 (hS "basicplus.flow" 827), hE P "__firstlineno__" 914 (.int 389 913), hE P "__init__" 926 (.ref 512), hE P "worth" 935 (.ref 519), hE P "whole" 943 (.ref 526), hE P "value_of_name" 951 (.ref 533), hE P "store" 960 (.ref 540), hE P "plus" 969 (.ref 547), hE P "go" 980 (.ref 554), hE P "__static_attributes__" 988 (.ref 555), hE P "__dict__" 990 (.ref 558), hE P "__weakref__" 992 (.ref 559), hE P "__doc__" 993 .none]
noncomputable def o_607 (P : Params) : Obj := hD ⟨e_607 P⟩ 4
noncomputable def o_608 (P : Params) : Obj := Obj.mk (.type "type") none (Data.cls (ClassData.mk (Str.ofString "FlowRun") [.type "object"] [.ref 557, .type "object"] 556 (Str.ofString "FlowRun") true [] [] false none false)) #[none, none, some (hS "FlowRun" 903), some (hS "FlowRun" 911), some (.builtin "object.__new__"), some (.bool true)]
noncomputable def e_613 (P : Params) : List DictEntry := [hE P "__name__" 165 (hS "law_sm0007_02" 996), hE P "__doc__" 166 .none, hE P "__package__" 167 .none, hE P "__loader__" 168 (.builtin "__main__.__loader__#opaque"), hE P "__spec__" 169 .none, hE P "__annotations__" 170 (.ref 6), hE P "__builtins__" 171 (.ref 4), hE P "__file__" 173 (hS "/claim/cut.py" 172), hE P "__cached__" 174 .none, hE P "MOST_EXPONENT" 190 (.int 99 189), hE P "BasicError" 224 (.ref 34), hE P "figures_of" 233 (.ref 44), hE P "rounded_by" 244 (.ref 51), hE P "made" 256 (.ref 58), hE P "whole_near" 266 (.ref 65), hE P "fits" 274 (.ref 72), hE P "whole_of" 283 (.ref 79), hE P "decimal_of" 291 (.ref 86), hE P "is_nought" 298 (.ref 93), hE P "is_true" 305 (.ref 100), hE P "sign_of" 313 (.ref 107), hE P "ONE" 318 (.ref 108), hE P "MOST_POWER" 320 (.int 9999 319), hE P "d_negated" 327 (.ref 115), hE P "alike" 336 (.ref 122), hE P "d_add" 348 (.ref 129), hE P "d_sub" 357 (.ref 136), hE P "d_mul" 366 (.ref 143), hE P "with_rest" 375 (.ref 150), hE P "d_div" 389 (.ref 157), hE P "d_compare" 400 (.ref 164), hE P "d_power" 412 (.ref 171), hE P "square_or_end" 420 (.ref 178), hE P "is_whole" 429 (.ref 185), hE P "settled" 438 (.ref 192), hE P "whole_reckoned" 449 (.ref 199), hE P "cut_quotient" 458 (.ref 206), hE P "cut_rest" 466 (.ref 213), hE P "exponent_of" 473 (.ref 220), hE P "whole_power" 483 (.ref 227), hE P "raised" 494 (.ref 234), hE P "reckoned" 510 (.ref 241), hE P "order_of" 518 (.ref 248), hE P "MOST_NUMBER" 522 (.int 255 521), hE P "Control" 553 (.ref 265), hE P "put_upon" 561 (.ref 276), hE P "floor_of" 569 (.ref 283), hE P "found_at" 579 (.ref 290), hE P "cut_to" 587 (.ref 297), hE P "is_past" 597 (.ref 304), hE P "for_begin" 609 (.ref 311), hE P "for_name" 618 (.ref 318), hE P "for_next" 635 (.ref 325), hE P "while_begin" 641 (.ref 330), hE P "while_end" 647 (.ref 335), hE P "wend_place" 657 (.ref 343), hE P "gosub" 665 (.ref 350), hE P "return_place" 674 (.ref 357), hE P "chosen" 682 (.ref 364), hE P "Flat" 717 (.ref 381), hE P "put_row_of" 726 (.ref 392), hE P "put_if" 737 (.ref 399), hE P "put_all" 747 (.ref 406), hE P "gather" 763 (.ref 413), hE P "join_rows" 773 (.ref 420), hE P "end_loops" 784 (.ref 427), hE P "flatten" 794 (.ref 434), hE P "place_of" 802 (.ref 441), hE P "line_of" 810 (.ref 448), hE P "end_of_while" 818 (.ref 455), hE P "next_of_for" 826 (.ref 462), hE P "JUMPS" 835 (.ref 463), hE P "do_flow" 844 (.ref 470), hE P "do_jump" 858 (.ref 477), hE P "do_loop" 868 (.ref 484), hE P "do_for" 889 (.ref 491), hE P "next_from" 902 (.ref 498), hE P "FlowRun" 995 (.ref 557), hE P "_law_take" 1007 (.ref 568), hE P "_law_let" 1015 (.ref 575), hE P "_law_worth" 1027 (.ref 582), hE P "_law_back" 1036 (.ref 589), hE P "_law_returned" 1042 (.ref 594), hE P "_law_gone_to" 1054 (.ref 601), hE P "_law_led" 1060 (.ref 606), hE P "_law_program" 1074 (.ref 613), hE P "_law_gone" 1084 (.ref 620), hE P "_law_piles_right" 1090 (.ref 625), hE P "law" 1096 (.ref 630)]
noncomputable def o_613 (P : Params) : Obj := hD ⟨e_613 P⟩ 89
noncomputable def o_620 (P : Params) : Obj := hC (hQ "_law_take" "_law_take" 998 433 2 [.ref 562, .bool true, .int 181 0, .ref 563, .none, .ref 564, .ref 565, .ref 566, .int 1005 0, .int 433 0, hS "/claim/cut.py" 1006])
noncomputable def o_621 (P : Params) : Obj := fO (nth P1 76) "_law_take" .none (hS "law_sm0007_02" 996) (.ref 567)
noncomputable def o_627 (P : Params) : Obj := hC (hQ "_law_let" "_law_let" 1008 438 2 [.ref 569, .bool true, .int 181 0, .ref 570, .none, .ref 571, .ref 572, .ref 573, .int 1013 0, .int 438 0, hS "/claim/cut.py" 1014])
noncomputable def o_628 (P : Params) : Obj := fO (nth P1 77) "_law_let" .none (hS "law_sm0007_02" 996) (.ref 574)
noncomputable def o_634 (P : Params) : Obj := hC (hQ "_law_worth" "_law_worth" 1016 440 2 [.ref 576, .bool true, .int 181 0, .ref 577, .none, .ref 578, .ref 579, .ref 580, .int 1025 0, .int 440 0, hS "/claim/cut.py" 1026])
noncomputable def o_635 (P : Params) : Obj := fO (nth P1 78) "_law_worth" .none (hS "law_sm0007_02" 996) (.ref 581)
noncomputable def o_641 (P : Params) : Obj := hC (hQ "_law_back" "_law_back" 1028 454 2 [.ref 583, .bool true, .int 181 0, .ref 584, .none, .ref 585, .ref 586, .ref 587, .int 1034 0, .int 454 0, hS "/claim/cut.py" 1035])
noncomputable def o_642 (P : Params) : Obj := fO (nth P1 79) "_law_back" .none (hS "law_sm0007_02" 996) (.ref 588)
noncomputable def o_646 (P : Params) : Obj := hC (hQ "_law_returned" "_law_returned" 1037 457 1 [.ref 590, .bool true, .int 181 0, .ref 591, .none, .none, .none, .ref 592, .int 1040 0, .int 457 0, hS "/claim/cut.py" 1041])
noncomputable def o_647 (P : Params) : Obj := fO (nth P1 80) "_law_returned" .none (hS "law_sm0007_02" 996) (.ref 593)
noncomputable def o_653 (P : Params) : Obj := hC (hQ "_law_gone_to" "_law_gone_to" 1043 460 4 [.ref 595, .bool true, .int 181 0, .ref 596, .none, .ref 597, .ref 598, .ref 599, .int 1052 0, .int 460 0, hS "/claim/cut.py" 1053])
noncomputable def o_654 (P : Params) : Obj := fO (nth P1 81) "_law_gone_to" .none (hS "law_sm0007_02" 996) (.ref 600)
noncomputable def o_658 (P : Params) : Obj := hC (hQ "_law_led" "_law_led" 1055 466 3 [.ref 602, .bool true, .int 181 0, .ref 603, .none, .none, .none, .ref 604, .int 1058 0, .int 466 0, hS "/claim/cut.py" 1059])
noncomputable def o_659 (P : Params) : Obj := fO (nth P1 82) "_law_led" .none (hS "law_sm0007_02" 996) (.ref 605)
noncomputable def o_665 (P : Params) : Obj := hC (hQ "_law_program" "_law_program" 1061 487 2 [.ref 607, .bool true, .int 181 0, .ref 608, .none, .ref 609, .ref 610, .ref 611, .int 1072 0, .int 487 0, hS "/claim/cut.py" 1073])
noncomputable def o_666 (P : Params) : Obj := fO (nth P1 83) "_law_program" .none (hS "law_sm0007_02" 996) (.ref 612)
noncomputable def o_672 (P : Params) : Obj := hC (hQ "_law_gone" "_law_gone" 1075 497 2 [.ref 614, .bool true, .int 181 0, .ref 615, .none, .ref 616, .ref 617, .ref 618, .int 1082 0, .int 497 0, hS "/claim/cut.py" 1083])
noncomputable def o_673 (P : Params) : Obj := fO (nth P1 84) "_law_gone" .none (hS "law_sm0007_02" 996) (.ref 619)
noncomputable def o_677 (P : Params) : Obj := hC (hQ "_law_piles_right" "_law_piles_right" 1085 503 3 [.ref 621, .bool true, .int 181 0, .ref 622, .none, .none, .none, .ref 623, .int 1088 0, .int 503 0, hS "/claim/cut.py" 1089])
noncomputable def o_678 (P : Params) : Obj := fO (nth P1 85) "_law_piles_right" .none (hS "law_sm0007_02" 996) (.ref 624)
noncomputable def o_682 (P : Params) : Obj := hC (hQ "law" "law" 1091 514 1 [.ref 626, .bool true, .int 181 0, .ref 627, .none, .none, .none, .ref 628, .int 1094 0, .int 514 0, hS "/claim/cut.py" 1095])
noncomputable def o_683 (P : Params) : Obj := fO (nth P1 86) "law" .none (hS "law_sm0007_02" 996) (.ref 629)
noncomputable def l_46 (P : Params) : List Obj := [boot_o_0 P, boot_o_1 P, boot_o_2 P, boot_o_3 P, boot_o_4 P, boot_o_5 P, boot_o_6 P, boot_o_7 P, boot_o_8 P, boot_o_9 P, boot_o_10 P, hT #[], Obj.mk .none none (Data.fields #[]) #[], hC #[hS "<module>" 182, hS "<module>" 183, hS "/claim/cut.py" 184, .int 1 0, .int 0 0, .int 0 0, .int 0 0, .int 0 0, .ref 11, .bool false, .int 181 0, .ref 12, .none, .none, .none, .none, .int 185 0, .int 1 0, hS "/claim/cut.py" 186], Obj.mk (.type "frame") none Data.plain #[some (.ref 13), some (.ref 3), some (.ref 3), none, some (hS "__main__" 164), none, some (.ref 0)]]
noncomputable def heap_46 (P : Params) : Heap := { objs := ⟨l_46 P⟩ }
noncomputable def l_47 (P : Params) : List Obj := up (l_46 P) [] []
noncomputable def tree_47 (P : Params) : BT := brn 11 (l_47 P)
noncomputable def l_102 (P : Params) : List Obj := up (l_47 P) [(2, o_49 P), (3, o_50 P), (12, Obj.mk .none none (Data.fields #[.int 3 0, .int 0 0, .ref 21, .int 9 0, .int 0 0, .ref 43, .int 15 0, .int 0 0, .ref 50, .int 25 0, .int 0 0, .ref 57, .int 40 0, .int 0 0, .ref 64]) #[])] [hT #[.type "Exception"], Obj.mk (.type "builtin_function_or_method") none (Data.fields #[.builtin "type.__prepare__", .type "type"]) #[], o_54 P, o_55 P, hT #[], Obj.mk .none none (Data.fields #[.int 5 0, .int 4 0, .ref 30]) #[], hC #[hS "BasicError" 193, hS "BasicError" 194, hS "/claim/cut.py" 195, .int 3 0, .int 0 0, .int 0 0, .int 0 0, .int 0 0, .ref 19, .bool false, .int 181 0, .ref 20, .none, .none, .none, .none, .int 196 0, .int 3 0, hS "/claim/cut.py" 197], Obj.mk (.type "frame") none Data.plain #[some (.ref 21), some (.ref 3), some (.ref 17), none, some (hS "basicplus.values" 187), none, some (.ref 0)], o_60 P, o_61 P, hT #[hS "__class__" 207], Obj.mk .none none (Data.fields #[]) #[], hT #[hS "self" 208, hS "code" 209, hS "told" 210], hT #[], fR (mth (nth P1 2) 0) "BasicError.__init__", o_67 P, o_68 P, hT #[hS "code" 214, hS "told" 215], o_70 P, o_71 P, Obj.mk (.type "getset_descriptor") none (Data.fields #[hS "__weakref__" 218, .ref 34, .builtin "ExceptionGroup.__weakref__", .none]) #[], Obj.mk (.type "super") none (Data.fields #[.ref 34, .ref 34, .ref 34]) #[], Obj.mk (.type "builtin_function_or_method") none (Data.fields #[.builtin "object.__init_subclass__", .ref 34]) #[], hT #[], Obj.mk .none none (Data.fields #[]) #[], hT #[hS "number" 228, hS "many" 229, hS "bound" 230], hT #[], fR (nth P1 3) "figures_of", hC (hQ "figures_of" "figures_of" 225 9 1 [.ref 38, .bool true, .int 181 0, .ref 39, .none, .ref 40, .ref 41, .ref 42, .int 231 0, .int 9 0, hS "/claim/cut.py" 232]), fO (nth P1 3) "figures_of" .none (hS "basicplus.values" 187) (.ref 43), hT #[], Obj.mk .none none (Data.fields #[]) #[], hT #[hS "number" 237, hS "places" 238, hS "unit" 239, hS "found" 240, hS "rest" 241], hT #[], fR (nth P1 4) "rounded_by", hC (hQ "rounded_by" "rounded_by" 234 15 2 [.ref 45, .bool true, .int 181 0, .ref 46, .none, .ref 47, .ref 48, .ref 49, .int 242 0, .int 15 0, hS "/claim/cut.py" 243]), fO (nth P1 4) "rounded_by" .none (hS "basicplus.values" 187) (.ref 50), hT #[], Obj.mk .none none (Data.fields #[]) #[], hT #[hS "coefficient" 248, hS "exponent" 249, hS "digits" 250, hS "size" 251, hS "more" 252, hS "first" 253], hT #[], fR (nth P1 5) "made", hC (hQ "made" "made" 245 25 3 [.ref 52, .bool true, .int 181 0, .ref 53, .none, .ref 54, .ref 55, .ref 56, .int 254 0, .int 25 0, hS "/claim/cut.py" 255]), fO (nth P1 5) "made" .none (hS "basicplus.values" 187) (.ref 57), hT #[], Obj.mk .none none (Data.fields #[]) #[], hT #[hS "value" 260, hS "coefficient" 261, hS "exponent" 262, hS "size" 263], hT #[], fR (nth P1 6) "whole_near", hC (hQ "whole_near" "whole_near" 257 40 1 [.ref 59, .bool true, .int 181 0, .ref 60, .none, .ref 61, .ref 62, .ref 63, .int 264 0, .int 40 0, hS "/claim/cut.py" 265]), fO (nth P1 6) "whole_near" .none (hS "basicplus.values" 187) (.ref 64)]
noncomputable def tree_102 (P : Params) : BT := brn 11 (l_102 P)
noncomputable def l_189 (P : Params) : List Obj := up (l_102 P) [(3, o_103 P), (12, Obj.mk .none none (Data.fields #[.int 3 0, .int 0 0, .ref 21, .int 9 0, .int 0 0, .ref 43, .int 15 0, .int 0 0, .ref 50, .int 25 0, .int 0 0, .ref 57, .int 40 0, .int 0 0, .ref 64, .int 46 0, .int 0 0, .ref 71, .int 48 0, .int 0 0, .ref 78, .int 55 0, .int 0 0, .ref 85, .int 59 0, .int 0 0, .ref 92, .int 63 0, .int 0 0, .ref 99, .int 65 0, .int 0 0, .ref 106, .int 73 0, .int 0 0, .ref 114, .int 75 0, .int 0 0, .ref 121, .int 78 0, .int 0 0, .ref 128, .int 81 0, .int 0 0, .ref 135, .int 83 0, .int 0 0, .ref 142, .int 85 0, .int 0 0, .ref 149]) #[])] [hT #[], Obj.mk .none none (Data.fields #[]) #[], hT #[hS "number" 270, hS "bits" 271], hT #[], fR (nth P1 7) "fits", o_110 P, o_111 P, hT #[], Obj.mk .none none (Data.fields #[]) #[], hT #[hS "value" 278, hS "bits" 279, hS "number" 280], hT #[], fR (nth P1 8) "whole_of", o_117 P, o_118 P, hT #[], Obj.mk .none none (Data.fields #[]) #[], hT #[hS "value" 287, hS "digits" 288], hT #[], fR (nth P1 9) "decimal_of", hC (hQ "decimal_of" "decimal_of" 284 55 2 [.ref 80, .bool true, .int 181 0, .ref 81, .none, .ref 82, .ref 83, .ref 84, .int 289 0, .int 55 0, hS "/claim/cut.py" 290]), fO (nth P1 9) "decimal_of" .none (hS "basicplus.values" 187) (.ref 85), hT #[], Obj.mk .none none (Data.fields #[]) #[], hT #[hS "value" 295], hT #[], fR (nth P1 10) "is_nought", o_131 P, o_132 P, hT #[], Obj.mk .none none (Data.fields #[]) #[], hT #[hS "value" 302], hT #[], fR (nth P1 11) "is_true", o_138 P, o_139 P, hT #[], Obj.mk .none none (Data.fields #[]) #[], hT #[hS "value" 309, hS "size" 310], hT #[], fR (nth P1 12) "sign_of", hC (hQ "sign_of" "sign_of" 306 65 1 [.ref 101, .bool true, .int 181 0, .ref 102, .none, .ref 103, .ref 104, .ref 105, .int 311 0, .int 65 0, hS "/claim/cut.py" 312]), fO (nth P1 12) "sign_of" .none (hS "basicplus.values" 187) (.ref 106), hT #[.int 1 316, .int 0 317], hT #[], Obj.mk .none none (Data.fields #[]) #[], hT #[hS "a" 324], hT #[], fR (nth P1 16) "d_negated", hC (hQ "d_negated" "d_negated" 321 73 1 [.ref 109, .bool true, .int 181 0, .ref 110, .none, .ref 111, .ref 112, .ref 113, .int 325 0, .int 73 0, hS "/claim/cut.py" 326]), fO (nth P1 16) "d_negated" .none (hS "basicplus.decimals" 314) (.ref 114), hT #[], Obj.mk .none none (Data.fields #[]) #[], hT #[hS "a" 331, hS "b" 332, hS "least" 333], hT #[], fR (nth P1 17) "alike", hC (hQ "alike" "alike" 328 75 2 [.ref 116, .bool true, .int 181 0, .ref 117, .none, .ref 118, .ref 119, .ref 120, .int 334 0, .int 75 0, hS "/claim/cut.py" 335]), fO (nth P1 17) "alike" .none (hS "basicplus.decimals" 314) (.ref 121), hT #[], Obj.mk .none none (Data.fields #[]) #[], hT #[hS "a" 340, hS "b" 341, hS "digits" 342, hS "one" 343, hS "other" 344, hS "exponent" 345], hT #[], fR (nth P1 18) "d_add", hC (hQ "d_add" "d_add" 337 78 3 [.ref 123, .bool true, .int 181 0, .ref 124, .none, .ref 125, .ref 126, .ref 127, .int 346 0, .int 78 0, hS "/claim/cut.py" 347]), fO (nth P1 18) "d_add" .none (hS "basicplus.decimals" 314) (.ref 128), hT #[], Obj.mk .none none (Data.fields #[]) #[], hT #[hS "a" 352, hS "b" 353, hS "digits" 354], hT #[], fR (nth P1 19) "d_sub", hC (hQ "d_sub" "d_sub" 349 81 3 [.ref 130, .bool true, .int 181 0, .ref 131, .none, .ref 132, .ref 133, .ref 134, .int 355 0, .int 81 0, hS "/claim/cut.py" 356]), fO (nth P1 19) "d_sub" .none (hS "basicplus.decimals" 314) (.ref 135), hT #[], Obj.mk .none none (Data.fields #[]) #[], hT #[hS "a" 361, hS "b" 362, hS "digits" 363], hT #[], fR (nth P1 20) "d_mul", hC (hQ "d_mul" "d_mul" 358 83 3 [.ref 137, .bool true, .int 181 0, .ref 138, .none, .ref 139, .ref 140, .ref 141, .int 364 0, .int 83 0, hS "/claim/cut.py" 365]), fO (nth P1 20) "d_mul" .none (hS "basicplus.decimals" 314) (.ref 142), hT #[], Obj.mk .none none (Data.fields #[]) #[], hT #[hS "whole" 370, hS "rest" 371, hS "exponent" 372], hT #[], fR (nth P1 21) "with_rest", hC (hQ "with_rest" "with_rest" 367 85 3 [.ref 144, .bool true, .int 181 0, .ref 145, .none, .ref 146, .ref 147, .ref 148, .int 373 0, .int 85 0, hS "/claim/cut.py" 374]), fO (nth P1 21) "with_rest" .none (hS "basicplus.decimals" 314) (.ref 149)]
noncomputable def tree_189 (P : Params) : BT := brn 11 (l_189 P)
noncomputable def l_275 (P : Params) : List Obj := up (l_189 P) [(3, o_190 P), (12, Obj.mk .none none (Data.fields #[.int 3 0, .int 0 0, .ref 21, .int 9 0, .int 0 0, .ref 43, .int 15 0, .int 0 0, .ref 50, .int 25 0, .int 0 0, .ref 57, .int 40 0, .int 0 0, .ref 64, .int 46 0, .int 0 0, .ref 71, .int 48 0, .int 0 0, .ref 78, .int 55 0, .int 0 0, .ref 85, .int 59 0, .int 0 0, .ref 92, .int 63 0, .int 0 0, .ref 99, .int 65 0, .int 0 0, .ref 106, .int 73 0, .int 0 0, .ref 114, .int 75 0, .int 0 0, .ref 121, .int 78 0, .int 0 0, .ref 128, .int 81 0, .int 0 0, .ref 135, .int 83 0, .int 0 0, .ref 142, .int 85 0, .int 0 0, .ref 149, .int 87 0, .int 0 0, .ref 156, .int 95 0, .int 0 0, .ref 163, .int 98 0, .int 0 0, .ref 170, .int 112 0, .int 0 0, .ref 177, .int 115 0, .int 0 0, .ref 184, .int 119 0, .int 0 0, .ref 191, .int 121 0, .int 0 0, .ref 198, .int 125 0, .int 0 0, .ref 205, .int 130 0, .int 0 0, .ref 212, .int 132 0, .int 0 0, .ref 219, .int 138 0, .int 0 0, .ref 226, .int 144 0, .int 0 0, .ref 233]) #[])] [hT #[], Obj.mk .none none (Data.fields #[]) #[], hT #[hS "a" 379, hS "b" 380, hS "digits" 381, hS "size" 382, hS "below" 383, hS "places" 384, hS "whole" 385, hS "exponent" 386], hT #[], fR (nth P1 22) "d_div", hC (hQ "d_div" "d_div" 376 87 3 [.ref 151, .bool true, .int 181 0, .ref 152, .none, .ref 153, .ref 154, .ref 155, .int 387 0, .int 87 0, hS "/claim/cut.py" 388]), fO (nth P1 22) "d_div" .none (hS "basicplus.decimals" 314) (.ref 156), hT #[], Obj.mk .none none (Data.fields #[]) #[], hT #[hS "a" 393, hS "b" 394, hS "one" 395, hS "other" 396, hS "exponent" 397], hT #[], fR (nth P1 23) "d_compare", hC (hQ "d_compare" "d_compare" 390 95 2 [.ref 158, .bool true, .int 181 0, .ref 159, .none, .ref 160, .ref 161, .ref 162, .int 398 0, .int 95 0, hS "/claim/cut.py" 399]), fO (nth P1 23) "d_compare" .none (hS "basicplus.decimals" 314) (.ref 163), hT #[], Obj.mk .none none (Data.fields #[]) #[], hT #[hS "a" 404, hS "n" 405, hS "digits" 406, hS "work" 407, hS "found" 408, hS "left" 409], hT #[], fR (nth P1 24) "d_power", hC (hQ "d_power" "d_power" 401 98 3 [.ref 165, .bool true, .int 181 0, .ref 166, .none, .ref 167, .ref 168, .ref 169, .int 410 0, .int 98 0, hS "/claim/cut.py" 411]), fO (nth P1 24) "d_power" .none (hS "basicplus.decimals" 314) (.ref 170), hT #[], Obj.mk .none none (Data.fields #[]) #[], hT #[hS "a" 416, hS "work" 417], hT #[], fR (nth P1 25) "square_or_end", hC (hQ "square_or_end" "square_or_end" 413 112 2 [.ref 172, .bool true, .int 181 0, .ref 173, .none, .ref 174, .ref 175, .ref 176, .int 418 0, .int 112 0, hS "/claim/cut.py" 419]), fO (nth P1 25) "square_or_end" .none (hS "basicplus.decimals" 314) (.ref 177), hT #[], Obj.mk .none none (Data.fields #[]) #[], hT #[hS "value" 426], hT #[], fR (nth P1 27) "is_whole", hC (hQ "is_whole" "is_whole" 423 115 1 [.ref 179, .bool true, .int 181 0, .ref 180, .none, .ref 181, .ref 182, .ref 183, .int 427 0, .int 115 0, hS "/claim/cut.py" 428]), fO (nth P1 27) "is_whole" .none (hS "basicplus.arith" 421) (.ref 184), hT #[], Obj.mk .none none (Data.fields #[]) #[], hT #[hS "number" 433, hS "bits" 434, hS "digits" 435], hT #[], fR (nth P1 28) "settled", hC (hQ "settled" "settled" 430 119 3 [.ref 186, .bool true, .int 181 0, .ref 187, .none, .ref 188, .ref 189, .ref 190, .int 436 0, .int 119 0, hS "/claim/cut.py" 437]), fO (nth P1 28) "settled" .none (hS "basicplus.arith" 421) (.ref 191), hT #[], Obj.mk .none none (Data.fields #[]) #[], hT #[hS "op" 442, hS "a" 443, hS "b" 444, hS "bits" 445, hS "digits" 446], hT #[], fR (nth P1 29) "whole_reckoned", hC (hQ "whole_reckoned" "whole_reckoned" 439 121 5 [.ref 193, .bool true, .int 181 0, .ref 194, .none, .ref 195, .ref 196, .ref 197, .int 447 0, .int 121 0, hS "/claim/cut.py" 448]), fO (nth P1 29) "whole_reckoned" .none (hS "basicplus.arith" 421) (.ref 198), hT #[], Obj.mk .none none (Data.fields #[]) #[], hT #[hS "a" 453, hS "b" 454, hS "found" 455], hT #[], fR (nth P1 30) "cut_quotient", hC (hQ "cut_quotient" "cut_quotient" 450 125 2 [.ref 200, .bool true, .int 181 0, .ref 201, .none, .ref 202, .ref 203, .ref 204, .int 456 0, .int 125 0, hS "/claim/cut.py" 457]), fO (nth P1 30) "cut_quotient" .none (hS "basicplus.arith" 421) (.ref 205), hT #[], Obj.mk .none none (Data.fields #[]) #[], hT #[hS "a" 462, hS "b" 463], hT #[], fR (nth P1 31) "cut_rest", hC (hQ "cut_rest" "cut_rest" 459 130 2 [.ref 207, .bool true, .int 181 0, .ref 208, .none, .ref 209, .ref 210, .ref 211, .int 464 0, .int 130 0, hS "/claim/cut.py" 465]), fO (nth P1 31) "cut_rest" .none (hS "basicplus.arith" 421) (.ref 212), hT #[], Obj.mk .none none (Data.fields #[]) #[], hT #[hS "value" 470], hT #[], fR (nth P1 32) "exponent_of", hC (hQ "exponent_of" "exponent_of" 467 132 1 [.ref 214, .bool true, .int 181 0, .ref 215, .none, .ref 216, .ref 217, .ref 218, .int 471 0, .int 132 0, hS "/claim/cut.py" 472]), fO (nth P1 32) "exponent_of" .none (hS "basicplus.arith" 421) (.ref 219), hT #[], Obj.mk .none none (Data.fields #[]) #[], hT #[hS "a" 477, hS "n" 478, hS "bits" 479, hS "digits" 480], hT #[], fR (nth P1 33) "whole_power", hC (hQ "whole_power" "whole_power" 474 138 4 [.ref 221, .bool true, .int 181 0, .ref 222, .none, .ref 223, .ref 224, .ref 225, .int 481 0, .int 138 0, hS "/claim/cut.py" 482]), fO (nth P1 33) "whole_power" .none (hS "basicplus.arith" 421) (.ref 226), hT #[], Obj.mk .none none (Data.fields #[]) #[], hT #[hS "a" 487, hS "b" 488, hS "bits" 489, hS "digits" 490, hS "n" 491], hT #[], fR (nth P1 34) "raised", hC (hQ "raised" "raised" 484 144 4 [.ref 228, .bool true, .int 181 0, .ref 229, .none, .ref 230, .ref 231, .ref 232, .int 492 0, .int 144 0, hS "/claim/cut.py" 493]), fO (nth P1 34) "raised" .none (hS "basicplus.arith" 421) (.ref 233)]
noncomputable def tree_275 (P : Params) : BT := brn 11 (l_275 P)
noncomputable def l_326 (P : Params) : List Obj := up (l_275 P) [(3, o_276 P), (12, Obj.mk .none none (Data.fields #[.int 3 0, .int 0 0, .ref 21, .int 9 0, .int 0 0, .ref 43, .int 15 0, .int 0 0, .ref 50, .int 25 0, .int 0 0, .ref 57, .int 40 0, .int 0 0, .ref 64, .int 46 0, .int 0 0, .ref 71, .int 48 0, .int 0 0, .ref 78, .int 55 0, .int 0 0, .ref 85, .int 59 0, .int 0 0, .ref 92, .int 63 0, .int 0 0, .ref 99, .int 65 0, .int 0 0, .ref 106, .int 73 0, .int 0 0, .ref 114, .int 75 0, .int 0 0, .ref 121, .int 78 0, .int 0 0, .ref 128, .int 81 0, .int 0 0, .ref 135, .int 83 0, .int 0 0, .ref 142, .int 85 0, .int 0 0, .ref 149, .int 87 0, .int 0 0, .ref 156, .int 95 0, .int 0 0, .ref 163, .int 98 0, .int 0 0, .ref 170, .int 112 0, .int 0 0, .ref 177, .int 115 0, .int 0 0, .ref 184, .int 119 0, .int 0 0, .ref 191, .int 121 0, .int 0 0, .ref 198, .int 125 0, .int 0 0, .ref 205, .int 130 0, .int 0 0, .ref 212, .int 132 0, .int 0 0, .ref 219, .int 138 0, .int 0 0, .ref 226, .int 144 0, .int 0 0, .ref 233, .int 149 0, .int 0 0, .ref 240, .int 164 0, .int 0 0, .ref 247, .int 172 0, .int 0 0, .ref 254, .int 178 0, .int 0 0, .ref 275, .int 182 0, .int 0 0, .ref 282]) #[])] [hT #[], Obj.mk .none none (Data.fields #[]) #[], hT #[hS "op" 498, hS "a" 499, hS "b" 500, hS "bits" 501, hS "digits" 502, hS "is_first" 503, hS "is_second" 504, hS "work" 505, hS "one" 506, hS "other" 507], hT #[], fR (nth P1 35) "reckoned", hC (hQ "reckoned" "reckoned" 495 149 5 [.ref 235, .bool true, .int 181 0, .ref 236, .none, .ref 237, .ref 238, .ref 239, .int 508 0, .int 149 0, hS "/claim/cut.py" 509]), fO (nth P1 35) "reckoned" .none (hS "basicplus.arith" 421) (.ref 240), hT #[], Obj.mk .none none (Data.fields #[]) #[], hT #[hS "a" 514, hS "b" 515], hT #[], fR (nth P1 36) "order_of", hC (hQ "order_of" "order_of" 511 164 2 [.ref 242, .bool true, .int 181 0, .ref 243, .none, .ref 244, .ref 245, .ref 246, .int 516 0, .int 164 0, hS "/claim/cut.py" 517]), fO (nth P1 36) "order_of" .none (hS "basicplus.arith" 421) (.ref 247), hT #[], Obj.mk (.type "builtin_function_or_method") none (Data.fields #[.builtin "type.__prepare__", .type "type"]) #[], hD #[hE P "__module__" 530 (hS "basicplus.control" 519), hE P "__qualname__" 532 (hS "Control" 531), hE P "__firstlineno__" 534 (.int 172 533), hE P "__init__" 542 (.ref 262), hE P "__static_attributes__" 546 (.ref 263)] 5, hT #[], Obj.mk .none none (Data.fields #[.int 174 0, .int 4 0, .ref 261]) #[], hC #[hS "Control" 525, hS "Control" 526, hS "/claim/cut.py" 527, .int 172 0, .int 0 0, .int 0 0, .int 0 0, .int 0 0, .ref 252, .bool false, .int 181 0, .ref 253, .none, .none, .none, .none, .int 528 0, .int 172 0, hS "/claim/cut.py" 529], Obj.mk (.type "frame") none Data.plain #[some (.ref 254), some (.ref 3), some (.ref 251), none, some (hS "basicplus.control" 519), none, some (.ref 0)], hT #[], Obj.mk .none none (Data.fields #[]) #[], hT #[hS "self" 538, hS "most" 539], hT #[], fR (mth (nth P1 39) 0) "Control.__init__", o_304 P, o_305 P, hT #[hS "failed_at" 543, hS "most" 544, hS "pile" 545], o_307 P, o_308 P, Obj.mk (.type "getset_descriptor") none (Data.fields #[hS "__dict__" 547, .ref 265, .builtin "function.__dict__", .builtin "function.__dict__#set"]) #[], Obj.mk (.type "getset_descriptor") none (Data.fields #[hS "__weakref__" 549, .ref 265, .builtin "ExceptionGroup.__weakref__", .none]) #[], Obj.mk (.type "super") none (Data.fields #[.ref 265, .ref 265, .ref 265]) #[], Obj.mk (.type "builtin_function_or_method") none (Data.fields #[.builtin "object.__init_subclass__", .ref 265]) #[], hT #[], Obj.mk .none none (Data.fields #[]) #[], hT #[hS "control" 557, hS "entry" 558], hT #[], fR (nth P1 40) "put_upon", o_318 P, o_319 P, hT #[], Obj.mk .none none (Data.fields #[]) #[], hT #[hS "pile" 565, hS "at" 566], hT #[], fR (nth P1 41) "floor_of", o_325 P, o_326 P]
noncomputable def tree_326 (P : Params) : BT := brn 11 (l_326 P)
noncomputable def l_409 (P : Params) : List Obj := up (l_326 P) [(3, o_327 P), (12, Obj.mk .none none (Data.fields #[.int 3 0, .int 0 0, .ref 21, .int 9 0, .int 0 0, .ref 43, .int 15 0, .int 0 0, .ref 50, .int 25 0, .int 0 0, .ref 57, .int 40 0, .int 0 0, .ref 64, .int 46 0, .int 0 0, .ref 71, .int 48 0, .int 0 0, .ref 78, .int 55 0, .int 0 0, .ref 85, .int 59 0, .int 0 0, .ref 92, .int 63 0, .int 0 0, .ref 99, .int 65 0, .int 0 0, .ref 106, .int 73 0, .int 0 0, .ref 114, .int 75 0, .int 0 0, .ref 121, .int 78 0, .int 0 0, .ref 128, .int 81 0, .int 0 0, .ref 135, .int 83 0, .int 0 0, .ref 142, .int 85 0, .int 0 0, .ref 149, .int 87 0, .int 0 0, .ref 156, .int 95 0, .int 0 0, .ref 163, .int 98 0, .int 0 0, .ref 170, .int 112 0, .int 0 0, .ref 177, .int 115 0, .int 0 0, .ref 184, .int 119 0, .int 0 0, .ref 191, .int 121 0, .int 0 0, .ref 198, .int 125 0, .int 0 0, .ref 205, .int 130 0, .int 0 0, .ref 212, .int 132 0, .int 0 0, .ref 219, .int 138 0, .int 0 0, .ref 226, .int 144 0, .int 0 0, .ref 233, .int 149 0, .int 0 0, .ref 240, .int 164 0, .int 0 0, .ref 247, .int 172 0, .int 0 0, .ref 254, .int 178 0, .int 0 0, .ref 275, .int 182 0, .int 0 0, .ref 282, .int 187 0, .int 0 0, .ref 289, .int 192 0, .int 0 0, .ref 296, .int 194 0, .int 0 0, .ref 303, .int 196 0, .int 0 0, .ref 310, .int 201 0, .int 0 0, .ref 317, .int 206 0, .int 0 0, .ref 324, .int 217 0, .int 0 0, .ref 329, .int 224 0, .int 0 0, .ref 334, .int 229 0, .int 0 0, .ref 342, .int 235 0, .int 0 0, .ref 349, .int 237 0, .int 0 0, .ref 356, .int 244 0, .int 0 0, .ref 363]) #[])] [hT #[], Obj.mk .none none (Data.fields #[]) #[], hT #[hS "pile" 573, hS "kind" 574, hS "name" 575, hS "at" 576], hT #[], fR (nth P1 42) "found_at", o_334 P, o_335 P, hT #[], Obj.mk .none none (Data.fields #[]) #[], hT #[hS "control" 583, hS "many" 584], hT #[], fR (nth P1 43) "cut_to", o_341 P, o_342 P, hT #[], Obj.mk .none none (Data.fields #[]) #[], hT #[hS "value" 591, hS "limit" 592, hS "step" 593, hS "order" 594], hT #[], fR (nth P1 44) "is_past", hC (hQ "is_past" "is_past" 588 194 4 [.ref 298, .bool true, .int 181 0, .ref 299, .none, .ref 300, .ref 301, .ref 302, .int 595 0, .int 194 0, hS "/claim/cut.py" 596]), fO (nth P1 44) "is_past" .none (hS "basicplus.control" 519) (.ref 303), hT #[], Obj.mk .none none (Data.fields #[]) #[], hT #[hS "control" 601, hS "name" 602, hS "place" 603, hS "limit" 604, hS "step" 605, hS "at" 606], hT #[], fR (nth P1 45) "for_begin", hC (hQ "for_begin" "for_begin" 598 196 5 [.ref 305, .bool true, .int 181 0, .ref 306, .none, .ref 307, .ref 308, .ref 309, .int 607 0, .int 196 0, hS "/claim/cut.py" 608]), fO (nth P1 45) "for_begin" .none (hS "basicplus.control" 519) (.ref 310), hT #[], Obj.mk .none none (Data.fields #[]) #[], hT #[hS "control" 613, hS "name" 614, hS "at" 615], hT #[], fR (nth P1 46) "for_name", hC (hQ "for_name" "for_name" 610 201 2 [.ref 312, .bool true, .int 181 0, .ref 313, .none, .ref 314, .ref 315, .ref 316, .int 616 0, .int 201 0, hS "/claim/cut.py" 617]), fO (nth P1 46) "for_name" .none (hS "basicplus.control" 519) (.ref 317), hT #[], Obj.mk .none none (Data.fields #[]) #[], hT #[hS "control" 622, hS "name" 623, hS "value" 624, hS "add" 625, hS "order" 626, hS "at" 627, hS "kind" 628, hS "word" 629, hS "place" 630, hS "limit" 631, hS "step" 632], hT #[], fR (nth P1 47) "for_next", hC (hQ "for_next" "for_next" 619 206 5 [.ref 319, .bool true, .int 181 0, .ref 320, .none, .ref 321, .ref 322, .ref 323, .int 633 0, .int 206 0, hS "/claim/cut.py" 634]), fO (nth P1 47) "for_next" .none (hS "basicplus.control" 519) (.ref 324), hT #[], Obj.mk .none none (Data.fields #[]) #[], fR (nth P1 48) "while_begin", o_374 P, o_375 P, hT #[], Obj.mk .none none (Data.fields #[]) #[], fR (nth P1 49) "while_end", o_379 P, o_380 P, o_381 P, hT #[], Obj.mk .none none (Data.fields #[]) #[], hT #[hS "control" 652, hS "place" 653, hS "at" 654], hT #[], fR (nth P1 50) "wend_place", o_387 P, o_388 P, hT #[], Obj.mk .none none (Data.fields #[]) #[], hT #[hS "control" 661, hS "place" 662], hT #[], fR (nth P1 51) "gosub", o_394 P, o_395 P, hT #[], Obj.mk .none none (Data.fields #[]) #[], hT #[hS "control" 669, hS "many" 670, hS "place" 671], hT #[], fR (nth P1 52) "return_place", o_401 P, o_402 P, hT #[], Obj.mk .none none (Data.fields #[]) #[], hT #[hS "number" 678, hS "many" 679], hT #[], fR (nth P1 53) "chosen", o_408 P, o_409 P]
noncomputable def tree_409 (P : Params) : BT := brn 11 (l_409 P)
noncomputable def l_467 (P : Params) : List Obj := up (l_409 P) [(3, o_410 P), (12, Obj.mk .none none (Data.fields #[.int 3 0, .int 0 0, .ref 21, .int 9 0, .int 0 0, .ref 43, .int 15 0, .int 0 0, .ref 50, .int 25 0, .int 0 0, .ref 57, .int 40 0, .int 0 0, .ref 64, .int 46 0, .int 0 0, .ref 71, .int 48 0, .int 0 0, .ref 78, .int 55 0, .int 0 0, .ref 85, .int 59 0, .int 0 0, .ref 92, .int 63 0, .int 0 0, .ref 99, .int 65 0, .int 0 0, .ref 106, .int 73 0, .int 0 0, .ref 114, .int 75 0, .int 0 0, .ref 121, .int 78 0, .int 0 0, .ref 128, .int 81 0, .int 0 0, .ref 135, .int 83 0, .int 0 0, .ref 142, .int 85 0, .int 0 0, .ref 149, .int 87 0, .int 0 0, .ref 156, .int 95 0, .int 0 0, .ref 163, .int 98 0, .int 0 0, .ref 170, .int 112 0, .int 0 0, .ref 177, .int 115 0, .int 0 0, .ref 184, .int 119 0, .int 0 0, .ref 191, .int 121 0, .int 0 0, .ref 198, .int 125 0, .int 0 0, .ref 205, .int 130 0, .int 0 0, .ref 212, .int 132 0, .int 0 0, .ref 219, .int 138 0, .int 0 0, .ref 226, .int 144 0, .int 0 0, .ref 233, .int 149 0, .int 0 0, .ref 240, .int 164 0, .int 0 0, .ref 247, .int 172 0, .int 0 0, .ref 254, .int 178 0, .int 0 0, .ref 275, .int 182 0, .int 0 0, .ref 282, .int 187 0, .int 0 0, .ref 289, .int 192 0, .int 0 0, .ref 296, .int 194 0, .int 0 0, .ref 303, .int 196 0, .int 0 0, .ref 310, .int 201 0, .int 0 0, .ref 317, .int 206 0, .int 0 0, .ref 324, .int 217 0, .int 0 0, .ref 329, .int 224 0, .int 0 0, .ref 334, .int 229 0, .int 0 0, .ref 342, .int 235 0, .int 0 0, .ref 349, .int 237 0, .int 0 0, .ref 356, .int 244 0, .int 0 0, .ref 363, .int 249 0, .int 0 0, .ref 370, .int 258 0, .int 0 0, .ref 391, .int 261 0, .int 0 0, .ref 398, .int 271 0, .int 0 0, .ref 405, .int 277 0, .int 0 0, .ref 412, .int 299 0, .int 0 0, .ref 419]) #[])] [hT #[], Obj.mk (.type "builtin_function_or_method") none (Data.fields #[.builtin "type.__prepare__", .type "type"]) #[], hD #[hE P "__module__" 692 (hS "basicplus.flatten" 683), hE P "__qualname__" 694 (hS "Flat" 693), hE P "__firstlineno__" 696 (.int 249 695), hE P "__init__" 703 (.ref 378), hE P "__static_attributes__" 710 (.ref 379)] 5, hT #[], Obj.mk .none none (Data.fields #[.int 251 0, .int 4 0, .ref 377]) #[], hC #[hS "Flat" 687, hS "Flat" 688, hS "/claim/cut.py" 689, .int 249 0, .int 0 0, .int 0 0, .int 0 0, .int 0 0, .ref 368, .bool false, .int 181 0, .ref 369, .none, .none, .none, .none, .int 690 0, .int 249 0, hS "/claim/cut.py" 691], Obj.mk (.type "frame") none Data.plain #[some (.ref 370), some (.ref 3), some (.ref 367), none, some (hS "basicplus.flatten" 683), none, some (.ref 0)], hT #[], Obj.mk .none none (Data.fields #[]) #[], hT #[hS "self" 700], hT #[], fR (mth (nth P1 55) 0) "Flat.__init__", o_424 P, o_425 P, hT #[hS "data" 704, hS "fns" 705, hS "loops" 706, hS "pairs" 707, hS "places" 708, hS "rows" 709], o_427 P, o_428 P, Obj.mk (.type "getset_descriptor") none (Data.fields #[hS "__dict__" 711, .ref 381, .builtin "function.__dict__", .builtin "function.__dict__#set"]) #[], Obj.mk (.type "getset_descriptor") none (Data.fields #[hS "__weakref__" 713, .ref 381, .builtin "ExceptionGroup.__weakref__", .none]) #[], Obj.mk (.type "super") none (Data.fields #[.ref 381, .ref 381, .ref 381]) #[], Obj.mk (.type "builtin_function_or_method") none (Data.fields #[.builtin "object.__init_subclass__", .ref 381]) #[], hT #[], Obj.mk .none none (Data.fields #[]) #[], hT #[hS "flat" 721, hS "line" 722, hS "statement" 723], hT #[], fR (nth P1 56) "put_row_of", o_438 P, o_439 P, hT #[], Obj.mk .none none (Data.fields #[]) #[], hT #[hS "flat" 730, hS "line" 731, hS "statement" 732, hS "test" 733, hS "skip" 734], hT #[], fR (nth P1 57) "put_if", o_445 P, o_446 P, hT #[], Obj.mk .none none (Data.fields #[]) #[], hT #[hS "flat" 741, hS "line" 742, hS "statements" 743, hS "statement" 744], hT #[], fR (nth P1 58) "put_all", o_452 P, o_453 P, hT #[], Obj.mk .none none (Data.fields #[]) #[], hT #[hS "flat" 751, hS "whiles" 752, hS "fors" 753, hS "heads" 754, hS "at" 755, hS "pair" 756, hS "line" 757, hS "statement" 758, hS "word" 759, hS "text" 760], hT #[], fR (nth P1 59) "gather", o_459 P, o_460 P, hT #[], Obj.mk .none none (Data.fields #[]) #[], hT #[hS "flat" 767, hS "open_rows" 768, hS "at" 769, hS "begin" 770], hT #[], fR (nth P1 60) "join_rows", o_466 P, o_467 P]
noncomputable def tree_467 (P : Params) : BT := brn 11 (l_467 P)
noncomputable def l_547 (P : Params) : List Obj := up (l_467 P) [(3, o_468 P), (12, Obj.mk .none none (Data.fields #[.int 3 0, .int 0 0, .ref 21, .int 9 0, .int 0 0, .ref 43, .int 15 0, .int 0 0, .ref 50, .int 25 0, .int 0 0, .ref 57, .int 40 0, .int 0 0, .ref 64, .int 46 0, .int 0 0, .ref 71, .int 48 0, .int 0 0, .ref 78, .int 55 0, .int 0 0, .ref 85, .int 59 0, .int 0 0, .ref 92, .int 63 0, .int 0 0, .ref 99, .int 65 0, .int 0 0, .ref 106, .int 73 0, .int 0 0, .ref 114, .int 75 0, .int 0 0, .ref 121, .int 78 0, .int 0 0, .ref 128, .int 81 0, .int 0 0, .ref 135, .int 83 0, .int 0 0, .ref 142, .int 85 0, .int 0 0, .ref 149, .int 87 0, .int 0 0, .ref 156, .int 95 0, .int 0 0, .ref 163, .int 98 0, .int 0 0, .ref 170, .int 112 0, .int 0 0, .ref 177, .int 115 0, .int 0 0, .ref 184, .int 119 0, .int 0 0, .ref 191, .int 121 0, .int 0 0, .ref 198, .int 125 0, .int 0 0, .ref 205, .int 130 0, .int 0 0, .ref 212, .int 132 0, .int 0 0, .ref 219, .int 138 0, .int 0 0, .ref 226, .int 144 0, .int 0 0, .ref 233, .int 149 0, .int 0 0, .ref 240, .int 164 0, .int 0 0, .ref 247, .int 172 0, .int 0 0, .ref 254, .int 178 0, .int 0 0, .ref 275, .int 182 0, .int 0 0, .ref 282, .int 187 0, .int 0 0, .ref 289, .int 192 0, .int 0 0, .ref 296, .int 194 0, .int 0 0, .ref 303, .int 196 0, .int 0 0, .ref 310, .int 201 0, .int 0 0, .ref 317, .int 206 0, .int 0 0, .ref 324, .int 217 0, .int 0 0, .ref 329, .int 224 0, .int 0 0, .ref 334, .int 229 0, .int 0 0, .ref 342, .int 235 0, .int 0 0, .ref 349, .int 237 0, .int 0 0, .ref 356, .int 244 0, .int 0 0, .ref 363, .int 249 0, .int 0 0, .ref 370, .int 258 0, .int 0 0, .ref 391, .int 261 0, .int 0 0, .ref 398, .int 271 0, .int 0 0, .ref 405, .int 277 0, .int 0 0, .ref 412, .int 299 0, .int 0 0, .ref 419, .int 304 0, .int 0 0, .ref 426, .int 308 0, .int 0 0, .ref 433, .int 317 0, .int 0 0, .ref 440, .int 321 0, .int 0 0, .ref 447, .int 323 0, .int 0 0, .ref 454, .int 327 0, .int 0 0, .ref 461, .int 333 0, .int 0 0, .ref 469, .int 335 0, .int 0 0, .ref 476, .int 354 0, .int 0 0, .ref 483, .int 367 0, .int 0 0, .ref 490, .int 381 0, .int 0 0, .ref 497]) #[])] [hT #[], Obj.mk .none none (Data.fields #[]) #[], hT #[hS "flat" 777, hS "fors" 778, hS "at" 779, hS "many" 780, hS "which" 781], hT #[], fR (nth P1 61) "end_loops", hC (hQ "end_loops" "end_loops" 774 304 4 [.ref 421, .bool true, .int 181 0, .ref 422, .none, .ref 423, .ref 424, .ref 425, .int 782 0, .int 304 0, hS "/claim/cut.py" 783]), fO (nth P1 61) "end_loops" .none (hS "basicplus.flatten" 683) (.ref 426), hT #[], Obj.mk .none none (Data.fields #[]) #[], hT #[hS "parsed" 788, hS "flat" 789, hS "line" 790, hS "statements" 791], hT #[], fR (nth P1 62) "flatten", o_482 P, o_483 P, hT #[], Obj.mk .none none (Data.fields #[]) #[], hT #[hS "flat" 798, hS "line" 799], hT #[], fR (nth P1 63) "place_of", o_489 P, o_490 P, hT #[], Obj.mk .none none (Data.fields #[]) #[], hT #[hS "flat" 806, hS "row" 807], hT #[], fR (nth P1 64) "line_of", hC (hQ "line_of" "line_of" 803 321 2 [.ref 442, .bool true, .int 181 0, .ref 443, .none, .ref 444, .ref 445, .ref 446, .int 808 0, .int 321 0, hS "/claim/cut.py" 809]), fO (nth P1 64) "line_of" .none (hS "basicplus.flatten" 683) (.ref 447), hT #[], Obj.mk .none none (Data.fields #[]) #[], hT #[hS "flat" 814, hS "row" 815], hT #[], fR (nth P1 65) "end_of_while", o_503 P, o_504 P, hT #[], Obj.mk .none none (Data.fields #[]) #[], hT #[hS "flat" 822, hS "row" 823], hT #[], fR (nth P1 66) "next_of_for", hC (hQ "next_of_for" "next_of_for" 819 327 2 [.ref 456, .bool true, .int 181 0, .ref 457, .none, .ref 458, .ref 459, .ref 460, .int 824 0, .int 327 0, hS "/claim/cut.py" 825]), fO (nth P1 66) "next_of_for" .none (hS "basicplus.flatten" 683) (.ref 461), o_512 P, hT #[], Obj.mk .none none (Data.fields #[]) #[], hT #[hS "run" 839, hS "at" 840, hS "statement" 841], hT #[], fR (nth P1 69) "do_flow", o_518 P, o_519 P, hT #[], Obj.mk .none none (Data.fields #[]) #[], hT #[hS "run" 848, hS "at" 849, hS "statement" 850, hS "word" 851, hS "place" 852, hS "line" 853, hS "which" 854, hS "goal" 855], hT #[], fR (nth P1 70) "do_jump", o_525 P, o_526 P, hT #[], Obj.mk .none none (Data.fields #[]) #[], hT #[hS "run" 862, hS "at" 863, hS "statement" 864, hS "word" 865], hT #[], fR (nth P1 71) "do_loop", o_532 P, o_533 P, hT #[], Obj.mk .none none (Data.fields #[]) #[], hT #[hS "run" 872, hS "at" 873, hS "statement" 874, hS "word" 875, hS "name" 876, hS "first" 877, hS "last" 878, hS "stride" 879, hS "begin" 880, hS "limit" 881, hS "step" 882, hS "value" 883, hS "row" 884, hS "which" 885, hS "names" 886], hT #[], fR (nth P1 72) "do_for", hC (hQ "do_for" "do_for" 869 367 3 [.ref 485, .bool true, .int 181 0, .ref 486, .none, .ref 487, .ref 488, .ref 489, .int 887 0, .int 367 0, hS "/claim/cut.py" 888]), fO (nth P1 72) "do_for" .none (hS "basicplus.flow" 827) (.ref 490), hT #[], Obj.mk .none none (Data.fields #[]) #[], hT #[hS "run" 893, hS "at" 894, hS "names" 895, hS "told" 896, hS "name" 897, hS "value" 898, hS "place" 899], hT #[], fR (nth P1 73) "next_from", hC (hQ "next_from" "next_from" 890 381 3 [.ref 492, .bool true, .int 181 0, .ref 493, .none, .ref 494, .ref 495, .ref 496, .int 900 0, .int 381 0, hS "/claim/cut.py" 901]), fO (nth P1 73) "next_from" .none (hS "basicplus.flow" 827) (.ref 497)]
noncomputable def tree_547 (P : Params) : BT := brn 11 (l_547 P)
noncomputable def l_612 (P : Params) : List Obj := up (l_547 P) [(3, o_548 P), (12, Obj.mk .none none (Data.fields #[.int 3 0, .int 0 0, .ref 21, .int 9 0, .int 0 0, .ref 43, .int 15 0, .int 0 0, .ref 50, .int 25 0, .int 0 0, .ref 57, .int 40 0, .int 0 0, .ref 64, .int 46 0, .int 0 0, .ref 71, .int 48 0, .int 0 0, .ref 78, .int 55 0, .int 0 0, .ref 85, .int 59 0, .int 0 0, .ref 92, .int 63 0, .int 0 0, .ref 99, .int 65 0, .int 0 0, .ref 106, .int 73 0, .int 0 0, .ref 114, .int 75 0, .int 0 0, .ref 121, .int 78 0, .int 0 0, .ref 128, .int 81 0, .int 0 0, .ref 135, .int 83 0, .int 0 0, .ref 142, .int 85 0, .int 0 0, .ref 149, .int 87 0, .int 0 0, .ref 156, .int 95 0, .int 0 0, .ref 163, .int 98 0, .int 0 0, .ref 170, .int 112 0, .int 0 0, .ref 177, .int 115 0, .int 0 0, .ref 184, .int 119 0, .int 0 0, .ref 191, .int 121 0, .int 0 0, .ref 198, .int 125 0, .int 0 0, .ref 205, .int 130 0, .int 0 0, .ref 212, .int 132 0, .int 0 0, .ref 219, .int 138 0, .int 0 0, .ref 226, .int 144 0, .int 0 0, .ref 233, .int 149 0, .int 0 0, .ref 240, .int 164 0, .int 0 0, .ref 247, .int 172 0, .int 0 0, .ref 254, .int 178 0, .int 0 0, .ref 275, .int 182 0, .int 0 0, .ref 282, .int 187 0, .int 0 0, .ref 289, .int 192 0, .int 0 0, .ref 296, .int 194 0, .int 0 0, .ref 303, .int 196 0, .int 0 0, .ref 310, .int 201 0, .int 0 0, .ref 317, .int 206 0, .int 0 0, .ref 324, .int 217 0, .int 0 0, .ref 329, .int 224 0, .int 0 0, .ref 334, .int 229 0, .int 0 0, .ref 342, .int 235 0, .int 0 0, .ref 349, .int 237 0, .int 0 0, .ref 356, .int 244 0, .int 0 0, .ref 363, .int 249 0, .int 0 0, .ref 370, .int 258 0, .int 0 0, .ref 391, .int 261 0, .int 0 0, .ref 398, .int 271 0, .int 0 0, .ref 405, .int 277 0, .int 0 0, .ref 412, .int 299 0, .int 0 0, .ref 419, .int 304 0, .int 0 0, .ref 426, .int 308 0, .int 0 0, .ref 433, .int 317 0, .int 0 0, .ref 440, .int 321 0, .int 0 0, .ref 447, .int 323 0, .int 0 0, .ref 454, .int 327 0, .int 0 0, .ref 461, .int 333 0, .int 0 0, .ref 469, .int 335 0, .int 0 0, .ref 476, .int 354 0, .int 0 0, .ref 483, .int 367 0, .int 0 0, .ref 490, .int 381 0, .int 0 0, .ref 497, .int 389 0, .int 0 0, .ref 504]) #[])] [hT #[], Obj.mk (.type "builtin_function_or_method") none (Data.fields #[.builtin "type.__prepare__", .type "type"]) #[], o_552 P, hT #[], Obj.mk .none none (Data.fields #[.int 391 0, .int 4 0, .ref 511, .int 400 0, .int 4 0, .ref 518, .int 404 0, .int 4 0, .ref 525, .int 407 0, .int 4 0, .ref 532, .int 410 0, .int 4 0, .ref 539, .int 413 0, .int 4 0, .ref 546, .int 416 0, .int 4 0, .ref 553]) #[], hC #[hS "FlowRun" 905, hS "FlowRun" 906, hS "/claim/cut.py" 907, .int 389 0, .int 0 0, .int 0 0, .int 0 0, .int 0 0, .ref 502, .bool false, .int 181 0, .ref 503, .none, .none, .none, .none, .int 908 0, .int 389 0, hS "/claim/cut.py" 909], Obj.mk (.type "frame") none Data.plain #[some (.ref 504), some (.ref 3), some (.ref 501), none, some (hS "basicplus.flow" 827), none, some (.ref 0)], hT #[], Obj.mk .none none (Data.fields #[]) #[], hT #[hS "self" 918, hS "flat" 919, hS "values" 920, hS "worth_of" 921, hS "bits" 922, hS "digits" 923], hT #[], fR (mth (nth P1 74) 0) "FlowRun.__init__", o_562 P, o_563 P, hT #[], Obj.mk .none none (Data.fields #[]) #[], hT #[hS "self" 930, hS "tree" 931, hS "given_worth" 932], hT #[], fR (mth (nth P1 74) 1) "FlowRun.worth", o_569 P, o_570 P, hT #[], Obj.mk .none none (Data.fields #[]) #[], hT #[hS "self" 939, hS "tree" 940], hT #[], fR (mth (nth P1 74) 2) "FlowRun.whole", o_576 P, o_577 P, hT #[], Obj.mk .none none (Data.fields #[]) #[], hT #[hS "self" 947, hS "name" 948], hT #[], fR (mth (nth P1 74) 3) "FlowRun.value_of_name", o_583 P, o_584 P, hT #[], Obj.mk .none none (Data.fields #[]) #[], hT #[hS "self" 955, hS "name" 956, hS "value" 957], hT #[], fR (mth (nth P1 74) 4) "FlowRun.store", o_590 P, o_591 P, hT #[], Obj.mk .none none (Data.fields #[]) #[], hT #[hS "self" 964, hS "value" 965, hS "step" 966], hT #[], fR (mth (nth P1 74) 5) "FlowRun.plus", hC (hQ "plus" "FlowRun.plus" 961 413 3 [.ref 541, .bool true, .int 181 0, .ref 542, .none, .ref 543, .ref 544, .ref 545, .int 967 0, .int 413 0, hS "/claim/cut.py" 968]), fO (mth (nth P1 74) 5) "FlowRun.plus" .none (hS "basicplus.flow" 827) (.ref 546), hT #[], Obj.mk .none none (Data.fields #[]) #[], hT #[hS "self" 973, hS "at" 974, hS "most" 975, hS "turn" 976, hS "statement" 977], hT #[], fR (mth (nth P1 74) 6) "FlowRun.go", o_604 P, o_605 P, hT #[hS "bits" 981, hS "control" 982, hS "digits" 983, hS "flat" 984, hS "notes" 985, hS "values" 986, hS "worth_of" 987], o_607 P, o_608 P, Obj.mk (.type "getset_descriptor") none (Data.fields #[hS "__dict__" 989, .ref 557, .builtin "function.__dict__", .builtin "function.__dict__#set"]) #[], Obj.mk (.type "getset_descriptor") none (Data.fields #[hS "__weakref__" 991, .ref 557, .builtin "ExceptionGroup.__weakref__", .none]) #[], Obj.mk (.type "super") none (Data.fields #[.ref 557, .ref 557, .ref 557]) #[], Obj.mk (.type "builtin_function_or_method") none (Data.fields #[.builtin "object.__init_subclass__", .ref 557]) #[]]
noncomputable def tree_612 (P : Params) : BT := brn 11 (l_612 P)
noncomputable def l_683 (P : Params) : List Obj := up (l_612 P) [(3, o_613 P), (12, Obj.mk .none none (Data.fields #[.int 3 0, .int 0 0, .ref 21, .int 9 0, .int 0 0, .ref 43, .int 15 0, .int 0 0, .ref 50, .int 25 0, .int 0 0, .ref 57, .int 40 0, .int 0 0, .ref 64, .int 46 0, .int 0 0, .ref 71, .int 48 0, .int 0 0, .ref 78, .int 55 0, .int 0 0, .ref 85, .int 59 0, .int 0 0, .ref 92, .int 63 0, .int 0 0, .ref 99, .int 65 0, .int 0 0, .ref 106, .int 73 0, .int 0 0, .ref 114, .int 75 0, .int 0 0, .ref 121, .int 78 0, .int 0 0, .ref 128, .int 81 0, .int 0 0, .ref 135, .int 83 0, .int 0 0, .ref 142, .int 85 0, .int 0 0, .ref 149, .int 87 0, .int 0 0, .ref 156, .int 95 0, .int 0 0, .ref 163, .int 98 0, .int 0 0, .ref 170, .int 112 0, .int 0 0, .ref 177, .int 115 0, .int 0 0, .ref 184, .int 119 0, .int 0 0, .ref 191, .int 121 0, .int 0 0, .ref 198, .int 125 0, .int 0 0, .ref 205, .int 130 0, .int 0 0, .ref 212, .int 132 0, .int 0 0, .ref 219, .int 138 0, .int 0 0, .ref 226, .int 144 0, .int 0 0, .ref 233, .int 149 0, .int 0 0, .ref 240, .int 164 0, .int 0 0, .ref 247, .int 172 0, .int 0 0, .ref 254, .int 178 0, .int 0 0, .ref 275, .int 182 0, .int 0 0, .ref 282, .int 187 0, .int 0 0, .ref 289, .int 192 0, .int 0 0, .ref 296, .int 194 0, .int 0 0, .ref 303, .int 196 0, .int 0 0, .ref 310, .int 201 0, .int 0 0, .ref 317, .int 206 0, .int 0 0, .ref 324, .int 217 0, .int 0 0, .ref 329, .int 224 0, .int 0 0, .ref 334, .int 229 0, .int 0 0, .ref 342, .int 235 0, .int 0 0, .ref 349, .int 237 0, .int 0 0, .ref 356, .int 244 0, .int 0 0, .ref 363, .int 249 0, .int 0 0, .ref 370, .int 258 0, .int 0 0, .ref 391, .int 261 0, .int 0 0, .ref 398, .int 271 0, .int 0 0, .ref 405, .int 277 0, .int 0 0, .ref 412, .int 299 0, .int 0 0, .ref 419, .int 304 0, .int 0 0, .ref 426, .int 308 0, .int 0 0, .ref 433, .int 317 0, .int 0 0, .ref 440, .int 321 0, .int 0 0, .ref 447, .int 323 0, .int 0 0, .ref 454, .int 327 0, .int 0 0, .ref 461, .int 333 0, .int 0 0, .ref 469, .int 335 0, .int 0 0, .ref 476, .int 354 0, .int 0 0, .ref 483, .int 367 0, .int 0 0, .ref 490, .int 381 0, .int 0 0, .ref 497, .int 389 0, .int 0 0, .ref 504, .int 433 0, .int 0 0, .ref 567, .int 438 0, .int 0 0, .ref 574, .int 440 0, .int 0 0, .ref 581, .int 454 0, .int 0 0, .ref 588, .int 457 0, .int 0 0, .ref 593, .int 460 0, .int 0 0, .ref 600, .int 466 0, .int 0 0, .ref 605, .int 487 0, .int 0 0, .ref 612, .int 497 0, .int 0 0, .ref 619, .int 503 0, .int 0 0, .ref 624, .int 514 0, .int 0 0, .ref 629]) #[])] [hT #[], Obj.mk .none none (Data.fields #[]) #[], hT #[hS "rope" 1001, hS "many" 1002, hS "_law_usual" 1003, hS "place" 1004], hT #[], fR (nth P1 76) "_law_take", o_620 P, o_621 P, hT #[], Obj.mk .none none (Data.fields #[]) #[], hT #[hS "name" 1011, hS "tree" 1012], hT #[], fR (nth P1 77) "_law_let", o_627 P, o_628 P, hT #[], Obj.mk .none none (Data.fields #[]) #[], hT #[hS "tree" 1019, hS "values" 1020, hS "word" 1021, hS "name" 1022, hS "number" 1023, hS "here" 1024], hT #[], fR (nth P1 78) "_law_worth", o_634 P, o_635 P, hT #[], Obj.mk .none none (Data.fields #[]) #[], hT #[hS "parts" 1031, hS "at" 1032, hS "_law_lines" 1033], hT #[], fR (nth P1 79) "_law_back", o_641 P, o_642 P, hT #[], Obj.mk .none none (Data.fields #[]) #[], fR (nth P1 80) "_law_returned", o_646 P, o_647 P, hT #[], Obj.mk .none none (Data.fields #[]) #[], hT #[hS "parts" 1046, hS "at" 1047, hS "part" 1048, hS "way" 1049, hS "_law_lines" 1050, hS "goal" 1051], hT #[], fR (nth P1 81) "_law_gone_to", o_653 P, o_654 P, hT #[], Obj.mk .none none (Data.fields #[]) #[], fR (nth P1 82) "_law_led", o_658 P, o_659 P, hT #[], Obj.mk .none none (Data.fields #[]) #[], hT #[hS "parts" 1064, hS "way" 1065, hS "_law_names" 1066, hS "_law_lines" 1067, hS "lines" 1068, hS "at" 1069, hS "part" 1070, hS "summed" 1071], hT #[], fR (nth P1 83) "_law_program", o_665 P, o_666 P, hT #[], Obj.mk .none none (Data.fields #[]) #[], hT #[hS "flat" 1078, hS "most" 1079, hS "run" 1080, hS "refusal" 1081], hT #[], fR (nth P1 84) "_law_gone", o_672 P, o_673 P, hT #[], Obj.mk .none none (Data.fields #[]) #[], fR (nth P1 85) "_law_piles_right", o_677 P, o_678 P, hT #[], Obj.mk .none none (Data.fields #[]) #[], fR (nth P1 86) "law", o_682 P, o_683 P]
noncomputable def tree_683 (P : Params) : BT := brn 11 (l_683 P)
noncomputable def l_684 (P : Params) : List Obj := up (l_683 P) [] []
noncomputable def heap_684 (P : Params) : Heap := { objs := ⟨l_684 P⟩ }
end
-- HB
section
set_option maxHeartbeats 0
noncomputable def env0 : Env := ⟨pg.main.scope, mainNs, mainNs, [], Str.empty, none, .ref 13, some 14, 0⟩
noncomputable abbrev B0 : List Stmt := behindTheImports pg
noncomputable abbrev code0 : Code := .body B0 env0
noncomputable abbrev p0 : Pos := ⟨0, 0, 0, 0⟩
noncomputable abbrev p1 : Pos := ⟨514, 0, 528, 73⟩
noncomputable abbrev ann0 : Option Value := some (.ref 6)
noncomputable abbrev stT (t : Params → BT) (n k : Nat) (w : World) (os : OsState) : SharedT := { tree := t w.params, n := n, life := {}, gens := ⟨[]⟩, drawn := {}, toks := k, os := os }
noncomputable def pc (a n : Nat) : List Stmt := (B0.drop a).take n
theorem hd_pre (w : World) : (fun os => topGo treeTable pg w 11 ann0 12 { heap := boot_heap w.params, drawn := boot_drawn, toks := boot_toks, os := os } (topStub pg)) =
    fun os => some ({ heap := heap_46 w.params, toks := 187, os := os }, ⟨denote treeTable code0, code0, p0, [topFrame p0]⟩) := by
  rw [PySem.W.Fast.te15667345088766844465, PySem.W.Fast.te11892475500146522536, PySem.W.Fast.te14364793385576792824]
  kernel_rfl
theorem hd_block (w : World) : (fun os => segRun treeTable pg w 11 ann0 1 1 { heap := heap_46 w.params, toks := 187, os := os } (blockOf B0 env0 code0 p0 [topFrame p0])) =
    fun os => some (.next, (stT tree_47 15 187 w os).abs, code0, p0) := by
  rw [PySem.W.Fast.te14374325043358763698]
  kernel_rfl
theorem hd_p1 (w : World) : (fun os => segRunT treeTable pg w 11 ann0 1 397 (stT tree_47 15 187 w os) (piecesOf (pc 0 7) env0 code0 ⟨0, 0, 0, 0⟩ [topFrame p0])) = fun os => some (.next, stT tree_102 66 267 w os, code0, ⟨40, 0, 45, 45⟩) := by
  rw [PySem.W.Fast.te10110043849684766642, PySem.W.Fast.te14364793385576792824]
  kernel_rfl
theorem hd_p2 (w : World) : (fun os => segRunT treeTable pg w 11 ann0 1 397 (stT tree_102 66 267 w os) (piecesOf (pc 7 15) env0 code0 ⟨40, 0, 45, 45⟩ [topFrame p0])) = fun os => some (.next, stT tree_189 151 376 w os, code0, ⟨85, 0, 86, 77⟩) := by
  rw [PySem.W.Fast.te10110043849684766642, PySem.W.Fast.te14364793385576792824]
  kernel_rfl
theorem hd_p3 (w : World) : (fun os => segRunT treeTable pg w 11 ann0 1 391 (stT tree_189 151 376 w os) (piecesOf (pc 22 13) env0 code0 ⟨85, 0, 86, 77⟩ [topFrame p0])) = fun os => some (.next, stT tree_275 235 495 w os, code0, ⟨144, 0, 148, 52⟩) := by
  rw [PySem.W.Fast.te10110043849684766642, PySem.W.Fast.te14364793385576792824]
  kernel_rfl
theorem hd_p4 (w : World) : (fun os => segRunT treeTable pg w 11 ann0 1 371 (stT tree_275 235 495 w os) (piecesOf (pc 35 7) env0 code0 ⟨144, 0, 148, 52⟩ [topFrame p0])) = fun os => some (.next, stT tree_326 284 570 w os, code0, ⟨182, 0, 186, 12⟩) := by
  rw [PySem.W.Fast.te10110043849684766642, PySem.W.Fast.te14364793385576792824]
  kernel_rfl
theorem hd_p5 (w : World) : (fun os => segRunT treeTable pg w 11 ann0 1 384 (stT tree_326 284 570 w os) (piecesOf (pc 42 13) env0 code0 ⟨182, 0, 186, 12⟩ [topFrame p0])) = fun os => some (.next, stT tree_409 365 685 w os, code0, ⟨248, 0, 248, 8⟩) := by
  rw [PySem.W.Fast.te10110043849684766642, PySem.W.Fast.te14364793385576792824]
  kernel_rfl
theorem hd_p6 (w : World) : (fun os => segRunT treeTable pg w 11 ann0 1 393 (stT tree_409 365 685 w os) (piecesOf (pc 55 6) env0 code0 ⟨248, 0, 248, 8⟩ [topFrame p0])) = fun os => some (.next, stT tree_467 421 774 w os, code0, ⟨299, 0, 303, 30⟩) := by
  rw [PySem.W.Fast.te10110043849684766642, PySem.W.Fast.te14364793385576792824]
  kernel_rfl
theorem hd_p7 (w : World) : (fun os => segRunT treeTable pg w 11 ann0 1 388 (stT tree_467 421 774 w os) (piecesOf (pc 61 13) env0 code0 ⟨299, 0, 303, 30⟩ [topFrame p0])) = fun os => some (.next, stT tree_547 499 903 w os, code0, ⟨381, 0, 388, 17⟩) := by
  rw [PySem.W.Fast.te10110043849684766642, PySem.W.Fast.te14364793385576792824]
  kernel_rfl
theorem hd_p8 (w : World) : (fun os => segRunT treeTable pg w 11 ann0 1 431 (stT tree_547 499 903 w os) (piecesOf (pc 74 1) env0 code0 ⟨381, 0, 388, 17⟩ [topFrame p0])) = fun os => some (.next, stT tree_612 562 996 w os, code0, ⟨389, 0, 431, 54⟩) := by
  rw [PySem.W.Fast.te10110043849684766642, PySem.W.Fast.te14364793385576792824]
  kernel_rfl
theorem hd_p9 (w : World) : (fun os => segRunT treeTable pg w 11 ann0 1 343 (stT tree_612 562 996 w os) (piecesOf (pc 75 12) env0 code0 ⟨389, 0, 431, 54⟩ [topFrame p0])) = fun os => some (.next, stT tree_683 631 1097 w os, code0, ⟨514, 0, 528, 73⟩) := by
  rw [PySem.W.Fast.te10110043849684766642, PySem.W.Fast.te14364793385576792824]
  kernel_rfl
theorem hd_end (w : World) : (fun os => topRun treeTable pg w 11 ann0 2 (stT tree_683 631 1097 w os).abs ⟨doneF .next, code0, p1, [topFrame p0]⟩) = fun os => some { heap := heap_684 w.params, toks := 1097, os := os } := by
  rw [PySem.W.Fast.te14082659384304107361, PySem.W.Fast.te14364793385576792824]
  kernel_rfl
end
-- HC
section
set_option maxHeartbeats 0
noncomputable abbrev eS (w : World) (os : OsState) : Shared := { heap := heap_684 w.params, toks := 1097, os := os }
noncomputable def keep1 : List Nat := (List.range 87).filter fun i => !([0, 13, 26, 37, 50, 54, 67, 75] : List Nat).contains i
noncomputable abbrev qv : Program := view pg keep1
noncomputable abbrev loose1 : List Str := ["BasicError", "wend_place"]
noncomputable abbrev Xt1 (s : Shared) : Bool := xlAt qv [] s && recOk (RowW.records PySem.Challenge.rw_sm0007_02.row.toRowW) s
theorem hd_stat (w : World) (os : OsState) : (staticsOk (importedModules pg.main.body) (boot_heap w.params) (eS w os).heap && namesBound pg (eS w os).heap && gensDone (eS w os) && laidKept (boot_heap w.params) (eS w os).heap) = true := by kernel_rfl
noncomputable abbrev seen1 (s : Shared) := openSeen qv loose1 (importedModules pg.main.body) Xt1 true s
noncomputable abbrev good1 := openGood qv loose1
theorem hd_s1 (w : World) (os : OsState) : (seen1 (eS w os)).1 = good1.1 := by
  unfold seen1
  rw [PySem.W.Fast.te4187177175401517315]
  kernel_rfl
theorem hd_s2 (w : World) (os : OsState) : (seen1 (eS w os)).2.1 = good1.2.1 := by
  unfold seen1
  rw [PySem.W.Fast.te4187177175401517315]
  kernel_rfl
theorem hd_s4 (w : World) (os : OsState) : (seen1 (eS w os)).2.2.1 = good1.2.2.1 := by
  unfold seen1
  rw [PySem.W.Fast.te4187177175401517315]
  kernel_rfl
theorem hd_s3 (w : World) (os : OsState) : (seen1 (eS w os)).2.2.2 = good1.2.2.2 := by
  unfold seen1
  rw [PySem.W.Fast.te4187177175401517315]
  kernel_rfl
noncomputable def K1 (P : Params) : Frag := [
(3, o_613 P), (2, o_49 P), (72, o_111 P), (71, o_110 P), (79, o_118 P), (78, o_117 P), (93, o_132 P), (92, o_131 P), (100, o_139 P), (99, o_138 P), (276, o_319 P), (275, o_318 P), (283, o_326 P), (282, o_325 P), (297, o_342 P), (296, o_341 P), (350, o_395 P), (349, o_394 P), (357, o_402 P), (356, o_401 P), (364, o_409 P), (363, o_408 P), (392, o_439 P), (391, o_438 P), (399, o_446 P), (398, o_445 P), (406, o_453 P), (405, o_452 P), (413, o_460 P), (412, o_459 P), (434, o_483 P), (433, o_482 P), (441, o_490 P), (440, o_489 P), (470, o_519 P), (469, o_518 P), (477, o_526 P), (476, o_525 P), (568, o_621 P), (567, o_620 P), (575, o_628 P), (574, o_627 P), (582, o_635 P), (581, o_634 P), (589, o_642 P), (588, o_641 P), (594, o_647 P), (593, o_646 P), (601, o_654 P), (600, o_653 P), (606, o_659 P), (605, o_658 P), (613, o_666 P), (612, o_665 P), (620, o_673 P), (619, o_672 P), (625, o_678 P), (624, o_677 P), (630, o_683 P), (629, o_682 P), (262, o_305 P), (261, o_304 P), (265, o_308 P), (264, o_307 P), (378, o_425 P), (377, o_424 P), (381, o_428 P), (380, o_427 P), (512, o_563 P), (511, o_562 P), (519, o_570 P), (518, o_569 P), (526, o_577 P), (525, o_576 P), (533, o_584 P), (532, o_583 P), (540, o_591 P), (539, o_590 P), (554, o_605 P), (553, o_604 P), (557, o_608 P), (556, o_607 P), (463, o_512 P), (34, o_71 P), (33, o_70 P), (31, o_68 P), (18, o_55 P), (23, o_60 P), (30, o_67 P), (24, o_61 P)]
noncomputable def as1 : List Addr := [3, 2, 72, 71, 79, 78, 93, 92, 100, 99, 276, 275, 283, 282, 297, 296, 350, 349, 357, 356, 364, 363, 392, 391, 399, 398, 406, 405, 413, 412, 434, 433, 441, 440, 470, 469, 477, 476, 568, 567, 575, 574, 582, 581, 589, 588, 594, 593, 601, 600, 606, 605, 613, 612, 620, 619, 625, 624, 630, 629, 262, 261, 265, 264, 378, 377, 381, 380, 512, 511, 519, 518, 526, 525, 533, 532, 540, 539, 554, 553, 557, 556, 463, 34, 33, 31, 18, 23, 30, 24]
theorem hd_K (w : World) (os : OsState) : as1.map (eS w os).heap.get? = (K1 w.params).map fun p => some p.2 := by kernel_rfl
end
-- HE
theorem topFrom_of {tb : String → Option Builtin} {p : Program} {w : World} {N m₀ : Nat} {ann : Option Value} {s₀ r : Shared} (z1 : (s₀.heap.isNs mainGlobals && s₀.gens.size == 0) = true) (z2 : s₀.heap.objs.size = m₀) (z3 : s₀.heap.nsMap mainGlobals "__annotations__" = ann)
    (top : topRun tb p w m₀ ann N s₀ (topStub p) = some r) (f2 : (staticsOk (importedModules p.main.body) s₀.heap r.heap && namesBound p r.heap && gensDone r && laidKept s₀.heap r.heap) = true) : topFrom tb p w N s₀ = some r := by
  unfold topFrom
  rw [z1, z2, z3]
  show (topRun tb p w m₀ ann N s₀ (topStub p)).bind _ = _
  rw [top]
  show (match staticsOk (importedModules p.main.body) s₀.heap r.heap && namesBound p r.heap && gensDone r && laidKept s₀.heap r.heap with | true => _ | false => _) = _
  rw [f2]
theorem openEnds_of {tb : String → Option Builtin} {p : Program} {w : World} {N : Nat} {s₀ r : Shared} (e : fencedOpening tb p w N = some s₀) (t : topFrom tb p w N s₀ = some r) : openEnds tb p w N = some r := by
  unfold openEnds
  rw [e]
  exact t
theorem ends_map {α β : Type} {o : Option Shared} {r : Shared} {F : Shared → α} {G : Shared → β} {a : α} {b : β} (t : o = some r) (g2 : F r = a) (g3 : G r = b) : o.map (fun s => (F s, G s)) = some (a, b) := by
  rw [t, ← g2, ← g3]; rfl
noncomputable abbrev NN : Nat := 12 + (1 + (397 + (397 + (391 + (371 + (384 + (393 + (388 + (431 + (343 + 2))))))))))
theorem hd_zero (P : Params) : ((boot_heap P).isNs mainGlobals && (Array.mk [] : Array GenState).size == 0, (boot_heap P).objs.size, (boot_heap P).nsMap mainGlobals "__annotations__") = (true, 11, ann0) := by kernel_rfl
theorem hd_pcs : pc 0 7 ++ (pc 7 15 ++ (pc 22 13 ++ (pc 35 7 ++ (pc 42 13 ++ (pc 55 6 ++ (pc 61 13 ++ (pc 74 1 ++ (pc 75 12)))))))) = B0 := by kernel_rfl
theorem hd_top (w : World) (os : OsState) : topRun treeTable pg w 11 ann0 NN ⟨boot_heap w.params, Array.mk [], boot_drawn, boot_toks, os⟩ (topStub pg) = some (eS w os) := by
  have a := piece_app (rest := []) (segRun_of (congrFun (hd_p9 w) os)) (piece_nil (congrFun (hd_end w) os))
  rw [List.append_nil] at a
  replace a := piece_app (segRun_of (congrFun (hd_p8 w) os)) a
  replace a := piece_app (segRun_of (congrFun (hd_p7 w) os)) a
  replace a := piece_app (segRun_of (congrFun (hd_p6 w) os)) a
  replace a := piece_app (segRun_of (congrFun (hd_p5 w) os)) a
  replace a := piece_app (segRun_of (congrFun (hd_p4 w) os)) a
  replace a := piece_app (segRun_of (congrFun (hd_p3 w) os)) a
  replace a := piece_app (segRun_of (congrFun (hd_p2 w) os)) a
  replace a := piece_app (segRun_of (congrFun (hd_p1 w) os)) a
  rw [hd_pcs] at a
  exact go_top (congrFun (hd_pre w) os) (piece_block (congrFun (hd_block w) os) a)
theorem hd_seen (w : World) (os : OsState) : seen1 (eS w os) = good1 := Prod.ext (hd_s1 w os) (Prod.ext (hd_s2 w os) (Prod.ext (hd_s4 w os) (hd_s3 w os)))
theorem left1 {α : Type} {Yf : Shared → α} {Ya : World → α} (hK : ∀ (w : World) (os : OsState), Yf (eS w os) = Ya w) : LeftO pg qv loose1 Xt1 Yf Ya NN := by
  intro w
  obtain ⟨⟨h, gs, d, k, os⟩, e, e'⟩ := Option.map_eq_some_iff.mp (boot_open (p := pg) (N := NN) rfl rfl (fun _ => rfl) w)
  obtain ⟨rfl, rfl, rfl, rfl⟩ : h = boot_heap w.params ∧ gs = Array.mk [] ∧ d = boot_drawn ∧ k = boot_toks := by simpa using e'
  have hz := hd_zero w.params
  rw [Prod.mk.injEq, Prod.mk.injEq] at hz
  exact ends_map (openEnds_of e (topFrom_of hz.1 hz.2.1 hz.2.2 (hd_top w os) (hd_stat w os))) (hd_seen w os) (hK w os)
theorem hd_said : PySem.Challenge.rw_sm0007_02.wellSaid = true := by kernel_rfl
-- C0
set_option genInjectivity true in
inductive V where
  | none
  | bool (b : Bool)
  | int (i : Int)
  | str (s : Str)
  | tup (xs : List V)
  | lst (xs : List V)
  | ref (k : Nat)
  | raw (v : Value)
  deriving Inhabited
inductive Cell where
  | list (xs : List V)
  | dictS (f : Str → Option V)
  | dictI (f : Int → Option V)
  | inst (C : Addr) (n : Nat) (f : Str → Option V)
noncomputable abbrev Sto := Nat → Option Cell
noncomputable abbrev AMap := (Nat → Option (Addr × Addr)) × (Addr → Prop)
noncomputable def upd (σ : Sto) (k : Nat) (c : Cell) : Sto := fun j => if j = k then some c else σ j
@[simp] theorem upd_self (σ : Sto) (k : Nat) (c : Cell) : upd σ k c k = some c := by simp [upd]
theorem upd_ne {σ : Sto} {k j : Nat} {c : Cell} (h : j ≠ k) : upd σ k c j = σ j := by simp [upd, h]
theorem upd_upd (σ : Sto) (k : Nat) (c c' : Cell) : upd (upd σ k c) k c' = upd σ k c' := by
  funext j; by_cases h : j = k <;> simp [upd, h]
noncomputable def Frz (μ : AMap) (a : Addr) : Prop := (∀ k p, μ.1 k = some p → a ≠ p.1 ∧ a ≠ p.2) ∧ ¬ μ.2 a
noncomputable abbrev tupO (vs : Array Value) (n : Nat) : Obj := ⟨.type "tuple", none, .seq vs n, #[]⟩
noncomputable abbrev lstO (vs : Array Value) (n : Nat) : Obj := ⟨.type "list", none, .seq vs n, #[]⟩
mutual
inductive VR (h : Heap) (μ : AMap) : V → Value → Prop
  | none : VR h μ .none .none
  | bool (b : Bool) : VR h μ (.bool b) (.bool b)
  | int (i : Int) (t : Tok) : VR h μ (.int i) (.int i t)
  | str (s : Str) (t : Tok) : VR h μ (.str s) (.str s t)
  | raw (v : Value) : VR h μ (.raw v) v
  | ref {k : Nat} {p : Addr × Addr} : μ.1 k = some p → VR h μ (.ref k) (.ref p.1)
  | tup {a : Addr} {vs : List Value} {n : Nat} {xs : List V} : h.get? a = some (tupO vs.toArray n) → Frz μ a → VRs h μ xs vs → VR h μ (.tup xs) (.ref a)
  | lst {a : Addr} {vs : List Value} {n : Nat} {xs : List V} : h.get? a = some (lstO vs.toArray n) → Frz μ a → VRs h μ xs vs → VR h μ (.lst xs) (.ref a)
inductive VRs (h : Heap) (μ : AMap) : List V → List Value → Prop
  | nil : VRs h μ [] []
  | cons {x : V} {v : Value} {xs : List V} {vs : List Value} : VR h μ x v → VRs h μ xs vs → VRs h μ (x :: xs) (v :: vs)
end
structure Step (X : Addr → Prop) (μ μ' : AMap) (s s' : Shared) : Prop where
  keep : ∀ b o, Frz μ b → ¬ X b → s.heap.get? b = some o → s'.heap.get? b = some o
  seq : ∀ b c vs n, Frz μ b → s.heap.get? b = some ⟨c, none, .seq vs n, #[]⟩ → s'.heap.get? b = some ⟨c, none, .seq vs n, #[]⟩
  live : ∀ b o, s.heap.get? b = some o → ∃ o', s'.heap.get? b = some o'
  ext : ∀ k p, μ.1 k = some p → μ'.1 k = some p
  new : ∀ k p, μ'.1 k = some p → μ.1 k = none → s.heap.get? p.1 = none ∧ s.heap.get? p.2 = none
  hid : μ'.2 = μ.2
  hkeep : ∀ b o, μ.2 b → s.heap.get? b = some o → s'.heap.get? b = some o
  gens : s'.gens = s.gens
  os : s'.os = s.os
theorem get_ne {h : Heap} {a b : Addr} {o : Obj} (hb : h.get? b = some o) (ha : h.get? a = none) : b ≠ a := fun e => nomatch (ha.symm.trans (e ▸ hb) : none = some o)
theorem Step.which {X : Addr → Prop} {μ μ' : AMap} {s s' : Shared} (st : Step X μ μ' s s') {k : Nat} {p : Addr × Addr} (hp : μ'.1 k = some p) : μ.1 k = some p ∨ (s.heap.get? p.1 = none ∧ s.heap.get? p.2 = none) := by
  cases hk : μ.1 k with
  | some q => exact .inl ((st.ext k q hk).symm.trans hp)
  | none => exact .inr (st.new k p hp hk)
theorem Step.back {X : Addr → Prop} {μ μ' : AMap} {s s' : Shared} (st : Step X μ μ' s s') {a : Addr} (h : s'.heap.get? a = none) : s.heap.get? a = none := by
  cases e : s.heap.get? a with
  | none => rfl
  | some o => exact (st.live a o e).elim fun o' e' => nomatch (h.symm.trans e' : none = some o')
theorem Step.frz {X : Addr → Prop} {μ μ' : AMap} {s s' : Shared} (st : Step X μ μ' s s') {b : Addr} {o : Obj} (hb : s.heap.get? b = some o) (hf : Frz μ b) : Frz μ' b :=
  ⟨fun k p hp => (st.which hp).elim (hf.1 k p) fun n => ⟨get_ne hb n.1, get_ne hb n.2⟩, st.hid ▸ hf.2⟩
theorem Step.refl (X : Addr → Prop) (μ : AMap) (s : Shared) : Step X μ μ s s :=
  ⟨fun zz zz zz zz h => h, fun zz zz zz zz zz h => h, fun zz o h => ⟨o, h⟩, fun zz zz h => h, fun zz zz h h' => (nomatch (h.symm.trans h')), rfl, fun zz zz zz h => h, rfl, rfl⟩
theorem Step.trans {X : Addr → Prop} {μ μ' μ'' : AMap} {s s' s'' : Shared} (a : Step X μ μ' s s') (b : Step X μ' μ'' s' s'') : Step X μ μ'' s s'' where
  keep := fun x o hf hx h => b.keep x o (a.frz h hf) hx (a.keep x o hf hx h)
  seq := fun x c vs n hf h => b.seq x c vs n (a.frz h hf) (a.seq x c vs n hf h)
  live := fun x o h => (a.live x o h).elim (b.live x)
  ext := fun k p h => b.ext k p (a.ext k p h)
  new := fun k p h h0 => (b.which h).elim (fun h' => a.new k p h' h0) fun n => ⟨a.back n.1, a.back n.2⟩
  hid := b.hid.trans a.hid
  hkeep := fun x o hx h => b.hkeep x o (a.hid ▸ hx) (a.hkeep x o hx h)
  gens := b.gens.trans a.gens
  os := b.os.trans a.os
theorem Step.mono {X Y : Addr → Prop} {μ μ' : AMap} {s s' : Shared} (a : Step X μ μ' s s') (h : ∀ b, X b → Y b) : Step Y μ μ' s s' :=
  { a with keep := fun b o hf hy e => a.keep b o hf (fun x => hy (h b x)) e }
noncomputable def Kp (h h' : Heap) (μ μ' : AMap) : Prop := (∀ b c vs n, Frz μ b → h.get? b = some ⟨c, Option.none, .seq vs n, #[]⟩ → h'.get? b = some ⟨c, Option.none, .seq vs n, #[]⟩ ∧ Frz μ' b) ∧ ∀ k p, μ.1 k = some p → μ'.1 k = some p
theorem Step.kp {X : Addr → Prop} {μ μ' : AMap} {s s' : Shared} (st : Step X μ μ' s s') : Kp s.heap s'.heap μ μ' := ⟨fun b c vs n f e => ⟨st.seq b c vs n f e, st.frz e f⟩, st.ext⟩
theorem Kp.of {h h' : Heap} {μ μ' : AMap} (hk : ∀ b o, h.get? b = some o → Frz μ b → h'.get? b = some o ∧ Frz μ' b) (he : ∀ k p, μ.1 k = some p → μ'.1 k = some p) : Kp h h' μ μ' := ⟨fun zz zz zz zz f e => hk _ _ e f, he⟩
theorem Kp.all {h h' : Heap} {μ : AMap} (k : ∀ b o, h.get? b = some o → h'.get? b = some o) : Kp h h' μ μ := ⟨fun zz zz zz zz f e => ⟨k _ _ e, f⟩, fun zz zz e => e⟩
theorem Kp.but {h h' : Heap} {μ : AMap} {X : Addr → Prop} (k : ∀ b o, ¬ X b → h.get? b = some o → h'.get? b = some o) (nf : ∀ b, X b → Frz μ b → ∀ C d vs n sl, h.get? b ≠ some ⟨C, d, .seq vs n, sl⟩) : Kp h h' μ μ :=
  ⟨fun zz zz zz zz f e => ⟨k _ _ (fun hb => nf _ hb f _ _ _ _ _ e) e, f⟩, fun zz zz e => e⟩
theorem VRs.at {h h' : Heap} {μ μ' : AMap} (K : Kp h h' μ μ')
    {x : List V} {v : List Value} (r : VRs h μ x v) : VRs h' μ' x v :=
  VRs.rec (motive_1 := fun x v zz => VR h' μ' x v) (motive_2 := fun x v zz => VRs h' μ' x v) .none .bool .int .str .raw (fun e => .ref (K.2 _ _ e)) (fun e f zz ih => .tup (K.1 _ _ _ _ f e).1 (K.1 _ _ _ _ f e).2 ih) (fun e f zz ih => .lst (K.1 _ _ _ _ f e).1 (K.1 _ _ _ _ f e).2 ih) .nil (fun zz zz a b => .cons a b) r
theorem VRs.ind {h : Heap} {μ : AMap} {P : List V → List Value → Prop} (hn : P [] []) (hc : ∀ {x v xs vs}, VR h μ x v → VRs h μ xs vs → P xs vs → P (x :: xs) (v :: vs)) {xs : List V} {vs : List Value} (r : VRs h μ xs vs) : P xs vs :=
  VRs.rec (motive_1 := fun zz zz zz => True) (motive_2 := fun xs vs zz => P xs vs) trivial (fun zz => trivial) (fun zz zz => trivial) (fun zz zz => trivial) (fun zz => trivial) (fun zz => trivial) (fun zz zz zz zz => trivial) (fun zz zz zz zz => trivial) hn (fun a b zz ih => hc a b ih) r
theorem VRs.heads' {h : Heap} {μ : AMap} {x : V} {xs : List V} {vs : List Value} (r : VRs h μ (x :: xs) vs) : ∃ v ws, vs = v :: ws ∧ VR h μ x v ∧ VRs h μ xs ws :=
  VRs.ind (P := fun l vs => l = x :: xs → ∃ v ws, vs = v :: ws ∧ VR h μ x v ∧ VRs h μ xs ws) (fun e => nomatch e) (fun a b zz e => ⟨_, _, rfl, (List.cons.inj e).1 ▸ a, (List.cons.inj e).2 ▸ b⟩) r rfl
theorem VRs.nil' {h : Heap} {μ : AMap} {vs : List Value} (r : VRs h μ [] vs) : vs = [] :=
  VRs.ind (P := fun l vs => l = [] → vs = []) (fun zz => rfl) (fun zz zz zz e => nomatch e) r rfl
theorem VRs.one {h : Heap} {μ : AMap} {x : V} {vs : List Value} (r : VRs h μ [x] vs) : ∃ v, vs = [v] ∧ VR h μ x v := r.heads'.imp fun v q => q.elim fun ws q => ⟨q.1.trans (congrArg (v :: ·) q.2.2.nil'), q.2.1⟩
theorem VRs.two {h : Heap} {μ : AMap} {x y : V} {vs : List Value} (r : VRs h μ [x, y] vs) : ∃ v w, vs = [v, w] ∧ VR h μ x v ∧ VR h μ y w := r.heads'.imp fun v q => q.elim fun ws q => q.2.2.one.imp fun w z => ⟨q.1.trans (congrArg (v :: ·) z.1), q.2.1, z.2⟩
theorem VRs.three {h : Heap} {μ : AMap} {x y z : V} {vs : List Value} (r : VRs h μ [x, y, z] vs) : ∃ u v w, vs = [u, v, w] ∧ VR h μ x u ∧ VR h μ y v ∧ VR h μ z w := r.heads'.imp fun v q => q.elim fun ws q => q.2.2.two.imp fun w z => z.imp fun w z => ⟨q.1.trans (congrArg (v :: ·) z.1), q.2.1, z.2⟩
theorem VR.at {h h' : Heap} {μ μ' : AMap} (K : Kp h h' μ μ')
    {x : V} {v : Value} (r : VR h μ x v) : VR h' μ' x v := by
  obtain ⟨_, _, e, a, _⟩ := (VRs.at K (VRs.cons r .nil)).heads'
  exact (List.cons.inj e).1 ▸ a
noncomputable def VR.Inv (h : Heap) (μ : AMap) (v : Value) : V → Prop
  | .none => v = .none
  | .bool b => v = .bool b
  | .int i => ∃ t, v = .int i t
  | .str x => ∃ t, v = .str x t
  | .raw u => v = u
  | .ref k => ∃ p, v = .ref p.1 ∧ μ.1 k = some p
  | .tup xs => ∃ a vs n, v = .ref a ∧ h.get? a = some (tupO (List.toArray vs) n) ∧ Frz μ a ∧ VRs h μ xs vs
  | .lst xs => ∃ a vs n, v = .ref a ∧ h.get? a = some (lstO (List.toArray vs) n) ∧ Frz μ a ∧ VRs h μ xs vs
theorem VR.inv {h : Heap} {μ : AMap} {x : V} {v : Value} (r : VR h μ x v) : VR.Inv h μ v x :=
  VR.rec (motive_1 := fun x v zz => VR.Inv h μ v x) (motive_2 := fun zz zz zz => True) rfl (fun zz => rfl) (fun zz zz => ⟨_, rfl⟩) (fun zz zz => ⟨_, rfl⟩) (fun zz => rfl) (fun e => ⟨_, rfl, e⟩) (fun e f r zz => ⟨_, _, _, rfl, e, f, r⟩) (fun e f r zz => ⟨_, _, _, rfl, e, f, r⟩) trivial (fun zz zz zz zz => trivial) r
section
variable {h : Heap} {μ : AMap} {v : Value}
theorem VR.none' (r : VR h μ .none v) : v = .none := r.inv
theorem VR.bool' {b : Bool} (r : VR h μ (.bool b) v) : v = .bool b := r.inv
theorem VR.int' {i : Int} (r : VR h μ (.int i) v) : ∃ t, v = .int i t := r.inv
theorem VR.str' {x : Str} (r : VR h μ (.str x) v) : ∃ t, v = .str x t := r.inv
theorem VR.raw' {u : Value} (r : VR h μ (.raw u) v) : v = u := r.inv
theorem VR.ref' {k : Nat} (r : VR h μ (.ref k) v) : ∃ p, v = .ref p.1 ∧ μ.1 k = some p := r.inv
theorem VR.tup' {xs : List V} (r : VR h μ (.tup xs) v) : ∃ a vs n, v = .ref a ∧ h.get? a = some (tupO (List.toArray vs) n) ∧ Frz μ a ∧ VRs h μ xs vs := r.inv
theorem VR.lst' {xs : List V} (r : VR h μ (.lst xs) v) : ∃ a vs n, v = .ref a ∧ h.get? a = some (lstO (List.toArray vs) n) ∧ Frz μ a ∧ VRs h μ xs vs := r.inv
end
theorem VR.step {X : Addr → Prop} {μ μ' : AMap} {s s' : Shared} (st : Step X μ μ' s s') {x : V} {v : Value} (r : VR s.heap μ x v) : VR s'.heap μ' x v :=
  r.at st.kp
theorem VRs.step {X : Addr → Prop} {μ μ' : AMap} {s s' : Shared} (st : Step X μ μ' s s') {x : List V} {v : List Value} (r : VRs s.heap μ x v) : VRs s'.heap μ' x v :=
  r.at st.kp
section
variable {h : Heap} {μ : AMap} {xs ys : List V} {vs ws : List Value} {x : V} {v : Value} {i n : Nat}
theorem VRs.length (r : VRs h μ xs vs) : xs.length = vs.length := VRs.ind (P := fun xs vs => xs.length = vs.length) rfl (fun zz zz ih => congrArg (· + 1) ih) r
theorem VRs.get (r : VRs h μ xs vs) : xs[i]? = some x → ∃ v, vs[i]? = some v ∧ VR h μ x v :=
  VRs.ind (P := fun xs vs => ∀ i, xs[i]? = some x → ∃ v, vs[i]? = some v ∧ VR h μ x v) (fun i e => nomatch (List.getElem?_nil.symm.trans e : Option.none = some x)) (fun a zz ih i => Nat.rec (fun e => ⟨_, rfl, Option.some.inj e ▸ a⟩) (fun i zz e => ih i e) i) r i
theorem VRs.append (r : VRs h μ xs vs) (q : VRs h μ ys ws) : VRs h μ (xs ++ ys) (vs ++ ws) := VRs.ind (P := fun xs vs => VRs h μ (xs ++ ys) (vs ++ ws)) q (fun a zz ih => .cons a ih) r
theorem VRs.take (n : Nat) (r : VRs h μ xs vs) : VRs h μ (xs.take n) (vs.take n) :=
  VRs.ind (P := fun xs vs => ∀ n, VRs h μ (xs.take n) (vs.take n)) (fun n => by rw [List.take_nil, List.take_nil]; exact .nil) (fun a zz ih n => Nat.rec .nil (fun n zz => .cons a (ih n)) n) r n
theorem VRs.drop (n : Nat) (r : VRs h μ xs vs) : VRs h μ (xs.drop n) (vs.drop n) :=
  VRs.ind (P := fun xs vs => ∀ n, VRs h μ (xs.drop n) (vs.drop n)) (fun n => by rw [List.drop_nil, List.drop_nil]; exact .nil) (fun a b ih n => Nat.rec (.cons a b) (fun n zz => ih n) n) r n
theorem VRs.set (r : VRs h μ xs vs) (a : VR h μ x v) : VRs h μ (xs.set i x) (vs.set i v) :=
  VRs.ind (P := fun xs vs => ∀ i, VRs h μ (xs.set i x) (vs.set i v)) (fun zz => .nil) (fun b r ih i => Nat.rec (.cons a r) (fun i zz => .cons b (ih i)) i) r i
end
structure Ctx where
  prog : Program
  w : World
  K : Frag
  H0 : Heap
  mg : Str → Option Value
  mb : Str → Option Value
  X : K.In H0
  g : H0.Ns mainGlobals mg
  b : H0.Ns builtinsNs mb
  nolimit : H0.NoLimit
  builtins : ∀ x : Str, x ≠ "__name__" → mb x = bootBuiltins x
  last : ∃ o, H0.get? (H0.objs.size - 1) = some o
noncomputable abbrev Ctx.M (c : Ctx) : Model := model c.prog c.w
noncomputable def OR (h : Heap) (μ : AMap) (a : Option V) (b : Option Value) : Prop := match a, b with
  | some x, some v => VR h μ x v
  | none, none => True
  | _, _ => False
noncomputable def CR (c : Ctx) (h : Heap) (μ : AMap) : Cell → Addr × Addr → Prop
  | .list xs, p => p.1 = p.2 ∧ ∃ vs n, h.get? p.1 = some (lstO vs n) ∧ VRs h μ xs vs.toList
  | .dictS f, p => p.1 = p.2 ∧ ∃ g, h.DictOf (strKind c.prog c.w) p.1 g ∧ ∀ k, OR h μ (f k) (valueAt g k)
  | .dictI f, p => p.1 = p.2 ∧ ∃ g, h.DictOf (intKind c.prog c.w) p.1 g ∧ ∀ k, OR h μ (f k) (valueAt g k)
  | .inst C k f, p => h.get? p.1 = some ⟨.ref C, some p.2, .plain, #[]⟩ ∧ ∃ es n, h.get? p.2 = some (dictOf es n) ∧ StrKeys es.toArray ∧ es.length ≤ k ∧ ∀ x, OR h μ (f x) (nsFind es.toArray x)
structure HR (c : Ctx) (h : Heap) (μ : AMap) (σ : Sto) : Prop where
  base : ∀ b o, c.H0.get? b = some o → h.get? b = some o
  dom : ∀ k, σ k = none ↔ μ.1 k = none
  inj : ∀ k j p q, μ.1 k = some p → μ.1 j = some q → k ≠ j → p.1 ≠ q.1 ∧ p.1 ≠ q.2 ∧ p.2 ≠ q.1 ∧ p.2 ≠ q.2
  above : ∀ k p, μ.1 k = some p → c.H0.objs.size ≤ p.1 ∧ c.H0.objs.size ≤ p.2
  cell : ∀ k x p, σ k = some x → μ.1 k = some p → CR c h μ x p
  fin : ∃ n, ∀ k, n ≤ k → μ.1 k = none
  hid : ∀ b, μ.2 b → (∃ o, h.get? b = some o) ∧ c.H0.get? b = none ∧ ∀ k p, μ.1 k = some p → b ≠ p.1 ∧ b ≠ p.2
theorem OR.at {h h' : Heap} {μ μ' : AMap} (K : Kp h h' μ μ') {x : Option V} {v : Option Value} (r : OR h μ x v) : OR h' μ' x v := by
  cases x <;> cases v <;> first | exact r | exact VR.at K r
theorem MapOf.at {prog : Program} {w : World} {T : Type} [DecidableEq T] {knd : KeyKind prog w T} {h h' : Heap} {a : Addr} {f : List (T × Value)} (x : h.DictOf knd a f) (k : ∀ o, h.get? a = some o → h'.get? a = some o) : h'.DictOf knd a f :=
  Exists.imp (fun zz => Exists.imp fun zz => Exists.imp fun zz q => ⟨k _ q.1, q.2⟩) x
theorem CR.at {c : Ctx} {h h' : Heap} {μ μ' : AMap} (K : Kp h h' μ μ') {x : Cell} {p : Addr × Addr} (h1 : ∀ o, h.get? p.1 = some o → h'.get? p.1 = some o) (h2 : ∀ o, h.get? p.2 = some o → h'.get? p.2 = some o) (r : CR c h μ x p) : CR c h' μ' x p := by
  cases x with
  | list => exact ⟨r.1, r.2.imp fun zz => Exists.imp fun zz q => ⟨h1 _ q.1, q.2.at K⟩⟩
  | dictS => exact ⟨r.1, r.2.imp fun zz q => ⟨MapOf.at q.1 h1, fun k => (q.2 k).at K⟩⟩
  | dictI => exact ⟨r.1, r.2.imp fun zz q => ⟨MapOf.at q.1 h1, fun k => (q.2 k).at K⟩⟩
  | inst => exact ⟨h1 _ r.1, r.2.imp fun zz => Exists.imp fun zz q => ⟨h2 _ q.1, q.2.1, q.2.2.1, fun k => (q.2.2.2 k).at K⟩⟩
theorem IsCell.keep {h h' : Heap} {a : Addr} {v : Option Value} (n : h.IsCell a v) (k : ∀ o, h.get? a = some o → h'.get? a = some o) : h'.IsCell a v := Exists.imp (fun zz q => ⟨k _ q.1, q.2⟩) n
theorem Ns.keep' {h h' : Heap} {a : Addr} {m : Str → Option Value} (n : h.Ns a m) (k : ∀ o, h.get? a = some o → h'.get? a = some o) : h'.Ns a m := Exists.imp (fun zz => Exists.imp fun zz => Exists.imp fun zz q => ⟨k _ q.1, q.2⟩) n
theorem H0_none {c : Ctx} {a : Addr} (h : c.H0.objs.size ≤ a) : c.H0.get? a = none := by
  cases e : c.H0.get? a with
  | none => rfl
  | some o => exact absurd (Heap.lt_size e) (Nat.not_lt.mpr h)
theorem HR.fresh {c : Ctx} {h : Heap} {μ : AMap} {σ : Sto} (r : HR c h μ σ) (k : Nat) (p : Addr × Addr) (hp : μ.1 k = some p) : c.H0.get? p.1 = none ∧ c.H0.get? p.2 = none :=
  ⟨H0_none (r.above k p hp).1, H0_none (r.above k p hp).2⟩
noncomputable abbrev Loc := List (Str × V)
structure FR (c : Ctx) (env : Env) (lk : Loc) (h : Heap) (μ : AMap) : Prop where
  kind : env.scope.kind = .function
  globals : env.globals = mainGlobals
  builtins : env.builtins = builtinsNs
  above : c.H0.objs.size ≤ env.locals
  frzL : Frz μ env.locals
  ns : ∃ m, h.Ns env.locals m ∧ ∀ x y, env.kindOf x = some .local → lk.lookup x = some y → ∃ v, m x = some v ∧ VR h μ y v
  cell : ∀ x a, env.cells.lookup x = some a → a ≠ env.locals ∧ Frz μ a ∧ c.H0.get? a = none ∧ ∃ v, h.IsCell a v ∧ ∀ y, (env.kindOf x = some .cell ∨ env.kindOf x = some .free) → lk.lookup x = some y → ∃ u, v = some u ∧ VR h μ y u
  cells : ∀ x, env.kindOf x = some .cell ∨ env.kindOf x = some .free → ∃ a, env.cells.lookup x = some a
  apart : ∀ x y a b, env.cells.lookup x = some a → env.cells.lookup y = some b → x ≠ y → a ≠ b
noncomputable def own (env : Env) (b : Addr) : Prop := b = env.locals ∨ ∃ x, env.cells.lookup x = some b
theorem FR.at {c : Ctx} {env : Env} {lk : Loc} {h h' : Heap} {μ μ' : AMap} (K : Kp h h' μ μ') (k : ∀ a o, own env a → Frz μ a → h.get? a = some o → h'.get? a = some o ∧ Frz μ' a) (f : FR c env lk h μ) : FR c env lk h' μ' where
  kind := f.kind
  globals := f.globals
  builtins := f.builtins
  above := f.above
  frzL := f.ns.elim fun zz q => q.1.elim fun o z => z.elim fun zz z => z.elim fun zz z => (k _ o (.inl rfl) f.frzL z.1).2
  ns := f.ns.imp fun zz q => ⟨Ns.keep' q.1 fun o e => (k _ o (.inl rfl) f.frzL e).1, fun x y h1 h2 => (q.2 x y h1 h2).imp fun zz z => ⟨z.1, z.2.at K⟩⟩
  cell := fun x a ha => have z := f.cell x a ha
    ⟨z.1, z.2.2.2.elim fun zz q => q.1.elim fun o e => (k _ o (.inr ⟨x, ha⟩) z.2.1 e.1).2, z.2.2.1, z.2.2.2.imp fun zz q => ⟨IsCell.keep q.1 fun o e => (k _ o (.inr ⟨x, ha⟩) z.2.1 e).1, fun y h1 h2 => (q.2 y h1 h2).imp fun zz z => ⟨z.1, z.2.at K⟩⟩⟩
  cells := f.cells
  apart := f.apart
theorem HR.but {c : Ctx} {h h' : Heap} {μ : AMap} {σ : Sto} {X : Addr → Prop} (r : HR c h μ σ) (hX : ∀ b, X b → Frz μ b ∧ c.H0.get? b = none) (K : Kp h h' μ μ) (k : ∀ b o, ¬ X b → h.get? b = some o → h'.get? b = some o) : HR c h' μ σ where
  base := fun b o e => k b o (fun hb => nomatch ((hX b hb).2.symm.trans e : none = some o)) (r.base b o e)
  dom := r.dom
  inj := r.inj
  above := r.above
  cell := fun j x p hx hp => (r.cell j x p hx hp).at K (fun o => k _ o fun hb => ((hX _ hb).1.1 j p hp).1 rfl) fun o => k _ o fun hb => ((hX _ hb).1.1 j p hp).2 rfl
  fin := r.fin
  hid := fun b hb => ⟨(r.hid b hb).1.imp fun o => k b o fun hx => (hX b hx).1.2 hb, (r.hid b hb).2⟩
theorem Step.but {X Y : Addr → Prop} {μ : AMap} {s s' : Shared} (K : Kp s.heap s'.heap μ μ) (k : ∀ b o, ¬ Y b → s.heap.get? b = some o → s'.heap.get? b = some o) (hl : ∀ b, Y b → ∃ o, s'.heap.get? b = some o) (hX : ∀ b, Y b → Frz μ b → X b) (hh : ∀ b, μ.2 b → ¬ Y b)
    (hg : s'.gens = s.gens) (ho : s'.os = s.os) : Step X μ μ s s' where
  keep := fun b o f x e => k b o (fun y => x (hX b y f)) e
  seq := fun b c vs n f e => (K.1 b c vs n f e).1
  live := fun b o e => (Classical.em (Y b)).elim (hl b) fun n => ⟨o, k b o n e⟩
  ext := fun zz zz e => e
  new := fun zz zz h h' => nomatch (h.symm.trans h')
  hid := rfl
  hkeep := fun b o hb e => k b o (hh b hb) e
  gens := hg
  os := ho
-- C1
theorem opq {G : Prop} (h : ∀ Q : Prop, (G → Q) → Q) : G := h G id
theorem Ctx.size {c : Ctx} {h : Heap} (b : ∀ b o, c.H0.get? b = some o → h.get? b = some o) : c.H0.objs.size ≤ h.objs.size := c.last.elim fun zz ho => Nat.le_of_pred_lt (Heap.lt_size (b _ _ ho))
theorem HR.size {c : Ctx} {h : Heap} {μ : AMap} {σ : Sto} (r : HR c h μ σ) : c.H0.objs.size ≤ h.objs.size := Ctx.size r.base
theorem HR.K {c : Ctx} {h : Heap} {μ : AMap} {σ : Sto} (r : HR c h μ σ) : c.K.In h := c.X.keeps r.base
theorem HR.nolimit {c : Ctx} {h : Heap} {μ : AMap} {σ : Sto} (r : HR c h μ σ) : h.NoLimit := c.nolimit.keeps r.base
theorem HR.get {c : Ctx} {h : Heap} {μ : AMap} {σ : Sto} (r : HR c h μ σ) {k : Nat} {x : Cell} (hk : σ k = some x) : ∃ p, μ.1 k = some p ∧ CR c h μ x p := by
  cases hp : μ.1 k with
  | none => exact nomatch (hk.symm.trans ((r.dom k).mpr hp) : some x = none)
  | some p => exact ⟨p, rfl, r.cell k x p hk hp⟩
theorem HR.frz0 {c : Ctx} {h : Heap} {μ : AMap} {σ : Sto} (r : HR c h μ σ) {b : Addr} {o : Obj} (e : c.H0.get? b = some o) : Frz μ b :=
  ⟨fun k p hk => ⟨get_ne e (r.fresh k p hk).1, get_ne e (r.fresh k p hk).2⟩, fun hh => nomatch ((r.hid b hh).2.1.symm.trans e : none = some o)⟩
theorem VR.lift {h h' : Heap} {μ μ' : AMap} (hk : ∀ b o, h.get? b = some o → Frz μ b → h'.get? b = some o ∧ Frz μ' b) (he : ∀ k p, μ.1 k = some p → μ'.1 k = some p) {x : V} {v : Value} (r : VR h μ x v) : VR h' μ' x v := r.at (.of hk he)
theorem VRs.lift {h h' : Heap} {μ μ' : AMap} (hk : ∀ b o, h.get? b = some o → Frz μ b → h'.get? b = some o ∧ Frz μ' b) (he : ∀ k p, μ.1 k = some p → μ'.1 k = some p) {x : List V} {v : List Value} (r : VRs h μ x v) : VRs h' μ' x v := r.at (.of hk he)
noncomputable def AOk (A : Around) (d : Nat) : Prop := A.handled = none ∧ A.depth + 2 * d < 990 ∧ A.units + 8 * d < 9800
theorem AOk.room {A : Around} {d : Nat} (h : AOk A d) : A.depth < recursionLimit := Nat.lt_of_le_of_lt (Nat.le_add_right _ _) (Nat.lt_trans h.2.1 (by decide : 990 < 1000))
theorem AOk.units {A : Around} {d : Nat} (h : AOk A d) : A.units < cLine := Nat.lt_of_le_of_lt (Nat.le_add_right _ _) (Nat.lt_trans h.2.2 (by decide : 9800 < 9900))
theorem AOk.mono {A : Around} {d d' : Nat} (h : AOk A d) (hd : d' ≤ d) : AOk A d' :=
  ⟨h.1, Nat.lt_of_le_of_lt (Nat.add_le_add_left (Nat.mul_le_mul_left 2 hd) _) h.2.1, Nat.lt_of_le_of_lt (Nat.add_le_add_left (Nat.mul_le_mul_left 8 hd) _) h.2.2⟩
theorem AOk.deeper {A : Around} {d : Nat} {env : Env} (h : AOk A (d + 1)) : AOk (A.deeper env) d :=
  ⟨h.1, Nat.lt_of_le_of_lt (Nat.le_of_eq (Nat.add_right_comm A.depth 1 (2 * d))) (Nat.lt_of_succ_lt h.2.1), Nat.lt_of_le_of_lt (Nat.le_of_eq (Nat.add_right_comm A.units 3 (8 * d))) (Nat.lt_of_le_of_lt (Nat.add_le_add_left (by decide : 3 ≤ 8) (A.units + 8 * d)) h.2.2)⟩
noncomputable def ValPost (c : Ctx) (env : Env) (lk : Loc) (μ : AMap) (s : Shared) (Q : V → Sto → Prop) (Qr : Value → Shared → Prop) : Prop :=
  ∀ v s' y σ' μ', Q y σ' → HR c s'.heap μ' σ' → FR c env lk s'.heap μ' → VR s'.heap μ' y v → Step (own env) μ μ' s s' → Qr v s'
noncomputable def Ok (c : Ctx) (d : Nat) (env : Env) (e : Expr) (lk : Loc) (σ : Sto) (Q : V → Sto → Prop) : Prop :=
  ∀ A s μ Qr Er, AOk A d → HR c s.heap μ σ → FR c env lk s.heap μ → ValPost c env lk μ s Q Qr → wpAny c.M A (eval e env) Qr Er s
noncomputable def OkL (c : Ctx) (d : Nat) (env : Env) (es : List Expr) (lk : Loc) (σ : Sto) (Q : List V → Sto → Prop) : Prop :=
  ∀ A s μ Qr Er pos, AOk A d → HR c s.heap μ σ → FR c env lk s.heap μ →
    (∀ vs s' ys σ' μ', Q ys σ' → HR c s'.heap μ' σ' → FR c env lk s'.heap μ' → VRs s'.heap μ' ys vs → Step (own env) μ μ' s s' → Qr vs s') →
    wpAny c.M A (spliced (backTo pos (starEach es env))) Qr Er s
noncomputable def OkT (c : Ctx) (d : Nat) (env : Env) (e : Expr) (lk : Loc) (σ : Sto) (Q : Bool → Sto → Prop) : Prop :=
  ∀ A s μ Qr Er, AOk A d → HR c s.heap μ σ → FR c env lk s.heap μ →
    (∀ b s' σ' μ', Q b σ' → HR c s'.heap μ' σ' → FR c env lk s'.heap μ' → Step (own env) μ μ' s s' → Qr b s') →
    wpAny c.M A (isTrue e env (eval e env)) Qr Er s
inductive Fl where
  | next | brk | cont
  | ret (y : V)
noncomputable def FlR (h : Heap) (μ : AMap) : Fl → Flow → Prop
  | .next, .next => True
  | .brk, .brk => True
  | .cont, .cont => True
  | .ret y, .ret v => VR h μ y v
  | _, _ => False
noncomputable def FlPost (c : Ctx) (env : Env) (μ : AMap) (s : Shared) (Q : Fl → Loc → Sto → Prop) (Qr : Flow → Shared → Prop) : Prop :=
  ∀ f s' fl lk' σ' μ', Q fl lk' σ' → HR c s'.heap μ' σ' → FR c env lk' s'.heap μ' → FlR s'.heap μ' fl f → Step (own env) μ μ' s s' → Qr f s'
noncomputable def OkX (c : Ctx) (d : Nat) (env : Env) (st : Stmt) (lk : Loc) (σ : Sto) (Q : Fl → Loc → Sto → Prop) : Prop :=
  ∀ A s μ Qr Er, AOk A d → HR c s.heap μ σ → FR c env lk s.heap μ → FlPost c env μ s Q Qr → wpAny c.M A (exec st env) Qr Er s
noncomputable def OkB (c : Ctx) (d : Nat) (env : Env) (sts : List Stmt) (lk : Loc) (σ : Sto) (Q : Fl → Loc → Sto → Prop) : Prop :=
  ∀ A s μ Qr Er, AOk A d → HR c s.heap μ σ → FR c env lk s.heap μ → FlPost c env μ s Q Qr → wpAny c.M A (execs sts env) Qr Er s
noncomputable def CallOk (c : Ctx) (d : Nat) (f : Value) (args : List V) (σ : Sto) (Q : V → Sto → Prop) : Prop :=
  ∀ A s μ vs Qr Er, AOk A d → HR c s.heap μ σ → VRs s.heap μ args vs →
    (∀ v s' y σ' μ', Q y σ' → HR c s'.heap μ' σ' → VR s'.heap μ' y v → Step (fun zz => False) μ μ' s s' → Qr v s') → wpAny c.M A (call f vs) Qr Er s
theorem CallOk.mono {c : Ctx} {d d' : Nat} {f : Value} {args : List V} {σ : Sto} {Q Q' : V → Sto → Prop} (h : CallOk c d f args σ Q) (hd : d ≤ d') (hQ : ∀ y σ', Q y σ' → Q' y σ') : CallOk c d' f args σ Q' :=
  fun A s μ vs Qr Er a r v q => h A s μ vs Qr Er (a.mono hd) r v fun v s' y σ' μ' hq => q v s' y σ' μ' (hQ _ _ hq)
theorem some_ne {β : Type} {z : Option β} {x y : β} (h : z = some x) (e : z = some y) : x = y := Option.some.inj (h.symm.trans e)
theorem Ns.no_seq {h : Heap} {a : Addr} {m : Str → Option Value} (n : h.Ns a m) {c d vs k sl} : h.get? a ≠ some ⟨c, d, .seq vs k, sl⟩ := fun e =>
  n.elim fun zz n => n.elim fun zz n => n.elim fun zz n => nomatch n.2.1.symm.trans (congrArg Obj.data (some_ne n.1 e))
theorem IsCell.no_seq {h : Heap} {a : Addr} {v : Option Value} (n : h.IsCell a v) {c d vs k sl} : h.get? a ≠ some ⟨c, d, .seq vs k, sl⟩ := fun e =>
  n.elim fun zz n => nomatch n.2.symm.trans (congrArg Obj.data (some_ne n.1 e))
theorem FR.step0 {c : Ctx} {env : Env} {lk : Loc} {μ μ' : AMap} {s s' : Shared} (f : FR c env lk s.heap μ) (st : Step (fun zz => False) μ μ' s s') : FR c env lk s'.heap μ' :=
  f.at st.kp fun a o zz fz e => ⟨st.keep a o fz id e, st.frz e fz⟩
theorem Step.ofKeep {X : Addr → Prop} {μ : AMap} {s s' : Shared} (k : ∀ b o, s.heap.get? b = some o → s'.heap.get? b = some o) (hg : s'.gens = s.gens) (ho : s'.os = s.os) : Step X μ μ s s' :=
  ⟨fun b o zz zz h => k b o h, fun b zz zz zz zz h => k b _ h, fun b o h => ⟨o, k b o h⟩, fun zz zz h => h, fun zz zz h h' => (nomatch (h.symm.trans h')), rfl, fun b o zz h => k b o h, hg, ho⟩
theorem HR.keep {c : Ctx} {h h' : Heap} {μ : AMap} {σ : Sto} (r : HR c h μ σ) (k : ∀ b o, h.get? b = some o → h'.get? b = some o) : HR c h' μ σ := r.but (X := fun zz => False) (fun zz x => x.elim) (.all k) fun b o zz => k b o
theorem FR.keep {c : Ctx} {env : Env} {lk : Loc} {μ : AMap} {s s' : Shared} (f : FR c env lk s.heap μ) (k : ∀ b o, s.heap.get? b = some o → s'.heap.get? b = some o) (hg : s'.gens = s.gens) (ho : s'.os = s.os) : FR c env lk s'.heap μ :=
  f.step0 (Step.ofKeep k hg ho)
-- C2
section
variable {c : Ctx} {d : Nat} {env : Env} {lk : Loc} {σ : Sto} {Q : V → Sto → Prop} {pos : Pos}
noncomputable def Run1 (c : Ctx) (d : Nat) (env : Env) (lk : Loc) (σ : Sto) (t : Value → Sem Value) (a : V) (Q : V → Sto → Prop) : Prop :=
  ∀ A s μ va Qr Er, AOk A d → HR c s.heap μ σ → FR c env lk s.heap μ → VR s.heap μ a va → ValPost c env lk μ s Q Qr → wpAny c.M A (t va) Qr Er s
noncomputable def Run2 (c : Ctx) (d : Nat) (env : Env) (lk : Loc) (σ : Sto) (t : Value → Value → Sem Value) (a b : V) (Q : V → Sto → Prop) : Prop :=
  ∀ A s μ va vb Qr Er, AOk A d → HR c s.heap μ σ → FR c env lk s.heap μ → VR s.heap μ a va → VR s.heap μ b vb → ValPost c env lk μ s Q Qr → wpAny c.M A (t va vb) Qr Er s
noncomputable def CallF (c : Ctx) (d : Nat) (env : Env) (lk : Loc) (σ : Sto) (f : Value) (args : List V) (Q : V → Sto → Prop) : Prop :=
  ∀ A s μ vs Qr Er, AOk A d → HR c s.heap μ σ → FR c env lk s.heap μ → VRs s.heap μ args vs → ValPost c env lk μ s Q Qr → wpAny c.M A (call f vs) Qr Er s
theorem CallOk.toF {f : Value} {args : List V} (h : CallOk c d f args σ Q) : CallF c d env lk σ f args Q :=
  fun A s μ vs Qr Er a r fr hv q => h A s μ vs Qr Er a r hv fun v s' y σ' μ' hq r' hv' st => q v s' y σ' μ' hq r' (fr.step0 st) hv' (st.mono fun zz x => x.elim)
theorem ValPost.same {μ : AMap} {s : Shared} {Qr : Value → Shared → Prop} (q : ValPost c env lk μ s Q Qr) {v : Value} {y : V} {n : Nat} (hq : Q y σ) (r : HR c s.heap μ σ) (f : FR c env lk s.heap μ) (hv : VR s.heap μ y v) :
    Qr v { s with toks := n } := q v { s with toks := n } y σ μ hq r f hv (Step.ofKeep (fun zz zz h => h) rfl rfl)
theorem ValPost.now {μ : AMap} {s : Shared} {Qr : Value → Shared → Prop} (q : ValPost c env lk μ s Q Qr) {v : Value} {y : V} (hq : Q y σ) (r : HR c s.heap μ σ) (f : FR c env lk s.heap μ) (hv : VR s.heap μ y v) :
    Qr v s := q v s y σ μ hq r f hv (Step.refl _ _ _)
theorem ValPost.after {μ μ' : AMap} {s s' : Shared} {Qr : Value → Shared → Prop} (q : ValPost c env lk μ s Q Qr) (st : Step (own env) μ μ' s s') : ValPost c env lk μ' s' Q Qr :=
  fun v s'' y σ'' μ'' hq r f hv st' => q v s'' y σ'' μ'' hq r f hv (st.trans st')
theorem Ok.mono {e : Expr} {Q' : V → Sto → Prop} (h : Ok c d env e lk σ Q) (hQ : ∀ y σ', Q y σ' → Q' y σ') : Ok c d env e lk σ Q' :=
  fun A s μ Qr Er a r f q => h A s μ Qr Er a r f fun v s' y σ' μ' hq => q v s' y σ' μ' (hQ _ _ hq)
theorem OkL.mono {es : List Expr} {Q Q' : List V → Sto → Prop} (h : OkL c d env es lk σ Q) (hQ : ∀ y σ', Q y σ' → Q' y σ') : OkL c d env es lk σ Q' :=
  fun A s μ Qr Er p a r f q => h A s μ Qr Er p a r f fun v s' y σ' μ' hq => q v s' y σ' μ' (hQ _ _ hq)
theorem ok_int {i : Int} {k} (h : Q (.int i) σ) : Ok c d env (.Constant (.int i) k pos) lk σ Q :=
  fun zz zz zz zz zz zz r f q => wpAny_Constant_int (q.same h r f (.int _ _))
theorem ok_str {x : Str} {k} (h : Q (.str x) σ) : Ok c d env (.Constant (.str x) k pos) lk σ Q :=
  fun zz zz zz zz zz zz r f q => wpAny_Constant_str (q.same h r f (.str _ _))
theorem ok_none {k} (h : Q .none σ) : Ok c d env (.Constant .none k pos) lk σ Q :=
  fun zz zz zz zz zz zz r f q => wpAny_Constant_none (q.now h r f .none)
theorem ok_var {x : Str} {y : V} (hl : lk.lookup x = some y) (h : Q y σ) (hk : env.kindOf x = some .local ∨ env.kindOf x = some .cell ∨ env.kindOf x = some .free)
    (hd : (x == ("__debug__" : Str)) = false) (hcd : (x == ("__classdict__" : Str)) = false) : Ok c d env (.Name x pos) lk σ Q := by
  intro A s μ Qr Er a r f q
  refine wpAny_Name ?_ hd
  rcases hk with hk | hk | hk
  · obtain ⟨m, hn, hm⟩ := f.ns
    obtain ⟨v, h1, h2⟩ := hm x y hk hl
    exact wpAny_loadName_local f.kind hk hn h1 (q.now h r f h2)
  · obtain ⟨a', ha⟩ := f.cells x (.inl hk)
    obtain ⟨_, _, _, v, h4, h5⟩ := f.cell x a' ha
    obtain ⟨u, rfl, h6⟩ := h5 y (.inl hk) hl
    exact wpAny_loadName_cell f.kind hk ha h4 (q.now h r f h6)
  · obtain ⟨a', ha⟩ := f.cells x (.inr hk)
    obtain ⟨_, _, _, v, h4, h5⟩ := f.cell x a' ha
    obtain ⟨u, rfl, h6⟩ := h5 y (.inr hk) hl
    exact wpAny_loadName_free f.kind hk ha h4 (q.now h r f h6) hcd
theorem ns_globals {μ : AMap} {s : Shared} (r : HR c s.heap μ σ) (f : FR c env lk s.heap μ) : s.heap.Ns env.globals c.mg := by rw [f.globals]; exact c.g.keeps r.base
theorem ns_builtins {μ : AMap} {s : Shared} (r : HR c s.heap μ σ) (f : FR c env lk s.heap μ) : s.heap.Ns env.builtins c.mb := by rw [f.builtins]; exact c.b.keeps r.base
theorem ok_global {x : Str} {v : Value} {y : V} (e : nsIn c.K mainGlobals x = some (some v)) (hv : VR c.H0 (fun zz => none, fun zz => False) y v) (h : Q y σ)
    (hk : env.kindOf x = some .globalImplicit) (hd : (x == ("__debug__" : Str)) = false) : Ok c d env (.Name x pos) lk σ Q := by
  intro A s μ Qr Er a r f q
  refine Name_function_global f.kind hk (loadGlobal_global (ns_globals r f) (mg_of c.X c.g e) (q.now h r f ?_)) hd
  exact VR.lift (fun b o hb zz => ⟨r.base b o hb, r.frz0 hb⟩) (by intro k p e; cases e) hv
theorem ok_globalR {x : Str} {v : Value} (e : nsIn c.K mainGlobals x = some (some v)) (h : Q (.raw v) σ)
    (hk : env.kindOf x = some .globalImplicit) (hd : (x == ("__debug__" : Str)) = false) : Ok c d env (.Name x pos) lk σ Q := ok_global e (.raw v) h hk hd
theorem ok_builtin {x : Str} {v : Value} (e : nsIn c.K mainGlobals x = some none) (hv : bootBuiltins x = some v) (hn : x ≠ "__name__") (h : Q (.raw v) σ)
    (hk : env.kindOf x = some .globalImplicit) (hd : (x == ("__debug__" : Str)) = false) : Ok c d env (.Name x pos) lk σ Q := by
  intro A s μ Qr Er a r f q
  exact Name_function_global f.kind hk (loadGlobal_builtin (ns_globals r f) (mg_none_of c.X c.g e) (ns_builtins r f) ((c.builtins x hn).trans hv) (q.now h r f (.raw v))) hd
theorem okl_nil {QL : List V → Sto → Prop} (h : QL [] σ) : OkL c d env [] lk σ QL :=
  fun zz s μ zz zz zz zz r f q => wpAny_items_nil (q _ s _ σ μ h r f .nil (Step.refl _ _ _))
theorem okl_cons {e : Expr} {es : List Expr} {QL : List V → Sto → Prop} (h : Ok c d env e lk σ (fun y σ' => OkL c d env es lk σ' (fun ys σ'' => QL (y :: ys) σ'')))
    (he : ∀ env, starEach (e :: es) env = (false, eval e env) :: starEach es env) : OkL c d env (e :: es) lk σ QL := by
  intro A s μ Qr Er pos a r f q
  refine wpAny_items_cons ?_ (he env)
  refine h A s μ _ Er a r f fun v s' y σ' μ' hq r' f' hv st => ?_
  refine hq A s' μ' _ Er pos a r' f' fun vs s'' ys σ'' μ'' hq' r'' f'' hvs st' => ?_
  exact q _ s'' _ σ'' μ'' hq' r'' f'' (.cons (hv.step st') hvs) (st.trans st')
theorem ok_binop {l r : Expr} {op : Operator} (h : Ok c d env l lk σ (fun a σ' => Ok c d env r lk σ' (fun b σ'' => Run2 c d env lk σ'' (binaryOp op) a b Q))) :
    Ok c d env (.BinOp l op r pos) lk σ Q := by
  intro A s μ Qr Er ok r f q
  refine wpAny_BinOp (h A s μ _ Er ok r f fun va s₁ a σ₁ μ₁ h₁ r₁ f₁ v₁ st₁ => ?_)
  refine h₁ A s₁ μ₁ _ Er ok r₁ f₁ fun vb s₂ b σ₂ μ₂ h₂ r₂ f₂ v₂ st₂ => ?_
  exact h₂ A s₂ μ₂ va vb Qr Er ok r₂ f₂ (v₁.step st₂) v₂ (q.after (st₁.trans st₂))
theorem ok_unop {x : Expr} {op : UnaryOp} (h : Ok c d env x lk σ (fun a σ' => Run1 c d env lk σ' (unaryOp op) a Q)) : Ok c d env (.UnaryOp op x pos) lk σ Q := by
  intro A s μ Qr Er ok r f q
  refine wpAny_UnaryOp (h A s μ _ Er ok r f fun va s₁ a σ₁ μ₁ h₁ r₁ f₁ v₁ st₁ => ?_)
  exact h₁ A s₁ μ₁ va Qr Er ok r₁ f₁ v₁ (q.after st₁)
theorem ok_compare {l r : Expr} {op : CmpOp} (h : Ok c d env l lk σ (fun a σ' => Ok c d env r lk σ' (fun b σ'' => Run2 c d env lk σ'' (compareOp op) a b Q)))
    (hm : behindInMarks op r = false) : Ok c d env (.Compare l [op] [r] pos) lk σ Q := by
  intro A s μ Qr Er ok r f q
  refine wpAny_Compare1 (h A s μ _ Er ok r f fun va s₁ a σ₁ μ₁ h₁ r₁ f₁ v₁ st₁ => ?_) hm
  refine h₁ A s₁ μ₁ _ Er ok r₁ f₁ fun vb s₂ b σ₂ μ₂ h₂ r₂ f₂ v₂ st₂ => ?_
  exact h₂ A s₂ μ₂ va vb Qr Er ok r₂ f₂ (v₁.step st₂) v₂ (q.after (st₁.trans st₂))
theorem ok_ifexp {test body orelse : Expr} (h : OkT c d env test lk σ (fun b σ' => (b = true → Ok c d env body lk σ' Q) ∧ (b = false → Ok c d env orelse lk σ' Q))) :
    Ok c d env (.IfExp test body orelse pos) lk σ Q := by
  intro A s μ Qr Er ok r f q
  refine wpAny_IfExp (h A s μ _ Er ok r f fun b s₁ σ₁ μ₁ h₁ r₁ f₁ st₁ => ?_)
  cases b with
  | true => exact h₁.1 rfl A s₁ μ₁ Qr Er ok r₁ f₁ (q.after st₁)
  | false => exact h₁.2 rfl A s₁ μ₁ Qr Er ok r₁ f₁ (q.after st₁)
theorem okt_compare {l r : Expr} {op : CmpOp} {QT : Bool → Sto → Prop} (h : Ok c d env l lk σ (fun a σ' => Ok c d env r lk σ' (fun b σ'' => Run2 c d env lk σ'' (compareOp op) a b (fun y σ₃ => ∃ t, y = .bool t ∧ QT t σ₃))))
    (hm : behindInMarks op r = false) : OkT c d env (.Compare l [op] [r] pos) lk σ QT := by
  intro A s μ Qr Er ok r f q
  refine wpAny_isTrue_Compare1 (h A s μ _ Er ok r f fun va s₁ a σ₁ μ₁ h₁ r₁ f₁ v₁ st₁ => ?_) hm
  refine h₁ A s₁ μ₁ _ Er ok r₁ f₁ fun vb s₂ b σ₂ μ₂ h₂ r₂ f₂ v₂ st₂ => ?_
  refine h₂ A s₂ μ₂ va vb _ Er ok r₂ f₂ (v₁.step st₂) v₂ fun v s₃ y σ₃ μ₃ h₃ r₃ f₃ v₃ st₃ => ?_
  obtain ⟨t, rfl, hq⟩ := h₃
  obtain rfl := v₃.bool'
  exact wpAny_truthy_bool (q t s₃ σ₃ μ₃ hq r₃ f₃ ((st₁.trans st₂).trans st₃))
theorem okt_not {x : Expr} {QT : Bool → Sto → Prop} (h : OkT c d env x lk σ (fun b σ' => QT (!b) σ')) : OkT c d env (.UnaryOp .Not x pos) lk σ QT := by
  intro A s μ Qr Er ok r f q
  exact wpAny_isTrue_Not (h A s μ _ Er ok r f fun b s₁ σ₁ μ₁ h₁ r₁ f₁ st₁ => q _ s₁ σ₁ μ₁ h₁ r₁ f₁ st₁)
noncomputable def OkAll (c : Ctx) (d : Nat) (env : Env) (op : BoolOp) (es : List Expr) (lk : Loc) (σ : Sto) (Q : Bool → Sto → Prop) : Prop :=
  ∀ A s μ Qr Er, AOk A d → HR c s.heap μ σ → FR c env lk s.heap μ →
    (∀ b s' σ' μ', Q b σ' → HR c s'.heap μ' σ' → FR c env lk s'.heap μ' → Step (own env) μ μ' s s' → Qr b s') →
    wpAny c.M A (allTrue op es env) Qr Er s
theorem okt_boolop {op : BoolOp} {es : List Expr} {QT : Bool → Sto → Prop} (h : OkAll c d env op es lk σ QT) : OkT c d env (.BoolOp op es pos) lk σ QT := by
  intro A s μ Qr Er ok r f q
  exact wpAny_isTrue_BoolOp (h A s μ _ Er ok r f q)
theorem okall_and_nil {QT : Bool → Sto → Prop} (h : QT true σ) : OkAll c d env .And [] lk σ QT :=
  fun zz s μ zz zz zz r f q => wpAny_allTrue_And_nil (q _ s σ μ h r f (Step.refl _ _ _))
theorem okall_or_nil {QT : Bool → Sto → Prop} (h : QT false σ) : OkAll c d env .Or [] lk σ QT :=
  fun zz s μ zz zz zz r f q => wpAny_allTrue_Or_nil (q _ s σ μ h r f (Step.refl _ _ _))
theorem okall_and {e : Expr} {es : List Expr} {QT : Bool → Sto → Prop} (h : OkT c d env e lk σ (fun b σ' => (b = true → OkAll c d env .And es lk σ' QT) ∧ (b = false → QT false σ'))) : OkAll c d env .And (e :: es) lk σ QT := by
  intro A s μ Qr Er ok r f q
  refine wpAny_allTrue_And_cons (h A s μ _ Er ok r f fun b s₁ σ₁ μ₁ h₁ r₁ f₁ st₁ => ?_)
  cases b with
  | true => exact h₁.1 rfl A s₁ μ₁ Qr Er ok r₁ f₁ fun b s' σ' μ' a1 a2 a3 a4 => q b s' σ' μ' a1 a2 a3 (st₁.trans a4)
  | false => exact q false s₁ σ₁ μ₁ (h₁.2 rfl) r₁ f₁ st₁
theorem okall_or {e : Expr} {es : List Expr} {QT : Bool → Sto → Prop} (h : OkT c d env e lk σ (fun b σ' => (b = false → OkAll c d env .Or es lk σ' QT) ∧ (b = true → QT true σ'))) : OkAll c d env .Or (e :: es) lk σ QT := by
  intro A s μ Qr Er ok r f q
  refine wpAny_allTrue_Or_cons (h A s μ _ Er ok r f fun b s₁ σ₁ μ₁ h₁ r₁ f₁ st₁ => ?_)
  cases b with
  | false => exact h₁.1 rfl A s₁ μ₁ Qr Er ok r₁ f₁ fun b s' σ' μ' a1 a2 a3 a4 => q b s' σ' μ' a1 a2 a3 (st₁.trans a4)
  | true => exact q true s₁ σ₁ μ₁ (h₁.2 rfl) r₁ f₁ st₁
theorem okt_value {e : Expr} {QT : Bool → Sto → Prop} (h : Ok c d env e lk σ (fun y σ' => ∃ t, y = .bool t ∧ QT t σ'))
    (hw : ∀ (env : Env) (whole : Sem Value), isTrue e env whole = (do let v ← whole; standAt e.pos; holding [v] (truthy v))) : OkT c d env e lk σ QT := by
  intro A s μ Qr Er ok r f q
  rw [hw]
  refine wpAny_bind (h A s μ _ Er ok r f fun v s₁ y σ₁ μ₁ h₁ r₁ f₁ v₁ st₁ => ?_)
  obtain ⟨t, rfl, hq⟩ := h₁
  obtain rfl := v₁.bool'
  exact wpAny_bind (wpAny_standAt (wpAny_holding (wpAny_truthy_bool (q t s₁ σ₁ μ₁ hq r₁ f₁ st₁))))
theorem ok_and {x y : Expr} (h : Ok c d env x lk σ (fun v σ' => ∃ t, v = .bool t ∧ (t = true → Ok c d env y lk σ' Q) ∧ (t = false → Q (.bool false) σ'))) : Ok c d env (.BoolOp .And [x, y] pos) lk σ Q := by
  intro A s μ Qr Er ok r f q
  refine wpAny_And2 (h A s μ _ Er ok r f fun v s₁ y σ₁ μ₁ h₁ r₁ f₁ v₁ st₁ => ?_)
  obtain ⟨t, rfl, hq⟩ := h₁
  obtain rfl := v₁.bool'
  refine wpAny_truthy_bool ?_
  cases t with
  | true => exact hq.1 rfl A s₁ μ₁ Qr Er ok r₁ f₁ (q.after st₁)
  | false => exact q _ s₁ _ σ₁ μ₁ (hq.2 rfl) r₁ f₁ (.bool false) st₁
theorem HR.push {h : Heap} {μ : AMap} (r : HR c h μ σ) (o : Obj) : HR c (h.push o) μ σ := r.keep fun zz zz e => Heap.get?_push_of_some o e
theorem FR.push {s : Shared} {μ : AMap} (f : FR c env lk s.heap μ) (o : Obj) : FR c env lk (s.heap.push o) μ :=
  f.keep (s' := { s with heap := s.heap.push o }) (fun zz zz e => Heap.get?_push_of_some o e) rfl rfl
theorem HR.has {h : Heap} {μ : AMap} (r : HR c h μ σ) {k : Nat} {p : Addr × Addr} (hk : μ.1 k = some p) : ∃ x, σ k = some x ∧ CR c h μ x p := by
  cases hx : σ k with
  | none => exact nomatch (hk.symm.trans ((r.dom k).mp hx) : some p = none)
  | some x => exact ⟨x, rfl, r.cell k x p hx hk⟩
theorem CR.occ {h : Heap} {μ : AMap} {x : Cell} {p : Addr × Addr} (r : CR c h μ x p) : (∃ o, h.get? p.1 = some o) ∧ ∃ o, h.get? p.2 = some o := by
  cases x with
  | list => exact have z := r.2.elim fun zz q => q.elim fun zz q => ⟨_, q.1⟩; ⟨z, r.1 ▸ z⟩
  | dictS => exact have z := r.2.elim fun zz q => q.1.imp fun zz q => q.elim fun zz q => q.elim fun zz q => q.1; ⟨z, r.1 ▸ z⟩
  | dictI => exact have z := r.2.elim fun zz q => q.1.imp fun zz q => q.elim fun zz q => q.elim fun zz q => q.1; ⟨z, r.1 ▸ z⟩
  | inst => exact ⟨⟨_, r.1⟩, r.2.elim fun zz q => q.elim fun zz q => ⟨_, q.1⟩⟩
theorem HR.occ {h : Heap} {μ : AMap} (r : HR c h μ σ) {k : Nat} {p : Addr × Addr} (hk : μ.1 k = some p) : (∃ o, h.get? p.1 = some o) ∧ ∃ o, h.get? p.2 = some o := (r.has hk).elim fun zz z => z.2.occ
theorem frz_none {h : Heap} {μ : AMap} (r : HR c h μ σ) {a : Addr} (ha : h.get? a = none) : Frz μ a :=
  ⟨fun zz zz hk => ⟨(r.occ hk).1.elim fun zz e => (get_ne e ha).symm, (r.occ hk).2.elim fun zz e => (get_ne e ha).symm⟩, fun hh => (r.hid a hh).1.elim fun o e => nomatch (ha.symm.trans e : none = some o)⟩
theorem none_ge {h : Heap} {a : Addr} (ha : h.objs.size ≤ a) : h.get? a = none := by
  cases e : h.get? a with
  | none => rfl
  | some o => exact absurd (Heap.lt_size e) (Nat.not_lt.mpr ha)
theorem none_size (h : Heap) : h.get? h.objs.size = none := none_ge (Nat.le_refl _)
theorem frz_size {h : Heap} {μ : AMap} (r : HR c h μ σ) : Frz μ h.objs.size := frz_none r (none_size h)
theorem Step.push {X : Addr → Prop} {μ : AMap} {s : Shared} (o : Obj) : Step X μ μ s { s with heap := s.heap.push o } :=
  Step.ofKeep (fun zz zz e => Heap.get?_push_of_some o e) rfl rfl
theorem ok_tuple {es : List Expr} {k : Nat} (h : OkL c d env es lk σ (fun ys σ' => ys.length ≤ sizeLine ∧ Q (.tup ys) σ')) : Ok c d env (.Tuple es k pos) lk σ Q := by
  intro A s μ Qr Er ok r f q
  refine Tuple_ (h A s μ _ Er pos ok r f fun vs s₁ ys σ₁ μ₁ hq r₁ f₁ v₁ st₁ => ?_)
  have hl : vs.length ≤ sizeLine := by rw [← v₁.length]; exact hq.1
  refine wpAny_newObj_type (T := "tuple") (data := .seq vs.toArray) ?_ (by show vs.toArray.size ≤ sizeLine; rw [List.size_toArray]; exact hl)
  refine q _ { s₁ with heap := s₁.heap.push _ } (.tup ys) σ₁ μ₁ hq.2 (r₁.push _) (f₁.push _) ?_ (st₁.trans (Step.push _))
  exact .tup (Heap.get?_push_size _ rfl) (frz_size r₁) (v₁.step (X := fun zz => False) (s' := { s₁ with heap := s₁.heap.push _ }) (Step.push _))
theorem ok_list {es : List Expr} (h : OkL c d env es lk σ (fun ys σ' => ys.length ≤ sizeLine ∧ Q (.lst ys) σ')) : Ok c d env (.List es pos) lk σ Q := by
  intro A s μ Qr Er ok r f q
  refine List_ (h A s μ _ Er pos ok r f fun vs s₁ ys σ₁ μ₁ hq r₁ f₁ v₁ st₁ => ?_)
  have hl : vs.length ≤ sizeLine := by rw [← v₁.length]; exact hq.1
  refine wpAny_newObj_type (T := "list") (data := .seq vs.toArray) ?_ (by show vs.toArray.size ≤ sizeLine; rw [List.size_toArray]; exact hl)
  refine q _ { s₁ with heap := s₁.heap.push _ } (.lst ys) σ₁ μ₁ hq.2 (r₁.push _) (f₁.push _) ?_ (st₁.trans (Step.push _))
  exact .lst (Heap.get?_push_size _ rfl) (frz_size r₁) (v₁.step (X := fun zz => False) (s' := { s₁ with heap := s₁.heap.push _ }) (Step.push _))
end
-- C3
noncomputable def put (x : Str) (y : V) : Loc → Loc
  | [] => [(x, y)]
  | (z, w) :: r => if x == z then (z, y) :: r else (z, w) :: put x y r
theorem put_lookup (x z : Str) (y : V) : ∀ lk : Loc, (put x y lk).lookup z = if z = x then some y else lk.lookup z
  | [] => by
    simp only [put, List.lookup_cons, List.lookup_nil]
    by_cases h : z = x
    · simp [h]
    · have : (z == x) = false := by simpa using h
      simp [this, h]
  | (k, w) :: r => by
    unfold put
    by_cases hx : x = k
    · subst hx
      simp only [beq_self_eq_true, if_true, List.lookup_cons]
      by_cases h : z = x
      · simp [h]
      · have : (z == x) = false := by simpa using h
        simp [this, h]
    · have hx' : (x == k) = false := by simpa using hx
      simp only [hx', Bool.false_eq_true, if_false, List.lookup_cons, put_lookup x z y r]
      by_cases h : z = x
      · subst h
        simp [hx']
      · simp [h]
section
variable {c : Ctx} {d : Nat} {env : Env} {lk : Loc} {σ : Sto} {pos : Pos}
theorem FR.noH0 {h : Heap} {μ : AMap} (f : FR c env lk h μ) {a : Addr} (ha : own env a) : c.H0.get? a = none := by
  rcases ha with rfl | ⟨x, hx⟩
  · cases hq : c.H0.get? env.locals with
    | none => rfl
    | some o => exact absurd (Nat.lt_of_lt_of_le (Heap.lt_size hq) f.above) (Nat.lt_irrefl _)
  · exact (f.cell x a hx).2.2.1
theorem FR.frz {h : Heap} {μ : AMap} (f : FR c env lk h μ) {a : Addr} (ha : own env a) : Frz μ a := by
  rcases ha with rfl | ⟨x, hx⟩
  · exact f.frzL
  · exact (f.cell x a hx).2.1
theorem FR.no_seq {h : Heap} {μ : AMap} (f : FR c env lk h μ) {a : Addr} (ha : own env a) {C dd vs k sl} : h.get? a ≠ some ⟨C, dd, .seq vs k, sl⟩ := by
  rcases ha with rfl | ⟨x, hx⟩
  · obtain ⟨m, hn, _⟩ := f.ns
    exact Ns.no_seq hn
  · obtain ⟨_, _, _, v, hv, _⟩ := f.cell x a hx
    exact IsCell.no_seq hv
theorem own_step {s s' : Shared} {μ : AMap} (f : FR c env lk s.heap μ) (r : HR c s.heap μ σ) {a : Addr} (ha : own env a) (hs : Heap.SameBut a s.heap s'.heap) (hl : ∃ o, s'.heap.get? a = some o)
    (hg : s'.gens = s.gens) (ho : s'.os = s.os) : HR c s'.heap μ σ ∧ Step (own env) μ μ s s' :=
  have k : ∀ b o, ¬ b = a → s.heap.get? b = some o → s'.heap.get? b = some o := fun b o hb e => (hs.2 b hb).trans e
  have K : Kp s.heap s'.heap μ μ := .but (X := (· = a)) k fun b hb zz C d vs n sl => hb ▸ f.no_seq ha
  ⟨r.but (X := (· = a)) (fun b hb => hb ▸ ⟨f.frz ha, f.noH0 ha⟩) K k, .but (Y := (· = a)) K k (fun b hb => hb ▸ hl) (fun b hb zz => hb ▸ ha) (fun b hb e => (f.frz ha).2 (e ▸ hb)) hg ho⟩
theorem putl_hit {x : Str} {y w : V} (h : (put x y lk).lookup x = some w) : w = y := by
  rw [put_lookup, if_pos rfl] at h; exact (Option.some.inj h).symm
theorem putl_other {x z : Str} {y w : V} (n : z ≠ x) (h : (put x y lk).lookup z = some w) : lk.lookup z = some w := by
  rw [put_lookup, if_neg n] at h; exact h
theorem kind_ne {x z : Str} {k k' : NameKind} (h : env.kindOf x = some k) (h' : env.kindOf z = some k') (n : k ≠ k') : z ≠ x := fun e => n (Option.some.inj (h.symm.trans (e ▸ h')))
theorem store_var {A : Around} {s : Shared} {μ : AMap} {x : Str} {y : V} {v : Value} {Qr : Unit → Shared → Prop} {Er : Value → Shared → Prop} (f : FR c env lk s.heap μ) (r : HR c s.heap μ σ) (hv : VR s.heap μ y v)
    (hk : env.kindOf x = some .local ∨ env.kindOf x = some .cell) (q : ∀ s', HR c s'.heap μ σ → FR c env (put x y lk) s'.heap μ → Step (own env) μ μ s s' → Qr () s') : wpAny c.M A (storeName env x v) Qr Er s := by
  rcases hk with hk | hk
  · obtain ⟨m, hn, hm⟩ := f.ns
    refine wpAny_storeName_local hk hn (fun h' hn' hs => ?_) (by rw [f.kind]; rfl)
    have z := own_step (s' := { s with heap := h', toks := s.toks + 1 }) f r (.inl rfl) hs (hn'.elim fun o n => n.elim fun zz n => n.elim fun zz n => ⟨o, n.1⟩) rfl rfl
    refine q _ z.1 ⟨f.kind, f.globals, f.builtins, f.above, f.frzL, ⟨_, hn', fun w u hz hw => ?_⟩, fun w a ha => ?_, f.cells, f.apart⟩ z.2
    · by_cases e : w = x
      · subst e; exact ⟨v, if_pos rfl, putl_hit hw ▸ hv.step z.2⟩
      · exact (hm w u hz (putl_other e hw)).imp fun zz g => ⟨(if_neg e).trans g.1, g.2.step z.2⟩
    · have g := f.cell w a ha
      exact ⟨g.1, g.2.1, g.2.2.1, g.2.2.2.imp fun zz q => ⟨IsCell.keep q.1 fun o e => (hs.2 a g.1).trans e, fun u hw hl => (q.2 u hw (putl_other (hw.elim (kind_ne hk · nofun) (kind_ne hk · nofun)) hl)).imp fun zz g => ⟨g.1, g.2.step z.2⟩⟩⟩
  · obtain ⟨a, ha⟩ := f.cells x (.inl hk)
    have g := f.cell x a ha
    obtain ⟨u, hu, _⟩ := g.2.2.2
    refine wpAny_storeName_cell f.kind hk ha hu (fun h' hc' hs => ?_)
    have z := own_step (s' := { s with heap := h' }) f r (.inr ⟨x, ha⟩) hs (hc'.imp fun zz q => q.1) rfl rfl
    refine q _ z.1 ⟨f.kind, f.globals, f.builtins, f.above, f.frzL, f.ns.imp fun m n => ⟨n.1.sameBut hs (Ne.symm g.1), fun w u hz hw => ?_⟩, fun w a' ha' => ?_, f.cells, f.apart⟩ z.2
    · exact (n.2 w u hz (putl_other (kind_ne hk hz nofun) hw)).imp fun zz g => ⟨g.1, g.2.step z.2⟩
    · have g' := f.cell w a' ha'
      by_cases e : w = x
      · subst e
        obtain rfl := some_ne ha ha'
        exact ⟨g.1, g.2.1, g.2.2.1, some v, hc', fun w hw hl => ⟨v, rfl, putl_hit hl ▸ hv.step z.2⟩⟩
      · exact ⟨g'.1, g'.2.1, g'.2.2.1, g'.2.2.2.imp fun zz q => ⟨IsCell.keep q.1 fun o e' => (hs.2 a' (f.apart w x a' a ha' ha e)).trans e', fun u hw hl => (q.2 u hw (putl_other e hl)).imp fun zz g => ⟨g.1, g.2.step z.2⟩⟩⟩
theorem FR.weak {h : Heap} {μ : AMap} {lk' : Loc} (f : FR c env lk h μ) (hw : ∀ x y, lk'.lookup x = some y → lk.lookup x = some y) : FR c env lk' h μ where
  kind := f.kind
  globals := f.globals
  builtins := f.builtins
  above := f.above
  frzL := f.frzL
  ns := f.ns.imp fun zz n => ⟨n.1, fun x y hx hy => n.2 x y hx (hw x y hy)⟩
  cell := fun x a ha => have g := f.cell x a ha; ⟨g.1, g.2.1, g.2.2.1, g.2.2.2.imp fun zz q => ⟨q.1, fun y hy hl => q.2 y hy (hw x y hl)⟩⟩
  cells := f.cells
  apart := f.apart
noncomputable def mupd (μ : AMap) (k : Nat) (p : Addr × Addr) : AMap := (fun j => if j = k then some p else μ.1 j, μ.2)
theorem ite_which {α : Type} {p : Prop} [Decidable p] {a b : Option α} {q : α} (h : (if p then a else b) = some q) : (p ∧ a = some q) ∨ (¬ p ∧ b = some q) := by
  by_cases hp : p
  · rw [if_pos hp] at h; exact .inl ⟨hp, h⟩
  · rw [if_neg hp] at h; exact .inr ⟨hp, h⟩
theorem ite_none {α β : Type} {p : Prop} [Decidable p] {a : α} {b : β} {x : Option α} {y : Option β} (h : x = none ↔ y = none) : (if p then some a else x) = none ↔ (if p then some b else y) = none := by
  by_cases hp : p
  · rw [if_pos hp, if_pos hp]; exact ⟨nofun, nofun⟩
  · rw [if_neg hp, if_neg hp]; exact h
theorem HR.alloc {s s' : Shared} {μ : AMap} {X : Addr → Prop} (r : HR c s.heap μ σ) {k : Nat} (hk : σ k = none) (kp : ∀ b o, s.heap.get? b = some o → s'.heap.get? b = some o) (hg : s'.gens = s.gens) (ho : s'.os = s.os)
    {p : Addr × Addr} (z1 : c.H0.objs.size ≤ p.1) (z2 : c.H0.objs.size ≤ p.2) (n1 : s.heap.get? p.1 = none) (n2 : s.heap.get? p.2 = none) {x : Cell}
    (hc : (∀ {y v}, VR s.heap μ y v → VR s'.heap (mupd μ k p) y v) → (∀ {ys vs}, VRs s.heap μ ys vs → VRs s'.heap (mupd μ k p) ys vs) → CR c s'.heap (mupd μ k p) x p) :
    HR c s'.heap (mupd μ k p) (upd σ k x) ∧ Step X μ (mupd μ k p) s s' := by
  have wh : ∀ {j q}, (mupd μ k p).1 j = some q → (j = k ∧ some p = some q) ∨ (¬ j = k ∧ μ.1 j = some q) := ite_which
  have ext : ∀ j q, μ.1 j = some q → (mupd μ k p).1 j = some q := fun j q hj => (if_neg fun (e : j = k) => nomatch (((r.dom k).mp hk).symm.trans (e ▸ hj) : none = some q)).trans hj
  have ap : ∀ {b o}, s.heap.get? b = some o → b ≠ p.1 ∧ b ≠ p.2 := fun e => ⟨get_ne e n1, get_ne e n2⟩
  have fz : ∀ b o, s.heap.get? b = some o → Frz μ b → Frz (mupd μ k p) b := fun b o e f => ⟨fun j q hj => (wh hj).elim (fun z => Option.some.inj z.2 ▸ ap e) fun z => f.1 j q z.2, f.2⟩
  have K : Kp s.heap s'.heap μ (mupd μ k p) := .of (fun b o e f => ⟨kp b o e, fz b o e f⟩) ext
  have occ : ∀ {j q}, μ.1 j = some q → q.1 ≠ p.1 ∧ q.1 ≠ p.2 ∧ q.2 ≠ p.1 ∧ q.2 ≠ p.2 := fun hj =>
    (r.occ hj).1.elim fun zz e1 => (r.occ hj).2.elim fun zz e2 => ⟨(ap e1).1, (ap e1).2, (ap e2).1, (ap e2).2⟩
  refine ⟨⟨fun b o e => kp _ _ (r.base b o e), fun j => ite_none (r.dom j), fun i j q q' hi hj hij => ?_, fun j q hj => (wh hj).elim (fun z => Option.some.inj z.2 ▸ ⟨z1, z2⟩) fun z => r.above j q z.2, fun j y q hy hq => ?_, ?_, fun b hb => ?_⟩,
    ⟨fun b o zz zz e => kp b o e, fun b zz zz zz zz e => kp b _ e, fun b o e => ⟨o, kp b o e⟩, ext, fun j q hj h0 => ?_, rfl, fun b o zz e => kp b o e, hg, ho⟩⟩
  · rcases wh hi with z | z <;> rcases wh hj with y | y
    · exact absurd (z.1.trans y.1.symm) hij
    · exact Option.some.inj z.2 ▸ ⟨(occ y.2).1.symm, (occ y.2).2.2.1.symm, (occ y.2).2.1.symm, (occ y.2).2.2.2.symm⟩
    · exact Option.some.inj y.2 ▸ occ z.2
    · exact r.inj i j q q' z.2 y.2 hij
  · rcases wh hq with z | z
    · obtain rfl := Option.some.inj z.2
      exact Option.some.inj ((if_pos z.1).symm.trans hy) ▸ hc (fun v => v.at K) fun v => v.at K
    · exact (r.cell j y q ((if_neg z.1).symm.trans hy) z.2).at K (fun o => kp _ _) fun o => kp _ _
  · exact r.fin.elim fun n hn => ⟨max n (k + 1), fun j hj => (if_neg (Nat.ne_of_gt (Nat.le_trans (Nat.le_max_right n (k + 1)) hj))).trans (hn j (Nat.le_trans (Nat.le_max_left _ _) hj))⟩
  · have z := r.hid b hb
    exact ⟨z.1.imp fun o => kp b o, z.2.1, fun j q hj => (wh hj).elim (fun y => Option.some.inj y.2 ▸ z.1.elim fun zz e => ap e) fun y => z.2.2 j q y.2⟩
  · exact (wh hj).elim (fun z => Option.some.inj z.2 ▸ ⟨n1, n2⟩) fun z => nomatch (h0.symm.trans z.2 : none = some q)
theorem HR.free {h : Heap} {μ : AMap} (r : HR c h μ σ) : ∃ k, σ k = none := r.fin.elim fun n hn => ⟨n, (r.dom n).mpr (hn n (Nat.le_refl _))⟩
theorem HR.write {s s' : Shared} {μ : AMap} {X : Addr → Prop} (r : HR c s.heap μ σ) {k : Nat} {x x' : Cell} {p : Addr × Addr} (hk : σ k = some x) (hp : μ.1 k = some p) (hs : ∀ b o, b ≠ p.2 → s.heap.get? b = some o → s'.heap.get? b = some o)
    (hl : ∃ o, s'.heap.get? p.2 = some o) (hg : s'.gens = s.gens) (ho : s'.os = s.os)
    (hc : (∀ {y v}, VR s.heap μ y v → VR s'.heap μ y v) → (∀ {ys vs}, VRs s.heap μ ys vs → VRs s'.heap μ ys vs) → CR c s'.heap μ x' p) :
    HR c s'.heap μ (upd σ k x') ∧ Step X μ μ s s' := by
  have K : Kp s.heap s'.heap μ μ := .of (fun b o e f => ⟨hs b o (f.1 k p hp).2 e, f⟩) fun zz zz e => e
  have nh : ∀ b, μ.2 b → ¬ b = p.2 := fun b hb => ((r.hid b hb).2.2 k p hp).2
  refine ⟨⟨fun b o e => hs b o (get_ne e (r.fresh k p hp).2) (r.base b o e), fun j => ?_, r.inj, r.above, fun j y q hy hq => ?_, r.fin, fun b hb => ⟨(r.hid b hb).1.imp fun o => hs b o (nh b hb), (r.hid b hb).2⟩⟩,
    .but (Y := (· = p.2)) K hs (fun b hb => hb ▸ hl) (fun b hb f => absurd hb (f.1 k p hp).2) nh hg ho⟩
  · by_cases e : j = k
    · subst e; exact ⟨fun h => (nomatch ((if_pos rfl).symm.trans h : some x' = none)), fun h => (nomatch (hp.symm.trans h : some p = none))⟩
    · exact ⟨fun h => (r.dom j).mp ((if_neg e).symm.trans h), fun h => (if_neg e).trans ((r.dom j).mpr h)⟩
  · rcases ite_which hy with z | z
    · obtain rfl := z.1
      obtain rfl := some_ne hp hq
      exact Option.some.inj z.2 ▸ hc (fun v => v.at K) fun v => v.at K
    · have i := r.inj j k q p hq hp z.1
      exact (r.cell j y q z.2 hq).at K (fun o e => hs _ o i.2.1 e) fun o e => hs _ o i.2.2.2 e
noncomputable def hide (μ : AMap) (D : Addr) : AMap := (μ.1, fun b => b = D ∨ μ.2 b)
end
-- C4
section
variable {c : Ctx} {d : Nat} {env : Env} {lk : Loc} {σ : Sto} {pos : Pos} {QX : Fl → Loc → Sto → Prop}
theorem FlPost.after {μ μ' : AMap} {s s' : Shared} {Qr : Flow → Shared → Prop} (q : FlPost c env μ s QX Qr) (st : Step (own env) μ μ' s s') : FlPost c env μ' s' QX Qr :=
  fun f s'' fl lk' σ'' μ'' hq r fr hv st' => q f s'' fl lk' σ'' μ'' hq r fr hv (st.trans st')
theorem stepOwn {μ μ' : AMap} {s s' : Shared} (st : Step (own env) μ μ' s s') : Step (own env) μ μ' s s' := st
theorem OkB.mono {sts : List Stmt} {Q' : Fl → Loc → Sto → Prop} (h : OkB c d env sts lk σ QX) (hQ : ∀ fl lk' σ', QX fl lk' σ' → Q' fl lk' σ') : OkB c d env sts lk σ Q' :=
  fun A s μ Qr Er a r f q => h A s μ Qr Er a r f fun fl s' y lk' σ' μ' hq => q fl s' y lk' σ' μ' (hQ _ _ _ hq)
theorem okb_nil (h : QX .next lk σ) : OkB c d env [] lk σ QX :=
  fun zz s μ zz zz zz r f q => wpAny_execs_nil (q .next s .next lk σ μ h r f trivial (Step.refl _ _ _))
theorem okb_cons {st : Stmt} {rest : List Stmt} (h : OkX c d env st lk σ (fun fl lk' σ' => match fl with | .next => OkB c d env rest lk' σ' QX | fl => QX fl lk' σ')) : OkB c d env (st :: rest) lk σ QX := by
  intro A s μ Qr Er ok r f q
  refine wpAny_execs_cons (h A s μ _ Er ok r f fun fl s₁ y lk₁ σ₁ μ₁ h₁ r₁ f₁ v₁ st₁ => ?_)
  cases y with
  | next => cases fl <;> first | exact v₁.elim | exact h₁ A s₁ μ₁ Qr Er ok r₁ f₁ (q.after st₁)
  | brk => cases fl <;> first | exact v₁.elim | exact q .brk s₁ .brk lk₁ σ₁ μ₁ h₁ r₁ f₁ trivial st₁
  | cont => cases fl <;> first | exact v₁.elim | exact q .cont s₁ .cont lk₁ σ₁ μ₁ h₁ r₁ f₁ trivial st₁
  | ret y => cases fl <;> first | exact v₁.elim | exact q _ s₁ (.ret y) lk₁ σ₁ μ₁ h₁ r₁ f₁ v₁ st₁
theorem okb_weak {sts : List Stmt} {lk' : Loc} (hw : ∀ x y, lk'.lookup x = some y → lk.lookup x = some y) (h : OkB c d env sts lk' σ QX) : OkB c d env sts lk σ QX :=
  fun A s μ Qr Er ok r f q => h A s μ Qr Er ok r (f.weak hw) q
theorem okx_return {e : Expr} (h : Ok c d env e lk σ (fun y σ' => QX (.ret y) lk σ')) : OkX c d env (.Return (some e) pos) lk σ QX := by
  intro A s μ Qr Er ok r f q
  exact wpAny_Return_some (h A s μ _ Er ok r f fun v s₁ y σ₁ μ₁ h₁ r₁ f₁ v₁ st₁ => q _ s₁ (.ret y) lk σ₁ μ₁ h₁ r₁ f₁ v₁ (stepOwn st₁))
theorem okx_return0 (h : QX (.ret .none) lk σ) : OkX c d env (.Return none pos) lk σ QX :=
  fun zz s μ zz zz zz r f q => wpAny_Return_none (q _ s (.ret .none) lk σ μ h r f .none (Step.refl _ _ _))
theorem okx_if {test : Expr} {body orelse : List Stmt} (h : OkT c d env test lk σ (fun b σ' => (b = true → OkB c d env body lk σ' QX) ∧ (b = false → OkB c d env orelse lk σ' QX))) :
    OkX c d env (.If test body orelse pos) lk σ QX := by
  intro A s μ Qr Er ok r f q
  refine wpAny_If (h A s μ _ Er ok r f fun b s₁ σ₁ μ₁ h₁ r₁ f₁ st₁ => ?_)
  cases b with
  | true => exact h₁.1 rfl A s₁ μ₁ Qr Er ok r₁ f₁ (q.after (stepOwn st₁))
  | false => exact h₁.2 rfl A s₁ μ₁ Qr Er ok r₁ f₁ (q.after (stepOwn st₁))
theorem okx_expr {e : Expr} (h : Ok c d env e lk σ (fun zz σ' => QX .next lk σ')) (hi : interactive env = false) (hs : swapsWith e none pos.line env = pure false) : OkX c d env (.Expr e pos) lk σ QX := by
  intro A s μ Qr Er ok r f q
  exact wpAny_Expr_any (h A s μ _ Er ok r f fun v s₁ y σ₁ μ₁ h₁ r₁ f₁ v₁ st₁ => q .next s₁ .next lk σ₁ μ₁ h₁ r₁ f₁ trivial (stepOwn st₁)) hi hs
noncomputable def OkA (c : Ctx) (d : Nat) (env : Env) (t : Expr) (y : V) (lk : Loc) (σ : Sto) (Q : Loc → Sto → Prop) : Prop :=
  ∀ A s μ v Qr Er, AOk A d → HR c s.heap μ σ → FR c env lk s.heap μ → VR s.heap μ y v →
    (∀ s' lk' σ' μ', Q lk' σ' → HR c s'.heap μ' σ' → FR c env lk' s'.heap μ' → Step (own env) μ μ' s s' → Qr () s') → wpAny c.M A (assign t env v) Qr Er s
theorem oka_name {x : Str} {y : V} {QA : Loc → Sto → Prop} (h : QA (put x y lk) σ) (hk : env.kindOf x = some .local ∨ env.kindOf x = some .cell) : OkA c d env (.Name x pos) y lk σ QA := by
  intro A s μ v Qr Er ok r f hv q
  exact wpAny_assign_Name (store_var f r hv hk fun s' r' f' st => q s' _ σ μ h r' f' st)
theorem okx_assign {t e : Expr} (h : Ok c d env e lk σ (fun y σ' => OkA c d env t y lk σ' (fun lk' σ'' => QX .next lk' σ''))) (he : assignEach [t] env = [(false, assign t env)])
    (hs : swapsWithSole [t] e pos.line env = pure false) (hw : swappedStores [t] e env = pure none) : OkX c d env (.Assign [t] e pos) lk σ QX := by
  intro A s μ Qr Er ok r f q
  refine wpAny_Assign_stores (h A s μ _ Er ok r f fun v s₁ y σ₁ μ₁ h₁ r₁ f₁ v₁ st₁ => ?_) hs hw
  rw [he]
  exact h₁ A s₁ μ₁ v _ Er ok r₁ f₁ v₁ fun s₂ lk₂ σ₂ μ₂ h₂ r₂ f₂ st₂ => q .next s₂ .next lk₂ σ₂ μ₂ h₂ r₂ f₂ trivial ((stepOwn st₁).trans st₂)
noncomputable def OkAs (c : Ctx) (d : Nat) (env : Env) (ts : List Expr) (ys : List V) (lk : Loc) (σ : Sto) (Q : Loc → Sto → Prop) : Prop :=
  ∀ A s μ vs Qr Er, AOk A d → HR c s.heap μ σ → FR c env lk s.heap μ → VRs s.heap μ ys vs →
    (∀ s' lk' σ' μ', Q lk' σ' → HR c s'.heap μ' σ' → FR c env lk' s'.heap μ' → Step (own env) μ μ' s s' → Qr () s') → wpAny c.M A (assignInOrder ((assignEach ts env).map (·.2)) vs) Qr Er s
theorem okas_nil {QA : Loc → Sto → Prop} (h : QA lk σ) : OkAs c d env [] [] lk σ QA := by
  intro A s μ vs Qr Er ok r f hv q
  cases hv
  exact wpAny_assignInOrder_none (q s lk σ μ h r f (Step.refl _ _ _))
theorem okas_cons {t : Expr} {ts : List Expr} {y : V} {ys : List V} {QA : Loc → Sto → Prop} (h : OkA c d env t y lk σ (fun lk' σ' => OkAs c d env ts ys lk' σ' QA))
    (he : assignEach (t :: ts) env = (false, assign t env) :: assignEach ts env) : OkAs c d env (t :: ts) (y :: ys) lk σ QA := by
  intro A s μ vs Qr Er ok r f hv q
  cases hv with
  | cons h1 h2 =>
    rw [he, List.map_cons]
    refine wpAny_assignInOrder_more (h A s μ _ _ Er ok r f h1 fun s₁ lk₁ σ₁ μ₁ h₁ r₁ f₁ st₁ => ?_)
    exact h₁ A s₁ μ₁ _ Qr Er ok r₁ f₁ (h2.step st₁) fun s₂ lk₂ σ₂ μ₂ g₂ r₂ f₂ st₂ => q s₂ lk₂ σ₂ μ₂ g₂ r₂ f₂ (st₁.trans st₂)
theorem keep_of_extBut {h h' : Heap} (e : Heap.ExtBut h.objs.size h h') : ∀ b o, h.get? b = some o → h'.get? b = some o :=
  fun b o hb => e b o (Nat.ne_of_lt (Heap.lt_size hb)) hb
theorem oka_tuple {ts : List Expr} {k : Nat} {ys : List V} {QA : Loc → Sto → Prop} (h : OkAs c d env ts ys lk σ QA) (hn : (assignEach ts env).length = ys.length)
    (hs : (assignEach ts env).findIdx? (·.1) = none) : OkA c d env (.Tuple ts k pos) (.tup ys) lk σ QA := by
  intro A s μ v Qr Er ok r f hv q
  cases hv with
  | tup ho hf hvs =>
    rename_i a vs n
    refine wpAny_assign_Tuple ok.1 ⟨_, ho, rfl, _, rfl⟩ (by rw [hn, hvs.length, List.size_toArray]) hs fun h' he => ?_
    have kp := keep_of_extBut he
    have st : Step (fun zz => False) μ μ s { s with heap := h' } := Step.ofKeep kp rfl rfl
    exact h A { s with heap := h' } μ vs Qr Er ok (r.keep kp) (f.step0 st) (hvs.step st) fun s₁ lk₁ σ₁ μ₁ g r₁ f₁ st₁ => q s₁ lk₁ σ₁ μ₁ g r₁ f₁ ((st.mono fun zz x => x.elim).trans st₁)
theorem okx_swap {t e : Expr} {names : List Str} (h : Ok c d env e lk σ (fun y σ' => ∃ ys, y = .tup ys ∧ ys.length = names.length ∧
      ∀ lk', lk' = (names.zip ys).reverse.foldl (fun l p => put p.1 p.2 l) lk → QX .next lk' σ'))
    (hs : swapsWithSole [t] e pos.line env = pure false) (hw : swappedStores [t] e env = pure (some names)) (hk : ∀ x ∈ names, env.kindOf x = some .local ∨ env.kindOf x = some .cell) :
    OkX c d env (.Assign [t] e pos) lk σ QX := by
  intro A s μ Qr Er ok r f q
  rw [exec_Assign_arm]
  refine wpAny_bind (wpAny_standAt ?_)
  rw [hs]
  refine wpAny_bind (wpAny_pure ?_)
  rw [if_neg (by decide)]
  refine wpAny_bind (h A s μ _ Er ok r f fun v s₁ y σ₁ μ₁ h₁ r₁ f₁ v₁ st₁ => ?_)
  rw [hw]
  refine wpAny_bind (wpAny_pure ?_)
  obtain ⟨ys, rfl, hl, hq⟩ := h₁
  cases v₁ with
  | tup ho hf hvs =>
    rename_i a vs n
    have hvl : vs.length = names.length := by rw [← hvs.length]; exact hl
    show wpAny c.M A (do
      rule "assign.swapped-stores"
      let items ← unpackItems (.ref a) names.length none
      assignInOrder (names.reverse.map fun n => bindName env n) items.reverse
      pure .next) Qr Er s₁
    refine wpAny_bind (wpAny_rule (wpAny_bind ?_))
    rw [← hvl, ← List.size_toArray]
    refine wpAny_unpackItems_tuple ok.1 ⟨_, ho, rfl, _, rfl⟩ fun h' he => ?_
    have kp := keep_of_extBut he
    have st : Step (fun zz => False) μ₁ μ₁ s₁ { s₁ with heap := h' } := Step.ofKeep kp rfl rfl
    have gen : ∀ (ns : List Str) (us : List Value) (zs : List V) (lk₀ : Loc) (s₀ : Shared) (Qr₀ : Unit → Shared → Prop), ns.length = us.length → VRs s₀.heap μ₁ zs us → (∀ x ∈ ns, env.kindOf x = some .local ∨ env.kindOf x = some .cell) →
        HR c s₀.heap μ₁ σ₁ → FR c env lk₀ s₀.heap μ₁ →
        (∀ s', HR c s'.heap μ₁ σ₁ → FR c env ((ns.zip zs).foldl (fun l p => put p.1 p.2 l) lk₀) s'.heap μ₁ → Step (own env) μ₁ μ₁ s₀ s' → Qr₀ () s') →
        wpAny c.M A (assignInOrder (ns.map fun n => bindName env n) us) Qr₀ Er s₀ := by
      intro ns
      induction ns with
      | nil =>
        intro us zs lk₀ s₀ Qr₀ hl hv _ r₀ f₀ q₀
        cases us with
        | nil => exact wpAny_assignInOrder_none (q₀ s₀ r₀ f₀ (Step.refl _ _ _))
        | cons _ _ => cases hl
      | cons n ns ih =>
        intro us zs lk₀ s₀ Qr₀ hl hv hk₀ r₀ f₀ q₀
        cases hv with
        | nil => cases hl
        | cons hv1 hv2 =>
          rw [List.map_cons]
          refine wpAny_assignInOrder_more (wpAny_bindName (store_var f₀ r₀ hv1 (hk₀ n (.head _)) fun s' r' f' st' => ?_))
          exact ih _ _ _ s' Qr₀ (Nat.succ.inj hl) (hv2.step st') (fun x hx => hk₀ x (.tail _ hx)) r' f' fun s'' r'' f'' st'' => q₀ s'' r'' f'' (st'.trans st'')
    refine wpAny_bind ?_
    have hzip : ∀ (ns : List Str) (zs : List V), ns.length = zs.length → ns.reverse.zip zs.reverse = (ns.zip zs).reverse := by
      intro ns zs h
      simp only [List.zip]
      exact (List.reverse_zipWith h).symm
    refine gen names.reverse vs.toArray.toList.reverse ys.reverse lk { s₁ with heap := h' } _ (by simp [hvl]) ?_ (fun x hx => hk x (List.mem_reverse.mp hx)) (r₁.keep kp) (f₁.step0 st) ?_
    · have rv : ∀ {xs : List V} {vs : List Value}, VRs h' μ₁ xs vs → VRs h' μ₁ xs.reverse vs.reverse := by
        intro xs vs h
        induction xs generalizing vs with
        | nil => cases h; exact .nil
        | cons x xs ih =>
          cases h with
          | cons a b => simp only [List.reverse_cons]; exact (ih b).append (.cons a .nil)
      exact rv (hvs.step st)
    · intro s' r' f' st'
      refine wpAny_pure (q .next s' .next _ σ₁ μ₁ (hq _ ?_) r' f' trivial ((stepOwn st₁).trans ((st.mono fun zz x => x.elim).trans st')))
      rw [hzip names ys hl.symm]
end
-- C5
noncomputable def rangeV (x step : Int) : Nat → List V
  | 0 => []
  | n + 1 => .int x :: rangeV (x + step) step n
noncomputable def enumV (i : Nat) : List V → List V
  | [] => []
  | x :: xs => .tup [.int i, x] :: enumV (i + 1) xs
noncomputable def signV (l : List Nat) : List V := l.map fun c => .str ⟨#[c]⟩
inductive ItR (h : Heap) (μ : AMap) : (Sto → Prop) → List Addr → Addr → List V → Prop
  | listF {it l : Addr} {i n : Nat} {vs : List Value} {xs : List V} : h.IsListIter it l i → h.get? l = some (lstO vs.toArray n) → Frz μ l → VRs h μ xs (vs.drop i) → ItR h μ (fun zz => True) [it] it xs
  | listC {it : Addr} {k i : Nat} {p : Addr × Addr} {all : List V} : h.IsListIter it p.1 i → μ.1 k = some p → ItR h μ (fun σ => σ k = some (.list all)) [it] it (all.drop i)
  | tup {it l : Addr} {i n : Nat} {vs : List Value} {xs : List V} : h.IsTupleIter it l i → h.get? l = some (tupO vs.toArray n) → Frz μ l → VRs h μ xs (vs.drop i) → ItR h μ (fun zz => True) [it] it xs
  | range {it : Addr} {x step : Int} {n : Nat} : IsRangeIter h it x n step → ItR h μ (fun zz => True) [it] it (rangeV x step n)
  | sign {it : Addr} {x : Str} {t : Tok} {i : Nat} : h.IsStrIter it "str_ascii_iterator" x t i → ItR h μ (fun zz => True) [it] it (signV (x.cps.toList.drop i))
  | enumF {e it l : Addr} {i n : Nat} {old : Value} {vs : List Value} {xs : List V} : e ≠ it → IsEnum h e it i old → h.IsListIter it l i → h.get? l = some (lstO vs.toArray n) → Frz μ l → VRs h μ xs (vs.drop i) →
      ItR h μ (fun zz => True) [e, it] e (enumV i xs)
  | enumC {e it : Addr} {k i : Nat} {p : Addr × Addr} {old : Value} {all : List V} : e ≠ it → IsEnum h e it i old → h.IsListIter it p.1 i → μ.1 k = some p →
      ItR h μ (fun σ => σ k = some (.list all)) [e, it] e (enumV i (all.drop i))
theorem VRs.heads {h : Heap} {μ : AMap} {x : V} {xs : List V} {vs : List Value} {i : Nat} (r : VRs h μ (x :: xs) (vs.drop i)) : ∃ v, vs[i]? = some v ∧ VR h μ x v ∧ VRs h μ xs (vs.drop (i + 1)) :=
  r.heads'.elim fun v q => q.elim fun ws q => ⟨v, by rw [← List.head?_drop, q.1]; rfl, q.2.1, by rw [← List.tail_drop, q.1]; exact q.2.2⟩
theorem VRs.ends {h : Heap} {μ : AMap} {vs : List Value} {i : Nat} (r : VRs h μ [] (vs.drop i)) : vs[i]? = none := by rw [← List.head?_drop, r.nil']; rfl
section
variable {c : Ctx} {d : Nat} {env : Env} {lk : Loc} {σ : Sto} {pos : Pos}
theorem no_seq_fields {h : Heap} {b : Addr} {o : Obj} {vs : Array Value} (ho : h.get? b = some o) (hd : o.data = .fields vs) {C dd us n sl} : h.get? b ≠ some ⟨C, dd, .seq us n, sl⟩ :=
  fun e => nomatch hd.symm.trans (congrArg Obj.data (some_ne ho e))
theorem ItR.at {h h' : Heap} {μ μ' : AMap} {S : Sto → Prop} {fp : List Addr} {it : Addr} {xs : List V} (I : ItR h μ S fp it xs) (kp : ∀ b ∈ fp, ∀ o, h.get? b = some o → h'.get? b = some o)
    (K : Kp h h' μ μ') : ItR h' μ' S fp it xs :=
  ItR.rec (motive := fun S fp it xs zz => (∀ b ∈ fp, ∀ o, h.get? b = some o → h'.get? b = some o) → ItR h' μ' S fp it xs)
    (fun a b f r kp => .listF (a.imp fun zz q => ⟨kp _ (.head _) _ q.1, q.2⟩) (K.1 _ _ _ _ f b).1 (K.1 _ _ _ _ f b).2 (r.at K))
    (fun a b kp => .listC (a.imp fun zz q => ⟨kp _ (.head _) _ q.1, q.2⟩) (K.2 _ _ b))
    (fun a b f r kp => .tup (a.imp fun zz q => ⟨kp _ (.head _) _ q.1, q.2⟩) (K.1 _ _ _ _ f b).1 (K.1 _ _ _ _ f b).2 (r.at K))
    (fun a kp => .range (kp _ (.head _) _ a))
    (fun a kp => .sign (a.imp fun zz q => ⟨kp _ (.head _) _ q.1, q.2⟩))
    (fun ne a0 a b f r kp => .enumF ne (kp _ (.head _) _ a0) (a.imp fun zz q => ⟨kp _ (.tail _ (.head _)) _ q.1, q.2⟩) (K.1 _ _ _ _ f b).1 (K.1 _ _ _ _ f b).2 (r.at K))
    (fun ne a0 a b kp => .enumC ne (kp _ (.head _) _ a0) (a.imp fun zz q => ⟨kp _ (.tail _ (.head _)) _ q.1, q.2⟩) (K.2 _ _ b)) I kp
theorem ItR.step {X : Addr → Prop} {s s' : Shared} {μ μ' : AMap} {S : Sto → Prop} {fp : List Addr} {it : Addr} {xs : List V} (I : ItR s.heap μ S fp it xs) (st : Step X μ μ' s s') (hf : ∀ b ∈ fp, Frz μ b ∧ ¬ X b) : ItR s'.heap μ' S fp it xs :=
  I.at (fun b hb o e => st.keep b o (hf b hb).1 (hf b hb).2 e) st.kp
theorem fp_step {s s' : Shared} {μ : AMap} {fp : List Addr} (f : FR c env lk s.heap μ) (r : HR c s.heap μ σ) (hf : ∀ b ∈ fp, Frz μ b ∧ ¬ own env b ∧ c.H0.get? b = none ∧ ∀ c d vs n sl, s.heap.get? b ≠ some ⟨c, d, .seq vs n, sl⟩)
    (k : ∀ b o, b ∉ fp → s.heap.get? b = some o → s'.heap.get? b = some o) : HR c s'.heap μ σ ∧ FR c env lk s'.heap μ ∧ Kp s.heap s'.heap μ μ :=
  have K : Kp s.heap s'.heap μ μ := .but (X := (· ∈ fp)) k fun b hb zz => (hf b hb).2.2.2
  ⟨r.but (X := (· ∈ fp)) (fun b hb => ⟨(hf b hb).1, (hf b hb).2.2.1⟩) K k, f.at K fun a o ho fz e => ⟨k a o (fun hb => (hf a hb).2.1 ho) e, fz⟩, K⟩
noncomputable def pairTarget : Expr → Bool
  | .Tuple .. => true
  | _ => false
theorem pair_is {t : Expr} (h : pairTarget t = true) : ∃ elts x1 tp, t = .Tuple elts x1 tp := by
  cases t <;> first | exact ⟨_, _, _, rfl⟩ | exact absurd h Bool.false_ne_true
theorem letGo_plain {A : Around} {s : Shared} {Qr : Unit → Shared → Prop} {Er : Value → Shared → Prop} {target : Expr} {it : Addr} {v : Value} {o : Obj} {n : String} {vs : Array Value} (ho : s.heap.get? it = some o) (hc : o.cls = .type n) (hd : o.data = .fields vs)
    (hn : (["enumerate", "zip", "dict_itemiterator", "dict_reverseitemiterator", "odict_iterator", "itertools.zip_longest", "itertools.pairwise"] : List String).contains n = false) (h : Qr () s) :
    wpAny c.M A (letOwnedTupleGo target (.ref it) v) Qr Er s := by
  have pl : wpAny c.M A (pure ()) Qr Er s := wpAny_pure h
  have ld : ∀ a : Addr, wpAny c.M A (do
      let o ← load it
      match o.cls, o.data with
      | .type n, .fields vs =>
        if ["enumerate", "zip", "dict_itemiterator", "dict_reverseitemiterator", "odict_iterator", "itertools.zip_longest", "itertools.pairwise"].contains n && vs[0]? == some (rawInt a) then
          rule "for.unpacks-the-owned-tuple"
          updateField it 0 .none
      | _, _ => pure ()) Qr Er s := fun a => by
    refine wpAny_bind (wpAny_load ho ?_)
    rw [hc, hd]
    dsimp only
    rw [hn]
    exact pl
  unfold letOwnedTupleGo
  cases target <;> first | exact pl | (cases v <;> first | exact pl | exact ld _)
theorem notin1 {b a : Addr} (h : b ∉ [a]) : b ≠ a := fun e => h (e ▸ .head _)
theorem notin2 {b a a' : Addr} (h : b ∉ [a, a']) : b ≠ a ∧ b ≠ a' := ⟨fun e => h (e ▸ .head _), fun e => h (e ▸ .tail _ (.head _))⟩
section
variable {A : Around} {s : Shared} {μ : AMap} {S : Sto → Prop} {fp : List Addr} {it l : Addr} {xs : List V} {target : Expr} {P : Value → Shared → Prop} {N : Shared → Prop} {Er Er' : Value → Shared → Prop} {R : Option Value → Shared → Prop} {vs : Array Value} {i n : Nat}
noncomputable def TurnP (s : Shared) (μ : AMap) (S : Sto → Prop) (fp : List Addr) (it : Addr) (xs : List V) (P : Value → Shared → Prop) : Prop :=
  ∀ y ys v s', xs = y :: ys → VR s'.heap μ y v → ItR s'.heap μ S fp it ys → (∀ b o, b ∉ fp → s.heap.get? b = some o → s'.heap.get? b = some o) → (∀ b ∈ fp, ∃ o vs, s'.heap.get? b = some o ∧ o.data = .fields vs) → s'.gens = s.gens → s'.os = s.os → P v s'
noncomputable def TurnN (s : Shared) (fp : List Addr) (xs : List V) (N : Shared → Prop) : Prop :=
  ∀ s', xs = [] → (∀ b o, b ∉ fp → s.heap.get? b = some o → s'.heap.get? b = some o) → s'.gens = s.gens → s'.os = s.os → N s'
noncomputable def TurnR (c : Ctx) (A : Around) (target : Expr) (it : Addr) (P : Value → Shared → Prop) (N : Shared → Prop) (Er' : Value → Shared → Prop) (res : Option Value) (s₁ : Shared) : Prop := match res with
  | none => N s₁
  | some v => wpAny c.M A (letOwnedTupleGo target (.ref it) v) (fun zz s₁' => P v s₁') Er' s₁
theorem turn_end (hN : TurnN s [it] xs N) (hx : xs = []) (h' : Heap) (e : Heap.ExtBut it s.heap h') : TurnR c A target it P N Er' none { s with heap := h' } := hN _ hx (fun b o hb h => e b o (notin1 hb) h) rfl rfl
theorem turn_item (hp : TurnP s μ S [it] it xs P) {y : V} {ys : List V} {v : Value} {h' : Heap} {o : Obj} {n : String} {us : Array Value} {tk : Nat} (hx : xs = y :: ys) (hs : Heap.SameBut it s.heap h') (hv : VR h' μ y v) (I : ItR h' μ S [it] it ys) (ho : h'.get? it = some o) (hc : o.cls = .type n) (hd : o.data = .fields us)
    (hn : (["enumerate", "zip", "dict_itemiterator", "dict_reverseitemiterator", "odict_iterator", "itertools.zip_longest", "itertools.pairwise"] : List String).contains n = false) : TurnR c A target it P N Er' (some v) { s with heap := h', toks := tk } :=
  letGo_plain (s := { s with heap := h', toks := tk }) ho hc hd hn (hp y ys v _ hx hv I (fun b o hb h => (hs.2 b (notin1 hb)).trans h) (fun b hb => ⟨o, us, List.mem_singleton.mp hb ▸ ho, hd⟩) rfl rfl)
theorem kp_same {h h' : Heap} {o : Obj} {us : Array Value} (hs : Heap.SameBut it h h') (ho : h.get? it = some o) (hd : o.data = .fields us) : Kp h h' μ μ :=
  .but (X := (· = it)) (fun b o hb e => (hs.2 b hb).trans e) fun b hb zz C d vs n sl => hb ▸ no_seq_fields ho hd
theorem turn_list (hh : A.handled = none) (a : s.heap.IsListIter it l i) (b : s.heap.get? l = some (lstO vs n)) (q : VRs s.heap μ xs (vs.toList.drop i)) (hp : TurnP s μ S [it] it xs P) (hN : TurnN s [it] xs N)
    (mk : ∀ y ys h', xs = y :: ys → Kp s.heap h' μ μ → VRs s.heap μ ys (vs.toList.drop (i + 1)) → h'.IsListIter it l (i + 1) → ItR h' μ S [it] it ys) : wpAny c.M A (pyNext (.ref it)) (TurnR c A target it P N Er') Er s := by
  cases xs with
  | nil => exact wpAny_pyNext_list_end hh a ⟨_, b, rfl, _, rfl⟩ (Array.getElem?_toList ▸ q.ends) (turn_end hN rfl)
  | cons y ys =>
    obtain ⟨v, e1, e2, e3⟩ := q.heads
    refine wpAny_pyNext_list_item a ⟨_, b, rfl, _, rfl⟩ (Array.getElem?_toList ▸ e1) fun h' hit hs => ?_
    have K : Kp s.heap h' μ μ := a.elim fun zz z => kp_same hs z.1 z.2.2
    exact hit.elim fun o z => turn_item (tk := s.toks) hp rfl hs (e2.at K) (mk y ys h' rfl K e3 hit) z.1 z.2.1 z.2.2 (by decide)
theorem turn_tup (hh : A.handled = none) (a : s.heap.IsTupleIter it l i) (b : s.heap.get? l = some (tupO vs n)) (q : VRs s.heap μ xs (vs.toList.drop i)) (hp : TurnP s μ S [it] it xs P) (hN : TurnN s [it] xs N)
    (mk : ∀ y ys h', xs = y :: ys → Kp s.heap h' μ μ → VRs s.heap μ ys (vs.toList.drop (i + 1)) → h'.IsTupleIter it l (i + 1) → ItR h' μ S [it] it ys) : wpAny c.M A (pyNext (.ref it)) (TurnR c A target it P N Er') Er s := by
  cases xs with
  | nil => exact wpAny_pyNext_tuple_end hh a ⟨_, b, rfl, _, rfl⟩ (Array.getElem?_toList ▸ q.ends) (turn_end hN rfl)
  | cons y ys =>
    obtain ⟨v, e1, e2, e3⟩ := q.heads
    refine wpAny_pyNext_tuple_item a ⟨_, b, rfl, _, rfl⟩ (Array.getElem?_toList ▸ e1) fun h' hit hs => ?_
    have K : Kp s.heap h' μ μ := a.elim fun zz z => kp_same hs z.1 z.2.2
    exact hit.elim fun o z => turn_item (tk := s.toks) hp rfl hs (e2.at K) (mk y ys h' rfl K e3 hit) z.1 z.2.1 z.2.2 (by decide)
theorem turn_range (hh : A.handled = none) {x step : Int} (a : IsRangeIter s.heap it x n step) (hp : TurnP s μ (fun zz => True) [it] it (rangeV x step n) P) (hN : TurnN s [it] (rangeV x step n) N) : wpAny c.M A (pyNext (.ref it)) (TurnR c A target it P N Er') Er s := by
  cases n with
  | zero => exact wpAny_pyNext_range_end hh a (Int.le_refl 0) (turn_end hN rfl)
  | succ n =>
    refine wpAny_pyNext_range_item a (Int.natCast_pos.mpr (Nat.succ_pos n)) fun h' hit hs => ?_
    rw [show ((n + 1 : Nat) : Int) - 1 = (n : Int) from Int.add_sub_cancel (n : Int) 1] at hit
    exact turn_item hp rfl hs (.int _ _) (.range hit) hit rfl rfl (by decide)
theorem turn_sign (hh : A.handled = none) {x : Str} {t : Tok} (a : s.heap.IsStrIter it "str_ascii_iterator" x t i) (hp : TurnP s μ (fun zz => True) [it] it (signV (x.cps.toList.drop i)) P) (hN : TurnN s [it] (signV (x.cps.toList.drop i)) N) : wpAny c.M A (pyNext (.ref it)) (TurnR c A target it P N Er') Er s := by
  cases hx : x.cps.toList.drop i with
  | nil => exact wpAny_pyNext_ascii_end hh a (by rw [← Array.getElem?_toList, ← List.head?_drop, hx]; rfl) (turn_end hN (hx ▸ rfl))
  | cons y ys =>
    refine wpAny_pyNext_ascii_item a (by rw [← Array.getElem?_toList, ← List.head?_drop, hx]; rfl) fun h' hit hs => ?_
    have hys : x.cps.toList.drop (i + 1) = ys := by rw [← List.tail_drop, hx]; rfl
    exact hit.elim fun o z => turn_item (ys := signV ys) hp (hx ▸ rfl) hs (.str _ _) (hys ▸ .sign hit) z.1 z.2.1 z.2.2 (by decide)
theorem turn_enum {e : Addr} {old : Value} (hh : A.handled = none) (ne : e ≠ it) (a0 : IsEnum s.heap e it i old) (a : s.heap.IsListIter it l i) (b : s.heap.get? l = some (lstO vs n)) (q : VRs s.heap μ xs (vs.toList.drop i)) (r : HR c s.heap μ σ) (pt : pairTarget target = true)
    (hp : TurnP s μ S [e, it] e (enumV i xs) P) (hN : TurnN s [e, it] (enumV i xs) N)
    (mk : ∀ y ys h' old', xs = y :: ys → Kp s.heap h' μ μ → VRs s.heap μ ys (vs.toList.drop (i + 1)) → IsEnum h' e it ((i : Int) + 1) old' → h'.IsListIter it l (i + 1) → ItR h' μ S [e, it] e (enumV (i + 1) ys)) : wpAny c.M A (pyNext (.ref e)) (TurnR c A target e P N Er') Er s := by
  cases xs with
  | nil =>
    refine wpAny_bind (wpAny_attempt (wpAny_callSpecial?_slot (name := Str.ofString "__next__") (T := "enumerate") ⟨_, a0, rfl⟩ F.slot_enumerate_next
      (wpAny_call_entry F.slot_enumerate_next ⟨_, a0, rfl⟩ F.entry_enumerate_next ?_ (F.args_enumerate_next_1 _))))
    show wpAny _ _ (field (.ref e) 2 >>= _) _ _ _
    refine wpAny_bind (wpAny_field a0 rfl (x := .ref it) rfl ?_)
    refine wpAny_bind (wpAny_nextOf_list_end (show A.in1.handled = none from hh) a ⟨_, b, rfl, _, rfl⟩ (Array.getElem?_toList ▸ q.ends) fun h' x he' hx' => ?_)
    exact wpAny_bind (wpAny_isInstance (T := "StopIteration") (b := true) hx' isSubtype_stop (wpAny_pure (hN _ rfl (fun b o hb h => he' b o (notin2 hb).2 h) rfl rfl)))
  | cons y ys =>
    obtain ⟨v, e1, e2, e3⟩ := q.heads
    refine wpAny_pyNext_enum_item a0 a ⟨_, b, rfl, _, rfl⟩ (Array.getElem?_toList ▸ e1) ne fun h' he hit hta hsz kp => ?_
    obtain ⟨elts, x1, tp, rfl⟩ := pair_is pt
    refine wpAny_letOwnedTupleGo_enum he fun h'' he'' hs'' => ?_
    have kq : ∀ b o, b ∉ [e, it] → s.heap.get? b = some o → h''.get? b = some o := fun b o h1 e => (hs''.2 b (notin2 h1).1).trans (kp b o (notin2 h1).1 (notin2 h1).2 e)
    have K : Kp s.heap h'' μ μ := .but (X := (· ∈ [e, it])) kq fun b hb zz C d vs n sl => (List.mem_cons.mp hb).elim (fun q => q ▸ no_seq_fields a0 rfl) fun hb => a.elim fun o z => List.mem_singleton.mp hb ▸ no_seq_fields z.1 z.2.2
    have htup : h''.get? s.heap.objs.size = some (tupO #[.int i s.toks, v] 0) := (hs''.2 _ (Nat.ne_of_gt (Heap.lt_size a0))).trans hta
    have hit'' : h''.IsListIter it l (i + 1) := hit.imp fun o z => ⟨(hs''.2 it (Ne.symm ne)).trans z.1, z.2⟩
    exact hp _ (enumV (i + 1) ys) _ _ rfl (.tup htup (frz_size r) (.cons (.int _ _) (.cons (e2.at K) .nil))) (mk y ys h'' _ rfl K e3 he'' hit'') kq (fun b hb => (List.mem_cons.mp hb).elim (fun q => ⟨_, _, q ▸ he'', rfl⟩) fun hb => hit''.imp fun o z => ⟨_, List.mem_singleton.mp hb ▸ z.1, z.2.2⟩) rfl rfl
theorem drop_tail {all : List V} {y : V} {ys : List V} (h : all.drop i = y :: ys) : all.drop (i + 1) = ys := by rw [← List.tail_drop, h]; rfl
theorem itr_turn (hh : A.handled = none) (I : ItR s.heap μ S fp it xs) (r : HR c s.heap μ σ) (hS : S σ) (ht : fp.length = 2 → pairTarget target = true) (hp : TurnP s μ S fp it xs P) (hN : TurnN s fp xs N) :
    wpAny c.M A (pyNext (.ref it)) (TurnR c A target it P N Er') Er s :=
  ItR.rec (motive := fun S fp it xs zz => S σ → (fp.length = 2 → pairTarget target = true) → TurnP s μ S fp it xs P → TurnN s fp xs N → wpAny c.M A (pyNext (.ref it)) (TurnR c A target it P N Er') Er s)
    (fun a b f q zz zz hp hN => turn_list hh a b q hp hN fun y ys h' zz K e3 hit => .listF hit (K.1 _ _ _ _ f b).1 f (e3.at K))
    (fun a b hS zz hp hN => (r.cell _ _ _ hS b).2.elim fun vs z => z.elim fun n z => turn_list hh a z.1 (z.2.drop _) hp hN fun y ys h' hx K e3 hit => drop_tail hx ▸ .listC hit b)
    (fun a b f q zz zz hp hN => turn_tup hh a b q hp hN fun y ys h' zz K e3 hit => .tup hit (K.1 _ _ _ _ f b).1 f (e3.at K))
    (fun a zz zz hp hN => turn_range hh a hp hN)
    (fun a zz zz hp hN => turn_sign hh a hp hN)
    (fun ne a0 a b f q zz ht hp hN => turn_enum hh ne a0 a b q r (ht rfl) hp hN fun y ys h' old' zz K e3 he hit => .enumF ne he hit (K.1 _ _ _ _ f b).1 f (e3.at K))
    (fun ne a0 a b hS ht hp hN => (r.cell _ _ _ hS b).2.elim fun vs z => z.elim fun n z => turn_enum hh ne a0 a z.1 (z.2.drop _) r (ht rfl) hp hN fun y ys h' old' hx K e3 he hit => drop_tail hx ▸ .enumC ne he hit b) I hS ht hp hN
end
end
-- C6
noncomputable def Sub (a b : Loc) : Prop := ∀ x y, a.lookup x = some y → b.lookup x = some y
theorem Sub.refl (a : Loc) : Sub a a := fun zz zz h => h
section
variable {c : Ctx} {d : Nat} {env : Env} {lk : Loc} {σ : Sto} {pos : Pos} {QX : Fl → Loc → Sto → Prop}
noncomputable def FpOk (c : Ctx) (env : Env) (s s' : Shared) (μ' : AMap) (fp : List Addr) : Prop := ∀ b ∈ fp, s.heap.get? b = none ∧ Frz μ' b ∧ ∃ o vs, s'.heap.get? b = some o ∧ o.data = .fields vs
noncomputable def OkIt (c : Ctx) (d : Nat) (env : Env) (e : Expr) (lk : Loc) (σ : Sto) (pt : Bool) (Q : (Sto → Prop) → List V → Sto → Prop) : Prop :=
  ∀ A s μ Qr Er, AOk A d → HR c s.heap μ σ → FR c env lk s.heap μ →
    (∀ it s' S fp xs σ' μ', Q S xs σ' → HR c s'.heap μ' σ' → FR c env lk s'.heap μ' → Step (own env) μ μ' s s' → ItR s'.heap μ' S fp it xs → FpOk c env s s' μ' fp → (fp.length = 2 → pt = true) → Qr (.ref it) s') →
    wpAny c.M A (eval e env) (fun x s₁ => wpAny c.M A (pyIter x) Qr Er s₁) Er s
noncomputable def LoopOk (c : Ctx) (d : Nat) (env : Env) (target : Expr) (body : List Stmt) (S : Sto → Prop) (Q : Fl → Loc → Sto → Prop) : List V → Loc → Sto → Prop
  | [], lk, σ => ∃ lk', Sub lk' lk ∧ Q .next lk' σ
  | x :: xs, lk, σ => OkA c d env target x lk σ (fun lk₁ σ₁ => OkB c d env body lk₁ σ₁ (fun fl lk₂ σ₂ => match fl with
      | .next => S σ₂ ∧ ∃ lk', Sub lk' lk₂ ∧ LoopOk c d env target body S Q xs lk' σ₂
      | .cont => S σ₂ ∧ ∃ lk', Sub lk' lk₂ ∧ LoopOk c d env target body S Q xs lk' σ₂
      | .brk => Q .next lk₂ σ₂
      | .ret y => Q (.ret y) lk₂ σ₂))
theorem step_fp {X : Addr → Prop} {μ μ' : AMap} {s s₁ s₂ : Shared} {fp : List Addr} (st : Step X μ μ' s s₁) (hf : ∀ b ∈ fp, s.heap.get? b = none) (k : ∀ b o, b ∉ fp → s₁.heap.get? b = some o → s₂.heap.get? b = some o)
    (hg : s₂.gens = s₁.gens) (ho : s₂.os = s₁.os) : Step X μ μ' s s₂ :=
  have nf : ∀ {b o}, s.heap.get? b = some o → b ∉ fp := fun e hb => nomatch ((hf _ hb).symm.trans e : none = some _)
  ⟨fun b o f x e => k b o (nf e) (st.keep b o f x e), fun b c vs n f e => k b _ (nf e) (st.seq b c vs n f e), fun b o e => (st.live b o e).imp fun o' => k b o' (nf e), st.ext, st.new, st.hid, fun b o hh e => k b o (nf e) (st.hkeep b o hh e), hg.trans st.gens, ho.trans st.os⟩
theorem own_occ {h : Heap} {μ : AMap} (f : FR c env lk h μ) {a : Addr} (ha : own env a) : ∃ o, h.get? a = some o :=
  ha.elim (fun e => e ▸ f.ns.elim fun zz n => n.1.imp fun zz n => n.elim fun zz n => n.elim fun zz n => n.1) fun z => z.elim fun x hx => (f.cell x a hx).2.2.2.elim fun zz n => n.1.imp fun zz n => n.1
theorem none_own {h : Heap} {μ : AMap} (f : FR c env lk h μ) {a : Addr} (ha : h.get? a = none) (o : own env a) : False := (own_occ f o).elim fun o e => nomatch (ha.symm.trans e : none = some o)
theorem none_base {h : Heap} {μ : AMap} (r : HR c h μ σ) {a : Addr} (ha : h.get? a = none) : c.H0.get? a = none := by
  cases e : c.H0.get? a with
  | none => rfl
  | some o => exact nomatch (ha.symm.trans (r.base a o e) : none = some o)
noncomputable def FpOk2 (s' : Shared) (μ' : AMap) (fp : List Addr) : Prop := ∀ b ∈ fp, Frz μ' b ∧ ∃ o vs, s'.heap.get? b = some o ∧ o.data = .fields vs
theorem fp_facts {s s₂ : Shared} {μ μ₂ : AMap} {fp : List Addr} (f : FR c env lk s.heap μ) (r : HR c s.heap μ σ) (h0 : ∀ b ∈ fp, s.heap.get? b = none) (h2 : FpOk2 s₂ μ₂ fp) :
    ∀ b ∈ fp, Frz μ₂ b ∧ ¬ own env b ∧ c.H0.get? b = none ∧ ∀ c d vs n sl, s₂.heap.get? b ≠ some ⟨c, d, .seq vs n, sl⟩ :=
  fun b hb => ⟨(h2 b hb).1, none_own f (h0 b hb), none_base r (h0 b hb), (h2 b hb).2.elim fun o z => z.elim fun us z zz zz zz zz zz => no_seq_fields z.1 z.2⟩
theorem fp_step2 {X : Addr → Prop} {s s' : Shared} {μ μ' : AMap} {fp : List Addr} (st : Step X μ μ' s s') (hx : ∀ b ∈ fp, ¬ X b) (hf : ∀ b ∈ fp, Frz μ b) (h : ∀ b ∈ fp, ∃ o vs, s.heap.get? b = some o ∧ o.data = .fields vs) : FpOk2 s' μ' fp :=
  fun b hb => (h b hb).elim fun o z => z.elim fun us z => ⟨st.frz z.1 (hf b hb), o, us, st.keep b o (hf b hb) (hx b hb) z.1, z.2⟩
structure LoopI (c : Ctx) (d : Nat) (env : Env) (target : Expr) (body : List Stmt) (S : Sto → Prop) (Q : Fl → Loc → Sto → Prop) (s : Shared) (μ : AMap) (fp : List Addr) (it : Addr) (s' : Shared) (xs : List V) (lk : Loc) (σ : Sto) (μ' : AMap) : Prop where
  l : LoopOk c d env target body S Q xs lk σ
  hS : S σ
  r : HR c s'.heap μ' σ
  f : FR c env lk s'.heap μ'
  I : ItR s'.heap μ' S fp it xs
  st : Step (own env) μ μ' s s'
  fl : FpOk2 s' μ' fp
theorem okx_for {target iter : Expr} {body : List Stmt} (h : OkIt c d env iter lk σ (pairTarget target) (fun S xs σ' => S σ' ∧ LoopOk c d env target body S QX xs lk σ'))
    (hs : ∀ x, foldedSetIterable iter env x = pure x) : OkX c d env (.For target iter body [] pos) lk σ QX := by
  intro A s μ Qr Er ok r f q
  refine wpAny_For (h A s μ _ Er ok r f fun it s₁ S fp xs σ₁ μ₁ h₁ r₁ f₁ st₁ I₁ hfp hpt => ?_) hs
  refine codeAny_forLoop_any (fun n s' => ∃ xs lk' σ' μ', xs.length = n ∧ LoopI c d env target body S QX s μ fp it s' xs lk' σ' μ') ?_ xs.length ⟨xs, lk, σ₁, μ₁, rfl, h₁.2, h₁.1, r₁, f₁, I₁, st₁, fun b hb => (hfp b hb).2⟩
  rintro n s₂ ⟨xs, lk₂, σ₂, μ₂, rfl, z⟩
  have h0 : ∀ b ∈ fp, s.heap.get? b = none := fun b hb => (hfp b hb).1
  have hf2 := fp_facts f r h0 z.fl
  refine itr_turn ok.1 z.I z.r z.hS hpt (fun y ys v s₃ hx hv I₃ kp hfl hg ho => ?_) (fun s₃ hx kp hg ho => ?_)
  · have g := fp_step (s' := s₃) z.f z.r hf2 kp
    have st₃ : Step (own env) μ μ₂ s s₃ := step_fp z.st h0 kp hg ho
    have hl := z.l
    subst hx
    refine hl A s₃ μ₂ v _ _ ok g.1 g.2.1 hv fun s₄ lk₄ σ₄ μ₄ h₄ r₄ f₄ st₄ => ?_
    refine h₄ A s₄ μ₄ _ _ ok r₄ f₄ fun fl s₅ w lk₅ σ₅ μ₅ h₅ r₅ f₅ v₅ st₅ => ?_
    have st35 := st₄.trans st₅
    have fin : (S σ₅ ∧ ∃ lk', Sub lk' lk₅ ∧ LoopOk c d env target body S QX ys lk' σ₅) → ∃ m, m < (y :: ys).length ∧ ∃ xs lk' σ' μ', xs.length = m ∧ LoopI c d env target body S QX s μ fp it s₅ xs lk' σ' μ' := fun h =>
      h.2.elim fun lk' h' => ⟨ys.length, Nat.lt_succ_self _, ys, lk', σ₅, μ₅, rfl, h'.2, h.1, r₅, f₅.weak h'.1, I₃.step st35 (fun b hb => ⟨(z.fl b hb).1, (hf2 b hb).2.1⟩), st₃.trans st35, fp_step2 st35 (fun b hb => (hf2 b hb).2.1) (fun b hb => (z.fl b hb).1) hfl⟩
    cases w with
    | next => cases fl <;> first | exact v₅.elim | exact fin h₅
    | cont => cases fl <;> first | exact v₅.elim | exact fin h₅
    | brk => cases fl <;> first | exact v₅.elim | exact q .next s₅ .next lk₅ σ₅ μ₅ h₅ r₅ f₅ trivial (st₃.trans st35)
    | ret y => cases fl <;> first | exact v₅.elim | exact q _ s₅ (.ret y) lk₅ σ₅ μ₅ h₅ r₅ f₅ v₅ (st₃.trans st35)
  · have g := fp_step (s' := s₃) z.f z.r hf2 kp
    have hl := z.l
    subst hx
    exact hl.elim fun lk' h => wpAny_execs_nil (q .next s₃ .next lk' σ₂ μ₂ h.2 g.1 (g.2.1.weak h.1) trivial (step_fp z.st h0 kp hg ho))
theorem push_fp {X : Addr → Prop} {s s₁ : Shared} {μ μ₁ : AMap} (st : Step X μ μ₁ s s₁) (r₁ : HR c s₁.heap μ₁ σ) (o : Obj) {us : Array Value} (hd : o.data = .fields us) (hfr : o.isFreed = false) : FpOk c env s { s₁ with heap := s₁.heap.push o } μ₁ [s₁.heap.objs.size] :=
  fun b hb => List.mem_singleton.mp hb ▸ ⟨st.back (none_size _), frz_size r₁, o, us, Heap.get?_push_size _ hfr, hd⟩
theorem len1_ne {a : Addr} {p : Prop} (h : [a].length = 2) : p := nomatch h
theorem Kp.push {h : Heap} {μ : AMap} (o : Obj) : Kp h (h.push o) μ μ := .all fun zz zz e => Heap.get?_push_of_some o e
theorem okit_val {e : Expr} {pt : Bool} {QI : (Sto → Prop) → List V → Sto → Prop} (h : Ok c d env e lk σ (fun y σ' => ∃ xs, (y = .tup xs ∨ y = .lst xs) ∧ QI (fun zz => True) xs σ')) : OkIt c d env e lk σ pt QI := by
  intro A s μ Qr Er ok r f q
  refine h A s μ _ Er ok r f fun v s₁ y σ₁ μ₁ h₁ r₁ f₁ v₁ st₁ => ?_
  obtain ⟨xs, hy, hq⟩ := h₁
  rcases hy with rfl | rfl
  · obtain ⟨a, vs, n, rfl, ho, hf, hvs⟩ := v₁.tup'
    exact wpAny_pyIter_tuple ⟨_, ho, rfl, _, rfl⟩ (q _ { s₁ with heap := s₁.heap.push _ } _ _ _ σ₁ μ₁ hq (r₁.push _) (f₁.push _) (st₁.trans (Step.push _)) (.tup (i := 0) ⟨_, Heap.get?_push_size _ rfl, rfl, rfl⟩ (Heap.get?_push_of_some _ ho) hf (hvs.at (.push _))) (push_fp st₁ r₁ _ rfl rfl) len1_ne)
  · obtain ⟨a, vs, n, rfl, ho, hf, hvs⟩ := v₁.lst'
    exact wpAny_pyIter_list ⟨_, ho, rfl, _, rfl⟩ (q _ { s₁ with heap := s₁.heap.push _ } _ _ _ σ₁ μ₁ hq (r₁.push _) (f₁.push _) (st₁.trans (Step.push _)) (.listF (i := 0) ⟨_, Heap.get?_push_size _ rfl, rfl, rfl⟩ (Heap.get?_push_of_some _ ho) hf (hvs.at (.push _))) (push_fp st₁ r₁ _ rfl rfl) len1_ne)
theorem okit_cell {e : Expr} {pt : Bool} {QI : (Sto → Prop) → List V → Sto → Prop} (h : Ok c d env e lk σ (fun y σ' => ∃ k xs, y = .ref k ∧ σ' k = some (.list xs) ∧ QI (fun σ => σ k = some (.list xs)) xs σ')) : OkIt c d env e lk σ pt QI := by
  intro A s μ Qr Er ok r f q
  refine h A s μ _ Er ok r f fun v s₁ y σ₁ μ₁ h₁ r₁ f₁ v₁ st₁ => ?_
  obtain ⟨k, xs, rfl, hk, hq⟩ := h₁
  obtain ⟨p, rfl, hp⟩ := v₁.ref'
  obtain ⟨_, vs, n, ho, hvs⟩ := r₁.cell k _ p hk hp
  exact wpAny_pyIter_list ⟨_, ho, rfl, _, rfl⟩ (q _ { s₁ with heap := s₁.heap.push _ } _ _ _ σ₁ μ₁ hq (r₁.push _) (f₁.push _) (st₁.trans (Step.push _)) (.listC (i := 0) ⟨_, Heap.get?_push_size _ rfl, rfl, rfl⟩ hp) (push_fp st₁ r₁ _ rfl rfl) len1_ne)
theorem okit_str {e : Expr} {pt : Bool} {QI : (Sto → Prop) → List V → Sto → Prop} (h : Ok c d env e lk σ (fun y σ' => ∃ x, y = .str x ∧ x.cps.all (· < 128) = true ∧ QI (fun zz => True) (signV x.cps.toList) σ')) : OkIt c d env e lk σ pt QI := by
  intro A s μ Qr Er ok r f q
  refine h A s μ _ Er ok r f fun v s₁ y σ₁ μ₁ h₁ r₁ f₁ v₁ st₁ => ?_
  obtain ⟨x, rfl, ha, hq⟩ := h₁
  obtain ⟨t, rfl⟩ := v₁.str'
  exact wpAny_pyIter_ascii ha (q _ { s₁ with heap := s₁.heap.push _ } _ _ _ σ₁ μ₁ hq (r₁.push _) (f₁.push _) (st₁.trans (Step.push _)) (.sign (i := 0) ⟨_, Heap.get?_push_size _ rfl, rfl, rfl⟩) (push_fp st₁ r₁ _ rfl rfl) len1_ne)
noncomputable def keepB (K : Frag) (f : Value) : Bool := match f with
  | .ref _ => keepIn K f
  | _ => true
theorem keeps_B {K : Frag} {M : Model} {f : Value} (hk : keepB K f = true) (h : Heap) (X : K.In h) : ∃ k, (k = Keeper.frame ∨ k = Keeper.machine ∨ k = Keeper.boundFrame) ∧ Looks M h (keeperOf f) k := by
  cases f with
  | ref a => exact keeps_K (show keepIn K (.ref a) = true from hk) h X
  | _ => exact ⟨.machine, .inr (.inl rfl), Looks.of_pure rfl⟩
theorem callWith_ok {f : Value} {first : List V} {args : List Expr} {A : Around} {s : Shared} {μ : AMap} {vs₀ : List Value} {Qr : Value → Shared → Prop} {Er : Value → Shared → Prop} {p : Pos} {Q : V → Sto → Prop}
    (ok : AOk A d) (r : HR c s.heap μ σ) (f₀ : FR c env lk s.heap μ) (hk : keepB c.K f = true) (hv : VRs s.heap μ first vs₀) (h : OkL c d env args lk σ (fun ys σ' => CallF c d env lk σ' f (first ++ ys) Q))
    (hplain : (backTo p (starEach args env)).any (·.1) = false) (q : ValPost c env lk μ s Q Qr) : wpAny c.M A (callWith p f vs₀ (backTo p (starEach args env)) []) Qr Er s := by
  refine callWith_of (P := fun h => c.K.In h) (by rw [hplain]; rfl) (keeps_B hk) ?_
  have fin : wpAny c.M A (spliced (backTo p (starEach args env))) (fun vs s₁ => c.K.In s₁.heap ∧ wpAny c.M A (call f (vs₀ ++ vs)) Qr Er s₁) Er s := by
    refine h A s μ _ Er p ok r f₀ fun vs s₁ ys σ₁ μ₁ h₁ r₁ f₁ v₁ st₁ => ⟨r₁.K, ?_⟩
    exact h₁ A s₁ μ₁ _ Qr Er ok r₁ f₁ ((hv.step st₁).append v₁) (q.after st₁)
  cases hl : backTo p (starEach args env) with
  | nil =>
    rw [hl] at fin
    intro Γ pp hΓ
    have z : c.K.In s.heap ∧ wpAny c.M A (call f (vs₀ ++ [])) Qr Er s := fin Γ pp hΓ
    exact evalArgs_nil3 (Q := fun a s₁ => c.K.In s₁.heap ∧ wpAny c.M A (call f (vs₀ ++ a.pos) a.kw) Qr Er s₁) z Γ pp hΓ
  | cons x rest =>
    obtain ⟨b, t⟩ := x
    have hb : b = false := by
      rw [hl, List.any_cons] at hplain
      cases b <;> first | rfl | cases hplain
    subst hb
    rw [hl] at fin
    exact evalArgs_plain fin
theorem ok_call {id : Str} {p : Pos} {args : List Expr} {Q : V → Sto → Prop} (h : Ok c d env (.Name id p) lk σ (fun y σ' => ∃ f, y = .raw f ∧ keepB c.K f = true ∧ OkL c d env args lk σ' (fun ys σ'' => CallF c d env lk σ'' f ys Q)))
    (hplain : ∀ p, (backTo p (starEach args env)).any (·.1) = false) : Ok c d env (.Call (.Name id p) args [] pos) lk σ Q := by
  intro A s μ Qr Er ok r f q
  refine wpAny_Call_NameR (h A s μ _ Er ok r f fun v s₁ y σ₁ μ₁ h₁ r₁ f₁ v₁ st₁ => ?_)
  refine opq fun Gq hGq => ?_
  obtain ⟨g, rfl, hk, hq⟩ := h₁
  obtain rfl := v₁.raw'
  refine hGq ?_
  clear hGq Gq
  exact callWith_ok (first := []) ok r₁ f₁ hk .nil hq (hplain _) (q.after st₁)
end
-- C7
theorem lk_or {α : Type} {x n : Str} {a b : α} {cs : List (Str × α)} (h : ((n, a) :: cs).lookup x = some b) : (x = n ∧ a = b) ∨ (¬ x = n ∧ cs.lookup x = some b) := by
  rw [List.lookup_cons] at h
  by_cases e : x = n
  · rw [beq_iff_eq.mpr e] at h; exact .inl ⟨e, Option.some.inj h⟩
  · rw [beq_eq_false_iff_ne.mpr e] at h; exact .inr ⟨e, h⟩
theorem lk_hit {α : Type} {x : Str} {a : α} {cs : List (Str × α)} : ((x, a) :: cs).lookup x = some a := by rw [List.lookup_cons, beq_self_eq_true]
theorem lk_some {α : Type} {x n : Str} {a : α} {cs : List (Str × α)} (h : ∃ b, cs.lookup x = some b) : ∃ b, ((n, a) :: cs).lookup x = some b := by
  by_cases e : x = n
  · exact ⟨a, e ▸ lk_hit⟩
  · exact h.imp fun b hb => by rw [List.lookup_cons, beq_eq_false_iff_ne.mpr e]; exact hb
theorem closure_gen {env : Env} (f : Str × NameKind → List (Str × Addr) → Sem (ForInStep (List (Str × Addr))))
    (hf : ∀ n k cs, f (n, k) cs = if (k == NameKind.free) = true then (cellOf env n >>= fun a => pure (.yield ((n, a) :: cs))) else pure (.yield cs)) (l : List (Str × NameKind)) :
    ∀ (acc : List (Str × Addr)), (∀ p ∈ l, p.2 = .free → ∃ a, env.cells.lookup p.1 = some a) →
      ∃ cl, forIn l acc f = pure cl ∧ (∀ x a, cl.lookup x = some a → (acc.lookup x = some a) ∨ (env.cells.lookup x = some a ∧ (x, NameKind.free) ∈ l)) ∧
        ∀ x, ((x, NameKind.free) ∈ l ∨ ∃ a, acc.lookup x = some a) → ∃ a, cl.lookup x = some a := by
  induction l with
  | nil => exact fun acc zz => ⟨acc, List.forIn_nil, fun x a h => .inl h, fun x h => h.elim (fun h => absurd h List.not_mem_nil) id⟩
  | cons p r ih =>
    intro acc h
    have e0 := hf p.1 p.2 acc
    by_cases hk : p.2 = .free
    · obtain ⟨a, ha⟩ := h p (.head _) hk
      obtain ⟨cl, e1, e2, e3⟩ := ih ((p.1, a) :: acc) fun p hp => h p (.tail _ hp)
      refine ⟨cl, ?_, fun x b hx => (e2 x b hx).elim (fun q => (lk_or q).elim (fun z => .inr ⟨by rw [z.1, ← z.2]; exact ha, by rw [z.1, ← hk]; exact .head _⟩) fun z => .inl z.2) fun q => .inr ⟨q.1, .tail _ q.2⟩,
        fun x hx => e3 x (hx.elim (fun hx => (List.mem_cons.mp hx).elim (fun q => .inr ⟨a, by rw [← q]; exact lk_hit⟩) .inl) fun z => .inr (lk_some z))⟩
      have hc : cellOf env p.1 = pure a := by unfold cellOf; rw [ha]
      rw [List.forIn_cons, e0, hk, if_pos (show (NameKind.free == NameKind.free) = true from rfl), hc]
      exact e1
    · obtain ⟨cl, e1, e2, e3⟩ := ih acc fun p hp => h p (.tail _ hp)
      refine ⟨cl, ?_, fun x b hx => (e2 x b hx).imp id fun q => ⟨q.1, .tail _ q.2⟩, fun x hx => e3 x (hx.imp (fun hx => (List.mem_cons.mp hx).elim (fun q => absurd (congrArg Prod.snd q).symm hk) id) id)⟩
      rw [List.forIn_cons, e0, if_neg (fun z => hk (beq_iff_eq.mp z))]
      exact e1
theorem closure_ok {scope : Scope} {env : Env} (h : ∀ p ∈ scope.names, p.2 = .free → ∃ a, env.cells.lookup p.1 = some a) :
    ∃ cl, closureFor scope env = pure cl ∧ (∀ x a, cl.lookup x = some a → env.cells.lookup x = some a ∧ (x, NameKind.free) ∈ scope.names) ∧ ∀ x, (x, NameKind.free) ∈ scope.names → ∃ a, cl.lookup x = some a := by
  have hf : ∃ f : Str × NameKind → List (Str × Addr) → Sem (ForInStep (List (Str × Addr))), closureFor scope env = (forIn scope.names [] f >>= fun cs => pure cs) ∧
      ∀ n k cs, f (n, k) cs = if (k == NameKind.free) = true then (cellOf env n >>= fun a => pure (.yield ((n, a) :: cs))) else pure (.yield cs) :=
    ⟨_, rfl, fun n k cs => by cases k <;> rfl⟩
  obtain ⟨f, e, hf⟩ := hf
  obtain ⟨cl, e1, e2, e3⟩ := closure_gen f hf scope.names [] h
  refine ⟨cl, by rw [e, e1]; rfl, fun x a hx => ?_, fun x hx => e3 x (.inl hx)⟩
  rcases e2 x a hx with q | q
  · simp at q
  · exact q
section
variable {prog : Program} {w : World} {A : Around} {R : Result → Shared → Prop} {s : Shared}
theorem compLoop_rule {elt target iter : Expr} {ifs : List Expr} {scope : Scope} {pos : Pos} {it acc : Value} {env : Env} {E : Value → Shared → Prop} (hE : E = notedBy (model prog w) A env fun e s' => R (.error e) s') (I : Nat → Shared → Prop)
    (turn : ∀ n s, I n s → wpAny (model prog w) A (pyNext it) (fun r s₁ => match r with
      | none => R (.ok .next) s₁
      | some v => wpAny (model prog w) A (letOwnedTupleGo target it v) (fun zz s₁' => wpAny (model prog w) A (assign target env v) (fun zz s₂ =>
          wpAny (model prog w) A (forIn ifs true fun c r => if r = true then do let ok ← isTrue c env (eval c env); pure (ForInStep.yield ok) else pure (ForInStep.yield r)) (fun ok s₃ =>
            if ok = true then wpAny (model prog w) A (eval elt env) (fun x s₄ =>
              wpAny (model prog w) A (call (.builtin "list.append") [acc, x]) (fun zz s₅ => ∃ m, m < n ∧ I m s₅) E s₄) E s₃
            else ∃ m, m < n ∧ I m s₃) E s₂) E s₁') E s₁) E s)
    (n : Nat) (h : I n s) : codeAny (model prog w) A (.compLoop (.ListComp elt [⟨target, iter, ifs, 0⟩] scope pos) 0 it acc env) R s := by
  subst hE
  refine codeAny_loop rfl I (fun n s hI => ?_) n h
  show wpAny _ A ((compTurn (.ListComp elt [⟨target, iter, ifs, 0⟩] scope pos) 0 it acc env).onRaise (fun x => do noteFrame x env; theTreesLotGoes x)) _ _ s
  refine wpAny_noted ?_
  rw [compTurn_list]
  refine wpAny_bind (wpAny_standAt (wpAny_bind (wpAny_mono (turn n s hI) (fun r s₁ h₁ => ?_) fun zz zz h' => h')))
  cases r with
  | none => exact wpAny_pure h₁
  | some v =>
    refine wpAny_bind (wpAny_mono h₁ (fun zz s₁' h₁' => ?_) fun zz zz h' => h')
    refine wpAny_bind (wpAny_mono h₁' (fun zz s₂ h₂ => wpAny_bind (wpAny_mono h₂ (fun ok s₃ h₃ => ?_) fun zz zz h' => h')) fun zz zz h' => h')
    cases ok with
    | false => exact wpAny_pure ⟨rfl, h₃⟩
    | true =>
      exact wpAny_bind (wpAny_bind (wpAny_mono h₃ (fun x s₄ h₄ => wpAny_bind (wpAny_mono h₄ (fun zz s₅ h₅ => wpAny_pure (wpAny_pure ⟨rfl, h₅⟩)) fun zz zz h' => h')) fun zz zz h' => h'))
end
section
variable {c : Ctx} {d : Nat} {env : Env} {lk : Loc} {σ : Sto} {pos : Pos} {QX : Fl → Loc → Sto → Prop}
noncomputable def TestsOk (c : Ctx) (d : Nat) (env : Env) : List Expr → Loc → Sto → (Bool → Sto → Prop) → Prop
  | [], _, σ, Q => Q true σ
  | [t], lk, σ, Q => OkT c d env t lk σ Q
  | _, _, _, _ => False
noncomputable def CompOk (c : Ctx) (d : Nat) (cenv : Env) (target : Expr) (ifs : List Expr) (elt : Expr) (lk : Loc) (S : Sto → Prop) (Q : List V → Sto → Prop) : List V → List V → Sto → Prop
  | [], acc, σ => Q acc σ
  | x :: xs, acc, σ => acc.length ≤ sizeLine ∧ OkA c d cenv target x lk σ (fun lk₁ σ₁ => Sub lk lk₁ ∧ TestsOk c d cenv ifs lk₁ σ₁ (fun b σ₂ =>
      (b = true → Ok c d cenv elt lk₁ σ₂ (fun y σ₃ => S σ₃ ∧ CompOk c d cenv target ifs elt lk S Q xs (acc ++ [y]) σ₃)) ∧
      (b = false → S σ₂ ∧ CompOk c d cenv target ifs elt lk S Q xs acc σ₂)))
structure CScope (scope : Scope) (env : Env) (lk : Loc) : Prop where
  kind : scope.kind = .function
  one : ∀ p ∈ scope.names, ∀ q ∈ scope.names, p.2 = .cell → q.2 = .cell → p.1 = q.1
  names : ∀ p ∈ scope.names, scope.names.lookup p.1 = some p.2
  free : ∀ p ∈ scope.names, p.2 = .free → env.kindOf p.1 = some .cell ∨ env.kindOf p.1 = some .free
  apart : ∀ p ∈ scope.names, p.2 = .local ∨ p.2 = .cell → lk.lookup p.1 = none
theorem relabel_lookup {env : Env} {x : Str} : ∀ (names : List (Str × NameKind)),
    (names.map fun (n, k) => if (k == NameKind.free && env.scope.kind == .function && env.kindOf n == some .cell) then (n, NameKind.cell) else (n, k)).lookup x =
      (names.lookup x).map fun k => if (k == NameKind.free && env.scope.kind == .function && env.kindOf x == some .cell) then NameKind.cell else k
  | [] => rfl
  | (n, k') :: r => by
    have ih := @relabel_lookup env x r
    by_cases hx : x = n
    · subst hx
      by_cases hq : (k' == NameKind.free && env.scope.kind == .function && env.kindOf x == some .cell) = true
      · simp only [List.map_cons, if_pos hq, List.lookup_cons, beq_self_eq_true, Option.map_some]
      · simp only [List.map_cons, if_neg hq, List.lookup_cons, beq_self_eq_true, Option.map_some]
    · have hb : (x == n) = false := by simpa using hx
      by_cases hq : (k' == NameKind.free && env.scope.kind == .function && env.kindOf n == some .cell) = true
      · simp only [List.map_cons, if_pos hq, List.lookup_cons, hb]; exact ih
      · simp only [List.map_cons, if_neg hq, List.lookup_cons, hb]; exact ih
theorem mem_of_lookup' {names : List (Str × NameKind)} {x : Str} {k : NameKind} (h : names.lookup x = some k) : (x, k) ∈ names := by
  induction names with
  | nil => simp at h
  | cons p r ih =>
    obtain ⟨n, k'⟩ := p
    rw [List.lookup_cons] at h
    cases hx : x == n with
    | true =>
      simp only [hx] at h
      cases h
      obtain rfl : x = n := by simpa using hx
      exact .head _
    | false =>
      simp only [hx] at h
      exact .tail _ (ih h)
theorem relabel_free {env : Env} {names : List (Str × NameKind)} {x : Str} {k : NameKind}
    (h : (names.map fun (n, k) => if (k == NameKind.free && env.scope.kind == .function && env.kindOf n == some .cell) then (n, NameKind.cell) else (n, k)).lookup x = some k) (hk : k = .cell ∨ k = .free) :
    names.lookup x = some .free ∨ names.lookup x = some .cell := by
  rw [relabel_lookup] at h
  cases hq : names.lookup x with
  | none => rw [hq] at h; cases h
  | some k' =>
    rw [hq, Option.map_some] at h
    have h := Option.some.inj h
    cases k' with
    | free => exact .inl rfl
    | cell => exact .inr rfl
    | _ => rcases hk with rfl | rfl <;> simp at h
theorem relabel_isfree {env : Env} {names : List (Str × NameKind)} {x : Str} (h : names.lookup x = some .free) :
    (names.map fun (n, k) => if (k == NameKind.free && env.scope.kind == .function && env.kindOf n == some .cell) then (n, NameKind.cell) else (n, k)).lookup x = some .cell ∨
    (names.map fun (n, k) => if (k == NameKind.free && env.scope.kind == .function && env.kindOf n == some .cell) then (n, NameKind.cell) else (n, k)).lookup x = some .free := by
  rw [relabel_lookup, h, Option.map_some]
  split
  · exact .inl rfl
  · exact .inr rfl
theorem relabel_iscell {env : Env} {names : List (Str × NameKind)} {x : Str} (h : names.lookup x = some .cell) :
    (names.map fun (n, k) => if (k == NameKind.free && env.scope.kind == .function && env.kindOf n == some .cell) then (n, NameKind.cell) else (n, k)).lookup x = some .cell := by
  rw [relabel_lookup, h]
  rfl
theorem relabel_local {env : Env} {names : List (Str × NameKind)} {x : Str}
    (h : (names.map fun (n, k) => if (k == NameKind.free && env.scope.kind == .function && env.kindOf n == some .cell) then (n, NameKind.cell) else (n, k)).lookup x = some .local) : names.lookup x = some .local := by
  rw [relabel_lookup] at h
  cases hq : names.lookup x with
  | none => rw [hq] at h; cases h
  | some k' =>
    rw [hq, Option.map_some] at h
    have h := Option.some.inj h
    split at h
    · cases h
    · rw [h]
theorem FR.lift {h h' : Heap} {μ μ' : AMap} (f : FR c env lk h μ) (hk : ∀ b o, h.get? b = some o → Frz μ b → h'.get? b = some o ∧ Frz μ' b) (he : ∀ k p, μ.1 k = some p → μ'.1 k = some p) : FR c env lk h' μ' := f.at (.of hk he) fun a o zz fz e => hk a o e fz
theorem HR.lift {h h' : Heap} {μ : AMap} {X : Addr → Prop} (r : HR c h μ σ) (K : Kp h h' μ (μ.1, X))
    (hc : ∀ k p, μ.1 k = some p → (∀ o, h.get? p.1 = some o → h'.get? p.1 = some o) ∧ ∀ o, h.get? p.2 = some o → h'.get? p.2 = some o) (hb : ∀ b o, c.H0.get? b = some o → h'.get? b = some o)
    (hh : ∀ b, X b → (∃ o, h'.get? b = some o) ∧ c.H0.get? b = none ∧ ∀ k p, μ.1 k = some p → b ≠ p.1 ∧ b ≠ p.2) : HR c h' (μ.1, X) σ :=
  ⟨hb, r.dom, r.inj, r.above, fun k x p hx hp => (r.cell k x p hx hp).at K (hc k p hp).1 (hc k p hp).2, r.fin, hh⟩
noncomputable def unhide (μ μ' : AMap) : AMap := (μ'.1, μ.2)
section
variable {scope : Scope} {cl : List (Str × Addr)} {C D : Addr} {s s₃ s₄ s₆ : Shared} {μ μ₃ μ₆ : AMap} {lk₆ : Loc} {S : Sto → Prop} {fp : List Addr} {it : Addr} {xs acc : List V}
noncomputable def Caught (scope : Scope) (cl : List (Str × Addr)) (env : Env) (h : Heap) : Prop := ∀ x a, cl.lookup x = some a → (env.cells.lookup x = some a ∧ scope.names.lookup x = some .free) ∨ (h.get? a = none ∧ scope.names.lookup x = some .cell)
theorem comp_own (h1 : Caught scope cl env s.heap) (nC : s.heap.get? C = none) {b : Addr} (h : own (compEnvC scope cl C env) b) : s.heap.get? b = none ∨ own env b :=
  h.elim (fun (e : b = C) => .inl (e ▸ nC)) fun z => z.elim fun x hx => (h1 x b hx).elim (fun q => .inr (.inr ⟨x, q.1⟩)) fun q => .inl q.1
theorem occ_none {h : Heap} {b : Addr} (oc : ∃ o, h.get? b = some o) (n : h.get? b = none) : False := oc.elim fun o e => nomatch (n.symm.trans e : none = some o)
theorem comp_back (h1 : Caught scope cl env s.heap) (oc : ∀ b, own env b → ∃ o, s.heap.get? b = some o) (nC : s.heap.get? C = none) (f₄ : FR c env lk s₄.heap μ₃) (cf₆ : FR c (compEnvC scope cl C env) lk₆ s₆.heap μ₆) (hsub : Sub lk lk₆) (st : Step (own (compEnvC scope cl C env)) μ₃ μ₆ s₄ s₆) : FR c env lk s₆.heap μ₆ where
  kind := f₄.kind
  globals := f₄.globals
  builtins := f₄.builtins
  above := f₄.above
  frzL := (own_occ f₄ (.inl rfl)).elim fun o e => st.frz e f₄.frzL
  ns := have nL : ¬ own (compEnvC scope cl C env) env.locals := fun h => h.elim (fun (e : env.locals = C) => occ_none (oc _ (.inl rfl)) (e ▸ nC)) fun z => z.elim fun x hx => (h1 x _ hx).elim (fun q => (f₄.cell x _ q.1).1 rfl) fun q => occ_none (oc _ (.inl rfl)) q.1
    f₄.ns.imp fun m n => ⟨Ns.keep' n.1 fun o e => st.keep _ _ f₄.frzL nL e, fun x y h1 h2 => (n.2 x y h1 h2).imp fun zz g => ⟨g.1, g.2.step st⟩⟩
  cell := fun x a ha => by
    have g := f₄.cell x a ha
    have hocc := oc a (.inr ⟨x, ha⟩)
    by_cases hcap : ∃ z, cl.lookup z = some a
    · obtain ⟨z, hz⟩ := hcap
      have q := (h1 z a hz).resolve_right fun q => occ_none hocc q.1
      obtain rfl : z = x := Classical.byContradiction fun hne => f₄.apart z x a a q.1 ha hne rfl
      have k := cf₆.cell z a hz
      exact ⟨g.1, k.2.1, g.2.2.1, k.2.2.2.imp fun zz w => ⟨w.1, fun y hy hl => w.2 y (relabel_isfree q.2) (hsub z y hl)⟩⟩
    · have na : ¬ own (compEnvC scope cl C env) a := fun ho => ho.elim (fun (e : a = C) => occ_none hocc (e ▸ nC)) hcap
      exact ⟨g.1, (own_occ f₄ (.inr ⟨x, ha⟩)).elim fun o e => st.frz e g.2.1, g.2.2.1, g.2.2.2.imp fun zz q => ⟨IsCell.keep q.1 fun o e => st.keep _ _ g.2.1 na e, fun y hy hl => (q.2 y hy hl).imp fun zz z => ⟨z.1, z.2.step st⟩⟩⟩
  cells := f₄.cells
  apart := f₄.apart
theorem comp_step (h1 : Caught scope cl env s.heap) (nD : s.heap.get? D = none) (nC : s.heap.get? C = none) (st₄ : Step (own env) μ (unhide μ μ₃) s s₄) (st₆ : Step (own (compEnvC scope cl C env)) μ₃ μ₆ s₄ s₆) (hh : μ₃.2 = (hide μ D).2) : Step (own env) μ (unhide μ μ₆) s s₆ :=
  have fz : ∀ {b o}, s.heap.get? b = some o → Frz μ b → Frz μ₃ b := fun e f => ⟨(st₄.frz e f).1, fun h => (hh ▸ h : (hide μ D).2 _).elim (get_ne e nD) f.2⟩
  { keep := fun b o f hx e => st₆.keep b o (fz e f) (fun ho => (comp_own h1 nC ho).elim (fun n => nomatch (n.symm.trans e : none = some o)) hx) (st₄.keep b o f hx e)
    seq := fun b k vs n f e => st₆.seq b k vs n (fz e f) (st₄.seq b k vs n f e)
    live := fun b o e => (st₄.live b o e).elim (st₆.live b)
    ext := fun k q e => st₆.ext k q (st₄.ext k q e)
    new := fun k q hk h0 => (st₆.which hk).elim (fun h => st₄.new k q h h0) fun n => ⟨st₄.back n.1, st₄.back n.2⟩
    hid := rfl
    hkeep := fun b o hb e => st₆.hkeep b o (hh ▸ .inr hb : μ₃.2 b) (st₄.hkeep b o hb e)
    gens := st₆.gens.trans st₄.gens
    os := st₆.os.trans st₄.os }
structure CompB (c : Ctx) (env : Env) (lk : Loc) (S : Sto → Prop) (s : Shared) (μ : AMap) (fp : List Addr) (it D : Addr) (s' : Shared) (xs acc : List V) (μ' : AMap) : Prop where
  I : ItR s'.heap μ' S fp it xs
  d : ∃ vs n, s'.heap.get? D = some (lstO vs n) ∧ VRs s'.heap μ' acc vs.toList
  f : FR c env lk s'.heap μ'
  st : Step (own env) μ (unhide μ μ') s s'
  h : μ'.2 = (hide μ D).2
  fl : FpOk2 s' μ' fp
theorem CompB.hid (B : CompB c env lk S s μ fp it D s₃ xs acc μ₃) : μ₃.2 D := B.h ▸ .inl rfl
theorem CompB.turn {ys : List V} (B : CompB c env lk S s μ fp it D s₃ xs acc μ₃) (h0 : ∀ b ∈ fp, s.heap.get? b = none) (nf : D ∉ fp) (K : Kp s₃.heap s₄.heap μ₃ μ₃) (f₄ : FR c env lk s₄.heap μ₃) (I : ItR s₄.heap μ₃ S fp it ys) (kp : ∀ b o, b ∉ fp → s₃.heap.get? b = some o → s₄.heap.get? b = some o)
    (hfl : ∀ b ∈ fp, ∃ o vs, s₄.heap.get? b = some o ∧ o.data = .fields vs) (hg : s₄.gens = s₃.gens) (ho : s₄.os = s₃.os) : CompB c env lk S s μ fp it D s₄ ys acc μ₃ :=
  ⟨I, B.d.imp fun zz => Exists.imp fun zz q => ⟨kp D _ nf q.1, q.2.at K⟩, f₄, step_fp B.st h0 kp hg ho, B.h, fun b hb => ⟨(B.fl b hb).1, hfl b hb⟩⟩
theorem CompB.step (B : CompB c env lk S s μ fp it D s₄ xs acc μ₃) (h1 : Caught scope cl env s.heap) (oc : ∀ b, own env b → ∃ o, s.heap.get? b = some o) (nD : s.heap.get? D = none) (nC : s.heap.get? C = none) (nf : ∀ b ∈ fp, ¬ own (compEnvC scope cl C env) b)
    (cf₆ : FR c (compEnvC scope cl C env) lk₆ s₆.heap μ₆) (hsub : Sub lk lk₆) (st : Step (own (compEnvC scope cl C env)) μ₃ μ₆ s₄ s₆) : CompB c env lk S s μ fp it D s₆ xs acc μ₆ :=
  ⟨B.I.step st fun b hb => ⟨(B.fl b hb).1, nf b hb⟩, B.d.imp fun zz => Exists.imp fun zz q => ⟨st.hkeep D _ B.hid q.1, q.2.step st⟩, comp_back h1 oc nC B.f cf₆ hsub st, comp_step h1 nD nC B.st st B.h, st.hid.trans B.h, fp_step2 st nf (fun b hb => (B.fl b hb).1) fun b hb => (B.fl b hb).2⟩
noncomputable def CompI (c : Ctx) (d : Nat) (cenv env : Env) (target : Expr) (ifs : List Expr) (elt : Expr) (lk : Loc) (S : Sto → Prop) (QC : List V → Sto → Prop) (s : Shared) (μ : AMap) (fp : List Addr) (it D : Addr) (n : Nat) (s' : Shared) : Prop :=
  ∃ xs acc σ' μ', xs.length = n ∧ CompOk c d cenv target ifs elt lk S QC xs acc σ' ∧ S σ' ∧ HR c s'.heap μ' σ' ∧ FR c cenv lk s'.heap μ' ∧ CompB c env lk S s μ fp it D s' xs acc μ'
theorem tests_ok {A : Around} {cenv : Env} {ifs : List Expr} {QT : Bool → Sto → Prop} {QTr : Bool → Shared → Prop} {E' : Value → Shared → Prop} (ok : AOk A d) (hT : TestsOk c d cenv ifs lk σ QT) (r : HR c s.heap μ σ) (cf : FR c cenv lk s.heap μ)
    (qT : ∀ b s' σ' μ', QT b σ' → HR c s'.heap μ' σ' → FR c cenv lk s'.heap μ' → Step (own cenv) μ μ' s s' → QTr b s') :
    wpAny c.M A (forIn ifs true fun t r => if r = true then do let ok ← isTrue t cenv (eval t cenv); pure (ForInStep.yield ok) else pure (ForInStep.yield r)) QTr E' s := by
  cases ifs with
  | nil => exact wpAny_tests_nil (qT true s σ μ hT r cf (Step.refl _ _ _))
  | cons t rest =>
    cases rest with
    | nil => exact wpAny_tests_one (hT A s μ QTr E' ok r cf qT)
    | cons _ _ => exact hT.elim
theorem comp_append {A : Around} {cenv : Env} {target elt : Expr} {ifs : List Expr} {QC : List V → Sto → Prop} {y : V} {u : Value} {n : Nat} {E' : Value → Shared → Prop} (B : CompB c env lk S s μ fp it D s₆ xs acc μ₆) (r : HR c s₆.heap μ₆ σ) (cf : FR c cenv lk s₆.heap μ₆) (v : VR s₆.heap μ₆ y u)
    (hS : S σ) (hl : CompOk c d cenv target ifs elt lk S QC xs (acc ++ [y]) σ) (hn : xs.length < n) (hlen : acc.length ≤ sizeLine) (nf : D ∉ fp) (nD : s.heap.get? D = none) :
    wpAny c.M A (call (.builtin "list.append") [.ref D, u]) (fun zz s' => ∃ m, m < n ∧ CompI c d cenv env target ifs elt lk S QC s μ fp it D m s') E' s₆ := by
  obtain ⟨vs, nn, hD, hv⟩ := B.d
  refine wpAny_list_append_plain (items := vs) ⟨nn, hD⟩ (fun h hpl hs => ?_) (by rw [← Array.length_toList, ← hv.length]; exact hlen)
  obtain ⟨n₈, hD₈⟩ := hpl
  have kp : ∀ b o, ¬ b = D → s₆.heap.get? b = some o → h.get? b = some o := fun b o hb e => (hs.2 b hb).trans e
  have lk₈ : ∀ b o, s₆.heap.get? b = some o → Frz μ₆ b → h.get? b = some o ∧ Frz μ₆ b := fun b o e fz => ⟨kp b o (fun q => fz.2 (q ▸ B.hid)) e, fz⟩
  have K : Kp s₆.heap h μ₆ μ₆ := .of lk₈ fun zz zz e => e
  have zD := r.hid D B.hid
  have r₈ : HR c h μ₆ σ := r.lift (X := μ₆.2) K (fun k q hq => ⟨fun o => kp _ o (zD.2.2 k q hq).1.symm, fun o => kp _ o (zD.2.2 k q hq).2.symm⟩) (fun b o e => kp b o (get_ne e zD.2.1) (r.base b o e)) fun b hb =>
    ⟨(Classical.em (b = D)).elim (fun e => ⟨_, e ▸ hD₈⟩) fun e => (r.hid b hb).1.imp fun o => kp b o e, (r.hid b hb).2⟩
  have nb : ∀ b ∈ fp, ¬ b = D := fun b hb e => nf (e ▸ hb)
  exact ⟨xs.length, hn, xs, acc ++ [y], σ, μ₆, rfl, hl, hS, r₈, cf.at K fun a o zz fz e => lk₈ a o e fz, B.I.at (fun b hb o e => kp b o (nb b hb) e) K,
    ⟨vs.push u, n₈, hD₈, (by rw [Array.toList_push]; exact (hv.at K).append (.cons (v.at K) .nil))⟩, B.f.at K fun a o zz fz e => lk₈ a o e fz,
    step_fp (fp := [D]) B.st (fun b hb => List.mem_singleton.mp hb ▸ nD) (fun b o hb e => kp b o (notin1 hb) e) rfl rfl, B.h, fun b hb => ⟨(B.fl b hb).1, (B.fl b hb).2.imp fun o => Exists.imp fun us z => ⟨kp b o (nb b hb) z.1, z.2⟩⟩⟩
theorem it_self {A : Around} {Q' E' : Value → Shared → Prop} (I : ItR s.heap μ S fp it xs) (q : Q' (.ref it) s) : wpAny c.M A (pyIter (.ref it)) Q' E' s :=
  ItR.rec (motive := fun zz zz it zz zz => Q' (.ref it) s → wpAny c.M A (pyIter (.ref it)) Q' E' s) (fun a zz zz zz q => wpAny_pyIter_listiter a q) (fun a zz q => wpAny_pyIter_listiter a q) (fun a zz zz zz q => wpAny_pyIter_tupleiter a q)
    (fun a q => wpAny_pyIter_rangeiter a q) (fun a q => wpAny_pyIter_striter_ascii a q) (fun zz a zz zz zz zz q => wpAny_pyIter_enum a q) (fun zz a zz zz q => wpAny_pyIter_enum a q) I q
theorem comp_frame {hp : Heap} (f : FR c env lk s.heap μ) (hsc : CScope scope env lk) (h1 : Caught scope cl env hp) (oc : ∀ b, own env b → ∃ o, hp.get? b = some o) (h2 : ∀ x, ((x, NameKind.free) ∈ scope.names ∨ (x, NameKind.cell) ∈ scope.names) → ∃ a, cl.lookup x = some a) (nC : ¬ own env C) (fz : Frz μ C) (ab : c.H0.objs.size ≤ C)
    (hK : ∀ x a, cl.lookup x = some a → scope.names.lookup x = some .cell → a ≠ C ∧ Frz μ a ∧ c.H0.get? a = none ∧ ∃ v, s.heap.IsCell a v) {m : Str → Option Value} (hn : s.heap.Ns C m) : FR c (compEnvC scope cl C env) lk s.heap μ where
  kind := hsc.kind
  globals := f.globals
  builtins := f.builtins
  above := ab
  frzL := fz
  ns := ⟨m, hn, fun x y hx hy => nomatch ((hsc.apart _ (mem_of_lookup' (relabel_local hx)) (.inl rfl)).symm.trans hy : none = some y)⟩
  cell := fun x a ha => (h1 x a ha).elim (fun w => have g := f.cell x a w.1
    ⟨fun (e : a = C) => nC (.inr ⟨x, (e ▸ w.1 : env.cells.lookup x = some C)⟩), g.2.1, g.2.2.1, g.2.2.2.imp fun zz q => ⟨q.1, fun y zz hl => q.2 y (hsc.free _ (mem_of_lookup' w.2) rfl) hl⟩⟩) fun w => have g := hK x a ha w.2
    ⟨g.1, g.2.1, g.2.2.1, g.2.2.2.imp fun zz q => ⟨q, fun y zz hl => nomatch ((hsc.apart _ (mem_of_lookup' w.2) (.inr rfl)).symm.trans hl : none = some y)⟩⟩
  cells := fun x hx => h2 x ((hx.elim (fun hx => relabel_free hx (.inl rfl)) fun hx => relabel_free hx (.inr rfl)).imp mem_of_lookup' mem_of_lookup')
  apart := fun x y a b ha hb hne => (h1 x a ha).elim (fun p => (h1 y b hb).elim (fun q => f.apart x y a b p.1 q.1 hne) fun q e => occ_none (oc a (.inr ⟨x, p.1⟩)) (e ▸ q.1)) fun p =>
    (h1 y b hb).elim (fun q e => occ_none (oc b (.inr ⟨y, q.1⟩)) (e ▸ p.1)) fun q => absurd (hsc.one _ (mem_of_lookup' p.2) _ (mem_of_lookup' q.2) rfl rfl) hne
end
theorem cells_look : ∀ (names : List (Str × NameKind)) (h : Heap) (acc : List (Str × Addr)) (x : Str) (a : Addr), (cellsFrom h.objs.size names acc).lookup x = some a →
    acc.lookup x = some a ∨ ((x, NameKind.cell) ∈ names ∧ h.get? a = none ∧ h.objs.size ≤ a ∧ (pushCells h names).IsCell a none)
  | [], h, acc, x, a, e => .inl e
  | (n, k) :: r, h, acc, x, a, e => by
    unfold cellsFrom at e
    unfold pushCells
    split at e
    · rename_i hk
      rw [if_pos hk]
      have hk' : k = .cell := beq_iff_eq.mp hk
      have ih := cells_look r (h.push { cls := .type "cell", data := .cell none }) ((n, h.objs.size) :: acc) x a (by rw [Heap.size_push]; exact e)
      rcases ih with ih | ⟨i1, i2, i3, i4⟩
      · rcases lk_or ih with ⟨rfl, rfl⟩ | ⟨-, ih⟩
        · exact .inr ⟨hk' ▸ .head _, none_size _, Nat.le_refl _, _, pushCells_keeps _ _ _ _ (Heap.get?_push_size _ rfl), rfl⟩
        · exact .inl ih
      · rw [Heap.size_push] at i3
        exact .inr ⟨.tail _ i1, none_ge (Nat.le_of_succ_le i3), Nat.le_of_succ_le i3, i4⟩
    · rename_i hk
      rw [if_neg hk]
      exact (cells_look r h acc x a e).imp id fun z => ⟨.tail _ z.1, z.2⟩
theorem cells_has : ∀ (names : List (Str × NameKind)) (n : Nat) (acc : List (Str × Addr)) (x : Str), ((∃ a, acc.lookup x = some a) ∨ (x, NameKind.cell) ∈ names) → ∃ a, (cellsFrom n names acc).lookup x = some a
  | [], n, acc, x, h => h.elim id fun h => nomatch h
  | (m, k) :: r, n, acc, x, h => by
    unfold cellsFrom
    split
    · refine cells_has r _ _ x (h.elim (fun h => .inl (lk_some h)) fun h => (List.mem_cons.mp h).elim (fun e => .inl ⟨n, ?_⟩) .inr)
      obtain ⟨rfl, -⟩ := Prod.mk.inj e
      exact lk_hit
    · rename_i hk
      refine cells_has r _ _ x (h.imp id fun h => (List.mem_cons.mp h).resolve_left fun e => ?_)
      obtain ⟨-, rfl⟩ := Prod.mk.inj e
      exact hk rfl
theorem wpAny_newEnvC {M : Model} {A : Around} {E : Value → Shared → Prop} {s : Shared} {scope : Scope} {globals : Addr} {closure : List (Str × Addr)} {qual : Str} {func : Option Addr} {code : Value} {outer : Env} {builtins : Addr} {Q : Env → Shared → Prop}
    (hQ : Q (newEnv scope s.heap.objs.size globals (cellsFrom (s.heap.objs.size + 1) scope.names closure) qual func code (some outer) builtins) { s with heap := pushCells (s.heap.push { cls := .type "dict", data := .dict #[] }) scope.names }) :
    wpAny M A (newFunctionEnv scope globals closure [] qual func code (some outer) builtins) Q E s := by
  simp only [newFunctionEnv, Option.isSome_some, if_true]
  refine wpAny_bind (wpAny_alloc ?_)
  refine wpAny_bind (wpAny_layCells _ (fun name kind cells => by cases hkc : kind == NameKind.cell <;> simp) _ _ _ _ ?_)
  rw [show ({ s with heap := s.heap.push { cls := .type "dict", data := .dict #[] } } : Shared).heap.objs.size = s.heap.objs.size + 1 from Heap.size_push ..]
  refine wpAny_bind ?_
  rw [List.forIn_nil]
  exact wpAny_pure (wpAny_pure hQ)
theorem comp_loop {elt target iter : Expr} {ifs : List Expr} {scope : Scope} {cl : List (Str × Addr)} {p : Pos} {A : Around} {s s₂ : Shared} {μ : AMap} {S : Sto → Prop} {fp : List Addr} {it C D : Addr} {R : Result → Shared → Prop} {QC : List V → Sto → Prop}
    (ok : AOk A d) (r : HR c s.heap μ σ) (f : FR c env lk s.heap μ) (h1 : Caught scope cl env s.heap) (nD : s.heap.get? D = none) (nC : s.heap.get? C = none) (hpt : fp.length = 2 → pairTarget target = true) (h0 : ∀ b ∈ fp, s.heap.get? b = none) (nf : ∀ b ∈ fp, ¬ own (compEnvC scope cl C env) b) (nfD : D ∉ fp)
    (n : Nat) (I : CompI c d (compEnvC scope cl C env) env target ifs elt lk S QC s μ fp it D n s₂)
    (fin : ∀ s' acc σ' μ', QC acc σ' → HR c s'.heap μ' σ' → FR c (compEnvC scope cl C env) lk s'.heap μ' → (∃ vs n, s'.heap.get? D = some (lstO vs n) ∧ VRs s'.heap μ' acc vs.toList) → FR c env lk s'.heap μ' → Step (own env) μ (unhide μ μ') s s' → μ'.2 = (hide μ D).2 → R (.ok .next) s') :
    codeAny c.M A (.compLoop (.ListComp elt [⟨target, iter, ifs, 0⟩] scope p) 0 (.ref it) (.ref D) (compEnvC scope cl C env)) R s₂ := by
  have no : ∀ b, own env b → ∃ o, s.heap.get? b = some o := fun b hb => own_occ f hb
  refine compLoop_rule rfl (CompI c d (compEnvC scope cl C env) env target ifs elt lk S QC s μ fp it D) ?_ n I
  generalize notedBy (model c.prog c.w) A (compEnvC scope cl C env) (fun e s' => R (.error e) s') = E
  rintro n s₃ ⟨xs, acc, σ₃, μ₃, rfl, hl, hS, r₃, cf₃, B⟩
  have hf3 : ∀ b ∈ fp, Frz μ₃ b ∧ ¬ own (compEnvC scope cl C env) b ∧ c.H0.get? b = none ∧ ∀ c d vs n sl, s₃.heap.get? b ≠ some ⟨c, d, .seq vs n, sl⟩ := fun b hb => have z := fp_facts f r h0 B.fl b hb; ⟨z.1, nf b hb, z.2.2⟩
  refine itr_turn ok.1 B.I r₃ hS hpt (fun y ys v s₄ hx hv I₄ kp hfl hg ho => ?_) (fun s₄ hx kp hg ho => ?_)
  · have g := fp_step (s' := s₄) cf₃ r₃ hf3 kp
    have B₄ := B.turn h0 nfD g.2.2 (fp_step (s' := s₄) B.f r₃ (fp_facts f r h0 B.fl) kp).2.1 I₄ kp hfl hg ho
    subst hx
    refine hl.2 A s₄ μ₃ v _ _ ok g.1 g.2.1 hv fun s₅ lk₅ σ₅ μ₅ h₅ r₅ cf₅ st₅ => ?_
    refine tests_ok ok h₅.2 r₅ cf₅ fun b s₆ σ₆ μ₆ h₆ r₆ cf₆ st₆ => ?_
    have st := st₅.trans st₆
    cases b with
    | false => exact ⟨ys.length, Nat.lt_succ_self _, ys, acc, σ₆, μ₆, rfl, (h₆.2 rfl).2, (h₆.2 rfl).1, r₆, cf₆.weak h₅.1, B₄.step h1 no nD nC nf cf₆ h₅.1 st⟩
    | true =>
      refine h₆.1 rfl A s₆ μ₆ _ _ ok r₆ cf₆ fun u s₇ y' σ₇ μ₇ h₇ r₇ cf₇ v₇ st₇ => ?_
      exact comp_append (B₄.step h1 no nD nC nf cf₇ h₅.1 (st.trans st₇)) r₇ (cf₇.weak h₅.1) v₇ h₇.1 h₇.2 (Nat.lt_succ_self _) hl.1 nfD nD
  · have g := fp_step (s' := s₄) cf₃ r₃ hf3 kp
    subst hx
    exact fin s₄ acc σ₃ μ₃ hl g.1 g.2.1 (B.d.imp fun zz => Exists.imp fun zz q => ⟨kp D _ nfD q.1, q.2.at g.2.2⟩) (fp_step (s' := s₄) B.f r₃ (fp_facts f r h0 B.fl) kp).2.1 (step_fp B.st h0 kp hg ho) B.h
theorem comp_core {elt target iter : Expr} {ifs : List Expr} {scope : Scope} {p : Pos} {use : Option (Value → Sem Unit)} {A : Around} {s : Shared} {μ : AMap} {Qr : Value → Shared → Prop} {Er : Value → Shared → Prop} {QC : List V → Sto → Prop}
    (ok : AOk A d) (r : HR c s.heap μ σ) (f : FR c env lk s.heap μ) (hsc : CScope scope env lk) (hsF : ∀ x, foldedSetIterable iter env x = pure x)
    (h : OkIt c d env iter lk σ (pairTarget target) (fun S xs σ' => S σ' ∧ ∀ C cl, CompOk c d (compEnvC scope cl C env) target ifs elt lk S QC xs [] σ'))
    (fin : ∀ s' D C acc σ' μ', QC acc σ' → HR c s'.heap μ' σ' → FR c env lk s'.heap μ' → VR s'.heap μ' (.lst acc) (.ref D) → Step (own env) μ μ' s s' → Frz μ' C → ¬ own env C → c.H0.get? C = none → s.heap.get? C = none → (∃ m, s'.heap.Ns C m) →
      compPost c.M A Er use Qr (.ref D) C (.ok .next) s') :
    wpAny c.M A (comprehension (.ListComp elt [⟨target, iter, ifs, 0⟩] scope p) scope env (firstIterPos [⟨target, iter, ifs, 0⟩] p) (newList []) false (eval iter env) use) Qr Er s := by
  obtain ⟨cl₀, hcl, hcl1, hcl2⟩ := closure_ok fun p hp hk => f.cells _ (hsc.free p hp hk)
  refine wpAny_comprehension_free (g := ⟨target, iter, ifs, 0⟩) (gs := []) rfl hsF hcl hsc.kind (fun x hx hl => (hsc.names x hx).trans (congrArg some hl)) ?_
  refine h A s μ _ Er ok r f fun it s₁ S fp xs σ₁ μ₁ h₁ r₁ f₁ st₁ I₁ hfp hpt => ?_
  refine wpAny_newObj_type (T := "list") (data := .seq ([] : List Value).toArray) ?_ (by show _ ≤ sizeLine; decide)
  refine wpAny_newEnvC ?_
  dsimp only
  generalize hH : s₁.heap.push { cls := .type "list", dict := none, data := .seq ([] : List Value).toArray } = H
  generalize hD0 : s₁.heap.objs.size = D
  have hC : H.objs.size = D + 1 := by rw [← hH, Heap.size_push, hD0]
  have nD : s₁.heap.get? D = none := none_ge (Nat.le_of_eq hD0)
  have nC : s₁.heap.get? H.objs.size = none := none_ge (by rw [hC, hD0]; exact Nat.le_succ _)
  have hH2 : ∀ {b o}, s₁.heap.get? b = some o → H.get? b = some o := fun e => hH ▸ Heap.get?_push_of_some _ e
  have hH3 : ∀ {b o}, H.get? b = some o → (pushCells (H.push { cls := .type "dict", data := .dict #[] }) scope.names).get? b = some o := fun e => pushCells_keeps _ _ _ _ (Heap.get?_push_of_some _ e)
  have old : ∀ b o, s₁.heap.get? b = some o → (pushCells (H.push { cls := .type "dict", data := .dict #[] }) scope.names).get? b = some o := fun b o e => hH3 (hH2 e)
  have eD : H.get? D = some (lstO #[] 0) := by rw [← hH, ← hD0]; exact Heap.get?_push_size _ rfl
  have ab : c.H0.objs.size ≤ H.objs.size := by rw [hC, ← hD0]; exact Nat.le_succ_of_le r₁.size
  have dC : D ≠ H.objs.size := Nat.ne_of_lt (Heap.lt_size eD)
  have eD := hH3 eD
  have hns₂ : (pushCells (H.push { cls := .type "dict", data := .dict #[] }) scope.names).Ns H.objs.size (fun zz => none) := (Heap.Ns.new H (.type "dict")).keeps (pushCells_keeps _ _)
  have h1 : ∀ x a, (cellsFrom (H.objs.size + 1) scope.names cl₀).lookup x = some a → (env.cells.lookup x = some a ∧ scope.names.lookup x = some .free) ∨
      ((s₁.heap.get? a = none ∧ H.objs.size < a ∧ (pushCells (H.push { cls := .type "dict", data := .dict #[] }) scope.names).IsCell a none) ∧ scope.names.lookup x = some .cell) := fun x a hx => by
    rcases cells_look scope.names (H.push { cls := .type "dict", data := .dict #[] }) cl₀ x a (by rw [Heap.size_push]; exact hx) with q | ⟨q1, q2, q3, q4⟩
    · exact .inl ⟨(hcl1 x a q).1, hsc.names _ (hcl1 x a q).2⟩
    · rw [Heap.size_push] at q3
      exact .inr ⟨⟨none_ge (by rw [hD0]; rw [hC] at q3; exact Nat.le_of_succ_le (Nat.le_of_succ_le q3)), q3, q4⟩, hsc.names _ q1⟩
  have h2 : ∀ x, ((x, NameKind.free) ∈ scope.names ∨ (x, NameKind.cell) ∈ scope.names) → ∃ a, (cellsFrom (H.objs.size + 1) scope.names cl₀).lookup x = some a := fun x hx => cells_has _ _ _ x (hx.imp (hcl2 x) id)
  clear hH3 hH2 hcl2 hcl1 hcl
  generalize cellsFrom (H.objs.size + 1) scope.names cl₀ = cl at *
  generalize pushCells (H.push { cls := .type "dict", data := .dict #[] }) scope.names = h₂ at *
  generalize H.objs.size = C at *
  have hDC : D < C := by lcg_off
  clear hC hD0 hH
  let s₂ : Shared := { s₁ with heap := h₂ }
  have h0 : ∀ b ∈ fp, s.heap.get? b = none := fun b hb => (hfp b hb).1
  have occ : ∀ b ∈ fp, ∃ o, s₁.heap.get? b = some o := fun b hb => (hfp b hb).2.2.imp fun o z => z.elim fun zz z => z.1
  have hid : ∀ b o, s₁.heap.get? b = some o → Frz μ₁ b → h₂.get? b = some o ∧ Frz (hide μ₁ D) b := fun b o e fz => ⟨old b o e, fz.1, fun hh => hh.elim (get_ne e nD) fz.2⟩
  have K : Kp s₁.heap h₂ μ₁ (hide μ₁ D) := .of hid fun zz zz e => e
  have r₂ : HR c h₂ (hide μ₁ D) σ₁ := r₁.lift K (fun k q hq => ⟨old _, old _⟩) (fun b o e => old b o (r₁.base b o e)) fun b hb =>
    hb.elim (fun e => e ▸ ⟨⟨_, eD⟩, none_base r₁ nD, (frz_none r₁ nD).1⟩) fun hb => ⟨(r₁.hid b hb).1.imp fun o => old b o, (r₁.hid b hb).2⟩
  have f₂ : FR c env lk s₂.heap (hide μ₁ D) := f₁.at K fun a o zz fz e => hid a o e fz
  have sD := st₁.back nD
  have sC := st₁.back nC
  have hcap : Caught scope cl env s.heap := fun x a hx => (h1 x a hx).imp id fun q => ⟨st₁.back q.1.1, q.2⟩
  have cf₂ := comp_frame f₂ hsc hcap (fun b hb => own_occ f hb) h2 (none_own f sC) ⟨(frz_none r₁ nC).1, fun hh => hh.elim (fun e => dC (Eq.symm e)) (frz_none r₁ nC).2⟩ ab (fun x a hx hk => by
    rcases h1 x a hx with q | q
    · exact nomatch (q.2.symm.trans hk : some NameKind.free = some .cell)
    · exact ⟨Nat.ne_of_gt q.1.2.1, ⟨(frz_none r₁ q.1.1).1, fun hh => hh.elim (fun e => Nat.ne_of_gt (Nat.lt_trans hDC q.1.2.1) e) (frz_none r₁ q.1.1).2⟩, none_base r₁ q.1.1, _, q.1.2.2⟩) hns₂
  have I₂ : ItR s₂.heap (hide μ₁ D) S fp it xs := I₁.at (fun b hb o => old b o) K
  have hh : (hide μ₁ D).2 = (hide μ D).2 := by show (fun b => b = D ∨ μ₁.2 b) = _; rw [st₁.hid]; rfl
  have hu : unhide μ (hide μ₁ D) = μ₁ := by show (μ₁.1, μ.2) = μ₁; rw [← st₁.hid]
  have loop := comp_loop (iter := iter) (p := p) (R := compPost c.M A Er use Qr (.ref D) C) ok r f hcap sD sC hpt h0 (fun b hb ho => ho.elim (fun (e : b = C) => occ_none (occ b hb) (e ▸ nC)) fun z => z.elim fun x hx => (h1 x b hx).elim (fun q => none_own f (h0 b hb) (.inr ⟨x, q.1⟩)) fun q => occ_none (occ b hb) q.1.1) (fun hb => (occ D hb).elim fun o e => nomatch (nD.symm.trans e : none = some o)) xs.length
    ⟨xs, [], σ₁, hide μ₁ D, rfl, h₁.2 C cl, h₁.1, r₂, cf₂, I₂, ⟨#[], 0, eD, .nil⟩, f₂, (by rw [hu]; exact st₁.trans (Step.ofKeep (s' := s₂) old rfl rfl)), hh, fun b hb => (hfp b hb).2.2.elim fun o z => z.elim fun us z => ⟨(hid b o z.1 (hfp b hb).2.1).2, o, us, old b o z.1, z.2⟩⟩
    fun s₄ acc σ₃ μ₃ hl r₄ cf₄ Bd Bf Bst Bh => by
      have Bhid : μ₃.2 D := Bh ▸ .inl rfl
      have un : ∀ b, Frz μ₃ b → Frz (unhide μ μ₃) b := fun b fz => ⟨fz.1, fun hh => fz.2 (Bh ▸ .inr hh)⟩
      have Ku : Kp s₄.heap s₄.heap μ₃ (unhide μ μ₃) := .of (fun b o e fz => ⟨e, un b fz⟩) fun zz zz e => e
      have ru : HR c s₄.heap (unhide μ μ₃) σ₃ := r₄.lift Ku (fun zz zz zz => ⟨fun zz e => e, fun zz e => e⟩) r₄.base fun b hb => r₄.hid b (Bh ▸ .inr hb)
      obtain ⟨vs, nn, hD, hv⟩ := Bd
      exact fin s₄ D C acc σ₃ (unhide μ μ₃) hl ru (Bf.at Ku fun a o zz fz e => ⟨e, un a fz⟩) (.lst (vs := vs.toList) hD ⟨(r₄.hid D Bhid).2.2, fun hh => (r.hid D hh).1.elim fun o e => nomatch (sD.symm.trans e : none = some o)⟩ (hv.at Ku)) Bst (un C cf₄.frzL) (none_own f sC) (none_base r sC) sC (cf₄.ns.imp fun zz n => n.1)
  exact codeAny_compStart_list loop (it_self I₂ loop)
end
-- C8
section
variable {c : Ctx} {d : Nat} {env : Env} {lk : Loc} {σ : Sto} {pos : Pos} {QX : Fl → Loc → Sto → Prop} {Q : V → Sto → Prop}
theorem let_frame {s s' : Shared} {μ : AMap} {C : Addr} (r : HR c s.heap μ σ) (f : FR c env lk s.heap μ) (fz : Frz μ C) (no : ¬ own env C) (h0 : c.H0.get? C = none) (hn : ∃ m, s.heap.Ns C m) (hs : Heap.SameBut C s.heap s'.heap) :
    HR c s'.heap μ σ ∧ FR c env lk s'.heap μ ∧ Kp s.heap s'.heap μ μ :=
  fp_step (fp := [C]) (s' := s') f r (fun b hb => List.mem_singleton.mp hb ▸ ⟨fz, no, h0, fun zz zz zz zz zz => hn.elim fun zz n => Ns.no_seq n⟩) (fun b o hb e => (hs.2 b (notin1 hb)).trans e)
theorem ok_listcomp {elt target iter : Expr} {ifs : List Expr} {scope : Scope} (hsc : CScope scope env lk) (hsF : ∀ x, foldedSetIterable iter env x = pure x)
    (h : OkIt c d env iter lk σ (pairTarget target) (fun S xs σ' => S σ' ∧ ∀ C cl, CompOk c d (compEnvC scope cl C env) target ifs elt lk S (fun acc σ'' => Q (.lst acc) σ'') xs [] σ')) :
    Ok c d env (.ListComp elt [⟨target, iter, ifs, 0⟩] scope pos) lk σ Q := by
  intro A s μ Qr Er ok r f q
  rw [eval_ListComp]
  refine comp_core ok r f hsc hsF h fun s' D C acc σ' μ' hq r' f' v' st fz no h0 hs0 hn => hn.imp fun m n => ⟨n, fun h' hs => ?_⟩
  have z := let_frame (s' := { s' with heap := h' }) r' f' fz no h0 hn hs
  exact q _ { s' with heap := h' } (.lst acc) σ' μ' hq z.1 z.2.1 (v'.at z.2.2) (step_fp (fp := [C]) st (fun b hb => List.mem_singleton.mp hb ▸ hs0) (fun b o hb e => (hs.2 b (notin1 hb)).trans e) rfl rfl)
theorem okx_assign_comp {x : Str} {px cpos : Pos} {elt target iter : Expr} {ifs : List Expr} {scope : Scope} (hsc : CScope scope env lk) (hsF : ∀ x, foldedSetIterable iter env x = pure x)
    (hsw : swapsWith (.ListComp elt [⟨target, iter, ifs, 0⟩] scope cpos) (some (.Name x px)) pos.line env = pure true)
    (h : OkIt c d env iter lk σ (pairTarget target) (fun S xs σ' => S σ' ∧ ∀ C cl, CompOk c d (compEnvC scope cl C env) target ifs elt lk S (fun acc σ'' => QX .next (put x (.lst acc) lk) σ'') xs [] σ'))
    (hk : env.kindOf x = some .local ∨ env.kindOf x = some .cell) :
    OkX c d env (.Assign [.Name x px] (.ListComp elt [⟨target, iter, ifs, 0⟩] scope cpos) pos) lk σ QX := by
  intro A s μ Qr Er ok r f q
  rw [exec_Assign_Name_used _ _ _ _ hsw]
  refine wpAny_bind (wpAny_standAt (wpAny_bind ?_))
  show wpAny _ A (do let _ ← comprehension (.ListComp elt [⟨target, iter, ifs, 0⟩] scope cpos) scope env _ (newList []) false (eval iter env) (some (assign (.Name x px) env))) _ _ s
  refine wpAny_bind (wpAny_mono (comp_core (use := some (assign (.Name x px) env)) (Qr := fun zz s' => Qr .next s') ok r f hsc hsF h fun s' D C acc σ' μ' hq r' f' v' st fz no h0 hs0 hn => ?_) (fun zz zz hh => wpAny_pure (wpAny_pure hh)) fun zz zz e => e)
  show wpAny _ A (assign (.Name x px) env (.ref D)) _ _ s'
  refine wpAny_assign_Name (store_var f' r' v' hk fun s'' r'' f'' st'' => ?_)
  have hn'' : ∃ m, s''.heap.Ns C m := hn.imp fun zz n => Ns.keep' n fun o e => st''.keep C o fz no e
  refine hn''.imp fun m n => ⟨n, fun h' hs => ?_⟩
  have fz' : Frz _ C := hn.elim fun zz n => n.elim fun o n => n.elim fun zz n => n.elim fun zz n => st''.frz n.1 fz
  have z := let_frame (s' := { s'' with heap := h' }) r'' f'' fz' no h0 hn'' hs
  exact q .next { s'' with heap := h' } .next _ σ' μ' hq z.1 z.2.1 trivial (step_fp (fp := [C]) (st.trans st'') (fun b hb => List.mem_singleton.mp hb ▸ hs0) (fun b o hb e => (hs.2 b (notin1 hb)).trans e) rfl rfl)
theorem bb_range : bootBuiltins "range" = some (.type "range") := by decide +kernel
noncomputable def CallIt (c : Ctx) (d : Nat) (env : Env) (lk : Loc) (σ : Sto) (f : Value) (args : List V) (pt : Bool) (Q : (Sto → Prop) → List V → Sto → Prop) : Prop :=
  ∀ A s μ vs Qr Er, AOk A d → HR c s.heap μ σ → FR c env lk s.heap μ → VRs s.heap μ args vs →
    (∀ it s' S fp xs, Q S xs σ → HR c s'.heap μ σ → FR c env lk s'.heap μ → Step (own env) μ μ s s' → ItR s'.heap μ S fp it xs → FpOk c env s s' μ fp → (fp.length = 2 → pt = true) → Qr (.ref it) s') →
    wpAny c.M A (call f vs) (fun x s₁ => wpAny c.M A (pyIter x) Qr Er s₁) Er s
theorem okit_call {x : Str} {T : String} {p : Pos} {e : Expr} {es : List Expr} {pt : Bool} {QI : (Sto → Prop) → List V → Sto → Prop} (hx : nsIn c.K mainGlobals x = some none) (hb : bootBuiltins x = some (.type T)) (hn : x ≠ "__name__") (hk : env.kindOf x = some .globalImplicit) (hd : (x == ("__debug__" : Str)) = false)
    (h : OkL c d env (e :: es) lk σ (fun ys σ' => CallIt c d env lk σ' (.type T) ys pt QI)) (hst : ∀ p, (backTo p (starEach (e :: es) env)).any (·.1) = false) (hne : ∀ p, ∃ x r, backTo p (starEach (e :: es) env) = (false, x) :: r) :
    OkIt c d env (.Call (.Name x p) (e :: es) [] pos) lk σ pt QI := by
  intro A s μ Qr Er ok r f q
  refine wpAny_Call_NameR (ok_builtin (Q := fun y σ' => y = .raw (.type T) ∧ σ' = σ) hx hb hn ⟨rfl, rfl⟩ hk hd A s μ _ Er ok r f fun v s₁ y σ₁ μ₁ h₁ r₁ f₁ v₁ st₁ => ?_)
  obtain ⟨rfl, rfl⟩ := h₁
  obtain rfl := v₁.raw'
  refine PySem.callWith_type (hst _) ?_
  have z := h A s₁ μ₁ (fun vs s' => wpAny c.M A (call (.type T) ([] ++ vs) []) (fun x s₁ => wpAny c.M A (pyIter x) Qr Er s₁) Er s') Er pos ok r₁ f₁ fun vs s₂ ys σ₂ μ₂ h₂ r₂ f₂ v₂ st₂ =>
    h₂ A s₂ μ₂ vs Qr Er ok r₂ f₂ v₂ fun it s' S fp xs hq a1 a2 a3 a4 a5 a6 => q it s' S fp xs _ μ₂ hq a1 a2 ((st₁.trans st₂).trans a3) a4 (fun b hb => ⟨(st₁.trans st₂).back (a5 b hb).1, (a5 b hb).2⟩) a6
  obtain ⟨x, rr, e⟩ := hne pos
  rw [e] at z ⊢
  exact evalArgs_plain z
theorem fits_of {i : Int} (h : -(2 ^ 63) ≤ i) (h' : i < 2 ^ 63) : Builtin.Range.rangeFitsLong i = true := Bool.and_eq_true_iff.mpr ⟨decide_eq_true h, decide_eq_true h'⟩
theorem fits62 {i : Int} (h : -(2 ^ 62) ≤ i) (h' : i < 2 ^ 62) : Builtin.Range.rangeFitsLong i = true := fits_of (Int.le_trans (by decide) h) (Int.lt_trans h' (by decide))
theorem toNat_if (a b : Int) : (if a < b then b - a else 0) = ((b - a).toNat : Int) := by
  by_cases h : a < b
  · rw [if_pos h]; exact (Int.toNat_of_nonneg (Int.sub_nonneg_of_le (Int.le_of_lt h))).symm
  · rw [if_neg h, Int.toNat_of_nonpos (Int.sub_nonpos_of_le (Int.not_lt.mp h))]; rfl
noncomputable def rangeOk (a b k : Int) (n : Nat) : Prop := Builtin.Range.small a b k = true ∧ Builtin.Range.rangeSize a b k = (n : Int)
theorem rangeOk_one {a b : Int} (ha : -(2 ^ 62) ≤ a) (ha' : a < 2 ^ 62) (hb : -(2 ^ 62) ≤ b) (hb' : b < 2 ^ 62) : rangeOk a b 1 (b - a).toNat := ⟨small_one ha ha' hb hb', (rangeSize_one a b).trans (toNat_if a b)⟩
theorem rangeOk_down {a b : Int} (ha : -(2 ^ 62) ≤ a) (ha' : a < 2 ^ 62) (hb : -(2 ^ 62) ≤ b) (hb' : b < 2 ^ 62) : rangeOk a b (-1) (a - b).toNat := by
  have e : Builtin.Range.rangeSize a b (-1) = ((a - b).toNat : Int) := by
    show (if (-1 : Int) > 0 then _ else if b < a then (a - b - 1) / 1 + 1 else 0) = _
    rw [if_neg (by decide), Int.ediv_one, Int.sub_add_cancel]
    exact toNat_if b a
  refine ⟨?_, e⟩
  unfold Builtin.Range.small
  have l : ((a - b).toNat : Int) < 2 ^ 63 := by lcg_off
  rw [e, fits62 ha ha', fits62 hb hb', fits_of (Int.le_trans (by decide) (Int.natCast_nonneg _)) l, if_neg (by decide), show b + ((-1 : Int) + 1) = b from Int.add_zero b, fits62 hb hb', Bool.or_true]
  rfl
theorem range_tail {A : Around} {s : Shared} {μ : AMap} {Qr : Value → Shared → Prop} {Er : Value → Shared → Prop} {a b k : Int} {t u v : Tok} {n : Nat} {tk : Nat} {pt : Bool} {QI : (Sto → Prop) → List V → Sto → Prop}
    (r : HR c s.heap μ σ) (f : FR c env lk s.heap μ) (ro : rangeOk a b k n) (hq : QI (fun zz => True) (rangeV a k n) σ)
    (q : ∀ it s' S fp xs, QI S xs σ → HR c s'.heap μ σ → FR c env lk s'.heap μ → Step (own env) μ μ s s' → ItR s'.heap μ S fp it xs → FpOk c env s s' μ fp → (fp.length = 2 → pt = true) → Qr (.ref it) s') :
    wpAny c.M A (pyIter (.ref s.heap.objs.size)) Qr Er { s with heap := s.heap.push { cls := .type "range", data := .fields #[.int a t, .int b u, .int k v] }, toks := tk } := by
  let s₂ : Shared := { s with heap := s.heap.push { cls := .type "range", data := .fields #[.int a t, .int b u, .int k v] }, toks := tk }
  have r₂ : HR c s₂.heap μ σ := r.push _
  have st₂ : Step (own env) μ μ s s₂ := Step.ofKeep (fun zz zz e => Heap.get?_push_of_some _ e) rfl rfl
  refine wpAny_pyIter_range (s := s₂) (IsRange.new _ _ _ _ _ _ _) ro.1 ?_
  rw [ro.2]
  exact q _ { s₂ with heap := s₂.heap.push _ } _ [s₂.heap.objs.size] _ hq (r₂.push _) ((f.push _).push (s := s₂) _) (st₂.trans (Step.push _)) (.range (Heap.get?_push_size _ rfl)) (push_fp st₂ r₂ _ rfl rfl) len1_ne
theorem okit_range1 {p : Pos} {e : Expr} {pt : Bool} {QI : (Sto → Prop) → List V → Sto → Prop} (hx : nsIn c.K mainGlobals "range" = some none) (hk : env.kindOf "range" = some .globalImplicit)
    (h : Ok c d env e lk σ (fun y σ' => ∃ b, y = .int b ∧ b < 2 ^ 62 ∧ -(2 ^ 62) ≤ b ∧ QI (fun zz => True) (rangeV 0 1 b.toNat) σ'))
    (he : ∀ env, starEach [e] env = (false, eval e env) :: starEach [] env) : OkIt c d env (.Call (.Name "range" p) [e] [] pos) lk σ pt QI := by
  refine okit_call hx bb_range (by decide) hk (by decide) (okl_cons (h.mono fun y σ' hh => okl_nil ?_) he) (fun p => by rw [he]; rfl) fun p => by rw [he]; exact ⟨_, _, rfl⟩
  obtain ⟨b, rfl, hb, hb', hq⟩ := hh
  intro A s μ vs Qr Er ok r f hv q
  obtain ⟨v, rfl, h1⟩ := hv.one
  obtain ⟨t, rfl⟩ := h1.int'
  have ro := rangeOk_one (a := 0) (b := b) (by decide) (by decide) hb' hb
  rw [Int.sub_zero] at ro
  exact call_range_1 (range_tail r f ro hq q)
theorem okit_range3 {p : Pos} {e₁ e₂ e₃ : Expr} {pt : Bool} {QI : (Sto → Prop) → List V → Sto → Prop} (hx : nsIn c.K mainGlobals "range" = some none) (hk : env.kindOf "range" = some .globalImplicit)
    (h : OkL c d env [e₁, e₂, e₃] lk σ (fun ys σ' => ∃ a b, ys = [.int a, .int b, .int (-1)] ∧ -(2 ^ 62) ≤ a ∧ a < 2 ^ 62 ∧ -(2 ^ 62) ≤ b ∧ b < 2 ^ 62 ∧ QI (fun zz => True) (rangeV a (-1) (a - b).toNat) σ'))
    (hst : ∀ p, (backTo p (starEach [e₁, e₂, e₃] env)).any (·.1) = false) (hne : ∀ p, ∃ x r, backTo p (starEach [e₁, e₂, e₃] env) = (false, x) :: r) : OkIt c d env (.Call (.Name "range" p) [e₁, e₂, e₃] [] pos) lk σ pt QI := by
  refine okit_call hx bb_range (by decide) hk (by decide) (h.mono fun ys σ' hh => ?_) hst hne
  obtain ⟨a, b, rfl, ha, ha', hb, hb', hq⟩ := hh
  intro A s μ vs Qr Er ok r f hv q
  obtain ⟨v, w, u, rfl, h1, h2, h3⟩ := hv.three
  obtain ⟨t, rfl⟩ := h1.int'
  obtain ⟨t, rfl⟩ := h2.int'
  obtain ⟨t, rfl⟩ := h3.int'
  exact call_range_3 (by decide) (range_tail r f (rangeOk_down ha ha' hb hb') hq q) (.inl (PyProof.noPylong_small (by lcg_off)))
theorem bb_enumerate : bootBuiltins "enumerate" = some (.type "enumerate") := by decide +kernel
theorem enum_tail {A : Around} {s : Shared} {μ : AMap} {Qr : Value → Shared → Prop} {Er : Value → Shared → Prop} {l : Addr} {vs : Array Value} {n : Nat} {xs : List V} {S : Sto → Prop} {QI : (Sto → Prop) → List V → Sto → Prop}
    (r : HR c s.heap μ σ) (f : FR c env lk s.heap μ) (ho : s.heap.get? l = some (lstO vs n)) (hq : QI S (enumV 0 xs) σ)
    (mk : ∀ h', Kp s.heap h' μ μ → (∀ b o, s.heap.get? b = some o → h'.get? b = some o) → s.heap.objs.size + 1 ≠ s.heap.objs.size → IsEnum h' (s.heap.objs.size + 1) s.heap.objs.size 0 .none → h'.IsListIter s.heap.objs.size l 0 → ItR h' μ S [s.heap.objs.size + 1, s.heap.objs.size] (s.heap.objs.size + 1) (enumV 0 xs))
    (q : ∀ it s' S fp xs, QI S xs σ → HR c s'.heap μ σ → FR c env lk s'.heap μ → Step (own env) μ μ s s' → ItR s'.heap μ S fp it xs → FpOk c env s s' μ fp → (fp.length = 2 → true = true) → Qr (.ref it) s') :
    wpAny c.M A (call (.type "enumerate") [.ref l]) (fun x s₁ => wpAny c.M A (pyIter x) Qr Er s₁) Er s := by
  refine call_enumerate_list ⟨_, ho, rfl, _, rfl⟩ fun h' he hi hsz kp => wpAny_pyIter_enum he ?_
  have n1 : s.heap.get? (s.heap.objs.size + 1) = none := none_ge (Nat.le_succ _)
  refine q _ { s with heap := h' } _ [s.heap.objs.size + 1, s.heap.objs.size] _ hq (r.keep kp) (f.keep (s' := { s with heap := h' }) kp rfl rfl) (Step.ofKeep kp rfl rfl) (mk h' (.all kp) kp (Nat.succ_ne_self _) he hi) (fun b hb => ?_) fun zz => rfl
  rcases List.mem_cons.mp hb with e | hb
  · exact e ▸ ⟨n1, frz_none r n1, _, _, he, rfl⟩
  · exact List.mem_singleton.mp hb ▸ ⟨none_size _, frz_size r, hi.imp fun o z => ⟨_, z.1, z.2.2⟩⟩
theorem okit_enum {p : Pos} {e : Expr} {QI : (Sto → Prop) → List V → Sto → Prop} (hx : nsIn c.K mainGlobals "enumerate" = some none) (hk : env.kindOf "enumerate" = some .globalImplicit)
    (h : Ok c d env e lk σ (fun y σ' => (∃ xs, y = .lst xs ∧ QI (fun zz => True) (enumV 0 xs) σ') ∨ ∃ k xs, y = .ref k ∧ σ' k = some (.list xs) ∧ QI (fun σ => σ k = some (.list xs)) (enumV 0 xs) σ'))
    (he : ∀ env, starEach [e] env = (false, eval e env) :: starEach [] env) : OkIt c d env (.Call (.Name "enumerate" p) [e] [] pos) lk σ true QI := by
  refine okit_call hx bb_enumerate (by decide) hk (by decide) (okl_cons (h.mono fun y σ' hh => okl_nil ?_) he) (fun p => by rw [he]; rfl) fun p => by rw [he]; exact ⟨_, _, rfl⟩
  intro A s μ vs Qr Er ok r f hv q
  obtain ⟨v, rfl, h1⟩ := hv.one
  rcases hh with ⟨xs, rfl, hq⟩ | ⟨k, xs, rfl, hs, hq⟩
  · obtain ⟨a, vs, n, rfl, ho, hf, hvs⟩ := h1.lst'
    exact enum_tail r f ho hq (fun h' K kp ne he hi => .enumF (i := 0) ne he hi (kp _ _ ho) hf (hvs.at K)) q
  · obtain ⟨p, rfl, hp⟩ := h1.ref'
    obtain ⟨_, vs, n, ho, hvs⟩ := r.cell k _ p hs hp
    exact enum_tail r f ho hq (fun h' K kp ne he hi => .enumC (i := 0) ne he hi hp) q
end
-- C9
theorem bindL_not {kindOf : Str → Option NameKind} {x : Str} : ∀ (bs : List (Str × Value)) (m : Str → Option Value), x ∉ bs.map (·.1) → bindL kindOf bs m x = m x
  | [], _, _ => rfl
  | (n, v) :: r, m, h => by
    unfold bindL
    rw [bindL_not r _ (fun hx => h (.tail _ hx))]
    have hne : x ≠ n := fun e => h (e ▸ .head _)
    split
    · show (if x = n then some v else m x) = m x
      rw [if_neg hne]
    · rfl
theorem bindC_not {kindOf : Str → Option NameKind} {x : Str} : ∀ (bs : List (Str × Value)) (m : Str → Option Value), x ∉ bs.map (·.1) → bindC kindOf bs m x = m x
  | [], _, _ => rfl
  | (n, v) :: r, m, h => by
    unfold bindC
    rw [bindC_not r _ (fun hx => h (.tail _ hx))]
    have hne : x ≠ n := fun e => h (e ▸ .head _)
    split
    · rfl
    · show (if x = n then some v else m x) = m x
      rw [if_neg hne]
theorem zip_names (ps : List Str) : ∀ (vs : List Value), ∀ x ∈ (ps.zip vs).map (·.1), x ∈ ps := by
  induction ps with
  | nil => intro vs x hx; simp at hx
  | cons p r ih =>
    intro vs x hx
    cases vs with
    | nil => simp at hx
    | cons v vs =>
      simp only [List.zip_cons_cons, List.map_cons, List.mem_cons] at hx
      rcases hx with rfl | hx
      · exact .head _
      · exact .tail _ (ih vs x hx)
theorem bind_has {h : Heap} {μ : AMap} {x : Str} {y : V} (B : List (Str × Value) → (Str → Option Value) → Str → Option Value) (h0 : ∀ bs m v, x ∉ bs.map (·.1) → B ((x, v) :: bs) m x = some v) (h1 : ∀ n v bs m, x ≠ n → ∃ m', B ((n, v) :: bs) m x = B bs m' x)
    {args : List V} {vs : List Value} (r : VRs h μ args vs) : ∀ (ps : List Str) (m : Str → Option Value), ps.Nodup → (ps.zip args).lookup x = some y → ∃ v, B (ps.zip vs) m x = some v ∧ VR h μ y v :=
  VRs.ind (P := fun args vs => ∀ (ps : List Str) (m : Str → Option Value), ps.Nodup → (ps.zip args).lookup x = some y → ∃ v, B (ps.zip vs) m x = some v ∧ VR h μ y v)
    (fun ps m zz e => by rw [List.zip_nil_right] at e; cases e)
    (fun {_ v _ vs} a _ ih ps m hn e => by
      cases ps with
      | nil => cases e
      | cons p ps =>
        rcases lk_or (show List.lookup x ((p, _) :: ps.zip _) = some y from e) with z | z
        · obtain ⟨rfl, rfl⟩ := z
          exact ⟨v, h0 _ _ _ fun hm => (List.nodup_cons.mp hn).1 (zip_names ps vs x hm), a⟩
        · obtain ⟨m', e'⟩ := h1 p v (ps.zip vs) m z.1
          exact (ih ps m' (List.nodup_cons.mp hn).2 z.2).imp fun zz g => ⟨e'.trans g.1, g.2⟩) r
theorem bindL_has {h : Heap} {μ : AMap} {kindOf : Str → Option NameKind} {x : Str} {y : V} (hk : kindOf x = some .local) (ps : List Str) (args : List V) (vs : List Value) (m : Str → Option Value) (r : VRs h μ args vs) (hn : ps.Nodup) :
    (ps.zip args).lookup x = some y → ∃ v, bindL kindOf (ps.zip vs) m x = some v ∧ VR h μ y v :=
  bind_has (bindL kindOf) (fun bs m v hm => by
    unfold bindL
    rw [bindL_not _ _ hm, if_pos hk]
    exact if_pos rfl) (fun n v bs m zz => ⟨_, rfl⟩) r ps m hn
theorem bindC_has {h : Heap} {μ : AMap} {kindOf : Str → Option NameKind} {x : Str} {y : V} (hk : kindOf x ≠ some .local) (ps : List Str) (args : List V) (vs : List Value) (m : Str → Option Value) (r : VRs h μ args vs) (hn : ps.Nodup) :
    (ps.zip args).lookup x = some y → ∃ v, bindC kindOf (ps.zip vs) m x = some v ∧ VR h μ y v :=
  bind_has (bindC kindOf) (fun bs m v hm => by
    unfold bindC
    rw [bindC_not _ _ hm, if_neg hk]
    exact if_pos rfl) (fun n v bs m zz => ⟨_, rfl⟩) r ps m hn
theorem len_cons {α : Type} {n : Nat} {l : List α} (h : l.length = n + 1) : ∃ a r, l = a :: r ∧ r.length = n := by
  cases l with
  | nil => cases h
  | cons a r => exact ⟨a, r, rfl, Nat.succ.inj h⟩
theorem len_1 {α : Type} {l : List α} (h : l.length = 1) : ∃ a, l = [a] := (len_cons h).imp fun a z => z.elim fun r z => z.1.trans (congrArg (a :: ·) (List.length_eq_zero_iff.mp z.2))
theorem len_2 {α : Type} {l : List α} (h : l.length = 2) : ∃ a b, l = [a, b] := (len_cons h).imp fun a z => z.elim fun r z => (len_1 z.2).imp fun b e => z.1.trans (congrArg (a :: ·) e)
theorem len_3 {α : Type} {l : List α} (h : l.length = 3) : ∃ a b c, l = [a, b, c] := (len_cons h).imp fun a z => z.elim fun r z => (len_2 z.2).imp fun b => Exists.imp fun c e => z.1.trans (congrArg (a :: ·) e)
theorem len_4 {α : Type} {l : List α} (h : l.length = 4) : ∃ a b c d, l = [a, b, c, d] := (len_cons h).imp fun a z => z.elim fun r z => (len_3 z.2).imp fun b => Exists.imp fun c => Exists.imp fun d e => z.1.trans (congrArg (a :: ·) e)
theorem len_5 {α : Type} {l : List α} (h : l.length = 5) : ∃ a b c d e, l = [a, b, c, d, e] := (len_cons h).imp fun a z => z.elim fun r z => (len_4 z.2).imp fun b => Exists.imp fun c => Exists.imp fun d => Exists.imp fun f e => z.1.trans (congrArg (a :: ·) e)
theorem len_6 {α : Type} {l : List α} (h : l.length = 6) : ∃ a b c d e f, l = [a, b, c, d, e, f] := (len_cons h).imp fun a z => z.elim fun r z => (len_5 z.2).imp fun b => Exists.imp fun c => Exists.imp fun d => Exists.imp fun f => Exists.imp fun g e => z.1.trans (congrArg (a :: ·) e)
theorem pair_apart {cs : List (Str × Addr)} (hp : cs.Pairwise fun x y => x.2 ≠ y.2) {x y : Str} {a b : Addr} (ha : cs.lookup x = some a) (hb : cs.lookup y = some b) (hxy : x ≠ y) : a ≠ b := by
  induction cs with
  | nil => cases ha
  | cons p r ih =>
    have hp' := List.pairwise_cons.mp hp
    rcases lk_or ha with z | z <;> rcases lk_or hb with w | w
    · exact absurd (z.1.trans w.1.symm) hxy
    · exact z.2 ▸ hp'.1 _ (mem_of_lookup w.2)
    · exact w.2 ▸ (hp'.1 _ (mem_of_lookup z.2)).symm
    · exact ih hp'.2 z.2 w.2
section
variable {c : Ctx} {d : Nat} {env : Env} {lk : Loc} {σ : Sto} {pos : Pos} {QX : Fl → Loc → Sto → Prop} {Q : V → Sto → Prop}
noncomputable def RetOk (Q : V → Sto → Prop) (fl : Fl) (_ : Loc) (σ : Sto) : Prop := match fl with
  | .ret y => Q y σ
  | .next => Q .none σ
  | _ => False
noncomputable def CodeOk (c : Ctx) (d : Nat) (f : Value) (args : List V) (σ : Sto) (Q : V → Sto → Prop) : Prop :=
  ∀ A s μ vs R, AOk A d → HR c s.heap μ σ → VRs s.heap μ args vs →
    (∀ v s' y σ' μ', Q y σ' → HR c s'.heap μ' σ' → VR s'.heap μ' y v → Step (fun zz => False) μ μ' s s' → R (.ok (.ret v)) s') → codeAny c.M A (.call f ⟨vs, []⟩) R s
theorem CodeOk.call {f : Value} {args : List V} (h : CodeOk c d f args σ Q) : CallOk c d f args σ Q :=
  fun A s μ vs Qr Er ok r hv q => wpAny_call (h A s μ vs _ ok r hv q)
theorem frame_post {Qr : Flow → Shared → Prop} {R : Value → Shared → Prop} {s s₁ : Shared} {μ : AMap} (hr : ∀ v s', R v s' → Qr (.ret v) s') (hn : ∀ s', R .none s' → Qr .next s') (fresh : ∀ b, own env b → s.heap.get? b = none) (st0 : Step (own env) μ μ s s₁)
    (q : ∀ v s' y σ' μ', Q y σ' → HR c s'.heap μ' σ' → VR s'.heap μ' y v → Step (fun zz => False) μ μ' s s' → R v s') : FlPost c env μ s₁ (RetOk Q) Qr := by
  intro fl s' z lk' σ' μ' hq r' f' v' st
  have st' := st0.trans st
  have stF : Step (fun zz => False) μ μ' s s' := { st' with keep := fun b o hf zz e => st'.keep b o hf (fun ho => nomatch ((fresh b ho).symm.trans e : none = some o)) e }
  cases z with
  | next => cases fl <;> first | exact v'.elim | exact hn _ (q .none s' .none σ' μ' hq r' .none stF)
  | brk => exact hq.elim
  | cont => exact hq.elim
  | ret y => cases fl <;> first | exact v'.elim | exact hr _ _ (q _ s' y σ' μ' hq r' v' stF)
theorem codeOk_def {a : Addr} {oc : Value} {od : Option Addr} {osl : Array (Option Value)} {name qual : Str} {params : Arguments} {body : List Stmt} {scope : Scope} {dV kV doc pm cdv ct : Value} {an : Option Addr} {ps : List Str} {args : List V}
    (ho : c.K.lookup a = some ⟨oc, od, .func (fnOf name qual params body scope dV kV doc pm an cdv ct), osl⟩) (hcd : codeIn c.K cdv qual = true)
    (hlen : args.length = ps.length)
    (hbind : ∀ vs : List Value, vs.length = ps.length → bindArgs (fnOf name qual params body scope dV kV doc pm an cdv ct) ⟨vs, []⟩ = pure (ps.zip vs))
    (hnd : ps.Nodup) (hps : ∀ x ∈ ps, scope.names.lookup x = some .local ∨ scope.names.lookup x = some .cell) (hfree : ∀ p ∈ scope.names, p.2 ≠ .free)
    (hkind : scope.kind = .function) (hco : scope.isCoroutine = false) (hgen : scope.isGenerator = false)
    (h : ∀ L, OkB c d (envOfC qual scope L a cdv) body (ps.zip args) σ (RetOk Q)) : CodeOk c (d + 1) (.ref a) args σ Q := by
  intro A s μ vs R ok r hv q
  have hoh := r.K _ _ ho
  have hvl : vs.length = ps.length := by rw [← hv.length]; exact hlen
  refine codeAny_call_cells (binds := ps.zip vs) ok.room hoh rfl r.nolimit (codeRec_of r.K hcd) rfl (hbind vs hvl) rfl (fun x hx => ?_) (fun s₁ IC => ?_) hco hgen hkind
  · exact (hps _ (zip_names ps vs x.1 (List.mem_map_of_mem hx))).imp id fun e => ⟨e, cellsFrom_some _ _ _ (.inl e)⟩
  · have keep := IC.toInCall.keep
    have sm : s₁.gens = s.gens ∧ s₁.os = s.os := IC.toInCall.same.elim fun zz z => z.elim fun zz z => ⟨z ▸ rfl, z ▸ rfl⟩
    let env₁ := callEnvC (fnOf name qual params body scope dV kV doc pm an cdv ct) s.heap.objs.size a
    have above : ∀ x b, env₁.cells.lookup x = some b → s.heap.objs.size < b := fun x b hb => IC.above x b (mem_of_lookup hb)
    have v₁ : VRs s₁.heap μ args vs := hv.at (.all keep)
    have f₁ : FR c env₁ (ps.zip args) s₁.heap μ :=
      { kind := hkind
        globals := rfl
        builtins := rfl
        above := r.size
        frzL := frz_size r
        ns := ⟨_, IC.toInCall.ns, fun x y hx hy => bindL_has hx ps args vs _ v₁ hnd hy⟩
        cell := fun x b hb => ⟨Nat.ne_of_gt (above x b hb), frz_none r (none_ge (Nat.le_of_lt (above x b hb))), none_base r (none_ge (Nat.le_of_lt (above x b hb))), _, IC.cell x b hb, fun y hk hy => bindC_has (fun e => hk.elim (fun hk => nomatch (hk.symm.trans e : some NameKind.cell = some .local)) fun hk => nomatch (hk.symm.trans e : some NameKind.free = some .local)) ps args vs _ v₁ hnd hy⟩
        cells := fun x hx => hx.elim (fun hx => Option.isSome_iff_exists.mp (cellsFrom_some _ _ _ (.inl hx))) fun hx => absurd rfl (hfree _ (mem_of_lookup' hx))
        apart := fun x y b b' hb hb' hxy => pair_apart IC.apart hb hb' hxy }
    exact h s.heap.objs.size (A.deeper env₁) s₁ μ _ _ ok.deeper (r.keep keep) f₁ (frame_post (R := fun v s' => R (.ok (.ret v)) s') (fun zz zz h => h) (fun zz h => h) (fun b o => o.elim (fun (e : b = s.heap.objs.size) => e ▸ none_size _) fun z => z.elim fun x hx => none_ge (Nat.le_of_lt (above x b hx))) (Step.ofKeep keep sm.1 sm.2) q)
end
-- C10
theorem nsFind_list (es : List DictEntry) (x : Str) : nsFind es.toArray x = (es.find? fun e => e.key.isStr x).map (·.val) := by
  simp [nsFind, findBy, List.find?_toArray]
theorem ns_getL {es : List DictEntry} (hk : StrKeys es.toArray) (x : Str) : getL x es = some (nsFind es.toArray x) := by
  rw [nsFind_list]
  unfold getL
  cases he : es.find? (·.key.isStr x) with
  | some e => rfl
  | none =>
    have : es.any (·.refKey) = false := by
      rw [List.any_eq_false]
      intro e hm
      obtain ⟨n, t, h⟩ := hk e (by simpa using hm)
      simp [DictEntry.refKey, h]
    rw [this]; rfl
theorem isStr_str (x y : Str) (t : Tok) : (Value.str y t).isStr x = decide (x = y) := by
  show (y == x) = decide (x = y)
  by_cases h : x = y
  · subst h; simp
  · have : ¬ y = x := fun e => h e.symm
    simp [h, this]
theorem ns_putL (name : Str) (hsh : Int) (tk : Tok) (v : Value) (x : Str) : ∀ es : List DictEntry, nsFind (putL name hsh (.str name tk) v es).toArray x = if x = name then some v else nsFind es.toArray x
  | [] => by
    rw [nsFind_list, nsFind_list]
    unfold putL
    simp only [List.find?_cons, isStr_str]
    by_cases h : x = name <;> simp [h]
  | e :: r => by
    have ih := ns_putL name hsh tk v x r
    rw [nsFind_list] at ih ⊢
    rw [nsFind_list] at ih ⊢
    unfold putL
    by_cases he : e.key.isStr name = true
    · rw [if_pos he]
      simp only [List.find?_cons]
      by_cases h : x = name
      · subst h; simp [he]
      · have : e.key.isStr x = false := by
          cases hh : e.key.isStr x
          · rfl
          · exact absurd (Value.isStr_inj _ _ _ hh he) h
        simp [this, h]
    · rw [if_neg he]
      simp only [List.find?_cons]
      cases hx : e.key.isStr x with
      | false => simpa using ih
      | true =>
        have : x ≠ name := by rintro rfl; exact he hx
        simp [this]
theorem putL_keys {name : Str} {hsh : Int} {tk : Tok} {v : Value} : ∀ {es : List DictEntry}, StrKeys es.toArray → StrKeys (putL name hsh (.str name tk) v es).toArray
  | [], _ => by
    intro e he
    simp only [putL, List.mem_toArray, List.mem_cons, List.not_mem_nil, or_false] at he
    subst he
    exact ⟨name, tk, rfl⟩
  | a :: r, hk => by
    intro e he
    unfold putL at he
    split at he
    · simp only [List.mem_toArray, List.mem_cons] at he
      rcases he with rfl | he
      · exact hk a (by simp)
      · exact hk e (by simp [he])
    · simp only [List.mem_toArray, List.mem_cons] at he
      rcases he with rfl | he
      · exact hk _ (by simp)
      · exact putL_keys (es := r) (fun e he => hk e (by simp only [List.mem_toArray] at he ⊢; exact .tail _ he)) e (by simpa using he)
theorem putL_length {name : Str} {hsh : Int} {key v : Value} : ∀ {es : List DictEntry}, (putL name hsh key v es).length ≤ es.length + 1
  | [] => by simp [putL]
  | a :: r => by
    unfold putL
    split
    · simp
    · have := putL_length (name := name) (hsh := hsh) (key := key) (v := v) (es := r)
      simp only [List.length_cons]; lcg_off
theorem putL_length_old {name : Str} {hsh : Int} {key v : Value} : ∀ {es : List DictEntry}, (nsFind es.toArray name).isSome = true → (putL name hsh key v es).length = es.length
  | [], h => by rw [nsFind_list] at h; simp at h
  | a :: r, h => by
    unfold putL
    by_cases ha : a.key.isStr name = true
    · rw [if_pos ha]; simp
    · rw [if_neg ha]
      have : (nsFind r.toArray name).isSome = true := by
        rw [nsFind_list] at h ⊢
        simpa [List.find?_cons, ha] using h
      simp [putL_length_old this]
structure ClsF (K : Frag) (C : Addr) : Prop where
  ga : findIn K (.ref C) "__getattribute__" = some (some (.builtin "object.__getattribute__"))
  gt : findIn K (.ref C) "__getattr__" = some none
  sa : findIn K (.ref C) "__setattr__" = some (some (.builtin "object.__setattr__"))
  po : plainOver K C = true
  hd : (clsIn K C).any (·.hasDict) = true
section
variable {c : Ctx} {d : Nat} {env : Env} {lk : Loc} {σ : Sto} {pos : Pos} {QX : Fl → Loc → Sto → Prop} {Q : V → Sto → Prop}
theorem OR.some_of {h : Heap} {μ : AMap} {y : V} {o : Option Value} (r : OR h μ (some y) o) : ∃ v, o = some v ∧ VR h μ y v := by
  cases o with
  | none => exact r.elim
  | some v => exact ⟨v, rfl, r⟩
theorem OR.none_of {h : Heap} {μ : AMap} {o : Option Value} (r : OR h μ none o) : o = none := by
  cases o with
  | none => rfl
  | some v => exact r.elim
theorem OR.some_at {h : Heap} {μ : AMap} {y : V} {a : Option V} {o : Option Value} (r : OR h μ a o) (e : a = some y) : ∃ v, o = some v ∧ VR h μ y v := OR.some_of (e ▸ r)
theorem OR.isSome {h : Heap} {μ : AMap} {a : Option V} {o : Option Value} (r : OR h μ a o) : o.isSome = a.isSome := by
  cases a <;> cases o <;> first | rfl | exact r.elim
noncomputable def HandOk : V → Prop
  | .raw v => handedIn v = true
  | _ => True
theorem VR.handed {h : Heap} {μ : AMap} {y : V} {v : Value} (r : VR h μ y v) : HandOk y → handedIn v = true :=
  VR.rec (motive_1 := fun y v zz => HandOk y → handedIn v = true) (motive_2 := fun zz zz zz => True) (fun zz => rfl) (fun zz zz => rfl) (fun zz zz zz => rfl) (fun zz zz zz => rfl) (fun zz h => h) (fun zz zz => rfl) (fun zz zz zz zz zz => rfl) (fun zz zz zz zz zz => rfl) trivial (fun zz zz zz zz => trivial) r
theorem run_attr {C : Addr} {n k : Nat} {f : Str → Option V} {name : Str} {y : V} (hs : σ k = some (.inst C n f)) (hC : ClsF c.K C) (hn : findIn c.K (.ref C) name = some none) (hf : f name = some y) (hy : HandOk y) (h : Q y σ) :
    Run1 c d env lk σ (fun v => getAttr v name true) (.ref k) Q := by
  intro A s μ va Qr Er ok r fr hv q
  obtain ⟨p, rfl, hp⟩ := hv.ref'
  obtain ⟨hx, es, m, hd, hk, _, hr⟩ := r.cell k _ p hs hp
  obtain ⟨v, hv, hvr⟩ := OR.some_of (hf ▸ hr name)
  obtain ⟨cd, hcd, hhd⟩ := any_some hC.hd
  have I : InstAt s.heap p.1 ⟨.ref C, some p.2, .plain, #[]⟩ C (some (dictOf es m)) := ⟨hx, rfl, rfl, hd⟩
  have own : PySem.W.ownOf cd (some (dictOf es m)) name = some (some v) := by
    unfold PySem.W.ownOf
    rw [hhd, if_pos rfl]
    exact (lookIn_dict ..).trans ((ns_getL hk name).trans (congrArg some hv))
  refine get_value r.K I hC.ga (v := v) ?_ (hvr.handed hy) (q.same h r fr hvr)
  unfold findObj
  rw [hcd, Option.bind_some, hn, Option.bind_some]
  show (PySem.W.ownOf cd (some (dictOf es m)) name).bind _ = _
  rw [own]; rfl
theorem ok_attr {o : Expr} {attr : Str} (h : Ok c d env o lk σ (fun y σ' => Run1 c d env lk σ' (fun v => getAttr v attr true) y Q)) (hb : attributeBase o attr env (eval o env) = eval o env) :
    Ok c d env (.Attribute o attr pos) lk σ Q := by
  intro A s μ Qr Er ok r f q
  rw [arm_eval_Attribute, hb]
  refine wpAny_bind (h A s μ _ Er ok r f fun v s₁ y σ₁ μ₁ h₁ r₁ f₁ v₁ st₁ => wpAny_bind (wpAny_standAt (wpAny_bind (wpAny_holding ?_))))
  refine h₁ A s₁ μ₁ v _ Er ok r₁ f₁ v₁ fun u s₂ z σ₂ μ₂ h₂ r₂ f₂ v₂ st₂ => ?_
  exact wpAny_bind (wpAny_letTemporaryGo (wpAny_pure (q u s₂ z σ₂ μ₂ h₂ r₂ f₂ v₂ (st₁.trans st₂))))
theorem ok_field {o : Expr} {attr : Str} (h : Ok c d env o lk σ (fun y σ' => ∃ k C n f z, y = .ref k ∧ σ' k = some (.inst C n f) ∧ ClsF c.K C ∧ findIn c.K (.ref C) attr = some none ∧ f attr = some z ∧ HandOk z ∧ Q z σ'))
    (hb : attributeBase o attr env (eval o env) = eval o env) : Ok c d env (.Attribute o attr pos) lk σ Q :=
  ok_attr (h.mono fun y σ' hh => by
    obtain ⟨k, C, n, f, z, rfl, h1, h2, h3, h4, h5, h6⟩ := hh
    exact run_attr h1 h2 h3 h4 h5 h6) hb
theorem osa_mine {A : Around} {s : Shared} {R : Result → Shared → Prop} {x C dx : Addr} {name : Str} {tk : Tok} {v : Value} {es : List DictEntry} {n : Nat} (X : c.K.In s.heap) (hx : s.heap.get? x = some ⟨.ref C, some dx, .plain, #[]⟩) (hd : s.heap.get? dx = some (dictOf es n))
    (hk : StrKeys es.toArray) (hC : ClsF c.K C) (ht : takerIn c.K C name = some none) (hz : es.length ≤ 900)
    (h : ∀ h', h'.get? dx = some (dictOf (putL name (PyData.keyHash c.w.params name) (.str name s.toks) v es) (putN name es n)) → Heap.SameBut dx s.heap h' → R (.ok (.ret .none)) { s with heap := h', toks := s.toks + 1 }) :
    codeAny c.M A (.call (.builtin "object.__setattr__") ⟨[.ref x, .str name tk, v], []⟩) R s := by
  have I : InstAt s.heap x ⟨.ref C, some dx, .plain, #[]⟩ C (some (dictOf es n)) := ⟨hx, rfl, rfl, hd⟩
  refine osa_open X I hC.po ht fun b => ?_
  obtain ⟨cd, hc, hhd⟩ := any_some hC.hd
  refine wpAny_bind (wpAny_pure (wpAny_bind (wpAny_bind (wpAny_loadPart hx (wpAny_bind ((looks_clsIn X hc).here ?_))))))
  rw [hhd]
  refine wpAny_pure (a := some dx) (wpAny_bind (wpAny_pure (wpAny_bind ?_)))
  unfold nsSet
  refine wpAny_bind (wpAny_bind (wpAny_askSetting (wpAny_pure (wpAny_bind (wpAny_mkText (wpAny_bind (wpAny_loadPart hd ?_)))))))
  have nr : es.toArray.any (·.refKey) = false := by
    rw [Array.any_eq_false']
    intro e he
    obtain ⟨m, t, q⟩ := hk e he
    simp [DictEntry.refKey, q]
  dsimp only
  rw [aRefKeyMayBeTheName_at, nr, Bool.and_false]
  have new : (s.heap.update dx (Obj.putName name (PyData.keyHash c.w.params name) (.str name s.toks) v)).get? dx = some (dictOf (putL name (PyData.keyHash c.w.params name) (.str name s.toks) v es) (putN name es n)) := by
    rw [Heap.get?_update_self _ hd (by rw [putName_dict]; rfl), putName_dict]
  refine wpAny_updatePart hd ?_
  refine wpAny_bind (wpAny_lookBehind new (pastItsLine_dict (by
    rw [List.size_toArray, sizeLine_eq]
    exact Nat.le_trans (Nat.le_trans putL_length (Nat.succ_le_succ hz)) (by decide))) ?_)
  exact wpAny_pure (h _ new (Heap.SameBut.update ..))
theorem set_field {A : Around} {s : Shared} {μ : AMap} {Qr : Unit → Shared → Prop} {Er : Value → Shared → Prop} {C : Addr} {n n' k : Nat} {f : Str → Option V} {name : Str} {y : V} {v : Value} {p : Addr × Addr}
    (r : HR c s.heap μ σ) (fr : FR c env lk s.heap μ) (hs : σ k = some (.inst C n f)) (hp : μ.1 k = some p) (hC : ClsF c.K C) (ht : takerIn c.K C name = some none) (hv : VR s.heap μ y v) (hn : n ≤ 900) (hn' : n' = if (f name).isSome then n else n + 1)
    (q : ∀ s', HR c s'.heap μ (upd σ k (.inst C n' (fun z => if z = name then some y else f z))) → FR c env lk s'.heap μ → Step (own env) μ μ s s' → Qr () s') : wpAny c.M A (setAttr (.ref p.1) name v) Qr Er s := by
  obtain ⟨hx, es, m, hd, hk, hl, hr⟩ := r.cell k _ p hs hp
  have I : InstAt s.heap p.1 ⟨.ref C, some p.2, .plain, #[]⟩ C (some (dictOf es m)) := ⟨hx, rfl, rfl, hd⟩
  refine set_plain r.K I hC.sa ?_
  refine osa_mine (s := { s with toks := s.toks + 1 }) (tk := s.toks) r.K hx hd hk hC ht (Nat.le_trans hl hn) fun h' hd' hs' => ?_
  have hne : p.1 ≠ p.2 := fun e => nomatch (congrArg Obj.data (some_ne hx ((congrArg s.heap.get? e).trans hd)) : Data.plain = .dict _ _)
  have kp : ∀ b o, s.heap.get? b = some o → Frz μ b → h'.get? b = some o ∧ Frz μ b := fun b o e fz => ⟨(hs'.2 b (fz.1 k p hp).2).trans e, fz⟩
  have K : Kp s.heap h' μ μ := .of kp fun zz zz e => e
  have z := HR.write (X := own env) (s' := { s with heap := h', toks := s.toks + 1 + 1 }) (x' := .inst C n' (fun z => if z = name then some y else f z)) r hs hp (fun b o hb e => (hs'.2 b hb).trans e) ⟨_, hd'⟩ rfl rfl (fun zz zz => by
    refine ⟨(hs'.2 p.1 hne).trans hx, _, _, hd', putL_keys hk, ?_, fun z => ?_⟩
    · rw [hn']
      by_cases q : (f name).isSome = true
      · rw [if_pos q, putL_length_old ((hr name).isSome.trans q)]; exact hl
      · rw [if_neg q]; exact Nat.le_trans putL_length (Nat.succ_le_succ hl)
    · show OR h' μ (if z = name then some y else f z) _
      rw [ns_putL]
      by_cases q : z = name
      · rw [if_pos q, if_pos q]; exact hv.at K
      · rw [if_neg q, if_neg q]; exact (hr z).at K)
  exact q _ z.1 (fr.at K fun a o zz fz e => kp a o e fz) z.2
theorem oka_field {o : Expr} {attr : Str} {y : V} {QA : Loc → Sto → Prop} (h : Ok c d env o lk σ (fun z σ' => ∃ k C n f, z = .ref k ∧ σ' k = some (.inst C n f) ∧ ClsF c.K C ∧ takerIn c.K C attr = some none ∧ n ≤ 900 ∧
      QA lk (upd σ' k (.inst C (if (f attr).isSome then n else n + 1) (fun z => if z = attr then some y else f z))))) : OkA c d env (.Attribute o attr pos) y lk σ QA := by
  intro A s μ v Qr Er ok r f hv q
  rw [assign_Attribute]
  refine wpAny_bind (wpAny_holding (h A s μ _ Er ok r f fun vo s₁ z σ₁ μ₁ h₁ r₁ f₁ v₁ st₁ => wpAny_bind (wpAny_standAt (wpAny_bind (wpAny_holding ?_)))))
  obtain ⟨k, C, n, g, rfl, hs, hC, ht, hn, hq⟩ := h₁
  obtain ⟨p, rfl, hp⟩ := v₁.ref'
  exact set_field r₁ f₁ hs hp hC ht (hv.step st₁) hn rfl fun s₂ r₂ f₂ st₂ => wpAny_release (q s₂ lk _ μ₁ hq r₂ f₂ (st₁.trans st₂))
end
-- C11
section
variable {c : Ctx} {d : Nat} {env : Env} {lk : Loc} {σ : Sto} {pos : Pos} {QX : Fl → Loc → Sto → Prop} {Q : V → Sto → Prop}
theorem run_ii {t : Value → Value → Sem Value} {a b : Int} (h : ∀ A s μ ta tb Qr Er, AOk A d → HR c s.heap μ σ → FR c env lk s.heap μ → ValPost c env lk μ s Q Qr → wpAny c.M A (t (.int a ta) (.int b tb)) Qr Er s) : Run2 c d env lk σ t (.int a) (.int b) Q :=
  fun A s μ va vb Qr Er ok r f ha hb q => ha.int'.elim fun ta ea => hb.int'.elim fun tb eb => ea ▸ eb ▸ h A s μ ta tb Qr Er ok r f q
theorem run_add {a b : Int} (h : Q (.int (a + b)) σ) : Run2 c d env lk σ (binaryOp .Add) (.int a) (.int b) Q :=
  run_ii fun A s μ ta tb Qr Er ok r f q => P.add_int (q.same h r f (.int _ _))
theorem run_iadd {a b : Int} (h : Q (.int (a + b)) σ) : Run2 c d env lk σ (inplaceOp .Add) (.int a) (.int b) Q :=
  run_ii fun A s μ ta tb Qr Er ok r f q => wpAny_iadd_int (q.same h r f (.int _ _))
theorem run_sub {a b : Int} (h : Q (.int (a - b)) σ) : Run2 c d env lk σ (binaryOp .Sub) (.int a) (.int b) Q :=
  run_ii fun A s μ ta tb Qr Er ok r f q => PyProof.Rows.sub_int (q.same h r f (.int _ _))
theorem run_mul {a b : Int} (hm : IntMulOk a b) (h : Q (.int (a * b)) σ) : Run2 c d env lk σ (binaryOp .Mult) (.int a) (.int b) Q :=
  run_ii fun A s μ ta tb Qr Er ok r f q => AutoIntOps.mul_0 (q.same h r f (.int _ _)) hm
theorem run_mod {a b : Int} (hb0 : b ≠ 0) (h : Q (.int (a.fmod b)) σ) : Run2 c d env lk σ (binaryOp .Mod) (.int a) (.int b) Q :=
  run_ii fun A s μ ta tb Qr Er ok r f q => mod_int' hb0 (q.same h r f (.int _ _))
theorem run_lshift {a n : Int} (h0 : 0 ≤ n) (h1 : n ≤ 1000000) (ha' : a.natAbs < 2 ^ 64) (h : Q (.int (a * 2 ^ n.toNat)) σ) : Run2 c d env lk σ (binaryOp .LShift) (.int a) (.int n) Q :=
  run_ii fun A s μ ta tb Qr Er ok r f q => lshift_int_small h0 h1 ha' (q.same h r f (.int _ _))
theorem run_neg {a : Int} (h : Q (.int (-a)) σ) : Run1 c d env lk σ (unaryOp .USub) (.int a) Q := by
  intro A s μ va Qr Er ok r f ha q
  exact ha.int'.elim fun zz e => e ▸ neg_int (q.same h r f (.int _ _))
theorem run_lt {a b : Int} (h : Q (.bool (decide (a < b))) σ) : Run2 c d env lk σ (compareOp .Lt) (.int a) (.int b) Q :=
  run_ii fun A s μ ta tb Qr Er ok r f q => PyProof.Rows.lt_int (q.now h r f (.bool _))
theorem run_le {a b : Int} (h : Q (.bool (decide (a ≤ b))) σ) : Run2 c d env lk σ (compareOp .LtE) (.int a) (.int b) Q :=
  run_ii fun A s μ ta tb Qr Er ok r f q => PyProof.Rows.le_int (q.now h r f (.bool _))
theorem run_gt {a b : Int} (h : Q (.bool (decide (b < a))) σ) : Run2 c d env lk σ (compareOp .Gt) (.int a) (.int b) Q :=
  run_ii fun A s μ ta tb Qr Er ok r f q => PyProof.Rows.gt_int (q.now h r f (.bool _))
theorem run_ge {a b : Int} (h : Q (.bool (decide (b ≤ a))) σ) : Run2 c d env lk σ (compareOp .GtE) (.int a) (.int b) Q :=
  run_ii fun A s μ ta tb Qr Er ok r f q => PyProof.Rows.ge_int (q.now h r f (.bool _))
theorem run_eq {a b : Int} (h : Q (.bool (decide (a = b))) σ) : Run2 c d env lk σ (compareOp .Eq) (.int a) (.int b) Q :=
  run_ii fun A s μ ta tb Qr Er ok r f q => PyProof.Rows.eq_int (q.now h r f (.bool _))
theorem run_ne {a b : Int} (h : Q (.bool (!decide (a = b))) σ) : Run2 c d env lk σ (compareOp .NotEq) (.int a) (.int b) Q :=
  run_ii fun A s μ ta tb Qr Er ok r f q => PyProof.Rows.ne_int (q.now h r f (.bool _))
theorem run_eqs {a b : Str} (h : Q (.bool (a == b)) σ) : Run2 c d env lk σ (compareOp .Eq) (.str a) (.str b) Q :=
  fun A s μ va vb Qr Er ok r f ha hb q => ha.str'.elim fun ta ea => hb.str'.elim fun tb eb => ea ▸ eb ▸ PyProof.Rows.eq_str (q.now h r f (.bool _))
noncomputable def isNone : V → Option Bool
  | .none => some true
  | .raw _ => none
  | _ => some false
theorem VR.isNone {h : Heap} {μ : AMap} {x : V} {v : Value} {t : Bool} (r : VR h μ x v) (e : Mine.isNone x = some t) : (v == Value.none) = t :=
  VR.rec (motive_1 := fun x v zz => ∀ t, Mine.isNone x = some t → (v == Value.none) = t) (motive_2 := fun zz zz zz => True) (fun zz e => Option.some.inj e) (fun zz zz e => Option.some.inj e) (fun zz zz zz e => Option.some.inj e) (fun zz zz zz e => Option.some.inj e) (fun zz zz e => nomatch e)
    (fun zz zz e => Option.some.inj e) (fun zz zz zz zz zz e => Option.some.inj e) (fun zz zz zz zz zz e => Option.some.inj e) trivial (fun zz zz zz zz => trivial) r t e
theorem run_isNone {a : V} {t : Bool} (ht : isNone a = some t) (h : Q (.bool t) σ) : Run2 c d env lk σ (compareOp .Is) a .none Q := fun A s μ va vb Qr Er ok r f ha hb q => by
  rw [hb.none']
  exact is_none (ha.isNone ht ▸ q.now h r f (.bool _))
mutual
noncomputable def V.py : V → PyData
  | .none => .none
  | .int i => .int i
  | .str x => .str x
  | .tup xs => .tuple (pys xs)
  | .lst xs => .list (pys xs)
  | _ => .none
noncomputable def pys : List V → List PyData
  | [] => []
  | x :: xs => x.py :: pys xs
end
mutual
noncomputable def V.plain : Nat → V → Bool
  | _, .none => true
  | _, .int _ => true
  | _, .str x => PyData.strOk x
  | n + 1, .tup xs => plains n xs
  | n + 1, .lst xs => plains n xs
  | _, _ => false
noncomputable def plains : Nat → List V → Bool
  | _, [] => true
  | n, x :: xs => x.plain n && plains n xs
end
theorem plain_lst {n : Nat} {xs : List V} : V.plain (n + 1) (.lst xs) = plains n xs := rfl
theorem plains_nil {n : Nat} : plains n [] = true := by cases n <;> rfl
theorem plains_cons {n : Nat} {x : V} {xs : List V} : plains n (x :: xs) = (x.plain n && plains n xs) := by cases n <;> rfl
theorem pl_no {n : Nat} {x : V} {p : Prop} (hx : V.plain 0 x = false) (hs : ∀ n, V.plain (n + 1) x = false) (h : x.plain n = true) : p := by
  cases n with
  | zero => exact absurd (hx.symm.trans h) Bool.false_ne_true
  | succ n => exact absurd ((hs n).symm.trans h) Bool.false_ne_true
theorem pl_tup {n : Nat} {xs : List V} (h : (V.tup xs).plain n = true) : ∃ m, n = m + 1 ∧ plains m xs = true := by
  cases n with
  | zero => exact absurd h Bool.false_ne_true
  | succ n => exact ⟨n, rfl, h⟩
theorem pl_lst {n : Nat} {xs : List V} (h : (V.lst xs).plain n = true) : ∃ m, n = m + 1 ∧ plains m xs = true := by
  cases n with
  | zero => exact absurd h Bool.false_ne_true
  | succ n => exact ⟨n, rfl, h⟩
theorem pl_str {n : Nat} {x : Str} (h : (V.str x).plain n = true) : PyData.strOk x = true := by cases n <;> exact h
theorem pl_and {n : Nat} {x : V} {xs : List V} (h : plains n (x :: xs) = true) : x.plain n = true ∧ plains n xs = true := Bool.and_eq_true_iff.mp (by cases n <;> exact h)
theorem VR.reads {h : Heap} {μ : AMap} {n : Nat} {x : V} {v : Value} (hp : x.plain n = true) (r : VR h μ x v) : ∃ as, Reads h v x.py as :=
  VR.rec (motive_1 := fun x v zz => ∀ n, x.plain n = true → ∃ as, Reads h v x.py as) (motive_2 := fun xs vs zz => ∀ n, plains n xs = true → ∃ as, ReadsAll h vs (pys xs) as)
    (fun zz zz => ⟨_, Reads.none⟩) (fun zz zz h => pl_no rfl (fun zz => rfl) h) (fun i t zz zz => ⟨_, Reads.int i t⟩) (fun x t zz zz => ⟨_, Reads.str x t⟩) (fun zz zz h => pl_no rfl (fun zz => rfl) h) (fun zz zz h => pl_no rfl (fun zz => rfl) h)
    (fun ho zz zz ih zz h => (pl_tup h).elim fun m z => (ih m z.2).elim fun as q => ⟨as, reads_tuple_at ho rfl rfl q⟩) (fun ho zz zz ih zz h => (pl_lst h).elim fun m z => (ih m z.2).elim fun as q => ⟨_, reads_list_at ho rfl rfl q⟩)
    (fun zz zz => ⟨_, ReadsAll.nil⟩) (fun zz zz i1 i2 n h => (i1 n (pl_and h).1).elim fun zz q => (i2 n (pl_and h).2).elim fun zz p => ⟨_, ReadsAll.cons q p⟩) r n hp
theorem VRs.reads {h : Heap} {μ : AMap} {n : Nat} {xs : List V} {vs : List Value} (hp : plains n xs = true) (r : VRs h μ xs vs) : ∃ as, ReadsAll h vs (pys xs) as :=
  VRs.ind (P := fun xs vs => plains n xs = true → ∃ as, ReadsAll h vs (pys xs) as) (fun zz => ⟨_, ReadsAll.nil⟩) (fun a zz ih h => (a.reads (pl_and h).1).elim fun zz q => (ih (pl_and h).2).elim fun zz p => ⟨_, ReadsAll.cons q p⟩) r hp
theorem V.lay (n : Nat) (x : V) (h : x.plain n = true) : x.py.canLay0 = true ∧ x.py.depth ≤ n :=
  V.rec (motive_1 := fun x => ∀ n, x.plain n = true → x.py.canLay0 = true ∧ x.py.depth ≤ n) (motive_2 := fun xs => ∀ n, plains n xs = true → PyData.canLayAll0 (pys xs) = true ∧ PyData.depthAll (pys xs) ≤ n)
    (fun n zz => ⟨rfl, Nat.zero_le _⟩) (fun zz n h => pl_no rfl (fun zz => rfl) h) (fun zz n zz => ⟨rfl, Nat.zero_le _⟩) (fun zz n h => ⟨pl_str h, Nat.zero_le _⟩)
    (fun zz ih n h => (pl_tup h).elim fun m z => ⟨(ih m z.2).1, z.1 ▸ Nat.succ_le_succ (ih m z.2).2⟩) (fun zz ih n h => (pl_lst h).elim fun m z => ⟨(ih m z.2).1, z.1 ▸ Nat.succ_le_succ (ih m z.2).2⟩)
    (fun zz n h => pl_no rfl (fun zz => rfl) h) (fun zz n h => pl_no rfl (fun zz => rfl) h) (fun n zz => ⟨rfl, Nat.zero_le _⟩) (fun zz zz i1 i2 n h => ⟨Bool.and_eq_true_iff.mpr ⟨(i1 n (pl_and h).1).1, (i2 n (pl_and h).2).1⟩, Nat.max_le.mpr ⟨(i1 n (pl_and h).1).2, (i2 n (pl_and h).2).2⟩⟩) x n h
theorem lays (n : Nat) (xs : List V) (h : plains n xs = true) : PyData.canLayAll0 (pys xs) = true ∧ PyData.depthAll (pys xs) ≤ n :=
  List.rec (motive := fun xs => plains n xs = true → PyData.canLayAll0 (pys xs) = true ∧ PyData.depthAll (pys xs) ≤ n) (fun zz => ⟨rfl, Nat.zero_le _⟩)
    (fun x zz ih h => ⟨Bool.and_eq_true_iff.mpr ⟨(V.lay n x (pl_and h).1).1, (ih (pl_and h).2).1⟩, Nat.max_le.mpr ⟨(V.lay n x (pl_and h).1).2, (ih (pl_and h).2).2⟩⟩) xs h
theorem iff_no {p q : Prop} (h : p → False) (h' : q → False) : p ↔ q := ⟨fun x => (h x).elim, fun x => (h' x).elim⟩
noncomputable def V.hd : V → Nat
  | .none => 0
  | .int _ => 1
  | .str _ => 2
  | .tup _ => 3
  | .lst _ => 4
  | _ => 5
theorem no_hd {x y : V} (h : Nat.beq x.hd y.hd = false) (e : x = y) : False := Nat.ne_of_beq_eq_false h (congrArg V.hd e)
theorem V.eqv_iff (n k : Nat) (x y : V) (hx : x.plain n = true) (hy : y.plain k = true) : PyData.eqv x.py y.py = true ↔ x = y := by
  refine V.rec (motive_1 := fun x => ∀ n k y, x.plain n = true → y.plain k = true → (PyData.eqv x.py y.py = true ↔ x = y)) (motive_2 := fun xs => ∀ n k ys, plains n xs = true → plains k ys = true → (PyData.eqvAll (pys xs) (pys ys) = true ↔ xs = ys))
    (fun n k y zz hy => ?_) (fun zz n k y h => pl_no rfl (fun zz => rfl) h) (fun i n k y zz hy => ?_) (fun i n k y zz hy => ?_) (fun xs ih n k y hx hy => ?_) (fun xs ih n k y hx hy => ?_) (fun zz n k y h => pl_no rfl (fun zz => rfl) h) (fun zz n k y h => pl_no rfl (fun zz => rfl) h)
    (fun n k ys zz zz => ?_) (fun x xs i1 i2 n k ys hx hy => ?_) x n k y hx hy
  · cases y <;> first | exact ⟨fun zz => rfl, fun zz => rfl⟩ | exact iff_no Bool.false_ne_true (no_hd rfl) | exact pl_no rfl (fun zz => rfl) hy
  · cases y <;> first | exact ⟨fun h => congrArg V.int (beq_iff_eq.mp h), fun h => beq_iff_eq.mpr (V.int.inj h)⟩ | exact iff_no Bool.false_ne_true (no_hd rfl) | exact pl_no rfl (fun zz => rfl) hy
  · cases y <;> first | exact ⟨fun h => congrArg V.str (beq_iff_eq.mp h), fun h => beq_iff_eq.mpr (V.str.inj h)⟩ | exact iff_no Bool.false_ne_true (no_hd rfl) | exact pl_no rfl (fun zz => rfl) hy
  · cases y <;> first | exact (pl_tup hx).elim fun a z => (pl_tup hy).elim fun b w => (ih a b _ z.2 w.2).trans ⟨congrArg V.tup, V.tup.inj⟩ | exact iff_no Bool.false_ne_true (no_hd rfl) | exact pl_no rfl (fun zz => rfl) hy
  · cases y <;> first | exact (pl_lst hx).elim fun a z => (pl_lst hy).elim fun b w => (ih a b _ z.2 w.2).trans ⟨congrArg V.lst, V.lst.inj⟩ | exact iff_no Bool.false_ne_true (no_hd rfl) | exact pl_no rfl (fun zz => rfl) hy
  · cases ys <;> first | exact ⟨fun zz => rfl, fun zz => rfl⟩ | exact iff_no Bool.false_ne_true nofun
  · cases ys with
    | nil => exact iff_no Bool.false_ne_true nofun
    | cons y ys =>
      have e1 := i1 n k y (pl_and hx).1 (pl_and hy).1
      have e2 := i2 n k ys (pl_and hx).2 (pl_and hy).2
      exact ⟨fun h => have z := Bool.and_eq_true_iff.mp h; by rw [e1.mp z.1, e2.mp z.2], fun h => Bool.and_eq_true_iff.mpr ⟨e1.mpr (List.cons.inj h).1, e2.mpr (List.cons.inj h).2⟩⟩
theorem V.shaped {x : V} (h : x.plain 8 = true) : SeqAt.shaped x.py = true := by
  obtain ⟨h1, h2⟩ := V.lay 8 x h
  unfold SeqAt.shaped
  rw [h1, Bool.true_and]
  exact decide_eq_true (Nat.le_trans h2 (by decide))
theorem AOk.units64 {A : Around} {d : Nat} (h : AOk A d) : A.units + 64 < cLine := Nat.lt_of_lt_of_le (Nat.add_lt_add_right (Nat.lt_of_le_of_lt (Nat.le_add_right _ _) h.2.2) 64) (by decide : 9800 + 64 ≤ 9900)
theorem iff_dec {p : Prop} [Decidable p] {b : Bool} (h : b = true ↔ p) : b = decide p := by
  by_cases hq : p
  · rw [decide_eq_true hq]; exact h.mpr hq
  · rw [decide_eq_false hq]; exact Bool.eq_false_iff.mpr fun x => hq (h.mp x)
open Classical in
theorem run_eqv {a b : V} (ha' : a.plain 8 = true) (hb' : b.plain 8 = true) (h : Q (.bool (decide (a = b))) σ) : Run2 c d env lk σ (compareOp .Eq) a b Q := by
  intro A s μ va vb Qr Er ok r f ha hb q
  obtain ⟨as, ra⟩ := ha.reads ha'
  obtain ⟨bs, rb⟩ := hb.reads hb'
  refine eq_dataH ra rb (V.shaped ha') (V.shaped hb') ok.units64 ?_
  rw [iff_dec (V.eqv_iff 8 8 a b ha' hb')]; exact q.now h r f (.bool _)
theorem cell_reads {h : Heap} {μ : AMap} {k : Nat} {xs : List V} {v : Value} {n : Nat} (r : HR c h μ σ) (hs : σ k = some (.list xs)) (hp : plains n xs = true) (hv : VR h μ (.ref k) v) : ∃ as, Reads h v (V.lst xs).py as := by
  obtain ⟨p, rfl, hk⟩ := hv.ref'
  obtain ⟨_, vs, m, ho, hvs⟩ := r.cell k _ p hs hk
  exact (VRs.reads hp hvs).elim fun as q => ⟨_, reads_list_at ho rfl rfl q⟩
noncomputable def Seen (σ : Sto) (a : V) (a' : V) : Prop := a'.plain 8 = true ∧ (a = a' ∨ ∃ k xs, a = .ref k ∧ σ k = some (.list xs) ∧ a' = .lst xs)
theorem seen_reads {h : Heap} {μ : AMap} {a a' : V} {v : Value} (r : HR c h μ σ) (hs : Seen σ a a') (hv : VR h μ a v) : ∃ as, Reads h v a'.py as := by
  obtain ⟨hp, rfl | ⟨k, xs, rfl, hk, rfl⟩⟩ := hs
  · exact hv.reads hp
  · exact cell_reads (n := 7) r hk hp hv
open Classical in
theorem run_eqc {a b a' b' : V} (ha' : Seen σ a a') (hb' : Seen σ b b') (h : Q (.bool (decide (a' = b'))) σ) : Run2 c d env lk σ (compareOp .Eq) a b Q := by
  intro A s μ va vb Qr Er ok r f ha hb q
  obtain ⟨as, ra⟩ := seen_reads r ha' ha
  obtain ⟨bs, rb⟩ := seen_reads r hb' hb
  refine eq_dataH ra rb (V.shaped ha'.1) (V.shaped hb'.1) ok.units64 ?_
  rw [iff_dec (V.eqv_iff 8 8 a' b' ha'.1 hb'.1)]; exact q.now h r f (.bool _)
theorem any_eqv {x : V} {k n : Nat} {xs : List V} (h : plains n xs = true) (hx : x.plain k = true) : ((pys xs).any (fun y => PyData.eqv y x.py) = true ↔ x ∈ xs) :=
  List.rec (motive := fun xs => plains n xs = true → ((pys xs).any (fun y => PyData.eqv y x.py) = true ↔ x ∈ xs)) (fun zz => iff_no Bool.false_ne_true nofun)
    (fun y ys ih h => Bool.or_eq_true_iff.trans ((or_congr ((V.eqv_iff n k y x (pl_and h).1 hx).trans eq_comm) (ih (pl_and h).2)).trans List.mem_cons.symm)) xs h
open Classical in
theorem run_in {x : V} {xs : List V} (hx : x.plain 8 = true) (hxs : plains 8 xs = true) (h : Q (.bool (decide (x ∈ xs))) σ) : Run2 c d env lk σ (compareOp .In) x (.tup xs) Q := by
  intro A s μ va vb Qr Er ok r f ha hb q
  obtain ⟨as, ra⟩ := ha.reads hx
  obtain ⟨bs, rb⟩ := VR.reads (n := 9) (x := .tup xs) hxs hb
  refine SeqAt.in_tuple_reads rb ra (lays 8 xs hxs).1 (V.lay 8 x hx).1 ?_ (iff_dec (any_eqv hxs hx) ▸ q.now h r f (.bool _))
  have l4 := Nat.le_trans (Nat.min_le_right (PyData.depthAll (pys xs)) x.py.depth) (V.lay 8 x hx).2
  have := ok.units64
  lcg_off
end
-- C12
theorem seqIndex_in {k : Int} {n : Nat} (h0 : 0 ≤ k) (hn : k.toNat < n) : seqIndex? k n = some k.toNat := by
  unfold seqIndex?
  simp only [if_neg (Int.not_lt.mpr h0)]
  exact if_pos (Bool.and_eq_true_iff.mpr ⟨decide_eq_true h0, decide_eq_true ((Int.toNat_lt h0).mp hn)⟩)
section
variable {c : Ctx} {d : Nat} {env : Env} {lk : Loc} {σ : Sto} {pos : Pos} {QX : Fl → Loc → Sto → Prop} {Q : V → Sto → Prop}
theorem ok_item {o i : Expr} (h : Ok c d env o lk σ (fun y σ' => Ok c d env i lk σ' (fun z σ'' => Run2 c d env lk σ'' (subscriptTail o i) y z Q))) : Ok c d env (.Subscript o i pos) lk σ Q := by
  intro A s μ Qr Er ok r f q
  refine Subscript_ (h A s μ _ Er ok r f fun va s₁ a σ₁ μ₁ h₁ r₁ f₁ v₁ st₁ => ?_)
  refine h₁ A s₁ μ₁ _ Er ok r₁ f₁ fun vb s₂ b σ₂ μ₂ h₂ r₂ f₂ v₂ st₂ => ?_
  exact h₂ A s₂ μ₂ va vb Qr Er ok r₂ f₂ (v₁.step st₂) v₂ (q.after (st₁.trans st₂))
noncomputable def PlainSub (i : Expr) : Prop := ∀ a b, ∃ ops, subscripted i false a b = operate ops (getItem a b)
theorem VRs.getA {h : Heap} {μ : AMap} {xs : List V} {vs : List Value} {i : Nat} {x : V} (r : VRs h μ xs vs) (e : xs[i]? = some x) : ∃ v, vs.toArray[i]? = some v ∧ VR h μ x v :=
  (r.get e).imp fun v z => ⟨List.getElem?_toArray.trans z.1, z.2⟩
theorem item_tup {o i : Expr} {xs : List V} {k : Int} {y : V} (hs : PlainSub i) (h0 : 0 ≤ k) (hk : k < 2 ^ 62) (hy : xs[k.toNat]? = some y) (h : Q y σ) : Run2 c d env lk σ (subscriptTail o i) (.tup xs) (.int k) Q := by
  intro A s μ va vb Qr Er ok r f ha hb q
  obtain ⟨t, rfl⟩ := hb.int'
  obtain ⟨a, vs, n, rfl, ho, hf, hvs⟩ := ha.tup'
  obtain ⟨v, h1, h2⟩ := hvs.getA hy
  obtain ⟨ops, e⟩ := hs (.ref a) (.int k t)
  have hlt : k.toNat < vs.toArray.size := (Array.getElem?_eq_some_iff.mp h1).1
  exact tail_any (T := "tuple") ⟨_, ho, rfl⟩ slot_tuple_getitem.lookup (PyProof.Rows.getItem_tuple (j := k.toNat) ⟨_, ho, rfl, _, rfl⟩ (Int.le_trans (by decide) h0) (Int.lt_trans hk (by decide)) (seqIndex_in h0 hlt) h1 (q.now h r f h2)) e
theorem item_lst {o i : Expr} {xs : List V} {k : Int} {y : V} (hs : PlainSub i) (h0 : 0 ≤ k) (hk : k < 2 ^ 62) (hy : xs[k.toNat]? = some y) (h : Q y σ) : Run2 c d env lk σ (subscriptTail o i) (.lst xs) (.int k) Q := by
  intro A s μ va vb Qr Er ok r f ha hb q
  obtain ⟨t, rfl⟩ := hb.int'
  obtain ⟨a, vs, n, rfl, ho, hf, hvs⟩ := ha.lst'
  obtain ⟨v, h1, h2⟩ := hvs.getA hy
  obtain ⟨ops, e⟩ := hs (.ref a) (.int k t)
  exact tail_any (T := "list") ⟨_, ho, rfl⟩ list_getitem_lookup (wpAny_getItem_list ⟨_, ho, rfl, _, rfl⟩ h0 (Int.lt_trans hk (by decide)) h1 (q.now h r f h2)) e
theorem item_cell {o i : Expr} {j : Nat} {xs : List V} {k : Int} {y : V} (hs : PlainSub i) (hj : σ j = some (.list xs)) (h0 : 0 ≤ k) (hk : k < 2 ^ 62) (hy : xs[k.toNat]? = some y) (h : Q y σ) : Run2 c d env lk σ (subscriptTail o i) (.ref j) (.int k) Q := by
  intro A s μ va vb Qr Er ok r f ha hb q
  obtain ⟨t, rfl⟩ := hb.int'
  obtain ⟨p, rfl, hp⟩ := ha.ref'
  obtain ⟨_, vs, n, ho, hvs⟩ := r.cell j _ p hj hp
  obtain ⟨v, h1, h2⟩ := hvs.getA hy
  obtain ⟨ops, e⟩ := hs (.ref p.1) (.int k t)
  exact tail_any (T := "list") ⟨_, ho, rfl⟩ list_getitem_lookup (wpAny_getItem_list ⟨_, ho, rfl, _, rfl⟩ h0 (Int.lt_trans hk (by decide)) (by simpa using h1) (q.now h r f h2)) e
theorem item_dictI {o i : Expr} {j : Nat} {g : Int → Option V} {k : Int} {y : V} (hs : PlainSub i) (hj : σ j = some (.dictI g)) (hy : g k = some y) (h : Q y σ) : Run2 c d env lk σ (subscriptTail o i) (.ref j) (.int k) Q := by
  intro A s μ va vb Qr Er ok r f ha hb q
  obtain ⟨t, rfl⟩ := hb.int'
  obtain ⟨p, rfl, hp⟩ := ha.ref'
  obtain ⟨_, kvs, hd, hvs⟩ := r.cell j _ p hj hp
  obtain ⟨v, h1, h2⟩ := (hvs k).some_at hy
  obtain ⟨ops, e⟩ := hs (.ref p.1) (.int k t)
  exact tail_any (T := "dict") hd.typeIs slot_dict_getitem.lookup (wpAny_getItem_of (intKind_is _ _ k t) hd.mapOf h1 (q.same h r f h2)) e
theorem dict_low {h : Heap} {μ : AMap} (r : HR c h μ σ) (hlow : 3 < c.H0.objs.size) {k : Nat} {p : Addr × Addr} (hp : μ.1 k = some p) : (p.1 == sysModules) = false := by
  exact beq_eq_false_iff_ne.mpr fun q => absurd (Nat.lt_of_lt_of_le hlow (Nat.le_trans (r.above k p hp).1 (Nat.le_of_eq q))) (by decide : ¬ 3 < 1)
theorem run_notInI {j : Nat} {g : Int → Option V} {k : Int} (hlow : 3 < c.H0.objs.size) (hj : σ j = some (.dictI g)) (h : Q (.bool (!(g k).isSome)) σ) : Run2 c d env lk σ (compareOp .NotIn) (.int k) (.ref j) Q := by
  intro A s μ va vb Qr Er ok r f ha hb q
  obtain ⟨t, rfl⟩ := ha.int'
  obtain ⟨p, rfl, hp⟩ := hb.ref'
  obtain ⟨_, kvs, hd, hvs⟩ := r.cell j _ p hj hp
  have e : (valueAt kvs k).isSome = (g k).isSome := (hvs k).isSome
  exact wpAny_notIn_of (intKind_is _ _ k t) (dict_low r hlow hp) hd.mapOf (by rw [e]; exact q.same h r f (.bool _))
noncomputable def OkP (c : Ctx) (d : Nat) (env : Env) (e : Option Expr) (lk : Loc) (σ : Sto) (Q : V → Sto → Prop) : Prop := match e with
  | none => Q .none σ
  | some e => Ok c d env e lk σ Q
theorem okp_eval {e : Option Expr} (h : OkP c d env e lk σ Q) : ∀ A s μ Qr Er, AOk A d → HR c s.heap μ σ → FR c env lk s.heap μ → ValPost c env lk μ s Q Qr → wpAny c.M A (evalPart e env) Qr Er s := by
  intro A s μ Qr Er ok r f q
  cases e with
  | none => exact wpAny_pure (q.now h r f .none)
  | some e => exact h A s μ Qr Er ok r f q
inductive Pick : V → V → V → List V → List V → Prop
  | from (a : Int) (xs : List V) : 0 ≤ a → Pick (.int a) .none .none xs (xs.drop a.toNat)
  | upto (b : Int) (xs : List V) : 0 ≤ b → Pick .none (.int b) .none xs (xs.take b.toNat)
  | rev (xs : List V) : Pick .none .none (.int (-1)) xs xs.reverse
theorem VRs.rev {h : Heap} {μ : AMap} {xs : List V} {vs : List Value} (r : VRs h μ xs vs) : VRs h μ xs.reverse vs.reverse :=
  VRs.ind (P := fun xs vs => VRs h μ xs.reverse vs.reverse) .nil (fun a zz ih => by rw [List.reverse_cons, List.reverse_cons]; exact ih.append (.cons a .nil)) r
theorem Pick.at {h : Heap} {μ : AMap} {l u t : V} {xs ys : List V} {vl vu vt : Value} {vs : Array Value} (p : Pick l u t xs ys) (hl : VR h μ l vl) (hu : VR h μ u vu) (ht : VR h μ t vt) (hx : VRs h μ xs vs.toList) :
    ∃ lo hi st, IsPart vl lo ∧ IsPart vu hi ∧ IsPart vt st ∧ st ≠ some 0 ∧ VRs h μ ys (slicePick vs lo hi st).toList :=
  Pick.rec (motive := fun l u t xs ys zz => VR h μ l vl → VR h μ u vu → VR h μ t vt → VRs h μ xs vs.toList → ∃ lo hi st, IsPart vl lo ∧ IsPart vu hi ∧ IsPart vt st ∧ st ≠ some 0 ∧ VRs h μ ys (slicePick vs lo hi st).toList)
    (fun a xs h0 hl hu ht hx => hl.int'.elim fun zz el => by
      rw [el, hu.none', ht.none']
      obtain ⟨n, rfl⟩ := Int.eq_ofNat_of_zero_le h0
      exact ⟨_, _, _, .int _ _, .none, .none, nofun, by rw [slicePick_from', List.toList_toArray]; exact hx.drop n⟩)
    (fun b xs h0 hl hu ht hx => hu.int'.elim fun zz eu => by
      rw [hl.none', eu, ht.none']
      obtain ⟨n, rfl⟩ := Int.eq_ofNat_of_zero_le h0
      exact ⟨_, _, _, .none, .int _ _, .none, nofun, by rw [slicePick_upto', List.toList_toArray]; exact hx.take n⟩)
    (fun xs hl hu ht hx => ht.int'.elim fun zz et => by
      rw [hl.none', hu.none', et]
      exact ⟨_, _, _, .none, .none, .int _ _, nofun, by rw [krv_pick, List.toList_toArray]; exact hx.rev⟩) p hl hu ht hx
noncomputable def AsList (σ : Sto) (y : V) (xs : List V) : Prop := y = .lst xs ∨ ∃ k, y = .ref k ∧ σ k = some (.list xs)
theorem AsList.at {h : Heap} {μ : AMap} {y : V} {xs : List V} {v : Value} (r : HR c h μ σ) (hv : VR h μ y v) (a : AsList σ y xs) : ∃ b vs n, v = .ref b ∧ h.get? b = some (lstO vs n) ∧ VRs h μ xs vs.toList := by
  rcases a with rfl | ⟨k, rfl, hk⟩
  · exact hv.lst'.imp fun a z => z.elim fun vs z => ⟨vs.toArray, z.imp fun n z => ⟨z.1, z.2.1, z.2.2.2⟩⟩
  · exact hv.ref'.elim fun p z => ⟨p.1, (r.cell k _ p hk z.2).2.imp fun vs w => w.imp fun n w => ⟨z.1, w.1, w.2⟩⟩
theorem slice_core {o : Expr} {lo up st : Option Expr} {p : Pos} {R : List V → Sto → Prop} {A : Around} {s : Shared} {μ : AMap} {Qr : Value → Shared → Prop} {Er : Value → Shared → Prop} (ok : AOk A d) (r : HR c s.heap μ σ) (f : FR c env lk s.heap μ)
    (h : Ok c d env o lk σ (fun y σ₁ => OkP c d env lo lk σ₁ (fun l σ₂ => OkP c d env up lk σ₂ (fun u σ₃ => OkP c d env st lk σ₃ (fun t σ₄ =>
      ∃ xs ys, AsList σ₄ y xs ∧ xs.length ≤ sizeLine ∧ Pick l u t xs ys ∧ R ys σ₄)))))
    (hs : PlainSub (.Slice lo up st p))
    (q : ∀ s' σ' μ' ys vs, R ys σ' → HR c s'.heap μ' σ' → FR c env lk s'.heap μ' → VRs s'.heap μ' ys vs → Step (own env) μ μ' s s' → Qr (.ref s'.heap.objs.size) { s' with heap := s'.heap.push { cls := .type "list", data := .seq vs.toArray } }) :
    wpAny c.M A (eval (.Subscript o (.Slice lo up st p) pos) env) Qr Er s := by
  refine Subscript_ (h A s μ _ Er ok r f fun va s₁ a σ₁ μ₁ h₁ r₁ f₁ v₁ st₁ => wpAny_Slice ?_)
  refine okp_eval h₁ A s₁ μ₁ _ Er ok r₁ f₁ fun vl s₂ l σ₂ μ₂ h₂ r₂ f₂ v₂ st₂ => ?_
  refine okp_eval h₂ A s₂ μ₂ _ Er ok r₂ f₂ fun vu s₃ u σ₃ μ₃ h₃ r₃ f₃ v₃ st₃ => ?_
  refine okp_eval h₃ A s₃ μ₃ _ Er ok r₃ f₃ fun vt s₄ t σ₄ μ₄ h₄ r₄ f₄ v₄ st₄ => ?_
  obtain ⟨xs, ys, hx, hxl, hp, hq⟩ := h₄
  obtain ⟨b, vs, n, rfl, ho, hvs⟩ := hx.at r₄ (v₁.step (st₂.trans (st₃.trans st₄)))
  obtain ⟨l', u', t', p1, p2, p3, p4, hys⟩ := hp.at (v₂.step (st₃.trans st₄)) (v₃.step st₄) v₄ hvs
  let s₅ : Shared := { s₄ with heap := s₄.heap.push { cls := .type "slice", data := .fields #[vl, vu, vt] } }
  obtain ⟨ops, e⟩ := hs (.ref b) (.ref s₄.heap.objs.size)
  have ho5 : s₅.heap.get? b = some (lstO vs n) := Heap.get?_push_of_some _ ho
  refine tail_any (s := s₅) (T := "list") ⟨_, ho5, rfl⟩ list_getitem_lookup (wpAny_getItem_list_slice (l := b) ⟨_, ho5, rfl, _, rfl⟩ (Heap.IsSliceOf.new ..) p1 p2 p3 p4 ?_ ?_) e
  · exact q s₅ σ₄ μ₄ ys (slicePick vs l' u' t').toList hq (r₄.push _) (f₄.push _) (hys.step (X := fun zz => False) (s := s₄) (s' := s₅) (Step.push _)) ((((st₁.trans st₂).trans st₃).trans st₄).trans (Step.push _))
  · exact Nat.le_trans (Nat.le_of_eq (hvs.length.trans Array.length_toList).symm) hxl
theorem ok_slice {o : Expr} {lo up st : Option Expr} {p : Pos}
    (h : Ok c d env o lk σ (fun y σ₁ => OkP c d env lo lk σ₁ (fun l σ₂ => OkP c d env up lk σ₂ (fun u σ₃ => OkP c d env st lk σ₃ (fun t σ₄ =>
      ∃ xs ys, AsList σ₄ y xs ∧ xs.length ≤ sizeLine ∧ Pick l u t xs ys ∧ Q (.lst ys) σ₄)))))
    (hs : PlainSub (.Slice lo up st p)) : Ok c d env (.Subscript o (.Slice lo up st p) pos) lk σ Q := by
  intro A s μ Qr Er ok r f q
  refine slice_core (R := fun ys σ => Q (.lst ys) σ) ok r f h hs fun s' σ' μ' ys vs hq r' f' v' st' => ?_
  refine q _ { s' with heap := s'.heap.push _ } (.lst ys) σ' μ' hq (r'.push _) (f'.push _) ?_ (st'.trans (Step.push _))
  exact .lst (Heap.get?_push_size _ rfl) (frz_size r') (v'.step (X := fun zz => False) (s' := { s' with heap := s'.heap.push _ }) (Step.push _))
theorem alloc_list {s : Shared} {μ : AMap} {ys : List V} {vs : List Value} {k : Nat} (r : HR c s.heap μ σ) (f : FR c env lk s.heap μ) (hk : σ k = none) (hv : VRs s.heap μ ys vs) :
    HR c (s.heap.push { cls := .type "list", data := .seq vs.toArray }) (mupd μ k (s.heap.objs.size, s.heap.objs.size)) (upd σ k (.list ys)) ∧
    FR c env lk (s.heap.push { cls := .type "list", data := .seq vs.toArray }) (mupd μ k (s.heap.objs.size, s.heap.objs.size)) ∧
    Step (own env) μ (mupd μ k (s.heap.objs.size, s.heap.objs.size)) s { s with heap := s.heap.push { cls := .type "list", data := .seq vs.toArray } } := by
  obtain ⟨r', st⟩ := HR.alloc (X := fun zz => False) (s' := { s with heap := s.heap.push { cls := .type "list", data := .seq vs.toArray } }) (p := (s.heap.objs.size, s.heap.objs.size)) (x := .list ys) r hk (fun zz zz e => Heap.get?_push_of_some _ e) rfl rfl r.size r.size (none_size _) (none_size _)
    (fun zz lfs => ⟨rfl, vs.toArray, 0, Heap.get?_push_size _ rfl, by simpa using lfs hv⟩)
  exact ⟨r', f.step0 st, st.mono fun zz x => x.elim⟩
theorem mupd_self {μ : AMap} {k : Nat} {p : Addr × Addr} : (mupd μ k p).1 k = some p := by show (if k = k then some p else μ.1 k) = some p; rw [if_pos rfl]
theorem ok_sliceC {o : Expr} {lo up st : Option Expr} {p : Pos}
    (h : Ok c d env o lk σ (fun y σ₁ => OkP c d env lo lk σ₁ (fun l σ₂ => OkP c d env up lk σ₂ (fun u σ₃ => OkP c d env st lk σ₃ (fun t σ₄ =>
      ∃ xs ys, AsList σ₄ y xs ∧ xs.length ≤ sizeLine ∧ Pick l u t xs ys ∧ ∀ k, σ₄ k = none → Q (.ref k) (upd σ₄ k (.list ys)))))))
    (hs : PlainSub (.Slice lo up st p)) : Ok c d env (.Subscript o (.Slice lo up st p) pos) lk σ Q := by
  intro A s μ Qr Er ok r f q
  refine slice_core (R := fun ys σ => ∀ k, σ k = none → Q (.ref k) (upd σ k (.list ys))) ok r f h hs fun s' σ' μ' ys vs hq r' f' v' st' => ?_
  obtain ⟨k, hk⟩ := r'.free
  obtain ⟨r'', f'', st''⟩ := alloc_list (lk := lk) r' f' hk v'
  exact q _ _ (.ref k) _ _ (hq k hk) r'' f'' (.ref mupd_self) (st'.trans st'')
theorem ok_listC {es : List Expr} (h : OkL c d env es lk σ (fun ys σ' => ys.length ≤ sizeLine ∧ ∀ k, σ' k = none → Q (.ref k) (upd σ' k (.list ys)))) : Ok c d env (.List es pos) lk σ Q := by
  intro A s μ Qr Er ok r f q
  refine List_ (h A s μ _ Er pos ok r f fun vs s₁ ys σ₁ μ₁ hq r₁ f₁ v₁ st₁ => ?_)
  have hl : vs.length ≤ sizeLine := by rw [← v₁.length]; exact hq.1
  refine wpAny_newObj_type (T := "list") (data := .seq vs.toArray) ?_ (by show vs.toArray.size ≤ sizeLine; rw [List.size_toArray]; exact hl)
  obtain ⟨k, hk⟩ := r₁.free
  obtain ⟨r'', f'', st''⟩ := alloc_list (lk := lk) r₁ f₁ hk v₁
  exact q _ _ (.ref k) _ _ (hq.2 k hk) r'' f'' (.ref mupd_self) (st₁.trans st'')
theorem ok_dictS (h : ∀ k, σ k = none → Q (.ref k) (upd σ k (.dictS fun zz => none))) : Ok c d env (.Dict [] [] pos) lk σ Q := by
  intro A s μ Qr Er ok r f q
  refine wpAny_Dict_empty ?_
  obtain ⟨k, hk⟩ := r.free
  obtain ⟨r', st⟩ := HR.alloc (X := fun zz => False) (s' := { s with heap := s.heap.push { cls := .type "dict", data := .dict #[] } }) (p := (s.heap.objs.size, s.heap.objs.size)) (x := .dictS fun zz => none) r hk (fun zz zz e => Heap.get?_push_of_some _ e) rfl rfl r.size r.size (none_size _) (none_size _)
    (fun zz lfs => ⟨rfl, [], Heap.DictOf.new _, fun zz => trivial⟩)
  exact q _ _ (.ref k) _ _ (h k hk) r' (f.step0 st) (.ref mupd_self) (st.mono fun zz x => x.elim)
theorem ok_dictI (h : ∀ k, σ k = none → Q (.ref k) (upd σ k (.dictI fun zz => none))) : Ok c d env (.Dict [] [] pos) lk σ Q := by
  intro A s μ Qr Er ok r f q
  refine wpAny_Dict_empty ?_
  obtain ⟨k, hk⟩ := r.free
  obtain ⟨r', st⟩ := HR.alloc (X := fun zz => False) (s' := { s with heap := s.heap.push { cls := .type "dict", data := .dict #[] } }) (p := (s.heap.objs.size, s.heap.objs.size)) (x := .dictI fun zz => none) r hk (fun zz zz e => Heap.get?_push_of_some _ e) rfl rfl r.size r.size (none_size _) (none_size _)
    (fun zz lfs => ⟨rfl, [], Heap.DictOf.new _, fun zz => trivial⟩)
  exact q _ _ (.ref k) _ _ (h k hk) r' (f.step0 st) (.ref mupd_self) (st.mono fun zz x => x.elim)
end
-- C13
theorem setItem_plain {prog : Program} {w : World} {A : Around} {E : Value → Shared → Prop} {s : Shared} {l : Addr} {vs : Array Value} {n : Nat} {k : Int} {t : Tok} {v : Value} {Q : Unit → Shared → Prop} (ho : s.heap.get? l = some (lstO vs n)) (h0 : 0 ≤ k) (hfit : k < 2 ^ 63) (hn : k < vs.size)
    (hQ : ∀ h', h'.get? l = some (lstO (vs.setIfInBounds k.toNat v) n) → Heap.SameBut l s.heap h' → Q () { s with heap := h' }) : wpAny (model prog w) A (setItem (.ref l) (.int k t) v) Q E s := by
  have hT : s.TypeIs (.ref l) "list" := ⟨_, ho, rfl⟩
  have last : (s.heap.update l (Obj.mapSeq (·.setIfInBounds k.toNat v))).get? l = some (lstO (vs.setIfInBounds k.toNat v) n) := by
    have e : Obj.mapSeq (·.setIfInBounds k.toNat v) (lstO vs n) = lstO (vs.setIfInBounds k.toNat v) n := by
      simp [Obj.mapSeq]
    rw [Heap.get?_update_self _ ho (by rw [e]; rfl), e]
  have fin := hQ _ last (Heap.SameBut.update ..)
  clear hQ last
  unfold setItem
  try with_reducible refine wpAny_holding ?_
  first | refine wpAny_bind (wpAny_pure ?_) | skip
  refine wpAny_bind (wpAny_sequenceKey hT (by decide) ?_)
  refine wpAny_bind (wpAny_callSpecial?_slot (name := Str.ofString "__setitem__") hT PySem.slot_list_setitem
    (wpAny_call_entry PySem.slot_list_setitem hT PySem.entry_list_setitem ?_ (PySem.args_list_setitem _ _ _)))
  show wpAny _ _ (Builtin.List.listSubscript? (.int k t) >>= _) _ _ s
  refine wpAny_bind (wpAny_listSubscript_int (fitsIndex_of h0 hfit) ?_)
  clear hfit
  obtain ⟨j, rfl⟩ := Int.eq_ofNat_of_zero_le h0
  have hj : j < vs.size := by omega
  have hx' : vs[j]? = some vs[j] := Array.getElem?_eq_getElem hj
  show wpAny _ _ ((seqItemAt l j >>= fun r => pure (r.map (j, ·))) >>= _) _ _ s
  refine wpAny_bind (wpAny_bind (wpAny_seqItemAt ho rfl (wpAny_pure ?_)))
  rw [hx']
  show wpAny _ _ (setSeqItemAt l j v >>= _) _ _ s
  refine wpAny_bind (wpAny_setSeqItemAt ho rfl ?_)
  first
    | exact wpAny_bind (wpAny_pure (wpAny_pure ⟨.none, rfl, wpAny_pure fin⟩))
    | exact wpAny_pure ⟨.none, rfl, wpAny_pure fin⟩
theorem va_cons {K : Type} [DecidableEq K] (a x : K) (b : Value) (r : List (K × Value)) : valueAt ((a, b) :: r) x = if a = x then some b else valueAt r x := by
  unfold valueAt
  rw [List.find?_cons]
  by_cases h : a = x
  · rw [if_pos h, decide_eq_true h]; rfl
  · rw [if_neg h, decide_eq_false h]
theorem va_map {K : Type} [DecidableEq K] (k x : K) (v : Value) (l : List (K × Value)) : valueAt (l.map fun kv => if kv.1 = k then (kv.1, v) else kv) x = if x = k then (valueAt l x).map (fun zz => v) else valueAt l x := by
  induction l with
  | nil => exact (ite_self _).symm
  | cons p r ih =>
    rw [List.map_cons, va_cons p.1 x p.2 r]
    by_cases ha : p.1 = k
    · rw [if_pos ha, va_cons, ih]
      by_cases hx : p.1 = x
      · rw [if_pos hx, if_pos hx, if_pos (hx.symm.trans ha)]; rfl
      · rw [if_neg hx, if_neg hx]
    · rw [if_neg ha, va_cons p.1 x p.2, ih]
      by_cases hx : p.1 = x
      · rw [if_pos hx, if_pos hx, if_neg (fun e => ha (hx.trans e))]
      · rw [if_neg hx, if_neg hx]
theorem va_append {K : Type} [DecidableEq K] (k x : K) (v : Value) (l : List (K × Value)) (h : ∀ p ∈ l, ¬ p.1 = k) : valueAt (l ++ [(k, v)]) x = if x = k then some v else valueAt l x := by
  induction l with
  | nil =>
    refine (va_cons k x v []).trans ?_
    by_cases e : k = x
    · rw [if_pos e, if_pos e.symm]
    · rw [if_neg e, if_neg fun q => e q.symm]
  | cons p r ih =>
    rw [List.cons_append, va_cons p.1 x p.2, va_cons p.1 x p.2, ih fun p hp => h p (.tail _ hp)]
    by_cases hx : p.1 = x
    · rw [if_pos hx, if_pos hx, if_neg (fun e => h p (.head _) (hx.trans e))]
    · rw [if_neg hx, if_neg hx]
theorem stored_at {K : Type} [DecidableEq K] (k x : K) (v : Value) (kvs : List (K × Value)) : valueAt (stored kvs k v) x = if x = k then some v else valueAt kvs x := by
  unfold stored
  by_cases h : (kvs.any fun kv => decide (kv.1 = k)) = true
  · rw [if_pos h, va_map]
    by_cases hx : x = k
    · subst hx
      rw [if_pos rfl, if_pos rfl]
      have : (valueAt kvs x).isSome = true := by
        unfold valueAt
        rw [Option.isSome_map, List.find?_isSome]
        exact List.any_eq_true.mp h
      obtain ⟨u, hu⟩ := Option.isSome_iff_exists.mp this
      rw [hu]; rfl
    · rw [if_neg hx, if_neg hx]
  · rw [if_neg h]
    exact va_append k x v kvs fun p hp e => h (List.any_eq_true.mpr ⟨p, hp, decide_eq_true e⟩)
theorem nodup_bound {K : Type} [DecidableEq K] : ∀ (l ks : List K), l.Nodup → (∀ k ∈ l, k ∈ ks) → l.length ≤ ks.length
  | [], _, _, _ => Nat.zero_le _
  | a :: r, ks, hn, h => by
    have hn' := List.nodup_cons.mp hn
    have := nodup_bound r (ks.erase a) hn'.2 fun k hk => (List.mem_erase_of_ne (fun (e : k = a) => hn'.1 (by rw [← e]; exact hk))).mpr (h k (.tail _ hk))
    have ha := h a (.head _)
    rw [List.length_erase_of_mem ha] at this
    have := List.length_pos_of_mem ha
    show r.length + 1 ≤ ks.length
    omega
noncomputable def Few {K V : Type} (f : K → Option V) : Prop := ∃ ks : List K, ks.length ≤ 1000 ∧ ∀ k, f k ≠ none → k ∈ ks
section
variable {c : Ctx} {d : Nat} {env : Env} {lk : Loc} {σ : Sto} {pos : Pos} {QX : Fl → Loc → Sto → Prop} {Q : V → Sto → Prop}
theorem few_pairs {K : Type} [DecidableEq K] {prog : Program} {w : World} {knd : KeyKind prog w K} {h : Heap} {μ : AMap} {a : Addr} {kvs : List (K × Value)} {f : K → Option V} (hd : h.DictOf knd a kvs) (hv : ∀ k, OR h μ (f k) (valueAt kvs k)) (hf : Few f) : kvs.length ≤ sizeLine := by
  obtain ⟨o, es, ep, ho, _, _, _, _, hn⟩ := hd
  obtain ⟨ks, hl, hk⟩ := hf
  have := nodup_bound (kvs.map (·.1)) ks hn fun k hm => hk k fun e => by
    have := OR.none_of (e ▸ hv k)
    obtain ⟨p, hp, rfl⟩ := List.mem_map.mp hm
    unfold valueAt at this
    rw [Option.map_eq_none_iff, List.find?_eq_none] at this
    exact this p hp (decide_eq_true rfl)
  rw [List.length_map] at this
  exact Nat.le_trans (Nat.le_trans this hl) (by rw [sizeLine_eq]; decide)
noncomputable def Set3 (c : Ctx) (d : Nat) (env : Env) (lk : Loc) (σ : Sto) (a b y : V) (Q : Loc → Sto → Prop) : Prop :=
  ∀ A s μ va vb vy Qr Er, AOk A d → HR c s.heap μ σ → FR c env lk s.heap μ → VR s.heap μ a va → VR s.heap μ b vb → VR s.heap μ y vy →
    (∀ s' lk' σ' μ', Q lk' σ' → HR c s'.heap μ' σ' → FR c env lk' s'.heap μ' → Step (own env) μ μ' s s' → Qr () s') → wpAny c.M A (setItem va vb vy) Qr Er s
theorem oka_sub {o i : Expr} {y : V} {QA : Loc → Sto → Prop} (h : Ok c d env o lk σ (fun a σ' => Ok c d env i lk σ' (fun b σ'' => Set3 c d env lk σ'' a b y QA))) : OkA c d env (.Subscript o i pos) y lk σ QA := by
  intro A s μ v Qr Er ok r f hv q
  rw [assign_Subscript]
  refine wpAny_bind (wpAny_holding (h A s μ _ Er ok r f fun va s₁ a σ₁ μ₁ h₁ r₁ f₁ v₁ st₁ => wpAny_bind (wpAny_holding ?_)))
  refine h₁ A s₁ μ₁ _ Er ok r₁ f₁ fun vb s₂ b σ₂ μ₂ h₂ r₂ f₂ v₂ st₂ => wpAny_bind (wpAny_standAt (wpAny_bind (wpAny_holding ?_)))
  refine h₂ A s₂ μ₂ va vb v _ Er ok r₂ f₂ (v₁.step st₂) v₂ (hv.step (st₁.trans st₂)) fun s₃ lk₃ σ₃ μ₃ h₃ r₃ f₃ st₃ => ?_
  exact wpAny_release (q s₃ lk₃ σ₃ μ₃ h₃ r₃ f₃ ((st₁.trans st₂).trans st₃))
theorem cell_write {s s' : Shared} {μ : AMap} {j : Nat} {x x' : Cell} {p : Addr × Addr} (r : HR c s.heap μ σ) (f : FR c env lk s.heap μ) (hj : σ j = some x) (hp : μ.1 j = some p) (e : p.1 = p.2) (hs : Heap.SameBut p.1 s.heap s'.heap) (ho : ∃ o, s'.heap.get? p.1 = some o) (hg : s'.gens = s.gens) (hos : s'.os = s.os)
    (hc : Kp s.heap s'.heap μ μ → CR c s'.heap μ x' p) : HR c s'.heap μ (upd σ j x') ∧ FR c env lk s'.heap μ ∧ Step (own env) μ μ s s' :=
  have kp : ∀ b o, s.heap.get? b = some o → Frz μ b → s'.heap.get? b = some o ∧ Frz μ b := fun b o eb fz => ⟨(hs.2 b (fz.1 j p hp).1).trans eb, fz⟩
  have z := HR.write (X := own env) r hj hp (fun b o hb e' => (hs.2 b fun q => hb (q.trans e)).trans e') (e ▸ ho) hg hos fun zz zz => hc (.of kp fun zz zz e => e)
  ⟨z.1, f.at (.of kp fun zz zz e => e) fun a o zz fz e => kp a o e fz, z.2⟩
theorem size_of {h : Heap} {μ : AMap} {xs : List V} {vs : Array Value} (r : VRs h μ xs vs.toList) : xs.length = vs.size := r.length.trans Array.length_toList
theorem set_cell {j : Nat} {xs : List V} {k : Int} {y : V} {QA : Loc → Sto → Prop} (hj : σ j = some (.list xs)) (h0 : 0 ≤ k) (hk : k < 2 ^ 62) (hn : k.toNat < xs.length) (h : QA lk (upd σ j (.list (xs.set k.toNat y)))) : Set3 c d env lk σ (.ref j) (.int k) y QA := by
  intro A s μ va vb vy Qr Er ok r f ha hb hy q
  obtain ⟨t, rfl⟩ := hb.int'
  obtain ⟨p, rfl, hp⟩ := ha.ref'
  obtain ⟨e, vs, n, ho, hvs⟩ := r.cell j _ p hj hp
  refine setItem_plain ho h0 (Int.lt_trans hk (by decide)) ((Int.toNat_lt h0).mp (size_of hvs ▸ hn)) fun h' hn' hs => ?_
  have z := cell_write (s' := { s with heap := h' }) (x' := .list (xs.set k.toNat y)) r f hj hp e hs ⟨_, hn'⟩ rfl rfl fun K => ⟨e, _, n, hn', by rw [Array.toList_setIfInBounds]; exact (hvs.at K).set (hy.at K)⟩
  exact q _ lk _ μ h z.1 z.2.1 z.2.2
theorem or_upd {K : Type} [DecidableEq K] {h h' : Heap} {μ : AMap} {g : K → Option V} {kvs : List (K × Value)} {k : K} {y : V} {v : Value} (k' : Kp h h' μ μ) (hv : ∀ x, OR h μ (g x) (valueAt kvs x)) (hy : VR h μ y v) (x : K) : OR h' μ (if x = k then some y else g x) (valueAt (stored kvs k v) x) := by
  rw [stored_at]
  by_cases hx : x = k
  · rw [if_pos hx, if_pos hx]; exact hy.at k'
  · rw [if_neg hx, if_neg hx]; exact (hv x).at k'
theorem set_dictS {j : Nat} {g : Str → Option V} {k : Str} {y : V} {QA : Loc → Sto → Prop} (hj : σ j = some (.dictS g)) (hf : Few g) (h : QA lk (upd σ j (.dictS fun x => if x = k then some y else g x))) : Set3 c d env lk σ (.ref j) (.str k) y QA := by
  intro A s μ va vb vy Qr Er ok r f ha hb hy q
  obtain ⟨t, rfl⟩ := hb.str'
  obtain ⟨p, rfl, hp⟩ := ha.ref'
  obtain ⟨e, kvs, hd, hvs⟩ := r.cell j _ p hj hp
  refine wpAny_setItem_pairs (strKind_is _ _ k t) hd (fun h' hd' hs => ?_) (few_pairs hd hvs hf)
  have z := cell_write (s' := { s with heap := h', toks := s.toks + 1 }) (x' := .dictS fun x => if x = k then some y else g x) r f hj hp e hs (hd'.imp fun o z => z.elim fun zz z => z.elim fun zz z => z.1) rfl rfl fun K => ⟨e, _, hd', or_upd K hvs hy⟩
  exact q _ lk _ μ h z.1 z.2.1 z.2.2
theorem set_dictI {j : Nat} {g : Int → Option V} {k : Int} {y : V} {QA : Loc → Sto → Prop} (hj : σ j = some (.dictI g)) (hf : Few g) (h : QA lk (upd σ j (.dictI fun x => if x = k then some y else g x))) : Set3 c d env lk σ (.ref j) (.int k) y QA := by
  intro A s μ va vb vy Qr Er ok r f ha hb hy q
  obtain ⟨t, rfl⟩ := hb.int'
  obtain ⟨p, rfl, hp⟩ := ha.ref'
  obtain ⟨e, kvs, hd, hvs⟩ := r.cell j _ p hj hp
  refine wpAny_setItem_pairs (intKind_is _ _ k t) hd (fun h' hd' hs => ?_) (few_pairs hd hvs hf)
  have z := cell_write (s' := { s with heap := h', toks := s.toks + 1 }) (x' := .dictI fun x => if x = k then some y else g x) r f hj hp e hs (hd'.imp fun o z => z.elim fun zz z => z.elim fun zz z => z.1) rfl rfl fun K => ⟨e, _, hd', or_upd K hvs hy⟩
  exact q _ lk _ μ h z.1 z.2.1 z.2.2
noncomputable def Meth (c : Ctx) (σ : Sto) (y : V) (name : Str) (g : Value) : Prop :=
  ∀ (A : Around) (s : Shared) (μ : AMap) (v : Value) (pl : Sem Bool) (Qr : Value × List Value → Shared → Prop) (Er : Value → Shared → Prop), HR c s.heap μ σ → VR s.heap μ y v → Qr (g, [v]) s → wpAny c.M A (getMethod v name pl) Qr Er s
theorem mk_meth {σ : Sto} {y : V} {name : Str} {g : Value} {R : Value → Prop} (hm : Meth c σ y name g) (hk : keepB c.K g = true) (h : R g) : ∃ g, Meth c σ y name g ∧ keepB c.K g = true ∧ R g := ⟨g, hm, hk, h⟩
theorem ok_meth {o : Expr} {name : Str} {apos : Pos} {args : List Expr} (h : Ok c d env o lk σ (fun y σ' => ∃ g, Meth c σ' y name g ∧ keepB c.K g = true ∧ OkL c d env args lk σ' (fun ys σ'' => CallF c d env lk σ'' g (y :: ys) Q)))
    (hb : attributeBase o name env (eval o env) = eval o env) (hform : methodCallForm (args.length + 0) (backTo pos (starEach args env)) (backToKw pos (keywordEach [] env)) = true) (hline : (apos.endLine == pos.line) = true)
    (hplain : (backTo pos (starEach args env)).any (·.1) = false) : Ok c d env (.Call (.Attribute o name apos) args [] pos) lk σ Q := by
  intro A s μ Qr Er ok r f q
  rw [arm_eval_Call, hb]
  refine wpAny_bind (h A s μ _ Er ok r f fun v s₁ y σ₁ μ₁ h₁ r₁ f₁ v₁ st₁ => wpAny_bind (wpAny_standAt ?_))
  obtain ⟨g, hm, hk, hq⟩ := h₁
  have hpos : methodCallPos true o env apos pos = pure pos := by unfold methodCallPos; simp [hline]
  unfold methodCall
  show wpAny c.M A (do
    let (f, first) ← holding [v] (calleeOf (methodCallForm (args.length + 0) (backTo pos (starEach args env)) (backToKw pos (keywordEach [] env))) o env v name)
    let callPos ← methodCallPos (methodCallForm (args.length + 0) (backTo pos (starEach args env)) (backToKw pos (keywordEach [] env))) o env apos pos
    callWith callPos f first (backTo pos (starEach args env)) []) Qr Er s₁
  rw [hform]
  unfold calleeOf
  refine wpAny_bind (wpAny_holding (hm A s₁ μ₁ v _ _ Er r₁ v₁ ?_))
  refine wpAny_bind (wpAny_of_eq hpos ?_)
  exact callWith_ok (first := [y]) ok r₁ f₁ hk (.cons v₁ .nil) hq hplain (q.after st₁)
theorem meth_inst {k : Nat} {C g : Addr} {n : Nat} {fl : Str → Option V} {name : Str} (hs : σ k = some (.inst C n fl)) (hC : ClsF c.K C) (hf : findIn c.K (.ref C) name = some (some (.ref g))) (ht : typeIn c.K (.ref g) = some (.type "function")) (hn : fl name = none) :
    Meth c σ (.ref k) name (.ref g) := by
  intro A s μ v pl Qr Er r hv q
  obtain ⟨p, rfl, hp⟩ := hv.ref'
  obtain ⟨hx, es, m, hd, hk, _, hr⟩ := r.cell k _ p hs hp
  have I : InstAt s.heap p.1 ⟨.ref C, some p.2, .plain, #[]⟩ C (some (dictOf es m)) := ⟨hx, rfl, rfl, hd⟩
  refine method_fn r.K I hC.ga hC.gt hf ht ?_ q
  show (lookIn name (dictOf es m)).map _ = _
  rw [lookIn_dict, ns_getL hk, OR.none_of (show OR s.heap μ none (nsFind es.toArray name) from hn ▸ hr name)]; rfl
theorem meth_append {k : Nat} {xs : List V} (hs : σ k = some (.list xs)) : Meth c σ (.ref k) "append" (.builtin "list.append") := by
  intro A s μ v pl Qr Er r hv q
  obtain ⟨p, rfl, hp⟩ := hv.ref'
  obtain ⟨_, vs, n, ho, _⟩ := r.cell k _ p hs hp
  exact getMethod_builtin (T := "list") ⟨_, ho, rfl⟩ F.plainAttrs_list F.slot_list_append F.type_list_append (fun a e => ⟨_, Value.ref.inj e ▸ ho, rfl⟩) q
theorem meth_get {k : Nat} {g : Str → Option V} (hs : σ k = some (.dictS g)) : Meth c σ (.ref k) "get" (.builtin "dict.get") := by
  intro A s μ v pl Qr Er r hv q
  obtain ⟨p, rfl, hp⟩ := hv.ref'
  obtain ⟨_, kvs, hd, _⟩ := r.cell k _ p hs hp
  exact getMethod_builtin (T := "dict") hd.typeIs F.plainAttrs_dict F.slot_dict_get F.type_dict_get hd.mapOf.noDict q
theorem callf_append {k : Nat} {xs : List V} {y : V} (hs : σ k = some (.list xs)) (hl : xs.length ≤ sizeLine) (h : Q .none (upd σ k (.list (xs ++ [y])))) : CallF c d env lk σ (.builtin "list.append") [.ref k, y] Q := by
  intro A s μ vs Qr Er ok r f hv q
  obtain ⟨_, u, rfl, ha, hy⟩ := hv.two
  obtain ⟨p, rfl, hp⟩ := ha.ref'
  obtain ⟨e, ws, n, ho, hws⟩ := r.cell k _ p hs hp
  refine wpAny_list_append_plain (hsz := size_of hws ▸ hl) ⟨n, ho⟩ fun h' hn' hs' => hn'.elim fun n' hn' => ?_
  have z := cell_write (s' := { s with heap := h' }) (x' := .list (xs ++ [y])) r f hs hp e hs' ⟨_, hn'⟩ rfl rfl fun K => ⟨e, _, n', hn', by rw [Array.toList_push]; exact (hws.at K).append (.cons (hy.at K) .nil)⟩
  exact q _ _ .none _ μ h z.1 z.2.1 .none z.2.2
theorem getD_or {h : Heap} {μ : AMap} {x : Option V} {v : Option Value} {y : V} {u : Value} (r : OR h μ x v) (hy : VR h μ y u) : VR h μ (x.getD y) (v.getD u) := by
  cases x <;> cases v <;> first | exact r | exact r.elim | exact hy
theorem callf_get1 {k : Nat} {g : Str → Option V} {x : Str} (hlow : 3 < c.H0.objs.size) (hs : σ k = some (.dictS g)) (h : Q ((g x).getD .none) σ) : CallF c d env lk σ (.builtin "dict.get") [.ref k, .str x] Q := by
  intro A s μ vs Qr Er ok r f hv q
  obtain ⟨_, _, rfl, ha, hx⟩ := hv.two
  obtain ⟨t, rfl⟩ := hx.str'
  obtain ⟨p, rfl, hp⟩ := ha.ref'
  obtain ⟨e, kvs, hd, hvs⟩ := r.cell k _ p hs hp
  exact call_meetsIn F.slot_dict_get hd.typeIs F.entry_dict_get (F.args_dict_get_2 _ _) (meets_dict_get (strKind _ _) p.1 (strKind_is _ _ x t) (dict_low r hlow hp)) ⟨_, hd.mapOf, q.same h r f (getD_or (hvs x) .none)⟩
theorem callf_get2 {k : Nat} {g : Str → Option V} {x : Str} {y : V} (hlow : 3 < c.H0.objs.size) (hs : σ k = some (.dictS g)) (h : Q ((g x).getD y) σ) : CallF c d env lk σ (.builtin "dict.get") [.ref k, .str x, y] Q := by
  intro A s μ vs Qr Er ok r f hv q
  obtain ⟨_, _, _, rfl, ha, hx, hy⟩ := hv.three
  obtain ⟨t, rfl⟩ := hx.str'
  obtain ⟨p, rfl, hp⟩ := ha.ref'
  obtain ⟨e, kvs, hd, hvs⟩ := r.cell k _ p hs hp
  exact call_meetsIn F.slot_dict_get hd.typeIs F.entry_dict_get (F.args_dict_get_3 _ _ _) (meets_dict_get_default (strKind _ _) p.1 (strKind_is _ _ x t) (dict_low r hlow hp) _) ⟨_, hd.mapOf, q.same h r f (getD_or (hvs x) hy)⟩
end
-- C14
theorem draw_plain {prog : Program} {w : World} {A : Around} {E : Value → Shared → Prop} {it l : Addr} {items : Array Value} (hne : l ≠ it) : ∀ (n i : Nat) (s : Shared) (Q : List Value → Shared → Prop), s.heap.IsListIter it l i → s.heap.IsList l items → i + n ≤ items.size →
    (∀ h', h'.IsListIter it l (i + n) → Heap.SameBut it s.heap h' → Q ((items.toList.drop i).take n) { s with heap := h' }) → wpAny (model prog w) A (draw (.ref it) n) Q E s
  | 0, i, s, Q, hit, _, _, hQ => wpAny_pure (by simpa using hQ s.heap hit (Heap.SameBut.refl ..))
  | n + 1, i, s, Q, hit, ht, hle, hQ => by
    have hlt : i < items.size := by lcg_off
    show wpAny _ _ (pyNext (.ref it) >>= _) Q E s
    refine wpAny_bind (wpAny_pyNext_list_item hit ht (x := items[i]) (by simp [hlt]) fun h₁ hit₁ hs₁ => ?_)
    have ht₁ : h₁.IsList l items := by obtain ⟨o, ho, q⟩ := ht; exact ⟨o, (hs₁.2 l hne).trans ho, q⟩
    refine wpAny_bind (wpAny_holding (draw_plain hne n (i + 1) _ _ hit₁ ht₁ (by lcg_off) fun h₂ hit₂ hs₂ => wpAny_pure ?_))
    have hd : items.toList.drop i = items[i] :: items.toList.drop (i + 1) := by simp [List.drop_eq_getElem_cons, hlt]
    have := hQ h₂ (by rw [show i + (n + 1) = i + 1 + n by lcg_off]; exact hit₂) (hs₁.trans hs₂)
    rw [hd, List.take_succ_cons] at this
    exact this
theorem isList_keep {h h' : Heap} {l : Addr} {items : Array Value} (x : h.IsList l items) (k : ∀ o, h.get? l = some o → h'.get? l = some o) : h'.IsList l items := Exists.imp (fun zz q => ⟨k _ q.1, q.2⟩) x
theorem unpack_list {prog : Program} {w : World} {A : Around} {E : Value → Shared → Prop} {s : Shared} {t : Addr} {items : Array Value} {n : Nat} {Q : List Value → Shared → Prop} (hh : A.handled = none) (ht : s.heap.IsList t items) (hn : items.size = n)
    (hQ : ∀ h', (∀ b o, s.heap.get? b = some o → h'.get? b = some o) → Q items.toList { s with heap := h' }) : wpAny (model prog w) A (unpackItems (.ref t) n none) Q E s := by
  subst hn
  have nit : ∀ b o, s.heap.get? b = some o → b ≠ s.heap.objs.size := fun b o e => Nat.ne_of_lt (Heap.lt_size e)
  have hlt : t ≠ s.heap.objs.size := Exists.elim ht fun o q => nit _ _ q.1
  unfold unpackItems
  refine wpAny_bind ?_
  unfold notIterableAtAll
  refine wpAny_bind (wpAny_specialOf ht.typeIs F.slot_list_iter.lookup (wpAny_pure ?_))
  rw [if_neg Bool.false_ne_true]
  refine wpAny_bind (wpAny_holding (wpAny_pyIter_list ht ?_))
  have ht₀ := isList_keep ht fun o e => Heap.get?_push_of_some ({ cls := .type "list_iterator", data := .fields #[.ref t, .int 0 0] } : Obj) e
  refine wpAny_bind (wpAny_holding (draw_plain hlt items.size 0 _ _ ⟨_, Heap.get?_push_size _ rfl, rfl, rfl⟩ ht₀ (Nat.le_of_eq (Nat.zero_add _)) fun h₁ hit₁ hs₁ => ?_))
  rw [show List.take items.size (List.drop 0 items.toList) = items.toList from List.take_of_length_le (Nat.le_of_eq Array.length_toList), if_neg (fun h => absurd Array.length_toList (Nat.ne_of_lt h))]
  have ht₁ := isList_keep ht₀ fun o e => (hs₁.2 t hlt).trans e
  refine wpAny_bind (wpAny_holding (wpAny_pyNext_list_end hh hit₁ ht₁ (Array.getElem?_eq_none (Nat.le_of_eq (Nat.zero_add _).symm)) fun h₂ he₂ => ?_))
  exact wpAny_pure (hQ h₂ fun b o e => he₂ b o (nit b o e) ((hs₁.2 b (nit b o e)).trans (Heap.get?_push_of_some _ e)))
theorem weight_call (C : Addr) (rest : List Value) : (Code.builtin "type.__call__" ⟨.ref C :: rest, []⟩).weight = 1 := by kernel_rfl
theorem units_call (C : Addr) (rest : List Value) : (Code.builtin "type.__call__" ⟨.ref C :: rest, []⟩).cUnits = 1 := by kernel_rfl
theorem bb_len : bootBuiltins "len" = some (.builtin "len") := by decide +kernel
theorem bb_isinstance : bootBuiltins "isinstance" = some (.builtin "isinstance") := by decide +kernel
theorem bb_str : bootBuiltins "str" = some (.type "str") := by decide +kernel
theorem bb_tuple : bootBuiltins "tuple" = some (.type "tuple") := by decide +kernel
theorem bb_int : bootBuiltins "int" = some (.type "int") := by decide +kernel
theorem bb_min : bootBuiltins "min" = some (.builtin "min") := by decide +kernel
section
variable {c : Ctx} {d : Nat} {env : Env} {lk : Loc} {σ : Sto} {pos : Pos} {QX : Fl → Loc → Sto → Prop} {Q : V → Sto → Prop}
theorem oka_unpack {ts : List Expr} {k : Nat} {ys : List V} {QA : Loc → Sto → Prop} (h : OkAs c d env ts ys lk σ QA) (hn : (assignEach ts env).length = ys.length)
    (hs : (assignEach ts env).findIdx? (·.1) = none) : OkA c d env (.Tuple ts k pos) (.lst ys) lk σ QA := by
  intro A s μ v Qr Er ok r f hv q
  obtain ⟨a, vs, n, rfl, ho, hf, hvs⟩ := hv.lst'
  rw [arm_assign_Tuple]
  refine wpAny_bind (wpAny_standAt ?_)
  unfold unpack
  rw [hs]
  refine wpAny_bind (wpAny_holding (unpack_list ok.1 ⟨_, ho, rfl, _, rfl⟩ (by rw [hn, hvs.length, List.size_toArray]) fun h' kp => ?_))
  have st : Step (fun zz => False) μ μ s { s with heap := h' } := Step.ofKeep kp rfl rfl
  exact h A { s with heap := h' } μ vs Qr Er ok (r.keep kp) (f.step0 st) (hvs.step st) fun s₁ lk₁ σ₁ μ₁ g r₁ f₁ st₁ => q s₁ lk₁ σ₁ μ₁ g r₁ f₁ ((st.mono fun zz x => x.elim).trans st₁)
theorem aok_call {A : Around} {C : Addr} {vs : List Value} (h : AOk A (d + 1)) : AOk (A.under (.builtin "type.__call__" ⟨.ref C :: vs, []⟩)) d := by
  refine ⟨h.1, ?_, ?_⟩
  · show A.depth + (Code.builtin "type.__call__" ⟨.ref C :: vs, []⟩).weight + 2 * d < 990
    rw [weight_call]
    exact Nat.lt_of_le_of_lt (Nat.le_of_eq (Nat.add_right_comm A.depth 1 (2 * d))) (Nat.lt_of_succ_lt h.2.1)
  · show A.units + (Code.builtin "type.__call__" ⟨.ref C :: vs, []⟩).cUnits + 8 * d < 9800
    rw [units_call]
    exact Nat.lt_of_le_of_lt (Nat.le_of_eq (Nat.add_right_comm A.units 1 (8 * d))) (Nat.lt_of_le_of_lt (Nat.add_le_add_left (by decide : 1 ≤ 8) (A.units + 8 * d)) h.2.2)
theorem callOk_new {C fI : Addr} {args : List V} (hm : makesIn c.K C = true) (hi : findIn c.K (.ref C) "__init__" = some (some (.ref fI))) (hf : typeIn c.K (.ref fI) = some (.type "function"))
    (h : ∀ k, σ k = none → CodeOk c d (.ref fI) (.ref k :: args) (upd σ k (.inst C 0 fun zz => none)) (fun y σ' => y = .none ∧ Q (.ref k) σ')) : CallOk c (d + 1) (.ref C) args σ Q := by
  intro A s μ vs Qr Er ok r hv q
  refine wpAny_call ?_
  obtain ⟨hp, g, dd, t, os⟩ := s
  refine make_core (makes_of r.K hm) (looks_findIn r.K hi) (fun self => bind_fn r.K self hf) (.inl rfl) ?_
  obtain ⟨k, hk⟩ := r.free
  have kp : ∀ b o, hp.get? b = some o → ((hp.push emptyDict).push (instObj C hp.objs.size)).get? b = some o := fun b o e => Heap.get?_push_of_some _ (Heap.get?_push_of_some _ e)
  have e2 : (hp.push emptyDict).objs.size = hp.objs.size + 1 := Heap.size_push ..
  have n1 : hp.get? (hp.objs.size + 1) = none := none_ge (Nat.le_succ _)
  obtain ⟨r', st⟩ := HR.alloc (X := fun zz => False) (s := ⟨hp, g, dd, t, os⟩) (s' := ⟨(hp.push emptyDict).push (instObj C hp.objs.size), g, dd, t, os⟩) (p := (hp.objs.size + 1, hp.objs.size)) (x := .inst C 0 fun zz => none) r hk kp rfl rfl
    (Nat.le_succ_of_le r.size) r.size n1 (none_size _) (fun zz zz => by
      refine ⟨?_, [], 0, Heap.get?_push_of_some _ (Heap.get?_push_size _ rfl), fun e he => absurd (List.mem_toArray.mp he) List.not_mem_nil, Nat.le_refl _, fun x => ?_⟩
      · have := Heap.get?_push_size (hp.push emptyDict) (o := instObj C hp.objs.size) rfl
        rw [e2] at this
        exact this
      · rw [nsFind_list]; trivial)
  have ok' := aok_call (C := C) (vs := vs) ok
  refine h k hk _ _ _ (.ref (hp.objs.size + 1) :: vs) _ ok' r' (.cons (.ref mupd_self) (hv.step st)) fun v s' y σ' μ' hq r'' hv' st' => ?_
  obtain ⟨rfl, hq⟩ := hq
  obtain rfl := hv'.none'
  exact ⟨rfl, q _ s' (.ref k) σ' μ' hq r'' (.ref (st'.ext _ _ mupd_self)) (st.trans st')⟩
theorem callf_len {a : V} {xs : List V} (ha : a = .tup xs ∨ AsList σ a xs) (hl : xs.length ≤ sizeLine) (h : Q (.int xs.length) σ) : CallF c d env lk σ (.builtin "len") [a] Q := by
  intro A s μ vs Qr Er ok r f hv q
  obtain ⟨u, rfl, ha'⟩ := hv.one
  rw [sizeLine_eq] at hl
  rcases ha with rfl | ha
  · obtain ⟨b, vs, n, rfl, ho, hf, hvs⟩ := ha'.tup'
    have e : xs.length = vs.toArray.size := hvs.length
    rw [e] at h hl
    exact PyProof.Rows.len_tuple ⟨_, ho, rfl, _, rfl⟩ (by lcg_off) (q.same h r f (.int _ _))
  · obtain ⟨b, vs, n, rfl, ho, hvs⟩ := ha.at r ha'
    rw [size_of hvs] at h hl
    exact call_len_list ⟨_, ho, rfl, _, rfl⟩ (by lcg_off) (q.same h r f (.int _ _))
theorem callf_isi_str {i : Int} (h : Q (.bool false) σ) : CallF c d env lk σ (.builtin "isinstance") [.int i, .raw (.type "str")] Q := by
  intro A s μ vs Qr Er ok r f hv q
  obtain ⟨_, _, rfl, h1, h2⟩ := hv.two
  obtain ⟨t, rfl⟩ := h1.int'
  obtain rfl := h2.raw'
  exact IsiPair.int_str (q.same h r f (.bool _))
theorem callf_isi_tuple {i : Int} (h : Q (.bool false) σ) : CallF c d env lk σ (.builtin "isinstance") [.int i, .raw (.type "tuple")] Q := by
  intro A s μ vs Qr Er ok r f hv q
  obtain ⟨_, _, rfl, h1, h2⟩ := hv.two
  obtain ⟨t, rfl⟩ := h1.int'
  obtain rfl := h2.raw'
  exact IsiPair.int_tuple (q.same h r f (.bool _))
theorem callf_int_bool {b : Bool} (h : Q (.int (if b then 1 else 0)) σ) : CallF c d env lk σ (.type "int") [.bool b] Q := by
  intro A s μ vs Qr Er ok r f hv q
  obtain ⟨_, rfl, h1⟩ := hv.one
  obtain rfl := h1.bool'
  exact call_int_bool (q.same h r f (.int _ _))
theorem callf_str_int {a : Int} (ha : a.natAbs.log2 < 1920) (h : Q (.str (toString a)) σ) : CallF c d env lk σ (.type "str") [.int a] Q := by
  intro A s μ vs Qr Er ok r f hv q
  obtain ⟨_, rfl, h1⟩ := hv.one
  obtain ⟨t, rfl⟩ := h1.int'
  exact P.str_of_int ha (q.same h r f (.str _ _))
theorem run_addl {a b : V} {xs ys : List V} (ha : AsList σ a xs) (hb : AsList σ b ys) (hl : xs.length + ys.length ≤ sizeLine) (h : Q (.lst (xs ++ ys)) σ) : Run2 c d env lk σ (binaryOp .Add) a b Q := by
  intro A s μ va vb Qr Er ok r f hva hvb q
  obtain ⟨l1, vs, n, rfl, ho, hvs⟩ := ha.at r hva
  obtain ⟨l2, ws, m, rfl, ho', hws⟩ := hb.at r hvb
  have e1 := size_of hvs
  have e2 := size_of hws
  refine P.add_list (hsz := by rw [← e1, ← e2]; exact hl) ho ho' ?_
  refine q _ { s with heap := s.heap.push _ } _ σ μ h (r.push _) (f.push _) (.lst (vs := (vs ++ ws).toList) (n := 0) ?_ (frz_size r) ?_) (Step.push _)
  · exact Heap.get?_push_size _ rfl
  · rw [Array.toList_append]
    exact (hvs.append hws).step (X := fun zz => False) (s' := { s with heap := s.heap.push _ }) (Step.push _)
theorem load_var {A : Around} {s : Shared} {μ : AMap} {Qr : Value → Shared → Prop} {Er : Value → Shared → Prop} {x : Str} {y : V} (r : HR c s.heap μ σ) (f : FR c env lk s.heap μ) (hl : lk.lookup x = some y) (hk : env.kindOf x = some .local ∨ env.kindOf x = some .cell)
    (q : ∀ v, VR s.heap μ y v → Qr v s) : wpAny c.M A (loadName env x) Qr Er s := by
  rcases hk with hk | hk
  · obtain ⟨m, hn, hm⟩ := f.ns
    obtain ⟨v, h1, h2⟩ := hm x y hk hl
    exact wpAny_loadName_local f.kind hk hn h1 (q v h2)
  · obtain ⟨a', ha⟩ := f.cells x (.inl hk)
    obtain ⟨_, _, _, v, h4, h5⟩ := f.cell x a' ha
    obtain ⟨u, rfl, h6⟩ := h5 y (.inl hk) hl
    exact wpAny_loadName_cell f.kind hk ha h4 (q u h6)
theorem okx_aug {x : Str} {p : Pos} {op : Operator} {e : Expr} {y : V} (hl : lk.lookup x = some y) (hk : env.kindOf x = some .local ∨ env.kindOf x = some .cell)
    (h : Ok c d env e lk σ (fun z σ' => Run2 c d env lk σ' (inplaceOp op) y z (fun u σ'' => QX .next (put x u lk) σ''))) : OkX c d env (.AugAssign (.Name x p) op e pos) lk σ QX := by
  intro A s μ Qr Er ok r f q
  refine wpAny_AugAssign_Name (load_var r f hl hk fun v hv => ?_)
  refine h A s μ _ Er ok r f fun vz s₁ z σ₁ μ₁ h₁ r₁ f₁ v₁ st₁ => ?_
  refine h₁ A s₁ μ₁ v vz _ Er ok r₁ f₁ (hv.step st₁) v₁ fun vu s₂ u σ₂ μ₂ h₂ r₂ f₂ v₂ st₂ => ?_
  exact store_var f₂ r₂ v₂ hk fun s₃ r₃ f₃ st₃ => q .next s₃ .next _ σ₂ μ₂ h₂ r₃ f₃ trivial ((st₁.trans st₂).trans st₃)
theorem ok_chain2 {l r₁ r₂ : Expr} {op₁ op₂ : CmpOp} (h : Ok c d env l lk σ (fun a σ₁ => Ok c d env r₁ lk σ₁ (fun b σ₂ => Run2 c d env lk σ₂ (compareOp op₁) a b (fun y σ₃ => ∃ t, y = .bool t ∧
      (t = false → Q (.bool false) σ₃) ∧ (t = true → Ok c d env r₂ lk σ₃ (fun e σ₄ => Run2 c d env lk σ₄ (compareOp op₂) b e Q))))))
    (hm : lastMarks [op₁, op₂] [r₁, r₂] = false) : Ok c d env (.Compare l [op₁, op₂] [r₁, r₂] pos) lk σ Q := by
  intro A s μ Qr Er ok r f q
  refine Compare_chain (h A s μ _ Er ok r f fun va s₁ a σ₁ μ₁ h₁ r₁ f₁ v₁ st₁ => chain_link ?_) hm
  refine h₁ A s₁ μ₁ _ Er ok r₁ f₁ fun vb s₂ b σ₂ μ₂ h₂ r₂ f₂ v₂ st₂ => ?_
  refine h₂ A s₂ μ₂ va vb _ Er ok r₂ f₂ (v₁.step st₂) v₂ fun vc s₃ y σ₃ μ₃ h₃ r₃ f₃ v₃ st₃ => ?_
  obtain ⟨t, rfl, hf, ht⟩ := h₃
  obtain rfl := v₃.bool'
  refine wpAny_truthy_bool ?_
  cases t with
  | false => exact q _ s₃ _ σ₃ μ₃ (hf rfl) r₃ f₃ (.bool _) ((st₁.trans st₂).trans st₃)
  | true =>
    refine chain_last (ht rfl A s₃ μ₃ _ Er ok r₃ f₃ fun ve s₄ e σ₄ μ₄ h₄ r₄ f₄ v₄ st₄ => ?_)
    exact h₄ A s₄ μ₄ vb ve Qr Er ok r₄ f₄ (v₂.step (st₃.trans st₄)) v₄ (q.after (((st₁.trans st₂).trans st₃).trans st₄))
theorem okt_chain2 {l r₁ r₂ : Expr} {op₁ op₂ : CmpOp} {QT : Bool → Sto → Prop} (h : Ok c d env l lk σ (fun a σ₁ => Ok c d env r₁ lk σ₁ (fun b σ₂ => Run2 c d env lk σ₂ (compareOp op₁) a b (fun y σ₃ => ∃ t, y = .bool t ∧
      (t = false → QT false σ₃) ∧ (t = true → Ok c d env r₂ lk σ₃ (fun e σ₄ => Run2 c d env lk σ₄ (compareOp op₂) b e (fun y σ₅ => ∃ u, y = .bool u ∧ QT u σ₅)))))))
    (hm : lastMarks [op₁, op₂] [r₁, r₂] = false) : OkT c d env (.Compare l [op₁, op₂] [r₁, r₂] pos) lk σ QT := by
  intro A s μ Qr Er ok r f q
  refine isTrue_chain (h A s μ _ Er ok r f fun va s₁ a σ₁ μ₁ h₁ r₁ f₁ v₁ st₁ => test_link ?_) hm
  refine h₁ A s₁ μ₁ _ Er ok r₁ f₁ fun vb s₂ b σ₂ μ₂ h₂ r₂ f₂ v₂ st₂ => ?_
  refine h₂ A s₂ μ₂ va vb _ Er ok r₂ f₂ (v₁.step st₂) v₂ fun vc s₃ y σ₃ μ₃ h₃ r₃ f₃ v₃ st₃ => ?_
  obtain ⟨t, rfl, hf, ht⟩ := h₃
  obtain rfl := v₃.bool'
  refine wpAny_truthy_bool ?_
  cases t with
  | false => exact q _ s₃ σ₃ μ₃ (hf rfl) r₃ f₃ ((st₁.trans st₂).trans st₃)
  | true =>
    refine test_last (ht rfl A s₃ μ₃ _ Er ok r₃ f₃ fun ve s₄ e σ₄ μ₄ h₄ r₄ f₄ v₄ st₄ => ?_)
    refine h₄ A s₄ μ₄ vb ve _ Er ok r₄ f₄ (v₂.step (st₃.trans st₄)) v₄ fun vf s₅ y σ₅ μ₅ h₅ r₅ f₅ v₅ st₅ => ?_
    obtain ⟨u, rfl, hq⟩ := h₅
    obtain rfl := v₅.bool'
    exact wpAny_truthy_bool (q u s₅ σ₅ μ₅ hq r₅ f₅ ((((st₁.trans st₂).trans st₃).trans st₄).trans st₅))
end
-- D0
noncomputable def HasFn (K : Frag) (a : Addr) (qual : Str) (st : Stmt) : Prop :=
  ∃ oc od osl doc pm an cdv ct, K.lookup a = some ⟨oc, od, .func (fnOf (stName st) qual (stArgs st) (stBody st) (stScope st) .none .none doc pm an cdv ct), osl⟩ ∧ codeIn K cdv qual = true
section
variable {c : Ctx} {d : Nat} {env : Env} {lk : Loc} {σ : Sto} {pos : Pos} {QX : Fl → Loc → Sto → Prop} {Q : V → Sto → Prop}
noncomputable def Then (c : Ctx) (d : Nat) (env : Env) (rest : List Stmt) (QX : Fl → Loc → Sto → Prop) (fl : Fl) (lk : Loc) (σ : Sto) : Prop := match fl with
  | .next => OkB c d env rest lk σ QX
  | fl => QX fl lk σ
theorem then_next {rest : List Stmt} (h : OkB c d env rest lk σ QX) : Then c d env rest QX .next lk σ := h
theorem then_ret {rest : List Stmt} {y : V} (h : QX (.ret y) lk σ) : Then c d env rest QX (.ret y) lk σ := h
theorem ret_ret {y : V} (h : Q y σ) : RetOk Q (.ret y) lk σ := h
theorem ret_next (h : Q .none σ) : RetOk Q .next lk σ := h
theorem okb_assign {t e : Expr} {rest : List Stmt} (h : Ok c d env e lk σ (fun y σ' => OkA c d env t y lk σ' (fun lk' σ'' => OkB c d env rest lk' σ'' QX))) (he : assignEach [t] env = [(false, assign t env)])
    (hs : swapsWithSole [t] e pos.line env = pure false) (hw : swappedStores [t] e env = pure none) : OkB c d env (.Assign [t] e pos :: rest) lk σ QX := okb_cons (okx_assign h he hs hw)
theorem okb_let {x : Str} {p : Pos} {e : Expr} {rest : List Stmt} (h : Ok c d env e lk σ (fun y σ' => OkB c d env rest (put x y lk) σ' QX)) (hk : env.kindOf x = some .local ∨ env.kindOf x = some .cell)
    (hs : swapsWithSole [.Name x p] e pos.line env = pure false) (hw : swappedStores [.Name x p] e env = pure none) : OkB c d env (.Assign [.Name x p] e pos :: rest) lk σ QX :=
  okb_assign (h.mono fun y σ' hh => oka_name hh hk) rfl hs hw
theorem okb_swap {t e : Expr} {rest : List Stmt} {names : List Str} (h : Ok c d env e lk σ (fun y σ' => ∃ ys, y = .tup ys ∧ ys.length = names.length ∧ OkB c d env rest ((names.zip ys).reverse.foldl (fun l p => put p.1 p.2 l) lk) σ' QX))
    (hs : swapsWithSole [t] e pos.line env = pure false) (hw : swappedStores [t] e env = pure (some names)) (hk : ∀ x ∈ names, env.kindOf x = some .local ∨ env.kindOf x = some .cell) :
    OkB c d env (.Assign [t] e pos :: rest) lk σ QX := okb_cons (okx_swap (h.mono fun y σ' hh => by obtain ⟨ys, h1, h2, h3⟩ := hh; exact ⟨ys, h1, h2, fun lk' e => e ▸ h3⟩) hs hw hk)
theorem okb_comp {x : Str} {px cpos : Pos} {elt target iter : Expr} {ifs : List Expr} {scope : Scope} {rest : List Stmt} (hsc : CScope scope env lk) (hsF : ∀ x, foldedSetIterable iter env x = pure x)
    (hsw : swapsWith (.ListComp elt [⟨target, iter, ifs, 0⟩] scope cpos) (some (.Name x px)) pos.line env = pure true)
    (h : OkIt c d env iter lk σ (pairTarget target) (fun S xs σ' => S σ' ∧ ∀ C cl, CompOk c d (compEnvC scope cl C env) target ifs elt lk S (fun acc σ'' => OkB c d env rest (put x (.lst acc) lk) σ'' QX) xs [] σ'))
    (hk : env.kindOf x = some .local ∨ env.kindOf x = some .cell) : OkB c d env (.Assign [.Name x px] (.ListComp elt [⟨target, iter, ifs, 0⟩] scope cpos) pos :: rest) lk σ QX := okb_cons (okx_assign_comp hsc hsF hsw h hk)
theorem okb_expr {e : Expr} {rest : List Stmt} (h : Ok c d env e lk σ (fun zz σ' => OkB c d env rest lk σ' QX)) (hi : interactive env = false) (hs : swapsWith e none pos.line env = pure false) : OkB c d env (.Expr e pos :: rest) lk σ QX := okb_cons (okx_expr h hi hs)
theorem okb_return {e : Expr} {rest : List Stmt} (h : Ok c d env e lk σ (fun y σ' => QX (.ret y) lk σ')) : OkB c d env (.Return (some e) pos :: rest) lk σ QX := okb_cons (okx_return h)
theorem okb_return0 {rest : List Stmt} (h : QX (.ret .none) lk σ) : OkB c d env (.Return none pos :: rest) lk σ QX := okb_cons (okx_return0 h)
theorem okb_if {test : Expr} {body orelse rest : List Stmt} (h : OkT c d env test lk σ (fun b σ' => (b = true → OkB c d env body lk σ' (Then c d env rest QX)) ∧ (b = false → OkB c d env orelse lk σ' (Then c d env rest QX)))) :
    OkB c d env (.If test body orelse pos :: rest) lk σ QX := okb_cons (okx_if h)
noncomputable def LoopFl (c : Ctx) (d : Nat) (env : Env) (target : Expr) (body : List Stmt) (S : Sto → Prop) (Q : Fl → Loc → Sto → Prop) (xs : List V) (fl : Fl) (lk : Loc) (σ : Sto) : Prop := match fl with
  | .next => S σ ∧ ∃ lk', Sub lk' lk ∧ LoopOk c d env target body S Q xs lk' σ
  | .cont => S σ ∧ ∃ lk', Sub lk' lk ∧ LoopOk c d env target body S Q xs lk' σ
  | .brk => Q .next lk σ
  | .ret y => Q (.ret y) lk σ
theorem loop_nil {target : Expr} {body : List Stmt} {S : Sto → Prop} (h : QX .next lk σ) : LoopOk c d env target body S QX [] lk σ := ⟨lk, Sub.refl _, h⟩
theorem loop_cons {target : Expr} {body : List Stmt} {S : Sto → Prop} {x : V} {xs : List V} (h : OkA c d env target x lk σ (fun lk₁ σ₁ => OkB c d env body lk₁ σ₁ (LoopFl c d env target body S QX xs))) : LoopOk c d env target body S QX (x :: xs) lk σ := by
  refine fun A s μ v Qr Er ok r f hv q => h A s μ v Qr Er ok r f hv fun s' lk' σ' μ' hq => q s' lk' σ' μ' ?_
  refine hq.mono fun fl lk'' σ'' hh => ?_
  cases fl <;> exact hh
theorem loopfl_ret {target : Expr} {body : List Stmt} {S : Sto → Prop} {xs : List V} {y : V} (h : QX (.ret y) lk σ) : LoopFl c d env target body S QX xs (.ret y) lk σ := h
theorem okb_for {target iter : Expr} {body rest : List Stmt} (h : OkIt c d env iter lk σ (pairTarget target) (fun S xs σ' => S σ' ∧ LoopOk c d env target body S (Then c d env rest QX) xs lk σ'))
    (hs : ∀ x, foldedSetIterable iter env x = pure x) : OkB c d env (.For target iter body [] pos :: rest) lk σ QX := okb_cons (okx_for h hs)
theorem lookup_hit {x : Str} {y : V} {r : Loc} : List.lookup x ((x, y) :: r) = some y := by simp
theorem lookup_skip {x z : Str} {y w : V} {r : Loc} (h : (x == z) = false) (hr : r.lookup x = some y) : List.lookup x ((z, w) :: r) = some y := by simp [List.lookup_cons, h, hr]
theorem code_fn {a : Addr} {qual : Str} {st : Stmt} (ps : List Str) {args : List V} (hf : HasFn c.K a qual st)
    (hlen : args.length = ps.length)
    (hbind : ∀ doc pm an cdv ct (vs : List Value), vs.length = ps.length → bindArgs (fnOf (stName st) qual (stArgs st) (stBody st) (stScope st) .none .none doc pm an cdv ct) ⟨vs, []⟩ = pure (ps.zip vs))
    (hsc : ((ps.all fun x => ((stScope st).names.lookup x == some .local || (stScope st).names.lookup x == some .cell)) && (stScope st).names.all (fun p => p.2 != .free) && (stScope st).kind == .function && !(stScope st).isCoroutine && !(stScope st).isGenerator) = true)
    (hnd : ps.Nodup)
    (h : ∀ L cdv, OkB c d (envOfC qual (stScope st) L a cdv) (stBody st) (ps.zip args) σ (RetOk Q)) : CodeOk c (d + 1) (.ref a) args σ Q := by
  obtain ⟨oc, od, osl, doc, pm, an, cdv, ct, ho, hcd⟩ := hf
  have a := Bool.and_eq_true_iff.mp hsc
  have b := Bool.and_eq_true_iff.mp a.1
  have e := Bool.and_eq_true_iff.mp b.1
  have f := Bool.and_eq_true_iff.mp e.1
  exact codeOk_def ho hcd hlen (hbind doc pm an cdv ct) hnd (fun x hx => (Bool.or_eq_true_iff.mp (List.all_eq_true.mp f.1 x hx)).imp beq_iff_eq.mp beq_iff_eq.mp) (fun p hp => bne_iff_ne.mp (List.all_eq_true.mp f.2 p hp)) (beq_iff_eq.mp e.2) (Bool.not_eq_true' _ ▸ b.2) (Bool.not_eq_true' _ ▸ a.2) fun L => h L cdv
end
-- D1
structure GFn (K : Frag) (name : Str) (st : Stmt) (a : Addr) : Prop where
  ns : nsIn K mainGlobals name = some (some (.ref a))
  fn : HasFn K a name st
  keep : keepIn K (.ref a) = true
structure GCls (K : Frag) (name : Str) (st : Stmt) (C fI : Addr) : Prop where
  ns : nsIn K mainGlobals name = some (some (.ref C))
  keep : keepIn K (.ref C) = true
  cls : ClsF K C
  makes : makesIn K C = true
  init : findIn K (.ref C) "__init__" = some (some (.ref fI))
  initT : typeIn K (.ref fI) = some (.type "function")
  initF : HasFn K fI (name ++ "." ++ "__init__") (mth st 0)
structure FieldK (K : Frag) (C : Addr) (x : Str) : Prop where
  get : findIn K (.ref C) x = some none
  put : takerIn K C x = some none
structure MethK (K : Frag) (C : Addr) (x qual : Str) (st : Stmt) (a : Addr) : Prop where
  get : findIn K (.ref C) x = some (some (.ref a))
  ty : typeIn K (.ref a) = some (.type "function")
  fn : HasFn K a qual st
  keep : keepIn K (.ref a) = true
noncomputable def Ads : Type := Unit
noncomputable def Ads.f_fits (_ : Ads) : Addr := 72
noncomputable def Ads.f_whole_of (_ : Ads) : Addr := 79
noncomputable def Ads.f_is_nought (_ : Ads) : Addr := 93
noncomputable def Ads.f_is_true (_ : Ads) : Addr := 100
noncomputable def Ads.f_put_upon (_ : Ads) : Addr := 276
noncomputable def Ads.f_floor_of (_ : Ads) : Addr := 283
noncomputable def Ads.f_cut_to (_ : Ads) : Addr := 297
noncomputable def Ads.f_gosub (_ : Ads) : Addr := 350
noncomputable def Ads.f_return_place (_ : Ads) : Addr := 357
noncomputable def Ads.f_chosen (_ : Ads) : Addr := 364
noncomputable def Ads.f_put_row_of (_ : Ads) : Addr := 392
noncomputable def Ads.f_put_if (_ : Ads) : Addr := 399
noncomputable def Ads.f_put_all (_ : Ads) : Addr := 406
noncomputable def Ads.f_gather (_ : Ads) : Addr := 413
noncomputable def Ads.f_flatten (_ : Ads) : Addr := 434
noncomputable def Ads.f_place_of (_ : Ads) : Addr := 441
noncomputable def Ads.f_do_flow (_ : Ads) : Addr := 470
noncomputable def Ads.f_do_jump (_ : Ads) : Addr := 477
noncomputable def Ads.c_Control (_ : Ads) : Addr := 265
noncomputable def Ads.c_Flat (_ : Ads) : Addr := 381
noncomputable def Ads.c_FlowRun (_ : Ads) : Addr := 557
noncomputable def Ads.i_Control (_ : Ads) : Addr := 262
noncomputable def Ads.i_Flat (_ : Ads) : Addr := 378
noncomputable def Ads.i_FlowRun (_ : Ads) : Addr := 512
noncomputable def Ads.m_worth (_ : Ads) : Addr := 519
noncomputable def Ads.m_whole (_ : Ads) : Addr := 526
noncomputable def Ads.m_value_of_name (_ : Ads) : Addr := 533
noncomputable def Ads.m_store (_ : Ads) : Addr := 540
noncomputable def Ads.m_go (_ : Ads) : Addr := 554
noncomputable def Ads.t_jumps (_ : Ads) : Addr := 463
structure Lib (c : Ctx) (A : Ads) : Prop where
  low : 3 < c.H0.objs.size
  b_len : nsIn c.K mainGlobals "len" = some none
  b_range : nsIn c.K mainGlobals "range" = some none
  b_enumerate : nsIn c.K mainGlobals "enumerate" = some none
  b_isinstance : nsIn c.K mainGlobals "isinstance" = some none
  b_str : nsIn c.K mainGlobals "str" = some none
  b_tuple : nsIn c.K mainGlobals "tuple" = some none
  b_int : nsIn c.K mainGlobals "int" = some none
  b_min : nsIn c.K mainGlobals "min" = some none
  fits : GFn c.K "fits" (nth P1 7) A.f_fits
  whole_of : GFn c.K "whole_of" (nth P1 8) A.f_whole_of
  is_nought : GFn c.K "is_nought" (nth P1 10) A.f_is_nought
  is_true : GFn c.K "is_true" (nth P1 11) A.f_is_true
  put_upon : GFn c.K "put_upon" (nth P1 40) A.f_put_upon
  floor_of : GFn c.K "floor_of" (nth P1 41) A.f_floor_of
  cut_to : GFn c.K "cut_to" (nth P1 43) A.f_cut_to
  gosub : GFn c.K "gosub" (nth P1 51) A.f_gosub
  return_place : GFn c.K "return_place" (nth P1 52) A.f_return_place
  chosen : GFn c.K "chosen" (nth P1 53) A.f_chosen
  put_row_of : GFn c.K "put_row_of" (nth P1 56) A.f_put_row_of
  put_if : GFn c.K "put_if" (nth P1 57) A.f_put_if
  put_all : GFn c.K "put_all" (nth P1 58) A.f_put_all
  gather : GFn c.K "gather" (nth P1 59) A.f_gather
  flatten : GFn c.K "flatten" (nth P1 62) A.f_flatten
  place_of : GFn c.K "place_of" (nth P1 63) A.f_place_of
  do_flow : GFn c.K "do_flow" (nth P1 69) A.f_do_flow
  do_jump : GFn c.K "do_jump" (nth P1 70) A.f_do_jump
  most_number : ∃ t, nsIn c.K mainGlobals "MOST_NUMBER" = some (some (.int 255 t))
  jumps : nsIn c.K mainGlobals "JUMPS" = some (some (.ref A.t_jumps))
  jumpsV : VR c.H0 (fun zz => none, fun zz => False) (.tup [.str "IFNOT", .str "JUMP", .str "GOTO", .str "GOSUB", .str "ONGO", .str "RETURN"]) (.ref A.t_jumps)
  Control : GCls c.K "Control" (nth P1 39) A.c_Control A.i_Control
  Control_pile : FieldK c.K A.c_Control "pile"
  Control_most : FieldK c.K A.c_Control "most"
  Control_failed_at : FieldK c.K A.c_Control "failed_at"
  Flat : GCls c.K "Flat" (nth P1 55) A.c_Flat A.i_Flat
  Flat_rows : FieldK c.K A.c_Flat "rows"
  Flat_places : FieldK c.K A.c_Flat "places"
  Flat_data : FieldK c.K A.c_Flat "data"
  Flat_pairs : FieldK c.K A.c_Flat "pairs"
  Flat_loops : FieldK c.K A.c_Flat "loops"
  Flat_fns : FieldK c.K A.c_Flat "fns"
  FlowRun : GCls c.K "FlowRun" (nth P1 74) A.c_FlowRun A.i_FlowRun
  FlowRun_flat : FieldK c.K A.c_FlowRun "flat"
  FlowRun_values : FieldK c.K A.c_FlowRun "values"
  FlowRun_worth_of : FieldK c.K A.c_FlowRun "worth_of"
  FlowRun_bits : FieldK c.K A.c_FlowRun "bits"
  FlowRun_digits : FieldK c.K A.c_FlowRun "digits"
  FlowRun_control : FieldK c.K A.c_FlowRun "control"
  FlowRun_notes : FieldK c.K A.c_FlowRun "notes"
  FlowRun_worth : MethK c.K A.c_FlowRun "worth" "FlowRun.worth" (mth (nth P1 74) 1) A.m_worth
  FlowRun_whole : MethK c.K A.c_FlowRun "whole" "FlowRun.whole" (mth (nth P1 74) 2) A.m_whole
  FlowRun_value_of_name : MethK c.K A.c_FlowRun "value_of_name" "FlowRun.value_of_name" (mth (nth P1 74) 3) A.m_value_of_name
  FlowRun_store : MethK c.K A.c_FlowRun "store" "FlowRun.store" (mth (nth P1 74) 4) A.m_store
  FlowRun_go : MethK c.K A.c_FlowRun "go" "FlowRun.go" (mth (nth P1 74) 6) A.m_go
theorem le_line {n : Nat} (h : n ≤ 10000) : n ≤ sizeLine := by rw [sizeLine_eq]; lcg_off
section
variable {c : Ctx} {d : Nat} {env : Env} {lk : Loc} {σ : Sto} {pos : Pos} {QX : Fl → Loc → Sto → Prop} {Q : V → Sto → Prop}
noncomputable abbrev VarK (env : Env) (x : Str) : Prop := env.kindOf x = some .local ∨ env.kindOf x = some .cell ∨ env.kindOf x = some .free
noncomputable abbrev StoK (env : Env) (x : Str) : Prop := env.kindOf x = some .local ∨ env.kindOf x = some .cell
noncomputable def sc2 (sc : Scope) (x : Str) : Bool := sc.names.lookup x == some .local || sc.names.lookup x == some .cell
noncomputable def sc3 (sc : Scope) (x : Str) : Bool := (sc.names.lookup x == some .local || sc.names.lookup x == some .free) || sc.names.lookup x == some .cell
noncomputable def scG (sc : Scope) (x : Str) : Bool := sc.names.lookup x == some .globalImplicit
noncomputable def dbg (x : Str) : Bool := (x == ("__debug__" : Str)) || (x == ("__classdict__" : Str))
theorem vk_fn {qual : Str} {sc : Scope} {L a : Addr} {cdv : Value} {x : Str} (h : sc2 sc x = true) : VarK (envOfC qual sc L a cdv) x := by
  rcases Bool.or_eq_true_iff.mp h with h | h
  · exact .inl (beq_iff_eq.mp h)
  · exact .inr (.inl (beq_iff_eq.mp h))
theorem sk_fn {qual : Str} {sc : Scope} {L a : Addr} {cdv : Value} {x : Str} (h : sc2 sc x = true) : StoK (envOfC qual sc L a cdv) x := by
  rcases Bool.or_eq_true_iff.mp h with h | h
  · exact .inl (beq_iff_eq.mp h)
  · exact .inr (beq_iff_eq.mp h)
theorem gk_fn {qual : Str} {sc : Scope} {L a : Addr} {cdv : Value} {x : Str} (h : scG sc x = true) : (envOfC qual sc L a cdv).kindOf x = some .globalImplicit := beq_iff_eq.mp h
theorem vk_comp {scope : Scope} {cl : List (Str × Addr)} {C : Addr} {env : Env} {x : Str} (h : sc3 scope x = true) : VarK (compEnvC scope cl C env) x := by
  rcases Bool.or_eq_true_iff.mp h with h | h
  · rcases Bool.or_eq_true_iff.mp h with h | h
    · exact .inl (lookup_relabel_local (beq_iff_eq.mp h))
    · exact .inr (relabel_isfree (beq_iff_eq.mp h))
  · exact .inr (.inl (relabel_iscell (beq_iff_eq.mp h)))
theorem sk_comp {scope : Scope} {cl : List (Str × Addr)} {C : Addr} {env : Env} {x : Str} (h : sc2 scope x = true) : StoK (compEnvC scope cl C env) x :=
  (Bool.or_eq_true_iff.mp h).imp (fun h => lookup_relabel_local (beq_iff_eq.mp h)) fun h => relabel_iscell (beq_iff_eq.mp h)
theorem gk_comp {scope : Scope} {cl : List (Str × Addr)} {C : Addr} {env : Env} {x : Str} (h : scG scope x = true) : (compEnvC scope cl C env).kindOf x = some .globalImplicit := by
  show (relabel scope env).names.lookup x = _
  unfold relabel
  rw [relabel_lookup, (beq_iff_eq.mp h : scope.names.lookup x = some .globalImplicit)]
  rfl
theorem okv {x : Str} {y : V} (hl : lk.lookup x = some y) (hk : VarK env x) (hd : dbg x = false) (h : Q y σ) : Ok c d env (.Name x pos) lk σ Q := by
  obtain ⟨h1, h2⟩ := Bool.or_eq_false_iff.mp hd
  exact ok_var hl h hk h1 h2
noncomputable def InstF (c : Ctx) (σ : Sto) (k : Nat) (attr : Str) (z : V) : Prop := ∃ C n f, σ k = some (.inst C n f) ∧ ClsF c.K C ∧ findIn c.K (.ref C) attr = some none ∧ f attr = some z ∧ HandOk z
theorem okv_field {x attr : Str} {p : Pos} {k : Nat} {z : V} (hl : lk.lookup x = some (.ref k)) (hk : VarK env x) (hd : dbg x = false) (hF : InstF c σ k attr z)
    (hb : attributeBase (.Name x p) attr env (eval (.Name x p) env) = eval (.Name x p) env) (h : Q z σ) : Ok c d env (.Attribute (.Name x p) attr pos) lk σ Q := by
  obtain ⟨C, n, f, h1, h2, h3, h4, h5⟩ := hF
  exact ok_field (okv hl hk hd ⟨k, C, n, f, z, rfl, h1, h2, h3, h4, h5, h⟩) hb
theorem ok_fieldF {o : Expr} {attr : Str} (h : Ok c d env o lk σ (fun y σ' => ∃ k z, y = .ref k ∧ InstF c σ' k attr z ∧ Q z σ')) (hb : attributeBase o attr env (eval o env) = eval o env) : Ok c d env (.Attribute o attr pos) lk σ Q :=
  ok_field (h.mono fun y σ' hh => by
    obtain ⟨k, z, rfl, ⟨C, n, f, h1, h2, h3, h4, h5⟩, hq⟩ := hh
    exact ⟨k, C, n, f, z, rfl, h1, h2, h3, h4, h5, hq⟩) hb
theorem CodeOk.mono {f : Value} {args : List V} {d' : Nat} {Q' : V → Sto → Prop} (h : CodeOk c d f args σ Q) (hd : d ≤ d') (hQ : ∀ y σ', Q y σ' → Q' y σ') : CodeOk c d' f args σ Q' :=
  fun A s μ vs R a r v q => h A s μ vs R (a.mono hd) r v fun v s' y σ' μ' hq => q v s' y σ' μ' (hQ _ _ hq)
theorem CodeOk.f {f : Value} {args : List V} {d' : Nat} (h : CodeOk c d f args σ Q) (hd : d ≤ d') : CallF c d' env lk σ f args Q := (h.call.mono hd fun zz zz h => h).toF
theorem okg_call {id : Str} {p : Pos} {args : List Expr} {a : Addr} (hn : nsIn c.K mainGlobals id = some (some (.ref a))) (hkp : keepIn c.K (.ref a) = true) (hk : env.kindOf id = some .globalImplicit) (hd : (id == ("__debug__" : Str)) = false)
    (hplain : ∀ p, (backTo p (starEach args env)).any (·.1) = false) (h : OkL c d env args lk σ (fun ys σ'' => CallF c d env lk σ'' (.ref a) ys Q)) : Ok c d env (.Call (.Name id p) args [] pos) lk σ Q :=
  ok_call (ok_globalR hn ⟨_, rfl, hkp, h⟩ hk hd) hplain
theorem okb_call {id : Str} {p : Pos} {args : List Expr} {g : Value} (hn : nsIn c.K mainGlobals id = some none) (hv : bootBuiltins id = some g) (hkp : keepB c.K g = true) (hx : id ≠ "__name__") (hk : env.kindOf id = some .globalImplicit) (hd : (id == ("__debug__" : Str)) = false)
    (hplain : ∀ p, (backTo p (starEach args env)).any (·.1) = false) (h : OkL c d env args lk σ (fun ys σ'' => CallF c d env lk σ'' g ys Q)) : Ok c d env (.Call (.Name id p) args [] pos) lk σ Q :=
  ok_call (ok_builtin hn hv hx ⟨_, rfl, hkp, h⟩ hk hd) hplain
theorem okgv {id : Str} {v : Value} {y : V} (hn : nsIn c.K mainGlobals id = some (some v)) (hv : VR c.H0 (fun zz => none, fun zz => False) y v) (hk : env.kindOf id = some .globalImplicit) (hd : (id == ("__debug__" : Str)) = false) (h : Q y σ) : Ok c d env (.Name id pos) lk σ Q := ok_global hn hv h hk hd
theorem okbv {id : Str} {g : Value} (hn : nsIn c.K mainGlobals id = some none) (hv : bootBuiltins id = some g) (hx : id ≠ "__name__") (hk : env.kindOf id = some .globalImplicit) (hd : (id == ("__debug__" : Str)) = false) (h : Q (.raw g) σ) : Ok c d env (.Name id pos) lk σ Q := ok_builtin hn hv hx h hk hd
end
-- D2
theorem lookup_put_hit {x : Str} {y : V} {lk : Loc} : (put x y lk).lookup x = some y := by rw [put_lookup, if_pos rfl]
theorem lookup_put_skip {x z : Str} {y w : V} {lk : Loc} (h : (z == x) = false) (hr : lk.lookup z = some w) : (put x y lk).lookup z = some w := by
  rw [put_lookup, if_neg (beq_eq_false_iff_ne.mp h)]; exact hr
theorem none_nil {x : Str} : List.lookup x ([] : Loc) = none := rfl
theorem none_cons {x z : Str} {w : V} {r : Loc} (h : (x == z) = false) (hr : r.lookup x = none) : List.lookup x ((z, w) :: r) = none := by simp [List.lookup_cons, h, hr]
theorem none_put {x z : Str} {y : V} {lk : Loc} (h : (z == x) = false) (hr : lk.lookup z = none) : (put x y lk).lookup z = none := by
  rw [put_lookup, if_neg (beq_eq_false_iff_ne.mp h)]; exact hr
theorem sub_nil {b : Loc} : Sub [] b := fun x y h => nomatch h
theorem sub_cons {x : Str} {y : V} {a b : Loc} (h : b.lookup x = some y) (hs : Sub a b) : Sub ((x, y) :: a) b := fun z w hz =>
  (lk_or hz).elim (fun q => q.1 ▸ q.2 ▸ h) fun q => hs z w q.2
theorem sub_put {x : Str} {y : V} {lk : Loc} (h : lk.lookup x = none) : Sub lk (put x y lk) := by
  intro z w hz
  rw [put_lookup]
  by_cases e : z = x
  · subst e; rw [h] at hz; cases hz
  · rw [if_neg e]; exact hz
theorem Sub.trans {a b c : Loc} (h : Sub a b) (h' : Sub b c) : Sub a c := fun x y e => h' x y (h x y e)
section
variable {c : Ctx} {d : Nat} {env : Env} {lk : Loc} {σ : Sto} {pos : Pos} {QX : Fl → Loc → Sto → Prop} {Q : V → Sto → Prop}
theorem loop_weak {target : Expr} {body : List Stmt} {S : Sto → Prop} {xs : List V} {lk' : Loc} (hw : Sub lk' lk) (h : LoopOk c d env target body S QX xs lk' σ) : LoopOk c d env target body S QX xs lk σ := by
  cases xs with
  | nil => obtain ⟨l, h1, h2⟩ := h; exact ⟨l, h1.trans hw, h2⟩
  | cons x xs => exact fun A s μ v Qr Er ok r f hv q => h A s μ v Qr Er ok r (f.weak hw) hv q
theorem loop_name {x : Str} {p : Pos} {body : List Stmt} {S : Sto → Prop} {y : V} {xs : List V} (hk : StoK env x) (h : OkB c d env body (put x y lk) σ (LoopFl c d env (.Name x p) body S QX xs)) : LoopOk c d env (.Name x p) body S QX (y :: xs) lk σ :=
  loop_cons (oka_name h hk)
theorem comp_nil {cenv : Env} {target elt : Expr} {ifs : List Expr} {S : Sto → Prop} {QC : List V → Sto → Prop} {acc : List V} (h : QC acc σ) : CompOk c d cenv target ifs elt lk S QC [] acc σ := h
theorem comp_name {cenv : Env} {x : Str} {p : Pos} {elt : Expr} {S : Sto → Prop} {QC : List V → Sto → Prop} {y : V} {xs acc : List V} (hk : StoK cenv x) (hn : lk.lookup x = none) (hl : acc.length ≤ sizeLine)
    (h : Ok c d cenv elt (put x y lk) σ (fun z σ' => S σ' ∧ CompOk c d cenv (.Name x p) [] elt lk S QC xs (acc ++ [z]) σ')) : CompOk c d cenv (.Name x p) [] elt lk S QC (y :: xs) acc σ :=
  ⟨hl, oka_name ⟨sub_put hn, fun zz => h, fun e => nomatch e⟩ hk⟩
theorem run_not {b : Bool} (h : Q (.bool (!b)) σ) : Run1 c d env lk σ (unaryOp .Not) (.bool b) Q := by
  intro A s μ va Qr Er ok r f ha q
  cases ha
  exact not_of (wpAny_truthy_bool (q.now h r f (.bool _)))
end
-- D3
section
variable {c : Ctx} {d : Nat} {env : Env} {lk : Loc} {σ : Sto} {pos : Pos} {QX : Fl → Loc → Sto → Prop} {Q : V → Sto → Prop}
noncomputable def scOk (sc : Scope) (ps : List Str) : Bool := (ps.all fun x => (sc.names.lookup x == some .local || sc.names.lookup x == some .cell)) && sc.names.all (fun p => p.2 != .free) && sc.kind == .function && !sc.isCoroutine && !sc.isGenerator && decide ps.Nodup
theorem code_fn1 {a : Addr} {qual : Str} {st : Stmt} (x0 : Str) {y0 : V} (hf : HasFn c.K a qual st)
    (hbind : ∀ doc pm an cdv ct v0, pure [(x0, v0)] = bindArgs (fnOf (stName st) qual (stArgs st) (stBody st) (stScope st) .none .none doc pm an cdv ct) ⟨[v0], []⟩)
    (hsc : scOk (stScope st) [x0] = true)
    (h : ∀ L cdv, OkB c d (envOfC qual (stScope st) L a cdv) (stBody st) [(x0, y0)] σ (RetOk Q)) : CodeOk c (d + 1) (.ref a) [y0] σ Q := by
  obtain ⟨h1, h2⟩ := Bool.and_eq_true_iff.mp hsc
  refine code_fn [x0] hf rfl (fun doc pm an cdv ct vs hvs => ?_) h1 (of_decide_eq_true h2) h
  obtain ⟨v0, rfl⟩ := len_1 hvs
  exact (hbind doc pm an cdv ct v0).symm
theorem code_fn2 {a : Addr} {qual : Str} {st : Stmt} (x0 x1 : Str) {y0 y1 : V} (hf : HasFn c.K a qual st)
    (hbind : ∀ doc pm an cdv ct v0 v1, pure [(x0, v0), (x1, v1)] = bindArgs (fnOf (stName st) qual (stArgs st) (stBody st) (stScope st) .none .none doc pm an cdv ct) ⟨[v0, v1], []⟩)
    (hsc : scOk (stScope st) [x0, x1] = true)
    (h : ∀ L cdv, OkB c d (envOfC qual (stScope st) L a cdv) (stBody st) [(x0, y0), (x1, y1)] σ (RetOk Q)) : CodeOk c (d + 1) (.ref a) [y0, y1] σ Q := by
  obtain ⟨h1, h2⟩ := Bool.and_eq_true_iff.mp hsc
  refine code_fn [x0, x1] hf rfl (fun doc pm an cdv ct vs hvs => ?_) h1 (of_decide_eq_true h2) h
  obtain ⟨v0, v1, rfl⟩ := len_2 hvs
  exact (hbind doc pm an cdv ct v0 v1).symm
theorem code_fn3 {a : Addr} {qual : Str} {st : Stmt} (x0 x1 x2 : Str) {y0 y1 y2 : V} (hf : HasFn c.K a qual st)
    (hbind : ∀ doc pm an cdv ct v0 v1 v2, pure [(x0, v0), (x1, v1), (x2, v2)] = bindArgs (fnOf (stName st) qual (stArgs st) (stBody st) (stScope st) .none .none doc pm an cdv ct) ⟨[v0, v1, v2], []⟩)
    (hsc : scOk (stScope st) [x0, x1, x2] = true)
    (h : ∀ L cdv, OkB c d (envOfC qual (stScope st) L a cdv) (stBody st) [(x0, y0), (x1, y1), (x2, y2)] σ (RetOk Q)) : CodeOk c (d + 1) (.ref a) [y0, y1, y2] σ Q := by
  obtain ⟨h1, h2⟩ := Bool.and_eq_true_iff.mp hsc
  refine code_fn [x0, x1, x2] hf rfl (fun doc pm an cdv ct vs hvs => ?_) h1 (of_decide_eq_true h2) h
  obtain ⟨v0, v1, v2, rfl⟩ := len_3 hvs
  exact (hbind doc pm an cdv ct v0 v1 v2).symm
theorem code_fn4 {a : Addr} {qual : Str} {st : Stmt} (x0 x1 x2 x3 : Str) {y0 y1 y2 y3 : V} (hf : HasFn c.K a qual st)
    (hbind : ∀ doc pm an cdv ct v0 v1 v2 v3, pure [(x0, v0), (x1, v1), (x2, v2), (x3, v3)] = bindArgs (fnOf (stName st) qual (stArgs st) (stBody st) (stScope st) .none .none doc pm an cdv ct) ⟨[v0, v1, v2, v3], []⟩)
    (hsc : scOk (stScope st) [x0, x1, x2, x3] = true)
    (h : ∀ L cdv, OkB c d (envOfC qual (stScope st) L a cdv) (stBody st) [(x0, y0), (x1, y1), (x2, y2), (x3, y3)] σ (RetOk Q)) : CodeOk c (d + 1) (.ref a) [y0, y1, y2, y3] σ Q := by
  obtain ⟨h1, h2⟩ := Bool.and_eq_true_iff.mp hsc
  refine code_fn [x0, x1, x2, x3] hf rfl (fun doc pm an cdv ct vs hvs => ?_) h1 (of_decide_eq_true h2) h
  obtain ⟨v0, v1, v2, v3, rfl⟩ := len_4 hvs
  exact (hbind doc pm an cdv ct v0 v1 v2 v3).symm
theorem code_fn6 {a : Addr} {qual : Str} {st : Stmt} (x0 x1 x2 x3 x4 x5 : Str) {y0 y1 y2 y3 y4 y5 : V} (hf : HasFn c.K a qual st)
    (hbind : ∀ doc pm an cdv ct v0 v1 v2 v3 v4 v5, pure [(x0, v0), (x1, v1), (x2, v2), (x3, v3), (x4, v4), (x5, v5)] = bindArgs (fnOf (stName st) qual (stArgs st) (stBody st) (stScope st) .none .none doc pm an cdv ct) ⟨[v0, v1, v2, v3, v4, v5], []⟩)
    (hsc : scOk (stScope st) [x0, x1, x2, x3, x4, x5] = true)
    (h : ∀ L cdv, OkB c d (envOfC qual (stScope st) L a cdv) (stBody st) [(x0, y0), (x1, y1), (x2, y2), (x3, y3), (x4, y4), (x5, y5)] σ (RetOk Q)) : CodeOk c (d + 1) (.ref a) [y0, y1, y2, y3, y4, y5] σ Q := by
  obtain ⟨h1, h2⟩ := Bool.and_eq_true_iff.mp hsc
  refine code_fn [x0, x1, x2, x3, x4, x5] hf rfl (fun doc pm an cdv ct vs hvs => ?_) h1 (of_decide_eq_true h2) h
  obtain ⟨v0, v1, v2, v3, v4, v5, rfl⟩ := len_6 hvs
  exact (hbind doc pm an cdv ct v0 v1 v2 v3 v4 v5).symm
theorem run_eqs_t {a b : Str} (e : (a == b) = true) (h : Q (.bool true) σ) : Run2 c d env lk σ (compareOp .Eq) (.str a) (.str b) Q := run_eqs (by rw [e]; exact h)
theorem run_eqs_f {a b : Str} (e : (a == b) = false) (h : Q (.bool false) σ) : Run2 c d env lk σ (compareOp .Eq) (.str a) (.str b) Q := run_eqs (by rw [e]; exact h)
theorem t_false {QT QF : Prop} (h : QF) : ∃ t, V.bool false = .bool t ∧ ((t = true → QT) ∧ (t = false → QF)) := ⟨false, rfl, (fun e => nomatch e), fun zz => h⟩
theorem t_true {QT QF : Prop} (h : QT) : ∃ t, V.bool true = .bool t ∧ ((t = true → QT) ∧ (t = false → QF)) := ⟨true, rfl, fun zz => h, (fun e => nomatch e)⟩
theorem t_dec {p : Prop} [Decidable p] {QT QF : Prop} (h : p → QT) (h' : ¬ p → QF) : ∃ t, V.bool (decide p) = .bool t ∧ ((t = true → QT) ∧ (t = false → QF)) := ⟨_, rfl, fun e => h (of_decide_eq_true e), fun e => h' (of_decide_eq_false e)⟩
theorem b_false {QT QF : Prop} (h : QF) : (false = true → QT) ∧ (false = false → QF) := ⟨(fun e => nomatch e), fun zz => h⟩
theorem b_true {QT QF : Prop} (h : QT) : (true = true → QT) ∧ (true = false → QF) := ⟨fun zz => h, (fun e => nomatch e)⟩
theorem tn_true {QT QF : Prop} (h : QF) : ∃ t, V.bool true = .bool t ∧ (((!t) = true → QT) ∧ ((!t) = false → QF)) := ⟨true, rfl, (fun e => nomatch e), fun zz => h⟩
theorem tn_false {QT QF : Prop} (h : QT) : ∃ t, V.bool false = .bool t ∧ (((!t) = true → QT) ∧ ((!t) = false → QF)) := ⟨false, rfl, fun zz => h, (fun e => nomatch e)⟩
theorem t_ndec {p : Prop} [Decidable p] {QT QF : Prop} (h : ¬ p → QT) (h' : p → QF) : ∃ t, V.bool (!decide p) = .bool t ∧ ((t = true → QT) ∧ (t = false → QF)) := ⟨_, rfl, fun e => h (by simpa using e), fun e => h' (by simpa using e)⟩
theorem run_notInI_f {j : Nat} {g : Int → Option V} {k : Int} {y : V} (hlow : 3 < c.H0.objs.size) (hj : σ j = some (.dictI g)) (hy : g k = some y) (h : Q (.bool false) σ) : Run2 c d env lk σ (compareOp .NotIn) (.int k) (.ref j) Q := run_notInI hlow hj (by rw [hy]; exact h)
theorem run_notInI_t {j : Nat} {g : Int → Option V} {k : Int} (hlow : 3 < c.H0.objs.size) (hj : σ j = some (.dictI g)) (hy : g k = none) (h : Q (.bool true) σ) : Run2 c d env lk σ (compareOp .NotIn) (.int k) (.ref j) Q := run_notInI hlow hj (by rw [hy]; exact h)
theorem t_any {b : Bool} {P : Bool → Prop} (h : P b) : ∃ t, V.bool b = .bool t ∧ P t := ⟨_, rfl, h⟩
end
-- G0
section
variable {c : Ctx} {d : Nat} {env : Env} {lk : Loc} {σ : Sto} {Q : V → Sto → Prop} {e l r : Expr} {es : List Expr} {pos p : Pos} {y a b : V} {ys : List V}
structure Val (e : Expr) (c : Ctx) (d : Nat) (env : Env) (lk : Loc) (σ : Sto) (y : V) : Prop where
  ok : ∀ Q : V → Sto → Prop, Q y σ → Ok c d env e lk σ Q
structure ValL (es : List Expr) (c : Ctx) (d : Nat) (env : Env) (lk : Loc) (σ : Sto) (ys : List V) : Prop where
  ok : ∀ Q : List V → Sto → Prop, Q ys σ → OkL c d env es lk σ Q
noncomputable def leaf (e : Expr) : Bool := Nat.beq e.ctorIdx 23 || Nat.beq e.ctorIdx 19 || Nat.beq e.ctorIdx 20
noncomputable def leaves : List Expr → Bool
  | [] => true
  | e :: r => leaf e && leaves r
theorem val_int {i : Int} {k} : Val (.Constant (.int i) k pos) c d env lk σ (.int i) := ⟨fun zz => ok_int⟩
theorem val_str {x : Str} {k} : Val (.Constant (.str x) k pos) c d env lk σ (.str x) := ⟨fun zz => ok_str⟩
theorem val_none {k} : Val (.Constant .none k pos) c d env lk σ .none := ⟨fun zz => ok_none⟩
theorem val_name {x : Str} (hl : lk.lookup x = some y) (hk : VarK env x) (hd : dbg x = false) : Val (.Name x pos) c d env lk σ y := ⟨fun zz => okv hl hk hd⟩
theorem val_field {x attr : Str} {k : Nat} (hl : lk.lookup x = some (.ref k)) (hk : VarK env x) (hd : dbg x = false) (hF : InstF c σ k attr y)
    (hb : attributeBase (.Name x p) attr env (eval (.Name x p) env) = eval (.Name x p) env) : Val (.Attribute (.Name x p) attr pos) c d env lk σ y := ⟨fun zz => okv_field hl hk hd hF hb⟩
theorem valL_nil : ValL [] c d env lk σ [] := ⟨fun zz => okl_nil⟩
theorem valL_cons (v : Val e c d env lk σ y) (he : ∀ env, starEach (e :: es) env = (false, eval e env) :: starEach es env) (vs : ValL es c d env lk σ ys) : ValL (e :: es) c d env lk σ (y :: ys) := ⟨fun zz h => okl_cons (v.ok _ (vs.ok _ h)) he⟩
theorem okl_vals {QL : List V → Sto → Prop} (hl : leaves es = true) (v : ValL es c d env lk σ ys) (h : QL ys σ) : OkL c d env es lk σ QL := v.ok QL h
theorem vals_binop {op : Operator} (hl : (leaf l && leaf r) = true) (v : Val l c d env lk σ a) (w : Val r c d env lk σ b) (h : Run2 c d env lk σ (binaryOp op) a b Q) : Ok c d env (.BinOp l op r pos) lk σ Q := ok_binop (v.ok _ (w.ok _ h))
theorem vals_item (hl : (leaf l && leaf r) = true) (v : Val l c d env lk σ a) (w : Val r c d env lk σ b) (h : Run2 c d env lk σ (subscriptTail l r) a b Q) : Ok c d env (.Subscript l r pos) lk σ Q := ok_item (v.ok _ (w.ok _ h))
theorem vals_cmp {op : CmpOp} (hl : (leaf l && leaf r) = true) (v : Val l c d env lk σ a) (w : Val r c d env lk σ b) (hm : behindInMarks op r = false) (h : Run2 c d env lk σ (compareOp op) a b Q) : Ok c d env (.Compare l [op] [r] pos) lk σ Q := ok_compare (v.ok _ (w.ok _ h)) hm
theorem vals_cmpT {op : CmpOp} {QT : Bool → Sto → Prop} (hl : (leaf l && leaf r) = true) (v : Val l c d env lk σ a) (w : Val r c d env lk σ b) (hm : behindInMarks op r = false) (h : Run2 c d env lk σ (compareOp op) a b (fun y σ₃ => ∃ t, y = .bool t ∧ QT t σ₃)) : OkT c d env (.Compare l [op] [r] pos) lk σ QT := okt_compare (v.ok _ (w.ok _ h)) hm
end
-- D4
section
variable {c : Ctx} {A : Ads} {d : Nat} {env : Env} {lk : Loc} {σ : Sto} {pos : Pos} {QX : Fl → Loc → Sto → Prop} {Q : V → Sto → Prop}
noncomputable def NoneAll (lk : Loc) : List Str → Prop
  | [] => True
  | x :: r => lk.lookup x = none ∧ NoneAll lk r
theorem NoneAll.at {x : Str} {ls : List Str} (h : NoneAll lk ls) (hm : x ∈ ls) : lk.lookup x = none := by
  induction ls with
  | nil => exact absurd hm List.not_mem_nil
  | cons y r ih => exact (List.mem_cons.mp hm).elim (fun e => e ▸ h.1) (ih h.2)
noncomputable def compChk (names outer : List (Str × NameKind)) (ls : List Str) : Bool :=
  names.all fun p => names.lookup p.1 == some p.2 && (p.2 != .free || outer.lookup p.1 == some .cell || outer.lookup p.1 == some .free) && ((p.2 != .local && p.2 != .cell) || ls.contains p.1) && names.all fun q => p.2 != .cell || q.2 != .cell || p.1 == q.1
theorem comp_chk {scope : Scope} {env : Env} {outer : List (Str × NameKind)} (ls : List Str) (hk : scope.kind = .function) (hc : compChk scope.names outer ls = true) (hn : NoneAll lk ls) (ho : ∀ x, outer.lookup x = some .cell ∨ outer.lookup x = some .free → env.kindOf x = some .cell ∨ env.kindOf x = some .free) : CScope scope env lk := by
  have h : ∀ p ∈ scope.names, ((scope.names.lookup p.1 = some p.2 ∧ ((p.2 ≠ .free ∨ outer.lookup p.1 = some .cell) ∨ outer.lookup p.1 = some .free)) ∧ ((p.2 ≠ .local ∧ p.2 ≠ .cell) ∨ p.1 ∈ ls)) ∧ ∀ q ∈ scope.names, (p.2 ≠ .cell ∨ q.2 ≠ .cell) ∨ p.1 = q.1 := fun p hp => by
    have := List.all_eq_true.mp hc p hp
    simpa only [Bool.and_eq_true, Bool.or_eq_true, bne_iff_ne, beq_iff_eq, List.contains_iff_mem, List.all_eq_true] using this
  refine ⟨hk, fun p hp q hq e1 e2 => ?_, fun p hp => (h p hp).1.1.1, fun p hp e => ?_, fun p hp e => ?_⟩
  · rcases (h p hp).2 q hq with (z | z) | z
    · exact absurd e1 z
    · exact absurd e2 z
    · exact z
  · rcases (h p hp).1.1.2 with (q | q) | q
    · exact absurd e q
    · exact ho _ (.inl q)
    · exact ho _ (.inr q)
  · rcases (h p hp).1.2 with q | q
    · exact (e.elim (fun e => q.1 e) fun e => q.2 e).elim
    · exact hn.at q
theorem cscope_fn {scope sc : Scope} {qual : Str} {L a : Addr} {cdv : Value} (ls : List Str) (hk : scope.kind = .function) (hc : compChk scope.names sc.names ls = true) (hn : NoneAll lk ls) : CScope scope (envOfC qual sc L a cdv) lk := comp_chk ls hk hc hn fun zz h => h
theorem cscope_comp {scope sc : Scope} {cl : List (Str × Addr)} {C : Addr} {env : Env} (ls : List Str) (hk : scope.kind = .function) (hc : compChk scope.names sc.names ls = true) (hn : NoneAll lk ls) : CScope scope (compEnvC sc cl C env) lk :=
  comp_chk ls hk hc hn fun zz h => h.elim (fun h => .inl (relabel_iscell h)) relabel_isfree
open Classical in
theorem run_eqv_t {a b : V} (ha : a.plain 8 = true) (hb : b.plain 8 = true) (e : a = b) (h : Q (.bool true) σ) : Run2 c d env lk σ (compareOp .Eq) a b Q := run_eqv ha hb (by rw [decide_eq_true e]; exact h)
theorem ex_field {k : Nat} {attr : Str} {z : V} {R : V → Prop} (hF : InstF c σ k attr z) (h : R z) : ∃ k' z', V.ref k = .ref k' ∧ InstF c σ k' attr z' ∧ R z' := ⟨k, z, rfl, hF, h⟩
open Classical in
theorem run_in_t {x : V} {xs : List V} (hx : x.plain 8 = true) (hxs : plains 8 xs = true) (e : x ∈ xs) (h : Q (.bool true) σ) : Run2 c d env lk σ (compareOp .In) x (.tup xs) Q := run_in hx hxs (by rw [decide_eq_true e]; exact h)
theorem okb_swap2 {t e : Expr} {rest : List Stmt} (x y : Str) (h : Ok c d env e lk σ (fun v σ' => ∃ a b, v = .tup [a, b] ∧ OkB c d env rest (put x a (put y b lk)) σ' QX))
    (hs : swapsWithSole [t] e pos.line env = pure false) (hw : swappedStores [t] e env = pure (some [x, y])) (hx : StoK env x) (hy : StoK env y) : OkB c d env (.Assign [t] e pos :: rest) lk σ QX :=
  okb_swap (names := [x, y]) (h.mono fun v σ' hh => by obtain ⟨a, b, rfl, hh⟩ := hh; exact ⟨[a, b], rfl, rfl, hh⟩) hs hw (fun z hz => by
    simp only [List.mem_cons, List.not_mem_nil, or_false] at hz
    rcases hz with rfl | rfl
    · exact hx
    · exact hy)
theorem okb_swap3 {t e : Expr} {rest : List Stmt} (x y z : Str) (h : Ok c d env e lk σ (fun v σ' => ∃ a b g, v = .tup [a, b, g] ∧ OkB c d env rest (put x a (put y b (put z g lk))) σ' QX))
    (hs : swapsWithSole [t] e pos.line env = pure false) (hw : swappedStores [t] e env = pure (some [x, y, z])) (hx : StoK env x) (hy : StoK env y) (hz : StoK env z) : OkB c d env (.Assign [t] e pos :: rest) lk σ QX :=
  okb_swap (names := [x, y, z]) (h.mono fun v σ' hh => by obtain ⟨a, b, g, rfl, hh⟩ := hh; exact ⟨[a, b, g], rfl, rfl, hh⟩) hs hw (fun u hu => by
    simp only [List.mem_cons, List.not_mem_nil, or_false] at hu
    rcases hu with rfl | rfl | rfl
    · exact hx
    · exact hy
    · exact hz)
theorem ex_two {a b : V} {R : V → V → Prop} (h : R a b) : ∃ a' b', V.tup [a, b] = .tup [a', b'] ∧ R a' b' := ⟨a, b, rfl, h⟩
theorem ex_three {a b g : V} {R : V → V → V → Prop} (h : R a b g) : ∃ a' b' g', V.tup [a, b, g] = .tup [a', b', g'] ∧ R a' b' g' := ⟨a, b, g, rfl, h⟩
theorem plainI {i : Expr} (h : ∀ a b, ∃ ops, subscripted i false a b = operate ops (getItem a b) := by exact fun zz zz => ⟨_, rfl⟩) : PlainSub i := h
theorem len1 {a : V} : [a].length ≤ sizeLine := le_line (by show 1 ≤ 10000; decide)
theorem len2 {a b : V} : [a, b].length ≤ sizeLine := le_line (by show 2 ≤ 10000; decide)
theorem len3 {a b e : V} : [a, b, e].length ≤ sizeLine := le_line (by show 3 ≤ 10000; decide)
theorem len0 : ([] : List V).length ≤ sizeLine := le_line (by show 0 ≤ 10000; decide)
end
section
set_option compiler.extract_closed false
local macro_rules | `(tactic| k_memK) => `(tactic| first | exact vk_fn (by kcj_in) | exact vk_comp (by kcj_in))
local macro_rules | `(tactic| k_upd) => `(tactic| first | exact sk_fn (by kcj_in) | exact sk_comp (by kcj_in))
local macro_rules | `(tactic| k_updF) => `(tactic| first | exact gk_fn (by kcj_in) | exact gk_comp (by kcj_in))
local macro_rules | `(tactic| kpt_turns) => `(tactic| with_reducible repeat (first | exact lookup_put_hit | exact lookup_hit | (apply lookup_put_skip; focus kbo_bools) | (apply lookup_skip; focus kbo_bools)))
local macro_rules | `(tactic| keq_hits) => `(tactic| with_reducible repeat (first | exact none_nil | (apply none_put; focus kbo_bools) | (apply none_cons; focus kbo_bools)))
local macro_rules | `(tactic| keq_rows) => `(tactic| with_reducible repeat (first | exact sub_nil | (apply sub_cons; focus kpt_turns)))
local macro_rules | `(tactic| kpf_c) => `(tactic| with_reducible first | exact val_name (by kpt_turns) (by k_memK) (by kbo_bools) | exact val_int | exact val_str | exact val_field (by kpt_turns) (by k_memK) (by kbo_bools) (by assumption) (by lcg_sub) | exact val_none)
local macro_rules | `(tactic| kpf_close) => `(tactic| with_reducible first | exact valL_cons (by kpf_c) (fun _ => by lcg_sub) (by kpf_close) | exact valL_nil)
local macro_rules | `(tactic| kct_strs) => `(tactic| with_reducible first
  | (change OkL ..; first | refine okl_vals (by lcg_sub) (by kpf_close) ?_ | refine okl_cons ?_ (fun _ => by lcg_sub) | refine okl_nil ?_)
  | (change Ok ..; first | (change Ok _ _ _ (.Call ..) ..; first | refine okb_call (‹Lib _ _›).b_len bb_len rfl (by lcg_src) (by k_updF) (by kbo_bools) (fun _ => by lcg_sub) ?_ | refine okb_call (‹Lib _ _›).b_isinstance bb_isinstance rfl (by lcg_src) (by k_updF) (by kbo_bools) (fun _ => by lcg_sub) ?_ | refine okb_call (‹Lib _ _›).b_int bb_int rfl (by lcg_src) (by k_updF) (by kbo_bools) (fun _ => by lcg_sub) ?_ | refine okb_call (‹Lib _ _›).b_min bb_min rfl (by lcg_src) (by k_updF) (by kbo_bools) (fun _ => by lcg_sub) ?_ | refine okb_call (‹Lib _ _›).b_str bb_str rfl (by lcg_src) (by k_updF) (by kbo_bools) (fun _ => by lcg_sub) ?_) | (change Ok _ _ _ (.Attribute ..) ..; first | refine okv_field (by kpt_turns) (by k_memK) (by kbo_bools) (by assumption) (by lcg_sub) ?_ | refine ok_fieldF ?_ (by lcg_sub)) | (change Ok _ _ _ (.Name ..) ..; first | refine okv (by kpt_turns) (by k_memK) (by kbo_bools) ?_ | refine okbv (‹Lib _ _›).b_str bb_str (by lcg_src) (by k_updF) (by kbo_bools) ?_ | refine okbv (‹Lib _ _›).b_tuple bb_tuple (by lcg_src) (by k_updF) (by kbo_bools) ?_) | (change Ok _ _ _ (.Constant ..) ..; first | refine ok_int ?_ | refine ok_str ?_ | refine ok_none ?_) | refine vals_binop (by lcg_sub) (by kpf_c) (by kpf_c) ?_ | refine vals_item (by lcg_sub) (by kpf_c) (by kpf_c) ?_ | refine vals_cmp (by lcg_sub) (by kpf_c) (by kpf_c) (by lcg_sub) ?_ | refine ok_binop ?_ | refine ok_item ?_ | refine ok_compare ?_ (by lcg_sub) | refine ok_tuple ?_ | refine ok_ifexp ?_ | refine ok_unop ?_)
  | (change OkT ..; first | refine vals_cmpT (by lcg_sub) (by kpf_c) (by kpf_c) (by lcg_sub) ?_ | refine okt_compare ?_ (by lcg_sub) | refine okt_boolop ?_ | refine okt_not ?_ | refine okt_value ?_ (fun _ _ => by lcg_sub))
  | (change Run2 ..; first | refine item_tup plainI (by decide) (by decide) (by lcg_sub) ?_ | refine run_add ?_ | refine run_sub ?_ | refine run_lt ?_ | refine run_le ?_ | refine run_gt ?_ | refine run_ge ?_ | refine run_eq ?_ | refine run_ne ?_ | refine run_eqs_f (by lcg_src) ?_ | refine run_eqs_t (by lcg_src) ?_ | refine run_eqs ?_)
  | (change OkB ..; first | refine okb_return ?_ | refine okb_if ?_ | refine okb_let ?_ (by k_upd) (by lcg_sub) (by lcg_sub) | refine okb_expr ?_ (by lcg_sub) (by lcg_sub) | refine okb_nil ?_ | refine okb_for ?_ (fun _ => by lcg_sub))
  | (change CallF ..; first | refine callf_isi_str ?_ | refine callf_isi_tuple ?_ | refine callf_int_bool ?_)
  | (change Exists _; first | refine t_false ?_ | refine t_true ?_ | refine tn_true ?_ | refine tn_false ?_ | refine ex_field (by assumption) ?_ | refine ex_two ?_ | refine ex_three ?_)
  | (change And _ _; first | refine And.intro len2 ?_ | refine And.intro len3 ?_ | refine And.intro len0 ?_ | refine And.intro len1 ?_ | refine b_false ?_ | refine b_true ?_)
  | (change OkAll ..; first | refine okall_and ?_ | refine okall_or ?_ | refine okall_and_nil ?_ | refine okall_or_nil ?_)
  | (change OkIt ..; first | refine okit_range1 (‹Lib _ _›).b_range (by k_updF) ?_ (fun _ => by lcg_sub) | refine okit_range3 (‹Lib _ _›).b_range (by k_updF) ?_ (fun _ => by lcg_sub) (fun _ => ⟨_, _, by with_unfolding_all rfl⟩) | refine okit_enum (‹Lib _ _›).b_enumerate (by k_updF) ?_ (fun _ => by lcg_sub))
  | (change Run1 ..; first | refine run_neg ?_)
  | refine ret_ret ?_
  | refine then_ret ?_
  | refine then_next ?_
  | refine loopfl_ret ?_)
local macro_rules | `(tactic| kas_types) => `(tactic| repeat kct_strs)
local macro_rules | `(tactic| kat_tups) => `(tactic| conv in (stBody _) => whnf)
-- E1
section
section
variable {c : Ctx} {A : Ads} {d : Nat} {env : Env} {lk : Loc} {σ : Sto} {pos : Pos} {QX : Fl → Loc → Sto → Prop} {Q : V → Sto → Prop}
theorem t_is_nought (LB : Lib c A) {i : Int} (h : Q (.bool (decide (i = 0))) σ) : CodeOk c 1 (.ref A.f_is_nought) [.int i] σ Q := by
  refine code_fn1 "value" LB.is_nought.fn (by intros; rfl) (by lcg_src) fun L cdv => ?_
  kat_tups
  kas_types
  exact h
theorem t_is_true (LB : Lib c A) {i : Int} (h : Q (.bool (!decide (i = 0))) σ) : CodeOk c 2 (.ref A.f_is_true) [.int i] σ Q := by
  refine code_fn1 "value" LB.is_true.fn (by intros; rfl) (by lcg_src) fun L cdv => ?_
  kat_tups
  kas_types
  with_reducible refine okg_call (‹Lib _ _›).is_nought.ns (‹Lib _ _›).is_nought.keep (by k_updF) (by kbo_bools) (fun zz => by lcg_sub) ?_
  kas_types
  refine CodeOk.f (t_is_nought LB ?_) (by decide)
  exact run_not h
theorem t_fits (LB : Lib c A) {i : Int} (h1 : -32768 ≤ i) (h2 : i < 32768) (h : Q (.bool true) σ) : CodeOk c 1 (.ref A.f_fits) [.int i, .int 16] σ Q := by
  refine code_fn2 "number" "bits" LB.fits.fn (by intros; rfl) (by lcg_src) fun L cdv => ?_
  kat_tups
  kas_types
  refine ok_chain2 ?_ (by lcg_sub)
  kas_types
  refine run_lshift (by decide) (by decide) (by decide) ?_
  kas_types
  refine ⟨_, rfl, fun e => ?_, fun zz => ?_⟩
  · exact absurd (of_decide_eq_false e) (by simpa using h1)
  · kas_types
    refine run_lshift (by decide) (by decide) (by decide) ?_
    kas_types
    have : decide (i < 1 * 2 ^ (16 - 1 : Int).toNat) = true := decide_eq_true (by simpa using h2)
    rw [this]
    exact h
theorem t_whole_of (LB : Lib c A) {i : Int} (h1 : -32768 ≤ i) (h2 : i < 32768) (h : Q (.int i) σ) : CodeOk c 2 (.ref A.f_whole_of) [.int i, .int 16] σ Q := by
  refine code_fn2 "value" "bits" LB.whole_of.fn (by intros; rfl) (by lcg_src) fun L cdv => ?_
  kat_tups
  kas_types
  with_reducible refine okg_call (‹Lib _ _›).fits.ns (‹Lib _ _›).fits.keep (by k_updF) (by kbo_bools) (fun zz => by lcg_sub) ?_
  kas_types
  refine CodeOk.f (t_fits LB h1 h2 ?_) (by decide)
  kas_types
  exact h
theorem t_chosen (LB : Lib c A) {i : Int} {n : Nat} (h1 : 0 ≤ i) (h2 : i ≤ 255) (h : Q (if 1 ≤ i ∧ i ≤ n then .int (i - 1) else .none) σ) : CodeOk c 1 (.ref A.f_chosen) [.int i, .int n] σ Q := by
  obtain ⟨t, hm⟩ := LB.most_number
  refine code_fn2 "number" "many" LB.chosen.fn (by intros; rfl) (by lcg_src) fun L cdv => ?_
  kat_tups
  kas_types
  refine okt_chain2 ?_ (by lcg_sub)
  kas_types
  refine ⟨_, rfl, fun e => absurd (of_decide_eq_false e) (by lcg_off), fun zz => ?_⟩
  refine okgv hm (.int _ _) (by k_updF) (by kbo_bools) ?_
  refine run_le ?_
  rw [decide_eq_true h2]
  refine t_any (b_false ?_)
  · kas_types
    refine okt_chain2 ?_ (by lcg_sub)
    kas_types
    refine ⟨_, rfl, fun e => ?_, fun e => ?_⟩
    · refine b_false ?_
      have e := of_decide_eq_false e
      rw [if_neg (fun x => e x.1)] at h
      exact ok_none h
    · have e := of_decide_eq_true e
      kas_types
      refine t_dec (fun q => ?_) (fun q => ?_)
      · rw [if_pos ⟨e, q⟩] at h
        kas_types
        exact h
      · rw [if_neg (fun x => q x.2)] at h
        exact ok_none h
end
end
-- E2
section
section
variable {c : Ctx} {A : Ads} {d : Nat} {env : Env} {lk : Loc} {σ : Sto} {pos : Pos} {QX : Fl → Loc → Sto → Prop} {Q : V → Sto → Prop}
structure CtlAt (A : Ads) (σ : Sto) (kc kp : Nat) : Prop where
  at_ : ∃ n f, n ≤ 900 ∧ σ kc = some (.inst A.c_Control n f) ∧ f "pile" = some (.ref kp) ∧ f "most" = some (.int 20)
structure FlatAt (A : Ads) (σ : Sto) (kf kr kl kp : Nat) : Prop where
  at_ : ∃ n f, σ kf = some (.inst A.c_Flat n f) ∧ f "rows" = some (.ref kr) ∧ f "places" = some (.ref kl) ∧ f "pairs" = some (.ref kp)
theorem CtlAt.pile (h : CtlAt A σ kc kp) (LB : Lib c A) : InstF c σ kc "pile" (.ref kp) := by
  obtain ⟨n, f, _, h1, h2, h3⟩ := h.at_
  exact ⟨_, n, f, h1, LB.Control.cls, LB.Control_pile.get, h2, trivial⟩
theorem CtlAt.most (h : CtlAt A σ kc kp) (LB : Lib c A) : InstF c σ kc "most" (.int 20) := by
  obtain ⟨n, f, _, h1, h2, h3⟩ := h.at_
  exact ⟨_, n, f, h1, LB.Control.cls, LB.Control_most.get, h3, trivial⟩
theorem FlatAt.rows (h : FlatAt A σ kf kr kl kp) (LB : Lib c A) : InstF c σ kf "rows" (.ref kr) := by
  obtain ⟨n, f, h1, h2, h3, h4⟩ := h.at_
  exact ⟨_, n, f, h1, LB.Flat.cls, LB.Flat_rows.get, h2, trivial⟩
theorem FlatAt.places (h : FlatAt A σ kf kr kl kp) (LB : Lib c A) : InstF c σ kf "places" (.ref kl) := by
  obtain ⟨n, f, h1, h2, h3, h4⟩ := h.at_
  exact ⟨_, n, f, h1, LB.Flat.cls, LB.Flat_places.get, h3, trivial⟩
theorem FlatAt.pairs (h : FlatAt A σ kf kr kl kp) (LB : Lib c A) : InstF c σ kf "pairs" (.ref kp) := by
  obtain ⟨n, f, h1, h2, h3, h4⟩ := h.at_
  exact ⟨_, n, f, h1, LB.Flat.cls, LB.Flat_pairs.get, h4, trivial⟩
theorem t_put_upon (LB : Lib c A) {kc kp : Nat} {xs : List V} {e : V} (hc : CtlAt A σ kc kp) (hp : σ kp = some (.list xs)) (hl : xs.length < 20) (h : Q .none (upd σ kp (.list (xs ++ [e])))) : CodeOk c 1 (.ref A.f_put_upon) [.ref kc, e] σ Q := by
  have f1 := hc.pile LB
  have f2 := hc.most LB
  refine code_fn2 "control" "entry" LB.put_upon.fn (by intros; rfl) (by lcg_src) fun L cdv => ?_
  kat_tups
  kas_types
  refine callf_len (.inr (.inr ⟨_, rfl, hp⟩)) (le_line (by lcg_off)) ?_
  kas_types
  rw [decide_eq_false (by lcg_off)]
  kas_types
  with_reducible refine ok_meth ?_ (by lcg_sub) (by lcg_sub) (by lcg_sub) (by lcg_sub)
  kas_types
  refine mk_meth (meth_append hp) rfl ?_
  kas_types
  refine callf_append hp (le_line (by lcg_off)) ?_
  kas_types
  exact h
theorem t_gosub (LB : Lib c A) {kc kp : Nat} {xs : List V} {e : Int} (hc : CtlAt A σ kc kp) (hp : σ kp = some (.list xs)) (hl : xs.length < 20) (h : Q .none (upd σ kp (.list (xs ++ [.tup [.str "GOSUB", .int e]])))) : CodeOk c 2 (.ref A.f_gosub) [.ref kc, .int e] σ Q := by
  refine code_fn2 "control" "place" LB.gosub.fn (by intros; rfl) (by lcg_src) fun L cdv => ?_
  kat_tups
  kas_types
  with_reducible refine okg_call (‹Lib _ _›).put_upon.ns (‹Lib _ _›).put_upon.keep (by k_updF) (by kbo_bools) (fun zz => by lcg_sub) ?_
  kas_types
  refine CodeOk.f (t_put_upon LB hc hp hl ?_) (by decide)
  kas_types
  exact h
theorem t_cut_to (LB : Lib c A) {kc kp : Nat} {xs : List V} {n : Nat} (hc : CtlAt A σ kc kp) (hp : σ kp = some (.list xs)) (hl : xs.length ≤ 100)
    (h : ∀ k σ', σ k = none → CtlAt A σ' kc k → σ' k = some (.list (xs.take n)) → (∀ j, j ≠ k → j ≠ kc → σ' j = σ j) → Q .none σ') : CodeOk c 1 (.ref A.f_cut_to) [.ref kc, .int n] σ Q := by
  have hpile := hc.pile LB
  obtain ⟨m, f, hm, h1, h2, h3⟩ := hc.at_
  refine code_fn2 "control" "many" LB.cut_to.fn (by intros; rfl) (by lcg_src) fun L cdv => ?_
  kat_tups
  refine okb_assign ?_ (by lcg_sub) (by lcg_sub) (by lcg_sub)
  refine ok_sliceC ?_ (fun zz zz => ⟨_, rfl⟩)
  kas_types
  show Ok c 0 _ _ _ _ _
  kas_types
  refine ⟨xs, _, .inr ⟨_, rfl, hp⟩, le_line (by lcg_off), .upto _ _ (by lcg_off), fun k hk => ?_⟩
  have hne : kc ≠ k := by rintro rfl; rw [h1] at hk; cases hk
  refine oka_field ?_
  kas_types
  refine ⟨kc, A.c_Control, m, f, rfl, (upd_ne hne).trans h1, LB.Control.cls, LB.Control_pile.put, hm, ?_⟩
  kas_types
  refine h k _ hk ⟨_, _, ?_, upd_self .., ?_, ?_⟩ ?_ ?_
  · rw [if_pos (by rw [h2]; rfl)]; exact hm
  · rw [if_pos rfl]
  · rw [if_neg (by decide)]; exact h3
  · rw [upd_ne (Ne.symm hne), upd_self, Int.toNat_natCast]
  · intro j h4 h5
    rw [upd_ne h5, upd_ne h4]
end
end
-- E3
section
section
variable {c : Ctx} {A : Ads} {d : Nat} {env : Env} {lk : Loc} {σ : Sto} {pos : Pos} {QX : Fl → Loc → Sto → Prop} {Q : V → Sto → Prop}
theorem t_floor_gosub (LB : Lib c A) {kp : Nat} {ys : List V} {e : V} (hp : σ kp = some (.list (ys ++ [.tup [.str "GOSUB", e]]))) (hl : ys.length < 100) (h : Q (.int (ys.length + 1)) σ) : CodeOk c 1 (.ref A.f_floor_of) [.ref kp] σ Q := by
  refine code_fn1 "pile" LB.floor_of.fn (by intros; rfl) (by lcg_src) fun L cdv => ?_
  kat_tups
  kas_types
  refine callf_len (.inr (.inr ⟨_, rfl, hp⟩)) (le_line (by simp; lcg_off)) ?_
  kas_types
  refine ⟨_, _, rfl, by lcg_off, by simp; lcg_off, by decide, by decide, trivial, ?_⟩
  have e1 : ((((ys ++ [V.tup [.str "GOSUB", e]]).length : Nat) : Int) - 0).toNat = ys.length + 1 := by simp
  rw [e1]
  refine loop_name (by k_upd) ?_
  kas_types
  refine item_cell (fun zz zz => ⟨_, rfl⟩) hp (by lcg_off) (by lcg_off) (y := .tup [.str "GOSUB", e]) (by simp) ?_
  kas_types
  simpa using h
theorem t_floor_nil (LB : Lib c A) {kp : Nat} (hp : σ kp = some (.list [])) (h : Q (.int 0) σ) : CodeOk c 1 (.ref A.f_floor_of) [.ref kp] σ Q := by
  refine code_fn1 "pile" LB.floor_of.fn (by intros; rfl) (by lcg_src) fun L cdv => ?_
  kat_tups
  kas_types
  refine callf_len (.inr (.inr ⟨_, rfl, hp⟩)) (le_line (by decide)) ?_
  kas_types
  refine ⟨_, _, rfl, by decide, by decide, by decide, by decide, trivial, ?_⟩
  refine loop_nil ?_
  kas_types
  exact h
theorem t_return_place (LB : Lib c A) {kc kp : Nat} {ys : List V} {e : Int} (hc : CtlAt A σ kc kp) (hp : σ kp = some (.list (ys ++ [.tup [.str "GOSUB", .int e]]))) (hl : ys.length < 100)
    (h : ∀ k σ', σ k = none → CtlAt A σ' kc k → σ' k = some (.list ys) → (∀ j, j ≠ k → j ≠ kc → σ' j = σ j) → Q (.int e) σ') : CodeOk c 2 (.ref A.f_return_place) [.ref kc] σ Q := by
  have f1 := hc.pile LB
  refine code_fn1 "control" LB.return_place.fn (by intros; rfl) (by lcg_src) fun L cdv => ?_
  kat_tups
  kas_types
  with_reducible refine okg_call (‹Lib _ _›).floor_of.ns (‹Lib _ _›).floor_of.keep (by k_updF) (by kbo_bools) (fun zz => by lcg_sub) ?_
  kas_types
  refine CodeOk.f (t_floor_gosub LB hp hl ?_) (by decide)
  kas_types
  rw [decide_eq_false (by lcg_off)]
  kas_types
  refine item_cell (fun zz zz => ⟨_, rfl⟩) hp (by lcg_off) (by lcg_off) (y := .tup [.str "GOSUB", .int e]) (by simp) ?_
  kas_types
  with_reducible refine okg_call (‹Lib _ _›).cut_to.ns (‹Lib _ _›).cut_to.keep (by k_updF) (by kbo_bools) (fun zz => by lcg_sub) ?_
  kas_types
  have e1 : ((ys.length : Int) + 1 - 1) = ((ys.length : Nat) : Int) := by lcg_off
  rw [e1]
  refine CodeOk.f (t_cut_to LB hc hp (by simp; lcg_off) fun k σ' h1 h2 h3 h4 => ?_) (by decide)
  kas_types
  refine h k σ' h1 h2 ?_ h4
  simpa using h3
theorem t_place_of (LB : Lib c A) {kf kr kl kp : Nat} {g : Int → Option V} {l : Int} {n : V} (hf : FlatAt A σ kf kr kl kp) (hg : σ kl = some (.dictI g)) (hn : g l = some n) (h : Q n σ) : CodeOk c 1 (.ref A.f_place_of) [.ref kf, .int l] σ Q := by
  have f1 := hf.places LB
  refine code_fn2 "flat" "line" LB.place_of.fn (by intros; rfl) (by lcg_src) fun L cdv => ?_
  kat_tups
  kas_types
  refine run_notInI_f LB.low hg hn ?_
  kas_types
  refine item_dictI (fun zz zz => ⟨_, rfl⟩) hg hn ?_
  kas_types
  exact h
theorem t_put_row_of (LB : Lib c A) {kf kr kl kp : Nat} {rows : List V} {line st : V} (hf : FlatAt A σ kf kr kl kp) (hr : σ kr = some (.list rows)) (hl : rows.length ≤ 1000) (hne : kf ≠ kr)
    (h : Q (.int rows.length) (upd σ kr (.list (rows ++ [.tup [line, st]])))) : CodeOk c 1 (.ref A.f_put_row_of) [.ref kf, line, st] σ Q := by
  have f1 := hf.rows LB
  have f2 : InstF c (upd σ kr (.list (rows ++ [.tup [line, st]]))) kf "rows" (.ref kr) := by
    obtain ⟨C, n, f, h1, h2⟩ := f1
    exact ⟨C, n, f, (upd_ne hne).trans h1, h2⟩
  refine code_fn3 "flat" "line" "statement" LB.put_row_of.fn (by intros; rfl) (by lcg_src) fun L cdv => ?_
  kat_tups
  kas_types
  with_reducible refine ok_meth ?_ (by lcg_sub) (by lcg_sub) (by lcg_sub) (by lcg_sub)
  kas_types
  refine mk_meth (meth_append hr) rfl ?_
  kas_types
  refine callf_append hr (le_line (by lcg_off)) ?_
  kas_types
  refine callf_len (.inr (.inr ⟨_, rfl, upd_self ..⟩)) (le_line (by simp; lcg_off)) ?_
  kas_types
  simpa using h
end
end
-- M0
noncomputable abbrev Tree := Str × Str × Int
noncomputable def encT (t : Tree) : V := .tup [.str t.1, .str t.2.1, .int t.2.2]
inductive St where
  | let_ (x : Str) (t : Tree)
  | rem (s : Str)
  | end_
  | goto (l : Int)
  | gosub (l : Int)
  | ongo (w : Str) (t : Tree) (ls : List Int)
  | ret
  | if_ (t : Tree) (a b : List St)
  deriving Inhabited
mutual
noncomputable def encS : St → V
  | .let_ x t => .tup [.str "LET", .tup [.str "name", .str x], encT t]
  | .rem s => .tup [.str "REM", .str s]
  | .end_ => .tup [.str "END"]
  | .goto l => .tup [.str "GOTO", .int l]
  | .gosub l => .tup [.str "GOSUB", .int l]
  | .ongo w t ls => .tup [.str "ONGO", .str w, encT t, .lst (ls.map .int)]
  | .ret => .tup [.str "RETURN", .none]
  | .if_ t a b => .tup [.str "IF", encT t, .lst (encSs a), .lst (encSs b)]
noncomputable def encSs : List St → List V
  | [] => []
  | s :: r => encS s :: encSs r
end
theorem encS_let {x : Str} {t : Tree} : encS (.let_ x t) = .tup [.str "LET", .tup [.str "name", .str x], encT t] := rfl
theorem encS_rem {s : Str} : encS (.rem s) = .tup [.str "REM", .str s] := rfl
theorem encS_end : encS .end_ = .tup [.str "END"] := rfl
theorem encSs_cons {s : St} {r : List St} : encSs (s :: r) = encS s :: encSs r := rfl
inductive Row where
  | st (s : St)
  | ifnot (t : Tree) (n : Nat)
  | jump (n : Nat)
  deriving Inhabited
noncomputable def encR : Row → V
  | .st s => encS s
  | .ifnot t n => .tup [.str "IFNOT", encT t, .int n]
  | .jump n => .tup [.str "JUMP", .int n]
noncomputable def encRow (p : Int × Row) : V := .tup [.int p.1, encR p.2]
mutual
noncomputable def flatS (line : Int) (n : Nat) : St → List (Int × Row)
  | .if_ t a b =>
    let ra := flatSs line (n + 1) a
    let m := n + 1 + ra.length
    if b.isEmpty then (line, .ifnot t m) :: ra
    else
      let rb := flatSs line (m + 1) b
      (line, .ifnot t (m + 1)) :: ra ++ (line, .jump (m + 1 + rb.length)) :: rb
  | s => [(line, .st s)]
noncomputable def flatSs (line : Int) (n : Nat) : List St → List (Int × Row)
  | [] => []
  | s :: r =>
    let a := flatS line n s
    a ++ flatSs line (n + a.length) r
end
theorem flatS_let {line : Int} {n : Nat} {x : Str} {t : Tree} : flatS line n (.let_ x t) = [(line, .st (.let_ x t))] := rfl
theorem flatS_rem {line : Int} {n : Nat} {x : Str} : flatS line n (.rem x) = [(line, .st (.rem x))] := rfl
theorem flatS_end {line : Int} {n : Nat} : flatS line n .end_ = [(line, .st .end_)] := rfl
theorem flatS_goto {line : Int} {n : Nat} {l : Int} : flatS line n (.goto l) = [(line, .st (.goto l))] := rfl
theorem flatS_ongo {line : Int} {n : Nat} {g : Str} {t : Tree} {ls : List Int} : flatS line n (.ongo g t ls) = [(line, .st (.ongo g t ls))] := rfl
theorem flatS_if {line : Int} {n : Nat} {t : Tree} {a b : List St} : flatS line n (.if_ t a b) = if b.isEmpty then (line, .ifnot t (n + 1 + (flatSs line (n + 1) a).length)) :: flatSs line (n + 1) a
    else (line, .ifnot t (n + 1 + (flatSs line (n + 1) a).length + 1)) :: flatSs line (n + 1) a ++ (line, .jump (n + 1 + (flatSs line (n + 1) a).length + 1 + (flatSs line (n + 1 + (flatSs line (n + 1) a).length + 1) b).length)) :: flatSs line (n + 1 + (flatSs line (n + 1) a).length + 1) b := rfl
theorem flatSs_nil {line : Int} {n : Nat} : flatSs line n [] = [] := rfl
theorem flatSs_cons {line : Int} {n : Nat} {s : St} {r : List St} : flatSs line n (s :: r) = flatS line n s ++ flatSs line (n + (flatS line n s).length) r := rfl
inductive Ent where
  | gosub (n : Nat)
  deriving DecidableEq
noncomputable def encE : Ent → V
  | .gosub n => .tup [.str "GOSUB", .int n]
structure Ms where
  pc : Nat
  vals : Str → Option Int
  pile : List Ent
  notes : List (Str × Int)
noncomputable def encN (p : Str × Int) : V := .tup [.str p.1, .int p.2]
structure Prg where
  rows : List (Int × Row)
  places : Int → Option Nat
  pairs : Nat → Option Nat
noncomputable abbrev Wf := Tree → (Str → Option Int) → Int
noncomputable def step (w : Wf) (P : Prg) (m : Ms) : Row → Except Str Ms
  | .st (.let_ x t) => .ok { m with vals := fun y => if y = x then some (w t m.vals) else m.vals y, pc := m.pc + 1 }
  | .st (.rem s) => .ok { m with notes := m.notes ++ [(s, (m.vals "X").getD 0)], pc := m.pc + 1 }
  | .st .end_ => .ok { m with pc := P.rows.length }
  | .st (.goto l) => match P.places l with
    | some n => .ok { m with pc := n }
    | none => .error "UL"
  | .st (.gosub l) => match P.places l with
    | some n => if m.pile.length < 20 then .ok { m with pc := n, pile := m.pile ++ [.gosub (m.pc + 1)] } else .error "OM"
    | none => .error "UL"
  | .st (.ongo g t ls) =>
    if 0 ≤ w t m.vals ∧ w t m.vals ≤ 255 then
      if 1 ≤ w t m.vals ∧ w t m.vals ≤ ls.length then
        match (ls[(w t m.vals - 1).toNat]?).bind P.places with
        | some n =>
          if g = "GOSUB" then (if m.pile.length < 20 then .ok { m with pc := n, pile := m.pile ++ [.gosub (m.pc + 1)] } else .error "OM")
          else .ok { m with pc := n }
        | none => .error "UL"
      else .ok { m with pc := m.pc + 1 }
    else .error "FC"
  | .st .ret => match m.pile.getLast? with
    | some (.gosub n) => .ok { m with pc := n, pile := m.pile.dropLast }
    | none => .error "RG"
  | .st (.if_ ..) => .error "??"
  | .ifnot t n => .ok { m with pc := if w t m.vals ≠ 0 then m.pc + 1 else n }
  | .jump n => .ok { m with pc := n }
noncomputable def goN (w : Wf) (P : Prg) : Nat → Ms → Except Str Ms
  | 0, m => .ok m
  | n + 1, m => match P.rows[m.pc]? with
    | none => .ok m
    | some (_, r) => match step w P m r with
      | .ok m' => goN w P n m'
      | .error e => .error e
theorem goN_zero {w : Wf} {P : Prg} {m : Ms} : goN w P 0 m = .ok m := rfl
theorem goN_succ {w : Wf} {P : Prg} {n : Nat} {m : Ms} : goN w P (n + 1) m = match P.rows[m.pc]? with
    | none => .ok m
    | some (_, r) => match step w P m r with
      | .ok m' => goN w P n m'
      | .error e => .error e := rfl
-- E5
section
structure Objs where
  (kRun kFlat kVals kCtl kNotes kRows kPl kPairs : Nat)
noncomputable def names9 : List Str := ["A", "B", "L", "X", "P", "Q", "R", "K", "W"]
structure RunAt (A : Ads) (aW : Addr) (o : Objs) (kp : Nat) (P : Prg) (σ : Sto) (m : Ms) : Prop where
  run : ∃ n f, σ o.kRun = some (.inst A.c_FlowRun n f) ∧ f "flat" = some (.ref o.kFlat) ∧ f "values" = some (.ref o.kVals) ∧ f "worth_of" = some (.raw (.ref aW)) ∧ f "bits" = some (.int 16) ∧ f "control" = some (.ref o.kCtl) ∧ f "notes" = some (.ref o.kNotes) ∧
    f "worth" = none ∧ f "whole" = none ∧ f "value_of_name" = none ∧ f "store" = none ∧ f "go" = none
  flat : FlatAt A σ o.kFlat o.kRows o.kPl o.kPairs
  ctl : CtlAt A σ o.kCtl kp
  pile : σ kp = some (.list (m.pile.map encE))
  vals : σ o.kVals = some (.dictS fun x => (m.vals x).map .int)
  notes : σ o.kNotes = some (.list (m.notes.map encN))
  rows : σ o.kRows = some (.list (P.rows.map encRow))
  places : σ o.kPl = some (.dictI fun l => (P.places l).map fun n => .int n)
  pairs : ∃ g, σ o.kPairs = some (.dictI g) ∧ ∀ n : Nat, g n = (P.pairs n).map fun k => .int k
  nd : [o.kRun, o.kFlat, o.kVals, o.kCtl, o.kNotes, o.kRows, o.kPl, o.kPairs, kp].Nodup
  len : P.rows.length ≤ 1000
  few : ∀ x, m.vals x ≠ none → x ∈ names9
structure Keep (o : Objs) (kp : Nat) (σ σ' : Sto) : Prop where
  same : ∀ j x, σ j = some x → j ≠ o.kVals → j ≠ o.kCtl → j ≠ o.kNotes → j ≠ kp → σ' j = some x
  dom : ∀ j, σ' j = none → σ j = none
theorem Keep.refl (o : Objs) (kp : Nat) (σ : Sto) : Keep o kp σ σ := ⟨fun zz zz h zz zz zz zz => h, fun zz h => h⟩
theorem upd_dom {σ : Sto} {k j : Nat} {x : Cell} (h : upd σ k x j = none) : σ j = none := by
  by_cases e : j = k
  · subst e; rw [upd_self] at h; cases h
  · rwa [upd_ne e] at h
theorem ne_none {σ : Sto} {k j : Nat} {x : Cell} (h : σ j = some x) (hk : σ k = none) : j ≠ k := by rintro rfl; rw [h] at hk; cases hk
section
variable {c : Ctx} {A : Ads} {aW : Addr} {o : Objs} {kp : Nat} {P : Prg} {m m' : Ms} {d : Nat} {env : Env} {lk : Loc} {σ σ' : Sto} {pos : Pos} {QX : Fl → Loc → Sto → Prop} {Q : V → Sto → Prop}
theorem RunAt.same (r : RunAt A aW o kp P σ m) (h1 : m'.vals = m.vals) (h2 : m'.pile = m.pile) (h3 : m'.notes = m.notes) : RunAt A aW o kp P σ m' :=
  { r with pile := by rw [h2]; exact r.pile, vals := by rw [h1]; exact r.vals, notes := by rw [h3]; exact r.notes, few := by rw [h1]; exact r.few }
theorem nd_ne {l : List Nat} {a b : Nat} (h : l.Nodup) (i j : Nat) (hi : l[i]? = some a) (hj : l[j]? = some b) (n : Nat.beq i j = false) : a ≠ b := fun e =>
  Nat.ne_of_beq_eq_false n ((List.getElem?_inj (List.getElem?_eq_some_iff.mp hi).1 h).mp (hi.trans ((congrArg some e).trans hj.symm)))
theorem nd_last {l : List Nat} {x k : Nat} (h : (l ++ [x]).Nodup) (hk : ∀ y ∈ l, y ≠ k) : (l ++ [k]).Nodup :=
  List.nodup_append.mpr ⟨(List.nodup_append.mp h).1, List.nodup_cons.mpr ⟨List.not_mem_nil, List.nodup_nil⟩, fun y hy z hz => List.mem_singleton.mp hz ▸ hk y hy⟩
theorem RunAt.setVals (r : RunAt A aW o kp P σ m) (h2 : m'.pile = m.pile) (h3 : m'.notes = m.notes) (hf : ∀ x, m'.vals x ≠ none → x ∈ names9) :
    RunAt A aW o kp P (upd σ o.kVals (.dictS fun x => (m'.vals x).map .int)) m' ∧ Keep o kp σ (upd σ o.kVals (.dictS fun x => (m'.vals x).map .int)) := by
  refine ⟨⟨?_, ?_, ?_, ?_, upd_self .., ?_, ?_, ?_, ?_, r.nd, r.len, hf⟩, ⟨fun j x h1 h2 zz zz zz => (upd_ne h2).trans h1, fun j h => upd_dom h⟩⟩
  · obtain ⟨n, f, h, q⟩ := r.run; exact ⟨n, f, (upd_ne (nd_ne r.nd 0 2 rfl rfl rfl)).trans h, q⟩
  · obtain ⟨n, f, h, q⟩ := r.flat.at_; exact ⟨n, f, (upd_ne (nd_ne r.nd 1 2 rfl rfl rfl)).trans h, q⟩
  · obtain ⟨n, f, hn, h, q⟩ := r.ctl.at_; exact ⟨n, f, hn, (upd_ne (Ne.symm (nd_ne r.nd 2 3 rfl rfl rfl))).trans h, q⟩
  · rw [h2]; exact (upd_ne (Ne.symm (nd_ne r.nd 2 8 rfl rfl rfl))).trans r.pile
  · rw [h3]; exact (upd_ne (Ne.symm (nd_ne r.nd 2 4 rfl rfl rfl))).trans r.notes
  · exact (upd_ne (Ne.symm (nd_ne r.nd 2 5 rfl rfl rfl))).trans r.rows
  · exact (upd_ne (Ne.symm (nd_ne r.nd 2 6 rfl rfl rfl))).trans r.places
  · obtain ⟨g, h, q⟩ := r.pairs; exact ⟨g, (upd_ne (Ne.symm (nd_ne r.nd 2 7 rfl rfl rfl))).trans h, q⟩
theorem RunAt.addNote (r : RunAt A aW o kp P σ m) (h1 : m'.vals = m.vals) (h2 : m'.pile = m.pile) :
    RunAt A aW o kp P (upd σ o.kNotes (.list (m'.notes.map encN))) m' ∧ Keep o kp σ (upd σ o.kNotes (.list (m'.notes.map encN))) := by
  refine ⟨⟨?_, ?_, ?_, ?_, ?_, upd_self .., ?_, ?_, ?_, r.nd, r.len, by rw [h1]; exact r.few⟩, ⟨fun j x h1 zz zz h2 zz => (upd_ne h2).trans h1, fun j h => upd_dom h⟩⟩
  · obtain ⟨n, f, h, q⟩ := r.run; exact ⟨n, f, (upd_ne (nd_ne r.nd 0 4 rfl rfl rfl)).trans h, q⟩
  · obtain ⟨n, f, h, q⟩ := r.flat.at_; exact ⟨n, f, (upd_ne (nd_ne r.nd 1 4 rfl rfl rfl)).trans h, q⟩
  · obtain ⟨n, f, hn, h, q⟩ := r.ctl.at_; exact ⟨n, f, hn, (upd_ne (nd_ne r.nd 3 4 rfl rfl rfl)).trans h, q⟩
  · rw [h2]; exact (upd_ne (Ne.symm (nd_ne r.nd 4 8 rfl rfl rfl))).trans r.pile
  · rw [h1]; exact (upd_ne (nd_ne r.nd 2 4 rfl rfl rfl)).trans r.vals
  · exact (upd_ne (Ne.symm (nd_ne r.nd 4 5 rfl rfl rfl))).trans r.rows
  · exact (upd_ne (Ne.symm (nd_ne r.nd 4 6 rfl rfl rfl))).trans r.places
  · obtain ⟨g, h, q⟩ := r.pairs; exact ⟨g, (upd_ne (Ne.symm (nd_ne r.nd 4 7 rfl rfl rfl))).trans h, q⟩
theorem RunAt.setPile (r : RunAt A aW o kp P σ m) (h1 : m'.vals = m.vals) (h3 : m'.notes = m.notes) :
    RunAt A aW o kp P (upd σ kp (.list (m'.pile.map encE))) m' ∧ Keep o kp σ (upd σ kp (.list (m'.pile.map encE))) := by
  refine ⟨⟨?_, ?_, ?_, upd_self .., ?_, ?_, ?_, ?_, ?_, r.nd, r.len, by rw [h1]; exact r.few⟩, ⟨fun j x h1 zz zz zz h2 => (upd_ne h2).trans h1, fun j h => upd_dom h⟩⟩
  · obtain ⟨n, f, h, q⟩ := r.run; exact ⟨n, f, (upd_ne (nd_ne r.nd 0 8 rfl rfl rfl)).trans h, q⟩
  · obtain ⟨n, f, h, q⟩ := r.flat.at_; exact ⟨n, f, (upd_ne (nd_ne r.nd 1 8 rfl rfl rfl)).trans h, q⟩
  · obtain ⟨n, f, hn, h, q⟩ := r.ctl.at_; exact ⟨n, f, hn, (upd_ne (nd_ne r.nd 3 8 rfl rfl rfl)).trans h, q⟩
  · rw [h1]; exact (upd_ne (nd_ne r.nd 2 8 rfl rfl rfl)).trans r.vals
  · rw [h3]; exact (upd_ne (nd_ne r.nd 4 8 rfl rfl rfl)).trans r.notes
  · exact (upd_ne (nd_ne r.nd 5 8 rfl rfl rfl)).trans r.rows
  · exact (upd_ne (nd_ne r.nd 6 8 rfl rfl rfl)).trans r.places
  · obtain ⟨g, h, q⟩ := r.pairs; exact ⟨g, (upd_ne (nd_ne r.nd 7 8 rfl rfl rfl)).trans h, q⟩
theorem RunAt.newPile (r : RunAt A aW o kp P σ m) {k : Nat} (hk : σ k = none) (hc : CtlAt A σ' o.kCtl k) (hp : σ' k = some (.list (m'.pile.map encE))) (hs : ∀ j, j ≠ k → j ≠ o.kCtl → σ' j = σ j) (h1 : m'.vals = m.vals) (h3 : m'.notes = m.notes) :
    RunAt A aW o k P σ' m' ∧ Keep o kp σ σ' := by
  have go : ∀ {j x}, σ j = some x → j ≠ o.kCtl → σ' j = some x := fun {j x} h hc => (hs j (ne_none h hk) hc).trans h
  obtain ⟨n1, fR, hR, qR⟩ := r.run
  obtain ⟨n2, fF, hF, qF⟩ := r.flat.at_
  obtain ⟨n3, fC, hCn, hC, qC⟩ := r.ctl.at_
  obtain ⟨g, hg, qg⟩ := r.pairs
  refine ⟨⟨⟨n1, fR, go hR (nd_ne r.nd 0 3 rfl rfl rfl), qR⟩, ⟨n2, fF, go hF (nd_ne r.nd 1 3 rfl rfl rfl), qF⟩, hc, hp, ?_, ?_, go r.rows (Ne.symm (nd_ne r.nd 3 5 rfl rfl rfl)), go r.places (Ne.symm (nd_ne r.nd 3 6 rfl rfl rfl)), ⟨g, go hg (Ne.symm (nd_ne r.nd 3 7 rfl rfl rfl)), qg⟩, ?_, r.len, by rw [h1]; exact r.few⟩, ⟨fun j x h zz h2 zz zz => go h h2, fun j h => ?_⟩⟩
  · rw [h1]; exact go r.vals (nd_ne r.nd 2 3 rfl rfl rfl)
  · rw [h3]; exact go r.notes (Ne.symm (nd_ne r.nd 3 4 rfl rfl rfl))
  · exact nd_last (l := [o.kRun, o.kFlat, o.kVals, o.kCtl, o.kNotes, o.kRows, o.kPl, o.kPairs]) r.nd (List.forall_mem_cons.mpr ⟨ne_none hR hk, (List.forall_mem_cons.mpr ⟨ne_none hF hk, (List.forall_mem_cons.mpr ⟨ne_none r.vals hk, (List.forall_mem_cons.mpr ⟨ne_none hC hk, (List.forall_mem_cons.mpr ⟨ne_none r.notes hk, (List.forall_mem_cons.mpr ⟨ne_none r.rows hk, (List.forall_mem_cons.mpr ⟨ne_none r.places hk, (List.forall_mem_cons.mpr ⟨ne_none hg hk, (fun zz h => absurd h List.not_mem_nil)⟩)⟩)⟩)⟩)⟩)⟩)⟩)⟩)
  · by_cases e1 : j = k
    · subst e1; exact hk
    · by_cases e2 : j = o.kCtl
      · subst e2
        obtain ⟨n, f, _, hh, _⟩ := hc.at_
        rw [hh] at h; cases h
      · rw [← hs j e1 e2]; exact h
theorem Keep.trans {σ₁ σ₂ : Sto} {kp' : Nat} (a : Keep o kp σ σ₁) (b : Keep o kp' σ₁ σ₂) (h : kp' = kp ∨ σ kp' = none) : Keep o kp σ σ₂ := ⟨fun j x h1 h2 h3 h4 h5 =>
  b.same j x (a.same j x h1 h2 h3 h4 h5) h2 h3 h4 (h.elim (fun e => e ▸ h5) fun e => ne_none h1 e), fun j h => a.dom j (b.dom j h)⟩
structure RunF (c : Ctx) (A : Ads) (aW : Addr) (o : Objs) (kp : Nat) (σ : Sto) : Prop where
  f1 : InstF c σ o.kRun "flat" (.ref o.kFlat)
  f2 : InstF c σ o.kRun "values" (.ref o.kVals)
  f3 : (handedIn (.ref aW) = true → InstF c σ o.kRun "worth_of" (.raw (.ref aW)))
  f4 : InstF c σ o.kRun "bits" (.int 16)
  f5 : InstF c σ o.kRun "control" (.ref o.kCtl)
  f6 : InstF c σ o.kRun "notes" (.ref o.kNotes)
  f7 : InstF c σ o.kFlat "rows" (.ref o.kRows)
  f8 : InstF c σ o.kCtl "pile" (.ref kp)
theorem RunAt.f_ (r : RunAt A aW o kp P σ m) (LB : Lib c A) : RunF c A aW o kp σ := by
  obtain ⟨n, f, h, h1, h2, h3, h4, h5, h6, _⟩ := r.run
  exact ⟨⟨_, n, f, h, LB.FlowRun.cls, LB.FlowRun_flat.get, h1, trivial⟩, ⟨_, n, f, h, LB.FlowRun.cls, LB.FlowRun_values.get, h2, trivial⟩, fun e => ⟨_, n, f, h, LB.FlowRun.cls, LB.FlowRun_worth_of.get, h3, e⟩, ⟨_, n, f, h, LB.FlowRun.cls, LB.FlowRun_bits.get, h4, trivial⟩,
    ⟨_, n, f, h, LB.FlowRun.cls, LB.FlowRun_control.get, h5, trivial⟩, ⟨_, n, f, h, LB.FlowRun.cls, LB.FlowRun_notes.get, h6, trivial⟩, r.flat.rows LB, r.ctl.pile LB⟩
structure RunM (c : Ctx) (A : Ads) (o : Objs) (σ : Sto) : Prop where
  m1 : Meth c σ (.ref o.kRun) "worth" (.ref A.m_worth)
  m2 : Meth c σ (.ref o.kRun) "whole" (.ref A.m_whole)
  m3 : Meth c σ (.ref o.kRun) "value_of_name" (.ref A.m_value_of_name)
  m4 : Meth c σ (.ref o.kRun) "store" (.ref A.m_store)
  m5 : Meth c σ (.ref o.kRun) "go" (.ref A.m_go)
theorem RunAt.m_ (r : RunAt A aW o kp P σ m) (LB : Lib c A) : RunM c A o σ := by
  obtain ⟨n, f, h, _, _, _, _, _, _, h1, h2, h3, h4, h5⟩ := r.run
  exact ⟨meth_inst h LB.FlowRun.cls LB.FlowRun_worth.get LB.FlowRun_worth.ty h1, meth_inst h LB.FlowRun.cls LB.FlowRun_whole.get LB.FlowRun_whole.ty h2, meth_inst h LB.FlowRun.cls LB.FlowRun_value_of_name.get LB.FlowRun_value_of_name.ty h3,
    meth_inst h LB.FlowRun.cls LB.FlowRun_store.get LB.FlowRun_store.ty h4, meth_inst h LB.FlowRun.cls LB.FlowRun_go.get LB.FlowRun_go.ty h5⟩
structure WorthOk (c : Ctx) (aW : Addr) (w : Wf) (dW : Nat) : Prop where
  hand : handedIn (.ref aW) = true
  keep : keepIn c.K (.ref aW) = true
  pos : 1 ≤ dW
  call : ∀ (σ : Sto) (t : Tree) (kv : Nat) (vals : Str → Option Int) (Q : V → Sto → Prop), σ kv = some (.dictS fun x => (vals x).map .int) → Q (.int (w t vals)) σ → CodeOk c dW (.ref aW) [encT t, .ref kv] σ Q
variable {w : Wf} {dW : Nat}
theorem t_worth (LB : Lib c A) (W : WorthOk c aW w dW) (r : RunAt A aW o kp P σ m) {t : Tree} (h : Q (.int (w t m.vals)) σ) : CodeOk c (dW + 1) (.ref A.m_worth) [.ref o.kRun, encT t] σ Q := by
  obtain ⟨f1, f2, f3, f4, f5, f6, f7, f8⟩ := r.f_ LB
  have f3 := f3 W.hand
  refine code_fn2 "self" "tree" LB.FlowRun_worth.fn (by intros; rfl) (by lcg_src) fun L cdv => ?_
  kat_tups
  kas_types
  refine ok_call ?_ (fun zz => by lcg_sub)
  kas_types
  refine ⟨_, rfl, W.keep, ?_⟩
  kas_types
  refine (W.call σ t _ m.vals _ r.vals ?_).f (Nat.le_refl _)
  kas_types
  exact h
theorem t_whole (LB : Lib c A) (W : WorthOk c aW w dW) (r : RunAt A aW o kp P σ m) {t : Tree} (h1 : -32768 ≤ w t m.vals) (h2 : w t m.vals < 32768) (h : Q (.int (w t m.vals)) σ) : CodeOk c (dW + 2) (.ref A.m_whole) [.ref o.kRun, encT t] σ Q := by
  obtain ⟨f1, f2, f3, f4, f5, f6, f7, f8⟩ := r.f_ LB
  obtain ⟨m1, m2, m3, m4, m5⟩ := r.m_ LB
  have hp := W.pos
  refine code_fn2 "self" "tree" LB.FlowRun_whole.fn (by intros; rfl) (by lcg_src) fun L cdv => ?_
  kat_tups
  kas_types
  with_reducible refine okg_call (‹Lib _ _›).whole_of.ns (‹Lib _ _›).whole_of.keep (by k_updF) (by kbo_bools) (fun zz => by lcg_sub) ?_
  kas_types
  with_reducible refine ok_meth ?_ (by lcg_sub) (by lcg_sub) (by lcg_sub) (by lcg_sub)
  kas_types
  refine mk_meth m1 LB.FlowRun_worth.keep ?_
  kas_types
  refine (t_worth LB W r ?_).f (Nat.le_refl _)
  kas_types
  refine CodeOk.f (t_whole_of LB h1 h2 ?_) (by lcg_off)
  kas_types
  exact h
theorem t_value_of_name (LB : Lib c A) (r : RunAt A aW o kp P σ m) {x : Str} (h : Q (.int ((m.vals x).getD 0)) σ) : CodeOk c 1 (.ref A.m_value_of_name) [.ref o.kRun, .str x] σ Q := by
  obtain ⟨f1, f2, f3, f4, f5, f6, f7, f8⟩ := r.f_ LB
  refine code_fn2 "self" "name" LB.FlowRun_value_of_name.fn (by intros; rfl) (by lcg_src) fun L cdv => ?_
  kat_tups
  kas_types
  with_reducible refine ok_meth ?_ (by lcg_sub) (by lcg_sub) (by lcg_sub) (by lcg_sub)
  kas_types
  refine mk_meth (meth_get r.vals) rfl ?_
  kas_types
  refine callf_get2 LB.low r.vals ?_
  kas_types
  have : ((m.vals x).map V.int).getD (.int 0) = .int ((m.vals x).getD 0) := by cases m.vals x <;> rfl
  rw [this]; exact h
theorem t_store (LB : Lib c A) (r : RunAt A aW o kp P σ m) {x : Str} {i : Int} (h : Q .none (upd σ o.kVals (.dictS fun y => if y = x then some (.int i) else (m.vals y).map .int))) : CodeOk c 1 (.ref A.m_store) [.ref o.kRun, .str x, .int i] σ Q := by
  obtain ⟨f1, f2, f3, f4, f5, f6, f7, f8⟩ := r.f_ LB
  refine code_fn3 "self" "name" "value" LB.FlowRun_store.fn (by intros; rfl) (by lcg_src) fun L cdv => ?_
  kat_tups
  refine okb_assign ?_ (by lcg_sub) (by lcg_sub) (by lcg_sub)
  kas_types
  refine oka_sub ?_
  kas_types
  refine set_dictS r.vals ⟨names9, by decide, fun k hk => r.few k (fun e => hk (by show Option.map V.int (m.vals k) = none; rw [e]; rfl))⟩ ?_
  kas_types
  exact h
end
end
-- E6
section
section
variable {c : Ctx} {A : Ads} {aW : Addr} {o : Objs} {kp : Nat} {P : Prg} {m m' : Ms} {d : Nat} {env : Env} {lk : Loc} {σ σ' : Sto} {pos : Pos} {QX : Fl → Loc → Sto → Prop} {Q : V → Sto → Prop} {w : Wf} {dW : Nat}
theorem t_jump_ifnot (LB : Lib c A) (W : WorthOk c aW w dW) (r : RunAt A aW o kp P σ m) {pc n : Nat} {t : Tree} (h : Q (.int (if w t m.vals ≠ 0 then (pc : Int) + 1 else n)) σ) :
    CodeOk c (dW + 4) (.ref A.f_do_jump) [.ref o.kRun, .int pc, .tup [.str "IFNOT", encT t, .int n]] σ Q := by
  obtain ⟨m1, m2, m3, m4, m5⟩ := r.m_ LB
  refine code_fn3 "run" "at" "statement" LB.do_jump.fn (by intros; rfl) (by lcg_src) fun L cdv => ?_
  kat_tups
  kas_types
  with_reducible refine okg_call (‹Lib _ _›).is_true.ns (‹Lib _ _›).is_true.keep (by k_updF) (by kbo_bools) (fun zz => by lcg_sub) ?_
  kas_types
  with_reducible refine ok_meth ?_ (by lcg_sub) (by lcg_sub) (by lcg_sub) (by lcg_sub)
  kas_types
  refine mk_meth m1 LB.FlowRun_worth.keep ?_
  kas_types
  refine (t_worth LB W r ?_).f (by lcg_off)
  kas_types
  refine (t_is_true LB ?_).f (by lcg_off)
  refine t_ndec (fun e => ?_) (fun e => ?_)
  · rw [if_pos e] at h
    kas_types
    exact h
  · rw [if_neg (fun q => q e)] at h
    kas_types
    exact h
theorem t_jump_jump (LB : Lib c A) {pc n : Int} {kR : Nat} (h : Q (.int n) σ) : CodeOk c (dW + 4) (.ref A.f_do_jump) [.ref kR, .int pc, .tup [.str "JUMP", .int n]] σ Q := by
  refine code_fn3 "run" "at" "statement" LB.do_jump.fn (by intros; rfl) (by lcg_src) fun L cdv => ?_
  kat_tups
  kas_types
  exact h
theorem t_jump_goto (LB : Lib c A) (r : RunAt A aW o kp P σ m) {pc l : Int} {n : Nat} (hn : P.places l = some n) (h : Q (.int n) σ) : CodeOk c (dW + 4) (.ref A.f_do_jump) [.ref o.kRun, .int pc, .tup [.str "GOTO", .int l]] σ Q := by
  obtain ⟨f1, f2, f3, f4, f5, f6, f7, f8⟩ := r.f_ LB
  refine code_fn3 "run" "at" "statement" LB.do_jump.fn (by intros; rfl) (by lcg_src) fun L cdv => ?_
  kat_tups
  kas_types
  with_reducible refine okg_call (‹Lib _ _›).place_of.ns (‹Lib _ _›).place_of.keep (by k_updF) (by kbo_bools) (fun zz => by lcg_sub) ?_
  kas_types
  refine (t_place_of (n := .int n) LB r.flat r.places (by rw [hn]; rfl) ?_).f (by lcg_off)
  kas_types
  exact h
theorem t_jump_gosub (LB : Lib c A) (r : RunAt A aW o kp P σ m) {pc n : Nat} {l : Int} (hn : P.places l = some n) (hl : m.pile.length < 20) (h : Q (.int n) (upd σ kp (.list ((m.pile ++ [Ent.gosub (pc + 1)]).map encE)))) : CodeOk c (dW + 4) (.ref A.f_do_jump) [.ref o.kRun, .int pc, .tup [.str "GOSUB", .int l]] σ Q := by
  obtain ⟨f1, f2, f3, f4, f5, f6, f7, f8⟩ := r.f_ LB
  refine code_fn3 "run" "at" "statement" LB.do_jump.fn (by intros; rfl) (by lcg_src) fun L cdv => ?_
  kat_tups
  kas_types
  with_reducible refine okg_call (‹Lib _ _›).place_of.ns (‹Lib _ _›).place_of.keep (by k_updF) (by kbo_bools) (fun zz => by lcg_sub) ?_
  kas_types
  refine (t_place_of (n := .int n) LB r.flat r.places (by rw [hn]; rfl) ?_).f (by lcg_off)
  kas_types
  with_reducible refine okg_call (‹Lib _ _›).gosub.ns (‹Lib _ _›).gosub.keep (by k_updF) (by kbo_bools) (fun zz => by lcg_sub) ?_
  kas_types
  refine (t_gosub LB r.ctl r.pile (by simpa using hl) ?_).f (by lcg_off)
  kas_types
  simpa [encE] using h
theorem t_jump_ret (LB : Lib c A) (r : RunAt A aW o kp P σ m) {pc : Int} {p : List Ent} {n : Nat} (hp : m.pile = p ++ [.gosub n]) (hl : p.length < 100)
    (h : ∀ k σ', σ k = none → CtlAt A σ' o.kCtl k → σ' k = some (.list (p.map encE)) → (∀ j, j ≠ k → j ≠ o.kCtl → σ' j = σ j) → Q (.int n) σ') : CodeOk c (dW + 4) (.ref A.f_do_jump) [.ref o.kRun, .int pc, .tup [.str "RETURN", .none]] σ Q := by
  obtain ⟨f1, f2, f3, f4, f5, f6, f7, f8⟩ := r.f_ LB
  have hq := r.pile
  rw [hp, List.map_append] at hq
  refine code_fn3 "run" "at" "statement" LB.do_jump.fn (by intros; rfl) (by lcg_src) fun L cdv => ?_
  kat_tups
  kas_types
  with_reducible refine okg_call (‹Lib _ _›).return_place.ns (‹Lib _ _›).return_place.keep (by k_updF) (by kbo_bools) (fun zz => by lcg_sub) ?_
  kas_types
  refine (t_return_place LB r.ctl hq (by simpa using hl) fun k σ' h1 h2 h3 h4 => ?_).f (by lcg_off)
  kas_types
  refine run_isNone (t := true) rfl ?_
  kas_types
  exact h k σ' h1 h2 h3 h4
theorem t_jump_on0 (LB : Lib c A) (W : WorthOk c aW w dW) (r : RunAt A aW o kp P σ m) {pc : Int} {g : Str} {t : Tree} {ls : List Int} (h0 : 0 ≤ w t m.vals) (h1 : w t m.vals ≤ 255) (h2 : ¬ (1 ≤ w t m.vals ∧ w t m.vals ≤ ls.length)) (hl : ls.length ≤ 1000)
    (h : Q (.int (pc + 1)) σ) : CodeOk c (dW + 4) (.ref A.f_do_jump) [.ref o.kRun, .int pc, .tup [.str "ONGO", .str g, encT t, .lst (ls.map .int)]] σ Q := by
  obtain ⟨m1, m2, m3, m4, m5⟩ := r.m_ LB
  refine code_fn3 "run" "at" "statement" LB.do_jump.fn (by intros; rfl) (by lcg_src) fun L cdv => ?_
  kat_tups
  kas_types
  with_reducible refine okg_call (‹Lib _ _›).chosen.ns (‹Lib _ _›).chosen.keep (by k_updF) (by kbo_bools) (fun zz => by lcg_sub) ?_
  kas_types
  with_reducible refine ok_meth ?_ (by lcg_sub) (by lcg_sub) (by lcg_sub) (by lcg_sub)
  kas_types
  refine mk_meth m2 LB.FlowRun_whole.keep ?_
  kas_types
  refine (t_whole LB W r (by lcg_off) (by lcg_off) ?_).f (by lcg_off)
  kas_types
  refine callf_len (.inr (.inl rfl)) (le_line (by simp; lcg_off)) ?_
  kas_types
  refine (t_chosen (n := (ls.map V.int).length) LB h0 h1 ?_).f (by lcg_off)
  rw [if_neg (by simpa using h2)]
  kas_types
  refine run_isNone (t := true) rfl ?_
  kas_types
  exact h
theorem t_jump_on1 (LB : Lib c A) (W : WorthOk c aW w dW) (r : RunAt A aW o kp P σ m) {pc : Nat} {g : Str} {t : Tree} {ls : List Int} {l : Int} {n : Nat} (h0 : 1 ≤ w t m.vals) (h1 : w t m.vals ≤ 255) (hl : ls.length ≤ 1000) (h2 : ls[(w t m.vals - 1).toNat]? = some l) (hn : P.places l = some n)
    (hg : (g == "GOSUB") = false) (h : Q (.int n) σ) : CodeOk c (dW + 4) (.ref A.f_do_jump) [.ref o.kRun, .int pc, .tup [.str "ONGO", .str g, encT t, .lst (ls.map .int)]] σ Q := by
  obtain ⟨m1, m2, m3, m4, m5⟩ := r.m_ LB
  obtain ⟨f1, f2, f3, f4, f5, f6, f7, f8⟩ := r.f_ LB
  have hlt := (List.getElem?_eq_some_iff.mp h2).1
  refine code_fn3 "run" "at" "statement" LB.do_jump.fn (by intros; rfl) (by lcg_src) fun L cdv => ?_
  kat_tups
  kas_types
  with_reducible refine okg_call (‹Lib _ _›).chosen.ns (‹Lib _ _›).chosen.keep (by k_updF) (by kbo_bools) (fun zz => by lcg_sub) ?_
  kas_types
  with_reducible refine ok_meth ?_ (by lcg_sub) (by lcg_sub) (by lcg_sub) (by lcg_sub)
  kas_types
  refine mk_meth m2 LB.FlowRun_whole.keep ?_
  kas_types
  refine (t_whole LB W r (by lcg_off) (by lcg_off) ?_).f (by lcg_off)
  kas_types
  refine callf_len (.inr (.inl rfl)) (le_line (by simp; lcg_off)) ?_
  kas_types
  refine (t_chosen (n := (ls.map V.int).length) LB (by lcg_off) h1 ?_).f (by lcg_off)
  rw [if_pos ⟨h0, by simp; lcg_off⟩]
  kas_types
  refine run_isNone (t := false) rfl ?_
  kas_types
  refine okb_swap2 "word" "line" ?_ (by lcg_sub) (by lcg_sub) (by k_upd) (by k_upd)
  kas_types
  refine item_lst plainI (by lcg_off) (by lcg_off) (y := .int l) (by rw [List.getElem?_map, h2]; rfl) ?_
  kas_types
  with_reducible refine okg_call (‹Lib _ _›).place_of.ns (‹Lib _ _›).place_of.keep (by k_updF) (by kbo_bools) (fun zz => by lcg_sub) ?_
  kas_types
  refine (t_place_of (n := .int n) LB r.flat r.places (by rw [hn]; rfl) ?_).f (by lcg_off)
  kas_types
  rw [hg]
  kas_types
  exact h
theorem t_jump_on2 (LB : Lib c A) (W : WorthOk c aW w dW) (r : RunAt A aW o kp P σ m) {pc : Nat} {t : Tree} {ls : List Int} {l : Int} {n : Nat} (h0 : 1 ≤ w t m.vals) (h1 : w t m.vals ≤ 255) (hl : ls.length ≤ 1000) (h2 : ls[(w t m.vals - 1).toNat]? = some l) (hn : P.places l = some n)
    (hp : m.pile.length < 20) (h : Q (.int n) (upd σ kp (.list ((m.pile ++ [Ent.gosub (pc + 1)]).map encE)))) : CodeOk c (dW + 4) (.ref A.f_do_jump) [.ref o.kRun, .int pc, .tup [.str "ONGO", .str "GOSUB", encT t, .lst (ls.map .int)]] σ Q := by
  obtain ⟨m1, m2, m3, m4, m5⟩ := r.m_ LB
  obtain ⟨f1, f2, f3, f4, f5, f6, f7, f8⟩ := r.f_ LB
  have hlt := (List.getElem?_eq_some_iff.mp h2).1
  refine code_fn3 "run" "at" "statement" LB.do_jump.fn (by intros; rfl) (by lcg_src) fun L cdv => ?_
  kat_tups
  kas_types
  with_reducible refine okg_call (‹Lib _ _›).chosen.ns (‹Lib _ _›).chosen.keep (by k_updF) (by kbo_bools) (fun zz => by lcg_sub) ?_
  kas_types
  with_reducible refine ok_meth ?_ (by lcg_sub) (by lcg_sub) (by lcg_sub) (by lcg_sub)
  kas_types
  refine mk_meth m2 LB.FlowRun_whole.keep ?_
  kas_types
  refine (t_whole LB W r (by lcg_off) (by lcg_off) ?_).f (by lcg_off)
  kas_types
  refine callf_len (.inr (.inl rfl)) (le_line (by simp; lcg_off)) ?_
  kas_types
  refine (t_chosen (n := (ls.map V.int).length) LB (by lcg_off) h1 ?_).f (by lcg_off)
  rw [if_pos ⟨h0, by simp; lcg_off⟩]
  kas_types
  refine run_isNone (t := false) rfl ?_
  kas_types
  refine okb_swap2 "word" "line" ?_ (by lcg_sub) (by lcg_sub) (by k_upd) (by k_upd)
  kas_types
  refine item_lst plainI (by lcg_off) (by lcg_off) (y := .int l) (by rw [List.getElem?_map, h2]; rfl) ?_
  kas_types
  with_reducible refine okg_call (‹Lib _ _›).place_of.ns (‹Lib _ _›).place_of.keep (by k_updF) (by kbo_bools) (fun zz => by lcg_sub) ?_
  kas_types
  refine (t_place_of (n := .int n) LB r.flat r.places (by rw [hn]; rfl) ?_).f (by lcg_off)
  kas_types
  with_reducible refine okg_call (‹Lib _ _›).gosub.ns (‹Lib _ _›).gosub.keep (by k_updF) (by kbo_bools) (fun zz => by lcg_sub) ?_
  kas_types
  refine (t_gosub LB r.ctl r.pile (by simpa using hp) ?_).f (by lcg_off)
  kas_types
  simpa [encE] using h
end
end
-- E7
section
section
variable {c : Ctx} {A : Ads} {aW : Addr} {o : Objs} {kp : Nat} {P : Prg} {m m' : Ms} {d : Nat} {env : Env} {lk : Loc} {σ σ' : Sto} {pos : Pos} {QX : Fl → Loc → Sto → Prop} {Q : V → Sto → Prop} {w : Wf} {dW : Nat}
noncomputable def LoopJ (S : Sto → Prop) (J : List V → Loc → Sto → Prop) (QX : Fl → Loc → Sto → Prop) (r : List V) (fl : Fl) (lk : Loc) (σ : Sto) : Prop := match fl with
  | .next => S σ ∧ ∃ lk', Sub lk' lk ∧ J r lk' σ
  | .cont => S σ ∧ ∃ lk', Sub lk' lk ∧ J r lk' σ
  | .brk => QX .next lk σ
  | .ret y => QX (.ret y) lk σ
theorem loopj_ret {S : Sto → Prop} {J : List V → Loc → Sto → Prop} {r : List V} {y : V} (h : QX (.ret y) lk σ) : LoopJ S J QX r (.ret y) lk σ := h
theorem loop_invA {target : Expr} {body : List Stmt} {S : Sto → Prop} (J : List V → Loc → Sto → Prop)
    (hs : ∀ (QB : Fl → Loc → Sto → Prop) y r lk₁ σ₁, J (y :: r) lk₁ σ₁ → (∀ fl lk₂ σ₂, LoopJ S J QX r fl lk₂ σ₂ → QB fl lk₂ σ₂) → OkA c d env target y lk₁ σ₁ (fun lk₂ σ₂ => OkB c d env body lk₂ σ₂ QB))
    (hn : ∀ lk₁ σ₁, J [] lk₁ σ₁ → QX .next lk₁ σ₁) {xs : List V} : ∀ {lk : Loc} {σ : Sto}, J xs lk σ → LoopOk c d env target body S QX xs lk σ := by
  induction xs with
  | nil => exact fun h => loop_nil (hn _ _ h)
  | cons y r ih => exact fun h => hs _ y r _ _ h fun fl lk₂ σ₂ q => match fl, q with
    | .next, q => ⟨q.1, q.2.imp fun zz z => ⟨z.1, ih z.2⟩⟩
    | .cont, q => ⟨q.1, q.2.imp fun zz z => ⟨z.1, ih z.2⟩⟩
    | .brk, q => q
    | .ret _, q => q
theorem loop_inv1 {x : Str} {p : Pos} {body : List Stmt} {S : Sto → Prop} (J : List V → Loc → Sto → Prop) (hk : StoK env x)
    (hs : ∀ (QB : Fl → Loc → Sto → Prop) y r lk₁ σ₁, J (y :: r) lk₁ σ₁ → (∀ fl lk₂ σ₂, LoopJ S J QX r fl lk₂ σ₂ → QB fl lk₂ σ₂) → OkB c d env body (put x y lk₁) σ₁ QB)
    (hn : ∀ lk₁ σ₁, J [] lk₁ σ₁ → QX .next lk₁ σ₁) {xs : List V} (h : J xs lk σ) : LoopOk c d env (.Name x p) body S QX xs lk σ := loop_invA J (fun QB y r lk₁ σ₁ a b => oka_name (hs QB y r lk₁ σ₁ a b) hk) hn h
theorem loop_inv2 {x z : Str} {p p' pp : Pos} {k : Nat} {body : List Stmt} {S : Sto → Prop} (J : List V → Loc → Sto → Prop) (hk : StoK env x) (hk' : StoK env z)
    (hs : ∀ (QB : Fl → Loc → Sto → Prop) y r lk₁ σ₁, J (y :: r) lk₁ σ₁ → (∀ fl lk₂ σ₂, LoopJ S J QX r fl lk₂ σ₂ → QB fl lk₂ σ₂) → ∃ a b, y = .tup [a, b] ∧ OkB c d env body (put z b (put x a lk₁)) σ₁ QB)
    (hn : ∀ lk₁ σ₁, J [] lk₁ σ₁ → QX .next lk₁ σ₁) {xs : List V} (h : J xs lk σ) : LoopOk c d env (.Tuple [.Name x p, .Name z p'] k pp) body S QX xs lk σ :=
  loop_invA J (fun QB y r lk₁ σ₁ j q => by
    obtain ⟨a, b, rfl, h⟩ := hs QB y r lk₁ σ₁ j q
    exact oka_tuple (okas_cons (oka_name (okas_cons (oka_name (okas_nil h) hk') rfl) hk) rfl) rfl rfl) hn h
theorem comp_invA {cenv : Env} {target elt : Expr} {S : Sto → Prop} {QC : List V → Sto → Prop} (J : List V → List V → Sto → Prop)
    (hs : ∀ (QE : V → Sto → Prop) y r acc σ₁, J (y :: r) acc σ₁ → (∀ z σ₂, S σ₂ → J r (acc ++ [z]) σ₂ → QE z σ₂) → acc.length ≤ sizeLine ∧ OkA c d cenv target y lk σ₁ (fun lk₁ σ₂ => Sub lk lk₁ ∧ Ok c d cenv elt lk₁ σ₂ QE))
    (hn : ∀ acc σ₁, J [] acc σ₁ → QC acc σ₁) {xs : List V} : ∀ {acc : List V} {σ : Sto}, J xs acc σ → CompOk c d cenv target [] elt lk S QC xs acc σ := by
  induction xs with
  | nil => exact fun h => hn _ _ h
  | cons y r ih =>
    intro acc σ h
    have z := hs (fun z σ₂ => S σ₂ ∧ CompOk c d cenv target [] elt lk S QC r (acc ++ [z]) σ₂) y r acc σ h fun z σ₂ a b => ⟨a, ih b⟩
    exact ⟨z.1, fun A s μ v Qr Er ok r f hv q => z.2 A s μ v Qr Er ok r f hv fun s' lk' σ' μ' w => q s' lk' σ' μ' ⟨w.1, fun zz => w.2, fun e => nomatch e⟩⟩
theorem comp_inv1 {cenv : Env} {x : Str} {p : Pos} {elt : Expr} {S : Sto → Prop} {QC : List V → Sto → Prop} (J : List V → List V → Sto → Prop) (hk : StoK cenv x) (hx : lk.lookup x = none)
    (hs : ∀ (QE : V → Sto → Prop) y r acc σ₁, J (y :: r) acc σ₁ → (∀ z σ₂, S σ₂ → J r (acc ++ [z]) σ₂ → QE z σ₂) → acc.length ≤ sizeLine ∧ Ok c d cenv elt (put x y lk) σ₁ QE)
    (hn : ∀ acc σ₁, J [] acc σ₁ → QC acc σ₁) {xs acc : List V} (h : J xs acc σ) : CompOk c d cenv (.Name x p) [] elt lk S QC xs acc σ :=
  comp_invA J (fun QE y r acc σ₁ a b => have z := hs QE y r acc σ₁ a b; ⟨z.1, oka_name ⟨sub_put hx, z.2⟩ hk⟩) hn h
theorem t_flow_jump (LB : Lib c A) {rest : List V} {wd : Str} {a b : V} (hw : V.str wd ∈ [V.str "IFNOT", V.str "JUMP", V.str "GOTO", V.str "GOSUB", V.str "ONGO", V.str "RETURN"]) (hp : V.plain 8 (.str wd) = true)
    (h : CodeOk c (dW + 4) (.ref A.f_do_jump) [a, b, .tup (.str wd :: rest)] σ Q) : CodeOk c (dW + 5) (.ref A.f_do_flow) [a, b, .tup (.str wd :: rest)] σ Q := by
  refine code_fn3 "run" "at" "statement" LB.do_flow.fn (by intros; rfl) (by lcg_src) fun L cdv => ?_
  kat_tups
  kas_types
  refine okgv LB.jumps LB.jumpsV (by k_updF) (by kbo_bools) ?_
  refine run_in_t hp (by lcg_sub) hw ?_
  kas_types
  with_reducible refine okg_call (‹Lib _ _›).do_jump.ns (‹Lib _ _›).do_jump.keep (by k_updF) (by kbo_bools) (fun zz => by lcg_sub) ?_
  kas_types
  exact h.f (Nat.le_refl _)
noncomputable def flowRow : Row → Bool
  | .st (.let_ ..) => false
  | .st (.rem ..) => false
  | .st .end_ => false
  | _ => true
theorem getLast_gosub {p : List Ent} {n : Nat} (h : p.getLast? = some (.gosub n)) : p = p.dropLast ++ [.gosub n] := by
  obtain ⟨q, rfl⟩ := List.getLast?_eq_some_iff.mp h
  simp
theorem t_do_flow (LB : Lib c A) (W : WorthOk c aW w dW) (r : RunAt A aW o kp P σ m) {row : Row} (hf : flowRow row = true) (hs : step w P m row = .ok m') (hl : ∀ g t ls, row = .st (.ongo g t ls) → ls.length ≤ 1000) (hp : m.pile.length < 50)
    (h : ∀ σ' kp', RunAt A aW o kp' P σ' m' → Keep o kp σ σ' → (kp' = kp ∨ σ kp' = none) → m'.notes = m.notes → Q (.int m'.pc) σ') :
    CodeOk c (dW + 5) (.ref A.f_do_flow) [.ref o.kRun, .int m.pc, encR row] σ Q := by
  have sameQ : ∀ (k : Nat), { m with pc := k } = m' → Q (.int k) σ := fun k e => by
    subst e
    exact h σ kp (r.same rfl rfl rfl) (Keep.refl _ _ _) (.inl rfl) rfl
  cases row with
  | ifnot t n =>
    replace hs := Except.ok.inj hs
    refine t_flow_jump LB (.head _) (by lcg_sub) (t_jump_ifnot LB W r ?_)
    have := sameQ _ hs
    by_cases q : w t m.vals ≠ 0
    · rw [if_pos q] at this ⊢; simpa using this
    · rw [if_neg q] at this ⊢; exact this
  | jump n =>
    replace hs := Except.ok.inj hs
    exact t_flow_jump LB (.tail _ (.head _)) (by lcg_sub) (t_jump_jump LB (by simpa using sameQ _ hs))
  | st s =>
    cases s with
    | let_ x t => cases hf
    | rem s => cases hf
    | end_ => cases hf
    | if_ t a b => cases hs
    | goto l =>
      dsimp only [step] at hs
      cases hn : P.places l with
      | none => rw [hn] at hs; cases hs
      | some n =>
        rw [hn] at hs
        replace hs := Except.ok.inj hs
        exact t_flow_jump LB (.tail _ (.tail _ (.head _))) (by lcg_sub) (t_jump_goto LB r hn (by simpa using sameQ _ hs))
    | gosub l =>
      dsimp only [step] at hs
      cases hn : P.places l with
      | none => rw [hn] at hs; cases hs
      | some n =>
        rw [hn] at hs
        simp only at hs
        split at hs
        · rename_i hlt
          replace hs := Except.ok.inj hs
          subst hs
          obtain ⟨r', k'⟩ := r.setPile (m' := { m with pc := n, pile := m.pile ++ [.gosub (m.pc + 1)] }) rfl rfl
          exact t_flow_jump LB (.tail _ (.tail _ (.tail _ (.head _)))) (by lcg_sub) (t_jump_gosub LB r hn hlt (h _ _ r' k' (.inl rfl) rfl))
        · cases hs
    | ret =>
      dsimp only [step] at hs
      cases hq : m.pile.getLast? with
      | none => rw [hq] at hs; cases hs
      | some e =>
        rw [hq] at hs
        cases e with
        | gosub n =>
          replace hs := Except.ok.inj hs
          subst hs
          have hpl := getLast_gosub hq
          refine t_flow_jump LB (.tail _ (.tail _ (.tail _ (.tail _ (.tail _ (.head _)))))) (by lcg_sub) (t_jump_ret LB r hpl (by rw [List.length_dropLast]; omega) fun k σ' h1 h2 h3 h4 => ?_)
          obtain ⟨r', k'⟩ := r.newPile (m' := { m with pc := n, pile := m.pile.dropLast }) h1 h2 h3 h4 rfl rfl
          simpa using h _ _ r' k' (.inr h1) rfl
    | ongo g t ls =>
      have hls := hl g t ls rfl
      dsimp only [step] at hs
      split at hs
      · rename_i hb
        split at hs
        · rename_i hc
          cases hq : ls[(w t m.vals - 1).toNat]? with
          | none => rw [hq] at hs; cases hs
          | some l =>
            rw [hq] at hs
            simp only [Option.bind_some] at hs
            cases hn : P.places l with
            | none => rw [hn] at hs; cases hs
            | some n =>
              rw [hn] at hs
              simp only at hs
              split at hs
              · rename_i hg
                subst hg
                split at hs
                · rename_i hlt
                  replace hs := Except.ok.inj hs
                  subst hs
                  obtain ⟨r', k'⟩ := r.setPile (m' := { m with pc := n, pile := m.pile ++ [.gosub (m.pc + 1)] }) rfl rfl
                  exact t_flow_jump LB (.tail _ (.tail _ (.tail _ (.tail _ (.head _))))) (by lcg_sub) (t_jump_on2 LB W r hc.1 hb.2 hls hq hn hlt (h _ _ r' k' (.inl rfl) rfl))
                · cases hs
              · rename_i hg
                replace hs := Except.ok.inj hs
                exact t_flow_jump LB (.tail _ (.tail _ (.tail _ (.tail _ (.head _))))) (by lcg_sub) (t_jump_on1 LB W r hc.1 hb.2 hls hq hn (by simpa using hg) (by simpa using sameQ _ hs))
        · rename_i hc
          replace hs := Except.ok.inj hs
          exact t_flow_jump LB (.tail _ (.tail _ (.tail _ (.tail _ (.head _))))) (by lcg_sub) (t_jump_on0 LB W r hb.1 hb.2 hc hls (by simpa using sameQ _ hs))
      · cases hs
theorem flow_split {row : Row} (h : flowRow row = true) : ∃ wd rest, encR row = .tup (.str wd :: rest) ∧ (wd == ("LET" : Str)) = false ∧ (wd == ("REM" : Str)) = false ∧ (wd == ("END" : Str)) = false := by
  cases row with
  | ifnot t n => exact ⟨"IFNOT", _, rfl, by decide +kernel, by decide +kernel, by decide +kernel⟩
  | jump n => exact ⟨"JUMP", _, rfl, by decide +kernel, by decide +kernel, by decide +kernel⟩
  | st s =>
    cases s with
    | let_ x t => cases h
    | rem s => cases h
    | end_ => cases h
    | goto l => exact ⟨"GOTO", _, rfl, by decide +kernel, by decide +kernel, by decide +kernel⟩
    | gosub l => exact ⟨"GOSUB", _, rfl, by decide +kernel, by decide +kernel, by decide +kernel⟩
    | ongo g t ls => exact ⟨"ONGO", _, rfl, by decide +kernel, by decide +kernel, by decide +kernel⟩
    | ret => exact ⟨"RETURN", _, rfl, by decide +kernel, by decide +kernel, by decide +kernel⟩
    | if_ t a b => exact ⟨"IF", _, rfl, by decide +kernel, by decide +kernel, by decide +kernel⟩
noncomputable def WfRow (row : Row) : Prop := match row with
  | .st (.let_ x _) => x ∈ names9
  | .st (.ongo _ _ ls) => ls.length ≤ 1000
  | _ => True
noncomputable def goQ (Q : V → Sto → Prop) (P : Prg) (n : Nat) (σ : Sto) : Prop := Q (.int (if P.rows.length ≤ n then (n : Int) else -1)) σ
end
end
-- E8
section
mutual
noncomputable def depS : St → Nat
  | .if_ _ a b => 1 + max (depSs a) (depSs b)
  | _ => 0
noncomputable def depSs : List St → Nat
  | [] => 0
  | s :: r => max (depS s) (depSs r)
end
section
variable {c : Ctx} {A : Ads} {d : Nat} {env : Env} {lk : Loc} {σ σ' : Sto} {pos : Pos} {QX : Fl → Loc → Sto → Prop} {Q : V → Sto → Prop}
theorem FlatAt.upd_ {kf kr kl kp k : Nat} {x : Cell} (h : FlatAt A σ kf kr kl kp) (hk : kf ≠ k) : FlatAt A (upd σ k x) kf kr kl kp := by
  obtain ⟨n, f, h1, q⟩ := h.at_
  exact ⟨n, f, (upd_ne hk).trans h1, q⟩
theorem encS_word (s : St) : ∃ wd rest, encS s = .tup (.str wd :: rest) ∧ ((wd == ("IF" : Str)) = true ↔ ∃ t a b, s = .if_ t a b) := by
  cases s with
  | let_ x t => exact ⟨"LET", _, rfl, fun h => absurd h (by lcg_src), fun ⟨_, _, _, h⟩ => by cases h⟩
  | rem s => exact ⟨"REM", _, rfl, fun h => absurd h (by lcg_src), fun ⟨_, _, _, h⟩ => by cases h⟩
  | end_ => exact ⟨"END", _, rfl, fun h => absurd h (by lcg_src), fun ⟨_, _, _, h⟩ => by cases h⟩
  | goto l => exact ⟨"GOTO", _, rfl, fun h => absurd h (by lcg_src), fun ⟨_, _, _, h⟩ => by cases h⟩
  | gosub l => exact ⟨"GOSUB", _, rfl, fun h => absurd h (by lcg_src), fun ⟨_, _, _, h⟩ => by cases h⟩
  | ongo g t ls => exact ⟨"ONGO", _, rfl, fun h => absurd h (by lcg_src), fun ⟨_, _, _, h⟩ => by cases h⟩
  | ret => exact ⟨"RETURN", _, rfl, fun h => absurd h (by lcg_src), fun ⟨_, _, _, h⟩ => by cases h⟩
  | if_ t a b => exact ⟨"IF", _, rfl, fun zz => ⟨t, a, b, rfl⟩, fun zz => by decide +kernel⟩
theorem flatS_one {line : Int} {n : Nat} {s : St} (h : ¬ ∃ t a b, s = .if_ t a b) : flatS line n s = [(line, .st s)] := by
  cases s with
  | if_ t a b => exact absurd ⟨t, a, b, rfl⟩ h
  | _ => rfl
noncomputable def PutIfOk (c : Ctx) (A : Ads) (line : Int) (t : Tree) (a b : List St) : Prop := ∀ (kf kr kl kp : Nat) (R : List V) (σ : Sto) (Q : V → Sto → Prop), FlatAt A σ kf kr kl kp → σ kr = some (.list R) → kf ≠ kr →
  R.length + (flatS line R.length (.if_ t a b)).length ≤ 900 → Q .none (upd σ kr (.list (R ++ (flatS line R.length (.if_ t a b)).map encRow))) → CodeOk c (2 * depS (.if_ t a b) + 1) (.ref A.f_put_if) [.ref kf, .int line, encS (.if_ t a b)] σ Q
noncomputable def PutAllOk (c : Ctx) (A : Ads) (line : Int) (sts : List St) : Prop := ∀ (kf kr kl kp : Nat) (R : List V) (σ : Sto) (Q : V → Sto → Prop), FlatAt A σ kf kr kl kp → σ kr = some (.list R) → kf ≠ kr →
  R.length + (flatSs line R.length sts).length ≤ 900 → Q .none (upd σ kr (.list (R ++ (flatSs line R.length sts).map encRow))) → CodeOk c (2 * depSs sts + 2) (.ref A.f_put_all) [.ref kf, .int line, .lst (encSs sts)] σ Q
theorem depS_mem {s : St} {sts : List St} (h : s ∈ sts) : depS s ≤ depSs sts := by
  induction h with
  | head => exact Nat.le_max_left _ _
  | tail _ _ ih => exact Nat.le_trans ih (Nat.le_max_right _ _)
theorem t_put_all (LB : Lib c A) {line : Int} {sts : List St} (H : ∀ t a b, .if_ t a b ∈ sts → PutIfOk c A line t a b) : PutAllOk c A line sts := by
  intro kf kr kl kp R σ Q hf hr hne hl h
  refine code_fn3 "flat" "line" "statements" LB.put_all.fn (by intros; rfl) (by lcg_src) fun L cdv => ?_
  kat_tups
  kas_types
  refine okit_val ?_
  kas_types
  refine ⟨_, .inr rfl, trivial, ?_⟩
  refine loop_inv1 (fun xs lk₁ σ₁ => ∃ (sts₁ : List St) (R₁ : List V), xs = encSs sts₁ ∧ lk₁ = ([("flat", .ref kf), ("line", .int line), ("statements", .lst (encSs sts))] : Loc) ∧ σ₁ = upd σ kr (.list R₁) ∧ (∀ s ∈ sts₁, s ∈ sts) ∧
    R₁ ++ (flatSs line R₁.length sts₁).map encRow = R ++ (flatSs line R.length sts).map encRow ∧ R₁.length + (flatSs line R₁.length sts₁).length ≤ 900) (by k_upd) (fun QB x xs lk₁ σ₁ hJ hB => ?_) (fun lk₁ σ₁ hJ => ?_) ⟨sts, R, rfl, rfl, ?_, fun zz h => h, rfl, hl⟩
  · obtain ⟨sts₁, R₁, hx, rfl, rfl, hm, he, hl₁⟩ := hJ
    cases sts₁ with
    | nil => cases hx
    | cons s r =>
      rw [encSs_cons] at hx
      injection hx with hx1 hx2
      subst hx1
      rw [flatSs_cons] at he hl₁
      simp only [List.length_append] at hl₁
      have hf₁ : FlatAt A (upd σ kr (.list R₁)) kf kr kl kp := hf.upd_ hne
      obtain ⟨wd, rest, hw, hif⟩ := encS_word s
      have nxt : ∀ R₂, R₂ = R₁ ++ (flatS line R₁.length s).map encRow → ∀ lk₂, Sub ([("flat", .ref kf), ("line", .int line), ("statements", .lst (encSs sts))] : Loc) lk₂ → QB .next lk₂ (upd σ kr (.list R₂)) := fun R₂ e lk₂ hs =>
        hB .next _ _ ⟨trivial, _, hs, r, R₂, hx2, rfl, rfl, fun s hs => hm s (.tail _ hs), by rw [e, ← he, List.map_append, List.append_assoc, List.length_append, List.length_map], by rw [e, List.length_append, List.length_map, Nat.add_assoc]; exact hl₁⟩
      by_cases hq : ∃ t a b, s = .if_ t a b
      · obtain ⟨t, a, b, rfl⟩ := hq
        have hpi := H t a b (hm _ (.head _))
        have hdp := depS_mem (hm _ (.head _))
        have hw' := hif.mpr ⟨t, a, b, rfl⟩
        rw [hw]
        kas_types
        rw [hw']
        kas_types
        with_reducible refine okg_call (‹Lib _ _›).put_if.ns (‹Lib _ _›).put_if.keep (by k_updF) (by kbo_bools) (fun zz => by lcg_sub) ?_
        kas_types
        rw [← hw]
        refine (hpi kf kr kl kp R₁ _ _ hf₁ (upd_self ..) hne (by lcg_off) ?_).f (by lcg_off)
        kas_types
        rw [upd_upd]
        exact nxt _ rfl _ (by keq_rows)
      · have hw' : (wd == ("IF" : Str)) = false := by
          cases e : wd == ("IF" : Str) with
          | false => rfl
          | true => exact absurd (hif.mp e) hq
        rw [flatS_one hq] at nxt
        rw [hw]
        kas_types
        rw [hw']
        kas_types
        with_reducible refine okg_call (‹Lib _ _›).put_row_of.ns (‹Lib _ _›).put_row_of.keep (by k_updF) (by kbo_bools) (fun zz => by lcg_sub) ?_
        kas_types
        refine (t_put_row_of LB hf₁ (upd_self ..) (by lcg_off) hne ?_).f (by lcg_off)
        kas_types
        rw [upd_upd]
        exact nxt _ (by rw [← hw]; rfl) _ (by keq_rows)
  · refine opq fun Gq hGq => ?_
    obtain ⟨sts₁, R₁, hx, rfl, rfl, hm, he, hl₁⟩ := hJ
    refine hGq ?_
    clear hGq Gq
    cases sts₁ with
    | cons s r => cases hx
    | nil =>
      rw [flatSs_nil] at he
      simp only [List.map_nil, List.append_nil] at he
      subst he
      kas_types
      exact h
  · funext j
    by_cases hj : j = kr
    · subst hj; rw [upd_self]; exact hr
    · rw [upd_ne hj]
theorem set_mid {A B : List V} {x y : V} : (A ++ [x] ++ B).set A.length y = A ++ [y] ++ B := by
  simp [List.set_append]
theorem encSs_len : ∀ {l : List St}, (encSs l).length = l.length
  | [] => rfl
  | _ :: r => by simp [encSs_cons, encSs_len (l := r)]
theorem flatS_pos {line : Int} {n : Nat} {s : St} : 1 ≤ (flatS line n s).length := by
  by_cases hq : ∃ t a b, s = .if_ t a b
  · obtain ⟨t, a, b, rfl⟩ := hq
    simp only [flatS_if, flatS_let, flatS_rem, flatS_end, flatS_goto, flatS_ongo]
    split <;> simp
  · rw [flatS_one hq]; simp
theorem flatSs_ge {line : Int} : ∀ {l : List St} {n : Nat}, l.length ≤ (flatSs line n l).length
  | [], _ => Nat.zero_le _
  | s :: r, n => by
    have h1 := flatS_pos (line := line) (n := n) (s := s)
    have h2 := flatSs_ge (line := line) (l := r) (n := n + (flatS line n s).length)
    simp only [flatSs_nil, flatSs_cons, List.length_append, List.length_cons]
    lcg_off
set_option maxHeartbeats 1000000 in
theorem t_put_if (LB : Lib c A) {line : Int} {t : Tree} {a b : List St} (Ha : PutAllOk c A line a) (Hb : PutAllOk c A line b) : PutIfOk c A line t a b := by
  intro kf kr kl kp R σ Q hf hr hne hl h
  have hd : depS (.if_ t a b) = 1 + max (depSs a) (depSs b) := by simp [depS]
  rw [hd]
  have fu : ∀ x, FlatAt A (upd σ kr x) kf kr kl kp := fun x => hf.upd_ hne
  have i0 : ∀ x, InstF c (upd σ kr x) kf "rows" (.ref kr) := fun x => (fu x).rows LB
  rw [show encS (.if_ t a b) = .tup [.str "IF", encT t, .lst (encSs a), .lst (encSs b)] from rfl]
  simp only [flatS_if, flatS_let, flatS_rem, flatS_end, flatS_goto, flatS_ongo] at hl h
  refine code_fn3 "flat" "line" "statement" LB.put_if.fn (by intros; rfl) (by lcg_src) fun L cdv => ?_
  kat_tups
  kas_types
  with_reducible refine okg_call (‹Lib _ _›).put_row_of.ns (‹Lib _ _›).put_row_of.keep (by k_updF) (by kbo_bools) (fun zz => by lcg_sub) ?_
  kas_types
  have hlen : R.length ≤ 900 := by lcg_off
  refine (t_put_row_of LB hf hr (by lcg_off) hne ?_).f (by lcg_off)
  kas_types
  with_reducible refine okg_call (‹Lib _ _›).put_all.ns (‹Lib _ _›).put_all.keep (by k_updF) (by kbo_bools) (fun zz => by lcg_sub) ?_
  kas_types
  generalize hS : V.tup [V.int line, V.tup [V.str "IF", encT t, V.lst (encSs a), V.lst (encSs b)]] = X
  have la : (R ++ [X]).length = R.length + 1 := by simp
  have hla : R.length + 1 + (flatSs line (R.length + 1) a).length ≤ 900 := by
    split at hl <;> simp only [List.length_cons, List.length_append] at hl <;> lcg_off
  refine (Ha kf kr kl kp (R ++ [X]) _ _ (fu _) (upd_self ..) hne (by rw [la]; exact hla) ?_).f (by lcg_off)
  rw [upd_upd, la]
  kas_types
  generalize hra : flatSs line (R.length + 1) a = ra at *
  have j1 := i0 (.list (R ++ [X] ++ List.map encRow ra))
  have ll : (R ++ [X] ++ List.map encRow ra).length = R.length + 1 + ra.length := by simp; lcg_off
  cases b with
  | nil =>
    refine callf_len (.inr (.inl rfl)) len0 ?_
    kas_types
    rw [decide_eq_true (by simp [encSs])]
    kas_types
    refine okb_assign ?_ (by lcg_sub) (by lcg_sub) (by lcg_sub)
    kas_types
    refine callf_len (.inr (.inr ⟨_, rfl, upd_self ..⟩)) (le_line (by rw [ll]; lcg_off)) ?_
    kas_types
    refine oka_sub ?_
    kas_types
    refine set_cell (upd_self ..) (by lcg_off) (by lcg_off) (by rw [ll]; lcg_off) ?_
    rw [upd_upd, ll, Int.toNat_natCast, set_mid]
    refine okb_return0 (then_ret (ret_ret ?_))
    simp only [List.isEmpty_nil, if_true] at h
    simpa [encRow, encR, List.append_assoc] using h
  | cons b0 b' =>
    generalize hb : b0 :: b' = bb at *
    have hbe : bb.isEmpty = false := by rw [← hb]; rfl
    have hbl := flatSs_ge (line := line) (l := bb) (n := R.length + 1 + ra.length + 1)
    simp only [hbe, Bool.false_eq_true, if_false] at hl h
    generalize hrb : flatSs line (R.length + 1 + ra.length + 1) bb = rb at *
    simp only [List.length_cons, List.length_append] at hl
    refine callf_len (.inr (.inl rfl)) (le_line (by rw [encSs_len]; lcg_off)) ?_
    kas_types
    rw [decide_eq_false (by rw [encSs_len, ← hb]; simp; lcg_off)]
    kas_types
    with_reducible refine okg_call (‹Lib _ _›).put_row_of.ns (‹Lib _ _›).put_row_of.keep (by k_updF) (by kbo_bools) (fun zz => by lcg_sub) ?_
    kas_types
    refine (t_put_row_of LB (fu _) (upd_self ..) (by rw [ll]; lcg_off) hne ?_).f (by lcg_off)
    rw [upd_upd, hS, ll]
    have j2 := i0 (.list (R ++ [X] ++ List.map encRow ra ++ [X]))
    have l2 : (R ++ [X] ++ List.map encRow ra ++ [X]).length = R.length + 1 + ra.length + 1 := by simp; lcg_off
    refine okb_assign ?_ (by lcg_sub) (by lcg_sub) (by lcg_sub)
    kas_types
    refine callf_len (.inr (.inr ⟨_, rfl, upd_self ..⟩)) (le_line (by rw [l2]; lcg_off)) ?_
    kas_types
    refine oka_sub ?_
    kas_types
    refine set_cell (upd_self ..) (by lcg_off) (by lcg_off) (by rw [l2]; lcg_off) ?_
    rw [upd_upd, l2, Int.toNat_natCast, show R ++ [X] ++ List.map encRow ra ++ [X] = R ++ [X] ++ (List.map encRow ra ++ [X]) by simp, set_mid]
    generalize hY : V.tup [V.int line, V.tup [V.str "IFNOT", encT t, V.int ((R.length + 1 + ra.length + 1 : Nat) : Int)]] = Y
    kas_types
    with_reducible refine okg_call (‹Lib _ _›).put_all.ns (‹Lib _ _›).put_all.keep (by k_updF) (by kbo_bools) (fun zz => by lcg_sub) ?_
    kas_types
    have l3 : (R ++ [Y] ++ (List.map encRow ra ++ [X])).length = R.length + 1 + ra.length + 1 := by simp; lcg_off
    refine (Hb kf kr kl kp (R ++ [Y] ++ (List.map encRow ra ++ [X])) _ _ (fu _) (upd_self ..) hne (by rw [l3, hrb]; lcg_off) ?_).f (by lcg_off)
    rw [upd_upd, l3, hrb]
    kas_types
    have j3 := i0 (.list (R ++ [Y] ++ (List.map encRow ra ++ [X]) ++ List.map encRow rb))
    have l4 : (R ++ [Y] ++ (List.map encRow ra ++ [X]) ++ List.map encRow rb).length = R.length + 1 + ra.length + 1 + rb.length := by simp; lcg_off
    refine okb_assign ?_ (by lcg_sub) (by lcg_sub) (by lcg_sub)
    kas_types
    refine callf_len (.inr (.inr ⟨_, rfl, upd_self ..⟩)) (le_line (by rw [l4]; lcg_off)) ?_
    kas_types
    refine oka_sub ?_
    kas_types
    refine set_cell (upd_self ..) (by lcg_off) (by lcg_off) (by rw [l4]; lcg_off) ?_
    have l5 : (R ++ [Y] ++ List.map encRow ra).length = R.length + 1 + ra.length := by simp; lcg_off
    rw [upd_upd, l4, Int.toNat_natCast, show R ++ [Y] ++ (List.map encRow ra ++ [X]) ++ List.map encRow rb = R ++ [Y] ++ List.map encRow ra ++ [X] ++ List.map encRow rb by simp, ← l5, set_mid]
    kas_types
    refine ret_next ?_
    rw [l5, ← hY]
    simpa [encRow, encR, List.append_assoc, Int.add_assoc, Int.add_comm, Int.add_left_comm] using h
end
end
-- E9
section
section
variable {c : Ctx} {A : Ads} {d : Nat} {env : Env} {lk : Loc} {σ σ' : Sto} {pos : Pos} {QX : Fl → Loc → Sto → Prop} {Q : V → Sto → Prop}
theorem put_all_any (LB : Lib c A) {line : Int} : ∀ (n : Nat) (sts : List St), depSs sts ≤ n → PutAllOk c A line sts := by
  intro n
  induction n with
  | zero =>
    intro sts h
    refine t_put_all LB fun t a b hm => ?_
    have := depS_mem hm
    have : depS (.if_ t a b) = 1 + max (depSs a) (depSs b) := by simp [depS]
    lcg_off
  | succ n ih =>
    intro sts h
    refine t_put_all LB fun t a b hm => ?_
    have h1 := depS_mem hm
    have h2 : depS (.if_ t a b) = 1 + max (depSs a) (depSs b) := by simp [depS]
    exact t_put_if LB (ih a (by lcg_off)) (ih b (by lcg_off))
theorem okb_init {x : Str} {e : Expr} {p pa : Pos} {rest : List Stmt} {k : Nat} {C : Addr} {n : Nat} {f : Str → Option V} (cell : Cell) (hl : lk.lookup (Str.ofString "self") = some (V.ref k)) (hk : VarK env "self")
    (hs : σ k = some (.inst C n f)) (hC : ClsF c.K C) (hf : FieldK c.K C x) (hn : n ≤ 800) (hfx : f x = none)
    (he : ∀ Q, (∀ j, σ j = none → Q (.ref j) (upd σ j cell)) → Ok c d env e lk σ Q)
    (h : ∀ j, σ j = none → OkB c d env rest lk (upd (upd σ j cell) k (.inst C (n + 1) (fun z => if z = x then some (.ref j) else f z))) QX)
    (h1 : assignEach [.Attribute (.Name "self" p) x pa] env = [(false, assign (.Attribute (.Name "self" p) x pa) env)])
    (h2 : swapsWithSole [.Attribute (.Name "self" p) x pa] e pos.line env = pure false) (h3 : swappedStores [.Attribute (.Name "self" p) x pa] e env = pure none) : OkB c d env (.Assign [.Attribute (.Name "self" p) x pa] e pos :: rest) lk σ QX := by
  refine okb_assign (he _ fun j hj => ?_) h1 h2 h3
  refine oka_field (okv hl hk (by lcg_src) ?_)
  have hne : k ≠ j := ne_none hs hj
  refine ⟨k, C, n, f, rfl, (upd_ne hne).trans hs, hC, hf.put, by lcg_off, ?_⟩
  have := h j hj
  rw [hfx]
  exact this
theorem okN_list {Q : V → Sto → Prop} (h : ∀ j, σ j = none → Q (.ref j) (upd σ j (.list []))) : Ok c d env (.List [] pos) lk σ Q := ok_listC (okl_nil ⟨len0, h⟩)
theorem init_facts {σ : Sto} {j k : Nat} {cell i0 i1 : Cell} (hj : σ j = none) (hk : σ k = some i0) : (upd (upd σ j cell) k i1) j = some cell ∧ (upd (upd σ j cell) k i1) k = some i1 ∧ (∀ i x, σ i = some x → i ≠ k → upd (upd σ j cell) k i1 i = some x) ∧ (∀ i, upd (upd σ j cell) k i1 i = none → σ i = none) :=
  ⟨by rw [upd_ne (Ne.symm (ne_none hk hj)), upd_self], upd_self .., fun i x h hi => by rw [upd_ne hi, upd_ne (ne_none h hj)]; exact h, fun i h => upd_dom (upd_dom h)⟩
theorem t_flat_init (LB : Lib c A) {k : Nat} (hs : σ k = some (.inst A.c_Flat 0 fun zz => none))
    (h : ∀ kr kl kp σ', σ kr = none → σ kl = none → σ kp = none → kr ≠ kl → kr ≠ kp → kl ≠ kp → FlatAt A σ' k kr kl kp → σ' kr = some (.list []) → σ' kl = some (.dictI fun zz => none) → σ' kp = some (.dictI fun zz => none) →
      (∀ j x, σ j = some x → j ≠ k → σ' j = some x) → Q .none σ') : CodeOk c 1 (.ref A.i_Flat) [.ref k] σ Q := by
  refine code_fn1 "self" LB.Flat.initF (by intros; rfl) (by lcg_src) fun L cdv => ?_
  kat_tups
  refine okb_init (.list []) lookup_hit (by k_memK) hs LB.Flat.cls LB.Flat_rows (by decide) rfl (fun Q h => okN_list h) (fun kr hkr => ?_) (by lcg_sub) (by lcg_sub) (by lcg_sub)
  refine okb_init (.dictI fun zz => none) lookup_hit (by k_memK) (upd_self ..) LB.Flat.cls LB.Flat_places (by decide) (by repeat (first | rfl | rw [if_neg (by lcg_src)])) (fun Q h => ok_dictI h) (fun kl hkl => ?_) (by lcg_sub) (by lcg_sub) (by lcg_sub)
  refine okb_init (.list []) lookup_hit (by k_memK) (upd_self ..) LB.Flat.cls LB.Flat_data (by decide) (by repeat (first | rfl | rw [if_neg (by lcg_src)])) (fun Q h => okN_list h) (fun kd hkd => ?_) (by lcg_sub) (by lcg_sub) (by lcg_sub)
  refine okb_init (.dictI fun zz => none) lookup_hit (by k_memK) (upd_self ..) LB.Flat.cls LB.Flat_pairs (by decide) (by repeat (first | rfl | rw [if_neg (by lcg_src)])) (fun Q h => ok_dictI h) (fun kp hkp => ?_) (by lcg_sub) (by lcg_sub) (by lcg_sub)
  refine okb_init (.dictI fun zz => none) lookup_hit (by k_memK) (upd_self ..) LB.Flat.cls LB.Flat_loops (by decide) (by repeat (first | rfl | rw [if_neg (by lcg_src)])) (fun Q h => ok_dictI h) (fun ko hko => ?_) (by lcg_sub) (by lcg_sub) (by lcg_sub)
  refine okb_init (.dictI fun zz => none) lookup_hit (by k_memK) (upd_self ..) LB.Flat.cls LB.Flat_fns (by decide) (by repeat (first | rfl | rw [if_neg (by lcg_src)])) (fun Q h => ok_dictI h) (fun kn hkn => ?_) (by lcg_sub) (by lcg_sub) (by lcg_sub)
  kas_types
  obtain ⟨a1, a2, a3, a4⟩ := init_facts (cell := .list []) (i1 := .inst A.c_Flat (0 + 1) (fun z => if z = "rows" then some (.ref kr) else none)) hkr hs
  generalize upd (upd σ kr (.list [])) k (.inst A.c_Flat (0 + 1) (fun z => if z = "rows" then some (.ref kr) else none)) = σ1 at *
  obtain ⟨b1, b2, b3, b4⟩ := init_facts (cell := .dictI fun zz => none) (i1 := .inst A.c_Flat (0 + 1 + 1) (fun z => if z = "places" then some (.ref kl) else if z = "rows" then some (.ref kr) else none)) hkl a2
  generalize upd (upd σ1 kl (.dictI fun zz => none)) k (.inst A.c_Flat (0 + 1 + 1) (fun z => if z = "places" then some (.ref kl) else if z = "rows" then some (.ref kr) else none)) = σ2 at *
  obtain ⟨c1, c2, c3, c4⟩ := init_facts (cell := .list []) (i1 := .inst A.c_Flat (0 + 1 + 1 + 1) (fun z => if z = "data" then some (.ref kd) else if z = "places" then some (.ref kl) else if z = "rows" then some (.ref kr) else none)) hkd b2
  generalize upd (upd σ2 kd (.list [])) k (.inst A.c_Flat (0 + 1 + 1 + 1) (fun z => if z = "data" then some (.ref kd) else if z = "places" then some (.ref kl) else if z = "rows" then some (.ref kr) else none)) = σ3 at *
  obtain ⟨d1, d2, d3, d4⟩ := init_facts (cell := .dictI fun zz => none) (i1 := .inst A.c_Flat (0 + 1 + 1 + 1 + 1) (fun z => if z = "pairs" then some (.ref kp) else if z = "data" then some (.ref kd) else if z = "places" then some (.ref kl) else if z = "rows" then some (.ref kr) else none)) hkp c2
  generalize upd (upd σ3 kp (.dictI fun zz => none)) k (.inst A.c_Flat (0 + 1 + 1 + 1 + 1) (fun z => if z = "pairs" then some (.ref kp) else if z = "data" then some (.ref kd) else if z = "places" then some (.ref kl) else if z = "rows" then some (.ref kr) else none)) = σ4 at *
  obtain ⟨e1, e2, e3, e4⟩ := init_facts (cell := .dictI fun zz => none) (i1 := .inst A.c_Flat (0 + 1 + 1 + 1 + 1 + 1) (fun z => if z = "loops" then some (.ref ko) else if z = "pairs" then some (.ref kp) else if z = "data" then some (.ref kd) else if z = "places" then some (.ref kl) else if z = "rows" then some (.ref kr) else none)) hko d2
  generalize upd (upd σ4 ko (.dictI fun zz => none)) k (.inst A.c_Flat (0 + 1 + 1 + 1 + 1 + 1) (fun z => if z = "loops" then some (.ref ko) else if z = "pairs" then some (.ref kp) else if z = "data" then some (.ref kd) else if z = "places" then some (.ref kl) else if z = "rows" then some (.ref kr) else none)) = σ5 at *
  obtain ⟨f1, f2, f3, f4⟩ := init_facts (cell := .dictI fun zz => none) (i1 := .inst A.c_Flat (0 + 1 + 1 + 1 + 1 + 1 + 1) (fun z => if z = "fns" then some (.ref kn) else if z = "loops" then some (.ref ko) else if z = "pairs" then some (.ref kp) else if z = "data" then some (.ref kd) else if z = "places" then some (.ref kl) else if z = "rows" then some (.ref kr) else none)) hkn e2
  refine ret_next (h kr kl kp _ hkr (a4 _ hkl) (a4 _ (b4 _ (c4 _ hkp))) (ne_none a1 hkl) (ne_none (b3 _ _ a1 ?_) (c4 _ hkp)) (ne_none b1 (c4 _ hkp)) ⟨⟨_, _, f2, ?_, ?_, ?_⟩⟩ ?_ ?_ ?_ ?_)
  · exact Ne.symm (ne_none hs hkr)
  · show ite _ _ _ = _; repeat (first | exact if_pos rfl | rw [if_neg (by lcg_src)])
  · show ite _ _ _ = _; repeat (first | exact if_pos rfl | rw [if_neg (by lcg_src)])
  · show ite _ _ _ = _; repeat (first | exact if_pos rfl | rw [if_neg (by lcg_src)])
  · have n := Ne.symm (ne_none hs hkr)
    exact f3 _ _ (e3 _ _ (d3 _ _ (c3 _ _ (b3 _ _ a1 n) n) n) n) n
  · have n := Ne.symm (ne_none a2 hkl)
    exact f3 _ _ (e3 _ _ (d3 _ _ (c3 _ _ b1 n) n) n) n
  · have n := Ne.symm (ne_none c2 hkp)
    exact f3 _ _ (e3 _ _ d1 n) n
  · exact fun j x hj n => f3 _ _ (e3 _ _ (d3 _ _ (c3 _ _ (b3 _ _ (a3 _ _ hj n) n) n) n) n) n
end
end
-- E10
section
section
variable {c : Ctx} {A : Ads} {d : Nat} {env : Env} {lk : Loc} {σ σ' : Sto} {pos : Pos} {QX : Fl → Loc → Sto → Prop} {Q : V → Sto → Prop}
theorem okb_initv {x : Str} {e : Expr} {p pa : Pos} {rest : List Stmt} {k : Nat} {C : Addr} {n : Nat} {f : Str → Option V} (y : V) (hl : lk.lookup (Str.ofString "self") = some (V.ref k)) (hk : VarK env "self")
    (hs : σ k = some (.inst C n f)) (hC : ClsF c.K C) (hf : FieldK c.K C x) (hn : n ≤ 800) (hfx : f x = none)
    (he : ∀ Q, Q y σ → Ok c d env e lk σ Q)
    (h : OkB c d env rest lk (upd σ k (.inst C (n + 1) (fun z => if z = x then some y else f z))) QX)
    (h1 : assignEach [.Attribute (.Name "self" p) x pa] env = [(false, assign (.Attribute (.Name "self" p) x pa) env)])
    (h2 : swapsWithSole [.Attribute (.Name "self" p) x pa] e pos.line env = pure false) (h3 : swappedStores [.Attribute (.Name "self" p) x pa] e env = pure none) : OkB c d env (.Assign [.Attribute (.Name "self" p) x pa] e pos :: rest) lk σ QX := by
  refine okb_assign (he _ ?_) h1 h2 h3
  refine oka_field (okv hl hk (by lcg_src) ?_)
  refine ⟨k, C, n, f, rfl, hs, hC, hf.put, by lcg_off, ?_⟩
  rw [hfx]
  exact h
theorem okb_initc {x : Str} {e : Expr} {p pa : Pos} {rest : List Stmt} {k : Nat} {C : Addr} {n : Nat} {f : Str → Option V} (I : Nat → Sto → Prop) (hl : lk.lookup (Str.ofString "self") = some (V.ref k)) (hk : VarK env "self")
    (hC : ClsF c.K C) (hf : FieldK c.K C x) (hn : n ≤ 800) (hfx : f x = none)
    (he : ∀ Q, (∀ j σ', I j σ' → Q (.ref j) σ') → Ok c d env e lk σ Q)
    (hI : ∀ j σ', I j σ' → σ' k = some (.inst C n f))
    (h : ∀ j σ', I j σ' → OkB c d env rest lk (upd σ' k (.inst C (n + 1) (fun z => if z = x then some (.ref j) else f z))) QX)
    (h1 : assignEach [.Attribute (.Name "self" p) x pa] env = [(false, assign (.Attribute (.Name "self" p) x pa) env)])
    (h2 : swapsWithSole [.Attribute (.Name "self" p) x pa] e pos.line env = pure false) (h3 : swappedStores [.Attribute (.Name "self" p) x pa] e env = pure none) : OkB c d env (.Assign [.Attribute (.Name "self" p) x pa] e pos :: rest) lk σ QX := by
  refine okb_assign (he _ fun j σ' hj => ?_) h1 h2 h3
  refine oka_field (okv hl hk (by lcg_src) ?_)
  refine ⟨k, C, n, f, rfl, hI j σ' hj, hC, hf.put, by lcg_off, ?_⟩
  have := h j σ' hj
  rw [hfx]
  exact this
theorem t_ctl_init (LB : Lib c A) {k : Nat} (hs : σ k = some (.inst A.c_Control 0 fun zz => none))
    (h : ∀ kp σ', σ kp = none → CtlAt A σ' k kp → σ' kp = some (.list []) → (∀ j x, σ j = some x → j ≠ k → σ' j = some x) → (∀ j, σ' j = none → σ j = none) → Q .none σ') : CodeOk c 1 (.ref A.i_Control) [.ref k, .int 20] σ Q := by
  refine code_fn2 "self" "most" LB.Control.initF (by intros; rfl) (by lcg_src) fun L cdv => ?_
  kat_tups
  refine okb_init (.list []) lookup_hit (by k_memK) hs LB.Control.cls LB.Control_pile (by decide) rfl (fun Q h => okN_list h) (fun kp hkp => ?_) (by lcg_sub) (by lcg_sub) (by lcg_sub)
  have nk := ne_none hs hkp
  refine okb_initv (.int 20) lookup_hit (by k_memK) (upd_self ..) LB.Control.cls LB.Control_most (by decide) (by repeat (first | rfl | rw [if_neg (by lcg_src)])) (fun Q h => ?_) ?_ (by lcg_sub) (by lcg_sub) (by lcg_sub)
  · kas_types
    exact h
  rw [upd_upd]
  refine okb_initv (.int (-1)) lookup_hit (by k_memK) (upd_self ..) LB.Control.cls LB.Control_failed_at (by decide) (by repeat (first | rfl | rw [if_neg (by lcg_src)])) (fun Q h => ?_) ?_ (by lcg_sub) (by lcg_sub) (by lcg_sub)
  · kas_types
    exact h
  rw [upd_upd]
  kas_types
  refine ret_next (h kp _ hkp ⟨⟨_, _, ?_, upd_self .., ?_, ?_⟩⟩ ?_ ?_ ?_)
  · decide
  · show ite _ _ _ = _; repeat (first | exact if_pos rfl | rw [if_neg (by lcg_src)])
  · show ite _ _ _ = _; repeat (first | exact if_pos rfl | rw [if_neg (by lcg_src)])
  · rw [upd_ne (Ne.symm nk), upd_self]
  · intro j x hj hn
    rw [upd_ne hn, upd_ne (ne_none hj hkp)]
    exact hj
  · exact fun j hj => upd_dom (upd_dom hj)
theorem callf_new {id : Str} {st : Stmt} {C fI : Addr} {args : List V} {d' : Nat} (G : GCls c.K id st C fI) (hd : d + 1 ≤ d') (h : ∀ k, σ k = none → CodeOk c d (.ref fI) (.ref k :: args) (upd σ k (.inst C 0 fun zz => none)) (fun y σ' => y = .none ∧ Q (.ref k) σ')) :
    CallF c d' env lk σ (.ref C) args Q := ((callOk_new G.makes G.init G.initT h).mono hd fun zz zz h => h).toF
structure RunNew (A : Ads) (aW : Addr) (kf kv k kc kp kn : Nat) (σ σ' : Sto) : Prop where
  fresh : σ kc = none ∧ σ kp = none ∧ σ kn = none ∧ kc ≠ kp ∧ kc ≠ kn ∧ kp ≠ kn ∧ k ≠ kc ∧ k ≠ kp ∧ k ≠ kn
  run : ∃ n f, σ' k = some (.inst A.c_FlowRun n f) ∧ f "flat" = some (.ref kf) ∧ f "values" = some (.ref kv) ∧ f "worth_of" = some (.raw (.ref aW)) ∧ f "bits" = some (.int 16) ∧ f "control" = some (.ref kc) ∧ f "notes" = some (.ref kn) ∧
    f "worth" = none ∧ f "whole" = none ∧ f "value_of_name" = none ∧ f "store" = none ∧ f "go" = none
  ctl : CtlAt A σ' kc kp
  pile : σ' kp = some (.list [])
  notes : σ' kn = some (.list [])
  keep : ∀ j x, σ j = some x → j ≠ k → σ' j = some x
  dom : ∀ j, σ' j = none → σ j = none
theorem t_run_init (LB : Lib c A) {aW : Addr} {k kf kv : Nat} (hs : σ k = some (.inst A.c_FlowRun 0 fun zz => none))
    (h : ∀ kc kp kn σ', RunNew A aW kf kv k kc kp kn σ σ' → Q .none σ') : CodeOk c 3 (.ref A.i_FlowRun) [.ref k, .ref kf, .ref kv, .raw (.ref aW), .int 16, .int 9] σ Q := by
  refine code_fn6 "self" "flat" "values" "worth_of" "bits" "digits" LB.FlowRun.initF (by intros; rfl) (by lcg_src) fun L cdv => ?_
  kat_tups
  refine okb_initv (.ref kf) lookup_hit (by k_memK) hs LB.FlowRun.cls LB.FlowRun_flat (by decide) rfl (fun Q h => ?_) ?_ (by lcg_sub) (by lcg_sub) (by lcg_sub)
  · kas_types
    exact h
  refine okb_initv (.ref kv) lookup_hit (by k_memK) (upd_self ..) LB.FlowRun.cls LB.FlowRun_values (by decide) (by repeat (first | rfl | rw [if_neg (by lcg_src)])) (fun Q h => ?_) ?_ (by lcg_sub) (by lcg_sub) (by lcg_sub)
  · kas_types
    exact h
  rw [upd_upd]
  refine okb_initv (.raw (.ref aW)) lookup_hit (by k_memK) (upd_self ..) LB.FlowRun.cls LB.FlowRun_worth_of (by decide) (by repeat (first | rfl | rw [if_neg (by lcg_src)])) (fun Q h => ?_) ?_ (by lcg_sub) (by lcg_sub) (by lcg_sub)
  · kas_types
    exact h
  rw [upd_upd]
  refine okb_initv (.int 16) lookup_hit (by k_memK) (upd_self ..) LB.FlowRun.cls LB.FlowRun_bits (by decide) (by repeat (first | rfl | rw [if_neg (by lcg_src)])) (fun Q h => ?_) ?_ (by lcg_sub) (by lcg_sub) (by lcg_sub)
  · kas_types
    exact h
  rw [upd_upd]
  refine okb_initv (.int 9) lookup_hit (by k_memK) (upd_self ..) LB.FlowRun.cls LB.FlowRun_digits (by decide) (by repeat (first | rfl | rw [if_neg (by lcg_src)])) (fun Q h => ?_) ?_ (by lcg_sub) (by lcg_sub) (by lcg_sub)
  · kas_types
    exact h
  rw [upd_upd]
  generalize hf5 : (fun z => ite (z = Str.ofString "digits") _ _) = f5
  have b1 : (upd σ k (.inst A.c_FlowRun (0 + 1 + 1 + 1 + 1 + 1) f5)) k = some (.inst A.c_FlowRun (0 + 1 + 1 + 1 + 1 + 1) f5) := upd_self ..
  have b2 : ∀ j x, σ j = some x → j ≠ k → (upd σ k (.inst A.c_FlowRun (0 + 1 + 1 + 1 + 1 + 1) f5)) j = some x := fun j x hj hn => (upd_ne hn).trans hj
  have b3 : ∀ j, (upd σ k (.inst A.c_FlowRun (0 + 1 + 1 + 1 + 1 + 1) f5)) j = none → σ j = none := fun j hj => upd_dom hj
  generalize upd σ k (.inst A.c_FlowRun (0 + 1 + 1 + 1 + 1 + 1) f5) = σ1 at *
  refine okb_initc (C := A.c_FlowRun) (n := 0 + 1 + 1 + 1 + 1 + 1) (f := f5) (fun kc σ2 => ∃ kp, σ1 kc = none ∧ σ1 kp = none ∧ kc ≠ kp ∧ CtlAt A σ2 kc kp ∧ σ2 kp = some (.list []) ∧ (∀ j x, σ1 j = some x → σ2 j = some x) ∧ (∀ j, σ2 j = none → σ1 j = none)) lookup_hit (by k_memK) LB.FlowRun.cls LB.FlowRun_control (by decide) ?_ (fun Q h => ?_) ?_ ?_ (by lcg_sub) (by lcg_sub) (by lcg_sub)
  · subst hf5
    show ite _ _ _ = _; repeat (first | rfl | exact if_pos rfl | rw [if_neg (by lcg_src)])
  · with_reducible refine okg_call (‹Lib _ _›).Control.ns (‹Lib _ _›).Control.keep (by k_updF) (by kbo_bools) (fun zz => by lcg_sub) ?_
    kas_types
    refine callf_new (d := 1) LB.Control (by decide) fun kc hkc => ?_
    refine t_ctl_init LB (upd_self ..) fun kp σ2 h1 h2 h3 h4 h5 => ⟨rfl, h _ _ ⟨kp, hkc, upd_dom h1, ne_none (upd_self ..) h1, h2, h3, fun j x hj => h4 j x ((upd_ne (ne_none hj hkc)).trans hj) (ne_none hj hkc), fun j hj => upd_dom (h5 j hj)⟩⟩
  · rintro kc σ2 ⟨kp, h1, h2, h3, h4, h5, h6, h7⟩
    exact h6 _ _ b1
  · rintro kc σ2 ⟨kp, h1, h2, h3, h4, h5, h6, h7⟩
    have b1' := h6 _ _ b1
    have nk := ne_none b1 h1
    have nkp := ne_none b1 h2
    refine okb_init (.list []) lookup_hit (by k_memK) (upd_self ..) LB.FlowRun.cls LB.FlowRun_notes (by decide) ?_ (fun Q h => okN_list h) (fun kn hkn => ?_) (by lcg_sub) (by lcg_sub) (by lcg_sub)
    · subst hf5
      show ite _ _ _ = _; repeat (first | rfl | exact if_pos rfl | rw [if_neg (by lcg_src)])
    obtain ⟨c1, c2, c3, c4⟩ := init_facts (cell := .list []) (i1 := .inst A.c_FlowRun (0 + 1 + 1 + 1 + 1 + 1 + 1 + 1) (fun z => if z = "notes" then some (.ref kn) else if z = "control" then some (.ref kc) else f5 z)) hkn (upd_self ..)
    kas_types
    have hkn2 : σ2 kn = none := upd_dom hkn
    obtain ⟨n, fC, hn, g1, g2⟩ := h4.at_
    refine ret_next (h kc kp kn _ ⟨⟨b3 _ h1, b3 _ h2, b3 _ (h7 _ hkn2), h3, ne_none g1 hkn2, ne_none h5 hkn2, nk, nkp, ne_none b1' hkn2⟩, ⟨_, _, c2, ?_⟩, ⟨n, fC, hn, ?_, g2⟩, ?_, c1, ?_, ?_⟩)
    · subst hf5
      refine ⟨?_, ?_, ?_, ?_, ?_, ?_, ?_, ?_, ?_, ?_, ?_⟩ <;> (show ite _ _ _ = _; repeat (first | rfl | exact if_pos rfl | rw [if_neg (by lcg_src)]))
    · exact c3 _ _ ((upd_ne (Ne.symm nk)).trans g1) (Ne.symm nk)
    · exact c3 _ _ ((upd_ne (Ne.symm nkp)).trans h5) (Ne.symm nkp)
    · exact fun j x hj hn => c3 _ _ ((upd_ne hn).trans (h6 _ _ (b2 _ _ hj hn))) hn
    · exact fun j hj => b3 _ (h7 _ (upd_dom (c4 _ hj)))
end
end
-- E11
section
noncomputable def flatP : Nat → List (Int × List St) → List (Int × Row)
  | _, [] => []
  | n, p :: r => flatSs p.1 n p.2 ++ flatP (n + (flatSs p.1 n p.2).length) r
noncomputable def placesP : Nat → List (Int × List St) → (Int → Option Nat) → (Int → Option Nat)
  | _, [], g => g
  | n, p :: r, g => placesP (n + (flatSs p.1 n p.2).length) r (fun z => if z = p.1 then some n else g z)
theorem flatP_nil {n : Nat} : flatP n [] = [] := rfl
theorem flatP_cons {n : Nat} {p : Int × List St} {r : List (Int × List St)} : flatP n (p :: r) = flatSs p.1 n p.2 ++ flatP (n + (flatSs p.1 n p.2).length) r := rfl
theorem placesP_nil {n : Nat} {g : Int → Option Nat} : placesP n [] g = g := rfl
theorem placesP_cons {n : Nat} {p : Int × List St} {r : List (Int × List St)} {g : Int → Option Nat} : placesP n (p :: r) g = placesP (n + (flatSs p.1 n p.2).length) r (fun z => if z = p.1 then some n else g z) := rfl
noncomputable def encP (p : Int × List St) : V := .tup [.int p.1, .lst (encSs p.2)]
noncomputable def mkPrg (ps : List (Int × List St)) : Prg := ⟨flatP 0 ps, placesP 0 ps fun zz => none, fun zz => none⟩
theorem encR_word (r : Row) : ∃ wd rest, encR r = .tup (.str wd :: rest) ∧ (wd == ("DATA" : Str)) = false ∧ (wd == ("WHILE" : Str)) = false ∧ (wd == ("WEND" : Str)) = false ∧ (wd == ("DEFLINES" : Str)) = false ∧ (wd == ("FNEND" : Str)) = false ∧
    (wd == ("FOR" : Str)) = false ∧ (wd == ("NEXT" : Str)) = false := by
  cases r with
  | ifnot t n => refine ⟨"IFNOT", _, rfl, ?_, ?_, ?_, ?_, ?_, ?_, ?_⟩ <;> decide +kernel
  | jump n => refine ⟨"JUMP", _, rfl, ?_, ?_, ?_, ?_, ?_, ?_, ?_⟩ <;> decide +kernel
  | st s => cases s with
    | let_ x t => refine ⟨"LET", _, rfl, ?_, ?_, ?_, ?_, ?_, ?_, ?_⟩ <;> decide +kernel
    | rem s => refine ⟨"REM", _, rfl, ?_, ?_, ?_, ?_, ?_, ?_, ?_⟩ <;> decide +kernel
    | end_ => refine ⟨"END", _, rfl, ?_, ?_, ?_, ?_, ?_, ?_, ?_⟩ <;> decide +kernel
    | goto l => refine ⟨"GOTO", _, rfl, ?_, ?_, ?_, ?_, ?_, ?_, ?_⟩ <;> decide +kernel
    | gosub l => refine ⟨"GOSUB", _, rfl, ?_, ?_, ?_, ?_, ?_, ?_, ?_⟩ <;> decide +kernel
    | ongo g t ls => refine ⟨"ONGO", _, rfl, ?_, ?_, ?_, ?_, ?_, ?_, ?_⟩ <;> decide +kernel
    | ret => refine ⟨"RETURN", _, rfl, ?_, ?_, ?_, ?_, ?_, ?_, ?_⟩ <;> decide +kernel
    | if_ t a b => refine ⟨"IF", _, rfl, ?_, ?_, ?_, ?_, ?_, ?_, ?_⟩ <;> decide +kernel
section
variable {c : Ctx} {A : Ads} {d : Nat} {env : Env} {lk : Loc} {σ σ' : Sto} {pos : Pos} {QX : Fl → Loc → Sto → Prop} {Q : V → Sto → Prop}
theorem FlatAt.eq {kf kr kl kp : Nat} (h : FlatAt A σ kf kr kl kp) (hk : σ' kf = σ kf) : FlatAt A σ' kf kr kl kp := by
  obtain ⟨n, f, h1, q⟩ := h.at_
  exact ⟨n, f, hk.trans h1, q⟩
theorem enumV_cons {n : Nat} {x : V} {r : List V} : enumV n (x :: r) = .tup [.int n, x] :: enumV (n + 1) r := rfl
set_option maxHeartbeats 1000000 in
theorem t_gather (LB : Lib c A) {kf kr kl kp : Nat} {rows : List (Int × Row)} (hf : FlatAt A σ kf kr kl kp) (hr : σ kr = some (.list (rows.map encRow))) (hl : rows.length ≤ 900)
    (h : ∀ σ', (∀ j x, σ j = some x → σ' j = some x) → (∀ j, σ' j = none → σ j = none) → Q .none σ') :
    CodeOk c 2 (.ref A.f_gather) [.ref kf] σ Q := by
  refine code_fn1 "flat" LB.gather.fn (by intros; rfl) (by lcg_src) fun L cdv => ?_
  kat_tups
  refine okb_swap3 "whiles" "fors" "heads" ?_ (by lcg_sub) (by lcg_sub) (by k_upd) (by k_upd) (by k_upd)
  refine ok_tuple ?_
  refine okl_cons ?_ (fun zz => by lcg_sub)
  refine okN_list fun kw hkw => ?_
  refine okl_cons ?_ (fun zz => by lcg_sub)
  refine okN_list fun ko hko => ?_
  refine okl_cons ?_ (fun zz => by lcg_sub)
  refine okN_list fun kh hkh => ?_
  have b2 : ∀ j x, σ j = some x → upd (upd (upd σ kw (.list [])) ko (.list [])) kh (.list []) j = some x := fun j x hj => by
    have e1 := (upd_ne (c := Cell.list []) (ne_none hj hkw)).trans hj
    have e2 := (upd_ne (c := Cell.list []) (ne_none e1 hko)).trans e1
    exact (upd_ne (ne_none e2 hkh)).trans e2
  have b3 : ∀ j, upd (upd (upd σ kw (.list [])) ko (.list [])) kh (.list []) j = none → σ j = none := fun j hj => upd_dom (upd_dom (upd_dom hj))
  generalize upd (upd (upd σ kw (.list [])) ko (.list [])) kh (.list []) = σ0 at *
  obtain ⟨nI, fI, hfI, _⟩ := hf.at_
  have hr0 := b2 _ _ hr
  have hf0 : FlatAt A σ0 kf kr kl kp := hf.eq ((b2 _ _ hfI).trans hfI.symm)
  kas_types
  refine okit_enum LB.b_enumerate (by k_updF) ?_ (fun zz => by lcg_sub)
  have i0 := hf0.rows LB
  kas_types
  refine .inr ⟨kr, _, rfl, hr0, hr0, ?_⟩
  refine loop_weak (lk' := [("flat", .ref kf), ("heads", .ref kh), ("fors", .ref ko), ("whiles", .ref kw)]) (by keq_rows) ?_
  refine loop_inv2 (fun xs lk₁ σ₁ => ∃ (rs : List (Int × Row)) (n : Nat), xs = enumV n (rs.map encRow) ∧ lk₁ = ([("flat", .ref kf), ("heads", .ref kh), ("fors", .ref ko), ("whiles", .ref kw)] : Loc) ∧ σ0 = σ₁) (by k_upd) (by k_upd) (fun QB x xs lk₁ σ₁ hJ hB => ?_) (fun lk₁ σ₁ hJ => ?_)
    ⟨rows, 0, rfl, rfl, rfl⟩
  · obtain ⟨rs, n, hx, rfl, rfl⟩ := hJ
    cases rs with
    | nil => cases hx
    | cons p rs =>
      obtain ⟨line, r⟩ := p
      rw [List.map_cons, enumV_cons] at hx
      injection hx with hx1 hx2
      subst hx1
      obtain ⟨wd, rest, hwd, e1, e2, e3, e4, e5, e6, e7⟩ := encR_word r
      refine ⟨_, _, rfl, ?_⟩
      rw [show encRow (line, r) = .tup [.int line, encR r] from rfl, hwd]
      refine okb_assign ?_ (by lcg_sub) (by lcg_sub) (by lcg_sub)
      kas_types
      refine oka_tuple (okas_cons (oka_name (okas_cons (oka_name (okas_nil ?_) (by k_upd)) (by lcg_sub)) (by k_upd)) (by lcg_sub)) (by lcg_sub) (by lcg_sub)
      kas_types
      rw [e1]
      kas_types
      rw [e2]
      kas_types
      rw [e3]
      kas_types
      rw [e4]
      kas_types
      rw [e5]
      kas_types
      rw [e6]
      kas_types
      rw [e7]
      kas_types
      exact hB .next _ _ ⟨hr0, _, (by keq_rows), rs, n + 1, hx2, rfl, rfl⟩
  · obtain ⟨rs, n, hx, rfl, rfl⟩ := hJ
    cases rs with
    | cons s r => cases hx
    | nil =>
      kas_types
      exact ret_next (h _ b2 b3)
end
end
-- E12
section
section
variable {c : Ctx} {A : Ads} {d : Nat} {env : Env} {lk : Loc} {σ σ' : Sto} {pos : Pos} {QX : Fl → Loc → Sto → Prop} {Q : V → Sto → Prop}
structure FlatNew (A : Ads) (P : Prg) (kf kr kl kp : Nat) (σ σ' : Sto) : Prop where
  fresh : σ kf = none ∧ σ kr = none ∧ σ kl = none ∧ σ kp = none
  nd : [kf, kr, kl, kp].Nodup
  flat : FlatAt A σ' kf kr kl kp
  rows : σ' kr = some (.list (P.rows.map encRow))
  places : σ' kl = some (.dictI fun l => (P.places l).map fun n => .int n)
  pairs : ∃ g, σ' kp = some (.dictI g) ∧ ∀ n : Nat, g n = (P.pairs n).map fun k => .int k
  keep : ∀ j x, σ j = some x → σ' j = some x
  dom : ∀ j, σ' j = none → σ j = none
theorem few_list {g : Int → Option V} {ks : List Int} (h : ∀ z, g z ≠ none → z ∈ ks) (hN : ks.length ≤ 1000) : Few g := ⟨ks, hN, h⟩
set_option maxHeartbeats 1000000 in
theorem t_flatten (LB : Lib c A) {ps : List (Int × List St)} {D : Nat} (hps : ps.length ≤ 100) (hne : ∀ p ∈ ps, p.2 ≠ []) (hD : ∀ p ∈ ps, depSs p.2 ≤ D) (hl : (flatP 0 ps).length ≤ 900)
    (h : ∀ kf kr kl kp σ', FlatNew A (mkPrg ps) kf kr kl kp σ σ' → Q (.ref kf) σ') : CodeOk c (2 * D + 3) (.ref A.f_flatten) [.lst (ps.map encP)] σ Q := by
  refine code_fn1 "parsed" LB.flatten.fn (by intros; rfl) (by lcg_src) fun L cdv => ?_
  kat_tups
  kas_types
  with_reducible refine okg_call (‹Lib _ _›).Flat.ns (‹Lib _ _›).Flat.keep (by k_updF) (by kbo_bools) (fun zz => by lcg_sub) ?_
  kas_types
  refine callf_new (d := 1) LB.Flat (by lcg_off) fun kf hkf => ?_
  refine t_flat_init LB (upd_self ..) fun kr kl kp σ0 q1 q2 q3 n4 n5 n6 hf0 hr0 hl0 hp0 hk0 => ⟨rfl, ?_⟩
  have n1 := ne_none (upd_self σ kf (.inst A.c_Flat 0 fun zz => none)) q1
  have n2 := ne_none (upd_self σ kf (.inst A.c_Flat 0 fun zz => none)) q2
  have n3 := ne_none (upd_self σ kf (.inst A.c_Flat 0 fun zz => none)) q3
  replace q1 : σ kr = none := upd_dom q1
  replace q2 : σ kl = none := upd_dom q2
  replace q3 : σ kp = none := upd_dom q3
  have hk0' : ∀ j x, σ j = some x → σ0 j = some x := fun j x hj => hk0 j x ((upd_ne (ne_none hj hkf)).trans hj) (ne_none hj hkf)
  kas_types
  refine okit_val ?_
  kas_types
  refine ⟨_, .inr rfl, trivial, ?_⟩
  refine loop_weak (lk' := [("parsed", .lst (ps.map encP)), ("flat", .ref kf)]) (by keq_rows) ?_
  have fl : ∀ R D, FlatAt A (upd (upd σ0 kr (.list R)) kl (.dictI D)) kf kr kl kp := fun R D => (hf0.upd_ n1).upd_ n2
  have ir : ∀ R D, InstF c (upd (upd σ0 kr (.list R)) kl (.dictI D)) kf "rows" (.ref kr) := fun R D => (fl R D).rows LB
  have il : ∀ R D, InstF c (upd (upd σ0 kr (.list R)) kl (.dictI D)) kf "places" (.ref kl) := fun R D => (fl R D).places LB
  have cr : ∀ R D, upd (upd σ0 kr (.list R)) kl (.dictI D) kr = some (.list R) := fun R D => (upd_ne n4).trans (upd_self ..)
  have cl : ∀ R D, upd (upd σ0 kr (.list R)) kl (.dictI D) kl = some (.dictI D) := fun R D => upd_self ..
  refine loop_inv2 (fun xs lk₁ σ₁ => ∃ (qs : List (Int × List St)) (R : List (Int × Row)) (g : Int → Option Nat), xs = qs.map encP ∧ lk₁ = ([("parsed", .lst (ps.map encP)), ("flat", .ref kf)] : Loc) ∧ (∀ p ∈ qs, p ∈ ps) ∧ R ++ flatP R.length qs = flatP 0 ps ∧ placesP R.length qs g = placesP 0 ps (fun zz => none) ∧
    (∀ z, g z ≠ none → z ∈ ps.map (·.1)) ∧ σ₁ = upd (upd σ0 kr (.list (R.map encRow))) kl (.dictI fun l => (g l).map fun n : Nat => .int n)) (by k_upd) (by k_upd) (fun QB x xs lk₁ σ₁ hJ hB => ?_) (fun lk₁ σ₁ hJ => ?_) ⟨ps, [], _, rfl, rfl, fun zz h => h, rfl, rfl, fun zz h => absurd rfl h, ?_⟩
  · obtain ⟨qs, R, g, hx, rfl, hm, hR, hG, hg, rfl⟩ := hJ
    cases qs with
    | nil => cases hx
    | cons p qs =>
      obtain ⟨line, sts⟩ := p
      rw [List.map_cons] at hx
      injection hx with hx1 hx2
      subst hx1
      have hmem := hm _ (.head _)
      have hDs : depSs sts ≤ D := hD _ hmem
      have hnes : sts ≠ [] := hne _ hmem
      have hge := flatSs_ge (line := line) (l := sts) (n := R.length)
      have hpos : 1 ≤ sts.length := by cases sts with
        | nil => exact absurd rfl hnes
        | cons a b => simp
      have hlen : R.length + (flatSs line R.length sts).length + (flatP (R.length + (flatSs line R.length sts).length) qs).length ≤ 900 := by
        rw [← hR] at hl
        simp only [flatP_nil, flatP_cons, List.length_append] at hl
        lcg_off
      rw [show encP (line, sts) = .tup [.int line, .lst (encSs sts)] from rfl]
      refine ⟨_, _, rfl, ?_⟩
      refine okb_assign ?_ (by lcg_sub) (by lcg_sub) (by lcg_sub)
      have i1 := ir (R.map encRow) (fun l => (g l).map fun n : Nat => .int n)
      have i2 := il (R.map encRow) (fun l => (g l).map fun n : Nat => .int n)
      kas_types
      refine callf_len (.inr (.inr ⟨_, rfl, cr _ _⟩)) (le_line (by simp; lcg_off)) ?_
      refine oka_sub ?_
      kas_types
      refine set_dictI (cl _ _) (few_list (ks := ps.map (·.1)) (fun z hz => hg z (by intro e; rw [e] at hz; exact hz rfl)) (by simp; lcg_off)) ?_
      rw [upd_upd, List.length_map]
      have eD : (fun x => if x = line then some (V.int (R.length : Nat)) else Option.map (fun n : Nat => V.int n) (g x)) = (fun l => ((fun z => if z = line then some R.length else g z) l).map fun n : Nat => .int n) := by
        funext z
        by_cases e : z = line <;> simp [e]
      rw [eD]
      generalize hg2 : (fun z => if z = line then some R.length else g z) = g2
      have hgl : g2 line = some R.length := by rw [← hg2]; simp
      kas_types
      with_reducible refine okg_call (‹Lib _ _›).put_all.ns (‹Lib _ _›).put_all.keep (by k_updF) (by kbo_bools) (fun zz => by lcg_sub) ?_
      kas_types
      refine (put_all_any LB (depSs sts) sts (Nat.le_refl _) kf kr kl kp (R.map encRow) _ _ (fl _ _) (cr _ _) n1 (by rw [List.length_map]; lcg_off) ?_).f (by lcg_off)
      have ec : ∀ R', upd (upd (upd σ0 kr (.list (R.map encRow))) kl (.dictI fun l => (g2 l).map fun n : Nat => .int n)) kr (.list R') = upd (upd σ0 kr (.list R')) kl (.dictI fun l => (g2 l).map fun n : Nat => .int n) := fun R' => by
        funext j
        by_cases e1 : j = kr
        · subst e1; rw [upd_self, upd_ne n4, upd_self]
        · rw [upd_ne e1]
          by_cases e2 : j = kl
          · subst e2; rw [upd_self, upd_self]
          · rw [upd_ne e2, upd_ne e2, upd_ne e1, upd_ne e1]
      rw [ec, List.length_map, ← List.map_append]
      have i3 := ir ((R ++ flatSs line R.length sts).map encRow) (fun l => (g2 l).map fun n : Nat => .int n)
      have i4 := il ((R ++ flatSs line R.length sts).map encRow) (fun l => (g2 l).map fun n : Nat => .int n)
      kas_types
      refine item_dictI plainI (cl _ _) (y := .int R.length) (by rw [hgl]; rfl) ?_
      kas_types
      refine callf_len (.inr (.inr ⟨_, rfl, cr _ _⟩)) (le_line (by simp; lcg_off)) ?_
      kas_types
      rw [decide_eq_false (by simp; lcg_off)]
      kas_types
      refine hB .next _ _ ⟨trivial, ([("parsed", .lst (ps.map encP)), ("flat", .ref kf)] : Loc), by keq_rows, qs, R ++ flatSs line R.length sts, g2, hx2, rfl, fun p hp => hm p (.tail _ hp), ?_, ?_, ?_, rfl⟩
      · rw [← hR]; simp [flatP_nil, flatP_cons]
      · rw [← hG, ← hg2]; simp [placesP_nil, placesP_cons]
      · intro z hz
        rw [← hg2] at hz
        by_cases e : z = line
        · subst e; exact List.mem_map.mpr ⟨_, hmem, rfl⟩
        · exact hg z (by simpa [e] using hz)
  · refine opq fun Gq hGq => ?_
    obtain ⟨qs, R, g, hx, rfl, hm, hR, hG, hg, rfl⟩ := hJ
    refine hGq ?_
    clear hGq Gq
    cases qs with
    | cons s r => cases hx
    | nil =>
      simp only [flatP_nil, flatP_cons, List.append_nil] at hR
      simp only [placesP_nil, placesP_cons] at hG
      subst hR hG
      kas_types
      with_reducible refine okg_call (‹Lib _ _›).gather.ns (‹Lib _ _›).gather.keep (by k_updF) (by kbo_bools) (fun zz => by lcg_sub) ?_
      kas_types
      refine (t_gather LB (fl _ _) (cr _ _) hl fun σ' h3 h4 => ?_).f (by lcg_off)
      kas_types
      have k1 : ∀ j x, σ j = some x → σ' j = some x := fun j x hj => h3 j x ((upd_ne (ne_none hj q2)).trans ((upd_ne (ne_none hj q1)).trans (hk0' j x hj)))
      obtain ⟨nI, fI, g1, g2⟩ := (fl (List.map encRow (flatP 0 ps)) (fun l => Option.map (fun n : Nat => .int n) (placesP 0 ps (fun x => none) l))).at_
      refine ret_ret (lk := []) (h kf kr kl kp σ' ⟨⟨hkf, q1, q2, q3⟩, by simp [n1, n2, n3, n4, n5, n6], ⟨nI, fI, h3 _ _ g1, g2⟩, h3 _ _ (cr _ _), (h3 _ _ (cl (List.map encRow (flatP 0 ps)) (fun l => Option.map (fun n : Nat => .int n) (placesP 0 ps (fun x => none) l)))).trans (congrArg (fun g => some (Cell.dictI g)) (funext fun l => by show _ = Option.map _ (do let a ← placesP 0 ps (fun x => none) l; pure (a : Int)); cases placesP 0 ps (fun x => none) l <;> rfl)), ⟨_, h3 _ _ ((upd_ne (Ne.symm n6)).trans ((upd_ne (Ne.symm n5)).trans hp0)), fun zz => rfl⟩, k1, fun j hj => by
        cases e : σ j with
        | none => rfl
        | some x => rw [k1 j x e] at hj; cases hj⟩)
  · funext j
    by_cases e2 : j = kl
    · subst e2; rw [upd_self]; exact hl0
    · rw [upd_ne e2]
      by_cases e1 : j = kr
      · subst e1; rw [upd_self]; exact hr0
      · rw [upd_ne e1]
end
end
-- X1
noncomputable abbrev bmE : List Value := [.type "Exception", .type "BaseException", .type "object"]
theorem xf_slot_wd_get : Slot "wrapper_descriptor" "__get__" "wrapper_descriptor.__get__" := .of (owner := "wrapper_descriptor") (n := "__get__") (by rw [typeLookup_type, builtinLookup_eq_fast]; kernel_rfl) (by lcg_src) (by lcg_src) (by lcg_src)
  (by first | exact .inl (by lcg_src) | exact .inr (by lcg_src)) (by rw [isSubtype_type]; kernel_rfl)
theorem xf_entry_wd_get : entryFor table "wrapper_descriptor.__get__" = some Builtin.«wrapper_descriptor.__get__» := entryFor_of_tree (by kernel_rfl)
theorem xf_wd_args (a b c : Value) : argsOk "wrapper_descriptor.__get__" ⟨[a, b, c], []⟩ := by unfold argsOk; kernel_rfl
theorem xf_type_init : typeOf (.builtin "Exception.__init__") = pure (.type "wrapper_descriptor") := by kernel_rfl
theorem xf_along (K : Frag) : alongIn K "__init__" bmE = some (some (.builtin "Exception.__init__")) := by rfl
theorem xf_owner : (".".intercalate ("Exception.__init__".cutAt '.').dropLast) = "Exception" := by
  have e0 : "Exception.__init__".cutAt '.' = ["Exception", "__init__"] := by first | rfl | decide +kernel
  rw [e0]; decide +kernel
section
variable {prog : Program} {w : World} {M : Model} {A : Around} {E : Value → Shared → Prop} {h : Heap} {g : Array GenState} {d : Drawn} {t : Nat} {os : OsState}
variable {nm q : Str} {C N : Addr} {bs : List Value} {sn : List Str} {sub : List Value} {ab : Bool} {col : Option Bool} {dd : Option Addr} {k0 k1 k2 k3 k5 : Option Value} {newId : String}
theorem cbc_slot {id : String} {sig : Manifest.Signature} {self : Value} {rest : List Value} (h1 : Manifest.signature? id = some sig) (h2 : builtinKind id = some .slot) : checkBoundCall id ⟨self :: rest, []⟩ = Bind.checkArgs id sig ⟨self :: rest, []⟩ := by
  delta checkBoundCall
  rw [h1, h2]
  rfl
theorem xf_bound {e : Addr} {oe : Obj} {b : Value} {Q : Unit → Shared → Prop} (hC : h.get? C = some (excClassObj nm q C N bs bmE true sn sub ab col dd k0 k1 k2 k3 k5 newId)) (he : h.get? e = some oe) (hcls : oe.cls = .ref C) (hq : Q () ⟨h, g, d, t, os⟩) :
    wpAny M A (checkBoundCall "Exception.__init__" ⟨[.ref e, b], []⟩) Q E ⟨h, g, d, t, os⟩ := by
  have F := PySem.F.excBase_Exception
  have hcB : (Value.ref C :: bmE).contains (.type "Exception") = true := by rw [List.contains_cons, F.hasB, Bool.or_true]
  have hshort := F.noStar
  rw [cbc_slot F.initRow F.initKind]
  repeat (first | (with_reducible refine wpAny_loadPart_at he ?_; rw [hcls]) | with_reducible refine wpAny_loadPart_at hC ?_ | (with_reducible refine wpAny_isSubtype_exc hC ?_; rw [hcB]) | wp_step)
  exact hq
set_option maxHeartbeats 2000000 in
theorem xs_ga {so x : Addr} {l₀ l : List Value} {K : Frag} {ox : Obj} {tk : Tok} {Q : Fin → Shared → Prop}
    (hso : h.get? so = some { cls := .type "super", dict := none, data := .fields #[.ref C, .ref x, .ref C], slots := #[] }) (hno : Looks (model prog w) h (opaqueClassAbove (.ref C)) none)
    (hm : Looks (model prog w) h (mroOf (.ref C)) l₀) (hl : (l₀.dropWhile (· != .ref C)).drop 1 = l) (hx : h.get? x = some ox) (hxc : ox.cls = .ref C) (hs : Looks (model prog w) h (isSubtype (.ref C) (.type "Exception")) true) (X : K.In h) (hxC : x ≠ C)
    (hf : alongIn K "__init__" l = some (some (.builtin "Exception.__init__")))
    (hq : Q (.done (.ret (.ref h.objs.size))) ⟨h.push { cls := .type "method-wrapper", data := .fields #[.builtin "Exception.__init__", .ref x] }, g, d, t, os⟩) :
    wpAny (model prog w) A (Builtin.«super.__getattribute__» ⟨[.ref so, .str "__init__" tk], []⟩) Q E ⟨h, g, d, t, os⟩ := by
  have hlk := xf_slot_wd_get.lookup
  have hne : (Value.ref x == Value.ref C) = false := by simp [hxC]
  have hTf : (⟨h, g, d, t, os⟩ : Shared).TypeIs (.builtin "Exception.__init__") "wrapper_descriptor" := xf_type_init
  have hdt : ({ cls := .type "super", dict := none, data := .fields #[.ref C, .ref x, .ref C], slots := #[] } : Obj).data = .fields #[.ref C, .ref x, .ref C] := rfl
  have f0 : (#[.ref C, .ref x, .ref C] : Array Value)[0]? = some (.ref C) := rfl
  have f1 : (#[.ref C, .ref x, .ref C] : Array Value)[1]? = some (.ref x) := rfl
  have f2 : (#[.ref C, .ref x, .ref C] : Array Value)[2]? = some (.ref C) := rfl
  have hn : (("__init__" : Str) == ("__class__" : Str)) = false := by decide +kernel
  unfold Builtin.«super.__getattribute__»
  repeat (first
    | (with_reducible refine wpAny_field hso hdt f0 ?_) | (with_reducible refine wpAny_field hso hdt f1 ?_) | (with_reducible refine wpAny_field hso hdt f2 ?_)
    | (with_reducible refine ks_wpAny_notOpaque hno ?_)
    | (with_reducible refine Looks.at hm ?_; rw [hl])
    | (refine ks_forIn_along X (fun zz zz => rfl) rfl ?_ hf)
    | (with_reducible refine wpAny_typeOf hTf ?_)
    | (with_reducible refine wpAny_call_entry xf_slot_wd_get hTf xf_entry_wd_get ?_ (xf_wd_args _ _ _))
    | (with_reducible refine ⟨_, rfl, ?_⟩)
    | (simp only [hn, hne, Bool.or_false, Bool.false_eq_true, if_false])
    | (rw [hxc, xf_owner]; with_reducible refine Looks.at hs ?_)
    | wp_step
    | dsimp only)
  all_goals exact hq
theorem xs_getMethod {so x : Addr} {l₀ l : List Value} {K : Frag} {ox : Obj} {pl : Sem Bool} {Q : Value × List Value → Shared → Prop}
    (hso : h.get? so = some { cls := .type "super", dict := none, data := .fields #[.ref C, .ref x, .ref C], slots := #[] }) (hno : Looks (model prog w) h (opaqueClassAbove (.ref C)) none)
    (hm : Looks (model prog w) h (mroOf (.ref C)) l₀) (hl : (l₀.dropWhile (· != .ref C)).drop 1 = l) (hx : h.get? x = some ox) (hxc : ox.cls = .ref C) (hs : Looks (model prog w) h (isSubtype (.ref C) (.type "Exception")) true) (X : K.In h) (hxC : x ≠ C)
    (hf : alongIn K "__init__" l = some (some (.builtin "Exception.__init__")))
    (hq : Q (.ref h.objs.size, []) ⟨h.push { cls := .type "method-wrapper", data := .fields #[.builtin "Exception.__init__", .ref x] }, g, d, t + 1, os⟩) :
    wpAny (model prog w) A (getMethod (.ref so) "__init__" pl) Q E ⟨h, g, d, t, os⟩ := by
  have hlk := F.ks_slot_super_ga.lookup
  have hcan := F.ks_canon_super_ga
  have hT : ∀ t', (⟨h, g, d, t', os⟩ : Shared).TypeIs (.ref so) "super" := fun zz => ⟨_, hso, rfl⟩
  unfold getMethod
  refine wpAny_bind (wpAny_specialOf (hT _) hlk ?_)
  show wpAny _ _ (if (Manifest.canonical "super.__getattribute__" != "object.__getattribute__") = true then _ else _) _ _ _
  rw [if_pos hcan]
  unfold getAttr getAttrBy
  refine wpAny_bind (wpAny_bind (wpAny_mkText (wpAny_holding (wpAny_bind (wpAny_typeOf (hT _) (wpAny_bind (wpAny_of_eq hlk ?_)))))))
  show wpAny _ _ (getAttrByItsOwn (.ref so) (.str "__init__" t) (.type "super") (.builtin "super.__getattribute__") true false) _ _ _
  unfold getAttrByItsOwn hookBefore callGetattribute boundAndCalled
  refine wpAny_bind (wpAny_of_eq (show (if onTheHeap (.type "super") then typeLookup (.type "super") "__getattr__" else pure none) = pure none from rfl) ?_)
  refine wpAny_bind (wpAny_attempt (wpAny_holding ?_))
  show wpAny _ _ (bindSpecial (.builtin "super.__getattribute__") (.ref so) >>= _) _ _ _
  refine wpAny_bind (wpAny_of_eq (F.ks_slot_super_ga.bind _) ?_)
  refine wpAny_mono (Q := fun v s' => v = .ref h.objs.size ∧ s' = ⟨h.push { cls := .type "method-wrapper", data := .fields #[.builtin "Exception.__init__", .ref x] }, g, d, t + 1, os⟩) (E := fun zz zz => False)
    (wpAny_call_entry F.ks_slot_super_ga (hT _) F.ks_entry_super_ga (xs_ga hso hno hm hl hx hxc hs X hxC hf ⟨_, rfl, rfl, rfl⟩) (F.ks_gaArgs_super _ _)) (fun v s' hv => ?_) fun zz zz z => z.elim
  obtain ⟨rfl, rfl⟩ := hv
  exact wpAny_pure (wpAny_pure hq)
theorem xs_init {mw x t0 : Addr} {ox : Obj} {vs : Array Value} {v : Value} {Q : Value → Shared → Prop} (hmw : h.get? mw = some { cls := .type "method-wrapper", dict := none, data := .fields #[.builtin "Exception.__init__", .ref x], slots := #[] })
    (hC : h.get? C = some (excClassObj nm q C N bs bmE true sn sub ab col dd k0 k1 k2 k3 k5 newId)) (hx : h.get? x = some ox) (hxc : ox.cls = .ref C) (hd : ox.data = .fields vs) (h0 : vs[0]? = some (.ref t0))
    (hq : ∀ h', (∀ b o, b ≠ x → h.get? b = some o → h'.get? b = some o) → h'.get? x = some { ox with data := .fields (vs.set! 0 (.ref h.objs.size)) } → Q .none ⟨h', g, d, t, os⟩) :
    wpAny (model prog w) A (call (.ref mw) [v]) Q E ⟨h, g, d, t, os⟩ := by
  have Fx := F.excBase_Exception
  refine wpAny_call (codeAny_of_tree ?_)
  show wpAny _ _ (callAny (.ref mw) _) _ _ _
  unfold callAny
  refine wpAny_bind (wpAny_load hmw ?_)
  show wpAny _ _ (checkBoundCall "Exception.__init__" ⟨[.ref x, v], []⟩ >>= _) _ _ _
  refine wpAny_bind (xf_bound hC hx hxc (wpAny_bind (wpAny_pure ?_)))
  refine wpAny_pure ⟨Code.quiet_builtin _ (by lcg_src), codeAny_builtin Fx.initEntry ?_⟩
  show wpAny _ _ (Builtin.«BaseException.__init__» ⟨[.ref x, v], []⟩) _ _ _
  have hx₁ : (h.push { cls := .type "tuple", data := .seq #[v] }).get? x = some ox := Heap.get?_push_of_some _ hx
  have hsz : 0 < vs.size := (Array.getElem?_eq_some_iff.mp h0).1
  unfold Builtin.«BaseException.__init__» newTuple Builtin.BaseException.bexcPut
  dsimp only
  rw [if_neg (by decide)]
  refine wpAny_bind (wpAny_newObj_type ?_ (by size_fits))
  refine wpAny_bind (wpAny_bind (wpAny_field hx₁ hd h0 (wpAny_bind (wpAny_setField hx₁ hd hsz ?_))))
  have hne : x ≠ h.objs.size := Nat.ne_of_lt (Heap.lt_size hx)
  repeat wp_step
  refine hq _ (fun b o hb e => (Heap.get?_update_other _ _ (Ne.symm hb)).trans (Heap.get?_push_of_some _ e)) ?_
  rw [Heap.get?_update_self _ hx₁ (Obj.isFreed_of_fields (Obj.data_mapFields hd _))]
  obtain ⟨oc, od, odt, osl⟩ := ox
  cases hd
  rfl
end
-- X2
noncomputable def FlAt (B h : Heap) (e : Addr) (vs : Array Value) : Option Value → Prop
  | none => vs[1]? = some .none
  | some v => ∃ T oT ts, vs[1]? = some (.ref T) ∧ B.get? T = none ∧ T ≠ e ∧ h.get? T = some oT ∧ oT.data = .fields ts ∧ ts[3]? = some v
structure Fly (B : Heap) (l : List Env) (e C D : Addr) (fl : Option Value) (h : Heap) : Prop where
  stay : B.StaysIn h
  new : B.get? e = none
  fr : h.FunFrames B l
  obj : ∃ vs sl, h.get? e = some ⟨.ref C, some D, .fields vs, sl⟩ ∧ 1 < vs.size ∧ FlAt B h e vs fl
section
variable {M : Model} {A : Around} {E : Value → Shared → Prop} {s : Shared} {B : Heap} {l outer : List Env} {env : Env} {e C D L : Addr} {Q : Unit → Shared → Prop}
noncomputable abbrev tbO (head : Value) (L : Addr) (pl : List Value) : Obj := { cls := .type "traceback", dict := none, data := .fields ([head, .ref L, .none, rawInt L, .none] ++ (if pl.isEmpty then List.replicate 6 Value.none else pl)).toArray }
theorem fly_entry {vs : Array Value} {sl : Array (Option Value)} {head : Value} {b : Bool} (hfr : A.frames = some (env :: outer)) (hf : env.frame = some L) (st : B.StaysIn s.heap) (hn : B.get? e = none) (hl : s.heap.FunFrames B (env :: outer))
    (he : s.heap.get? e = some ⟨.ref C, some D, .fields vs, sl⟩) (hv : 1 < vs.size) (h : ∀ h', Fly B (env :: outer) e C D (some (rawInt L)) h' → s.heap.UpToSlots h' → Q () { s with heap := h' }) :
    wpAny M A (do let a ← frameOf env; let pl ← entryPlaceOf L b; let b ← EntryCells.newEntry head a .none (rawInt L) .none pl; setField (.ref e) 1 b) Q E s := by
  have hne : e ∉ (env :: outer).filterMap (·.frame) := fun hm => (hl.mem hm).2.elim fun o z => z.2 vs ((congrArg Obj.data (some_ne he z.1)).symm)
  refine wpAny_bind (wpAny_frameOf_fun hfr hl hf fun h₁ x₁ => wpAny_bind (wpAny_entryPlaceOf fun pl hpl => ?_))
  have e₁ : h₁.get? e = some ⟨.ref C, some D, .fields vs, sl⟩ := (x₁.2.1 e hne).trans he
  have k₁ : B.StaysIn h₁ := fun b o hb => (x₁.2.1 b fun hm => nomatch ((hl.mem hm).1.symm.trans hb : none = some o)).trans (st b o hb)
  unfold EntryCells.newEntry newFields
  refine wpAny_bind (wpAny_newObj_type ?_ (hpl.sizeOk5 _ _ _ _ _))
  have e₂ : (h₁.push (tbO head L pl)).get? e = some ⟨.ref C, some D, .fields vs, sl⟩ := Heap.get?_push_of_some _ e₁
  have nT : h₁.objs.size ≠ e := Nat.ne_of_gt (Heap.lt_size e₁)
  have kp : ∀ b o, b ≠ e → h₁.get? b = some o → ((h₁.push (tbO head L pl)).update e (Obj.mapFields (·.setIfInBounds 1 (.ref h₁.objs.size)))).get? b = some o :=
    fun b o hb q => (Heap.get?_update_other _ _ (Ne.symm hb)).trans (Heap.get?_push_of_some _ q)
  have ne : ∀ b o, s.heap.get? b = some o → (∀ vs, o.data ≠ .fields vs) → b ≠ e := fun b o q z y => z vs (by subst y; exact (congrArg Obj.data (some_ne q he)))
  refine wpAny_setField e₂ rfl hv (h _ ⟨fun b o q => kp b o (fun y => by rw [y, hn] at q; cases q) (k₁ b o q), hn, hl.of_keeps fun b o q z => ?_, ?_⟩ fun b o q z => ?_)
  · exact (x₁.2.2 b o q).elim fun sl' y => ⟨_, kp b _ (ne b o q z) y, rfl⟩
  · refine ⟨vs.setIfInBounds 1 (.ref h₁.objs.size), sl, (Heap.get?_update_self _ e₂ rfl).trans rfl, by simpa using hv, h₁.objs.size, tbO head L pl, _, by simp [hv], k₁.fresh, nT, ?_, rfl, ?_⟩
    · exact (Heap.get?_update_other _ _ (Ne.symm nT)).trans (Heap.get?_push_size _ rfl)
    · rcases hpl with rfl | ⟨_, _, _, _, _, _, _, rfl⟩ <;> simp
  · exact (x₁.2.2 b o q).imp fun sl' y => kp b _ (ne b o q z) y
theorem fly_upd {v u : Value} {vs : Array Value} {sl : Array (Option Value)} {T : Addr} {oT : Obj} {ts : Array Value} {h : Heap} (st : B.StaysIn h) (hn : B.get? e = none) (hl : h.FunFrames B l) (he : h.get? e = some ⟨.ref C, some D, .fields vs, sl⟩) (hv : 1 < vs.size)
    (h1 : vs[1]? = some (.ref T)) (hT : B.get? T = none) (ht : T ≠ e) (ho : h.get? T = some oT) (hd : oT.data = .fields ts) (h3 : ts[3]? = some v) :
    Fly B l e C D (some u) (h.update T (Obj.mapFields (·.setIfInBounds 3 u))) ∧ h.UpToSlots (h.update T (Obj.mapFields (·.setIfInBounds 3 u))) := by
  have kp : ∀ b o, b ≠ T → h.get? b = some o → (h.update T (Obj.mapFields (·.setIfInBounds 3 u))).get? b = some o := fun b o hb q => (Heap.get?_update_other _ _ (Ne.symm hb)).trans q
  have ne : ∀ b o, h.get? b = some o → (∀ vs, o.data ≠ .fields vs) → b ≠ T := fun b o q z y => z ts (by subst y; rw [some_ne q ho]; exact hd)
  have hs : 3 < ts.size := (Array.getElem?_eq_some_iff.mp h3).1
  refine ⟨⟨fun b o q => kp b o (fun y => by rw [y, hT] at q; cases q) (st b o q), hn, hl.of_keeps fun b o q z => ⟨o, kp b o (ne b o q z) q, rfl⟩, vs, sl, kp e _ (Ne.symm ht) he, hv, T, _, ts.setIfInBounds 3 u, h1, hT, ht, Heap.get?_update_self _ ho (Obj.isFreed_of_fields (Obj.data_mapFields hd _)), Obj.data_mapFields hd _, by simp [hs]⟩,
    fun b o q z => ⟨o.slots, kp b o (ne b o q z) q⟩⟩
theorem fly_set {v : Value} (F : Fly B l e C D (some v) s.heap) (h : ∀ h', Fly B l e C D (some .none) h' → s.heap.UpToSlots h' → Q () { s with heap := h' }) : wpAny M A (setFlight (.ref e) none) Q E s := by
  obtain ⟨vs, sl, he, hv, T, oT, ts, h1, hn, ht, ho, hd, h3⟩ := F.obj
  unfold setFlight
  refine wpAny_bind (wpAny_field he rfl h1 ?_)
  rw [if_pos (show (Value.ref T != Value.none) = true from by simp)]
  have z := fly_upd (u := .none) F.stay F.new F.fr he hv h1 hn ht ho hd h3
  exact wpAny_setField ho hd (Array.getElem?_eq_some_iff.mp h3).1 (h _ z.1 z.2)
theorem fly_note {fl : Option Value} (hfl : fl = none ∨ fl = some .none) (hfr : A.frames = some (env :: outer)) (hf : env.frame = some L) (F : Fly B (env :: outer) e C D fl s.heap) (h : ∀ h', Fly B (env :: outer) e C D (some (rawInt L)) h' → s.heap.UpToSlots h' → Q () { s with heap := h' }) :
    wpAny M A (noteFrame (.ref e) env) Q E s := by
  obtain ⟨vs, sl, he, hv, hz⟩ := F.obj
  unfold noteFrame
  simp only [hf]
  rcases hfl with rfl | rfl
  · refine wpAny_bind (wpAny_field he rfl hz ?_)
    rw [if_neg (by decide)]
    exact fly_entry hfr hf F.stay F.new F.fr he hv h
  · obtain ⟨T, oT, ts, h1, hn, ht, ho, hd, h3⟩ := hz
    refine wpAny_bind (wpAny_field he rfl h1 ?_)
    rw [if_pos (show (Value.ref T != Value.none) = true from by simp)]
    refine wpAny_bind (wpAny_field ho hd h3 ?_)
    rw [if_neg (show ¬ ((Value.none == rawInt L) = true) from by simp [rawInt])]
    refine wpAny_bind (wpAny_setField ho hd (Array.getElem?_eq_some_iff.mp h3).1 ?_)
    obtain ⟨z, u⟩ := fly_upd (u := .none) F.stay F.new F.fr he hv h1 hn ht ho hd h3
    obtain ⟨vs', sl', he', hv', _⟩ := z.obj
    exact fly_entry hfr hf z.stay z.new z.fr he' hv' fun h' F' u' => h h' F' (u.trans u')
theorem fly_back {v : Value} (hf : env.frame = some L) (F : Fly B l e C D (some v) s.heap) {Er : Value → Shared → Prop} (h : ∀ h', Fly B l e C D (some (rawInt L)) h' → s.heap.UpToSlots h' → Er (.ref e) { s with heap := h' }) : cameBackBy M A env Er (.ref e) s := by
  obtain ⟨vs, sl, he, hv, T, oT, ts, h1, hn, ht, ho, hd, h3⟩ := F.obj
  unfold cameBackBy
  refine wpAny_bind (wpAny_field he rfl h1 ?_)
  rw [if_neg (show ¬ ((Value.ref T == Value.none) = true) from by simp)]
  rw [hf]
  unfold setFlight
  refine wpAny_bind (wpAny_field he rfl h1 ?_)
  rw [if_pos (show (Value.ref T != Value.none) = true from by simp)]
  have z := fly_upd (u := rawInt L) F.stay F.new F.fr he hv h1 hn ht ho hd h3
  exact wpAny_setField ho hd (Array.getElem?_eq_some_iff.mp h3).1 (h _ z.1 z.2)
theorem fly_again (hf : env.frame = some L) (F : Fly B l e C D (some (rawInt L)) s.heap) (h : Q () s) : wpAny M A (noteFrame (.ref e) env) Q E s := by
  obtain ⟨vs, sl, he, hv, T, oT, ts, h1, hn, ht, ho, hd, h3⟩ := F.obj
  unfold noteFrame
  simp only [hf]
  refine wpAny_bind (wpAny_field he rfl h1 ?_)
  rw [if_pos (show (Value.ref T != Value.none) = true from by simp)]
  refine wpAny_bind (wpAny_field ho hd h3 ?_)
  rw [if_pos (show (rawInt L == rawInt L) = true from beq_self_eq_true _)]
  exact wpAny_pure h
noncomputable def FlOk (L : Addr) (fl : Option Value) : Prop := fl = none ∨ fl = some .none ∨ fl = some (rawInt L)
theorem fly_noteL {fl : Option Value} (hfl : FlOk L fl) (hfr : A.frames = some (env :: outer)) (hf : env.frame = some L) (F : Fly B (env :: outer) e C D fl s.heap) (h : ∀ h', Fly B (env :: outer) e C D (some (rawInt L)) h' → s.heap.UpToSlots h' → Q () { s with heap := h' }) :
    wpAny M A (noteFrame (.ref e) env) Q E s := by
  rcases hfl with z | z | rfl
  · exact fly_note (.inl z) hfr hf F h
  · exact fly_note (.inr z) hfr hf F h
  · exact fly_again hf F (h _ F (.refl _))
theorem fly_leave {fl : Option Value} (hfl : FlOk L fl) (hfr : A.frames = some (env :: outer)) (hf : env.frame = some L) (F : Fly B (env :: outer) e C D fl s.heap) (h : ∀ h', Fly B outer e C D (some .none) h' → s.heap.UpToSlots h' → Q () { s with heap := h' }) :
    wpAny M A (leaving env (.ref e)) Q E s := by
  unfold leaving
  exact wpAny_bind (fly_noteL hfl hfr hf F fun h' F' u => fly_set F' fun h'' F'' u' => h h'' ⟨F''.stay, F''.new, F''.fr.2.2, F''.obj⟩ (u.trans u'))
end
-- X3
noncomputable def topL (l : List Env) : Addr := (l.head?.map (·.locals)).getD 0
noncomputable def locs (l : List Env) : List Addr := l.map (·.locals)
structure FrameAt (c : Ctx) (h : Heap) (μ : AMap) (e : Env) : Prop where
  kind : e.scope.kind ≠ .module
  frame : e.frame = some e.locals
  base : c.H0.get? e.locals = none
  frz : Frz μ e.locals
  dict : ∃ o es n, h.get? e.locals = some o ∧ o.data = .dict es n
structure Deep (c : Ctx) (A : Around) (env : Env) (outs : List Env) (h : Heap) (μ : AMap) : Prop where
  fr : A.frames = some (env :: outs)
  frame : env.frame = some env.locals
  ok : ∀ e ∈ outs, FrameAt c h μ e
  ap : ∀ e ∈ outs, ¬ own env e.locals
noncomputable def Odd (h : Heap) (b : Addr) : Prop := ∀ o, h.get? b = some o → (∃ vs, o.data = .fields vs) ∨ ∃ es n, o.data = .dict es n
structure Raised (c : Ctx) (C : Addr) (X : Addr → Prop) (l : List Env) (μ : AMap) (s : Shared) (code : Str) (e : Addr) (s₁ : Shared) (μ₁ : AMap) (σ₁ : Sto) (h' : Heap) : Prop where
  r : HR c s₁.heap μ₁ σ₁
  st : Step X μ μ₁ s s₁
  fly : ∃ hid D fl, (∀ b ∈ hid, (b ∈ locs l ∨ s.heap.get? b = none) ∧ Frz μ₁ b ∧ c.H0.get? b = none ∧ Odd s₁.heap b) ∧ (s.heap.get? e = none ∧ s.heap.get? D = none ∧ Frz μ₁ e ∧ Frz μ₁ D) ∧ (∃ m t, s₁.heap.Ns D m ∧ m "code" = some (.str code t)) ∧ FlOk (topL l) fl ∧ Fly (hideAll s₁.heap hid) l e C D fl h'
  slots : s₁.heap.UpToSlots h'
section
variable {c : Ctx} {C : Addr} {d : Nat} {env : Env} {outs : List Env} {lk : Loc} {σ : Sto} {pos : Pos} {Q : V → Sto → Prop} {QX : Fl → Loc → Sto → Prop} {QE : Loc → Sto → Str → Prop}
theorem FrameAt.step {X : Addr → Prop} {μ μ' : AMap} {s s' : Shared} {e : Env} (f : FrameAt c s.heap μ e) (st : Step X μ μ' s s') (hx : ¬ X e.locals) : FrameAt c s'.heap μ' e :=
  ⟨f.kind, f.frame, f.base, f.dict.elim fun o z => z.elim fun zz z => z.elim fun zz z => st.frz z.1 f.frz, f.dict.imp fun o => Exists.imp fun zz => Exists.imp fun zz z => ⟨st.keep _ o f.frz hx z.1, z.2⟩⟩
theorem Deep.step {A : Around} {μ μ' : AMap} {s s' : Shared} (D : Deep c A env outs s.heap μ) (st : Step (own env) μ μ' s s') : Deep c A env outs s'.heap μ' :=
  ⟨D.fr, D.frame, fun e he => (D.ok e he).step st (D.ap e he), D.ap⟩
theorem FR.at_ {h : Heap} {μ : AMap} (f : FR c env lk h μ) (hf : env.frame = some env.locals) : FrameAt c h μ env :=
  ⟨f.kind ▸ nofun, hf, H0_none f.above, f.frzL, f.ns.elim fun m n => n.1.imp fun o => Exists.imp fun zz => Exists.imp fun zz z => ⟨z.1, z.2.1⟩⟩
theorem Deep.all {A : Around} {μ : AMap} {s : Shared} (D : Deep c A env outs s.heap μ) (f : FR c env lk s.heap μ) : ∀ e ∈ env :: outs, FrameAt c s.heap μ e := fun e he => (List.mem_cons.mp he).elim (fun q => q ▸ f.at_ D.frame) (D.ok e)
noncomputable def RPost (c : Ctx) (C : Addr) (env : Env) (outs : List Env) (μ : AMap) (s : Shared) (QE : Loc → Sto → Str → Prop) (Er : Value → Shared → Prop) : Prop :=
  ∀ e s₁ μ₁ σ₁ lk₁ code h', QE lk₁ σ₁ code → FR c env lk₁ s₁.heap μ₁ → Raised c C (own env) (env :: outs) μ s code e s₁ μ₁ σ₁ h' → Er (.ref e) { s₁ with heap := h' }
theorem Raised.back {X : Addr → Prop} {l : List Env} {μ μ' : AMap} {s s' : Shared} {code : Str} {e : Addr} {s₁ : Shared} {μ₁ : AMap} {σ₁ : Sto} {h' : Heap} (R : Raised c C X l μ' s' code e s₁ μ₁ σ₁ h') (st : Step X μ μ' s s') : Raised c C X l μ s code e s₁ μ₁ σ₁ h' :=
  ⟨R.r, st.trans R.st, R.fly.imp fun hid => Exists.imp fun D => Exists.imp fun fl z => ⟨fun b hb => ⟨(z.1 b hb).1.imp id st.back, (z.1 b hb).2⟩, ⟨st.back z.2.1.1, st.back z.2.1.2.1, z.2.1.2.2⟩, z.2.2⟩, R.slots⟩
theorem RPost.after {μ μ' : AMap} {s s' : Shared} {Er : Value → Shared → Prop} (q : RPost c C env outs μ s QE Er) (st : Step (own env) μ μ' s s') : RPost c C env outs μ' s' QE Er :=
  fun e s₁ μ₁ σ₁ lk₁ code h' hq f R => q e s₁ μ₁ σ₁ lk₁ code h' hq f (R.back st)
theorem RPost.loop {A : Around} {μ : AMap} {s : Shared} {Er : Value → Shared → Prop} (D : Deep c A env outs s.heap μ) (q : RPost c C env outs μ s QE Er) : RPost c C env outs μ s QE (notedBy c.M A env (cameBackBy c.M A env Er)) := by
  intro e s₁ μ₁ σ₁ lk₁ code h' hq f R
  refine opq fun Gq hGq => ?_
  obtain ⟨hid, Dd, fl, h1, h2, h3, h4, F⟩ := R.fly
  refine hGq ?_
  clear hGq Gq
  refine fly_noteL h4 D.fr D.frame F fun h₂ F₂ u₂ => fly_back D.frame F₂ fun h₃ F₃ u₃ => q e s₁ μ₁ σ₁ lk₁ code h₃ hq f ⟨R.r, R.st, ⟨hid, Dd, _, h1, h2, h3, .inr (.inr rfl), F₃⟩, (R.slots.trans u₂).trans u₃⟩
noncomputable def OkE (c : Ctx) (C : Addr) (d : Nat) (env : Env) (outs : List Env) (e : Expr) (lk : Loc) (σ : Sto) (Q : V → Sto → Prop) (QE : Loc → Sto → Str → Prop) : Prop :=
  ∀ A s μ Qr Er, AOk A d → HR c s.heap μ σ → FR c env lk s.heap μ → Deep c A env outs s.heap μ → ValPost c env lk μ s Q Qr → RPost c C env outs μ s QE Er → wpAny c.M A (eval e env) Qr Er s
noncomputable def OkTE (c : Ctx) (C : Addr) (d : Nat) (env : Env) (outs : List Env) (e : Expr) (lk : Loc) (σ : Sto) (Q : Bool → Sto → Prop) (QE : Loc → Sto → Str → Prop) : Prop :=
  ∀ A s μ Qr Er, AOk A d → HR c s.heap μ σ → FR c env lk s.heap μ → Deep c A env outs s.heap μ →
    (∀ b s' σ' μ', Q b σ' → HR c s'.heap μ' σ' → FR c env lk s'.heap μ' → Step (own env) μ μ' s s' → Qr b s') → RPost c C env outs μ s QE Er → wpAny c.M A (isTrue e env (eval e env)) Qr Er s
noncomputable def OkXE (c : Ctx) (C : Addr) (d : Nat) (env : Env) (outs : List Env) (st : Stmt) (lk : Loc) (σ : Sto) (Q : Fl → Loc → Sto → Prop) (QE : Loc → Sto → Str → Prop) : Prop :=
  ∀ A s μ Qr Er, AOk A d → HR c s.heap μ σ → FR c env lk s.heap μ → Deep c A env outs s.heap μ → FlPost c env μ s Q Qr → RPost c C env outs μ s QE Er → wpAny c.M A (exec st env) Qr Er s
noncomputable def OkBE (c : Ctx) (C : Addr) (d : Nat) (env : Env) (outs : List Env) (sts : List Stmt) (lk : Loc) (σ : Sto) (Q : Fl → Loc → Sto → Prop) (QE : Loc → Sto → Str → Prop) : Prop :=
  ∀ A s μ Qr Er, AOk A d → HR c s.heap μ σ → FR c env lk s.heap μ → Deep c A env outs s.heap μ → FlPost c env μ s Q Qr → RPost c C env outs μ s QE Er → wpAny c.M A (execs sts env) Qr Er s
theorem oke_of {e : Expr} (h : Ok c d env e lk σ Q) : OkE c C d env outs e lk σ Q QE := fun A s μ Qr Er ok r f zz q zz => h A s μ Qr Er ok r f q
theorem oktE_of {e : Expr} {QT : Bool → Sto → Prop} (h : OkT c d env e lk σ QT) : OkTE c C d env outs e lk σ QT QE := fun A s μ Qr Er ok r f zz q zz => h A s μ Qr Er ok r f q
theorem okxE_of {st : Stmt} (h : OkX c d env st lk σ QX) : OkXE c C d env outs st lk σ QX QE := fun A s μ Qr Er ok r f zz q zz => h A s μ Qr Er ok r f q
theorem okbE_of {sts : List Stmt} (h : OkB c d env sts lk σ QX) : OkBE c C d env outs sts lk σ QX QE := fun A s μ Qr Er ok r f zz q zz => h A s μ Qr Er ok r f q
theorem OkBE.mono {sts : List Stmt} {Q' : Fl → Loc → Sto → Prop} (h : OkBE c C d env outs sts lk σ QX QE) (hQ : ∀ fl lk' σ', QX fl lk' σ' → Q' fl lk' σ') : OkBE c C d env outs sts lk σ Q' QE :=
  fun A s μ Qr Er a r f D q e => h A s μ Qr Er a r f D (fun fl s' y lk' σ' μ' hq => q fl s' y lk' σ' μ' (hQ _ _ _ hq)) e
noncomputable def ThenE (c : Ctx) (C : Addr) (d : Nat) (env : Env) (outs : List Env) (rest : List Stmt) (QX : Fl → Loc → Sto → Prop) (QE : Loc → Sto → Str → Prop) (fl : Fl) (lk : Loc) (σ : Sto) : Prop := match fl with
  | .next => OkBE c C d env outs rest lk σ QX QE
  | fl => QX fl lk σ
theorem thenE_next {rest : List Stmt} (h : OkBE c C d env outs rest lk σ QX QE) : ThenE c C d env outs rest QX QE .next lk σ := h
theorem thenE_ret {rest : List Stmt} {y : V} (h : QX (.ret y) lk σ) : ThenE c C d env outs rest QX QE (.ret y) lk σ := h
theorem okbE_nil (h : QX .next lk σ) : OkBE c C d env outs [] lk σ QX QE := okbE_of (okb_nil h)
theorem thenE_go {rest : List Stmt} {A : Around} {μ μ₁ : AMap} {s s₁ : Shared} {Qr : Flow → Shared → Prop} {Er : Value → Shared → Prop} {fl : Flow} {y : Fl} {lk₁ : Loc} {σ₁ : Sto} (ok : AOk A d) (D : Deep c A env outs s.heap μ) (q : FlPost c env μ s QX Qr) (qe : RPost c C env outs μ s QE Er)
    (h₁ : ThenE c C d env outs rest QX QE y lk₁ σ₁) (r₁ : HR c s₁.heap μ₁ σ₁) (f₁ : FR c env lk₁ s₁.heap μ₁) (v₁ : FlR s₁.heap μ₁ y fl) (st₁ : Step (own env) μ μ₁ s s₁) :
    (match fl with | .next => wpAny c.M A (execs rest env) Qr Er s₁ | f => Qr f s₁) := by
  cases y with
  | next => cases fl <;> first | exact v₁.elim | exact h₁ A s₁ μ₁ Qr Er ok r₁ f₁ (D.step st₁) (q.after st₁) (qe.after st₁)
  | brk => cases fl <;> first | exact v₁.elim | exact q .brk s₁ .brk lk₁ σ₁ μ₁ h₁ r₁ f₁ trivial st₁
  | cont => cases fl <;> first | exact v₁.elim | exact q .cont s₁ .cont lk₁ σ₁ μ₁ h₁ r₁ f₁ trivial st₁
  | ret y => cases fl <;> first | exact v₁.elim | exact q _ s₁ (.ret y) lk₁ σ₁ μ₁ h₁ r₁ f₁ v₁ st₁
theorem okbE_cons {st : Stmt} {rest : List Stmt} (h : OkXE c C d env outs st lk σ (ThenE c C d env outs rest QX QE) QE) : OkBE c C d env outs (st :: rest) lk σ QX QE :=
  fun A s μ Qr Er ok r f D q qe => wpAny_execs_cons (h A s μ _ Er ok r f D (fun fl s₁ y lk₁ σ₁ μ₁ h₁ r₁ f₁ v₁ st₁ => by
    have z := thenE_go ok D q qe h₁ r₁ f₁ v₁ st₁
    cases fl <;> exact z) qe)
theorem okbE_plain {st : Stmt} {rest : List Stmt} (h : OkX c d env st lk σ (ThenE c C d env outs rest QX QE)) : OkBE c C d env outs (st :: rest) lk σ QX QE := okbE_cons (okxE_of h)
theorem okxE_return {e : Expr} (h : OkE c C d env outs e lk σ (fun y σ' => QX (.ret y) lk σ') QE) : OkXE c C d env outs (.Return (some e) pos) lk σ QX QE :=
  fun A s μ Qr Er ok r f D q qe => wpAny_Return_some (h A s μ _ Er ok r f D (fun v s₁ y σ₁ μ₁ h₁ r₁ f₁ v₁ st₁ => q _ s₁ (.ret y) lk σ₁ μ₁ h₁ r₁ f₁ v₁ st₁) qe)
theorem okxE_if {test : Expr} {body orelse : List Stmt} (h : OkTE c C d env outs test lk σ (fun b σ' => (b = true → OkBE c C d env outs body lk σ' QX QE) ∧ (b = false → OkBE c C d env outs orelse lk σ' QX QE)) QE) :
    OkXE c C d env outs (.If test body orelse pos) lk σ QX QE := fun A s μ Qr Er ok r f D q qe => wpAny_If (h A s μ _ Er ok r f D (fun b s₁ σ₁ μ₁ h₁ r₁ f₁ st₁ => by
    cases b with
    | true => exact h₁.1 rfl A s₁ μ₁ Qr Er ok r₁ f₁ (D.step st₁) (q.after st₁) (qe.after st₁)
    | false => exact h₁.2 rfl A s₁ μ₁ Qr Er ok r₁ f₁ (D.step st₁) (q.after st₁) (qe.after st₁)) qe)
theorem okxE_assign {t e : Expr} (h : OkE c C d env outs e lk σ (fun y σ' => OkA c d env t y lk σ' (fun lk' σ'' => QX .next lk' σ'')) QE) (he : assignEach [t] env = [(false, assign t env)])
    (hs : swapsWithSole [t] e pos.line env = pure false) (hw : swappedStores [t] e env = pure none) : OkXE c C d env outs (.Assign [t] e pos) lk σ QX QE :=
  fun A s μ Qr Er ok r f D q qe => wpAny_Assign_stores (h A s μ _ Er ok r f D (fun v s₁ y σ₁ μ₁ h₁ r₁ f₁ v₁ st₁ => by
    rw [he]
    exact h₁ A s₁ μ₁ v _ Er ok r₁ f₁ v₁ fun s₂ lk₂ σ₂ μ₂ h₂ r₂ f₂ st₂ => q .next s₂ .next lk₂ σ₂ μ₂ h₂ r₂ f₂ trivial (st₁.trans st₂)) qe) hs hw
noncomputable def LoopE (c : Ctx) (C : Addr) (d : Nat) (env : Env) (outs : List Env) (target : Expr) (body : List Stmt) (S : Sto → Prop) (Q : Fl → Loc → Sto → Prop) (QE : Loc → Sto → Str → Prop) : List V → Loc → Sto → Prop
  | [], lk, σ => ∃ lk', Sub lk' lk ∧ Q .next lk' σ
  | x :: xs, lk, σ => OkA c d env target x lk σ (fun lk₁ σ₁ => OkBE c C d env outs body lk₁ σ₁ (fun fl lk₂ σ₂ => match fl with
      | .next => S σ₂ ∧ ∃ lk', Sub lk' lk₂ ∧ LoopE c C d env outs target body S Q QE xs lk' σ₂
      | .cont => S σ₂ ∧ ∃ lk', Sub lk' lk₂ ∧ LoopE c C d env outs target body S Q QE xs lk' σ₂
      | .brk => Q .next lk₂ σ₂
      | .ret y => Q (.ret y) lk₂ σ₂) QE)
structure LoopEI (c : Ctx) (C : Addr) (d : Nat) (env : Env) (outs : List Env) (target : Expr) (body : List Stmt) (S : Sto → Prop) (Q : Fl → Loc → Sto → Prop) (QE : Loc → Sto → Str → Prop) (s : Shared) (μ : AMap) (fp : List Addr) (it : Addr) (s' : Shared) (xs : List V) (lk : Loc) (σ : Sto) (μ' : AMap) : Prop where
  l : LoopE c C d env outs target body S Q QE xs lk σ
  hS : S σ
  r : HR c s'.heap μ' σ
  f : FR c env lk s'.heap μ'
  I : ItR s'.heap μ' S fp it xs
  st : Step (own env) μ μ' s s'
  fl : FpOk2 s' μ' fp
theorem okxE_for {target iter : Expr} {body : List Stmt} (h : OkIt c d env iter lk σ (pairTarget target) (fun S xs σ' => S σ' ∧ LoopE c C d env outs target body S QX QE xs lk σ'))
    (hs : ∀ x, foldedSetIterable iter env x = pure x) : OkXE c C d env outs (.For target iter body [] pos) lk σ QX QE := by
  intro A s μ Qr Er ok r f D q qe
  refine wpAny_For (h A s μ _ Er ok r f fun it s₁ S fp xs σ₁ μ₁ h₁ r₁ f₁ st₁ I₁ hfp hpt => ?_) hs
  refine codeAny_forLoop_any (fun n s' => ∃ xs lk' σ' μ', xs.length = n ∧ LoopEI c C d env outs target body S QX QE s μ fp it s' xs lk' σ' μ') ?_ xs.length ⟨xs, lk, σ₁, μ₁, rfl, h₁.2, h₁.1, r₁, f₁, I₁, st₁, fun b hb => (hfp b hb).2⟩
  rintro n s₂ ⟨xs, lk₂, σ₂, μ₂, rfl, z⟩
  have h0 : ∀ b ∈ fp, s.heap.get? b = none := fun b hb => (hfp b hb).1
  have hf2 := fp_facts f r h0 z.fl
  refine itr_turn ok.1 z.I z.r z.hS hpt (fun y ys v s₃ hx hv I₃ kp hfl hg ho => ?_) (fun s₃ hx kp hg ho => ?_)
  · have g := fp_step (s' := s₃) z.f z.r hf2 kp
    have st₃ : Step (own env) μ μ₂ s s₃ := step_fp z.st h0 kp hg ho
    have hl := z.l
    subst hx
    refine hl A s₃ μ₂ v _ _ ok g.1 g.2.1 hv fun s₄ lk₄ σ₄ μ₄ h₄ r₄ f₄ st₄ => ?_
    refine h₄ A s₄ μ₄ _ _ ok r₄ f₄ (D.step (st₃.trans st₄)) (fun fl s₅ w lk₅ σ₅ μ₅ h₅ r₅ f₅ v₅ st₅ => ?_) (RPost.loop (D.step (st₃.trans st₄)) (qe.after (st₃.trans st₄)))
    have st35 := st₄.trans st₅
    have fin : (S σ₅ ∧ ∃ lk', Sub lk' lk₅ ∧ LoopE c C d env outs target body S QX QE ys lk' σ₅) → ∃ m, m < (y :: ys).length ∧ ∃ xs lk' σ' μ', xs.length = m ∧ LoopEI c C d env outs target body S QX QE s μ fp it s₅ xs lk' σ' μ' := fun h =>
      h.2.elim fun lk' h' => ⟨ys.length, Nat.lt_succ_self _, ys, lk', σ₅, μ₅, rfl, h'.2, h.1, r₅, f₅.weak h'.1, I₃.step st35 (fun b hb => ⟨(z.fl b hb).1, (hf2 b hb).2.1⟩), st₃.trans st35, fp_step2 st35 (fun b hb => (hf2 b hb).2.1) (fun b hb => (z.fl b hb).1) hfl⟩
    cases w with
    | next => cases fl <;> first | exact v₅.elim | exact fin h₅
    | cont => cases fl <;> first | exact v₅.elim | exact fin h₅
    | brk => cases fl <;> first | exact v₅.elim | exact q .next s₅ .next lk₅ σ₅ μ₅ h₅ r₅ f₅ trivial (st₃.trans st35)
    | ret y => cases fl <;> first | exact v₅.elim | exact q _ s₅ (.ret y) lk₅ σ₅ μ₅ h₅ r₅ f₅ v₅ (st₃.trans st35)
  · have g := fp_step (s' := s₃) z.f z.r hf2 kp
    have hl := z.l
    subst hx
    exact hl.elim fun lk' h => wpAny_execs_nil (q .next s₃ .next lk' σ₂ μ₂ h.2 g.1 (g.2.1.weak h.1) trivial (step_fp z.st h0 kp hg ho))
theorem oke_ifexp {test body orelse : Expr} (h : OkTE c C d env outs test lk σ (fun b σ' => (b = true → OkE c C d env outs body lk σ' Q QE) ∧ (b = false → OkE c C d env outs orelse lk σ' Q QE)) QE) :
    OkE c C d env outs (.IfExp test body orelse pos) lk σ Q QE := fun A s μ Qr Er ok r f D q qe => wpAny_IfExp (h A s μ _ Er ok r f D (fun b s₁ σ₁ μ₁ h₁ r₁ f₁ st₁ => by
    cases b with
    | true => exact h₁.1 rfl A s₁ μ₁ Qr Er ok r₁ f₁ (D.step st₁) (q.after st₁) (qe.after st₁)
    | false => exact h₁.2 rfl A s₁ μ₁ Qr Er ok r₁ f₁ (D.step st₁) (q.after st₁) (qe.after st₁)) qe)
theorem okte_compare {l r : Expr} {op : CmpOp} {QT : Bool → Sto → Prop} (h : OkE c C d env outs l lk σ (fun a σ' => Ok c d env r lk σ' (fun b σ'' => Run2 c d env lk σ'' (compareOp op) a b (fun y σ₃ => ∃ t, y = .bool t ∧ QT t σ₃))) QE)
    (hm : behindInMarks op r = false) : OkTE c C d env outs (.Compare l [op] [r] pos) lk σ QT QE := fun A s μ Qr Er ok r f D q qe => wpAny_isTrue_Compare1 (h A s μ _ Er ok r f D (fun va s₁ a σ₁ μ₁ h₁ r₁ f₁ v₁ st₁ => by
    refine h₁ A s₁ μ₁ _ Er ok r₁ f₁ fun vb s₂ b σ₂ μ₂ h₂ r₂ f₂ v₂ st₂ => ?_
    refine h₂ A s₂ μ₂ va vb _ Er ok r₂ f₂ (v₁.step st₂) v₂ fun v s₃ y σ₃ μ₃ h₃ r₃ f₃ v₃ st₃ => ?_
    obtain ⟨t, rfl, hq⟩ := h₃
    obtain rfl := v₃.bool'
    exact wpAny_truthy_bool (q t s₃ σ₃ μ₃ hq r₃ f₃ ((st₁.trans st₂).trans st₃))) qe) hm
noncomputable def CallE (c : Ctx) (C : Addr) (d : Nat) (env : Env) (outs : List Env) (lk : Loc) (σ : Sto) (f : Value) (args : List V) (Q : V → Sto → Prop) (QE : Loc → Sto → Str → Prop) : Prop :=
  ∀ A s μ vs Qr Er, AOk A d → HR c s.heap μ σ → FR c env lk s.heap μ → Deep c A env outs s.heap μ → VRs s.heap μ args vs → ValPost c env lk μ s Q Qr → RPost c C env outs μ s QE Er → wpAny c.M A (call f vs) Qr Er s
theorem callE_of {f : Value} {args : List V} (h : CallF c d env lk σ f args Q) : CallE c C d env outs lk σ f args Q QE := fun A s μ vs Qr Er ok r f zz v q zz => h A s μ vs Qr Er ok r f v q
noncomputable def CodeE (c : Ctx) (C : Addr) (d : Nat) (f : Value) (args : List V) (σ : Sto) (Q : V → Sto → Prop) (QE : Sto → Str → Prop) : Prop :=
  ∀ l A s μ vs R, AOk A d → HR c s.heap μ σ → A.frames = some l → (∀ e ∈ l, FrameAt c s.heap μ e) → VRs s.heap μ args vs →
    (∀ v s' y σ' μ', Q y σ' → HR c s'.heap μ' σ' → VR s'.heap μ' y v → Step (fun zz => False) μ μ' s s' → R (.ok (.ret v)) s') →
    (∀ e s₁ μ₁ σ₁ code h', QE σ₁ code → Raised c C (fun zz => False) l μ s code e s₁ μ₁ σ₁ h' → R (.error (.ref e)) { s₁ with heap := h' }) → codeAny c.M A (.call f ⟨vs, []⟩) R s
theorem CodeE.call {f : Value} {args : List V} {d' : Nat} (h : CodeE c C d f args σ Q (fun σ₁ code => QE lk σ₁ code)) (hd : d ≤ d') : CallE c C d' env outs lk σ f args Q QE := fun A s μ vs Qr Er ok r f D hv q qe =>
  wpAny_call (h (env :: outs) A s μ vs _ (ok.mono hd) r D.fr (D.all f) hv (fun v s' y σ' μ' hq r' v' st => q v s' y σ' μ' hq r' (f.step0 st) v' (st.mono fun zz x => x.elim))
    fun e s₁ μ₁ σ₁ code h' hq R => qe e s₁ μ₁ σ₁ lk code h' hq (f.step0 R.st) ⟨R.r, R.st.mono fun zz x => x.elim, R.fly, R.slots⟩)
theorem callWithG {f : Value} {args : List Expr} {A : Around} {s : Shared} {vs₀ : List Value} {Qr : Value → Shared → Prop} {Er : Value → Shared → Prop} {p : Pos} (hk : keepB c.K f = true) (hplain : (backTo p (starEach args env)).any (·.1) = false)
    (fin : wpAny c.M A (spliced (backTo p (starEach args env))) (fun vs s₁ => c.K.In s₁.heap ∧ wpAny c.M A (call f (vs₀ ++ vs)) Qr Er s₁) Er s) : wpAny c.M A (callWith p f vs₀ (backTo p (starEach args env)) []) Qr Er s := by
  refine callWith_of (P := fun h => c.K.In h) (by rw [hplain]; rfl) (keeps_B hk) ?_
  cases hl : backTo p (starEach args env) with
  | nil =>
    rw [hl] at fin
    intro Γ pp hΓ
    have z : c.K.In s.heap ∧ wpAny c.M A (call f (vs₀ ++ [])) Qr Er s := fin Γ pp hΓ
    exact evalArgs_nil3 (Q := fun a s₁ => c.K.In s₁.heap ∧ wpAny c.M A (call f (vs₀ ++ a.pos) a.kw) Qr Er s₁) z Γ pp hΓ
  | cons x rest =>
    obtain ⟨b, t⟩ := x
    have hb : b = false := by
      rw [hl, List.any_cons] at hplain
      cases b <;> first | rfl | cases hplain
    subst hb
    rw [hl] at fin
    exact evalArgs_plain fin
theorem callWithE {f : Value} {first : List V} {args : List Expr} {A : Around} {s : Shared} {μ : AMap} {vs₀ : List Value} {Qr : Value → Shared → Prop} {Er : Value → Shared → Prop} {p : Pos}
    (ok : AOk A d) (r : HR c s.heap μ σ) (f₀ : FR c env lk s.heap μ) (D : Deep c A env outs s.heap μ) (hk : keepB c.K f = true) (hv : VRs s.heap μ first vs₀) (h : OkL c d env args lk σ (fun ys σ' => CallE c C d env outs lk σ' f (first ++ ys) Q QE))
    (hplain : (backTo p (starEach args env)).any (·.1) = false) (q : ValPost c env lk μ s Q Qr) (qe : RPost c C env outs μ s QE Er) : wpAny c.M A (callWith p f vs₀ (backTo p (starEach args env)) []) Qr Er s :=
  callWithG hk hplain (h A s μ _ Er p ok r f₀ fun vs s₁ ys σ₁ μ₁ h₁ r₁ f₁ v₁ st₁ => ⟨r₁.K, h₁ A s₁ μ₁ _ Qr Er ok r₁ f₁ (D.step st₁) ((hv.step st₁).append v₁) (q.after st₁) (qe.after st₁)⟩)
theorem oke_call {id : Str} {p : Pos} {args : List Expr} (h : Ok c d env (.Name id p) lk σ (fun y σ' => ∃ f, y = .raw f ∧ keepB c.K f = true ∧ OkL c d env args lk σ' (fun ys σ'' => CallE c C d env outs lk σ'' f ys Q QE)))
    (hplain : ∀ p, (backTo p (starEach args env)).any (·.1) = false) : OkE c C d env outs (.Call (.Name id p) args [] pos) lk σ Q QE := by
  intro A s μ Qr Er ok r f D q qe
  refine wpAny_Call_NameR (h A s μ _ Er ok r f fun v s₁ y σ₁ μ₁ h₁ r₁ f₁ v₁ st₁ => ?_)
  obtain ⟨g, rfl, hk, hq⟩ := h₁
  obtain rfl := v₁.raw'
  exact callWithE (first := []) ok r₁ f₁ (D.step st₁) hk .nil hq (hplain _) (q.after st₁) (qe.after st₁)
theorem okgE_call {id : Str} {p : Pos} {args : List Expr} {a : Addr} (hn : nsIn c.K mainGlobals id = some (some (.ref a))) (hkp : keepIn c.K (.ref a) = true) (hk : env.kindOf id = some .globalImplicit) (hd : (id == ("__debug__" : Str)) = false)
    (hplain : ∀ p, (backTo p (starEach args env)).any (·.1) = false) (h : OkL c d env args lk σ (fun ys σ'' => CallE c C d env outs lk σ'' (.ref a) ys Q QE)) : OkE c C d env outs (.Call (.Name id p) args [] pos) lk σ Q QE :=
  oke_call (ok_globalR hn ⟨_, rfl, hkp, h⟩ hk hd) hplain
theorem oke_meth {o : Expr} {name : Str} {apos : Pos} {args : List Expr} (h : Ok c d env o lk σ (fun y σ' => ∃ g, Meth c σ' y name g ∧ keepB c.K g = true ∧ OkL c d env args lk σ' (fun ys σ'' => CallE c C d env outs lk σ'' g (y :: ys) Q QE)))
    (hb : attributeBase o name env (eval o env) = eval o env) (hform : methodCallForm (args.length + 0) (backTo pos (starEach args env)) (backToKw pos (keywordEach [] env)) = true) (hline : (apos.endLine == pos.line) = true)
    (hplain : (backTo pos (starEach args env)).any (·.1) = false) : OkE c C d env outs (.Call (.Attribute o name apos) args [] pos) lk σ Q QE := by
  intro A s μ Qr Er ok r f D q qe
  rw [arm_eval_Call, hb]
  refine wpAny_bind (h A s μ _ Er ok r f fun v s₁ y σ₁ μ₁ h₁ r₁ f₁ v₁ st₁ => wpAny_bind (wpAny_standAt ?_))
  obtain ⟨g, hm, hk, hq⟩ := h₁
  have hpos : methodCallPos true o env apos pos = pure pos := by unfold methodCallPos; simp [hline]
  unfold methodCall
  show wpAny c.M A (do
    let (f, first) ← holding [v] (calleeOf (methodCallForm (args.length + 0) (backTo pos (starEach args env)) (backToKw pos (keywordEach [] env))) o env v name)
    let callPos ← methodCallPos (methodCallForm (args.length + 0) (backTo pos (starEach args env)) (backToKw pos (keywordEach [] env))) o env apos pos
    callWith callPos f first (backTo pos (starEach args env)) []) Qr Er s₁
  rw [hform]
  unfold calleeOf
  refine wpAny_bind (wpAny_holding (hm A s₁ μ₁ v _ _ Er r₁ v₁ ?_))
  refine wpAny_bind (wpAny_of_eq hpos ?_)
  exact callWithE (first := [y]) ok r₁ f₁ (D.step st₁) hk (.cons v₁ .nil) hq hplain (q.after st₁) (qe.after st₁)
end
-- X4
section
variable {c : Ctx} {C : Addr} {d : Nat} {env : Env} {outs : List Env} {lk : Loc} {σ : Sto} {pos : Pos} {Q : V → Sto → Prop} {QX : Fl → Loc → Sto → Prop} {QE : Loc → Sto → Str → Prop}
theorem Raised.leave {A : Around} {s s₀ : Shared} {μ : AMap} {l : List Env} {code : Str} {e : Addr} {s₁ : Shared} {μ₁ : AMap} {σ₁ : Sto} {h' : Heap} {Qr : Unit → Shared → Prop} {Er : Value → Shared → Prop} (D : Deep c A env l s₀.heap μ) (fresh : ∀ b, own env b → s.heap.get? b = none) (st0 : Step (own env) μ μ s s₀)
    (R : Raised c C (own env) (env :: l) μ s₀ code e s₁ μ₁ σ₁ h') (q : ∀ h'', Raised c C (fun zz => False) l μ s code e s₁ μ₁ σ₁ h'' → Qr () { s₁ with heap := h'' }) : wpAny c.M A (leaving env (.ref e)) Qr Er { s₁ with heap := h' } := by
  obtain ⟨hid, Dd, fl, h1, h2, h3, h4, F⟩ := R.fly
  have st' := st0.trans R.st
  have stF : Step (fun zz => False) μ μ₁ s s₁ := { st' with keep := fun b o hf zz e => st'.keep b o hf (fun ho => nomatch ((fresh b ho).symm.trans e : none = some o)) e }
  refine fly_leave h4 D.fr D.frame F fun h'' F' u => q h'' ⟨R.r, stF, ⟨hid, Dd, _, fun b hb => ⟨?_, (h1 b hb).2⟩, ⟨st0.back h2.1, st0.back h2.2.1, h2.2.2⟩, h3, .inr (.inl rfl), F'⟩, R.slots.trans u⟩
  rcases (h1 b hb).1 with z | z
  · rcases List.mem_cons.mp z with z | z
    · exact .inr (z ▸ fresh _ (.inl rfl))
    · exact .inl z
  · exact .inr (st0.back z)
theorem def_frame {a : Addr} {oc : Value} {od : Option Addr} {osl : Array (Option Value)} {name qual : Str} {params : Arguments} {body : List Stmt} {scope : Scope} {dV kV doc pm cdv ct : Value} {an : Option Addr} {ps : List Str} {args : List V}
    (ho : c.K.lookup a = some ⟨oc, od, .func (fnOf name qual params body scope dV kV doc pm an cdv ct), osl⟩) (hcd : codeIn c.K cdv qual = true)
    (hlen : args.length = ps.length)
    (hbind : ∀ vs : List Value, vs.length = ps.length → bindArgs (fnOf name qual params body scope dV kV doc pm an cdv ct) ⟨vs, []⟩ = pure (ps.zip vs))
    (hnd : ps.Nodup) (hps : ∀ x ∈ ps, scope.names.lookup x = some .local ∨ scope.names.lookup x = some .cell) (hfree : ∀ p ∈ scope.names, p.2 ≠ .free)
    (hkind : scope.kind = .function) (hco : scope.isCoroutine = false) (hgen : scope.isGenerator = false)
    {A : Around} {s : Shared} {μ : AMap} {vs : List Value} {R : Result → Shared → Prop} (ok : AOk A (d + 1)) (r : HR c s.heap μ σ) (hv : VRs s.heap μ args vs)
    (h : ∀ s₁, AOk (A.deeper (envOfC qual scope s.heap.objs.size a cdv)) d → HR c s₁.heap μ σ → FR c (envOfC qual scope s.heap.objs.size a cdv) (ps.zip args) s₁.heap μ → (∀ b o, s.heap.get? b = some o → s₁.heap.get? b = some o) → (∀ b, own (envOfC qual scope s.heap.objs.size a cdv) b → s.heap.get? b = none) →
      Step (own (envOfC qual scope s.heap.objs.size a cdv)) μ μ s s₁ →
      wpAny c.M (A.deeper (envOfC qual scope s.heap.objs.size a cdv)) (execs body (envOfC qual scope s.heap.objs.size a cdv)) (fun f s' => R (.ok (.ret (match f with | .ret v => v | _ => .none))) s')
        (fun e s' => wpAny c.M (A.deeper (envOfC qual scope s.heap.objs.size a cdv)) (leaving (envOfC qual scope s.heap.objs.size a cdv) e) (fun zz s'' => R (.error e) s'') (fun e' s'' => R (.error e') s'') s') s₁) : codeAny c.M A (.call (.ref a) ⟨vs, []⟩) R s := by
  have hoh := r.K _ _ ho
  have hvl : vs.length = ps.length := by rw [← hv.length]; exact hlen
  refine codeAny_call_cells (binds := ps.zip vs) ok.room hoh rfl r.nolimit (codeRec_of r.K hcd) rfl (hbind vs hvl) rfl (fun x hx => ?_) (fun s₁ IC => ?_) hco hgen hkind
  · exact (hps _ (zip_names ps vs x.1 (List.mem_map_of_mem hx))).imp id fun e => ⟨e, cellsFrom_some _ _ _ (.inl e)⟩
  · have keep := IC.toInCall.keep
    have sm : s₁.gens = s.gens ∧ s₁.os = s.os := IC.toInCall.same.elim fun zz z => z.elim fun zz z => ⟨z ▸ rfl, z ▸ rfl⟩
    let env₁ := callEnvC (fnOf name qual params body scope dV kV doc pm an cdv ct) s.heap.objs.size a
    have above : ∀ x b, env₁.cells.lookup x = some b → s.heap.objs.size < b := fun x b hb => IC.above x b (mem_of_lookup hb)
    have v₁ : VRs s₁.heap μ args vs := hv.at (.all keep)
    have f₁ : FR c env₁ (ps.zip args) s₁.heap μ :=
      { kind := hkind
        globals := rfl
        builtins := rfl
        above := r.size
        frzL := frz_size r
        ns := ⟨_, IC.toInCall.ns, fun x y hx hy => bindL_has hx ps args vs _ v₁ hnd hy⟩
        cell := fun x b hb => ⟨Nat.ne_of_gt (above x b hb), frz_none r (none_ge (Nat.le_of_lt (above x b hb))), none_base r (none_ge (Nat.le_of_lt (above x b hb))), _, IC.cell x b hb, fun y hk hy => bindC_has (fun e => hk.elim (fun hk => nomatch (hk.symm.trans e : some NameKind.cell = some .local)) fun hk => nomatch (hk.symm.trans e : some NameKind.free = some .local)) ps args vs _ v₁ hnd hy⟩
        cells := fun x hx => hx.elim (fun hx => Option.isSome_iff_exists.mp (cellsFrom_some _ _ _ (.inl hx))) fun hx => absurd rfl (hfree _ (mem_of_lookup' hx))
        apart := fun x y b b' hb hb' hxy => pair_apart IC.apart hb hb' hxy }
    exact h s₁ ok.deeper (r.keep keep) f₁ keep (fun b o => o.elim (fun (e : b = s.heap.objs.size) => e ▸ none_size _) fun z => z.elim fun x hx => none_ge (Nat.le_of_lt (above x b hx))) (Step.ofKeep keep sm.1 sm.2)
theorem deep_in {A : Around} {s s₁ : Shared} {μ : AMap} {l : List Env} (hA : A.frames = some l) (hl : ∀ e ∈ l, FrameAt c s.heap μ e) (hf : env.frame = some env.locals) (keep : ∀ b o, s.heap.get? b = some o → s₁.heap.get? b = some o) (fresh : ∀ b, own env b → s.heap.get? b = none) : Deep c (A.deeper env) env l s₁.heap μ :=
  ⟨Around.frames_deeper hA, hf, fun e he => have z := hl e he; ⟨z.kind, z.frame, z.base, z.frz, z.dict.imp fun o => Exists.imp fun zz => Exists.imp fun zz q => ⟨keep _ o q.1, q.2⟩⟩,
    fun e he ho => (hl e he).dict.elim fun o z => z.elim fun zz z => z.elim fun zz z => nomatch ((fresh _ ho).symm.trans z.1 : none = some o)⟩
theorem code_fnE {a : Addr} {qual : Str} {st : Stmt} (ps : List Str) {args : List V} {QC : Sto → Str → Prop} (hf : HasFn c.K a qual st)
    (hlen : args.length = ps.length)
    (hbind : ∀ doc pm an cdv ct (vs : List Value), vs.length = ps.length → bindArgs (fnOf (stName st) qual (stArgs st) (stBody st) (stScope st) .none .none doc pm an cdv ct) ⟨vs, []⟩ = pure (ps.zip vs))
    (hsc : ((ps.all fun x => ((stScope st).names.lookup x == some .local || (stScope st).names.lookup x == some .cell)) && (stScope st).names.all (fun p => p.2 != .free) && (stScope st).kind == .function && !(stScope st).isCoroutine && !(stScope st).isGenerator) = true)
    (hnd : ps.Nodup)
    (h : ∀ L cdv l, OkBE c C d (envOfC qual (stScope st) L a cdv) l (stBody st) (ps.zip args) σ (RetOk Q) (fun zz => QC)) : CodeE c C (d + 1) (.ref a) args σ Q QC := by
  obtain ⟨oc, od, osl, doc, pm, an, cdv, ct, ho, hcd⟩ := hf
  have b1 := Bool.and_eq_true_iff.mp hsc
  have b2 := Bool.and_eq_true_iff.mp b1.1
  have b3 := Bool.and_eq_true_iff.mp b2.1
  have b4 := Bool.and_eq_true_iff.mp b3.1
  intro l A s μ vs R ok r hA hl hv q qe
  refine def_frame ho hcd hlen (hbind doc pm an cdv ct) hnd (fun x hx => (Bool.or_eq_true_iff.mp (List.all_eq_true.mp b4.1 x hx)).imp beq_iff_eq.mp beq_iff_eq.mp) (fun p hp => bne_iff_ne.mp (List.all_eq_true.mp b4.2 p hp)) (beq_iff_eq.mp b3.2) (Bool.not_eq_true' _ ▸ b2.2) (Bool.not_eq_true' _ ▸ b1.2)
    ok r hv fun s₁ ok' r₁ f₁ keep fresh st₁ => ?_
  have D := deep_in (env := envOfC qual (stScope st) s.heap.objs.size a cdv) hA hl rfl keep fresh
  exact h _ cdv l _ s₁ μ _ _ ok' r₁ f₁ D (frame_post (R := fun v s' => R (.ok (.ret v)) s') (fun zz zz h => h) (fun zz h => h) fresh st₁ q)
    fun e s₂ μ₂ σ₂ lk₂ code h' hq f R => R.leave D fresh st₁ fun h'' R' => qe e s₂ μ₂ σ₂ code h'' hq R'
end
-- X5
open Builtin Builtin.ObjectAttr
section
variable {prog : Program} {w : World} {A : Around} {E : Value → Shared → Prop} {h : Heap} {g : Array GenState} {d : Drawn} {t : Nat} {os : OsState}
variable {nm q : Str} {C N x : Addr} {bs bm : List Value} {B sa owner : String} {sn : List Str} {sub : List Value} {ab : Bool} {col : Option Bool} {dd : Option Addr} {k0 k1 k2 k3 k5 : Option Value} {newId : String} {mN : Str → Option Value} {name : Str} {v : Value}
theorem xs_entry1 {tk : Tok} {o : Obj} {vs : Array Value} {Q : Fin → Shared → Prop} (SF : StoreFacts B bm sa owner) (hC : h.get? C = some (excClassObj nm q C N bs bm true sn sub ab col dd k0 k1 k2 k3 k5 newId)) (hn : h.Ns N mN) (hna : mN name = none)
    (hB : typeLookup (.type B) name = pure none) (hx : h.get? x = some o) (hc : o.cls = .ref C) (hdn : o.dict = none) (hdt : o.data = .fields vs)
    (hq : ∀ h' tk', h'.get? x = some ⟨.ref C, some h.objs.size, .fields vs, o.slots⟩ → h'.Ns1 h.objs.size (fun y => if y = name then some v else none) → (∀ b o, b ≠ x → h.get? b = some o → h'.get? b = some o) → Q (.done (.ret .none)) ⟨h', g, d, tk', os⟩) :
    wpAny (model prog w) A (Builtin.«object.__setattr__» ⟨[.ref x, .str name tk, v], []⟩) Q E ⟨h, g, d, t, os⟩ := by
  have hpass := SF.passes (.ref x)
  unfold Builtin.«object.__setattr__»
  repeat (first | rw [refuse_eq] | (rw [refuseLoop_ref, hpass]) | (with_reducible refine wpAny_loadPart_at hx ?_; rw [hc]) | with_reducible refine wpAny_mroOf_exc hC ?_ | (with_reducible refine wpAny_typeLookup_exc hC hn SF.mro hB ?_; rw [hna]) | wp_step)
  rw [hdn, if_neg (by simp [typeHasDict])]
  have hx₁ : (h.push { cls := .type "dict", data := .dict #[] }).get? x = some o := Heap.get?_push_of_some _ hx
  have hxs : x ≠ h.objs.size := Nat.ne_of_lt (Heap.lt_size hx)
  have hgd : ((h.push { cls := .type "dict", data := .dict #[] }).update x fun o => { cls := o.cls, dict := some h.objs.size, data := o.data, slots := o.slots }).get? h.objs.size = some { cls := .type "dict", data := .dict #[] } :=
    (Heap.get?_update_ne _ _ _ _ hxs.symm).trans (Heap.get?_push_at rfl rfl)
  have hnd : ((h.push { cls := .type "dict", data := .dict #[] }).update x fun o => { cls := o.cls, dict := some h.objs.size, data := o.data, slots := o.slots }).Ns h.objs.size (fun zz => none) :=
    ⟨_, #[], _, hgd, rfl, fun e he => absurd he (by simp), fun zz => rfl⟩
  split
  · rename_i hcd; cases hcd
  split
  · rename_i c hcd; exact nomatch (hdt.symm.trans hcd)
  refine wpAny_bind (wpAny_alloc' (wpAny_bind (wpAny_update' hx₁ (wpAny_pure ?_))))
  show wpAny _ _ (storeInDict h.objs.size (.str name tk) name v) _ _ _
  unfold storeInDict newKeyGuard
  refine wpAny_bind (wpAny_pure (wpAny_bind (wpAny_nsSet1 (Heap.Ns1.of_empty hnd) fun h' hn' hs => ?_)))
  obtain ⟨oD, esD, epD, hoD, hdD, hcD⟩ := hn'.count (Within.cons name v Within.nil)
  refine wpAny_bind (wpAny_lookBehind hoD (by rw [hdD]; exact pastItsLine_dict (Nat.le_trans hcD (by rw [List.length_cons, List.length_nil, sizeLine_eq]; lcg_off))) ?_)
  wp_walk
  have e1 : ((h.push { cls := .type "dict", data := .dict #[] }).update x fun o => { cls := o.cls, dict := some h.objs.size, data := o.data, slots := o.slots }).get? x = some ⟨o.cls, some h.objs.size, o.data, o.slots⟩ := Heap.get?_update_self _ hx₁ (Obj.isFreed_of_fields hdt)
  rw [hc, hdt] at e1
  exact hq h' _ ((hs.2 x hxs).trans e1) hn' fun b o hb e => (hs.2 b (Nat.ne_of_lt (Heap.lt_size e))).trans ((Heap.get?_update_ne _ _ _ _ hb).trans (Heap.get?_push_of_some _ e))
theorem xs_attr1 {o : Obj} {vs : Array Value} {Q : Unit → Shared → Prop} (SF : StoreFacts B bm sa owner) (hC : h.get? C = some (excClassObj nm q C N bs bm true sn sub ab col dd k0 k1 k2 k3 k5 newId)) (hn : h.Ns N mN) (hns : mN "__setattr__" = none) (hna : mN name = none)
    (hB : typeLookup (.type B) name = pure none) (hx : h.get? x = some o) (hc : o.cls = .ref C) (hdn : o.dict = none) (hdt : o.data = .fields vs)
    (hq : ∀ h' tk', h'.get? x = some ⟨.ref C, some h.objs.size, .fields vs, o.slots⟩ → h'.Ns1 h.objs.size (fun y => if y = name then some v else none) → (∀ b o, b ≠ x → h.get? b = some o → h'.get? b = some o) → Q () ⟨h', g, d, tk', os⟩) :
    wpAny (model prog w) A (setAttr (.ref x) name v) Q E ⟨h, g, d, t, os⟩ := by
  have f3 := SF.slot.bind (.ref x)
  unfold setAttr callSpecial? specialOf
  repeat (any_goals (first | assumption | (with_reducible refine wpAny_loadPart_at hx ?_; rw [hc]) | (with_reducible refine wpAny_typeLookup_exc hC hn SF.mro SF.slot.lookup ?_; rw [hns]) | wp_step))
  refine codeAny_call_builtin SF.slot.plain SF.entry (wpAny_check_sa SF hC hx hc (xs_entry1 SF hC hn hna hB hx hc hdn hdt fun h' tk' e1 e2 e3 => ?_))
  repeat (any_goals (first | assumption | wp_step))
  exact hq h' tk' e1 e2 e3
end
-- X6
theorem ns_look {K : Frag} {h : Heap} {N : Addr} {m : Str → Option Value} {n : Str} {r : Option Value} (X : K.In h) (G : h.Ns N m) (e : nsIn K N n = some r) : m n = r := by
  obtain ⟨o, es, ep, ho, hd, _, hf⟩ := G
  cases q : K.lookup N with
  | none => rw [nsIn, q] at e; cases e
  | some ob =>
    have := X _ _ q
    rw [ho] at this
    cases this
    obtain ⟨c, d, da, sl⟩ := o
    cases hd
    rw [nsIn, q] at e
    change (match es.toList.find? (·.key.isStr n) with | some e => some (some e.val) | none => if es.toList.any (·.refKey) then none else some none) = some r at e
    rw [← hf]
    unfold nsFind findBy
    rw [← Array.find?_toList]
    cases he : es.toList.find? (·.key.isStr n) with
    | some x => rw [he] at e; cases e; rfl
    | none =>
      rw [he] at e
      by_cases ha : es.toList.any (·.refKey) = true
      · rw [show (match (none : Option DictEntry) with | some e => some (some e.val) | none => if es.toList.any (·.refKey) then none else some none) = if es.toList.any (·.refKey) then none else some none from rfl, if_pos ha] at e; cases e
      · rw [show (match (none : Option DictEntry) with | some e => some (some e.val) | none => if es.toList.any (·.refKey) then none else some none) = if es.toList.any (·.refKey) then none else some none from rfl, if_neg ha] at e; cases e; rfl
theorem back_none {h h' : Heap} (k : ∀ b o, h.get? b = some o → h'.get? b = some o) {a : Addr} (e : h'.get? a = none) : h.get? a = none := by
  cases q : h.get? a with
  | none => rfl
  | some o => exact nomatch (e.symm.trans (k a o q) : none = some o)
structure ExcK (c : Ctx) (C fI : Addr) : Prop where
  ns : nsIn c.K mainGlobals "BasicError" = some (some (.ref C))
  keep : keepIn c.K (.ref C) = true
  cls : ∃ nm q N bs sn sub ab col dd k0 k1 k2 k3 k5, c.K.lookup C = some (excClassObj nm q C N bs bmE true sn sub ab col dd k0 k1 k2 k3 k5 "Exception.__new__") ∧ nsOkIn c.K N = true ∧ nsIn c.K N "__init__" = some (some (.ref fI)) ∧
    nsIn c.K N "code" = some none ∧ nsIn c.K N "told" = some none ∧ nsIn c.K N "__setattr__" = some none ∧ nsIn c.K N "__getattribute__" = some none ∧ nsIn c.K N "__getattr__" = some none
  sub : mroIn c.K C (.type "Exception") = some true
  self : mroIn c.K C (.ref C) = some true
  init : ∃ od kV doc pm an cda ct cc T n t cl cld csl ccl cdd vs ccs file tf osl, c.K.lookup fI = some ⟨.type "function", od, .func (ksFn (stName (mth (nth P1 2) 0)) "BasicError.__init__" (stArgs (mth (nth P1 2) 0)) (stBody (mth (nth P1 2) 0)) (stScope (mth (nth P1 2) 0)) (.ref T) kV doc pm an (.ref cda) ct cc), osl⟩ ∧
    codeIn c.K (.ref cda) "BasicError.__init__" = true ∧ c.K.lookup T = some (tupO #[.str "" t] n) ∧ c.K.lookup cc = some ⟨cl, cld, .cell (some (.ref C)), csl⟩ ∧ c.K.lookup cda = some ⟨ccl, cdd, .fields vs, ccs⟩ ∧ vs[2]? = some (.str file tf) ∧ ((c.prog.main.file : Str) == file) = true
  super : nsIn c.K mainGlobals "super" = some none
  top : (c.prog.main.scope.names.lookup ("super" : Str)).isSome = false
  statics : nsIn c.K cStatics "thirdparty.any" = some none
theorem ExcK.use {c : Ctx} {C fI : Addr} (Z : ExcK c C fI) {G : Prop} (k : ∀ nm q N bs sn sub ab col dd k0 k1 k2 k3 k5, c.K.lookup C = some (excClassObj nm q C N bs bmE true sn sub ab col dd k0 k1 k2 k3 k5 "Exception.__new__") → nsOkIn c.K N = true → nsIn c.K N "__init__" = some (some (.ref fI)) →
    nsIn c.K N "code" = some none → nsIn c.K N "told" = some none → nsIn c.K N "__setattr__" = some none → nsIn c.K N "__getattribute__" = some none → nsIn c.K N "__getattr__" = some none → G) : G := by
  obtain ⟨nm, q, N, bs, sn, sub, ab, col, dd, k0, k1, k2, k3, k5, hC, hN, i1, i2, i3, i4, i5, i6⟩ := Z.cls
  exact k _ _ _ _ _ _ _ _ _ _ _ _ _ _ hC hN i1 i2 i3 i4 i5 i6
theorem ExcK.ini {c : Ctx} {C fI : Addr} (Z : ExcK c C fI) {G : Prop} (k : ∀ od kV doc pm an cda ct cc T n t cl cld csl ccl cdd vs ccs file tf osl, c.K.lookup fI = some ⟨.type "function", od, .func (ksFn (stName (mth (nth P1 2) 0)) "BasicError.__init__" (stArgs (mth (nth P1 2) 0)) (stBody (mth (nth P1 2) 0)) (stScope (mth (nth P1 2) 0)) (.ref T) kV doc pm an (.ref cda) ct cc), osl⟩ →
    codeIn c.K (.ref cda) "BasicError.__init__" = true → c.K.lookup T = some (tupO #[.str "" t] n) → c.K.lookup cc = some ⟨cl, cld, .cell (some (.ref C)), csl⟩ → c.K.lookup cda = some ⟨ccl, cdd, .fields vs, ccs⟩ → vs[2]? = some (.str file tf) → ((c.prog.main.file : Str) == file) = true → G) : G := by
  refine opq fun Gq hGq => ?_
  obtain ⟨od, kV, doc, pm, an, cda, ct, cc, T, n, t, cl, cld, csl, ccl, cdd, vs, ccs, file, tf, osl, hfI, hcd, hT, hcc, hcda, hvs, hfile⟩ := Z.init
  refine hGq ?_
  clear hGq Gq
  exact k _ _ _ _ _ _ _ _ _ _ _ _ _ _ _ _ _ _ _ _ _ hfI hcd hT hcc hcda hvs hfile
theorem bb_super : bootBuiltins "super" = some (.type "super") := by decide +kernel
theorem ex_code : typeLookup (.type "Exception") "code" = pure none := by rw [typeLookup_type, builtinLookup_eq_fast]; kernel_rfl
theorem ex_told : typeLookup (.type "Exception") "told" = pure none := by rw [typeLookup_type, builtinLookup_eq_fast]; kernel_rfl
section
variable {c : Ctx} {C fI : Addr} {A : Around} {s : Shared} {x t0 : Addr} {v1 v2 : Value}
theorem ini_env {L fI cda cc : Addr} {env : Env} (he : ksEnv "BasicError.__init__" (stScope (mth (nth P1 2) 0)) L fI (.ref cda) cc = env) {G : Prop} (k : env.scope.kind = .function → env.kindOf "self" = some .local → env.kindOf "code" = some .local → env.kindOf "told" = some .local → env.kindOf "super" = some .globalImplicit →
      env.kindOf "__class__" = some .free → env.locals = L → env.globals = mainGlobals → env.builtins = builtinsNs → env.cells.lookup ("__class__" : Str) = some cc → env.func = some fI → env.code = .ref cda → G) : G := by
  subst he
  exact k (by lcg_sub) (by lcg_sub) (by lcg_sub) (by lcg_sub) (by lcg_sub) (by lcg_sub) rfl rfl rfl rfl rfl rfl
theorem inst_end {h : Heap} {x D C : Addr} {vs : Array Value} {f : Str → Option Value} (hs : ∃ o, h.get? x = some o ∧ o.cls = .ref C ∧ o.data = .fields vs ∧ o.slots = #[] ∧ ∀ d, some D = some d → o.dict = some d) (I : h.Inst x C f) : h.get? x = some ⟨.ref C, some D, .fields vs, #[]⟩ ∧ h.Ns D f := by
  refine opq fun Gq hGq => ?_
  obtain ⟨⟨cl, dc, da, sl⟩, hx, hc, hd, hl, hD⟩ := hs
  refine hGq ?_
  clear hGq Gq
  have hE := hD _ rfl
  dsimp only at hc hd hl hE
  subst hc hd hl hE
  refine ⟨hx, ?_⟩
  obtain ⟨o', hx', _, _, hI⟩ := I
  obtain rfl := some_ne hx hx'
  rcases hI with z | ⟨D', e, _, n⟩
  · cases z.1
  · cases e; exact n.ns
theorem exc_body (Z : ExcK c C fI) {od : Option Addr} {kV doc pm ct : Value} {an : Option Addr} {T cda cc : Addr} {osl : Array (Option Value)} (L : Addr) {m : Str → Option Value} {Q : Flow → Shared → Prop} {E : Value → Shared → Prop}
    (hfI : c.K.lookup fI = some ⟨.type "function", od, .func (ksFn (stName (mth (nth P1 2) 0)) "BasicError.__init__" (stArgs (mth (nth P1 2) 0)) (stBody (mth (nth P1 2) 0)) (stScope (mth (nth P1 2) 0)) (.ref T) kV doc pm an (.ref cda) ct cc), osl⟩)
    {cl : Value} {cld : Option Addr} {csl : Array (Option Value)} (hcc : c.K.lookup cc = some ⟨cl, cld, .cell (some (.ref C)), csl⟩) {ccl : Value} {cdd : Option Addr} {vs : Array Value} {ccs : Array (Option Value)} {file : Str} {tf : Tok}
    (hcda : c.K.lookup cda = some ⟨ccl, cdd, .fields vs, ccs⟩) (hvs : vs[2]? = some (.str file tf)) (hfile : ((c.prog.main.file : Str) == file) = true) (X : c.K.In s.heap) (hg : s.heap.Ns mainGlobals c.mg) (hb : s.heap.Ns builtinsNs c.mb)
    (hL : s.heap.Ns L m) (ms : m "self" = some (.ref x)) (mc : m "code" = some v1) (mt : m "told" = some v2) (hx0 : c.H0.get? x = none) (hx : s.heap.get? x = some { cls := .ref C, data := .fields #[.ref t0, .none, .none, .none, .bool false, .none] })
    (hq : ∀ s' D vs', (∀ b o, b ≠ x → s.heap.get? b = some o → s'.heap.get? b = some o) → s'.gens = s.gens → s'.os = s.os → s'.heap.get? x = some ⟨.ref C, some D, .fields vs', #[]⟩ → 1 < vs'.size → vs'[1]? = some .none → s.heap.get? D = none → (∃ m, s'.heap.Ns D m ∧ m "code" = some v1) → Q .next s') :
    _root_.PySem.wpAt c.M A (.func (stBody (mth (nth P1 2) 0)) (ksEnv "BasicError.__init__" (stScope (mth (nth P1 2) 0)) L fI (.ref cda) cc)) (execs (stBody (mth (nth P1 2) 0)) (ksEnv "BasicError.__init__" (stScope (mth (nth P1 2) 0)) L fI (.ref cda) cc)) Q E s := by
  refine Z.use fun nm q N bs sn sub ab col dd k0 k1 k2 k3 k5 hC hN i1 i2 i3 i4 i5 i6 => ?_
  have hmN : ∀ {h : Heap}, c.K.In h → h.Ns N (h.nsMap N) := fun X => .of_isNs (isNs_of_in X hN)
  obtain ⟨hh, g, d, t, os⟩ := s
  dsimp only at X hg hb hL hx hq
  conv in (execs (stBody _) _) => arg 1; whnf
  refine ks_wpAt_execs_cons (ks_wpAt_Expr_any (ks_wpAt_MethodCall ?_ (by lcg_sub)) (by lcg_sub) (by lcg_sub))
  generalize he : ksEnv "BasicError.__init__" (stScope (mth (nth P1 2) 0)) L fI (.ref cda) cc = env
  refine ini_env he fun ek e1 e2 e3 e4 e5 e6 e7 e8 e9 e10 e11 => ?_
  have loc : ∀ {n : Str} {v : Value} {h : Heap} {t : Nat} {A : Around} {Q : Value → Shared → Prop} {E : Value → Shared → Prop}, env.kindOf n = some .local → h.Ns L m → m n = some v → Q v ⟨h, g, d, t, os⟩ → wpAny c.M A (loadName env n) Q E ⟨h, g, d, t, os⟩ := fun hk hn hv q =>
    wpAny_loadName_local ek hk (e6.symm ▸ hn) hv q
  have hC₀ := X _ _ hC
  have xC : x ≠ C := fun e => by rw [e, hC₀] at hx; cases hx
  have hLx : L ≠ x := fun e => by obtain ⟨o, es, ep, ho, hd, _⟩ := hL; rw [e, hx] at ho; cases ho; cases hd
  refine ks_wpAt_super_base e4 e5 (by lcg_src) e10 (X _ _ hfI) rfl rfl e11 (X _ _ hcda) rfl hvs hfile Z.top ?_
  refine ks_loadName_global ek e4 (loadGlobal_builtin (env := env) (e7.symm ▸ hg) (mg_none_of c.X c.g Z.super) (e8.symm ▸ hb) ((c.builtins _ (by lcg_src)).trans bb_super) ⟨rfl, ?_⟩)
  refine wpAny_loadName_free ek e5 e9 ⟨_, X _ _ hcc, rfl⟩ ?_
  refine loc e1 hL ms ?_
  refine ks_wpAny_isType_cls hC₀ rfl ⟨rfl, ?_⟩
  refine ks_wpAny_call_super hC₀ rfl hx rfl (fun c e => nomatch e) (looks_mroIn X Z.self) (fun h1 e1' kp1 => ?_)
  have X1 : c.K.In h1 := X.keeps kp1
  have hm1 : Looks c.M h1 (mroOf (.ref C)) (.ref C :: bmE) := fun A Q E s k q => wpAny_bind ((looks_clsIn X1 (C := C) (by unfold clsIn; rw [hC])) A _ E s k (wpAny_pure q))
  refine xs_getMethod e1' (looks_opaque X1 Z.statics) hm1 (by simp) (kp1 _ _ hx) rfl (looks_mroIn X1 Z.sub) X1 xC (xf_along _) ?_
  have kp2 : ∀ b o, hh.get? b = some o → (h1.push { cls := .type "method-wrapper", data := .fields #[.builtin "Exception.__init__", .ref x] }).get? b = some o := fun b o e => Heap.get?_push_of_some _ (kp1 b o e)
  have hmw : (h1.push { cls := .type "method-wrapper", data := .fields #[.builtin "Exception.__init__", .ref x] }).get? h1.objs.size = some { cls := .type "method-wrapper", data := .fields #[.builtin "Exception.__init__", .ref x] } := Heap.get?_push_size _ rfl
  refine callWith_of (P := fun h => h.get? h1.objs.size = some { cls := .type "method-wrapper", data := .fields #[.builtin "Exception.__init__", .ref x] }) (by lcg_sub) (fun h hp => ⟨.machine, .inr (.inl rfl), fun A Q E s k q => ?_⟩) ?_
  · unfold keeperOf
    exact wpAny_bind (wpAny_load (k _ _ hp) (wpAny_pure q))
  refine evalArgs_plain (wpAny_items_cons (wpAny_Name (loc e2 (Ns.keep' hL fun o => kp2 _ o) mc (wpAny_items_nil ⟨hmw, ?_⟩)) (by lcg_src)))
  refine xs_init hmw (kp2 _ _ hC₀) (kp2 _ _ hx) rfl rfl rfl (fun h3 kp3 hx3 => ?_)
  have kp03 : ∀ b o, b ≠ x → hh.get? b = some o → h3.get? b = some o := fun b o hb e => kp3 b o hb (kp2 b o e)
  have X3 : c.K.In h3 := fun b o e => kp03 b o (fun q => by have z := c.X _ _ e; rw [q, hx0] at z; cases z) (X _ _ e)
  have hL3 : h3.Ns L m := Ns.keep' hL fun o => kp03 _ o hLx
  have hC3 := X3 _ _ hC
  have hN3 := hmN X3
  refine ks_wpAt_execs_cons (ks_wpAt_Assign_Attr (wpAt_of_wpAny (wpAny_Name (loc e2 hL3 mc (wpAny_Name (loc e1 hL3 ms ?_) (by lcg_src))) (by lcg_src))) (by subst he; with_unfolding_all rfl))
  refine xs_attr1 F.store_Exception hC3 hN3 (ns_look X3 hN3 i4) (ns_look X3 hN3 i2) ex_code hx3 rfl rfl rfl (fun h4 t4 hx4 hD4 kp4 => ?_)
  have kp04 : ∀ b o, b ≠ x → hh.get? b = some o → h4.get? b = some o := fun b o hb e => kp4 b o hb (kp03 b o hb e)
  have X4 : c.K.In h4 := fun b o e => kp04 b o (fun q => by have z := c.X _ _ e; rw [q, hx0] at z; cases z) (X _ _ e)
  have hL4 : h4.Ns L m := Ns.keep' hL fun o => kp04 _ o hLx
  have hN4 := hmN X4
  have I4 : h4.Inst x C (fun y => if y = "code" then some v1 else none) := ⟨_, hx4, rfl, (fun c e => nomatch e), .inr ⟨_, rfl, fun e => (Nat.ne_of_lt (Heap.lt_size hx3)) e.symm, hD4⟩⟩
  refine ks_wpAt_execs_cons (ks_wpAt_Assign_Attr (wpAt_of_wpAny (wpAny_Name (loc e3 hL4 mt (wpAny_Name (loc e1 hL4 ms ?_) (by lcg_src))) (by lcg_src))) (by subst he; with_unfolding_all rfl))
  refine store_attr F.store_Exception (X4 _ _ hC) hN4 (ns_look X4 hN4 i4) (ns_look X4 hN4 i3) ex_told xC I4 (fun h5 t5 I5 kp5 sm5 => ?_) (Within.cons "code" v1 Within.nil) (by size_fits)
  have Z5 := inst_end (sm5 _ hx4) I5
  have hn3 : hh.get? h3.objs.size = none := by
    cases e : hh.get? h3.objs.size with
    | none => rfl
    | some o => by_cases q : h3.objs.size = x
                · exact absurd q.symm (Nat.ne_of_lt (Heap.lt_size hx3))
                · exact absurd (Heap.lt_size (kp03 _ o q e)) (Nat.lt_irrefl _)
  refine wpAt_of_wpAny (wpAny_execs_nil (hq _ _ _ (fun b o hb e => kp5 b o hb (fun o₀ dx h1 h2 q => ?_) (kp04 b o hb e)) rfl rfl Z5.1 ?_ ?_ hn3 ⟨_, Z5.2, ?_⟩))
  · obtain rfl := some_ne hx4 h1
    cases h2
    rw [q] at e
    exact nomatch (hn3.symm.trans e : none = some o)
  · simp
  · simp
  · simp only
    rw [if_neg (by lcg_src), if_pos trivial]
theorem exc_call (Z : ExcK c C fI) {d : Nat} {μ : AMap} {σ : Sto} (ok : AOk A (d + 2)) (r : HR c s.heap μ σ) {rest : List Value} (hr : rest = [] ∨ ∃ v2, rest = [v2]) {Q E : Value → Shared → Prop}
    (q : ∀ s' e D vs, (∀ b o, s.heap.get? b = some o → s'.heap.get? b = some o) → s.heap.get? e = none → s'.gens = s.gens → s'.os = s.os → s'.heap.get? e = some ⟨.ref C, some D, .fields vs, #[]⟩ → 1 < vs.size → vs[1]? = some .none → s.heap.get? D = none → (∃ m, s'.heap.Ns D m ∧ m "code" = some v1) → Q (.ref e) s') :
    wpAny c.M A (call (.ref C) (v1 :: rest)) Q E s := by
  refine Z.use fun nm q' N bs sn sub ab col dd k0 k1 k2 k3 k5 hC hN i1 i2 i3 i4 i5 i6 => ?_
  refine Z.ini fun od kV doc pm an cda ct cc T n t cl cld csl ccl cdd vs ccs file tf osl hfI hcd hT hcc hcda hvs hfile => ?_
  obtain ⟨hh, g, dr, tk, os⟩ := s
  dsimp only at r q
  have X := r.K
  have hNs : hh.Ns N (hh.nsMap N) := .of_isNs (isNs_of_in X hN)
  refine wpAny_call_exc_init (bm := bmE) F.excBase_Exception (X _ _ hC) hNs (ns_look X hNs i1) (X _ _ hfI) rfl (fun h1 e M => ?_) ?_
  · obtain ⟨t0, hx, _, _⟩ := M.there
    have hx0 : c.H0.get? e = none := none_base r M.new
    have ok' := aok_call (C := C) (vs := v1 :: rest) ok
    have X1 : c.K.In h1 := X.keeps M.keeps
    have core : ∀ {v2 : Value}, BindsTo ⟨h1, g, dr, tk, os⟩ (ksFn (stName (mth (nth P1 2) 0)) "BasicError.__init__" (stArgs (mth (nth P1 2) 0)) (stBody (mth (nth P1 2) 0)) (stScope (mth (nth P1 2) 0)) (.ref T) kV doc pm an (.ref cda) ct cc) ⟨.ref e :: v1 :: rest, []⟩ [("self", .ref e), ("code", v1), ("told", v2)] →
        wpAny c.M (A.under (.builtin "type.__call__" ⟨.ref C :: v1 :: rest, []⟩)) (call (.ref fI) (.ref e :: v1 :: rest)) (fun r s' => r = .none ∧ Q (.ref e) s') E ⟨h1, g, dr, tk, os⟩ := fun {v2} hb => by
      refine wpAny_call (ks_codeAny_call_defAt (fd := ksFn (stName (mth (nth P1 2) 0)) "BasicError.__init__" (stArgs (mth (nth P1 2) 0)) (stBody (mth (nth P1 2) 0)) (stScope (mth (nth P1 2) 0)) (.ref T) kV doc pm an (.ref cda) ct cc) ok'.room (X1 _ _ hfI) rfl
        (r.nolimit.keeps M.keeps) (codeRec_of X1 hcd) rfl hb ?_ ?_ (fun h2 hL kp => ?_) (by lcg_sub) (by lcg_sub) (by lcg_sub))
      · show ∀ x ∈ (stScope (mth (nth P1 2) 0)).names, x.2 ≠ .cell
        decide +kernel
      · intro x hx
        show (stScope (mth (nth P1 2) 0)).names.lookup x.1 = some .local
        rcases List.mem_cons.mp hx with rfl | hx
        · dsimp only; decide +kernel
        · rcases List.mem_cons.mp hx with rfl | hx
          · dsimp only; decide +kernel
          · obtain rfl := List.mem_singleton.mp hx
            dsimp only; decide +kernel
      · have kp' : ∀ b o, hh.get? b = some o → h2.get? b = some o := fun b o e => kp _ _ (M.keeps b o e)
        refine exc_body Z (v1 := v1) (v2 := v2) (t0 := t0) _ hfI hcc hcda hvs hfile (X.keeps kp') ((c.g.keeps r.base).keeps kp') ((c.b.keeps r.base).keeps kp') hL ?_ ?_ ?_ hx0 (kp _ _ hx) (fun s' D vs' k1 k2 k3 k4 k5 k6 k6' k7 => ⟨rfl, q s' e D vs' (fun b o z => k1 b o (get_ne z M.new) (kp' b o z)) M.new k2 k3 k4 k5 k6 (back_none kp' k6') k7⟩)
        · with_unfolding_all rfl
        · with_unfolding_all rfl
        · with_unfolding_all rfl
    rcases hr with rfl | ⟨v2, rfl⟩
    · have z : ∃ k, bindArgs (ksFn (stName (mth (nth P1 2) 0)) "BasicError.__init__" (stArgs (mth (nth P1 2) 0)) (stBody (mth (nth P1 2) 0)) (stScope (mth (nth P1 2) 0)) (.ref T) kV doc pm an (.ref cda) ct cc) ⟨[.ref e, v1], []⟩ = seqItems? (.ref T) >>= k ∧ k (some #[.str "" t]) = pure [(("self" : Str), .ref e), (("code" : Str), v1), (("told" : Str), .str "" t)] :=
        ⟨_, by with_unfolding_all rfl, by with_unfolding_all rfl⟩
      obtain ⟨k, z1, z2⟩ := z
      exact core (v2 := .str "" t) (BindsTo.of_defaults rfl (X1 _ _ hT) rfl z1 z2)
    · have z : ∃ k, bindArgs (ksFn (stName (mth (nth P1 2) 0)) "BasicError.__init__" (stArgs (mth (nth P1 2) 0)) (stBody (mth (nth P1 2) 0)) (stScope (mth (nth P1 2) 0)) (.ref T) kV doc pm an (.ref cda) ct cc) ⟨[.ref e, v1, v2], []⟩ = seqItems? (.ref T) >>= k ∧ k (some #[.str "" t]) = pure [(("self" : Str), .ref e), (("code" : Str), v1), (("told" : Str), v2)] :=
        ⟨_, by with_unfolding_all rfl, by with_unfolding_all rfl⟩
      obtain ⟨k, z1, z2⟩ := z
      exact core (v2 := v2) (BindsTo.of_defaults rfl (X1 _ _ hT) rfl z1 z2)
  · rcases hr with rfl | ⟨v2, rfl⟩ <;> (rw [sizeLine_eq]; simp)
end
-- X7
theorem xs_raise {M : Model} {A : Around} {E : Value → Shared → Prop} {s : Shared} {env : Env} {nm q : Str} {C N : Addr} {bs bm : List Value} {hdct : Bool} {sn : List Str} {sub : List Value} {ab : Bool} {col : Option Bool} {dd : Option Addr} {k0 k1 k2 k3 k5 : Option Value} {newId : String}
    {x : Sem Value} {Q : Flow → Shared → Prop} (hbase : bm.contains (.type "BaseException") = true) (hh : A.handled = none)
    (h : wpAny M A x (fun v s₁ => ∃ e oe vs, v = .ref e ∧ s₁.heap.get? C = some (excClassObj nm q C N bs bm hdct sn sub ab col dd k0 k1 k2 k3 k5 newId) ∧
      s₁.heap.get? e = some oe ∧ oe.cls = .ref C ∧ oe.data = .fields vs ∧ vs[1]? = some .none ∧ E (.ref e) s₁) E s) :
    wpAny M A (raiseStmt env (some x) none) Q E s := by
  have hcB : (Value.ref C :: bm).contains (.type "BaseException") = true := by rw [List.contains_cons, hbase, Bool.or_true]
  unfold raiseStmt
  refine wpAny_bind (wpAny_mono h (fun v s₁ h₁ => ?_) fun zz zz x => x)
  obtain ⟨e, oe, vs, rfl, hC, he, hc, hd, h1, hE⟩ := h₁
  obtain ⟨hp, g, d, tk, os⟩ := s₁
  have hb : ∀ {Q : Bool → Shared → Prop}, Q false ⟨hp, g, d, tk, os⟩ → wpAny M A (isType (.ref e)) Q E ⟨hp, g, d, tk, os⟩ := fun hq => ks_wpAny_isType_inst he (fun c z => by rw [hd] at z; cases z) hq
  repeat (first | (with_reducible refine hb ?_) | (with_reducible refine wpAny_loadPart_at he ?_; rw [hc]) | with_reducible refine wpAny_loadPart_at hC ?_ | (with_reducible refine wpAny_isSubtype_exc hC ?_; rw [hcB]) | (with_reducible refine wpAny_field he hd h1 ?_) | wp_step)
  exact wpAny_raiseNew_none hh hE
section
variable {c : Ctx} {C fI : Addr} {d : Nat} {env : Env} {outs : List Env} {lk : Loc} {σ : Sto} {pos : Pos} {Q : V → Sto → Prop} {QX : Fl → Loc → Sto → Prop} {QE : Loc → Sto → Str → Prop}
theorem funFrames_of {h B : Heap} {μ : AMap} : ∀ {l : List Env}, (∀ e ∈ l, FrameAt c h μ e) → (∀ e ∈ l, B.get? e.locals = none) → h.FunFrames B l
  | [], _, _ => trivial
  | e :: l, hf, hB => ⟨(hf e (.head _)).kind, (hf e (.head _)).dict.elim fun o z => z.elim fun es z => z.elim fun n z => ⟨e.locals, o, (hf e (.head _)).frame, hB e (.head _), z.1, fun vs q => nomatch (z.2.symm.trans q)⟩,
    funFrames_of (fun x hx => hf x (.tail _ hx)) fun x hx => hB x (.tail _ hx)⟩
theorem okxE_raise (Z : ExcK c C fI) {np cpos : Pos} {args : List Expr} {code : Str} (h : OkL c d env args lk σ (fun ys σ' => (∃ rest, ys = .str code :: rest ∧ rest.length ≤ 1) ∧ QE lk σ' code)) (hk : env.kindOf "BasicError" = some .globalImplicit)
    (hplain : ∀ p, (backTo p (starEach args env)).any (·.1) = false) (hd : 2 ≤ d) : OkXE c C d env outs (.Raise (some (.Call (.Name "BasicError" np) args [] cpos)) none pos) lk σ QX QE := by
  intro A s μ Qr Er ok r f D q qe
  refine Z.use fun nm q' N bs sn sub ab col dd k0 k1 k2 k3 k5 hC hN i1 i2 i3 i4 i5 i6 => ?_
  rw [arm_exec_Raise]
  refine wpAny_bind (wpAny_standAt ?_)
  show wpAny c.M A (raiseStmt env (some (do let v ← eval (.Call (.Name "BasicError" np) args [] cpos) env; standAt pos; pure v)) none) Qr Er s
  refine xs_raise (bm := bmE) (by lcg_src) ok.1 (wpAny_bind (wpAny_mono (Q := fun v s₁ => ∃ e oe vs, v = .ref e ∧ s₁.heap.get? C = some (excClassObj nm q' C N bs bmE true sn sub ab col dd k0 k1 k2 k3 k5 "Exception.__new__") ∧
      s₁.heap.get? e = some oe ∧ oe.cls = .ref C ∧ oe.data = .fields vs ∧ vs[1]? = some .none ∧ Er (.ref e) s₁) ?_ (fun v s₃ h₃ => wpAny_bind (wpAny_standAt (wpAny_pure h₃))) fun zz zz x => x))
  refine wpAny_Call_NameR (ok_globalR Z.ns (Q := fun y σ' => y = .raw (.ref C) ∧ σ' = σ) ⟨rfl, rfl⟩ hk (by lcg_src) A s μ _ Er ok r f fun v s₁ y σ₁ μ₁ h₁ r₁ f₁ v₁ st₁ => ?_)
  obtain ⟨rfl, rfl⟩ := h₁
  obtain rfl := v₁.raw'
  refine callWithG Z.keep (hplain _) (h A s₁ μ₁ _ Er _ ok r₁ f₁ fun vs s₂ ys σ₂ μ₂ h₂ r₂ f₂ v₂ st₂ => ⟨r₂.K, ?_⟩)
  obtain ⟨⟨rest, rfl, hl⟩, hq⟩ := h₂
  obtain ⟨v, ws, rfl, hv, hws⟩ := v₂.heads'
  obtain ⟨t, rfl⟩ := hv.str'
  have hl' : ws = [] ∨ ∃ v2, ws = [v2] := by
    have := hws.length
    cases ws with
    | nil => exact .inl rfl
    | cons a r => cases r with
      | nil => exact .inr ⟨a, rfl⟩
      | cons b r => simp only [List.length_cons] at this; omega
  refine exc_call Z (d := d - 2) (μ := μ₂) (σ := σ₂) (ok.mono (by omega)) r₂ hl' fun s₃ e Dd vs kp hn hg ho he hv h1 hDn hD => ?_
  have stK : Step (own env) μ₂ μ₂ s₂ s₃ := Step.ofKeep kp hg ho
  have D₃ := ((D.step st₁).step st₂).step stK
  have f₃ := f₂.step0 (Step.ofKeep kp hg ho)
  have F₃ := D₃.all f₃
  refine ⟨e, _, vs, rfl, (r₂.keep kp).K _ _ hC, he, rfl, rfl, h1, qe e s₃ μ₂ σ₂ lk code s₃.heap hq f₃ ⟨r₂.keep kp, (st₁.trans st₂).trans stK, ⟨e :: locs (env :: outs), Dd, none, fun b hb => ?_, ⟨(st₁.trans st₂).back hn, (st₁.trans st₂).back hDn, frz_none r₂ hn, frz_none r₂ hDn⟩, hD.imp fun m z => ⟨t, z⟩, .inl rfl, ?_⟩, .refl _⟩⟩
  · rcases List.mem_cons.mp hb with rfl | hb
    · exact ⟨.inr ((st₁.trans st₂).back hn), frz_none r₂ hn, none_base r₂ hn, fun o z => .inl ⟨vs, (congrArg Obj.data (some_ne he z)).symm⟩⟩
    · refine ⟨.inl hb, ?_⟩
      obtain ⟨x, hx, rfl⟩ := List.mem_map.mp hb
      have z := F₃ x hx
      exact ⟨z.frz, z.base, fun o q => z.dict.elim fun o' w => w.elim fun es w => w.elim fun n w => .inr ⟨es, n, (congrArg Obj.data (some_ne q w.1)).trans w.2⟩⟩
  · exact ⟨fun b o z => of_hideAll _ z, hideAll_none _ (.head _), funFrames_of F₃ fun x hx => hideAll_none _ (.tail _ (List.mem_map_of_mem hx)), vs, #[], he, hv, h1⟩
end
-- X8
open Builtin Builtin.ObjectAttr
section
variable {prog : Program} {w : World} {A : Around} {E : Value → Shared → Prop} {h : Heap} {g : Array GenState} {d : Drawn} {t : Nat} {os : OsState}
variable {nm q : Str} {C N a D : Addr} {bs bm : List Value} {B : String} {sn : List Str} {sub : List Value} {ab : Bool} {col : Option Bool} {dd : Option Addr} {k0 k1 k2 k3 k5 : Option Value} {newId : String} {mN mD : Str → Option Value} {name : Str} {v : Value} {o : Obj}
theorem xs_get_entry {tk : Tok} {Q : Fin → Shared → Prop} (FB : ExcAttrBase B bm) (hC : h.get? C = some (excClassObj nm q C N bs bm true sn sub ab col dd k0 k1 k2 k3 k5 newId)) (hN : h.Ns N mN) (hna : mN name = none) (hB : typeLookup (.type B) name = pure none)
    (hx : h.get? a = some o) (hc : o.cls = .ref C) (hdx : o.dict = some D) (hnc : ∀ c, o.data ≠ .cls c) (hD : h.Ns D mD) (hv : mD name = some v) (hq : Q (.done (.ret v)) ⟨h, g, d, t, os⟩) :
    wpAny (model prog w) A (Builtin.«object.__getattribute__» ⟨[.ref a, .str name tk], []⟩) Q E ⟨h, g, d, t, os⟩ := by
  unfold Builtin.«object.__getattribute__»
  repeat (first | (with_reducible refine wpAny_loadPart_at hx ?_; rw [hc]) | (with_reducible refine wpAny_typeLookup_exc hC hN FB.mro hB ?_; rw [hna]) | wp_step)
  split
  · rename_i c hcd
    exact absurd hcd (hnc c)
  unfold instanceDict
  repeat (first | (with_reducible refine wpAny_loadPart_at hx ?_; rw [hc]) | with_reducible refine wpAny_loadPart_at hC ?_ | wp_step)
  all_goals (try rw [hdx])
  repeat (first | (with_reducible refine wpAny_nsGet hD ?_; rw [hv]) | wp_step)
  all_goals exact hq
theorem xs_get_by {tk : Tok} {fill expr : Bool} {Q : Value → Shared → Prop} (FB : ExcAttrBase B bm) (hbase : bm.contains (.type "BaseException") = true) (hC : h.get? C = some (excClassObj nm q C N bs bm true sn sub ab col dd k0 k1 k2 k3 k5 newId)) (hN : h.Ns N mN) (hna : mN name = none) (hB : typeLookup (.type B) name = pure none)
    (n1 : mN "__getattribute__" = none) (n2 : mN "__getattr__" = none) (hh : handedOut v = pure v)
    (hx : h.get? a = some o) (hc : o.cls = .ref C) (hdx : o.dict = some D) (hnc : ∀ c, o.data ≠ .cls c) (hD : h.Ns D mD) (hv : mD name = some v) (hq : Q v ⟨h, g, d, t, os⟩) : wpAny (model prog w) A (getAttrBy (.ref a) (.str name tk) fill expr) Q E ⟨h, g, d, t, os⟩ := by
  have f3 := FB.ga.bind (.ref a)
  have hx0 : (expr && onTheHeap (Value.builtin "BaseException.__getattribute__")) = false := by cases expr <;> rfl
  have hx2 : (Value.builtin "BaseException.__getattribute__" == Value.builtin "object.__getattribute__") = false := by decide +kernel
  have hx1 : (onTheHeap (Value.ref C) && Value.builtin "BaseException.__getattribute__" == Value.builtin "object.__getattribute__") = false := by rw [hx2]; rfl
  have hk : builtinKind "BaseException.__getattribute__" = some .slot := by decide +kernel
  have hsplit : splitId "BaseException.__getattribute__" = some ("BaseException", "__getattribute__") := by decide +kernel
  have hcB : (Value.ref C :: bm).contains (.type "BaseException") = true := by rw [List.contains_cons, hbase, Bool.or_true]
  have chk : ∀ {M : Model} {Q : Unit → Shared → Prop} {E : Value → Shared → Prop} {A}, Q () ⟨h, g, d, t, os⟩ → wpAny M A (checkBuiltinCall "BaseException.__getattribute__" ⟨[.ref a, .str name tk], []⟩) Q E ⟨h, g, d, t, os⟩ := fun hq => by
    have ha := F.args_bexc_ga (.ref a) (.str name tk)
    simp only [checkBuiltinCall, hk, hsplit]
    refine wpAny_bind ?_
    unfold isInstance
    repeat (first | (with_reducible refine wpAny_loadPart_at hx ?_; rw [hc]) | (with_reducible refine wpAny_isSubtype_exc hC ?_; rw [hcB]) | wp_step)
    exact hq
  repeat (any_goals (first | assumption | (with_reducible refine wpAny_loadPart_at hx ?_; rw [hc]) | (with_reducible refine wpAny_typeLookup_exc hC hN FB.mro FB.ga.lookup ?_; rw [n1]) | (with_reducible refine wpAny_typeLookup_exc hC hN FB.mro FB.noGetattr ?_; rw [n2]) | wp_step))
  refine codeAny_call_builtin FB.ga.plain F.entry_bexc_ga (chk (xs_get_entry FB hC hN hna hB hx hc hdx hnc hD hv ?_))
  show wpAny _ _ (handedOut v) _ _ _
  rw [hh]
  exact wpAny_pure hq
theorem xs_get {expr : Bool} {Q : Value → Shared → Prop} (FB : ExcAttrBase B bm) (hbase : bm.contains (.type "BaseException") = true) (hC : h.get? C = some (excClassObj nm q C N bs bm true sn sub ab col dd k0 k1 k2 k3 k5 newId)) (hN : h.Ns N mN) (hna : mN name = none) (hB : typeLookup (.type B) name = pure none)
    (n1 : mN "__getattribute__" = none) (n2 : mN "__getattr__" = none) (hh : handedOut v = pure v)
    (hx : h.get? a = some o) (hc : o.cls = .ref C) (hdx : o.dict = some D) (hnc : ∀ c, o.data ≠ .cls c) (hD : h.Ns D mD) (hv : mD name = some v) (hq : Q v ⟨h, g, d, t + 1, os⟩) : wpAny (model prog w) A (getAttr (.ref a) name expr) Q E ⟨h, g, d, t, os⟩ := by
  unfold getAttr
  repeat (any_goals (first | assumption | with_reducible apply xs_get_by FB hbase hC hN hna hB n1 n2 hh hx hc hdx hnc hD hv | wp_step))
end
-- X9
section
variable {c : Ctx} {C fI : Addr} {d : Nat} {env : Env} {outs : List Env} {lk lk₁ : Loc} {σ σ₁ : Sto} {pos : Pos} {Q : V → Sto → Prop} {QX : Fl → Loc → Sto → Prop} {QE : Loc → Sto → Str → Prop}
noncomputable def SlotsAt (l : List Env) (h h' : Heap) : Prop := ∀ e ∈ l, ∀ o, h.get? e.locals = some o → (∀ vs, o.data ≠ .fields vs) → ∃ sl, h'.get? e.locals = some { o with slots := sl }
theorem SlotsAt.ns {l : List Env} {h h' : Heap} (s : SlotsAt l h h') {e : Env} (he : e ∈ l) {m : Str → Option Value} (n : h.Ns e.locals m) : h'.Ns e.locals m :=
  n.elim fun o z => z.elim fun es z => z.elim fun n z => (s e he o z.1 fun vs q => nomatch (z.2.1.symm.trans q)).elim fun sl y => ⟨_, es, n, y, z.2⟩
theorem dict_nf {o : Obj} {es : Array DictEntry} {n : Nat} (h : o.data = .dict es n) : ∀ vs, o.data ≠ .fields vs := fun vs q => nomatch (h.symm.trans q)
theorem land {A : Around} {s s₁ : Shared} {μ μ₁ : AMap} {hid : List Addr} {h₃ : Heap} (D : Deep c A env outs s.heap μ) (f0 : FR c env lk s.heap μ) (r : HR c s₁.heap μ₁ σ₁) (f : FR c env lk₁ s₁.heap μ₁) (st : Step (own env) μ μ₁ s s₁)
    (hh : ∀ b ∈ hid, (b ∈ locs (env :: outs) ∨ s.heap.get? b = none) ∧ Frz μ₁ b ∧ c.H0.get? b = none ∧ Odd s₁.heap b) (stay : (hideAll s₁.heap hid).StaysIn h₃) (u : s₁.heap.UpToSlots h₃) :
    HR c h₃ μ₁ σ₁ ∧ FR c env lk₁ h₃ μ₁ ∧ Step (fun b => own env b ∨ b ∈ locs outs) μ μ₁ s { s₁ with heap := h₃ } ∧ SlotsAt outs s.heap h₃ := by
  have kp : ∀ b o, ¬ b ∈ hid → s₁.heap.get? b = some o → h₃.get? b = some o := fun b o hb e => stay b o (hideAll_get _ e hb)
  have nq : ∀ {b : Addr} {o : Obj}, s₁.heap.get? b = some o → (∀ vs, o.data ≠ .fields vs) → (∀ es n, o.data ≠ .dict es n) → b ∉ hid := fun e n1 n2 hb => ((hh _ hb).2.2.2 _ e).elim (fun z => z.elim n1) fun z => z.elim fun es z => z.elim (n2 es)
  have K : Kp s₁.heap h₃ μ₁ μ₁ := .but (X := (· ∈ hid)) kp fun b hb zz C d vs n sl e => nq e (fun zz q => nomatch q) (fun zz zz q => nomatch q) hb
  have D₁ := D.step st
  have F₁ := D₁.all f
  have lo : ∀ b ∈ locs (env :: outs), ∃ o es n, s₁.heap.get? b = some o ∧ o.data = .dict es n := fun b hb => by
    obtain ⟨x, hx, rfl⟩ := List.mem_map.mp hb
    exact (F₁ x hx).dict
  refine ⟨r.but (fun b hb => ⟨(hh b hb).2.1, (hh b hb).2.2.1⟩) K kp, ?_, ?_, fun e he o q nf => ?_⟩
  · refine ⟨f.kind, f.globals, f.builtins, f.above, f.frzL, f.ns.imp fun m n => ⟨u.ns n.1, fun x y h1 h2 => (n.2 x y h1 h2).imp fun v z => ⟨z.1, z.2.at K⟩⟩, fun x a ha => ?_, f.cells, f.apart⟩
    have g := f.cell x a ha
    refine ⟨g.1, g.2.1, g.2.2.1, g.2.2.2.imp fun v q => ⟨q.1.imp fun o z => ⟨kp a o (nq z.1 (fun zz y => ?_) (fun zz zz y => ?_)) z.1, z.2⟩, fun y hy hl => (q.2 y hy hl).imp fun zz w => ⟨w.1, w.2.at K⟩⟩⟩
    · exact nomatch (z.2.symm.trans y)
    · exact nomatch (z.2.symm.trans y)
  · refine ⟨fun b o fz hx e => kp b o (fun hb => ?_) (st.keep b o fz (fun z => hx (.inl z)) e), fun b k vs n fz e => ?_, fun b o e => ?_, st.ext, st.new, st.hid, fun b o hb e => kp b o (fun q => (hh b q).2.1.2 (st.hid ▸ hb)) (st.hkeep b o hb e), st.gens, st.os⟩
    · rcases (hh b hb).1 with z | z
      · rcases List.mem_cons.mp z with z | z
        · exact hx (.inl (.inl z))
        · exact hx (.inr z)
      · exact nomatch (z.symm.trans e : none = some o)
    · have e' := st.seq b k vs n fz e
      exact kp b _ (nq e' (fun zz q => nomatch q) (fun zz zz q => nomatch q)) e'
    · obtain ⟨o', e'⟩ := st.live b o e
      by_cases hb : b ∈ hid
      · rcases (hh b hb).1 with z | z
        · obtain ⟨o'', es, n, q, hd⟩ := lo b z
          exact (u b o'' q (dict_nf hd)).imp' _ fun sl w => w
        · exact nomatch (z.symm.trans e : none = some o)
      · exact ⟨o', kp b o' hb e'⟩
  · have z := D.ok e he
    exact u _ o (st.keep _ o z.frz (D.ap e he) q) nf
theorem SlotsAt.back {A : Around} {s s₁ : Shared} {h₂ : Heap} {μ μ₁ : AMap} (D : Deep c A env outs s.heap μ) (st : Step (own env) μ μ₁ s s₁) (z : SlotsAt outs s₁.heap h₂) : SlotsAt outs s.heap h₂ := fun e he o q nf => z e he o (st.keep _ o (D.ok e he).frz (D.ap e he) q) nf
noncomputable def OPost (c : Ctx) (env : Env) (outs : List Env) (μ : AMap) (s : Shared) (Q : V → Sto → Prop) (Qr : Flow → Shared → Prop) : Prop :=
  ∀ v s' y σ' μ', Q y σ' → HR c s'.heap μ' σ' → VR s'.heap μ' y v → Step (fun b => own env b ∨ b ∈ locs outs) μ μ' s s' → SlotsAt outs s.heap s'.heap → Qr (.ret v) s'
noncomputable def OkBO (c : Ctx) (d : Nat) (env : Env) (outs : List Env) (sts : List Stmt) (lk : Loc) (σ : Sto) (Q : V → Sto → Prop) : Prop :=
  ∀ A s μ Qr Er, AOk A d → HR c s.heap μ σ → FR c env lk s.heap μ → Deep c A env outs s.heap μ → OPost c env outs μ s Q Qr → wpAny c.M A (execs sts env) Qr Er s
theorem OPost.after {A : Around} {μ μ' : AMap} {s s' : Shared} {Qr : Flow → Shared → Prop} (D : Deep c A env outs s.heap μ) (q : OPost c env outs μ s Q Qr) (st : Step (own env) μ μ' s s') : OPost c env outs μ' s' Q Qr :=
  fun v s'' y σ'' μ'' hq r hv st' sl => q v s'' y σ'' μ'' hq r hv ((st.mono fun zz x => .inl x).trans st') (sl.back D st)
theorem okbO_let {x : Str} {p : Pos} {e : Expr} {rest : List Stmt} (h : Ok c d env e lk σ (fun y σ' => OkBO c d env outs rest (put x y lk) σ' Q)) (hk : env.kindOf x = some .local ∨ env.kindOf x = some .cell)
    (hs : swapsWithSole [.Name x p] e pos.line env = pure false) (hw : swappedStores [.Name x p] e env = pure none) : OkBO c d env outs (.Assign [.Name x p] e pos :: rest) lk σ Q := by
  intro A s μ Qr Er ok r f D q
  refine wpAny_execs_cons (okx_assign (QX := fun fl lk' σ' => fl = .next ∧ OkBO c d env outs rest lk' σ' Q) (h.mono fun y σ' hh => oka_name ⟨rfl, hh⟩ hk) rfl hs hw A s μ _ Er ok r f fun fl s₁ z lk₁ σ₁ μ₁ h₁ r₁ f₁ v₁ st₁ => ?_)
  obtain ⟨rfl, h₁⟩ := h₁
  cases fl <;> first | exact v₁.elim | exact h₁ A s₁ μ₁ Qr Er ok r₁ f₁ (D.step st₁) (q.after D st₁)
theorem okbO_try (Z : ExcK c C fI) {np p1 p2 p3 p4 p5 hpos : Pos} {k : Nat} {body rest : List Stmt} (h : OkBE c C d env outs body lk σ (fun fl zz σ' => ∃ y, fl = .ret y ∧ Q y σ') (fun lk₁ σ₁ code => ∃ y, lk₁.lookup ("run" : Str) = some y ∧ Q (.tup [y, .str code]) σ₁))
    (hk : env.kindOf "BasicError" = some .globalImplicit) (hr : env.kindOf "run" = some .local) (he : env.kindOf "refusal" = some .local) (hb : attributeBase (.Name "refusal" p2) "code" env (eval (.Name "refusal" p2) env) = eval (.Name "refusal" p2) env) :
    OkBO c d env outs (.Try body [.ExceptHandler (some (.Name "BasicError" np)) (some "refusal") [.Return (some (.Tuple [.Name "run" p1, .Attribute (.Name "refusal" p2) "code" p3] k p4)) p5] hpos] [] [] pos :: rest) lk σ Q := by
  intro A s μ Qr Er ok r f D q
  refine wpAny_execs_cons (wpAny_Try_except (h A s μ _ _ ok r f D (fun fl s₁ z lk₁ σ₁ μ₁ h₁ r₁ f₁ v₁ st₁ => ?_) fun e s₁ μ₁ σ₁ lk₁ code h' hq f₁ R => ?_))
  · obtain ⟨y, rfl, hq⟩ := h₁
    cases fl <;> first | exact v₁.elim | exact q _ s₁ y σ₁ μ₁ hq r₁ v₁ (st₁.mono fun zz x => .inl x) fun e he o z nf => ⟨o.slots, st₁.keep _ o (D.ok e he).frz (D.ap e he) z⟩
  refine Z.use fun nm q' N bs sn sub ab col dd k0 k1 k2 k3 k5 hC hN i1 i2 i3 i4 i5 i6 => ?_
  refine opq fun G hG => ?_
  obtain ⟨y, hy, hq⟩ := hq
  obtain ⟨hid, Dd, fl, h1, h2, h3, h4, F⟩ := R.fly
  refine hG ?_
  clear hG G
  refine fly_noteL h4 D.fr D.frame F fun h₂ F₂ u₂ => fly_set F₂ fun h₃ F₃ u₃ => ?_
  have u03 := (R.slots.trans u₂).trans u₃
  have L₃ := land D f R.r f₁ R.st h1 F₃.stay u03
  have r₃ := L₃.1
  have f₃ := L₃.2.1
  refine wpAny_handleBy_cons (codeAny_handlers_test (wpAny_Name (ks_loadName_global f₃.kind hk (loadGlobal_global (ns_globals (s := { s₁ with heap := h₃ }) r₃ f₃) (mg_of c.X c.g Z.ns) ?_)) (by lcg_src))) (by intro q; cases q)
  refine opq fun G hG => ?_
  obtain ⟨vs, sl, hx₃, _, _⟩ := F₃.obj
  refine hG ?_
  clear hG G
  refine wpAny_excMatches_sub_self (r₃.K _ _ hC) hx₃ rfl (by lcg_src) ?_
  refine codeAny_handlers_suite_as (fly_set (s := { s₁ with heap := h₃ }) F₃ fun h₄ F₄ u₄ => ?_)
  refine opq fun G hG => ?_
  obtain ⟨r₄, f₄, st₄, sl₄⟩ := land D f R.r f₁ R.st h1 F₄.stay (u03.trans u₄)
  obtain ⟨vs₄, slo₄, hx₄, _, _⟩ := F₄.obj
  refine hG ?_
  clear hG G
  have hD₄ : ∃ m t, h₄.Ns Dd m ∧ m "code" = some (.str code t) := h3.imp fun m => Exists.imp fun t z => ⟨(u03.trans u₄).ns z.1, z.2⟩
  refine store_var (s := { s₁ with heap := h₄ }) f₄ r₄ (.raw (.ref e)) (.inl he) fun s₅ r₅ f₅ st₅ => ?_
  have oe : ¬ own env e := none_own f h2.1
  have oD : ¬ own env Dd := none_own f h2.2.1
  have hx₅ := st₅.keep e _ h2.2.2.1 oe hx₄
  refine opq fun G hG => ?_
  obtain ⟨mD, tD, hD, hcode⟩ := hD₄
  have hD₅ : s₅.heap.Ns Dd mD := Ns.keep' hD fun o => st₅.keep Dd o h2.2.2.2 oD
  obtain ⟨m₅, hn₅, hm₅⟩ := f₅.ns
  obtain ⟨vrun, hvr, hvR⟩ := hm₅ "run" y hr (by rw [put_lookup, if_neg (by lcg_src)]; exact hy)
  obtain ⟨vref, hvf, hvF⟩ := hm₅ "refusal" _ he (by rw [put_lookup, if_pos rfl])
  obtain rfl := hvF.raw'
  refine hG ?_
  clear hG G
  have hNs : s₅.heap.Ns N (s₅.heap.nsMap N) := .of_isNs (isNs_of_in r₅.K hN)
  refine wpAny_mono (E := fun zz zz => False) (Q := fun f s₆ => ∃ v, f = .ret v ∧ HR c s₆.heap μ₁ σ₁ ∧ FR c env (put "refusal" (.raw (.ref e)) lk₁) s₆.heap μ₁ ∧ VR s₆.heap μ₁ (.tup [y, .str code]) v ∧ Step (own env) μ₁ μ₁ s₅ s₆) ?_ ?_ fun zz zz z => z.elim
  · refine wpAny_execs_cons (wpAny_Return_some (Tuple_ (wpAny_items_cons (wpAny_Name (wpAny_loadName_local f₅.kind hr hn₅ hvr (wpAny_items_cons ?_)) (by lcg_src)))))
    rw [arm_eval_Attribute, hb]
    refine wpAny_bind (wpAny_Name (wpAny_loadName_local f₅.kind he hn₅ hvf (wpAny_bind (wpAny_standAt (wpAny_bind (wpAny_holding ?_))))) (by lcg_src))
    obtain ⟨hh5, g5, d5, t5, os5⟩ := s₅
    refine xs_get PySem.F.attrBase_Exception (by lcg_src) (r₅.K _ _ hC) hNs (ns_look r₅.K hNs i2) ex_code (ns_look r₅.K hNs i5) (ns_look r₅.K hNs i6) (by rfl) hx₅ rfl rfl (fun c e => nomatch e) hD₅ hcode ?_
    refine wpAny_bind (wpAny_letTemporaryGo (wpAny_pure (wpAny_items_nil ?_)))
    refine wpAny_newObj_type (T := "tuple") (data := .seq [vrun, .str code tD].toArray) ?_ (by show [vrun, Value.str code tD].toArray.size ≤ sizeLine; rw [sizeLine_eq, List.size_toArray]; simp)
    exact ⟨_, rfl, r₅.push _, f₅.push (s := ⟨hh5, g5, d5, t5, os5⟩) _, .tup (Heap.get?_push_size _ rfl) (frz_size r₅) (.cons (hvR.at (Kp.push _)) (.cons (.str _ _) .nil)), Step.ofKeep (fun b o z => Heap.get?_push_of_some _ z) rfl rfl⟩
  · rintro f s₆ ⟨v, rfl, r₆, f₆, hv, st₆⟩
    refine wpAny_nameGoes he f₆.ns.choose_spec.1 (by rw [f₆.kind]; rfl) fun h₇ m₇ hn₇ same => ?_
    obtain ⟨r₇, st₇⟩ := own_step (s' := { s₆ with heap := h₇, toks := s₆.toks + 1 }) f₆ r₆ (.inl rfl) same (hn₇.elim fun o n => n.elim fun zz n => n.elim fun zz n => ⟨o, n.1⟩) rfl rfl
    have st47 := (st₅.trans st₆).trans st₇
    exact q v _ _ σ₁ μ₁ hq r₇ (hv.step st₇) (st₄.trans (st47.mono fun zz z => .inl z)) fun e he o z nf => (sl₄ e he o z nf).imp fun sl z => st47.keep _ _ ((D.step R.st).ok e he).frz (D.ap e he) z
end
-- X10
section
variable {c : Ctx} {C fI : Addr} {d : Nat} {env : Env} {outs : List Env} {lk lk₁ : Loc} {σ σ₁ : Sto} {pos : Pos} {Q : V → Sto → Prop} {QX : Fl → Loc → Sto → Prop} {QE : Loc → Sto → Str → Prop}
noncomputable def CodeO (c : Ctx) (d : Nat) (f : Value) (args : List V) (σ : Sto) (Q : V → Sto → Prop) : Prop :=
  ∀ l A s μ vs R, AOk A d → HR c s.heap μ σ → A.frames = some l → (∀ e ∈ l, FrameAt c s.heap μ e) → VRs s.heap μ args vs →
    (∀ v s' y σ' μ', Q y σ' → HR c s'.heap μ' σ' → VR s'.heap μ' y v → Step (fun b => b ∈ locs l) μ μ' s s' → SlotsAt l s.heap s'.heap → R (.ok (.ret v)) s') → codeAny c.M A (.call f ⟨vs, []⟩) R s
theorem code_fnO {a : Addr} {qual : Str} {st : Stmt} (ps : List Str) {args : List V} (hf : HasFn c.K a qual st)
    (hlen : args.length = ps.length)
    (hbind : ∀ doc pm an cdv ct (vs : List Value), vs.length = ps.length → bindArgs (fnOf (stName st) qual (stArgs st) (stBody st) (stScope st) .none .none doc pm an cdv ct) ⟨vs, []⟩ = pure (ps.zip vs))
    (hsc : ((ps.all fun x => ((stScope st).names.lookup x == some .local || (stScope st).names.lookup x == some .cell)) && (stScope st).names.all (fun p => p.2 != .free) && (stScope st).kind == .function && !(stScope st).isCoroutine && !(stScope st).isGenerator) = true)
    (hnd : ps.Nodup)
    (h : ∀ L cdv l, OkBO c d (envOfC qual (stScope st) L a cdv) l (stBody st) (ps.zip args) σ Q) : CodeO c (d + 1) (.ref a) args σ Q := by
  obtain ⟨oc, od, osl, doc, pm, an, cdv, ct, ho, hcd⟩ := hf
  have b1 := Bool.and_eq_true_iff.mp hsc
  have b2 := Bool.and_eq_true_iff.mp b1.1
  have b3 := Bool.and_eq_true_iff.mp b2.1
  have b4 := Bool.and_eq_true_iff.mp b3.1
  intro l A s μ vs R ok r hA hl hv q
  refine def_frame ho hcd hlen (hbind doc pm an cdv ct) hnd (fun x hx => (Bool.or_eq_true_iff.mp (List.all_eq_true.mp b4.1 x hx)).imp beq_iff_eq.mp beq_iff_eq.mp) (fun p hp => bne_iff_ne.mp (List.all_eq_true.mp b4.2 p hp)) (beq_iff_eq.mp b3.2) (Bool.not_eq_true' _ ▸ b2.2) (Bool.not_eq_true' _ ▸ b1.2)
    ok r hv fun s₁ ok' r₁ f₁ keep fresh st₁ => ?_
  have D := deep_in (env := envOfC qual (stScope st) s.heap.objs.size a cdv) hA hl rfl keep fresh
  refine h _ cdv l _ s₁ μ _ _ ok' r₁ f₁ D fun v s' y σ' μ' hq r' hv' st sl => q v s' y σ' μ' hq r' hv' ?_ fun e he o z => sl e he o (keep _ _ z)
  have st' := (st₁.mono fun zz x => .inl x).trans st
  exact { st' with keep := fun b o hf hx e => st'.keep b o hf (fun ho => ho.elim (fun z => nomatch ((fresh b z).symm.trans e : none = some o)) hx) e }
theorem CodeO.mono {f : Value} {args : List V} {d' : Nat} {Q' : V → Sto → Prop} (h : CodeO c d f args σ Q) (hd : d ≤ d') (hQ : ∀ y σ', Q y σ' → Q' y σ') : CodeO c d' f args σ Q' :=
  fun l A s μ vs R a r hA hl v q => h l A s μ vs R (a.mono hd) r hA hl v fun v s' y σ' μ' hq => q v s' y σ' μ' (hQ _ _ hq)
theorem CodeO.call {f : Value} {args : List V} {d' : Nat} (h : CodeO c d f args σ Q) (hd : d ≤ d') : CallE c C d' env [] lk σ f args Q QE := fun A s μ vs Qr Er ok r f D hv q qe =>
  wpAny_call (h [env] A s μ vs _ (ok.mono hd) r D.fr (D.all f) hv fun v s' y σ' μ' hq r' v' st sl => by
    have nl : ∀ {a}, a ≠ env.locals → ¬ a ∈ locs [env] := fun n h => n (List.mem_singleton.mp h)
    have K := st.kp
    refine q v s' y σ' μ' hq r' ⟨f.kind, f.globals, f.builtins, f.above, (own_occ f (.inl rfl)).elim fun o e => st.frz e f.frzL, f.ns.imp fun m n => ⟨sl.ns (.head _) n.1, fun x y h1 h2 => (n.2 x y h1 h2).imp fun v z => ⟨z.1, z.2.at K⟩⟩, fun x a ha => ?_, f.cells, f.apart⟩ v' (st.mono fun b hb => .inl (List.mem_singleton.mp hb))
    have g := f.cell x a ha
    exact ⟨g.1, (own_occ f (.inr ⟨x, ha⟩)).elim fun o e => st.frz e g.2.1, g.2.2.1, g.2.2.2.imp fun v q => ⟨IsCell.keep q.1 fun o e => st.keep a o g.2.1 (nl g.1) e, fun y hy hl => (q.2 y hy hl).imp fun zz w => ⟨w.1, w.2.at K⟩⟩⟩)
theorem code_fnE1 {a : Addr} {qual : Str} {st : Stmt} (x0 : Str) {y0 : V} {QC : Sto → Str → Prop} (hf : HasFn c.K a qual st)
    (hbind : ∀ doc pm an cdv ct v0, pure [(x0, v0)] = bindArgs (fnOf (stName st) qual (stArgs st) (stBody st) (stScope st) .none .none doc pm an cdv ct) ⟨[v0], []⟩)
    (hsc : scOk (stScope st) [x0] = true) (h : ∀ L cdv l, OkBE c C d (envOfC qual (stScope st) L a cdv) l (stBody st) [(x0, y0)] σ (RetOk Q) (fun zz => QC)) : CodeE c C (d + 1) (.ref a) [y0] σ Q QC :=
  have b := Bool.and_eq_true_iff.mp hsc
  code_fnE [x0] hf rfl (fun doc pm an cdv ct vs hl => by obtain ⟨v0, rfl⟩ := len_1 hl; exact (hbind doc pm an cdv ct v0).symm) b.1 (of_decide_eq_true b.2) h
theorem code_fnE2 {a : Addr} {qual : Str} {st : Stmt} (x0 x1 : Str) {y0 y1 : V} {QC : Sto → Str → Prop} (hf : HasFn c.K a qual st)
    (hbind : ∀ doc pm an cdv ct v0 v1, pure [(x0, v0), (x1, v1)] = bindArgs (fnOf (stName st) qual (stArgs st) (stBody st) (stScope st) .none .none doc pm an cdv ct) ⟨[v0, v1], []⟩)
    (hsc : scOk (stScope st) [x0, x1] = true) (h : ∀ L cdv l, OkBE c C d (envOfC qual (stScope st) L a cdv) l (stBody st) [(x0, y0), (x1, y1)] σ (RetOk Q) (fun zz => QC)) : CodeE c C (d + 1) (.ref a) [y0, y1] σ Q QC :=
  have b := Bool.and_eq_true_iff.mp hsc
  code_fnE [x0, x1] hf rfl (fun doc pm an cdv ct vs hl => by obtain ⟨v0, v1, rfl⟩ := len_2 hl; exact (hbind doc pm an cdv ct v0 v1).symm) b.1 (of_decide_eq_true b.2) h
theorem code_fnO2 {a : Addr} {qual : Str} {st : Stmt} (x0 x1 : Str) {y0 y1 : V} (hf : HasFn c.K a qual st)
    (hbind : ∀ doc pm an cdv ct v0 v1, pure [(x0, v0), (x1, v1)] = bindArgs (fnOf (stName st) qual (stArgs st) (stBody st) (stScope st) .none .none doc pm an cdv ct) ⟨[v0, v1], []⟩)
    (hsc : scOk (stScope st) [x0, x1] = true) (h : ∀ L cdv l, OkBO c d (envOfC qual (stScope st) L a cdv) l (stBody st) [(x0, y0), (x1, y1)] σ Q) : CodeO c (d + 1) (.ref a) [y0, y1] σ Q :=
  have b := Bool.and_eq_true_iff.mp hsc
  code_fnO [x0, x1] hf rfl (fun doc pm an cdv ct vs hl => by obtain ⟨v0, v1, rfl⟩ := len_2 hl; exact (hbind doc pm an cdv ct v0 v1).symm) b.1 (of_decide_eq_true b.2) h
theorem code_fnE3 {a : Addr} {qual : Str} {st : Stmt} (x0 x1 x2 : Str) {y0 y1 y2 : V} {QC : Sto → Str → Prop} (hf : HasFn c.K a qual st)
    (hbind : ∀ doc pm an cdv ct v0 v1 v2, pure [(x0, v0), (x1, v1), (x2, v2)] = bindArgs (fnOf (stName st) qual (stArgs st) (stBody st) (stScope st) .none .none doc pm an cdv ct) ⟨[v0, v1, v2], []⟩)
    (hsc : scOk (stScope st) [x0, x1, x2] = true) (h : ∀ L cdv l, OkBE c C d (envOfC qual (stScope st) L a cdv) l (stBody st) [(x0, y0), (x1, y1), (x2, y2)] σ (RetOk Q) (fun zz => QC)) : CodeE c C (d + 1) (.ref a) [y0, y1, y2] σ Q QC :=
  have b := Bool.and_eq_true_iff.mp hsc
  code_fnE [x0, x1, x2] hf rfl (fun doc pm an cdv ct vs hl => by obtain ⟨v0, v1, v2, rfl⟩ := len_3 hl; exact (hbind doc pm an cdv ct v0 v1 v2).symm) b.1 (of_decide_eq_true b.2) h
theorem execs_app {env : Env} {b : List Stmt} : ∀ (a : List Stmt), execs (a ++ b) env = execs a env >>= fun f => match f with | .next => execs b env | f => pure f
  | [] => by show execs b env = _; rw [execs_nil, pure_bind]
  | st :: a => by
    rw [List.cons_append, execs_cons, execs_cons, bind_assoc]
    congr 1
    funext f
    cases f with
    | next => exact execs_app a
    | _ => rw [pure_bind]
theorem okbE_pre {pre rest : List Stmt} (h : OkB c d env pre lk σ (ThenE c C d env outs rest QX QE)) : OkBE c C d env outs (pre ++ rest) lk σ QX QE := fun A s μ Qr Er ok r f D q qe => by
  rw [execs_app]
  refine wpAny_bind (h A s μ _ Er ok r f fun fl s₁ y lk₁ σ₁ μ₁ h₁ r₁ f₁ v₁ st₁ => ?_)
  have z := thenE_go ok D q qe h₁ r₁ f₁ v₁ st₁
  cases fl <;> first | exact z | exact wpAny_pure z
theorem okbE_if {test : Expr} {body orelse rest : List Stmt} (h : OkT c d env test lk σ (fun b σ' => (b = true → OkBE c C d env outs body lk σ' (ThenE c C d env outs rest QX QE) QE) ∧ (b = false → OkBE c C d env outs orelse lk σ' (ThenE c C d env outs rest QX QE) QE))) :
    OkBE c C d env outs (.If test body orelse pos :: rest) lk σ QX QE := okbE_cons (okxE_if (oktE_of h))
theorem okbE_return {e : Expr} {rest : List Stmt} (h : Ok c d env e lk σ (fun y σ' => QX (.ret y) lk σ')) : OkBE c C d env outs (.Return (some e) pos :: rest) lk σ QX QE := okbE_plain (okx_return h)
theorem okbE_returnE {e : Expr} {rest : List Stmt} (h : OkE c C d env outs e lk σ (fun y σ' => QX (.ret y) lk σ') QE) : OkBE c C d env outs (.Return (some e) pos :: rest) lk σ QX QE := okbE_cons (okxE_return h)
theorem okbE_let {x : Str} {p : Pos} {e : Expr} {rest : List Stmt} (h : Ok c d env e lk σ (fun y σ' => OkBE c C d env outs rest (put x y lk) σ' QX QE)) (hk : env.kindOf x = some .local ∨ env.kindOf x = some .cell)
    (hs : swapsWithSole [.Name x p] e pos.line env = pure false) (hw : swappedStores [.Name x p] e env = pure none) : OkBE c C d env outs (.Assign [.Name x p] e pos :: rest) lk σ QX QE :=
  okbE_plain (okx_assign (h.mono fun y σ' hh => oka_name hh hk) rfl hs hw)
theorem okbE_letE {x : Str} {p : Pos} {e : Expr} {rest : List Stmt} (h : OkE c C d env outs e lk σ (fun y σ' => OkBE c C d env outs rest (put x y lk) σ' QX QE) QE) (hk : env.kindOf x = some .local ∨ env.kindOf x = some .cell)
    (hs : swapsWithSole [.Name x p] e pos.line env = pure false) (hw : swappedStores [.Name x p] e env = pure none) : OkBE c C d env outs (.Assign [.Name x p] e pos :: rest) lk σ QX QE :=
  okbE_cons (okxE_assign (fun A s μ Qr Er ok r f D q => h A s μ Qr Er ok r f D fun v s' y σ' μ' hq => q v s' y σ' μ' (oka_name hq hk)) rfl hs hw)
theorem okbE_assignE {t e : Expr} {rest : List Stmt} (h : OkE c C d env outs e lk σ (fun y σ' => OkA c d env t y lk σ' (fun lk' σ'' => OkBE c C d env outs rest lk' σ'' QX QE)) QE) (he : assignEach [t] env = [(false, assign t env)])
    (hs : swapsWithSole [t] e pos.line env = pure false) (hw : swappedStores [t] e env = pure none) : OkBE c C d env outs (.Assign [t] e pos :: rest) lk σ QX QE := okbE_cons (okxE_assign h he hs hw)
theorem okbE_expr {e : Expr} {rest : List Stmt} (h : Ok c d env e lk σ (fun zz σ' => OkBE c C d env outs rest lk σ' QX QE)) (hi : interactive env = false) (hs : swapsWith e none pos.line env = pure false) : OkBE c C d env outs (.Expr e pos :: rest) lk σ QX QE := okbE_plain (okx_expr h hi hs)
theorem okbE_aug {x : Str} {p : Pos} {op : Operator} {e : Expr} {y : V} {rest : List Stmt} (hl : lk.lookup x = some y) (hk : env.kindOf x = some .local ∨ env.kindOf x = some .cell)
    (h : Ok c d env e lk σ (fun z σ' => Run2 c d env lk σ' (inplaceOp op) y z (fun u σ'' => OkBE c C d env outs rest (put x u lk) σ'' QX QE))) : OkBE c C d env outs (.AugAssign (.Name x p) op e pos :: rest) lk σ QX QE := okbE_plain (okx_aug hl hk h)
theorem okbE_raise (Z : ExcK c C fI) {np cpos : Pos} {args : List Expr} {code : Str} {rest : List Stmt} (h : OkL c d env args lk σ (fun ys σ' => (∃ rest, ys = .str code :: rest ∧ rest.length ≤ 1) ∧ QE lk σ' code)) (hk : env.kindOf "BasicError" = some .globalImplicit)
    (hplain : ∀ p, (backTo p (starEach args env)).any (·.1) = false) (hd : 2 ≤ d) : OkBE c C d env outs (.Raise (some (.Call (.Name "BasicError" np) args [] cpos)) none pos :: rest) lk σ QX QE := okbE_cons (okxE_raise Z h hk hplain hd)
theorem okbE_for {target iter : Expr} {body rest : List Stmt} (h : OkIt c d env iter lk σ (pairTarget target) (fun S xs σ' => S σ' ∧ LoopE c C d env outs target body S (ThenE c C d env outs rest QX QE) QE xs lk σ'))
    (hs : ∀ x, foldedSetIterable iter env x = pure x) : OkBE c C d env outs (.For target iter body [] pos :: rest) lk σ QX QE := okbE_cons (okxE_for h hs)
theorem loopE_invA {target : Expr} {body : List Stmt} {S : Sto → Prop} (J : List V → Loc → Sto → Prop)
    (hs : ∀ (QB : Fl → Loc → Sto → Prop) y r lk₁ σ₁, J (y :: r) lk₁ σ₁ → (∀ fl lk₂ σ₂, LoopJ S J QX r fl lk₂ σ₂ → QB fl lk₂ σ₂) → OkA c d env target y lk₁ σ₁ (fun lk₂ σ₂ => OkBE c C d env outs body lk₂ σ₂ QB QE))
    (hn : ∀ lk₁ σ₁, J [] lk₁ σ₁ → QX .next lk₁ σ₁) {xs : List V} : ∀ {lk : Loc} {σ : Sto}, J xs lk σ → LoopE c C d env outs target body S QX QE xs lk σ := by
  induction xs with
  | nil => exact fun h => ⟨_, Sub.refl _, hn _ _ h⟩
  | cons y r ih => exact fun h => hs _ y r _ _ h fun fl lk₂ σ₂ q => match fl, q with
    | .next, q => ⟨q.1, q.2.imp fun zz z => ⟨z.1, ih z.2⟩⟩
    | .cont, q => ⟨q.1, q.2.imp fun zz z => ⟨z.1, ih z.2⟩⟩
    | .brk, q => q
    | .ret _, q => q
theorem loopE_inv1 {x : Str} {p : Pos} {body : List Stmt} {S : Sto → Prop} (J : List V → Loc → Sto → Prop) (hk : env.kindOf x = some .local ∨ env.kindOf x = some .cell)
    (hs : ∀ (QB : Fl → Loc → Sto → Prop) y r lk₁ σ₁, J (y :: r) lk₁ σ₁ → (∀ fl lk₂ σ₂, LoopJ S J QX r fl lk₂ σ₂ → QB fl lk₂ σ₂) → OkBE c C d env outs body (put x y lk₁) σ₁ QB QE)
    (hn : ∀ lk₁ σ₁, J [] lk₁ σ₁ → QX .next lk₁ σ₁) {xs : List V} (h : J xs lk σ) : LoopE c C d env outs (.Name x p) body S QX QE xs lk σ := loopE_invA J (fun QB y r lk₁ σ₁ a b => oka_name (hs QB y r lk₁ σ₁ a b) hk) hn h
theorem loopE_inv2 {x z : Str} {p p' pp : Pos} {k : Nat} {body : List Stmt} {S : Sto → Prop} (J : List V → Loc → Sto → Prop) (hk : StoK env x) (hk' : StoK env z)
    (hs : ∀ (QB : Fl → Loc → Sto → Prop) y r lk₁ σ₁, J (y :: r) lk₁ σ₁ → (∀ fl lk₂ σ₂, LoopJ S J QX r fl lk₂ σ₂ → QB fl lk₂ σ₂) → ∃ a b, y = .tup [a, b] ∧ OkBE c C d env outs body (put z b (put x a lk₁)) σ₁ QB QE)
    (hn : ∀ lk₁ σ₁, J [] lk₁ σ₁ → QX .next lk₁ σ₁) {xs : List V} (h : J xs lk σ) : LoopE c C d env outs (.Tuple [.Name x p, .Name z p'] k pp) body S QX QE xs lk σ :=
  loopE_invA J (fun QB y r lk₁ σ₁ j q => by
    obtain ⟨a, b, rfl, h⟩ := hs QB y r lk₁ σ₁ j q
    exact oka_tuple (okas_cons (oka_name (okas_cons (oka_name (okas_nil h) hk') rfl) hk) rfl) rfl rfl) hn h
end
-- C15
theorem bb_all : bootBuiltins "all" = some (.builtin "all") := by decide +kernel
section
variable {c : Ctx} {d : Nat} {env : Env} {lk : Loc} {σ : Sto} {pos : Pos} {Q : V → Sto → Prop} {QX : Fl → Loc → Sto → Prop}
theorem run_fdiv {a b : Int} (hb : b ≠ 0) (hp : b.natAbs < 1073741824) (h : Q (.int (a.fdiv b)) σ) : Run2 c d env lk σ (binaryOp .FloorDiv) (.int a) (.int b) Q :=
  run_ii fun A s μ ta tb Qr Er ok r f q => floordiv_int hb (q.same h r f (.int _ _)) (.inl (PyProof.noPylong_small hp))
noncomputable def repV (n : Nat) (xs : List V) : List V := (List.replicate n xs).flatten
theorem VRs.rep {h : Heap} {μ : AMap} {xs : List V} {vs : List Value} (r : VRs h μ xs vs) : ∀ n, VRs h μ (repV n xs) (List.replicate n vs).flatten
  | 0 => .nil
  | n + 1 => by
    show VRs h μ (List.replicate (n + 1) xs).flatten (List.replicate (n + 1) vs).flatten
    rw [List.replicate_succ, List.replicate_succ, List.flatten_cons, List.flatten_cons]
    exact r.append (r.rep n)
theorem run_mulL {xs : List V} {n : Nat} (hl : xs.length * n ≤ 2 ^ 20) (hn : n ≤ 1000) (h : Q (.lst (repV n xs)) σ) : Run2 c d env lk σ (binaryOp .Mult) (.lst xs) (.int n) Q := by
  intro A s μ va vb Qr Er ok r f ha hb q
  obtain ⟨l, vs, k, rfl, ho, fz, hvs⟩ := ha.lst'
  obtain ⟨u, rfl⟩ := hb.int'
  have hsz : vs.toArray.size * (n : Int).toNat ≤ 2 ^ 20 := by rw [List.size_toArray, ← hvs.length, Int.toNat_natCast]; exact hl
  have hlo : -(2 ^ 63 : Int) ≤ (n : Int) := by lcg_off
  have hhi : (n : Int) < 2 ^ 63 := by lcg_off
  have hrep : (List.replicate (n : Int).toNat vs).flatten = (List.replicate n vs).flatten := by rw [Int.toNat_natCast]
  generalize (n : Int) = x at *
  have hsz' : vs.toArray.size * x.toNat ≤ 2 ^ 24 := Nat.le_trans hsz (by decide)
  refine wpAny_binaryOp_repeat_ref (T := "list") (U := "int") (by decide) ⟨_, ho, rfl⟩ (fun s' => typeIs_int s' x u) noFill_list_mul F.fills_int_mul F.slot_int_rmul repeat_list F.slot_int_index.lookup
    (call_meets F.slot_int_rmul (typeIs_int s x u) F.entry_int_rmul (F.args_int_rmul_2 _ _) (lm_int_rmul_list_any x u l vs.toArray k none #[])
      ⟨ho, rfl, ⟨_, ho, rfl⟩, call_meets F.slot_list_mul ⟨_, ho, rfl⟩ F.entry_list_mul (F.args_list_mul_2 _ _)
        (lm_list_mul_any l vs.toArray k none #[] x u (by simp [Builtin.List.listFitsIndex]; lcg_off) (by lcg_off) (by simp [Builtin.List.listTooLong, sizeLine]; lcg_off))
        ⟨ho, ?_⟩⟩)
  rw [listMul_foldl_if]
  exact q _ { s with heap := s.heap.push _ } (.lst (repV n xs)) σ μ h (r.push _) (f.push _) (.lst (Heap.get?_push_size _ rfl) (frz_size r) (by rw [hrep]; exact (hvs.rep n).at (.push _))) (Step.push _)
inductive SeenL (σ : Sto) : List V → List V → Prop
  | nil : SeenL σ [] []
  | cons {x x' : V} {xs xs' : List V} : (x'.plain 7 = true ∧ (x = x' ∨ ∃ k ys, x = .ref k ∧ σ k = some (.list ys) ∧ x' = .lst ys)) → SeenL σ xs xs' → SeenL σ (x :: xs) (x' :: xs')
theorem SeenL.plains {xs xs' : List V} (h : SeenL σ xs xs') : plains 7 xs' = true := by
  induction h with
  | nil => rfl
  | cons h _ ih => exact Bool.and_eq_true_iff.mpr ⟨h.1, ih⟩
theorem seenL_reads {h : Heap} {μ : AMap} (r : HR c h μ σ) {xs xs' : List V} (hs : SeenL σ xs xs') : ∀ {vs : List Value}, VRs h μ xs vs → ∃ as, ReadsAll h vs (pys xs') as := by
  induction hs with
  | nil => intro vs hv; rw [hv.nil']; exact ⟨_, .nil⟩
  | cons hx _ ih =>
    intro vs hv
    obtain ⟨v, ws, rfl, a, b⟩ := hv.heads'
    obtain ⟨hp, rfl | ⟨k, ys, rfl, hk, rfl⟩⟩ := hx
    · exact (a.reads hp).elim fun zz p => (ih b).elim fun zz q => ⟨_, .cons p q⟩
    · obtain ⟨n, en, hp'⟩ := pl_lst hp
      exact (cell_reads (n := n) r hk hp' a).elim fun zz p => (ih b).elim fun zz q => ⟨_, .cons p q⟩
open Classical in
theorem run_neL {xs ys xs' ys' : List V} (hx : SeenL σ xs xs') (hy : SeenL σ ys ys') (h : Q (.bool (!decide (xs' = ys'))) σ) : Run2 c d env lk σ (compareOp .NotEq) (.lst xs) (.lst ys) Q := by
  intro A s μ va vb Qr Er ok r f ha hb q
  obtain ⟨l, vs, k, rfl, ho, _, hvs⟩ := ha.lst'
  obtain ⟨l', vs', k', rfl, ho', _, hvs'⟩ := hb.lst'
  obtain ⟨as, ra⟩ := seenL_reads r hx hvs
  obtain ⟨bs, rb⟩ := seenL_reads r hy hvs'
  have pa : (V.lst xs').plain 8 = true := hx.plains
  have pb : (V.lst ys').plain 8 = true := hy.plains
  refine ne_dataH (reads_list_at ho rfl rfl ra) (reads_list_at ho' rfl rfl rb) (V.shaped pa) (V.shaped pb) ok.units64 ?_
  have e := iff_dec (V.eqv_iff 8 8 (.lst xs') (.lst ys') pa pb)
  have e2 : decide (V.lst xs' = V.lst ys') = decide (xs' = ys') := by by_cases z : xs' = ys' <;> simp [z]
  show Qr (.bool (!PyData.eqv (V.lst xs').py (V.lst ys').py)) s
  rw [e, e2]; exact q.now h r f (.bool _)
open Classical in
theorem run_notin {x x' : V} {xs : List V} (hx : Seen σ x x') (hxs : plains 8 xs = true) (h : Q (.bool (!decide (x' ∈ xs))) σ) : Run2 c d env lk σ (compareOp .NotIn) x (.tup xs) Q := by
  intro A s μ va vb Qr Er ok r f ha hb q
  obtain ⟨as, ra⟩ := seen_reads r hx ha
  obtain ⟨bs, rb⟩ := VR.reads (n := 9) (x := .tup xs) hxs hb
  refine SeqAt.notIn_tuple_reads rb ra (lays 8 xs hxs).1 (V.lay 8 x' hx.1).1 ?_ (iff_dec (any_eqv hxs hx.1) ▸ q.now h r f (.bool _))
  have l4 := Nat.le_trans (Nat.min_le_right (PyData.depthAll (pys xs)) x'.py.depth) (V.lay 8 x' hx.1).2
  have := ok.units64
  lcg_off
open Classical in
theorem run_eqc_t {a b a' b' : V} (ha : Seen σ a a') (hb : Seen σ b b') (e : a' = b') (h : Q (.bool true) σ) : Run2 c d env lk σ (compareOp .Eq) a b Q := run_eqc ha hb (by rw [decide_eq_true e]; exact h)
open Classical in
theorem run_neL_f {xs ys xs' ys' : List V} (hx : SeenL σ xs xs') (hy : SeenL σ ys ys') (e : xs' = ys') (h : Q (.bool false) σ) : Run2 c d env lk σ (compareOp .NotEq) (.lst xs) (.lst ys) Q := run_neL hx hy (by rw [decide_eq_true e]; exact h)
open Classical in
theorem run_notin_f {x x' : V} {xs : List V} (hx : Seen σ x x') (hxs : plains 8 xs = true) (e : x' ∈ xs) (h : Q (.bool false) σ) : Run2 c d env lk σ (compareOp .NotIn) x (.tup xs) Q := run_notin hx hxs (by rw [decide_eq_true e]; exact h)
theorem kept_it {h h' : Heap} {o : Obj} (hk : ∀ b x, b ∉ [h.objs.size] → (h.push o).get? b = some x → h'.get? b = some x) : ∀ b x, h.get? b = some x → h'.get? b = some x :=
  fun b x e => hk b x (fun hm => by rw [List.mem_singleton.mp hm] at e; exact Nat.lt_irrefl _ (Heap.lt_size e)) (Heap.get?_push_of_some _ e)
theorem callf_all {bs : List Bool} (h : Q (.bool (bs.all id)) σ) : CallF c d env lk σ (.builtin "all") [.lst (bs.map .bool)] Q := by
  intro A s μ vs Qr Er ok r f hv q
  obtain ⟨v, rfl, hb⟩ := hv.one
  obtain ⟨l, vs, k, rfl, ho, fz, hvs⟩ := hb.lst'
  have hl : s.heap.IsList l vs.toArray := ⟨_, ho, rfl, _, rfl⟩
  refine call_all_walk (wpAny_pyIter_list hl ?_)
  refine ⟨s.heap.objs.size, [s.heap.objs.size, l], [s.heap.objs.size], vs.toArray.size, _, _, fun i => (bs[i]?).getD true, rfl, Walks.list (A := A.in1) (show A.in1.handled = none from ok.1) _ l (Nat.ne_of_lt (Heap.lt_size ho)) vs.toArray,
    ⟨⟨_, Heap.get?_push_size _ rfl, rfl, rfl⟩, hl.push _⟩, fun i v s' Q' E' hP hQ => ?_, fun h' tk hk => ?_⟩
  · have hi : vs[i]? = some v := by simpa using hP
    have hlt : i < bs.length := by have := hvs.length; rw [List.length_map] at this; rw [this]; exact (List.getElem?_eq_some_iff.mp hi).1
    obtain ⟨v', e', hv'⟩ := hvs.get (i := i) (x := .bool bs[i]) (by rw [List.getElem?_map, List.getElem?_eq_getElem hlt]; rfl)
    rw [hi] at e'
    cases e'
    obtain rfl := hv'.bool'
    simp only [List.getElem?_eq_getElem hlt, Option.getD_some] at hQ
    exact wpAny_truthy_bool hQ
  · have e : ((List.range vs.toArray.size).all fun i => (bs[i]?).getD true) = bs.all id := by
      rw [List.size_toArray, ← hvs.length, List.length_map]
      rw [Bool.eq_iff_iff, List.all_eq_true, List.all_eq_true]
      refine ⟨fun h b hb => ?_, fun h i hi => ?_⟩
      · obtain ⟨i, hi, rfl⟩ := List.getElem_of_mem hb
        have := h i (List.mem_range.mpr hi)
        simpa [List.getElem?_eq_getElem hi] using this
      · have hi' := List.mem_range.mp hi
        simp only [List.getElem?_eq_getElem hi', Option.getD_some]
        exact h _ (List.getElem_mem hi')
    rw [e]
    have kp := kept_it hk
    exact q _ _ (.bool _) σ μ h (r.keep kp) (f.keep (s' := { s with heap := h', toks := tk }) kp rfl rfl) (.bool _) (Step.ofKeep kp rfl rfl)
theorem ints_items {h : Heap} {μ : AMap} : ∀ {ns : List Int} {vs : List Value}, VRs h μ (ns.map .int) vs → ∃ xs : List (Int × Tok), vs = xs.map (fun p => .int p.1 p.2) ∧ xs.map (·.1) = ns
  | [], vs, r => ⟨[], r.nil', rfl⟩
  | n :: ns, vs, r => by
    obtain ⟨v, ws, rfl, a, b⟩ := r.heads'
    obtain ⟨t, rfl⟩ := a.int'
    obtain ⟨xs, rfl, e⟩ := ints_items b
    exact ⟨(n, t) :: xs, rfl, by rw [List.map_cons, e]⟩
theorem callf_minL {ns : List Int} (hne : ns ≠ []) (h : ∀ m, m ∈ ns → (∀ a ∈ ns, m ≤ a) → Q (.int m) σ) : CallF c d env lk σ (.builtin "min") [.lst (ns.map .int)] Q := by
  intro A s μ vs Qr Er ok r f hv q
  obtain ⟨v, rfl, hb⟩ := hv.one
  obtain ⟨l, vs, k, rfl, ho, fz, hvs⟩ := hb.lst'
  obtain ⟨xs, rfl, e⟩ := ints_items hvs
  have hl : s.heap.IsList l (intItems xs.toArray) := ⟨_, ho, rfl, k, by simp [intItems]⟩
  have hx : 0 < xs.toArray.size := by rw [List.size_toArray]; rw [← e] at hne; cases xs with | nil => exact absurd rfl hne | cons => simp
  refine min_intList ok.1 hl hx fun v h' tk hv kp => ?_
  obtain ⟨t, rfl⟩ := intItems_at hv
  obtain ⟨h1, h2⟩ := argBest_lt (numAt xs.toArray) (xs.toArray.size - 1)
  have hnum : ∀ i, i < xs.length → numAt xs.toArray i ∈ ns ∧ ∀ hi : i < xs.length, numAt xs.toArray i = (xs[i]).1 := fun i hi => by
    have : numAt xs.toArray i = (xs[i]).1 := by simp [numAt, List.getElem?_eq_getElem hi]
    exact ⟨by rw [this, ← e]; exact List.mem_map_of_mem (List.getElem_mem hi), fun zz => this⟩
  refine q _ _ (.int _) σ μ (h _ (hnum _ ?_).1 fun a ha => ?_) (r.keep kp) (f.keep (s' := { s with heap := h', toks := tk }) kp rfl rfl) (.int _ _) (Step.ofKeep kp rfl rfl)
  · rw [List.size_toArray] at h1 hx ⊢; lcg_off
  · rw [← e] at ha
    obtain ⟨p, hp, rfl⟩ := List.mem_map.mp ha
    obtain ⟨j, hj, rfl⟩ := List.getElem_of_mem hp
    rw [← (hnum j hj).2 hj]
    rw [List.size_toArray] at h2
    exact h2 j (by lcg_off)
noncomputable def WhileJ (I : Nat → Loc → Sto → Prop) (QX : Fl → Loc → Sto → Prop) (n : Nat) (fl : Fl) (lk : Loc) (σ : Sto) : Prop := match fl with
  | .next => ∃ m, m < n ∧ ∃ lk', Sub lk' lk ∧ I m lk' σ
  | .cont => ∃ m, m < n ∧ ∃ lk', Sub lk' lk ∧ I m lk' σ
  | .brk => QX .next lk σ
  | .ret y => QX (.ret y) lk σ
theorem okx_while {test : Expr} {body : List Stmt} (I : Nat → Loc → Sto → Prop)
    (hs : ∀ (QB : Fl → Loc → Sto → Prop) n lk₁ σ₁, I n lk₁ σ₁ → (∀ fl lk₂ σ₂, WhileJ I QX n fl lk₂ σ₂ → QB fl lk₂ σ₂) → OkT c d env test lk₁ σ₁ (fun b σ₂ => (b = true → OkB c d env body lk₁ σ₂ QB) ∧ (b = false → QX .next lk₁ σ₂)))
    (n : Nat) (h : I n lk σ) : OkX c d env (.While test body [] pos) lk σ QX := by
  intro A s μ Qr Er ok r f q
  refine wpAny_While (codeAny_whileLoop (fun n s' => ∃ lk' σ' μ', I n lk' σ' ∧ HR c s'.heap μ' σ' ∧ FR c env lk' s'.heap μ' ∧ Step (own env) μ μ' s s') ?_ n ⟨lk, σ, μ, h, r, f, Step.refl _ _ _⟩)
  rintro n s₁ ⟨lk₁, σ₁, μ₁, h₁, r₁, f₁, st₁⟩
  refine hs (WhileJ I QX n) n lk₁ σ₁ h₁ (fun zz zz zz z => z) A s₁ μ₁ _ _ ok r₁ f₁ fun b s₂ σ₂ μ₂ h₂ r₂ f₂ st₂ => ?_
  cases b with
  | false => exact wpAny_execs_nil (q .next s₂ .next lk₁ σ₂ μ₂ (h₂.2 rfl) r₂ f₂ trivial (st₁.trans st₂))
  | true =>
    refine h₂.1 rfl A s₂ μ₂ _ _ ok r₂ f₂ fun fl s₃ y lk₃ σ₃ μ₃ h₃ r₃ f₃ v₃ st₃ => ?_
    have st := (st₁.trans st₂).trans st₃
    cases y with
    | next => cases fl <;> first | exact v₃.elim | exact h₃.imp fun m z => ⟨z.1, z.2.elim fun lk' w => ⟨lk', σ₃, μ₃, w.2, r₃, f₃.weak w.1, st⟩⟩
    | cont => cases fl <;> first | exact v₃.elim | exact h₃.imp fun m z => ⟨z.1, z.2.elim fun lk' w => ⟨lk', σ₃, μ₃, w.2, r₃, f₃.weak w.1, st⟩⟩
    | brk => cases fl <;> first | exact v₃.elim | exact q .next s₃ .next lk₃ σ₃ μ₃ h₃ r₃ f₃ trivial st
    | ret y => cases fl <;> first | exact v₃.elim | exact q _ s₃ (.ret y) lk₃ σ₃ μ₃ h₃ r₃ f₃ v₃ st
end
-- ZP1
section
variable {prog : Program} {w : World} {A : Around} {E : Value → Shared → Prop} {s : Shared} {n l1 t2 k : Nat} {xs ys : Array Value} {x y : Value}
theorem adr_ne {a b : Nat} (h : a ≠ b) : @Ne Addr a b := h
structure ZipS (h : Heap) (n l1 t2 k : Nat) : Prop where
  z : IsZip h (n + 4) (n + 2) (n + 3) .none
  ti : IsPair h (n + 2) (.ref n) (.ref (n + 1))
  to : ∃ a b, IsPair h (n + 3) a b
  i1 : h.IsListIter n l1 k
  i2 : h.IsTupleIter (n + 1) t2 k
  lt1 : l1 < n
  lt2 : t2 < n
theorem ZipS.at {h h' : Heap} (Z : ZipS h n l1 t2 k) (kp : ∀ b o, n ≤ b → b ≤ n + 4 → h.get? b = some o → h'.get? b = some o) : ZipS h' n l1 t2 k :=
  ⟨kp _ _ (by lcg_off) (by lcg_off) Z.z, kp _ _ (by lcg_off) (by lcg_off) Z.ti, Z.to.imp fun a => Exists.imp fun b e => kp _ _ (by lcg_off) (by lcg_off) e, Z.i1.imp fun o q => ⟨kp _ _ (by lcg_off) (by lcg_off) q.1, q.2⟩, Z.i2.imp fun o q => ⟨kp _ _ (by lcg_off) (by lcg_off) q.1, q.2⟩, Z.lt1, Z.lt2⟩
theorem nextOf_tup {it t : Addr} {i : Nat} {items : Array Value} {Q : Value → Shared → Prop} (hit : s.heap.IsTupleIter it t i) (ht : s.heap.IsTuple t items) (hx : items[i]? = some x)
    (hQ : ∀ h', h'.IsTupleIter it t (i + 1) → Heap.SameBut it s.heap h' → Q x { s with heap := h' }) : wpAny (model prog w) A (Builtin.SmallTypes.nextOf (.ref it)) Q E s := by
  obtain ⟨o, ho, hc, hd⟩ := id hit
  obtain ⟨ol, hol, _, nl, hdl⟩ := ht
  unfold Builtin.SmallTypes.nextOf
  refine wpAny_bind (wpAny_callSpecial?_slot (name := Str.ofString "__next__") hit.typeIs F.slot_tuple_iterator_next (wpAny_call_entry F.slot_tuple_iterator_next hit.typeIs F.entry_tuple_iterator_next ?_ (F.args_tuple_iterator_next_1 _)))
  show wpAny _ _ (field (.ref it) 0 >>= _) _ _ s
  refine wpAny_bind (wpAny_field ho hd (x := .ref t) rfl ?_)
  show wpAny _ _ (if (Value.ref t == Value.none) = true then _ else _) _ _ s
  rw [if_neg (show ¬ ((Value.ref t == Value.none) = true) from Bool.false_ne_true)]
  show wpAny _ _ (field (.ref it) 1 >>= _) _ _ s
  refine wpAny_bind (wpAny_field ho hd (x := .int i 0) rfl ?_)
  show wpAny _ _ (seqItems? (.ref t) >>= _) _ _ s
  refine wpAny_bind (wpAny_seqItems hol hdl ?_)
  simp only [Int.toNat_natCast, hx]
  refine wpAny_bind (wpAny_setField ho hd (by simp) (wpAny_pure ⟨x, rfl, wpAny_pure (hQ _ ⟨_, Heap.get?_update_self _ ho (Obj.isFreed_of_fields (Obj.data_mapFields hd _)), (Obj.cls_mapFields ..).trans hc, ?_⟩ (Heap.SameBut.update ..))⟩))
  rw [Obj.data_mapFields hd]; simp [rawInt]
theorem zipS_item {elts : List Expr} {x1 : Nat} {tp : Pos} {Q : Value → Shared → Prop} {E' : Value → Shared → Prop} {R : Option Value → Shared → Prop} (hR : ∀ v s₁, wpAny (model prog w) A (letOwnedTupleGo (.Tuple elts x1 tp) (.ref (n + 4)) v) (fun zz s' => Q v s') E' s₁ → R (some v) s₁) (Z : ZipS s.heap n l1 t2 k) (hl : s.heap.IsList l1 xs) (ht : s.heap.IsTuple t2 ys) (hx : xs[k]? = some x) (hy : ys[k]? = some y)
    (hQ : ∀ h', ZipS h' n l1 t2 (k + 1) → h'.get? s.heap.objs.size = some (tupO #[x, y] 0) → (∀ b o, (b < n ∨ n + 4 < b ∨ b = n + 2) → s.heap.get? b = some o → h'.get? b = some o) → Q (.ref s.heap.objs.size) { s with heap := h' }) :
    wpAny (model prog w) A (pyNext (.ref (n + 4))) R E s := by
  obtain ⟨hz, hTI, ⟨a, b, hTO⟩, h1, h2, lt1, lt2⟩ := Z
  have hT : s.TypeIs (.ref (n + 4)) "zip" := ⟨_, hz, rfl⟩
  unfold pyNext
  refine wpAny_bind (wpAny_attempt (wpAny_callSpecial?_slot (name := Str.ofString "__next__") hT F.slot_zip_next (wpAny_call_entry F.slot_zip_next hT F.entry_zip_next ?_ (F.args_zip_next_1 _))))
  show wpAny _ _ (field (.ref (n + 4)) 2 >>= _) _ _ _
  refine wpAny_bind (wpAny_field hz rfl (x := .bool false) rfl ?_)
  show wpAny _ _ (field (.ref (n + 4)) 3 >>= _) _ _ _
  refine wpAny_bind (wpAny_field hz rfl (x := .ref (n + 2)) rfl (wpAny_bind (wpAny_seqItems hTI rfl ?_)))
  show wpAny _ _ (Builtin.SmallTypes.ownedTupleIsFree (.ref (n + 4)) >>= _) _ _ _
  refine wpAny_bind ?_
  unfold Builtin.SmallTypes.ownedTupleIsFree
  refine wpAny_bind (wpAny_field hz rfl (x := .none) rfl (wpAny_pure ?_))
  simp only [if_true]
  refine wpAny_bind (wpAny_rule (wpAny_bind (wpAny_field hz rfl (x := .ref (n + 3)) rfl (wpAny_bind (wpAny_setField_rec hz (by simp) fun h₁ hz₁ hs₁ => wpAny_bind ?_)))))
  replace hz₁ : IsZip h₁ (n + 4) (n + 2) (n + 3) .ellipsis := hz₁
  simp only [List.zipIdx_cons, List.zipIdx_nil, List.forIn_cons, List.forIn_nil]
  have k1 : ∀ b o, b ≠ n + 4 → s.heap.get? b = some o → h₁.get? b = some o := fun b o hb e => (hs₁.2 b hb).trans e
  refine wpAny_bind (wpAny_bind (wpAny_onRaise ?_))
  show wpAny _ _ (Builtin.SmallTypes.nextOf (.ref n) >>= _) _ _ _
  refine wpAny_bind (wpAny_nextOf_list_item (h1.imp fun o q => ⟨k1 _ _ (by lcg_off) q.1, q.2⟩) (hl.imp fun o q => ⟨k1 _ _ (by lcg_off) q.1, q.2⟩) hx fun h₂ h1₂ hs₂ => wpAny_pure ?_)
  have k2 : ∀ b o, b ≠ n + 4 → b ≠ n → s.heap.get? b = some o → h₂.get? b = some o := fun b o hb hb' e => (hs₂.2 b hb').trans (k1 b o hb e)
  have hTO₂ : IsPair h₂ (n + 3) a b := k2 _ _ (by lcg_off) (by lcg_off) hTO
  refine wpAny_bind (wpAny_seqItems hTO₂ rfl (wpAny_bind (wpAny_updateSeq_pair hTO₂ fun h₃ hTO₃ hs₃ => ?_)))
  replace hTO₃ : IsPair h₃ (n + 3) x b := hTO₃
  have k3 : ∀ b o, b ≠ n + 4 → b ≠ n → b ≠ n + 3 → s.heap.get? b = some o → h₃.get? b = some o := fun b o hb hb' h3 e => (hs₃.2 b h3).trans (k2 b o hb hb' e)
  refine wpAny_bind (wpAny_letGo (wpAny_pure (wpAny_bind (wpAny_bind (wpAny_onRaise ?_)))))
  show wpAny _ _ (Builtin.SmallTypes.nextOf (.ref (n + 1)) >>= _) _ _ _
  refine wpAny_bind (nextOf_tup (h2.imp fun o q => ⟨k3 _ _ (by lcg_off) (by lcg_off) (by lcg_off) q.1, q.2⟩) (ht.imp fun o q => ⟨k3 _ _ (by lcg_off) (by lcg_off) (by lcg_off) q.1, q.2⟩) hy fun h₄ h2₄ hs₄ => wpAny_pure ?_)
  have hTO₄ : IsPair h₄ (n + 3) x b := (hs₄.2 (n + 3) (adr_ne (by lcg_off))).trans hTO₃
  refine wpAny_bind (wpAny_seqItems hTO₄ rfl (wpAny_bind (wpAny_updateSeq_pair hTO₄ fun h₅ hTO₅ hs₅ => ?_)))
  replace hTO₅ : IsPair h₅ (n + 3) x y := hTO₅
  refine wpAny_bind (wpAny_letGo (wpAny_pure (wpAny_pure (wpAny_bind (wpAny_seqItems hTO₅ rfl (wpAny_bind (wpAny_newTuple ?_)))))))
  have hsz : h₅.objs.size = s.heap.objs.size := by rw [hs₅.1, hs₄.1, hs₃.1, hs₂.1, hs₁.1]
  have k5 : ∀ b o, b ≠ n + 4 → b ≠ n → b ≠ n + 3 → b ≠ n + 1 → s.heap.get? b = some o → h₅.get? b = some o := fun b o hb hb' h3 h4 e => (hs₅.2 b h3).trans ((hs₄.2 b h4).trans (k3 b o hb hb' h3 e))
  have hz₅ : IsZip h₅ (n + 4) (n + 2) (n + 3) .ellipsis := (hs₅.2 (n + 4) (adr_ne (by lcg_off))).trans ((hs₄.2 (n + 4) (adr_ne (by lcg_off))).trans ((hs₃.2 (n + 4) (adr_ne (by lcg_off))).trans ((hs₂.2 (n + 4) (adr_ne (by lcg_off))).trans hz₁)))
  have h1₅ : h₅.IsListIter n l1 (k + 1) := h1₂.imp fun o q => ⟨(hs₅.2 n (adr_ne (by lcg_off))).trans ((hs₄.2 n (adr_ne (by lcg_off))).trans ((hs₃.2 n (adr_ne (by lcg_off))).trans q.1)), q.2⟩
  have h2₅ : h₅.IsTupleIter (n + 1) t2 (k + 1) := h2₄.imp fun o q => ⟨(hs₅.2 (n + 1) (adr_ne (by lcg_off))).trans q.1, q.2⟩
  have zlt : n + 4 < s.heap.objs.size := Heap.lt_size hz
  show wpAny _ _ (Builtin.SmallTypes.ownedTupleHandOut (.ref (n + 4)) (.ref h₅.objs.size) >>= _) _ _ _
  refine wpAny_bind ?_
  unfold Builtin.SmallTypes.ownedTupleHandOut
  have hz₆ : IsZip (h₅.push { cls := .type "tuple", data := .seq #[x, y] }) (n + 4) (n + 2) (n + 3) .ellipsis := Heap.get?_push_of_some _ hz₅
  refine wpAny_bind (wpAny_setField_rec hz₆ (by simp) fun h₇ hz₇ hs₇ => ?_)
  replace hz₇ : IsZip h₇ (n + 4) (n + 2) (n + 3) (rawInt h₅.objs.size) := hz₇
  refine wpAny_setField_rec hz₇ (by simp) fun h₈ hz₈ hs₈ => wpAny_pure ⟨_, rfl, wpAny_pure (hR _ _ ?_)⟩
  replace hz₈ : IsZip h₈ (n + 4) (n + 2) (n + 3) (rawInt h₅.objs.size) := hz₈
  refine wpAny_letOwnedTupleGo_zip hz₈ fun h₉ hz₉ hs₉ => ?_
  have up : ∀ b o, b ≠ n + 4 → h₅.get? b = some o → h₉.get? b = some o := fun b o hb e => (hs₉.2 b hb).trans ((hs₈.2 b hb).trans ((hs₇.2 b hb).trans (Heap.get?_push_of_some _ e)))
  have hT9 : h₉.get? h₅.objs.size = some (tupO #[x, y] 0) := (hs₉.2 h₅.objs.size (adr_ne (by lcg_off))).trans ((hs₈.2 h₅.objs.size (adr_ne (by lcg_off))).trans ((hs₇.2 h₅.objs.size (adr_ne (by lcg_off))).trans (Heap.get?_push_size _ rfl)))
  rw [hsz] at hT9 ⊢
  exact hQ h₉ ⟨hz₉, up _ _ (by lcg_off) (k5 _ _ (by lcg_off) (by lcg_off) (by lcg_off) (by lcg_off) hTI), ⟨x, y, up _ _ (by lcg_off) hTO₅⟩, h1₅.imp fun o q => ⟨up _ o (by lcg_off) q.1, q.2⟩, h2₅.imp fun o q => ⟨up _ o (by lcg_off) q.1, q.2⟩, lt1, lt2⟩ hT9
    fun b o hb e => up b o (by lcg_off) (k5 b o (by lcg_off) (by lcg_off) (by lcg_off) (by lcg_off) e)
theorem zipS_end {Q : Option Value → Shared → Prop} (hh : A.handled = none) (Z : ZipS s.heap n l1 t2 k) (hl : s.heap.IsList l1 xs) (hx : xs[k]? = none)
    (hQ : ∀ h', (∀ b o, b ≠ n + 4 → b ≠ n → s.heap.get? b = some o → h'.get? b = some o) → Q none { s with heap := h' }) : wpAny (model prog w) A (pyNext (.ref (n + 4))) Q E s := by
  obtain ⟨hz, hTI, ⟨a, b, hTO⟩, h1, h2, lt1, lt2⟩ := Z
  have hT : s.TypeIs (.ref (n + 4)) "zip" := ⟨_, hz, rfl⟩
  unfold pyNext
  refine wpAny_bind (wpAny_attempt (wpAny_callSpecial?_slot (name := Str.ofString "__next__") hT F.slot_zip_next (wpAny_call_entry F.slot_zip_next hT F.entry_zip_next ?_ (F.args_zip_next_1 _))))
  show wpAny _ _ (field (.ref (n + 4)) 2 >>= _) _ _ _
  refine wpAny_bind (wpAny_field hz rfl (x := .bool false) rfl ?_)
  show wpAny _ _ (field (.ref (n + 4)) 3 >>= _) _ _ _
  refine wpAny_bind (wpAny_field hz rfl (x := .ref (n + 2)) rfl (wpAny_bind (wpAny_seqItems hTI rfl ?_)))
  show wpAny _ _ (Builtin.SmallTypes.ownedTupleIsFree (.ref (n + 4)) >>= _) _ _ _
  refine wpAny_bind ?_
  unfold Builtin.SmallTypes.ownedTupleIsFree
  refine wpAny_bind (wpAny_field hz rfl (x := .none) rfl (wpAny_pure ?_))
  simp only [if_true]
  refine wpAny_bind (wpAny_rule (wpAny_bind (wpAny_field hz rfl (x := .ref (n + 3)) rfl (wpAny_bind (wpAny_setField_rec hz (by simp) fun h₁ hz₁ hs₁ => wpAny_bind ?_)))))
  replace hz₁ : IsZip h₁ (n + 4) (n + 2) (n + 3) .ellipsis := hz₁
  simp only [List.zipIdx_cons, List.zipIdx_nil, List.forIn_cons, List.forIn_nil]
  have k1 : ∀ b o, b ≠ n + 4 → s.heap.get? b = some o → h₁.get? b = some o := fun b o hb e => (hs₁.2 b hb).trans e
  refine wpAny_bind (wpAny_bind (wpAny_onRaise ?_))
  show wpAny _ _ (Builtin.SmallTypes.nextOf (.ref n) >>= _) _ _ _
  refine wpAny_bind (wpAny_nextOf_list_end (show A.in1.handled = none from hh) (h1.imp fun o q => ⟨k1 _ _ (by lcg_off) q.1, q.2⟩) (hl.imp fun o q => ⟨k1 _ _ (by lcg_off) q.1, q.2⟩) hx fun h₂ e hs₂ he => ?_)
  obtain ⟨oe, hoe, hce⟩ := he
  have hz₂ : IsZip h₂ (n + 4) (n + 2) (n + 3) .ellipsis := hs₂ (n + 4) _ (adr_ne (by lcg_off)) hz₁
  have hez : e ≠ n + 4 := fun q => by subst q; rw [hz₂] at hoe; cases hoe; simp at hce
  refine wpAny_setField_rec hz₂ (by simp) fun h₃ zz hs₃ => ?_
  exact wpAny_bind (wpAny_isInstance (T := "StopIteration") (b := true) ⟨oe, (hs₃.2 _ hez).trans hoe, hce⟩ isSubtype_stop (wpAny_pure (hQ _ fun b o hb hb' z => (hs₃.2 b hb).trans (hs₂ b o hb' (k1 b o hb z)))))
theorem isList_lt {h : Heap} {a : Addr} {xs : Array Value} (x : h.IsList a xs) : a < h.objs.size := x.elim fun o q => Heap.lt_size q.1
theorem isTuple_lt {h : Heap} {a : Addr} {xs : Array Value} (x : h.IsTuple a xs) : a < h.objs.size := x.elim fun o q => Heap.lt_size q.1
theorem meets_zipS (l1 t2 : Addr) (xs ys : Array Value) :
    Meets (Builtin.«zip.__new__» ⟨[.type "zip", .ref l1, .ref t2], []⟩) (fun zz R s => s.heap.IsList l1 xs ∧ s.heap.IsTuple t2 ys ∧
      (∀ h', ZipS h' s.heap.objs.size l1 t2 0 → (∀ b o, s.heap.get? b = some o → h'.get? b = some o) → R (.ok (.ret (.ref (s.heap.objs.size + 4)))) { s with heap := h' })) :=
  .of_wp fun prog w A R s h => by
    obtain ⟨hp, g, d, tk, os⟩ := s; obtain ⟨hl1, hl2, h⟩ := h
    have hsub := sub_zip
    have hL1 : Heap.IsList (Shared.heap ⟨hp, g, d, tk, os⟩) l1 xs := hl1
    have hL2 : Heap.IsTuple (Shared.heap ⟨hp.push { cls := .type "list_iterator", data := .fields #[.ref l1, .int 0 0] }, g, d, tk, os⟩) t2 ys := Heap.IsTuple.push hl2 _
    wp_walk using wpAny_pyIter_list hL1, wpAny_pyIter_tuple hL2
    refine ⟨_, rfl, ?_⟩
    have z : ∀ (h : Heap) (o : Obj), (h.push o).objs.size = h.objs.size + 1 := fun h o => Heap.size_push ..
    simp only [z, Nat.add_assoc]
    have g : ∀ (h : Heap) (o : Obj) (k : Nat), o.isFreed = false → h.objs.size = k → (h.push o).get? k = some o := fun h o k hf e => e ▸ Heap.get?_push_size h hf
    refine h _ ⟨?_, ?_, ⟨.none, .none, ?_⟩, ⟨{ cls := .type "list_iterator", data := .fields #[.ref l1, .int 0 0] }, ?_, rfl, rfl⟩, ⟨{ cls := .type "tuple_iterator", data := .fields #[.ref t2, .int 0 0] }, ?_, rfl, rfl⟩, isList_lt hL1, isTuple_lt hl2⟩ fun b o e => ?_
    · exact g _ _ _ rfl (by simp only [z])
    · exact Heap.get?_push_of_some _ (Heap.get?_push_of_some _ (g _ _ _ rfl (by simp only [z])))
    · exact Heap.get?_push_of_some _ (g _ _ _ rfl (by simp only [z]))
    · exact Heap.get?_push_of_some _ (Heap.get?_push_of_some _ (Heap.get?_push_of_some _ (Heap.get?_push_of_some _ (g _ _ _ rfl rfl))))
    · exact Heap.get?_push_of_some _ (Heap.get?_push_of_some _ (Heap.get?_push_of_some _ (g _ _ _ rfl (by simp only [z]))))
    · exact Heap.get?_push_of_some _ (Heap.get?_push_of_some _ (Heap.get?_push_of_some _ (Heap.get?_push_of_some _ (Heap.get?_push_of_some _ e))))
theorem call_zipS {Q : Value → Shared → Prop} (hl1 : s.heap.IsList l1 xs) (hl2 : s.heap.IsTuple t2 ys) (h : ∀ h', ZipS h' s.heap.objs.size l1 t2 0 → (∀ b o, s.heap.get? b = some o → h'.get? b = some o) → Q (.ref (s.heap.objs.size + 4)) { s with heap := h' }) :
    wpAny (model prog w) A (call (.type "zip") [.ref l1, .ref t2]) Q E s :=
  callType_new F.called_zip (by decide) (F.typeCall_zip_2 _ _) (F.newCall_zip_2 _ _) (fun obj => F.args_object_init_3 obj _ _) F.entry_zip_new (meets_zipS l1 t2 xs ys) ⟨hl1, hl2, fun h' Z kp => by
    show _ ∧ _
    exact ⟨⟨_, Z.z, rfl⟩, h h' Z kp⟩⟩
end
-- ZP2
theorem bb_zip : bootBuiltins "zip" = some (.type "zip") := by decide +kernel
noncomputable def pairV : List V → List V → List V
  | x :: xs, y :: ys => .tup [x, y] :: pairV xs ys
  | _, _ => []
section
variable {c : Ctx} {C : Addr} {d : Nat} {env : Env} {outs : List Env} {lk lk₁ : Loc} {σ σ₁ : Sto} {pos : Pos} {Q : V → Sto → Prop} {QX : Fl → Loc → Sto → Prop}
theorem zip_step {X : Addr → Prop} {s s₃ s₅ : Shared} {μ μ₃ μ₅ : AMap} {D : Addr} (nD : s.heap.get? D = none) (st : Step X μ (unhide μ μ₃) s s₃) (st' : Step X μ₃ μ₅ s₃ s₅) (hh : μ₃.2 = (hide μ D).2) : Step X μ (unhide μ μ₅) s s₅ :=
  have fz : ∀ {b o}, s.heap.get? b = some o → Frz μ b → Frz μ₃ b := fun e f => ⟨(st.frz e f).1, fun h => (hh ▸ h : (hide μ D).2 _).elim (get_ne e nD) f.2⟩
  { keep := fun b o f hx e => st'.keep b o (fz e f) hx (st.keep b o f hx e)
    seq := fun b k vs n f e => st'.seq b k vs n (fz e f) (st.seq b k vs n f e)
    live := fun b o e => (st.live b o e).elim (st'.live b)
    ext := fun k q e => st'.ext k q (st.ext k q e)
    new := fun k q hk h0 => (st'.which hk).elim (fun h => st.new k q h h0) fun n => ⟨st.back n.1, st.back n.2⟩
    hid := rfl
    hkeep := fun b o hb e => st'.hkeep b o (hh ▸ .inr hb : μ₃.2 b) (st.hkeep b o hb e)
    gens := st'.gens.trans st.gens
    os := st'.os.trans st.os }
theorem unhide_kp {h : Heap} {μ μ' : AMap} {D : Addr} (hh : μ'.2 = (hide μ D).2) : Kp h h μ' (unhide μ μ') := .of (fun b o e f => ⟨e, f.1, fun hb => f.2 (hh ▸ .inr hb)⟩) fun zz zz e => e
theorem unhide_hr {h : Heap} {μ μ' : AMap} {D : Addr} (hh : μ'.2 = (hide μ D).2) (r : HR c h μ' σ) : HR c h (unhide μ μ') σ := r.lift (X := μ.2) (unhide_kp hh) (fun k p hp => ⟨fun o e => e, fun o e => e⟩) r.base fun b hb => r.hid b (hh ▸ .inr hb)
theorem unhide_fr {h : Heap} {μ μ' : AMap} {D : Addr} (hh : μ'.2 = (hide μ D).2) (f : FR c env lk h μ') : FR c env lk h (unhide μ μ') := f.at (unhide_kp hh) fun a o zz fz e => ⟨e, fz.1, fun hb => fz.2 (hh ▸ .inr hb)⟩
structure LoopZ (c : Ctx) (C : Addr) (d : Nat) (env : Env) (outs : List Env) (target : Expr) (body : List Stmt) (Q : Fl → Loc → Sto → Prop) (A : Around) (s : Shared) (μ : AMap) (n l1 t2 : Nat) (vs1 vs2 : List Value) (s' : Shared) (i : Nat) (xs ys : List V) (lk : Loc) (σ : Sto) (μ' : AMap) : Prop where
  l : LoopE c C d env outs target body (fun zz => True) Q (fun zz zz zz => False) (pairV xs ys) lk σ
  len : xs.length = ys.length
  r : HR c s'.heap μ' σ
  f : FR c env lk s'.heap μ'
  Z : ZipS s'.heap n l1 t2 i
  x : VRs s'.heap μ' xs (vs1.drop i)
  y : VRs s'.heap μ' ys (vs2.drop i)
  l1 : (∃ k, s'.heap.get? l1 = some (lstO vs1.toArray k)) ∧ Frz μ' l1
  t2 : (∃ k, s'.heap.get? t2 = some (tupO vs2.toArray k)) ∧ Frz μ' t2
  st : Step (own env) μ (unhide μ μ') s s'
  hh : μ'.2 = (hide μ (n + 3)).2
  fz : ∀ b : Nat, n ≤ b → b ≤ n + 4 → b ≠ n + 3 → Frz μ' b
  D : Deep c A env outs s'.heap μ'
theorem okxE_zip {elts : List Expr} {x1 : Nat} {tp zp cp : Pos} {X T : Expr} {body : List Stmt} (hz : nsIn c.K mainGlobals "zip" = some none) (hk : env.kindOf "zip" = some .globalImplicit)
    (h : Ok c d env X lk σ (fun y σ' => Ok c d env T lk σ' (fun z σ'' => ∃ xs ys, y = .lst xs ∧ z = .tup ys ∧ xs.length = ys.length ∧ LoopE c C d env outs (.Tuple elts x1 tp) body (fun zz => True) QX (fun zz zz zz => False) (pairV xs ys) lk σ'')))
    (hs : ∀ x, foldedSetIterable (.Call (.Name "zip" zp) [X, T] [] cp) env x = pure x) (hplain : ∀ p, (backTo p (starEach [X, T] env)).any (·.1) = false) (he1 : ∀ env, starEach [X, T] env = (false, eval X env) :: starEach [T] env) (he2 : ∀ env, starEach [T] env = (false, eval T env) :: starEach [] env) :
    OkXE c C d env outs (.For (.Tuple elts x1 tp) (.Call (.Name "zip" zp) [X, T] [] cp) body [] pos) lk σ QX (fun zz zz zz => False) := by
  intro A s μ Qr Er ok r f D q qe
  refine wpAny_For (wpAny_Call_NameR (ok_builtin hz bb_zip (by lcg_src) (Q := fun y σ' => y = .raw (.type "zip") ∧ σ' = σ) ⟨rfl, rfl⟩ hk (by lcg_src) A s μ _ Er ok r f fun v s₁ y σ₁ μ₁ h₁ r₁ f₁ v₁ st₁ => ?_)) hs
  obtain ⟨rfl, rfl⟩ := h₁
  obtain rfl := v₁.raw'
  refine callWithG rfl (hplain _) (okl_cons (QL := fun ys σ'' => ∃ a b xs zs, ys = [a, b] ∧ a = .lst xs ∧ b = .tup zs ∧ xs.length = zs.length ∧ LoopE c C d env outs (.Tuple elts x1 tp) body (fun zz => True) QX (fun zz zz zz => False) (pairV xs zs) lk σ'')
    (h.mono fun y σ' hh => okl_cons (hh.mono fun z σ'' ⟨xs, ys, e1, e2, e3, e4⟩ => okl_nil ⟨y, z, xs, ys, rfl, e1, e2, e3, e4⟩) he2) he1 A s₁ μ₁ _ Er _ ok r₁ f₁ fun vs s₂ ys σ₂ μ₂ h₂ r₂ f₂ v₂ st₂ => ⟨r₂.K, ?_⟩)
  refine opq fun G hG => ?_
  obtain ⟨a, b, xs, zs, rfl, rfl, rfl, hlen, hl⟩ := h₂
  obtain ⟨va, vb, rfl, ha, hb⟩ := v₂.two
  obtain ⟨l1, vs1, k1, rfl, hl1, fl1, rx⟩ := ha.lst'
  obtain ⟨t2, vs2, k2, rfl, ht2, ft2, ry⟩ := hb.tup'
  refine hG ?_
  clear hG G
  have st02 := st₁.trans st₂
  have D₂ := (D.step st₁).step st₂
  refine call_zipS ⟨_, hl1, rfl, _, rfl⟩ ⟨_, ht2, rfl, _, rfl⟩ fun h₃ Z₃ kp₃ => wpAny_pyIter_zip Z₃.z ?_
  generalize hn : s₂.heap.objs.size = n at *
  have lt : ∀ {b : Nat} {o}, s₂.heap.get? b = some o → @LT.lt Nat _ b n := fun e => hn ▸ Heap.lt_size e
  have nD : s.heap.get? (n + 3) = none := st02.back (none_ge (by rw [hn]; lcg_off))
  have nn : ∀ b : Nat, n ≤ b → s.heap.get? b = none := fun b hb => st02.back (none_ge (by rw [hn]; exact hb))
  have ownlt : ∀ a : Nat, own env a → @LT.lt Nat _ a n := fun a ha => (own_occ f₂ ha).elim fun o e => lt e
  have frz2 : ∀ {b o}, s₂.heap.get? b = some o → Frz μ₂ b → Frz (hide μ₂ (n + 3)) b := fun {b o} e fz => ⟨fz.1, fun hb => (show b = n + 3 ∨ μ₂.2 b from hb).elim (fun q => by have := lt e; have q' : @Eq Nat b (n + 3) := q; lcg_off) fz.2⟩
  have K₃ : Kp s₂.heap h₃ μ₂ (hide μ₂ (n + 3)) := .of (fun b o e fz => ⟨kp₃ b o e, frz2 e fz⟩) fun zz zz e => e
  have occ : ∀ {k p}, μ₂.1 k = some p → @LT.lt Nat _ p.1 n ∧ @LT.lt Nat _ p.2 n := fun hp => ⟨(r₂.occ hp).1.elim fun o e => lt e, (r₂.occ hp).2.elim fun o e => lt e⟩
  have r₃ : HR c h₃ (hide μ₂ (n + 3)) σ₂ := r₂.lift (X := (hide μ₂ (n + 3)).2) K₃ (fun k p hp => ⟨fun o => kp₃ _ o, fun o => kp₃ _ o⟩) (fun b o e => kp₃ b o (r₂.base b o e)) fun b hb => by
    rcases (show b = n + 3 ∨ μ₂.2 b from hb) with q | hb
    · exact q ▸ ⟨Z₃.to.elim fun a z => z.elim fun b e => ⟨_, e⟩, none_base r₂ (none_ge (by rw [hn]; lcg_off)), fun k p hp => ⟨adr_ne (by have := (occ hp).1; lcg_off), adr_ne (by have := (occ hp).2; lcg_off)⟩⟩
    · exact have z := r₂.hid b hb; ⟨z.1.imp fun o => kp₃ b o, z.2⟩
  have f₃ : FR c env lk h₃ (hide μ₂ (n + 3)) := f₂.at K₃ fun a o zz fz e => ⟨kp₃ a o e, frz2 e fz⟩
  have hh3 : (hide μ₂ (n + 3)).2 = (hide μ (n + 3)).2 := by show (fun b => b = n + 3 ∨ μ₂.2 b) = fun b => b = n + 3 ∨ μ.2 b; rw [st02.hid]
  have e3 : unhide μ (hide μ₂ (n + 3)) = μ₂ := by show (μ₂.1, μ.2) = μ₂; rw [← st02.hid]
  have st₃ : Step (own env) μ (unhide μ (hide μ₂ (n + 3))) s { s₂ with heap := h₃ } := by rw [e3]; exact st02.trans (Step.ofKeep kp₃ rfl rfl)
  have D₃ : Deep c A env outs h₃ (hide μ₂ (n + 3)) := ⟨D₂.fr, D₂.frame, fun e he => have z := D₂.ok e he; ⟨z.kind, z.frame, z.base, z.dict.elim fun o w => w.elim fun zz w => w.elim fun zz w => frz2 w.1 z.frz, z.dict.imp fun o => Exists.imp fun zz => Exists.imp fun zz w => ⟨kp₃ _ o w.1, w.2⟩⟩, D₂.ap⟩
  have dlt : ∀ e ∈ outs, @LT.lt Nat _ e.locals n := fun e he => (D₂.ok e he).dict.elim fun o w => w.elim fun zz w => w.elim fun zz w => lt w.1
  have blt : ∀ (b : Nat) o, c.H0.get? b = some o → @LT.lt Nat _ b n := fun b o e => lt (r₂.base b o e)
  refine codeAny_forLoop_any (fun m s' => ∃ i xs ys lk' σ' μ', xs.length = m ∧ LoopZ c C d env outs (.Tuple elts x1 tp) body QX A s μ n l1 t2 vs1 vs2 s' i xs ys lk' σ' μ') ?_ xs.length
    ⟨0, xs, zs, lk, σ₂, _, rfl, hl, hlen, r₃, f₃, Z₃, rx.at K₃, ry.at K₃, ⟨⟨_, kp₃ _ _ hl1⟩, frz2 hl1 fl1⟩, ⟨⟨_, kp₃ _ _ ht2⟩, frz2 ht2 ft2⟩, st₃, hh3, fun b h1 h2 h3 => ⟨fun k p hp => ⟨adr_ne (by have := (occ hp).1; have : n ≤ (b : Nat) := h1; lcg_off), adr_ne (by have := (occ hp).2; have : n ≤ (b : Nat) := h1; lcg_off)⟩, fun hb => (show b = n + 3 ∨ μ₂.2 b from hb).elim (fun q => absurd q h3) fun hb => (r₂.hid b hb).1.elim fun o e => by have := lt e; have : n ≤ (b : Nat) := h1; lcg_off⟩, D₃⟩
  intro m s' hW
  refine opq fun G hG => ?_
  obtain ⟨i, xs, ys, lk', σ', μ', rfl, W⟩ := hW
  obtain ⟨⟨k1', hl1'⟩, fl1'⟩ := W.l1
  obtain ⟨⟨k2', ht2'⟩, ft2'⟩ := W.t2
  refine hG ?_
  clear hG G
  have hD : μ'.2 (n + 3) := W.hh ▸ (.inl rfl : (hide μ (n + 3)).2 (n + 3))
  have nf : ∀ b : Nat, n ≤ b → b ≤ n + 4 → b ≠ n + 2 → Frz μ' b → ∀ C d vs k sl, s'.heap.get? b ≠ some ⟨C, d, .seq vs k, sl⟩ := fun b h1 h2 h3 fz => by
    have : b = n ∨ b = n + 1 ∨ b = n + 3 ∨ b = n + 4 := by lcg_off
    rcases this with rfl | rfl | rfl | rfl
    · exact W.Z.i1.elim fun o z zz zz zz zz zz => no_seq_fields z.1 z.2.2
    · exact W.Z.i2.elim fun o z zz zz zz zz zz => no_seq_fields z.1 z.2.2
    · exact absurd hD fz.2
    · exact fun zz zz zz zz zz => no_seq_fields W.Z.z rfl
  have go : ∀ h₄, (∀ (b : Nat) o, (b < n ∨ n + 4 < b ∨ b = n + 2) → s'.heap.get? b = some o → h₄.get? b = some o) → (∃ o, h₄.get? (n + 3) = some o) →
      Kp s'.heap h₄ μ' μ' ∧ HR c h₄ μ' σ' ∧ FR c env lk' h₄ μ' ∧ Deep c A env outs h₄ μ' ∧ Step (own env) μ (unhide μ μ') s { s' with heap := h₄ } := fun h₄ kp hex => by
    have out : ∀ {b : Nat}, ¬ (n ≤ b ∧ b ≤ n + 4 ∧ b ≠ n + 2) → (b < n ∨ n + 4 < b ∨ b = n + 2) := fun h => by lcg_off
    have K : Kp s'.heap h₄ μ' μ' := .but (X := fun b => n ≤ b ∧ b ≤ n + 4 ∧ b ≠ n + 2) (fun b o hb => kp b o (out hb)) fun b hb => nf b hb.1 hb.2.1 hb.2.2
    have cl : ∀ {k p}, μ'.1 k = some p → ∀ q : Nat, (q = p.1 ∨ q = p.2) → ¬ (n ≤ q ∧ q ≤ n + 4 ∧ q ≠ n + 2) := fun {k p} hp q hq hb => by
      by_cases h3 : q = n + 3
      · have z := (W.r.hid _ hD).2.2 k p hp
        rcases hq with e | e
        · exact z.1 (h3.symm.trans e)
        · exact z.2 (h3.symm.trans e)
      · have z := (W.fz q hb.1 hb.2.1 h3).1 k p hp
        exact hq.elim z.1 z.2
    refine ⟨K, W.r.lift (X := μ'.2) K (fun k p hp => ⟨fun o => kp _ o (out (cl hp _ (.inl rfl))), fun o => kp _ o (out (cl hp _ (.inr rfl)))⟩) (fun b o e => kp b o (.inl (blt b o e)) (W.r.base b o e)) (fun b hb => ?_),
      W.f.at K fun a o ha fz e => ⟨kp a o (.inl (ownlt a ha)) e, fz⟩, ⟨W.D.fr, W.D.frame, fun e he => have z := W.D.ok e he; ⟨z.kind, z.frame, z.base, z.frz, z.dict.imp fun o => Exists.imp fun zz => Exists.imp fun zz w => ⟨kp _ o (.inl (dlt e he)) w.1, w.2⟩⟩, W.D.ap⟩,
      step_fp (fp := [n, n + 1, n + 3, n + 4]) W.st (fun b hb => ?_) (fun b o hb => kp b o ?_) rfl rfl⟩
    · by_cases q : @Eq Nat b (n + 3)
      · exact ⟨by rw [show b = n + 3 from q]; exact hex, (W.r.hid b hb).2⟩
      · refine ⟨(W.r.hid b hb).1.imp fun o => kp b o (out fun hx => (W.fz b hx.1 hx.2.1 q).2 hb), (W.r.hid b hb).2⟩
    · refine nn b ?_
      rcases List.mem_cons.mp hb with z | hb
      · exact Nat.le_of_eq z.symm
      rcases List.mem_cons.mp hb with z | hb
      · exact z ▸ Nat.le_add_right _ _
      rcases List.mem_cons.mp hb with z | hb
      · exact z ▸ Nat.le_add_right _ _
      · exact List.mem_singleton.mp hb ▸ Nat.le_add_right _ _
    · refine out fun hx => hb ?_
      have : @Eq Nat b n ∨ @Eq Nat b (n + 1) ∨ @Eq Nat b (n + 3) ∨ @Eq Nat b (n + 4) := by have h1 : n ≤ (b : Nat) := hx.1; have h2 : @LE.le Nat _ b (n + 4) := hx.2.1; have h3 : @Ne Nat b (n + 2) := hx.2.2; lcg_off
      rcases this with z | z | z | z <;> (rw [show b = _ from z]; simp)
  cases xs with
  | nil =>
    cases ys with
    | cons y ys => exact nomatch W.len
    | nil =>
      refine zipS_end ok.1 W.Z ⟨_, hl1', rfl, _, rfl⟩ (by rw [← Array.getElem?_toList, List.toList_toArray]; exact W.x.ends) fun h₄ kp₄ => ?_
      have G4 := go h₄ (fun b o hb => kp₄ b o (adr_ne (by lcg_off)) (adr_ne (by lcg_off))) (W.Z.to.elim fun a z => z.elim fun b e => ⟨_, kp₄ _ _ (adr_ne (by lcg_off)) (adr_ne (by lcg_off)) e⟩)
      exact W.l.elim fun lk'' h => wpAny_execs_nil (q .next { s' with heap := h₄ } .next lk'' σ' (unhide μ μ') h.2 (unhide_hr W.hh G4.2.1) (unhide_fr W.hh (G4.2.2.1.weak h.1)) trivial G4.2.2.2.2)
  | cons x xs =>
    cases ys with
    | nil => exact nomatch W.len
    | cons y ys =>
      refine opq fun G hG => ?_
      obtain ⟨v1, e1, e2, e3⟩ := W.x.heads
      obtain ⟨v2, g1, g2, g3⟩ := W.y.heads
      refine hG ?_
      clear hG G
      refine zipS_item (fun v s₁ h => h) W.Z ⟨_, hl1', rfl, _, rfl⟩ ⟨_, ht2', rfl, _, rfl⟩ (by rw [← Array.getElem?_toList, List.toList_toArray]; exact e1) (by rw [← Array.getElem?_toList, List.toList_toArray]; exact g1) fun h₄ Z₄ hT₄ kp₄ => ?_
      refine opq fun G hG => ?_
      obtain ⟨K, r₄, f₄, D₄, st₄⟩ := go h₄ (fun b o hb => kp₄ b o hb) (Z₄.to.elim fun a z => z.elim fun b e => ⟨_, e⟩)
      refine hG ?_
      clear hG G
      have hv : VR h₄ μ' (.tup [x, y]) (.ref s'.heap.objs.size) := .tup hT₄ (frz_size W.r) (.cons (e2.at K) (.cons (g2.at K) .nil))
      have hl := W.l
      refine hl A { s' with heap := h₄ } μ' _ _ _ ok r₄ f₄ hv fun s₅ lk₅ σ₅ μ₅ h₅ r₅ f₅ st₅ => ?_
      refine h₅ A s₅ μ₅ _ _ ok r₅ f₅ (D₄.step st₅) (fun fl s₆ w lk₆ σ₆ μ₆ h₆ r₆ f₆ v₆ st₆ => ?_) (fun zz zz zz zz zz zz zz hq => hq.elim)
      have st46 := st₅.trans st₆
      have hh6 : μ₆.2 = (hide μ (n + 3)).2 := st46.hid.trans W.hh
      have st06 := zip_step nD st₄ st46 W.hh
      have fin : (True ∧ ∃ lk', Sub lk' lk₆ ∧ LoopE c C d env outs (.Tuple elts x1 tp) body (fun zz => True) QX (fun zz zz zz => False) (pairV xs ys) lk' σ₆) → ∃ m, m < (x :: xs).length ∧ ∃ i xs ys lk' σ' μ', xs.length = m ∧ LoopZ c C d env outs (.Tuple elts x1 tp) body QX A s μ n l1 t2 vs1 vs2 s₆ i xs ys lk' σ' μ' := fun h => by
        obtain ⟨_, lk', hs, h'⟩ := h
        have kp : ∀ (b : Nat) o, n ≤ b → b ≤ n + 4 → h₄.get? b = some o → s₆.heap.get? b = some o := fun b o h1 h2 e => by
          by_cases q : @Eq Nat b (n + 3)
          · rw [show b = n + 3 from q] at e ⊢
            exact st46.hkeep _ o hD e
          · exact st46.keep b o (W.fz b h1 h2 q) (fun ho => Nat.not_lt.mpr h1 (ownlt b ho)) e
        refine ⟨xs.length, Nat.lt_succ_self _, i + 1, xs, ys, lk', σ₆, μ₆, rfl, ⟨h', Nat.succ.inj W.len, r₆, f₆.weak hs, Z₄.at kp, (e3.at K).step st46, (g3.at K).step st46, ⟨⟨k1', st46.seq _ _ _ _ (W.l1.2) (K.1 _ _ _ _ W.l1.2 hl1').1⟩, st46.frz (K.1 _ _ _ _ W.l1.2 hl1').1 W.l1.2⟩,
          ⟨⟨k2', st46.seq _ _ _ _ (W.t2.2) (K.1 _ _ _ _ W.t2.2 ht2').1⟩, st46.frz (K.1 _ _ _ _ W.t2.2 ht2').1 W.t2.2⟩, st06, hh6, fun b h1 h2 h3 => ?_, D₄.step st46⟩⟩
        have : b = n ∨ b = n + 1 ∨ b = n + 2 ∨ b = n + 4 := by lcg_off
        rcases this with rfl | rfl | rfl | rfl
        · exact Z₄.i1.elim fun o z => st46.frz z.1 (W.fz _ h1 h2 h3)
        · exact Z₄.i2.elim fun o z => st46.frz z.1 (W.fz _ h1 h2 h3)
        · exact st46.frz Z₄.ti (W.fz _ h1 h2 h3)
        · exact st46.frz Z₄.z (W.fz _ h1 h2 h3)
      have vu : FlR s₆.heap (unhide μ μ₆) w fl := by
        cases w <;> cases fl <;> first | exact v₆ | exact VR.at (unhide_kp hh6) v₆
      cases w with
      | next => cases fl <;> first | exact v₆.elim | exact fin h₆
      | cont => cases fl <;> first | exact v₆.elim | exact fin h₆
      | brk => cases fl <;> first | exact v₆.elim | exact q .next s₆ .next lk₆ σ₆ _ h₆ (unhide_hr hh6 r₆) (unhide_fr hh6 f₆) trivial st06
      | ret y => cases fl <;> first | exact v₆.elim | exact q _ s₆ (.ret y) lk₆ σ₆ _ h₆ (unhide_hr hh6 r₆) (unhide_fr hh6 f₆) vu st06
end
-- N1
noncomputable def At (P : Prg) (n : Nat) (l : List (Int × Row)) : Prop := ∀ j x, l[j]? = some x → P.rows[n + j]? = some x
section
variable {w : Wf} {P : Prg} {n a b k : Nat} {m m' m₁ m₂ : Ms}
theorem At.left {l r : List (Int × Row)} (h : At P n (l ++ r)) : At P n l := fun j x hj => h j x (by
  have : j < l.length := (List.getElem?_eq_some_iff.mp hj).1
  rw [List.getElem?_append_left this]; exact hj)
theorem At.right {l r : List (Int × Row)} (h : At P n (l ++ r)) : At P (n + l.length) r := fun j x hj => by
  have := h (l.length + j) x (by rw [List.getElem?_append_right (by lcg_off)]; simpa using hj)
  rw [Nat.add_assoc]; exact this
theorem At.head {x : Int × Row} {r : List (Int × Row)} (h : At P n (x :: r)) : P.rows[n]? = some x := h 0 x rfl
theorem At.tail {x : Int × Row} {r : List (Int × Row)} (h : At P n (x :: r)) : At P (n + 1) r := fun j y hj => by
  have := h (j + 1) y (by simpa using hj)
  rw [Nat.add_assoc, Nat.add_comm 1 j]; exact this
structure Runs (w : Wf) (P : Prg) (n : Nat) (m m' : Ms) : Prop where
  go : ∀ k, goN w P (n + k) m = goN w P k m'
  mono : m.notes <+: m'.notes
  mid : ∀ j, j < n → ∃ mj, goN w P j m = .ok mj ∧ mj.pc < P.rows.length ∧ m.notes <+: mj.notes ∧ mj.notes <+: m'.notes
theorem Runs.refl : Runs w P 0 m m := ⟨fun k => by rw [Nat.zero_add], List.prefix_refl _, fun j h => absurd h (Nat.not_lt_zero j)⟩
theorem Runs.one {l : Int} {r : Row} (h : P.rows[m.pc]? = some (l, r)) (hs : step w P m r = .ok m') (hm : m.notes <+: m'.notes) : Runs w P 1 m m' := by
  refine ⟨fun k => ?_, hm, fun j hj => ⟨m, ?_, (List.getElem?_eq_some_iff.mp h).1, List.prefix_refl _, hm⟩⟩
  · rw [Nat.add_comm]; simp only [goN_zero, goN_succ, h, hs]
  · rw [Nat.lt_one_iff.mp hj]; rfl
theorem Runs.trans (h : Runs w P a m m₁) (h' : Runs w P b m₁ m₂) : Runs w P (a + b) m m₂ := by
  refine ⟨fun k => by rw [Nat.add_assoc, h.go, h'.go], h.mono.trans h'.mono, fun j hj => ?_⟩
  by_cases hja : j < a
  · obtain ⟨mj, h1, h2, h3, h4⟩ := h.mid j hja
    exact ⟨mj, h1, h2, h3, h4.trans h'.mono⟩
  · obtain ⟨mj, h1, h2, h3, h4⟩ := h'.mid (j - a) (by lcg_off)
    refine ⟨mj, ?_, h2, h.mono.trans h3, h4⟩
    rw [← h1, ← h.go (j - a)]
    congr 1
    lcg_off
theorem Runs.ok (h : Runs w P n m m') : goN w P n m = .ok m' := by
  have := h.go 0
  rw [Nat.add_zero] at this
  rw [this]; rfl
end
inductive Out where
  | fall
  | goto (l : Int)
  | end_
  deriving DecidableEq
noncomputable abbrev Vals := Str → Option Int
noncomputable abbrev Nts := List (Str × Int)
noncomputable def setV (v : Vals) (x : Str) (n : Int) : Vals := fun y => if y = x then some n else v y
mutual
noncomputable def evS (w : Wf) : St → Vals → Nts → Option (Nat × Vals × Nts × Out)
  | .let_ x t, v, n => some (1, setV v x (w t v), n, .fall)
  | .rem s, v, n => some (1, v, n ++ [(s, (v "X").getD 0)], .fall)
  | .end_, v, n => some (1, v, n, .end_)
  | .goto l, v, n => some (1, v, n, .goto l)
  | .ongo g t ls, v, n =>
    if g = "GOTO" ∧ 0 ≤ w t v ∧ w t v ≤ 255 then
      if 1 ≤ w t v ∧ w t v ≤ ls.length then (ls[(w t v - 1).toNat]?).map fun l => (1, v, n, .goto l)
      else some (1, v, n, .fall)
    else none
  | .if_ t a b, v, n =>
    if w t v ≠ 0 then (evSs w a v n).map fun r => (1 + r.1 + (if r.2.2.2 = .fall ∧ b.isEmpty = false then 1 else 0), r.2.1, r.2.2.1, r.2.2.2)
    else (evSs w b v n).map fun r => (1 + r.1, r.2.1, r.2.2.1, r.2.2.2)
  | _, _, _ => none
noncomputable def evSs (w : Wf) : List St → Vals → Nts → Option (Nat × Vals × Nts × Out)
  | [], v, n => some (0, v, n, .fall)
  | s :: r, v, n => match evS w s v n with
    | some (k, v', n', .fall) => (evSs w r v' n').map fun q => (k + q.1, q.2.1, q.2.2.1, q.2.2.2)
    | some (k, v', n', .goto l) => some (k, v', n', .goto l)
    | some (k, v', n', .end_) => some (k, v', n', .end_)
    | none => none
end
theorem evS_let {w : Wf} {x : Str} {t : Tree} {v : Vals} {n : Nts} : evS w (.let_ x t) v n = some (1, setV v x (w t v), n, .fall) := rfl
theorem evS_rem {w : Wf} {s : Str} {v : Vals} {n : Nts} : evS w (.rem s) v n = some (1, v, n ++ [(s, (v "X").getD 0)], .fall) := rfl
theorem evS_goto {w : Wf} {l : Int} {v : Vals} {n : Nts} : evS w (.goto l) v n = some (1, v, n, .goto l) := rfl
theorem evS_ongo {w : Wf} {g : Str} {t : Tree} {ls : List Int} {v : Vals} {n : Nts} : evS w (.ongo g t ls) v n = if g = "GOTO" ∧ 0 ≤ w t v ∧ w t v ≤ 255 then
      if 1 ≤ w t v ∧ w t v ≤ ls.length then (ls[(w t v - 1).toNat]?).map fun l => (1, v, n, .goto l) else some (1, v, n, .fall) else none := rfl
theorem evS_if {w : Wf} {t : Tree} {a b : List St} {v : Vals} {n : Nts} : evS w (.if_ t a b) v n = if w t v ≠ 0 then (evSs w a v n).map fun r => (1 + r.1 + (if r.2.2.2 = .fall ∧ b.isEmpty = false then 1 else 0), r.2.1, r.2.2.1, r.2.2.2)
    else (evSs w b v n).map fun r => (1 + r.1, r.2.1, r.2.2.1, r.2.2.2) := rfl
theorem evSs_nil {w : Wf} {v : Vals} {n : Nts} : evSs w [] v n = some (0, v, n, .fall) := rfl
theorem evSs_cons {w : Wf} {s : St} {r : List St} {v : Vals} {n : Nts} : evSs w (s :: r) v n = match evS w s v n with
    | some (k, v', n', .fall) => (evSs w r v' n').map fun q => (k + q.1, q.2.1, q.2.2.1, q.2.2.2)
    | some (k, v', n', .goto l) => some (k, v', n', .goto l)
    | some (k, v', n', .end_) => some (k, v', n', .end_)
    | none => none := rfl
noncomputable def dest (P : Prg) (e : Nat) : Out → Option Nat
  | .fall => some e
  | .goto l => P.places l
  | .end_ => some P.rows.length
theorem inj4 {α β γ δ : Type} {a k : α} {b v : β} {c n : γ} {d o : δ} (h : some (a, b, c, d) = some (k, v, n, o)) : a = k ∧ b = v ∧ c = n ∧ d = o := by cases h; exact ⟨rfl, rfl, rfl, rfl⟩
mutual
theorem evS_ok {w : Wf} {P : Prg} {line : Int} (s : St) {m : Ms} {k : Nat} {v' : Vals} {nt' : Nts} {o : Out} {pc' : Nat} (hat : At P m.pc (flatS line m.pc s)) (he : evS w s m.vals m.notes = some (k, v', nt', o))
    (hd : dest P (m.pc + (flatS line m.pc s).length) o = some pc') : Runs w P k m ⟨pc', v', m.pile, nt'⟩ := by
  cases s with
  | let_ x t =>
    obtain ⟨rfl, rfl, rfl, rfl⟩ := inj4 he
    simp only [flatS_if, flatS_let, flatS_rem, flatS_end, flatS_goto, flatS_ongo, dest, List.length_singleton, Option.some.injEq] at hat hd
    subst hd
    exact Runs.one hat.head rfl (List.prefix_refl _)
  | rem x =>
    obtain ⟨rfl, rfl, rfl, rfl⟩ := inj4 he
    simp only [flatS_if, flatS_let, flatS_rem, flatS_end, flatS_goto, flatS_ongo, dest, List.length_singleton, Option.some.injEq] at hat hd
    subst hd
    exact Runs.one hat.head rfl (List.prefix_append _ _)
  | end_ =>
    obtain ⟨rfl, rfl, rfl, rfl⟩ := inj4 he
    simp only [flatS_if, flatS_let, flatS_rem, flatS_end, flatS_goto, flatS_ongo, dest, List.length_singleton, Option.some.injEq] at hat hd
    subst hd
    exact Runs.one hat.head rfl (List.prefix_refl _)
  | goto l =>
    obtain ⟨rfl, rfl, rfl, rfl⟩ := inj4 he
    simp only [flatS_if, flatS_let, flatS_rem, flatS_end, flatS_goto, flatS_ongo, dest] at hat hd
    exact Runs.one hat.head (by simp only [step, hd]) (List.prefix_refl _)
  | gosub l => exact nomatch (show (none : Option (Nat × Vals × Nts × Out)) = some _ from he)
  | ret => exact nomatch (show (none : Option (Nat × Vals × Nts × Out)) = some _ from he)
  | ongo g t ls =>
    change ite _ _ _ = _ at he
    by_cases h1 : g = "GOTO" ∧ 0 ≤ w t m.vals ∧ w t m.vals ≤ 255
    · rw [if_pos h1] at he
      obtain ⟨hg, h2⟩ := h1
      have hng : ¬ g = "GOSUB" := by rw [hg]; decide +kernel
      by_cases h3 : 1 ≤ w t m.vals ∧ w t m.vals ≤ ls.length
      · rw [if_pos h3] at he
        cases hl : ls[(w t m.vals - 1).toNat]? with
        | none => rw [hl] at he; cases he
        | some l =>
          rw [hl] at he
          obtain ⟨rfl, rfl, rfl, rfl⟩ := inj4 he
          simp only [flatS_if, flatS_let, flatS_rem, flatS_end, flatS_goto, flatS_ongo, dest] at hat hd
          exact Runs.one hat.head (by simp only [step, if_pos h2, if_pos h3, hl, Option.bind_some, hd, if_neg hng]) (List.prefix_refl _)
      · rw [if_neg h3] at he
        obtain ⟨rfl, rfl, rfl, rfl⟩ := inj4 he
        simp only [flatS_if, flatS_let, flatS_rem, flatS_end, flatS_goto, flatS_ongo, dest, List.length_singleton, Option.some.injEq] at hat hd
        subst hd
        exact Runs.one hat.head (by simp only [step, if_pos h2, if_neg h3]) (List.prefix_refl _)
    · rw [if_neg h1] at he; cases he
  | if_ t a b =>
    change ite _ _ _ = _ at he
    simp only [flatS_if, flatS_let, flatS_rem, flatS_end, flatS_goto, flatS_ongo] at hat hd
    by_cases ht : w t m.vals ≠ 0
    · rw [if_pos ht] at he
      cases hr : evSs w a m.vals m.notes with
      | none => rw [hr] at he; cases he
      | some r =>
        obtain ⟨k1, v1, n1, o1⟩ := r
        rw [hr] at he
        obtain ⟨rfl, rfl, rfl, rfl⟩ := inj4 he
        by_cases hb : b.isEmpty = true
        · rw [if_pos hb] at hat hd
          rw [if_neg (by simp [hb])]
          have s1 : Runs w P 1 m ⟨m.pc + 1, m.vals, m.pile, m.notes⟩ := Runs.one hat.head (by simp only [step, if_pos ht]) (List.prefix_refl _)
          refine s1.trans (evSs_ok a hat.tail hr ?_)
          rw [← hd]
          simp only [List.length_cons]
          congr 1
          lcg_off
        · rw [if_neg hb] at hat hd
          have s1 : Runs w P 1 m ⟨m.pc + 1, m.vals, m.pile, m.notes⟩ := Runs.one (hat.left (l := _ :: _)).head (by simp only [step, if_pos ht]) (List.prefix_refl _)
          have ha := (hat.left (l := _ :: _)).tail
          cases o1 with
          | fall =>
            rw [if_pos ⟨rfl, by simpa using hb⟩]
            refine (s1.trans (evSs_ok a (pc' := _) ha hr rfl)).trans ?_
            have hj := hat.right (l := _ :: _)
            have hj2 := hj.head
            simp only [List.length_cons] at hj2
            simp only [dest, Option.some.injEq] at hd
            refine Runs.one (m := ⟨_, _, _, _⟩) (l := line) (r := .jump (m.pc + 1 + (flatSs line (m.pc + 1) a).length + 1 + (flatSs line (m.pc + 1 + (flatSs line (m.pc + 1) a).length + 1) b).length)) ?_ ?_ (List.prefix_refl _)
            · rw [← hj2]
              congr 1
              simp only []
              lcg_off
            · subst hd
              simp only [step, List.length_cons, List.length_append]
              congr 2
              lcg_off
          | goto l =>
            rw [if_neg (by simp)]
            exact s1.trans (evSs_ok a ha hr hd)
          | end_ =>
            rw [if_neg (by simp)]
            exact s1.trans (evSs_ok a ha hr hd)
    · rw [if_neg ht] at he
      cases hr : evSs w b m.vals m.notes with
      | none => rw [hr] at he; cases he
      | some r =>
        obtain ⟨k1, v1, n1, o1⟩ := r
        rw [hr] at he
        obtain ⟨rfl, rfl, rfl, rfl⟩ := inj4 he
        by_cases hb : b.isEmpty = true
        · rw [if_pos hb] at hat hd
          have hb' : b = [] := List.isEmpty_iff.mp hb
          subst hb'
          obtain ⟨rfl, rfl, rfl, rfl⟩ := inj4 hr
          simp only [dest, List.length_cons, Option.some.injEq] at hd
          subst hd
          refine Runs.one hat.head ?_ (List.prefix_refl _)
          simp only [step, if_neg ht]
          congr 2
          lcg_off
        · rw [if_neg hb] at hat hd
          have s1 : Runs w P 1 m ⟨m.pc + 1 + (flatSs line (m.pc + 1) a).length + 1, m.vals, m.pile, m.notes⟩ := Runs.one (hat.left (l := _ :: _)).head (by simp only [step, if_neg ht]) (List.prefix_refl _)
          have hj := (hat.right (l := _ :: _)).tail
          have e : m.pc + ((line, Row.ifnot t (m.pc + 1 + (flatSs line (m.pc + 1) a).length + 1)) :: flatSs line (m.pc + 1) a).length + 1 = m.pc + 1 + (flatSs line (m.pc + 1) a).length + 1 := by simp only [List.length_cons]; lcg_off
          rw [e] at hj
          refine s1.trans (evSs_ok b hj hr ?_)
          rw [← hd]
          congr 1
          simp only [List.length_cons, List.length_append]
          lcg_off
theorem evSs_ok {w : Wf} {P : Prg} {line : Int} (l : List St) {m : Ms} {k : Nat} {v' : Vals} {nt' : Nts} {o : Out} {pc' : Nat} (hat : At P m.pc (flatSs line m.pc l)) (he : evSs w l m.vals m.notes = some (k, v', nt', o))
    (hd : dest P (m.pc + (flatSs line m.pc l).length) o = some pc') : Runs w P k m ⟨pc', v', m.pile, nt'⟩ := by
  cases l with
  | nil =>
    obtain ⟨rfl, rfl, rfl, rfl⟩ := inj4 he
    simp only [flatSs_nil, flatSs_cons, dest, List.length_nil, Nat.add_zero, Option.some.injEq] at hd
    subst hd
    exact Runs.refl
  | cons s r =>
    rw [evSs_cons] at he
    simp only [flatSs_nil, flatSs_cons] at hat hd
    cases hs : evS w s m.vals m.notes with
    | none => rw [hs] at he; cases he
    | some q =>
      obtain ⟨k1, v1, n1, o1⟩ := q
      rw [hs] at he
      cases o1 with
      | fall =>
        simp only [] at he
        have s1 := evS_ok s hat.left hs rfl
        cases hr : evSs w r v1 n1 with
        | none => rw [hr] at he; cases he
        | some q2 =>
          obtain ⟨k2, v2, n2, o2⟩ := q2
          rw [hr] at he
          obtain ⟨rfl, rfl, rfl, rfl⟩ := inj4 he
          refine s1.trans (evSs_ok r hat.right hr ?_)
          rw [← hd, List.length_append, Nat.add_assoc]
      | goto l =>
        obtain ⟨rfl, rfl, rfl, rfl⟩ := inj4 he
        exact evS_ok s hat.left hs hd
      | end_ =>
        obtain ⟨rfl, rfl, rfl, rfl⟩ := inj4 he
        exact evS_ok s hat.left hs hd
end
theorem flatP_append : ∀ (a b : List (Int × List St)) (n : Nat), flatP n (a ++ b) = flatP n a ++ flatP (n + (flatP n a).length) b
  | [], b, n => by simp [flatP_nil, flatP_cons]
  | p :: a, b, n => by simp [flatP_nil, flatP_cons, flatP_append a b, List.append_assoc, Nat.add_assoc]
theorem placesP_append : ∀ (a b : List (Int × List St)) (n : Nat) (g : Int → Option Nat), placesP n (a ++ b) g = placesP (n + (flatP n a).length) b (placesP n a g)
  | [], b, n, g => by simp [flatP_nil, flatP_cons, placesP_nil, placesP_cons]
  | p :: a, b, n, g => by simp [flatP_nil, flatP_cons, placesP_nil, placesP_cons, placesP_append a b, Nat.add_assoc]
theorem placesP_not {l : Int} : ∀ (q : List (Int × List St)) (n : Nat) (g : Int → Option Nat), l ∉ q.map (·.1) → placesP n q g l = g l
  | [], n, g, _ => rfl
  | p :: q, n, g, h => by
    simp only [List.map_cons, List.mem_cons, not_or] at h
    simp only [placesP_nil, placesP_cons]
    rw [placesP_not q _ _ h.2, if_neg h.1]
theorem mk_at {pre post : List (Int × List St)} {p : Int × List St} : At (mkPrg (pre ++ p :: post)) (flatP 0 pre).length (flatSs p.1 (flatP 0 pre).length p.2) := by
  intro j x hj
  show (flatP 0 (pre ++ p :: post))[_]? = some x
  have hl : j < (flatSs p.1 (flatP 0 pre).length p.2).length := (List.getElem?_eq_some_iff.mp hj).1
  rw [flatP_append, List.getElem?_append_right (by lcg_off), Nat.zero_add, flatP_cons, List.getElem?_append_left (by lcg_off)]
  rw [← hj]
  congr 1
  lcg_off
theorem mk_place {pre post : List (Int × List St)} {p : Int × List St} (h : p.1 ∉ post.map (·.1)) : (mkPrg (pre ++ p :: post)).places p.1 = some (flatP 0 pre).length := by
  show placesP 0 (pre ++ p :: post) _ p.1 = _
  rw [placesP_append, placesP_cons, placesP_not _ _ _ h, if_pos rfl, Nat.zero_add]
-- N5
mutual
noncomputable def quS (b : Bool) : St → Bool
  | .let_ x _ => names9.contains x
  | .ongo _ _ ls => ls.length ≤ 1000
  | .if_ _ x y => quSs b x && quSs b y
  | .rem s => PyData.strOk s
  | _ => true
noncomputable def quSs (b : Bool) : List St → Bool
  | [] => true
  | s :: r => quS b s && quSs b r
end
theorem quS_let {b : Bool} {x : Str} {t : Tree} : quS b (.let_ x t) = names9.contains x := rfl
theorem quS_ongo {b : Bool} {g : Str} {t : Tree} {ls : List Int} : quS b (.ongo g t ls) = decide (ls.length ≤ 1000) := rfl
theorem quS_if {b : Bool} {t : Tree} {x y : List St} : quS b (.if_ t x y) = (quSs b x && quSs b y) := rfl
theorem quS_rem {b : Bool} {s : Str} : quS b (.rem s) = PyData.strOk s := rfl
theorem quS_goto {b : Bool} {l : Int} : quS b (.goto l) = true := rfl
theorem quSs_nil {b : Bool} : quSs b [] = true := rfl
theorem quSs_cons {b : Bool} {s : St} {r : List St} : quSs b (s :: r) = (quS b s && quSs b r) := rfl
noncomputable def remOk : Row → Bool
  | .st (.rem s) => PyData.strOk s
  | _ => true
noncomputable def QRow (b : Bool) (r : Row) : Prop := (b = false → True = True ∧ True = True) ∧ WfRow r ∧ remOk r = true
theorem QRow.jump {b : Bool} {n : Nat} : QRow b (.jump n) := ⟨fun zz => ⟨rfl, rfl⟩, trivial, rfl⟩
theorem QRow.ifnot {b : Bool} {t : Tree} {n : Nat} : QRow b (.ifnot t n) := ⟨fun zz => ⟨rfl, rfl⟩, trivial, rfl⟩
mutual
theorem quS_ok {b : Bool} {line : Int} (s : St) (n : Nat) (h : quS b s = true) : ∀ x ∈ flatS line n s, QRow b x.2 := by
  intro x hx
  cases s with
  | if_ t p q =>
    replace h := Bool.and_eq_true_iff.mp (show (quSs b p && quSs b q) = true from h)
    simp only [flatS_if, flatS_let, flatS_rem, flatS_end, flatS_goto, flatS_ongo] at hx
    split at hx
    · rcases List.mem_cons.mp hx with e | hx
      · subst e; exact .ifnot
      · exact quSs_ok p _ h.1 x hx
    · rcases List.mem_append.mp hx with hx | hx
      · rcases List.mem_cons.mp hx with e | hx
        · subst e; exact .ifnot
        · exact quSs_ok p _ h.1 x hx
      · rcases List.mem_cons.mp hx with e | hx
        · subst e; exact .jump
        · exact quSs_ok q _ h.2 x hx
  | let_ y t =>
    rw [flatS_one (by rintro ⟨_, _, _, e⟩; cases e), List.mem_singleton] at hx
    subst hx
    exact ⟨fun zz => ⟨rfl, rfl⟩, List.contains_iff_mem.mp h, rfl⟩
  | rem s =>
    rw [flatS_one (by rintro ⟨_, _, _, e⟩; cases e), List.mem_singleton] at hx
    subst hx
    exact ⟨fun zz => ⟨rfl, rfl⟩, trivial, h⟩
  | ongo g t ls =>
    rw [flatS_one (by rintro ⟨_, _, _, e⟩; cases e), List.mem_singleton] at hx
    subst hx
    exact ⟨fun zz => ⟨rfl, rfl⟩, of_decide_eq_true (p := ls.length ≤ 1000) h, rfl⟩
  | end_ =>
    rw [flatS_one (by rintro ⟨_, _, _, e⟩; cases e), List.mem_singleton] at hx
    subst hx
    exact ⟨fun zz => ⟨rfl, rfl⟩, trivial, rfl⟩
  | goto l =>
    rw [flatS_one (by rintro ⟨_, _, _, e⟩; cases e), List.mem_singleton] at hx
    subst hx
    exact ⟨fun zz => ⟨rfl, rfl⟩, trivial, rfl⟩
  | gosub l =>
    rw [flatS_one (by rintro ⟨_, _, _, e⟩; cases e), List.mem_singleton] at hx
    subst hx
    exact ⟨fun zz => ⟨rfl, rfl⟩, trivial, rfl⟩
  | ret =>
    rw [flatS_one (by rintro ⟨_, _, _, e⟩; cases e), List.mem_singleton] at hx
    subst hx
    exact ⟨fun zz => ⟨rfl, rfl⟩, trivial, rfl⟩
theorem quSs_ok {b : Bool} {line : Int} (l : List St) (n : Nat) (h : quSs b l = true) : ∀ x ∈ flatSs line n l, QRow b x.2 := by
  intro x hx
  cases l with
  | nil => simp [flatSs_nil, flatSs_cons] at hx
  | cons s r =>
    replace h := Bool.and_eq_true_iff.mp (show (quS b s && quSs b r) = true from h)
    simp only [flatSs_nil, flatSs_cons, List.mem_append] at hx
    rcases hx with hx | hx
    · exact quS_ok s _ h.1 x hx
    · exact quSs_ok r _ h.2 x hx
end
theorem quP_ok {b : Bool} : ∀ (ps : List (Int × List St)) (n : Nat), (∀ p ∈ ps, quSs b p.2 = true) → ∀ x ∈ flatP n ps, QRow b x.2
  | [], n, h, x, hx => by simp [flatP_nil, flatP_cons] at hx
  | p :: r, n, h, x, hx => by
    simp only [flatP_nil, flatP_cons, List.mem_append] at hx
    rcases hx with hx | hx
    · exact quSs_ok p.2 _ (h p (.head _)) x hx
    · exact quP_ok r _ (fun q hq => h q (.tail _ hq)) x hx
theorem quSs_append {b : Bool} : ∀ (x y : List St), quSs b (x ++ y) = (quSs b x && quSs b y)
  | [], y => by simp [quSs_nil]
  | s :: x, y => by simp [quSs_cons, quSs_append x y, Bool.and_assoc]
theorem depSs_append : ∀ (x y : List St), depSs (x ++ y) = max (depSs x) (depSs y)
  | [], y => by simp [depSs]
  | s :: x, y => by simp [depSs, depSs_append x y, Nat.max_assoc]
mutual
noncomputable def szS : St → Nat
  | .if_ _ a b => 2 + szSs a + szSs b
  | _ => 1
noncomputable def szSs : List St → Nat
  | [] => 0
  | s :: r => szS s + szSs r
end
mutual
theorem szS_ok {line : Int} (s : St) (n : Nat) : (flatS line n s).length ≤ szS s := by
  cases s with
  | if_ t a b =>
    simp only [flatS_if, flatS_let, flatS_rem, flatS_end, flatS_goto, flatS_ongo, szS]
    split
    · have := szSs_ok (line := line) a (n + 1)
      simp only [List.length_cons]; lcg_off
    · have := szSs_ok (line := line) a (n + 1)
      have := szSs_ok (line := line) b (n + 1 + (flatSs line (n + 1) a).length + 1)
      simp only [List.length_cons, List.length_append]; lcg_off
  | _ =>
    rw [flatS_one (by rintro ⟨_, _, _, e⟩; cases e)]
    simp [szS]
theorem szSs_ok {line : Int} (l : List St) (n : Nat) : (flatSs line n l).length ≤ szSs l := by
  cases l with
  | nil => simp [flatSs_nil, flatSs_cons, szSs]
  | cons s r =>
    have h1 := szS_ok (line := line) s n
    have h2 := szSs_ok (line := line) r (n + (flatS line n s).length)
    simp only [flatSs_nil, flatSs_cons, szSs, List.length_append]
    lcg_off
end
theorem szSs_append : ∀ (x y : List St), szSs (x ++ y) = szSs x + szSs y
  | [], y => by simp [szSs]
  | s :: x, y => by simp [szSs, szSs_append x y, Nat.add_assoc]
theorem szP_ok {k : Nat} : ∀ (ps : List (Int × List St)) (n : Nat), (∀ p ∈ ps, szSs p.2 ≤ k) → (flatP n ps).length ≤ k * ps.length
  | [], n, h => by simp [flatP_nil, flatP_cons]
  | p :: r, n, h => by
    have h1 := szSs_ok (line := p.1) p.2 n
    have h2 := h p (.head _)
    have h3 := szP_ok r (n + (flatSs p.1 n p.2).length) fun q hq => h q (.tail _ hq)
    simp only [flatP_nil, flatP_cons, List.length_append, List.length_cons]
    rw [Nat.mul_add, Nat.mul_one]
    lcg_off
theorem step_pile {w : Wf} {P : Prg} {m m' : Ms} {r : Row} (h : step w P m r = .ok m') (hp : m.pile.length ≤ 20) : m'.pile.length ≤ 20 := by
  cases r with
  | ifnot t n => simp only [step, Except.ok.injEq] at h; subst h; exact hp
  | jump n => simp only [step, Except.ok.injEq] at h; subst h; exact hp
  | st s => cases s with
    | let_ x t => simp only [step, Except.ok.injEq] at h; subst h; exact hp
    | rem s => simp only [step, Except.ok.injEq] at h; subst h; exact hp
    | end_ => simp only [step, Except.ok.injEq] at h; subst h; exact hp
    | goto l =>
      simp only [step] at h
      split at h <;> cases h
      exact hp
    | gosub l =>
      simp only [step] at h
      split at h
      · split at h <;> cases h
        simp only [List.length_append, List.length_singleton]; lcg_off
      · cases h
    | ongo g t ls =>
      simp only [step] at h
      split at h
      · split at h
        · split at h
          · split at h
            · split at h <;> cases h
              simp only [List.length_append, List.length_singleton]; lcg_off
            · cases h; exact hp
          · cases h
        · cases h; exact hp
      · cases h
    | ret =>
      simp only [step] at h
      split at h <;> cases h
      simp only [List.length_dropLast]; lcg_off
    | if_ t a b => simp [step] at h
theorem step_note {w : Wf} {P : Prg} {m m' : Ms} {r : Row} (h : step w P m r = .ok m') : m'.notes = m.notes ∨ ∃ s v, r = .st (.rem s) ∧ m'.notes = m.notes ++ [(s, v)] := by
  cases r with
  | ifnot t n => simp only [step, Except.ok.injEq] at h; subst h; exact .inl rfl
  | jump n => simp only [step, Except.ok.injEq] at h; subst h; exact .inl rfl
  | st s => cases s with
    | let_ x t => simp only [step, Except.ok.injEq] at h; subst h; exact .inl rfl
    | rem s => simp only [step, Except.ok.injEq] at h; subst h; exact .inr ⟨_, _, rfl, rfl⟩
    | end_ => simp only [step, Except.ok.injEq] at h; subst h; exact .inl rfl
    | goto l =>
      simp only [step] at h
      split at h <;> cases h
      exact .inl rfl
    | gosub l =>
      simp only [step] at h
      split at h
      · split at h <;> cases h
        exact .inl rfl
      · cases h
    | ongo g t ls =>
      simp only [step] at h
      split at h
      · split at h
        · split at h
          · split at h
            · split at h <;> cases h
              exact .inl rfl
            · cases h; exact .inl rfl
          · cases h
        · cases h; exact .inl rfl
      · cases h
    | ret =>
      simp only [step] at h
      split at h <;> cases h
      exact .inl rfl
    | if_ t a b => simp [step] at h
-- Q1
noncomputable def w2 : Wf := fun t vals =>
  if t.1 = "mix" then 5 * (vals "A").getD 0 + (vals "B").getD 0
  else if t.1 = "sum" then ((vals t.2.1).getD 0 + t.2.2).fmod 5
  else if t.1 = "same" then (vals t.2.1).getD 0
  else if t.1 = "pushed" then (vals t.2.1).getD 0 * 10 + t.2.2
  else if t.1 = "last" then ((vals t.2.1).getD 0).fmod 10
  else if t.1 = "ahead" then ((vals t.2.1).getD 0).fdiv 10
  else 0 - (if (vals t.2.1).getD 0 = t.2.2 then 1 else 0)
structure Pt where
  (goal source more kind one other name number : Nat)
structure Pt.Ok (p : Pt) : Prop where
  goal : p.goal < 2
  source : p.source < 2
  more : p.more < 5
  kind : p.kind < 8
  one : p.one < 2
  other : p.other < 2
  name : p.name < 2
  number : p.number < 5
noncomputable def nm (n : Nat) : Str := if n = 0 then "A" else "B"
noncomputable def ln : Nat → Int
  | 0 => 110 | 1 => 120 | 2 => 210 | 3 => 220 | 4 => 310 | 5 => 320 | _ => 400
noncomputable def rm (n : Nat) : Str := Str.ofString (toString (n : Int))
noncomputable def kd (parts : List Pt) (i : Nat) : Nat := (parts[i]?.map (·.kind)).getD 0
noncomputable def backN (parts : List Pt) (i : Nat) : Int := if kd parts i = 4 then ln i + 5 else ln (i + 1)
noncomputable def ret3 (parts : List Pt) : List St := [.let_ "W" ("last", "K", 0), .let_ "K" ("ahead", "K", 0), .ongo "GOTO" ("same", "W", 0) ((List.range 6).map (backN parts))]
noncomputable def retS (parts : List Pt) : List St := ret3 parts ++ [.goto 999]
noncomputable def goneS (i part way : Nat) : List St := if way = 0 then [.gosub (ln (2 * part))] else [.let_ "K" ("pushed", "K", i + 1), .goto (ln (2 * part))]
noncomputable def tst (p : Pt) : Tree := ("is", nm p.name, p.number)
noncomputable def backS (parts : List Pt) (way : Nat) : List St := if way = 1 then retS parts else [.ret]
noncomputable def leadS (parts : List Pt) (i : Nat) (p : Pt) (way : Nat) : List St :=
  if p.kind = 1 then [.if_ (tst p) [.goto (ln (i / 2 * 2 + p.one))] []]
  else if p.kind = 2 then goneS i (1 + p.one) (way % 2)
  else if p.kind = 3 then (if way = 1 then [.if_ ("is", "A", 1) (goneS i (1 + p.one) 1) [.if_ ("is", "A", 2) (goneS i (1 + p.other) 1) []]]
    else [.ongo "GOSUB" ("same", "A", 0) [ln (2 + 2 * p.one), ln (2 + 2 * p.other)]])
  else if p.kind = 4 then (if way = 2 then [.goto (ln (2 + 2 * p.one))] else goneS i (1 + p.one) way ++ (if way = 0 then backS parts way else []))
  else if p.kind = 5 then backS parts way
  else if p.kind = 6 then [.end_]
  else if p.kind = 7 then [.if_ (tst p) (backS parts way) []] else []
noncomputable def bodyS (p : Pt) (i : Nat) : List St := [.let_ (nm p.goal) ("sum", nm p.source, p.more), .let_ "X" ("mix", "", 0), .rem (rm i)]
noncomputable def lineS (parts : List Pt) (way i : Nat) (p : Pt) : List St := bodyS p i ++ leadS parts i p way
noncomputable def progFrom (parts : List Pt) (way : Nat) : Nat → List Pt → List (Int × List St)
  | _, [] => []
  | n, p :: r => (ln n, lineS parts way n p) :: ((if way = 1 ∧ p.kind = 4 then [(ln n + 5, retS parts)] else []) ++ progFrom parts way (n + 1) r)
theorem progFrom_nil {parts : List Pt} {way n : Nat} : progFrom parts way n [] = [] := rfl
theorem progFrom_cons {parts : List Pt} {way n : Nat} {p : Pt} {r : List Pt} : progFrom parts way n (p :: r) = (ln n, lineS parts way n p) :: ((if way = 1 ∧ p.kind = 4 then [(ln n + 5, retS parts)] else []) ++ progFrom parts way (n + 1) r) := rfl
noncomputable def lastS (way : Nat) : List (Int × List St) := if way = 1 then [(400, [.end_])] else []
noncomputable def progS (parts : List Pt) (way : Nat) : List (Int × List St) := progFrom parts way 0 parts ++ lastS way
noncomputable def prg (parts : List Pt) (way : Nat) : Prg := mkPrg (progS parts way)
noncomputable def base (parts : List Pt) (way i : Nat) : Nat := (flatP 0 (progFrom parts way 0 (parts.take i))).length
theorem ln_lt : ∀ j < 7, ∀ i < j, ln i + 5 < ln j := by decide
theorem ln_999 : ∀ j < 7, ln j < 999 ∧ ln j + 5 < 999 ∧ 0 < ln j := by decide
theorem progFrom_append {parts : List Pt} {way : Nat} : ∀ (a b : List Pt) (n : Nat), progFrom parts way n (a ++ b) = progFrom parts way n a ++ progFrom parts way (n + a.length) b
  | [], b, n => by simp [progFrom_nil, progFrom_cons]
  | p :: a, b, n => by simp [progFrom_nil, progFrom_cons, progFrom_append a b, Nat.add_assoc, Nat.add_comm 1]
theorem progFrom_keys {parts : List Pt} {way : Nat} {x : Int} : ∀ (a : List Pt) (n : Nat), x ∈ (progFrom parts way n a).map (·.1) → ∃ j, n ≤ j ∧ j < n + a.length ∧ (x = ln j ∨ x = ln j + 5)
  | [], n, h => by simp [progFrom_nil, progFrom_cons] at h
  | p :: a, n, h => by
    simp only [progFrom_nil, progFrom_cons, List.map_cons, List.mem_cons, List.map_append, List.mem_append] at h
    rcases h with h | h | h
    · exact ⟨n, Nat.le_refl _, by simp, .inl h⟩
    · split at h
      · simp only [List.map_cons, List.map_nil, List.mem_singleton] at h
        exact ⟨n, Nat.le_refl _, by simp, .inr h⟩
      · simp at h
    · obtain ⟨j, h1, h2, h3⟩ := progFrom_keys a (n + 1) h
      exact ⟨j, by lcg_off, by simp only [List.length_cons]; lcg_off, h3⟩
theorem split_at {α : Type} {l : List α} {i : Nat} {x : α} (h : l[i]? = some x) : l = l.take i ++ x :: l.drop (i + 1) ∧ (l.take i).length = i := by
  obtain ⟨hi, hx⟩ := List.getElem?_eq_some_iff.mp h
  refine ⟨?_, by simp; lcg_off⟩
  rw [← hx, ← List.drop_eq_getElem_cons hi, List.take_append_drop]
section
variable {parts : List Pt} {way i : Nat} {p : Pt}
theorem prog_split (h : parts[i]? = some p) : progS parts way = progFrom parts way 0 (parts.take i) ++ (ln i, lineS parts way i p) :: ((if way = 1 ∧ p.kind = 4 then [(ln i + 5, retS parts)] else []) ++ progFrom parts way (i + 1) (parts.drop (i + 1)) ++ lastS way) := by
  obtain ⟨h1, h2⟩ := split_at h
  have e : progFrom parts way 0 parts = progFrom parts way 0 (parts.take i ++ p :: parts.drop (i + 1)) := by rw [← h1]
  unfold progS
  rw [e, progFrom_append, h2, Nat.zero_add]
  simp only [progFrom_nil, progFrom_cons, List.append_assoc, List.cons_append]
theorem prog_split4 (h : parts[i]? = some p) (h4 : p.kind = 4) : progS parts 1 = (progFrom parts 1 0 (parts.take i) ++ [(ln i, lineS parts 1 i p)]) ++ (ln i + 5, retS parts) :: (progFrom parts 1 (i + 1) (parts.drop (i + 1)) ++ lastS 1) := by
  rw [prog_split h, if_pos ⟨rfl, h4⟩]
  simp
theorem keys_behind (hl : parts.length = 6) (h : parts[i]? = some p) {x : Int} (hx : x ∈ (progFrom parts way (i + 1) (parts.drop (i + 1)) ++ lastS way).map (·.1)) : ∃ j, i < j ∧ j < 7 ∧ (x = ln j ∨ x = ln j + 5) := by
  have hi := (List.getElem?_eq_some_iff.mp h).1
  rw [List.map_append, List.mem_append] at hx
  rcases hx with hx | hx
  · obtain ⟨j, h1, h2, h3⟩ := progFrom_keys _ _ hx
    rw [List.length_drop] at h2
    exact ⟨j, by lcg_off, by lcg_off, h3⟩
  · unfold lastS at hx
    split at hx
    · simp only [List.map_cons, List.map_nil, List.mem_singleton] at hx
      exact ⟨6, by lcg_off, by lcg_off, .inl hx⟩
    · simp at hx
theorem line_at (h : parts[i]? = some p) : At (prg parts way) (base parts way i) (flatSs (ln i) (base parts way i) (lineS parts way i p)) := by
  unfold prg
  rw [prog_split h]
  exact mk_at
theorem line_place (hl : parts.length = 6) (h : parts[i]? = some p) : (prg parts way).places (ln i) = some (base parts way i) := by
  have hi := (List.getElem?_eq_some_iff.mp h).1
  unfold prg
  rw [prog_split h]
  refine mk_place (p := (ln i, _)) fun hm => ?_
  rw [List.append_assoc, List.map_append, List.mem_append] at hm
  rcases hm with hm | hm
  · split at hm
    · simp only [List.map_cons, List.map_nil, List.mem_singleton] at hm
      lcg_off
    · simp at hm
  · obtain ⟨j, h1, h2, h3⟩ := keys_behind hl h hm
    have := ln_lt j h2 i h1
    simp only at h3
    lcg_off
theorem base_last (hl : parts.length = 6) (hw : way ≠ 1) : base parts way 6 = (prg parts way).rows.length := by
  unfold base prg
  rw [← hl, List.take_length]
  show _ = (flatP 0 (progS parts way)).length
  unfold progS lastS
  rw [if_neg hw, List.append_nil]
theorem base1_last (hl : parts.length = 6) : (prg parts 1).rows[base parts 1 6]? = some (400, .st .end_) ∧ (prg parts 1).places 400 = some (base parts 1 6) := by
  have e : progS parts 1 = progFrom parts 1 0 parts ++ (400, [.end_]) :: [] := rfl
  have b : base parts 1 6 = (flatP 0 (progFrom parts 1 0 parts)).length := by unfold base; rw [← hl, List.take_length]
  refine ⟨?_, ?_⟩
  · have := mk_at (pre := progFrom parts 1 0 parts) (p := (400, [.end_])) (post := [])
    rw [← e, ← b] at this
    exact this.head
  · have := mk_place (pre := progFrom parts 1 0 parts) (p := (400, [.end_])) (post := []) (by simp)
    rw [← e, ← b] at this
    exact this
theorem base_succ (h : parts[i]? = some p) (hk : ¬ (way = 1 ∧ p.kind = 4)) : base parts way (i + 1) = base parts way i + (flatSs (ln i) (base parts way i) (lineS parts way i p)).length := by
  obtain ⟨h1, h2⟩ := split_at h
  have : parts.take (i + 1) = parts.take i ++ [p] := by rw [List.take_add_one, h]; rfl
  unfold base
  rw [this, progFrom_append, h2, Nat.zero_add, flatP_append, List.length_append, Nat.zero_add]
  simp only [progFrom_nil, progFrom_cons, if_neg hk, flatP_nil, flatP_cons, List.append_nil, List.nil_append]
noncomputable def base4 (parts : List Pt) (i : Nat) (p : Pt) : Nat := base parts 1 i + (flatSs (ln i) (base parts 1 i) (lineS parts 1 i p)).length
theorem four_at (h : parts[i]? = some p) (h4 : p.kind = 4) : At (prg parts 1) (base4 parts i p) (flatSs (ln i + 5) (base4 parts i p) (retS parts)) := by
  have b : base4 parts i p = (flatP 0 (progFrom parts 1 0 (parts.take i) ++ [(ln i, lineS parts 1 i p)])).length := by
    unfold base4 base
    rw [flatP_append, List.length_append, Nat.zero_add]
    simp only [flatP_nil, flatP_cons, List.append_nil]
  unfold prg
  rw [prog_split4 h h4, b]
  exact mk_at
theorem four_place (hl : parts.length = 6) (h : parts[i]? = some p) (h4 : p.kind = 4) : (prg parts 1).places (ln i + 5) = some (base4 parts i p) := by
  have b : base4 parts i p = (flatP 0 (progFrom parts 1 0 (parts.take i) ++ [(ln i, lineS parts 1 i p)])).length := by
    unfold base4 base
    rw [flatP_append, List.length_append, Nat.zero_add]
    simp only [flatP_nil, flatP_cons, List.append_nil]
  unfold prg
  rw [prog_split4 h h4, b]
  refine mk_place (p := (ln i + 5, _)) fun hm => ?_
  obtain ⟨j, h1, h2, h3⟩ := keys_behind hl h hm
  have := ln_lt j h2 i h1
  simp only at h3
  lcg_off
theorem no_999 (hl : parts.length = 6) : (prg parts way).places 999 = none := by
  show placesP 0 (progS parts way) _ 999 = none
  rw [placesP_not]
  intro hm
  unfold progS at hm
  rw [List.map_append, List.mem_append] at hm
  rcases hm with hm | hm
  · obtain ⟨j, h1, h2, h3⟩ := progFrom_keys _ _ hm
    have := ln_999 j (by lcg_off)
    lcg_off
  · unfold lastS at hm
    split at hm
    · simp at hm
    · simp at hm
end
-- Q2
noncomputable def AB (v : Vals) : Prop := ∀ n, 0 ≤ (v (nm n)).getD 0 ∧ (v (nm n)).getD 0 < 5
noncomputable def Agree (v u : Vals) : Prop := v "A" = u "A" ∧ v "B" = u "B" ∧ v "X" = u "X"
noncomputable def bodyV (p : Pt) (v : Vals) : Vals :=
  let v1 := setV v (nm p.goal) (w2 ("sum", nm p.source, p.more) v)
  setV v1 "X" (w2 ("mix", "", 0) v1)
theorem nm_cases (n : Nat) : nm n = "A" ∨ nm n = "B" := by unfold nm; split <;> simp
theorem setV_hit {v : Vals} {x : Str} {n : Int} : setV v x n x = some n := if_pos rfl
theorem setV_ne {v : Vals} {x y : Str} {n : Int} (h : y ≠ x) : setV v x n y = v y := if_neg h
theorem nm_X (n : Nat) : nm n ≠ "X" := by rcases nm_cases n with h | h <;> rw [h] <;> decide +kernel
theorem nm_K (n : Nat) : nm n ≠ "K" := by rcases nm_cases n with h | h <;> rw [h] <;> decide +kernel
theorem ne_XK : (Str.ofString "K") ≠ Str.ofString "X" := by decide +kernel
theorem ne_KW : (Str.ofString "K") ≠ Str.ofString "W" := by decide +kernel
theorem w2_mix {x : Str} {n : Int} {v : Vals} : w2 ("mix", x, n) v = 5 * (v "A").getD 0 + (v "B").getD 0 := by dsimp only [w2]; rw [if_pos rfl]
theorem w2_sum {x : Str} {n : Int} {v : Vals} : w2 ("sum", x, n) v = ((v x).getD 0 + n).fmod 5 := by dsimp only [w2]; rw [if_neg (by lcg_src), if_pos rfl]
theorem w2_same {x : Str} {n : Int} {v : Vals} : w2 ("same", x, n) v = (v x).getD 0 := by dsimp only [w2]; rw [if_neg (by lcg_src), if_neg (by lcg_src), if_pos rfl]
theorem w2_pushed {x : Str} {n : Int} {v : Vals} : w2 ("pushed", x, n) v = (v x).getD 0 * 10 + n := by
  dsimp only [w2]; rw [if_neg (by lcg_src), if_neg (by lcg_src), if_neg (by lcg_src), if_pos rfl]
theorem w2_last {x : Str} {n : Int} {v : Vals} : w2 ("last", x, n) v = ((v x).getD 0).fmod 10 := by
  dsimp only [w2]; rw [if_neg (by lcg_src), if_neg (by lcg_src), if_neg (by lcg_src), if_neg (by lcg_src), if_pos rfl]
theorem w2_ahead {x : Str} {n : Int} {v : Vals} : w2 ("ahead", x, n) v = ((v x).getD 0).fdiv 10 := by
  dsimp only [w2]; rw [if_neg (by lcg_src), if_neg (by lcg_src), if_neg (by lcg_src), if_neg (by lcg_src), if_neg (by lcg_src), if_pos rfl]
theorem w2_is {x : Str} {n : Int} {v : Vals} : w2 ("is", x, n) v = 0 - (if (v x).getD 0 = n then 1 else 0) := by
  dsimp only [w2]; rw [if_neg (by lcg_src), if_neg (by lcg_src), if_neg (by lcg_src), if_neg (by lcg_src), if_neg (by lcg_src), if_neg (by lcg_src)]
theorem w2_is_ne {x : Str} {n : Int} {v : Vals} : w2 ("is", x, n) v ≠ 0 ↔ (v x).getD 0 = n := by
  rw [w2_is]; by_cases h : (v x).getD 0 = n
  · rw [if_pos h]; simp [h]
  · rw [if_neg h]; simp [h]
theorem Agree.nm {v u : Vals} (h : Agree v u) (n : Nat) : v (nm n) = u (nm n) := by
  rcases nm_cases n with e | e <;> rw [e]
  · exact h.1
  · exact h.2.1
theorem Agree.setV {v u : Vals} (h : Agree v u) (x : Str) (n : Int) : Agree (setV v x n) (Mine.setV u x n) := by
  obtain ⟨h1, h2, h3⟩ := h
  refine ⟨?_, ?_, ?_⟩ <;> simp only [Mine.setV] <;> split <;> first | rfl | assumption
theorem Agree.set_r {v u : Vals} (h : Agree v u) (x : Str) (n : Int) (hx : x ≠ "A" ∧ x ≠ "B" ∧ x ≠ "X") : Agree v (Mine.setV u x n) := by
  obtain ⟨h1, h2, h3⟩ := h
  obtain ⟨x1, x2, x3⟩ := hx
  exact ⟨by rw [setV_ne (Ne.symm x1)]; exact h1, by rw [setV_ne (Ne.symm x2)]; exact h2, by rw [setV_ne (Ne.symm x3)]; exact h3⟩
theorem nK : (Str.ofString "K") ≠ "A" ∧ (Str.ofString "K") ≠ "B" ∧ (Str.ofString "K") ≠ "X" := by decide +kernel
theorem nW : (Str.ofString "W") ≠ "A" ∧ (Str.ofString "W") ≠ "B" ∧ (Str.ofString "W") ≠ "X" := by decide +kernel
theorem fmod5 (x : Int) : 0 ≤ x.fmod 5 ∧ x.fmod 5 < 5 := by
  rw [Int.fmod_eq_emod_of_nonneg _ (by decide)]
  lcg_off
theorem AB.body {p : Pt} {v : Vals} (h : AB v) : AB (bodyV p v) := by
  intro n
  simp only [bodyV]
  rw [setV_ne (nm_X n)]
  by_cases e : nm n = nm p.goal
  · rw [e, setV_hit, w2_sum]
    exact fmod5 _
  · rw [setV_ne e]
    exact h n
theorem Agree.body {p : Pt} {v u : Vals} (h : Agree v u) : Agree (bodyV p v) (bodyV p u) := by
  simp only [bodyV]
  have a2 : Agree (Mine.setV v (Mine.nm p.goal) (w2 ("sum", Mine.nm p.source, p.more) v)) (Mine.setV u (Mine.nm p.goal) (w2 ("sum", Mine.nm p.source, p.more) u)) := by
    rw [w2_sum, w2_sum, h.nm]; exact h.setV _ _
  rw [w2_mix, w2_mix, a2.1, a2.2.1]
  exact a2.setV _ _
theorem bodyV_K {p : Pt} {v : Vals} : bodyV p v "K" = v "K" := by
  simp only [bodyV]
  rw [setV_ne ne_XK, setV_ne (Ne.symm (nm_K p.goal))]
structure Ab where
  (i : Nat) (v : Vals) (stk : List Nat) (n : Nts) (bad : Bool)
noncomputable def retTo (parts : List Pt) : List Nat → Option (Nat × List Nat)
  | [] => none
  | c :: r => if kd parts c = 4 then retTo parts r else some (c + 1, r)
noncomputable def pops (parts : List Pt) : List Nat → Nat
  | [] => 0
  | c :: r => if kd parts c = 4 then pops parts r + 1 else 0
noncomputable def fours (parts : List Pt) : List Nat → Nat
  | [] => 0
  | c :: r => fours parts r + (if kd parts c = 4 then 1 else 0)
theorem retTo_cons {parts : List Pt} {c : Nat} {r : List Nat} : retTo parts (c :: r) = if kd parts c = 4 then retTo parts r else some (c + 1, r) := rfl
theorem pops_cons {parts : List Pt} {c : Nat} {r : List Nat} : pops parts (c :: r) = if kd parts c = 4 then pops parts r + 1 else 0 := rfl
theorem fours_cons {parts : List Pt} {c : Nat} {r : List Nat} : fours parts (c :: r) = fours parts r + (if kd parts c = 4 then 1 else 0) := rfl
noncomputable abbrev isT (p : Pt) (v : Vals) : Prop := (v (nm p.name)).getD 0 = (p.number : Int)
noncomputable def goes (parts : List Pt) (i : Nat) (p : Pt) (v : Vals) (stk : List Nat) : Option (Nat × List Nat) :=
  if p.kind = 1 then (if isT p v then some (i / 2 * 2 + p.one, stk) else some (i + 1, stk))
  else if p.kind = 2 then some (2 + 2 * p.one, i :: stk)
  else if p.kind = 3 then (if (v "A").getD 0 = 1 then some (2 + 2 * p.one, i :: stk) else if (v "A").getD 0 = 2 then some (2 + 2 * p.other, i :: stk) else some (i + 1, stk))
  else if p.kind = 4 then some (2 + 2 * p.one, i :: stk)
  else if p.kind = 5 then retTo parts stk
  else if p.kind = 6 then some (6, stk)
  else if p.kind = 7 then (if isT p v then retTo parts stk else some (i + 1, stk)) else some (i + 1, stk)
noncomputable def abStep (parts : List Pt) (s : Ab) : Ab :=
  if s.bad = true then s else match parts[s.i]? with
  | none => s
  | some p => match goes parts s.i p (bodyV p s.v) s.stk with
    | some q => ⟨q.1, bodyV p s.v, q.2, s.n ++ [(rm s.i, (bodyV p s.v "X").getD 0)], false⟩
    | none => ⟨s.i, bodyV p s.v, [], s.n ++ [(rm s.i, (bodyV p s.v "X").getD 0)], true⟩
noncomputable def abN (parts : List Pt) : Nat → Ab → Ab
  | 0, s => s
  | k + 1, s => abN parts k (abStep parts s)
theorem abN_zero {parts : List Pt} {s : Ab} : abN parts 0 s = s := rfl
theorem abN_succ {parts : List Pt} {k : Nat} {s : Ab} : abN parts (k + 1) s = abN parts k (abStep parts s) := rfl
noncomputable def rcost (way m : Nat) (ok : Bool) : Nat := if way = 1 then 3 + 3 * m else (if way = 0 then m else 0) + (if ok then 1 else 0)
noncomputable def rc (parts : List Pt) (way : Nat) (stk : List Nat) : Nat := rcost way (pops parts stk) (retTo parts stk).isSome
noncomputable def cst (parts : List Pt) (way : Nat) (p : Pt) (v : Vals) (stk : List Nat) : Nat :=
  if p.kind = 1 then (if isT p v then 2 else 1)
  else if p.kind = 2 then (if way = 1 then 2 else 1)
  else if p.kind = 3 then (if way = 1 then (if (v "A").getD 0 = 1 then 3 else if (v "A").getD 0 = 2 then 4 else 2) else 1)
  else if p.kind = 4 then (if way = 1 then 2 else 1)
  else if p.kind = 5 then rc parts way stk
  else if p.kind = 6 then 1
  else if p.kind = 7 then (if isT p v then 1 + rc parts way stk else 1) else 0
theorem retTo_fours {parts : List Pt} : ∀ {stk : List Nat} {j : Nat} {r : List Nat}, retTo parts stk = some (j, r) → fours parts stk = pops parts stk + fours parts r ∧ r.length < stk.length
  | [], j, r, h => by cases h
  | c :: q, j, r, h => by
    simp only [retTo_cons] at h
    simp only [fours_cons, pops_cons]
    split at h
    · rename_i h4
      rw [if_pos h4, if_pos h4]
      have := retTo_fours h
      simp only [List.length_cons]; lcg_off
    · rename_i h4
      rw [if_neg h4, if_neg h4]
      simp only [Option.some.injEq, Prod.mk.injEq] at h
      rw [← h.2]
      simp only [List.length_cons]; lcg_off
theorem retTo_none {parts : List Pt} : ∀ {stk : List Nat}, retTo parts stk = none → fours parts stk = pops parts stk
  | [], h => rfl
  | c :: q, h => by
    simp only [retTo_cons] at h
    split at h
    · rename_i h4
      simp only [fours_cons, pops_cons]
      rw [if_pos h4, if_pos h4, retTo_none h]
    · cases h
theorem ite4 {P : Prop} [Decidable P] {α : Type} {a b : α} {x y z x' y' z' : Nat} (M : α → Nat → Nat → Nat → Prop) (h1 : P → M a x y z) (h2 : ¬ P → M b x' y' z') : M (if P then a else b) (if P then x else x') (if P then y else y') (if P then z else z') := by
  by_cases h : P
  · rw [if_pos h, if_pos h, if_pos h, if_pos h]; exact h1 h
  · rw [if_neg h, if_neg h, if_neg h, if_neg h]; exact h2 h
theorem ite2 {P : Prop} [Decidable P] {α : Type} {a b : α} {x x' : Nat} (M : α → Nat → Prop) (h1 : M a x) (h2 : M b x') : M (if P then a else b) (if P then x else x') := by
  by_cases h : P
  · rw [if_pos h, if_pos h]; exact h1
  · rw [if_neg h, if_neg h]; exact h2
noncomputable def CM (parts : List Pt) (R : Prop) (stk : List Nat) (g : Option (Nat × List Nat)) (c0 c1 c2 : Nat) : Prop :=
  (∀ q, g = some q → c1 + fours parts q.2 ≤ 2 * c0 + 3 + fours parts stk ∧ c2 ≤ c0 ∧ q.2.length ≤ stk.length + 1 ∧ (stk.length < q.2.length → 1 ≤ c0 ∧ 1 ≤ c2 ∧ 2 ≤ c1)) ∧
  (g = none → retTo parts stk = none ∧ R ∧ c1 ≤ 2 * c0 + 3 + fours parts stk ∧ c2 ≤ c0)
theorem cm_same {parts : List Pt} {R : Prop} {stk : List Nat} (j c0 c1 c2 : Nat) (h1 : c1 ≤ 2 * c0 + 3) (h2 : c2 ≤ c0) : CM parts R stk (some (j, stk)) c0 c1 c2 :=
  ⟨fun q e => by cases e; exact ⟨Nat.add_le_add_right h1 _, h2, Nat.le_succ _, fun e => absurd e (Nat.lt_irrefl _)⟩, fun e => nomatch e⟩
theorem cm_push {parts : List Pt} {R : Prop} {stk : List Nat} (i j c1 : Nat) (h1 : c1 ≤ 4) (h3 : 2 ≤ c1) : CM parts R stk (some (j, i :: stk)) 1 c1 1 := by
  refine ⟨fun q e => ?_, fun e => nomatch e⟩
  cases e
  have : (if kd parts i = 4 then 1 else 0) ≤ 1 := by split <;> decide
  exact ⟨by show c1 + (fours parts stk + (if kd parts i = 4 then 1 else 0)) ≤ _; lcg_off, Nat.le_refl _, Nat.le_refl _, fun zz => ⟨Nat.le_refl _, Nat.le_refl _, h3⟩⟩
theorem cm_ret {parts : List Pt} {R : Prop} {stk : List Nat} {k c0 c1 c2 : Nat} (e0 : c0 = k + rc parts 0 stk) (e1 : c1 = k + rc parts 1 stk) (e2 : c2 = k + rc parts 2 stk) (hR : R) : CM parts R stk (retTo parts stk) c0 c1 c2 := by
  have r1 : rc parts 1 stk = 3 + 3 * pops parts stk := rfl
  refine ⟨fun q hq => ?_, fun hq => ?_⟩
  · have h := retTo_fours (r := q.2) (j := q.1) hq
    have r0 : rc parts 0 stk = pops parts stk + 1 := by unfold rc; rw [hq]; rfl
    have r2 : rc parts 2 stk = 0 + 1 := by unfold rc; rw [hq]; rfl
    rw [e0, e1, e2, r0, r1, r2, h.1]
    exact ⟨by lcg_off, by lcg_off, Nat.le_of_lt (Nat.lt_succ_of_lt h.2), fun e => absurd e (Nat.lt_asymm h.2)⟩
  · have r0 : rc parts 0 stk = pops parts stk + 0 := by unfold rc; rw [hq]; rfl
    have r2 : rc parts 2 stk = 0 + 0 := by unfold rc; rw [hq]; rfl
    rw [e0, e1, e2, r0, r1, r2, retTo_none hq]
    exact ⟨hq, hR, by lcg_off, by lcg_off⟩
theorem cm_all {parts : List Pt} {i : Nat} {p : Pt} {v : Vals} {stk : List Nat} : CM parts (p.kind = 5 ∨ (p.kind = 7 ∧ isT p v)) stk (goes parts i p v stk) (cst parts 0 p v stk) (cst parts 1 p v stk) (cst parts 2 p v stk) := by
  generalize hR : (p.kind = 5 ∨ (p.kind = 7 ∧ isT p v)) = R
  refine ite4 (CM parts R stk) (fun zz => ite4 (CM parts R stk) (fun zz => cm_same _ 2 2 2 (by decide) (by decide)) fun zz => cm_same _ 1 1 1 (by decide) (by decide)) fun zz => ?_
  refine ite4 (CM parts R stk) (fun zz => cm_push i _ 2 (by decide) (by decide)) fun zz => ?_
  refine ite4 (CM parts R stk) (fun zz => ite2 (fun g c => CM parts R stk g 1 c 1) (cm_push i _ 3 (by decide) (by decide)) (ite2 (fun g c => CM parts R stk g 1 c 1) (cm_push i _ 4 (by decide) (by decide)) (cm_same _ 1 2 1 (by decide) (by decide)))) fun zz => ?_
  refine ite4 (CM parts R stk) (fun zz => cm_push i _ 2 (by decide) (by decide)) fun zz => ?_
  refine ite4 (CM parts R stk) (fun k => cm_ret (Nat.zero_add _).symm (Nat.zero_add _).symm (Nat.zero_add _).symm (hR ▸ .inl k)) fun zz => ?_
  refine ite4 (CM parts R stk) (fun zz => cm_same _ 1 1 1 (by decide) (by decide)) fun zz => ?_
  refine ite4 (CM parts R stk) (fun k => ite4 (CM parts R stk) (fun t => cm_ret (k := 1) rfl rfl rfl (hR ▸ .inr ⟨k, t⟩)) fun zz => cm_same _ 1 1 1 (by decide) (by decide)) fun zz => cm_same _ 0 0 0 (by decide) (by decide)
theorem cst_some {parts : List Pt} {i : Nat} {p : Pt} {v : Vals} {stk : List Nat} {q : Nat × List Nat} (hi : kd parts i = p.kind) (h : goes parts i p v stk = some q) :
    cst parts 1 p v stk + fours parts q.2 ≤ 2 * cst parts 0 p v stk + 3 + fours parts stk ∧ cst parts 2 p v stk ≤ cst parts 0 p v stk ∧ q.2.length ≤ stk.length + 1 ∧
    (stk.length < q.2.length → 1 ≤ cst parts 0 p v stk ∧ 1 ≤ cst parts 2 p v stk ∧ 2 ≤ cst parts 1 p v stk) := cm_all.1 q h
theorem cst_none {parts : List Pt} {i : Nat} {p : Pt} {v : Vals} {stk : List Nat} (h : goes parts i p v stk = none) :
    retTo parts stk = none ∧ (p.kind = 5 ∨ (p.kind = 7 ∧ isT p v)) ∧ cst parts 1 p v stk ≤ 2 * cst parts 0 p v stk + 3 + fours parts stk ∧ cst parts 2 p v stk ≤ cst parts 0 p v stk := cm_all.2 h
-- Q3
noncomputable def kOf : List Nat → Nat
  | [] => 0
  | c :: r => kOf r * 10 + (c + 1)
noncomputable def e0 (parts : List Pt) (c : Nat) : Ent := .gosub (if kd parts c = 4 then base parts 0 (c + 1) - 1 else base parts 0 (c + 1))
noncomputable def e2 (parts : List Pt) (c : Nat) : Ent := .gosub (base parts 2 (c + 1))
noncomputable def keep2 (parts : List Pt) (stk : List Nat) : List Nat := stk.filter fun c => decide (kd parts c ≠ 4)
noncomputable def pile0 (parts : List Pt) (stk : List Nat) : List Ent := (stk.map (e0 parts)).reverse
noncomputable def pile2 (parts : List Pt) (stk : List Nat) : List Ent := ((keep2 parts stk).map (e2 parts)).reverse
theorem base_pos {parts : List Pt} {way i : Nat} {p : Pt} (h : parts[i]? = some p) : 1 ≤ base parts way (i + 1) := by
  obtain ⟨h1, h2⟩ := split_at h
  have : parts.take (i + 1) = parts.take i ++ [p] := by rw [List.take_add_one, h]; rfl
  unfold base
  rw [this, progFrom_append, flatP_append, List.length_append]
  have : 1 ≤ (flatP (0 + (flatP 0 (progFrom parts way 0 (parts.take i))).length) (progFrom parts way (0 + (parts.take i).length) [p])).length := by
    simp only [progFrom_nil, progFrom_cons, flatP_nil, flatP_cons, lineS, bodyS, List.cons_append, flatSs_nil, flatSs_cons, flatS_if, flatS_let, flatS_rem, flatS_end, flatS_goto, flatS_ongo, List.length_append, List.length_cons]
    lcg_off
  lcg_off
noncomputable def behindP (parts : List Pt) (way c : Nat) : Nat := if c < 5 then base parts way (c + 1) else (prg parts way).rows.length
theorem behind_eq {parts : List Pt} (hl : parts.length = 6) {way c : Nat} (hw : way ≠ 1) (hc : c < 6) : behindP parts way c = base parts way (c + 1) := by
  unfold behindP
  by_cases h : c < 5
  · rw [if_pos h]
  · obtain rfl : c = 5 := by lcg_off
    rw [if_neg h, ← base_last hl hw]
theorem place_behind {parts : List Pt} (hl : parts.length = 6) {way c : Nat} (hc : c < 5) : (prg parts way).places (ln (c + 1)) = some (behindP parts way c) := by
  have hi : c + 1 < parts.length := by lcg_off
  unfold behindP
  rw [if_pos hc]
  exact line_place hl (List.getElem?_eq_getElem hi)
section
local macro_rules | `(tactic| kct_strs) => `(tactic| with_reducible first
  | (change OkBE ..; first | refine okbE_if ?_ | refine okbE_expr ?_ (by lcg_sub) (by lcg_sub) | refine okbE_nil ?_ | refine okbE_for ?_ (fun _ => by lcg_sub))
  | refine thenE_ret ?_ | refine thenE_next ?_)
-- X11
section
section
variable {c : Ctx} {A : Ads} {C fI : Addr} {aW : Addr} {o : Objs} {kp : Nat} {P : Prg} {m m' : Ms} {d : Nat} {env : Env} {lk : Loc} {σ σ' : Sto} {pos : Pos} {QX : Fl → Loc → Sto → Prop} {Q : V → Sto → Prop} {QC : Sto → Str → Prop} {w : Wf} {dW : Nat}
theorem t_return_rg (LB : Lib c A) (Z : ExcK c C fI) {kc kp : Nat} (hc : CtlAt A σ kc kp) (hp : σ kp = some (.list [])) (h : QC σ "RG") : CodeE c C 3 (.ref A.f_return_place) [.ref kc] σ Q QC := by
  have f1 := hc.pile LB
  refine code_fnE1 "control" LB.return_place.fn (by intros; rfl) (by lcg_src) fun L cdv outs => ?_
  kat_tups
  with_reducible refine okbE_let ?_ (by k_upd) (by lcg_sub) (by lcg_sub)
  kas_types
  with_reducible refine okg_call (‹Lib _ _›).floor_of.ns (‹Lib _ _›).floor_of.keep (by k_updF) (by kbo_bools) (fun zz => by lcg_sub) ?_
  kas_types
  refine CodeOk.f (t_floor_nil LB hp ?_) (by decide)
  kas_types
  rw [decide_eq_true rfl]
  kas_types
  refine okbE_raise (code := "RG") Z ?_ (by k_updF) (fun zz => by lcg_sub) (by decide)
  kas_types
  exact ⟨⟨[], rfl, Nat.zero_le _⟩, h⟩
theorem t_place_ul (LB : Lib c A) (Z : ExcK c C fI) {kf kr kl kp : Nat} {g : Int → Option V} {l : Int} (hf : FlatAt A σ kf kr kl kp) (hg : σ kl = some (.dictI g)) (hn : g l = none) (h : QC σ "UL") : CodeE c C 3 (.ref A.f_place_of) [.ref kf, .int l] σ Q QC := by
  have f1 := hf.places LB
  refine code_fnE2 "flat" "line" LB.place_of.fn (by intros; rfl) (by lcg_src) fun L cdv outs => ?_
  kat_tups
  kas_types
  refine run_notInI_t LB.low hg hn ?_
  kas_types
  refine okbE_raise (code := "UL") Z ?_ (by k_updF) (fun zz => by lcg_sub) (by decide)
  kas_types
  exact ⟨⟨[_], rfl, Nat.le_refl _⟩, h⟩
theorem t_jump_rg (LB : Lib c A) (Z : ExcK c C fI) (r : RunAt A aW o kp P σ m) {pc : Int} (hp : m.pile = []) (hd : 0 < dW) (h : QC σ "RG") : CodeE c C (dW + 4) (.ref A.f_do_jump) [.ref o.kRun, .int pc, .tup [.str "RETURN", .none]] σ Q QC := by
  obtain ⟨f1, f2, f3, f4, f5, f6, f7, f8⟩ := r.f_ LB
  have hq := r.pile
  rw [hp] at hq
  refine code_fnE3 "run" "at" "statement" LB.do_jump.fn (by intros; rfl) (by lcg_src) fun L cdv outs => ?_
  kat_tups
  with_reducible refine okbE_let ?_ (by k_upd) (by lcg_sub) (by lcg_sub)
  kas_types
  with_reducible refine okbE_letE ?_ (by k_upd) (by lcg_sub) (by lcg_sub)
  with_reducible refine okgE_call (‹Lib _ _›).return_place.ns (‹Lib _ _›).return_place.keep (by k_updF) (by kbo_bools) (fun zz => by lcg_sub) ?_
  kas_types
  exact (t_return_rg LB Z r.ctl hq h).call (by lcg_off)
theorem t_jump_ul (LB : Lib c A) (Z : ExcK c C fI) (r : RunAt A aW o kp P σ m) {pc l : Int} (hn : P.places l = none) (hd : 0 < dW) (h : QC σ "UL") : CodeE c C (dW + 4) (.ref A.f_do_jump) [.ref o.kRun, .int pc, .tup [.str "GOTO", .int l]] σ Q QC := by
  obtain ⟨f1, f2, f3, f4, f5, f6, f7, f8⟩ := r.f_ LB
  refine code_fnE3 "run" "at" "statement" LB.do_jump.fn (by intros; rfl) (by lcg_src) fun L cdv outs => ?_
  kat_tups
  with_reducible refine okbE_let ?_ (by k_upd) (by lcg_sub) (by lcg_sub)
  kas_types
  with_reducible refine okbE_let ?_ (by k_upd) (by lcg_sub) (by lcg_sub)
  kas_types
  with_reducible refine okbE_letE ?_ (by k_upd) (by lcg_sub) (by lcg_sub)
  with_reducible refine okgE_call (‹Lib _ _›).place_of.ns (‹Lib _ _›).place_of.keep (by k_updF) (by kbo_bools) (fun zz => by lcg_sub) ?_
  kas_types
  exact (t_place_ul LB Z r.flat r.places (by rw [hn]; rfl) h).call (by lcg_off)
theorem t_flow_err (LB : Lib c A) {rest : List V} {wd : Str} {a b : V} (hw : V.str wd ∈ [V.str "IFNOT", V.str "JUMP", V.str "GOTO", V.str "GOSUB", V.str "ONGO", V.str "RETURN"]) (hp : V.plain 8 (.str wd) = true)
    (h : CodeE c C (dW + 4) (.ref A.f_do_jump) [a, b, .tup (.str wd :: rest)] σ Q QC) : CodeE c C (dW + 5) (.ref A.f_do_flow) [a, b, .tup (.str wd :: rest)] σ Q QC := by
  refine code_fnE3 "run" "at" "statement" LB.do_flow.fn (by intros; rfl) (by lcg_src) fun L cdv outs => ?_
  kat_tups
  refine okbE_returnE (oke_ifexp (oktE_of ?_))
  kas_types
  refine okgv LB.jumps LB.jumpsV (by k_updF) (by kbo_bools) ?_
  refine run_in_t hp (by lcg_sub) hw ?_
  kas_types
  with_reducible refine okgE_call (‹Lib _ _›).do_jump.ns (‹Lib _ _›).do_jump.keep (by k_updF) (by kbo_bools) (fun zz => by lcg_sub) ?_
  kas_types
  exact h.call (Nat.le_refl _)
end
end
-- X12
section
section
variable {c : Ctx} {A : Ads} {C fI : Addr} {aW : Addr} {o : Objs} {kp : Nat} {P : Prg} {m m' : Ms} {d : Nat} {env : Env} {lk : Loc} {σ σ' : Sto} {pos : Pos} {QX : Fl → Loc → Sto → Prop} {Q : V → Sto → Prop} {QC : Sto → Str → Prop} {w : Wf} {dW : Nat}
noncomputable def stopN (w : Wf) (P : Prg) : Nat → Ms → Ms × Option Str
  | 0, m => (m, none)
  | n + 1, m => match P.rows[m.pc]? with
    | none => (m, none)
    | some (_, r) => match step w P m r with
      | .ok m' => stopN w P n m'
      | .error e => (m, some e)
noncomputable def GoodErr (P : Prg) (m : Ms) (e : Str) : Prop := (∃ l, P.rows[m.pc]? = some (l, .st .ret) ∧ m.pile = [] ∧ e = "RG") ∨ ∃ l l', P.rows[m.pc]? = some (l, .st (.goto l')) ∧ P.places l' = none ∧ e = "UL"
theorem stopN_done {n : Nat} (h : P.rows.length ≤ m.pc) : stopN w P n m = (m, none) := by
  cases n with
  | zero => rfl
  | succ n =>
    show (match P.rows[m.pc]? with | none => (m, none) | some (_, r) => match step w P m r with | .ok m' => stopN w P n m' | .error e => (m, some e)) = _
    rw [List.getElem?_eq_none h]
theorem stopN_ok {n : Nat} {l : Int} {r : Row} {m₂ : Ms} (h : P.rows[m.pc]? = some (l, r)) (hs : step w P m r = .ok m₂) : stopN w P (n + 1) m = stopN w P n m₂ := by
  show (match P.rows[m.pc]? with | none => (m, none) | some (_, r) => match step w P m r with | .ok m' => stopN w P n m' | .error e => (m, some e)) = _
  rw [h]
  show (match step w P m r with | .ok m' => stopN w P n m' | .error e => (m, some e)) = _
  rw [hs]
theorem stopN_err {n : Nat} {l : Int} {r : Row} {e : Str} (h : P.rows[m.pc]? = some (l, r)) (hs : step w P m r = .error e) : stopN w P (n + 1) m = (m, some e) := by
  show (match P.rows[m.pc]? with | none => (m, none) | some (_, r) => match step w P m r with | .ok m' => stopN w P n m' | .error e => (m, some e)) = _
  rw [h]
  show (match step w P m r with | .ok m' => stopN w P n m' | .error e => (m, some e)) = _
  rw [hs]
theorem flow_bad (LB : Lib c A) (Z : ExcK c C fI) (W : WorthOk c aW w dW) (r : RunAt A aW o kp P σ m) {line : Int} {row : Row} {e : Str} (hrow : P.rows[m.pc]? = some (line, row)) (g : GoodErr P m e) (h : QC σ e) : CodeE c C (dW + 5) (.ref A.f_do_flow) [.ref o.kRun, .int m.pc, encR row] σ Q QC := by
  rcases g with ⟨l, g1, g2, rfl⟩ | ⟨l, l', g1, g2, rfl⟩
  · obtain rfl : row = .st .ret := (Prod.mk.inj (Option.some.inj (hrow.symm.trans g1))).2
    exact t_flow_err LB (.tail _ (.tail _ (.tail _ (.tail _ (.tail _ (.head _)))))) (by lcg_sub) (t_jump_rg LB Z r g2 W.pos h)
  · obtain rfl : row = .st (.goto l') := (Prod.mk.inj (Option.some.inj (hrow.symm.trans g1))).2
    exact t_flow_err LB (.tail _ (.tail _ (.head _))) (by lcg_sub) (t_jump_ul LB Z r g2 W.pos h)
set_option maxHeartbeats 4000000 in
theorem t_goE (LB : Lib c A) (Z : ExcK c C fI) (W : WorthOk c aW w dW) (hP : ∀ p ∈ P.rows, WfRow p.2) {most : Nat} {er : Option Str} (r : RunAt A aW o kp P σ m) (hm : stopN w P most m = (m', er)) (he : ∀ e, er = some e → GoodErr P m' e) (hmost : most ≤ 1000) (hn : m.notes.length + most ≤ 1000)
    (hpl : ∀ k, (stopN w P k m).1.pile.length < 50)
    (h : er = none → ∀ σ' kp', RunAt A aW o kp' P σ' m' → Keep o kp σ σ' → (kp' = kp ∨ σ kp' = none) → goQ Q P m'.pc σ') (hE : ∀ e, er = some e → ∀ σ' kp', RunAt A aW o kp' P σ' m' → Keep o kp σ σ' → (kp' = kp ∨ σ kp' = none) → QC σ' e) :
    CodeE c C (dW + 6) (.ref A.m_go) [.ref o.kRun, .int m.pc, .int most] σ Q QC := by
  refine code_fnE3 "self" "at" "most" LB.FlowRun_go.fn (by intros; rfl) (by lcg_src) fun L cdv outs => ?_
  kat_tups
  kas_types
  refine ⟨_, rfl, by lcg_off, by lcg_off, trivial, ?_⟩
  rw [Int.toNat_natCast]
  refine loopE_inv1 (fun xs lk₁ σ₁ => ∃ (n : Nat) (a : Int) (m₁ : Ms) (kp₁ : Nat), xs = rangeV a 1 n ∧ lk₁ = ([("self", .ref o.kRun), ("at", .int m₁.pc), ("most", .int most)] : Loc) ∧ RunAt A aW o kp₁ P σ₁ m₁ ∧ Keep o kp σ σ₁ ∧ (kp₁ = kp ∨ σ kp₁ = none) ∧
    stopN w P n m₁ = (m', er) ∧ m₁.notes.length + n ≤ 1000 ∧ (∀ k, (stopN w P k m₁).1.pile.length < 50)) (by k_upd) (fun QB x xs lk₁ σ₁ hJ hB => ?_) (fun lk₁ σ₁ hJ => ?_) ⟨most, 0, m, kp, rfl, rfl, r, Keep.refl _ _ _, .inl rfl, hm, hn, hpl⟩
  · obtain ⟨n, a, m₁, kp₁, hx, rfl, r₁, k₁, hk₁, hm₁, hn₁, hp₁⟩ := hJ
    cases n with
    | zero => cases hx
    | succ n =>
      rw [rangeV] at hx
      injection hx with hx1 hx2
      subst hx1
      obtain ⟨f1, f2, f3, f4, f5, f6, f7, f8⟩ := r₁.f_ LB
      obtain ⟨e1, e2, e3, e4, e5⟩ := r₁.m_ LB
      have hlen := r₁.len
      kas_types
      refine callf_len (.inr (.inr ⟨_, rfl, r₁.rows⟩)) (le_line (by simp; lcg_off)) ?_
      kas_types
      cases hrow : P.rows[m₁.pc]? with
      | none =>
        have hge := List.getElem?_eq_none_iff.mp hrow
        rw [decide_eq_true (by simp; lcg_off)]
        kas_types
        refine okbE_return ?_
        kas_types
        rw [stopN_done hge] at hm₁
        have hq := h (Prod.mk.inj hm₁).2.symm _ _ (((Prod.mk.inj hm₁).1 : m₁ = m') ▸ r₁) k₁ hk₁
        rw [← ((Prod.mk.inj hm₁).1 : m₁ = m')] at hq
        unfold goQ at hq
        rw [if_pos hge] at hq
        refine hB (.ret _) _ _ (loopj_ret ?_)
        kas_types
        exact hq
      | some lr =>
        obtain ⟨line, row⟩ := lr
        have hlt := (List.getElem?_eq_some_iff.mp hrow).1
        rw [decide_eq_false (by simp; lcg_off)]
        kas_types
        with_reducible refine okbE_let ?_ (by k_upd) (by lcg_sub) (by lcg_sub)
        kas_types
        refine item_cell plainI r₁.rows (by lcg_off) (by lcg_off) (y := encRow (line, row)) (by rw [Int.toNat_natCast, List.getElem?_map, hrow]; rfl) ?_
        show Ok c _ _ _ _ _ _
        dsimp only [encRow]
        kas_types
        have hwf := hP _ (List.mem_of_getElem? hrow)
        have next : ∀ {m₂}, step w P m₁ row = .ok m₂ → ∀ {σ₂ kp₂}, RunAt A aW o kp₂ P σ₂ m₂ → Keep o kp₁ σ₁ σ₂ → (kp₂ = kp₁ ∨ σ₁ kp₂ = none) → m₂.notes.length + n ≤ 1000 → ∀ lk₂, Sub ([("self", .ref o.kRun), ("at", .int m₂.pc), ("most", .int most)] : Loc) lk₂ → QB .next lk₂ σ₂ := fun {m₂} hst {σ₂ kp₂} r₂ k₂ e₂ hn₂ lk₂ hs => by
          subst hx2
          exact hB .next lk₂ _ ⟨trivial, _, hs, n, a + 1, m₂, _, rfl, rfl, r₂, k₁.trans k₂ hk₁, e₂.elim (fun e => e ▸ hk₁) fun e => .inr (k₁.dom _ e), (stopN_ok hrow hst).symm.trans hm₁, hn₂, fun k => stopN_ok (n := k) hrow hst ▸ hp₁ (k + 1)⟩
        by_cases hfl : flowRow row = true
        · obtain ⟨wd, rest, he', w1, w2, w3⟩ := flow_split hfl
          rw [he']
          kas_types
          rw [w1]
          kas_types
          rw [w2]
          kas_types
          rw [w3]
          kas_types
          with_reducible refine okbE_letE ?_ (by k_upd) (by lcg_sub) (by lcg_sub)
          with_reducible refine okgE_call (‹Lib _ _›).do_flow.ns (‹Lib _ _›).do_flow.keep (by k_updF) (by kbo_bools) (fun zz => by lcg_sub) ?_
          kas_types
          rw [← he']
          cases hst : step w P m₁ row with
          | error e =>
            rw [stopN_err hrow hst] at hm₁
            have g := he e (Prod.mk.inj hm₁).2.symm
            rw [← ((Prod.mk.inj hm₁).1 : m₁ = m')] at g
            exact (flow_bad LB Z W r₁ hrow g (hE e (Prod.mk.inj hm₁).2.symm _ _ (((Prod.mk.inj hm₁).1 : m₁ = m') ▸ r₁) k₁ hk₁)).call (Nat.le_refl _)
          | ok m₂ =>
            refine callE_of ((t_do_flow LB W r₁ hfl hst (fun g t ls e => by rw [e] at hwf; exact hwf) (hp₁ 0) fun σ₂ kp₂ r₂ k₂ e₂ e₃ => ?_).f (Nat.le_refl _))
            kas_types
            exact next hst r₂ k₂ e₂ (by rw [e₃]; lcg_off) _ (by keq_rows)
        · cases row with
          | ifnot t n => exact absurd rfl hfl
          | jump n => exact absurd rfl hfl
          | st s =>
            cases s with
            | goto l => exact absurd rfl hfl
            | gosub l => exact absurd rfl hfl
            | ongo g t ls => exact absurd rfl hfl
            | ret => exact absurd rfl hfl
            | if_ t a b => exact absurd rfl hfl
            | end_ =>
              dsimp only [encR, encS_end, encS_rem, encS_let]
              kas_types
              refine okbE_return ?_
              kas_types
              refine callf_len (.inr (.inr ⟨_, rfl, r₁.rows⟩)) (le_line (by simp; lcg_off)) ?_
              kas_types
              rw [stopN_ok hrow (m₂ := { m₁ with pc := P.rows.length }) rfl, stopN_done (Nat.le_refl _)] at hm₁
              have hq := h (Prod.mk.inj hm₁).2.symm _ _ (((Prod.mk.inj hm₁).1 : { m₁ with pc := P.rows.length } = m') ▸ r₁.same (m' := { m₁ with pc := P.rows.length }) rfl rfl rfl) k₁ hk₁
              rw [← ((Prod.mk.inj hm₁).1 : { m₁ with pc := P.rows.length } = m')] at hq
              unfold goQ at hq
              rw [if_pos (Nat.le_refl _)] at hq
              refine hB (.ret _) _ _ (loopj_ret ?_)
              kas_types
              simpa using hq
            | rem s =>
              dsimp only [encR, encS_end, encS_rem, encS_let]
              kas_types
              with_reducible refine ok_meth ?_ (by lcg_sub) (by lcg_sub) (by lcg_sub) (by lcg_sub)
              kas_types
              refine mk_meth (meth_append r₁.notes) rfl ?_
              kas_types
              with_reducible refine ok_meth ?_ (by lcg_sub) (by lcg_sub) (by lcg_sub) (by lcg_sub)
              kas_types
              refine mk_meth e3 LB.FlowRun_value_of_name.keep ?_
              kas_types
              refine (t_value_of_name LB r₁ ?_).f (by lcg_off)
              kas_types
              refine callf_append r₁.notes (le_line (by simp; lcg_off)) ?_
              refine okbE_aug (by kpt_turns) (by k_upd) ?_
              kas_types
              refine run_iadd ?_
              kas_types
              obtain ⟨r₂, k₂⟩ := r₁.addNote (m' := { m₁ with notes := m₁.notes ++ [(s, (m₁.vals "X").getD 0)], pc := m₁.pc + 1 }) rfl rfl
              have nx : ∀ lk₂, Sub ([("self", .ref o.kRun), ("at", .int ((m₁.pc : Int) + 1)), ("most", .int most)] : Loc) lk₂ → QB .next lk₂ _ := next rfl r₂ k₂ (.inl rfl) (by simp; lcg_off)
              simp only [List.map_append] at nx
              exact nx _ (by keq_rows)
            | let_ x t =>
              dsimp only [encR, encS_end, encS_rem, encS_let]
              kas_types
              with_reducible refine ok_meth ?_ (by lcg_sub) (by lcg_sub) (by lcg_sub) (by lcg_sub)
              kas_types
              refine mk_meth e4 LB.FlowRun_store.keep ?_
              kas_types
              with_reducible refine ok_meth ?_ (by lcg_sub) (by lcg_sub) (by lcg_sub) (by lcg_sub)
              kas_types
              refine mk_meth e1 LB.FlowRun_worth.keep ?_
              kas_types
              refine (t_worth LB W r₁ ?_).f (by lcg_off)
              kas_types
              refine (t_store LB r₁ ?_).f (by lcg_off)
              refine okbE_aug (by kpt_turns) (by k_upd) ?_
              kas_types
              refine run_iadd ?_
              kas_types
              obtain ⟨r₂, k₂⟩ := r₁.setVals (m' := { m₁ with vals := fun y => if y = x then some (w t m₁.vals) else m₁.vals y, pc := m₁.pc + 1 }) rfl rfl (fun y hy => by
                by_cases hyx : y = x
                · subst hyx; exact hwf
                · simp only [if_neg hyx] at hy; exact r₁.few y hy)
              have nx : ∀ lk₂, Sub ([("self", .ref o.kRun), ("at", .int ((m₁.pc : Int) + 1)), ("most", .int most)] : Loc) lk₂ → QB .next lk₂ _ := next rfl r₂ k₂ (.inl rfl) (by simpa using (by lcg_off : m₁.notes.length + n ≤ 1000))
              rw [show (fun y => Option.map V.int (if y = x then some (w t m₁.vals) else m₁.vals y)) = (fun y => if y = x then some (.int (w t m₁.vals)) else (m₁.vals y).map .int) from funext fun y => by
                by_cases hyx : y = x
                · rw [if_pos hyx, if_pos hyx]; rfl
                · rw [if_neg hyx, if_neg hyx]] at nx
              exact nx _ (by keq_rows)
  · obtain ⟨n, a, m₁, kp₁, hx, rfl, r₁, k₁, hk₁, hm₁, hn₁, hp₁⟩ := hJ
    cases n with
    | succ n => cases hx
    | zero =>
      cases hm₁
      obtain ⟨f1, f2, f3, f4, f5, f6, f7, f8⟩ := r₁.f_ LB
      have hlen := r₁.len
      kas_types
      refine okbE_return ?_
      kas_types
      refine callf_len (.inr (.inr ⟨_, rfl, r₁.rows⟩)) (le_line (by simp; lcg_off)) ?_
      kas_types
      have hq := h rfl _ _ r₁ k₁ hk₁
      refine t_dec (fun e => ?_) (fun e => ?_)
      · kas_types
        unfold goQ at hq
        rw [if_pos (by simpa using e)] at hq
        exact hq
      · kas_types
        unfold goQ at hq
        rw [if_neg (by simpa using e)] at hq
        exact hq
end
end
-- Q4
theorem flatSs_append {line : Int} : ∀ (a b : List St) (n : Nat), flatSs line n (a ++ b) = flatSs line n a ++ flatSs line (n + (flatSs line n a).length) b
  | [], b, n => by simp [flatSs_nil, flatSs_cons]
  | s :: a, b, n => by simp [flatSs_nil, flatSs_cons, flatSs_append a b, List.append_assoc, Nat.add_assoc]
section
variable {w : Wf} {P : Prg} {n r : Nat} {m m' : Ms}
theorem stop_of_go : ∀ (n : Nat) {m m' : Ms}, goN w P n m = .ok m' → stopN w P (n + r) m = stopN w P r m'
  | 0, m, m', h => by simp only [goN_zero, goN_succ, Except.ok.injEq] at h; subst h; rw [Nat.zero_add]
  | n + 1, m, m', h => by
    cases hr : P.rows[m.pc]? with
    | none =>
      simp only [goN_zero, goN_succ, hr, Except.ok.injEq] at h
      subst h
      rw [stopN_done (List.getElem?_eq_none_iff.mp hr), stopN_done (List.getElem?_eq_none_iff.mp hr)]
    | some q =>
      obtain ⟨l, row⟩ := q
      simp only [goN_zero, goN_succ, hr] at h
      cases hs : step w P m row with
      | error e => rw [hs] at h; cases h
      | ok m1 =>
        rw [hs] at h
        rw [show n + 1 + r = (n + r) + 1 by lcg_off, stopN_ok hr hs]
        exact stop_of_go n h
theorem Runs.stop (h : Runs w P n m m') : stopN w P (n + r) m = stopN w P r m' := stop_of_go n h.ok
theorem stop_go (h : goN w P n m = .ok m') : stopN w P n m = (m', none) := stop_of_go (r := 0) n h
theorem stopN_pile : ∀ (n : Nat) {m : Ms}, m.pile.length ≤ 20 → (stopN w P n m).1.pile.length ≤ 20
  | 0, m, h => h
  | n + 1, m, h => by
    cases hr : P.rows[m.pc]? with
    | none => rw [stopN_done (List.getElem?_eq_none_iff.mp hr)]; exact h
    | some q =>
      obtain ⟨l, row⟩ := q
      cases hs : step w P m row with
      | error e => rw [stopN_err hr hs]; exact h
      | ok m1 => rw [stopN_ok hr hs]; exact stopN_pile n (step_pile hs h)
theorem stopN_strs (hP : ∀ x ∈ P.rows, remOk x.2 = true) : ∀ (n : Nat) {m : Ms}, (∀ p ∈ m.notes, PyData.strOk p.1 = true) → ∀ p ∈ (stopN w P n m).1.notes, PyData.strOk p.1 = true
  | 0, m, h => h
  | n + 1, m, h => by
    cases hr : P.rows[m.pc]? with
    | none => rw [stopN_done (List.getElem?_eq_none_iff.mp hr)]; exact h
    | some q =>
      obtain ⟨l, row⟩ := q
      cases hs : step w P m row with
      | error e => rw [stopN_err hr hs]; exact h
      | ok m1 =>
        rw [stopN_ok hr hs]
        refine stopN_strs hP n ?_
        rcases step_note hs with e | ⟨s, v, rfl, e⟩
        · rw [e]; exact h
        · rw [e]
          intro p hp
          rcases List.mem_append.mp hp with hp | hp
          · exact h p hp
          · rw [List.mem_singleton.mp hp]
            exact hP _ (List.mem_of_getElem? hr)
theorem stopN_notes : ∀ (n : Nat) {m : Ms}, (stopN w P n m).1.notes.length ≤ m.notes.length + n
  | 0, m => Nat.le_refl _
  | n + 1, m => by
    cases hr : P.rows[m.pc]? with
    | none => rw [stopN_done (List.getElem?_eq_none_iff.mp hr)]; exact Nat.le_add_right _ _
    | some q =>
      obtain ⟨l, row⟩ := q
      cases hs : step w P m row with
      | error e => rw [stopN_err hr hs]; exact Nat.le_add_right _ _
      | ok m1 =>
        rw [stopN_ok hr hs]
        have := stopN_notes n (m := m1)
        have : m1.notes.length ≤ m.notes.length + 1 := by
          rcases step_note hs with e | ⟨_, _, _, e⟩ <;> rw [e] <;> simp
        lcg_off
end
noncomputable def SR (parts : List Pt) : Nat → List Nat → Ms → Prop
  | 0, stk, m => m.pile = pile0 parts stk
  | 1, stk, m => (m.vals "K").getD 0 = ((kOf stk : Nat) : Int) ∧ m.pile = []
  | _, stk, m => m.pile = pile2 parts stk
noncomputable def Fail (parts : List Pt) : Nat → Ms → Prop
  | 1, m => ∃ l, (prg parts 1).rows[m.pc]? = some (l, .st (.goto 999))
  | way, m => (∃ l, (prg parts way).rows[m.pc]? = some (l, .st .ret)) ∧ m.pile = []
noncomputable def PcAt (parts : List Pt) (way i pc : Nat) : Prop := pc = base parts way i ∨ (i = 6 ∧ pc = (prg parts way).rows.length)
structure EndAt (parts : List Pt) (way t : Nat) (m m' : Ms) (q : Option (Nat × List Nat)) : Prop where
  runs : Runs w2 (prg parts way) t m m'
  nt : m'.notes = m.notes
  ag : Agree m.vals m'.vals
  to : ∀ x, q = some x → PcAt parts way x.1 m'.pc ∧ SR parts way x.2 m'
  bad : q = none → SR parts way [] m' ∧ Fail parts way m'
theorem Agree.refl (v : Vals) : Agree v v := ⟨rfl, rfl, rfl⟩
theorem Agree.trans {u v w : Vals} (h : Agree u v) (h' : Agree v w) : Agree u w := ⟨h.1.trans h'.1, h.2.1.trans h'.2.1, h.2.2.trans h'.2.2⟩
section
variable {parts : List Pt} {way t a : Nat} {m m' m₁ : Ms} {q : Option (Nat × List Nat)}
theorem EndAt.pre (h : Runs w2 (prg parts way) a m m₁) (hn : m₁.notes = m.notes) (ha : Agree m.vals m₁.vals) (e : EndAt parts way t m₁ m' q) : EndAt parts way (a + t) m m' q :=
  ⟨h.trans e.runs, e.nt.trans hn, ha.trans e.ag, e.to, e.bad⟩
theorem EndAt.ev {l : List St} {line : Int} {k : Nat} {v' : Vals} {o : Out} {pc' : Nat} {x : Nat × List Nat} (hat : At (prg parts way) m.pc (flatSs line m.pc l)) (he : evSs w2 l m.vals m.notes = some (k, v', m.notes, o))
    (hd : dest (prg parts way) (m.pc + (flatSs line m.pc l).length) o = some pc') (ha : Agree m.vals v') (hpc : PcAt parts way x.1 pc') (hs : SR parts way x.2 ⟨pc', v', m.pile, m.notes⟩) : EndAt parts way k m ⟨pc', v', m.pile, m.notes⟩ (some x) :=
  ⟨evSs_ok l hat he hd, rfl, ha, fun y hy => by cases hy; exact ⟨hpc, hs⟩, fun e => nomatch e⟩
theorem pt_some (hl : parts.length = 6) {c : Nat} (hc : c < 6) : ∃ p, parts[c]? = some p ∧ kd parts c = p.kind := by
  have h : parts[c]? = some parts[c] := List.getElem?_eq_getElem (by lcg_off)
  exact ⟨_, h, by unfold kd; rw [h]; rfl⟩
theorem pile0_cons {c : Nat} {r : List Nat} : pile0 parts (c :: r) = pile0 parts r ++ [e0 parts c] := by simp [pile0]
theorem pile2_four {c : Nat} {r : List Nat} (h : kd parts c = 4) : pile2 parts (c :: r) = pile2 parts r := by simp [pile2, keep2, h]
theorem pile2_cons {c : Nat} {r : List Nat} (h : kd parts c ≠ 4) : pile2 parts (c :: r) = pile2 parts r ++ [e2 parts c] := by simp [pile2, keep2, h]
theorem step_ret {w : Wf} {P : Prg} {m : Ms} {l : List Ent} {n : Nat} (h : m.pile = l ++ [.gosub n]) : step w P m (.st .ret) = .ok ⟨n, m.vals, l, m.notes⟩ := by
  simp only [step, h, List.getLast?_append, List.getLast?_singleton, Option.some_or, List.dropLast_concat]
theorem four_ret {c : Nat} {p : Pt} (hp : parts[c]? = some p) (h4 : p.kind = 4) : base parts 0 (c + 1) = base parts 0 c + 5 ∧ (prg parts 0).rows[base parts 0 c + 4]? = some (ln c, .st .ret) := by
  have e : lineS parts 0 c p = bodyS p c ++ [.gosub (ln (2 * (1 + p.one))), .ret] := by simp [lineS, leadS, h4, goneS, backS]
  refine ⟨?_, ?_⟩
  · rw [base_succ hp (by simp), e]; rfl
  · have := line_at (way := 0) hp
    rw [e] at this
    exact this 4 _ rfl
theorem ret0 (hl : parts.length = 6) : ∀ (stk : List Nat) (m : Ms) (l : Int), (∀ x ∈ stk, x < 6) → (prg parts 0).rows[m.pc]? = some (l, .st .ret) → m.pile = pile0 parts stk → ∃ m', EndAt parts 0 (rc parts 0 stk) m m' (retTo parts stk)
  | [], m, l, hs, hr, hp => ⟨m, Runs.refl (w := w2), rfl, .refl _, (fun x hx => nomatch hx), fun zz => ⟨hp, ⟨l, hr⟩, hp⟩⟩
  | c :: r, m, l, hs, hr, hp => by
    obtain ⟨p, hp1, hk⟩ := pt_some hl (hs c (.head _))
    by_cases h4 : kd parts c = 4
    · obtain ⟨b1, b2⟩ := four_ret hp1 (hk.symm.trans h4)
      have he : e0 parts c = .gosub (base parts 0 c + 4) := by rw [e0, if_pos h4, b1]; rfl
      rw [pile0_cons, he] at hp
      have s1 := Runs.one (w := w2) hr (step_ret hp) (List.prefix_refl _)
      obtain ⟨m', h'⟩ := ret0 hl r ⟨base parts 0 c + 4, m.vals, pile0 parts r, m.notes⟩ (ln c) (fun x hx => hs x (.tail _ hx)) b2 rfl
      refine ⟨m', ?_⟩
      have e1 : rc parts 0 (c :: r) = 1 + rc parts 0 r := by simp only [rc, rcost, pops_cons, retTo_cons, if_pos h4]; simp; lcg_off
      have e2 : retTo parts (c :: r) = retTo parts r := by rw [retTo_cons, if_pos h4]
      rw [e1, e2]
      exact .pre s1 rfl (.refl _) h'
    · have he : e0 parts c = .gosub (base parts 0 (c + 1)) := by rw [e0, if_neg h4]
      rw [pile0_cons, he] at hp
      have s1 := Runs.one (w := w2) hr (step_ret hp) (List.prefix_refl _)
      have e2 : retTo parts (c :: r) = some (c + 1, r) := by rw [retTo_cons, if_neg h4]
      have e1 : rc parts 0 (c :: r) = 1 := by simp only [rc, rcost, pops_cons, e2, if_neg h4]; rfl
      rw [e1, e2]
      exact ⟨_, s1, rfl, .refl _, fun x hx => by cases hx; exact ⟨.inl rfl, rfl⟩, fun e => nomatch e⟩
theorem ret2 (hl : parts.length = 6) : ∀ (stk : List Nat) (m : Ms) (l : Int), (∀ x ∈ stk, x < 6) → (prg parts 2).rows[m.pc]? = some (l, .st .ret) → m.pile = pile2 parts stk → ∃ m', EndAt parts 2 (rc parts 2 stk) m m' (retTo parts stk)
  | [], m, l, hs, hr, hp => ⟨m, Runs.refl, rfl, .refl _, (fun x hx => nomatch hx), fun zz => ⟨hp, ⟨l, hr⟩, hp⟩⟩
  | c :: r, m, l, hs, hr, hp => by
    obtain ⟨p, hp1, hk⟩ := pt_some hl (hs c (.head _))
    by_cases h4 : kd parts c = 4
    · rw [pile2_four h4] at hp
      have e2 : retTo parts (c :: r) = retTo parts r := by rw [retTo_cons, if_pos h4]
      have e1 : rc parts 2 (c :: r) = rc parts 2 r := by simp only [rc, rcost, e2]; simp
      rw [e1, e2]
      exact ret2 hl r m l (fun x hx => hs x (.tail _ hx)) hr hp
    · rw [pile2_cons h4, Mine.e2] at hp
      have s1 := Runs.one (w := w2) hr (step_ret hp) (List.prefix_refl _)
      have e2 : retTo parts (c :: r) = some (c + 1, r) := by rw [retTo_cons, if_neg h4]
      have e1 : rc parts 2 (c :: r) = 1 := by simp only [rc, rcost, e2]; rfl
      rw [e1, e2]
      exact ⟨_, s1, rfl, .refl _, fun x hx => by cases hx; exact ⟨.inl rfl, rfl⟩, fun e => nomatch e⟩
theorem ret3_ev {v : Vals} {n : Nts} {d k : Nat} (hv : (v "K").getD 0 = ((k * 10 + d : Nat) : Int)) (hd : d ≤ 6) :
    evSs w2 (ret3 parts) v n = some (3, setV (setV v "W" d) "K" k, n, if d = 0 then .fall else .goto (backN parts (d - 1))) := by
  have hW : w2 ("last", "K", 0) v = d := by rw [w2_last, hv, Int.fmod_eq_emod_of_nonneg _ (by decide)]; lcg_off
  have hK : w2 ("ahead", "K", 0) (setV v "W" d) = k := by rw [w2_ahead, setV_ne ne_KW, hv, Int.fdiv_eq_ediv_of_nonneg _ (by decide)]; lcg_off
  have hS : w2 ("same", "W", 0) (setV (setV v "W" d) "K" k) = d := by rw [w2_same, setV_ne (Ne.symm ne_KW), setV_hit]; rfl
  have h1 : (0 : Int) ≤ d ∧ (d : Int) ≤ 255 := by lcg_off
  simp only [ret3, evSs_nil, evSs_cons, evS_let, evS_rem, evS_goto, evS_ongo, evS_if, hW, hK, hS]
  rw [if_pos ⟨trivial, h1⟩]
  by_cases h0 : d = 0
  · rw [if_neg (by simp; lcg_off), if_pos h0]; rfl
  · rw [if_pos (by simp; lcg_off), if_neg h0]
    have : (((List.range 6).map (backN parts))[((d : Int) - 1).toNat]?) = some (backN parts (d - 1)) := by
      rw [show ((d : Int) - 1).toNat = d - 1 by lcg_off, List.getElem?_map, List.getElem?_range (by lcg_off)]; rfl
    rw [this]; rfl
theorem ret1 (hl : parts.length = 6) : ∀ (stk : List Nat) (m : Ms) (l : Int), (∀ x ∈ stk, x < 6) → At (prg parts 1) m.pc (flatSs l m.pc (retS parts)) → SR parts 1 stk m → ∃ m', EndAt parts 1 (rc parts 1 stk) m m' (retTo parts stk)
  | [], m, l, hs, hr, ⟨hk, hp⟩ => by
    rw [retS, flatSs_append] at hr
    have ev := ret3_ev (parts := parts) (v := m.vals) (n := m.notes) (d := 0) (k := 0) hk (by decide)
    have s1 := evSs_ok (pc' := m.pc + 3) _ hr.left ev rfl
    refine ⟨⟨m.pc + 3, setV (setV m.vals "W" ((0 : Nat) : Int)) "K" ((0 : Nat) : Int), m.pile, m.notes⟩, s1, rfl, ?_, (fun x hx => nomatch hx), fun zz => ⟨⟨?_, hp⟩, l, hr.right.head⟩⟩
    · exact ((Agree.refl m.vals).set_r _ _ nW).set_r _ _ nK
    · show (setV (setV m.vals "W" ((0 : Nat) : Int)) "K" ((0 : Nat) : Int) "K").getD 0 = _
      rw [setV_hit]; rfl
  | c :: r, m, l, hs, hr, ⟨hk, hp⟩ => by
    have hc := hs c (.head _)
    obtain ⟨p, hp1, hkd⟩ := pt_some hl hc
    rw [retS, flatSs_append] at hr
    have ev := ret3_ev (parts := parts) (v := m.vals) (n := m.notes) (d := c + 1) (k := kOf r) hk (by lcg_off)
    rw [if_neg (Nat.succ_ne_zero c), Nat.add_sub_cancel] at ev
    have ag : Agree m.vals (setV (setV m.vals "W" ((c + 1 : Nat) : Int)) "K" (kOf r)) := ((Agree.refl m.vals).set_r _ _ nW).set_r _ _ nK
    have hK : (setV (setV m.vals "W" ((c + 1 : Nat) : Int)) "K" (kOf r) "K").getD 0 = ((kOf r : Nat) : Int) := by rw [setV_hit]; rfl
    by_cases h4 : kd parts c = 4
    · have hk4 := hkd.symm.trans h4
      have s1 := evSs_ok (pc' := base4 parts c p) _ hr.left ev (by show (prg parts 1).places (backN parts c) = _; rw [backN, if_pos h4]; exact four_place hl hp1 hk4)
      obtain ⟨m', h'⟩ := ret1 hl r ⟨base4 parts c p, setV (setV m.vals "W" ((c + 1 : Nat) : Int)) "K" (kOf r), m.pile, m.notes⟩ (ln c + 5) (fun x hx => hs x (.tail _ hx)) (four_at hp1 hk4) ⟨hK, hp⟩
      have e2 : retTo parts (c :: r) = retTo parts r := by rw [retTo_cons, if_pos h4]
      have e1 : rc parts 1 (c :: r) = 3 + rc parts 1 r := by simp only [rc, rcost, pops_cons, if_pos h4, if_true]; lcg_off
      rw [e1, e2]
      exact ⟨m', .pre s1 rfl ag h'⟩
    · have hpl : (prg parts 1).places (backN parts c) = some (base parts 1 (c + 1)) := by
        rw [backN, if_neg h4]
        by_cases h5 : c < 5
        · have h := line_place (way := 1) hl (List.getElem?_eq_getElem (show c + 1 < parts.length by lcg_off))
          exact h
        · obtain rfl : c = 5 := by lcg_off
          exact (base1_last hl).2
      have s1 := evSs_ok (pc' := base parts 1 (c + 1)) _ hr.left ev hpl
      have e2 : retTo parts (c :: r) = some (c + 1, r) := by rw [retTo_cons, if_neg h4]
      have e1 : rc parts 1 (c :: r) = 3 := by simp only [rc, rcost, pops_cons, if_neg h4, if_true]
      rw [e1, e2]
      exact ⟨_, s1, rfl, ag, fun x hx => by cases hx; exact ⟨.inl rfl, hK, hp⟩, fun e => nomatch e⟩
end
-- Q5
structure LeadAt (parts : List Pt) (i : Nat) (p : Pt) (way : Nat) (stk : List Nat) (m : Ms) : Prop where
  hl : parts.length = 6
  hp : parts[i]? = some p
  ok : p.Ok
  ab : AB m.vals
  st : ∀ x ∈ stk, x < 6
  sr : SR parts way stk m
  at_ : At (prg parts way) m.pc (flatSs (ln i) m.pc (leadS parts i p way))
  nx : ¬ (way = 1 ∧ p.kind = 4) → m.pc + (flatSs (ln i) m.pc (leadS parts i p way)).length = base parts way (i + 1)
  few : way = 1 ∨ stk.length < 20
section
variable {parts : List Pt} {i way : Nat} {p : Pt} {stk : List Nat} {m m' : Ms}
theorem LeadAt.pl (L : LeadAt parts i p way stk m) {j : Nat} (hj : j < 6) : (prg parts way).places (ln j) = some (base parts way j) :=
  line_place L.hl (List.getElem?_eq_getElem (by have := L.hl; lcg_off))
theorem LeadAt.i6 (L : LeadAt parts i p way stk m) : i < 6 := by rw [← L.hl]; exact (List.getElem?_eq_some_iff.mp L.hp).1
theorem LeadAt.kd (L : LeadAt parts i p way stk m) : Mine.kd parts i = p.kind := by unfold Mine.kd; rw [L.hp]; rfl
theorem SR.mv (h : SR parts way stk m) (h1 : m'.pile = m.pile) (h2 : m'.vals "K" = m.vals "K") : SR parts way stk m' := by
  match way, h with
  | 0, h => exact h1.trans h
  | 1, h => exact ⟨by rw [h2]; exact h.1, h1.trans h.2⟩
  | n + 2, h => exact h1.trans h
theorem keep2_le : (keep2 parts stk).length ≤ stk.length := List.length_filter_le _ _
theorem SR.len (h : SR parts way stk m) (hw : way ≠ 1) : m.pile.length ≤ stk.length := by
  match way, h with
  | 0, h => rw [show m.pile = _ from h]; simp [pile0]
  | 1, h => exact absurd rfl hw
  | n + 2, h => rw [show m.pile = _ from h]; simp only [pile2, List.length_reverse, List.length_map]; exact keep2_le
theorem SR.push0 {n pc : Nat} {v : Vals} {nt : Nts} (h : SR parts 0 stk m) (he : e0 parts i = .gosub n) : SR parts 0 (i :: stk) ⟨pc, v, m.pile ++ [.gosub n], nt⟩ := by
  show m.pile ++ [.gosub n] = pile0 parts (i :: stk)
  rw [pile0_cons, he, show m.pile = _ from h]
theorem SR.push2 {n pc : Nat} {v : Vals} {nt : Nts} (h : SR parts 2 stk m) (h4 : kd parts i ≠ 4) (he : n = base parts 2 (i + 1)) : SR parts 2 (i :: stk) ⟨pc, v, m.pile ++ [.gosub n], nt⟩ := by
  show m.pile ++ [.gosub n] = pile2 parts (i :: stk)
  rw [pile2_cons h4, Mine.e2, ← he, show m.pile = _ from h]
theorem tst_pos {v : Vals} (h : isT p v) : w2 (tst p) v ≠ 0 := w2_is_ne.mpr h
theorem tst_neg {v : Vals} (h : ¬ isT p v) : ¬ w2 (tst p) v ≠ 0 := fun e => h (w2_is_ne.mp e)
theorem gone1_ev {part : Nat} {v : Vals} {n : Nts} (hK : (v "K").getD 0 = ((kOf stk : Nat) : Int)) : evSs w2 (goneS i part 1) v n = some (2, setV v "K" ((kOf (i :: stk) : Nat) : Int), n, .goto (ln (2 * part))) := by
  have : w2 ("pushed", "K", i + 1) v = ((kOf (i :: stk) : Nat) : Int) := by rw [w2_pushed, hK]; simp [kOf]
  rw [goneS, if_neg (by decide)]
  simp only [evSs_nil, evSs_cons, evS_let, evS_rem, evS_goto, evS_ongo, evS_if, this]
  rfl
theorem SR.push1 {pc : Nat} {v : Vals} {nt : Nts} (h : m.pile = []) : SR parts 1 (i :: stk) ⟨pc, setV v "K" ((kOf (i :: stk) : Nat) : Int), m.pile, nt⟩ :=
  ⟨by show (setV v "K" _ "K").getD 0 = _; rw [setV_hit]; rfl, h⟩
theorem ag_K (v : Vals) (n : Int) : Agree v (setV v "K" n) := (Agree.refl v).set_r _ _ nK
theorem ev_one {l : List St} {k : Nat} {v' : Vals} {o : Out} {j : Nat} {stk' : List Nat} (L : LeadAt parts i p way stk m) (hl : leadS parts i p way = l) (he : evSs w2 l m.vals m.notes = some (k, v', m.notes, o)) (ha : Agree m.vals v')
    (hd : (o = .fall ∧ j = i + 1 ∧ ¬ (way = 1 ∧ p.kind = 4)) ∨ (∃ j', j' < 6 ∧ o = .goto (ln j') ∧ j = j') ∨ (o = .end_ ∧ j = 6)) (hs : ∀ pc', SR parts way stk' ⟨pc', v', m.pile, m.notes⟩) : ∃ m', EndAt parts way k m m' (some (j, stk')) := by
  subst hl
  rcases hd with ⟨rfl, rfl, h4⟩ | ⟨j', h6, rfl, rfl⟩ | ⟨rfl, rfl⟩
  · exact ⟨_, EndAt.ev L.at_ he rfl ha (.inl (L.nx h4)) (hs _)⟩
  · exact ⟨_, EndAt.ev L.at_ he (L.pl h6) ha (.inl rfl) (hs _)⟩
  · exact ⟨_, EndAt.ev L.at_ he rfl ha (.inr ⟨rfl, rfl⟩) (hs _)⟩
theorem back_ok (hl : parts.length = 6) (hw : way < 3) {l : Int} (hs : ∀ x ∈ stk, x < 6) (hat : At (prg parts way) m.pc (flatSs l m.pc (backS parts way))) (h : SR parts way stk m) : ∃ m', EndAt parts way (rc parts way stk) m m' (retTo parts stk) := by
  obtain rfl | rfl | rfl : way = 0 ∨ way = 1 ∨ way = 2 := by lcg_off
  · exact ret0 hl stk m l hs hat.head h
  · exact ret1 hl stk m l hs hat h
  · exact ret2 hl stk m l hs hat.head h
theorem lead1 (L : LeadAt parts i p way stk m) (hk : p.kind = 1) : ∃ m', EndAt parts way (cst parts way p m.vals stk) m m' (goes parts i p m.vals stk) := by
  have e : leadS parts i p way = [.if_ (tst p) [.goto (ln (i / 2 * 2 + p.one))] []] := by simp [leadS, hk]
  have h6 : i / 2 * 2 + p.one < 6 := by have := L.i6; have := L.ok.one; lcg_off
  unfold cst goes
  rw [if_pos hk, if_pos hk]
  by_cases ht : isT p m.vals
  · rw [if_pos ht, if_pos ht]
    exact ev_one L e (by have := tst_pos ht; simp [evSs_nil, evSs_cons, evS_let, evS_rem, evS_goto, evS_ongo, evS_if, this]) (.refl _) (.inr (.inl ⟨_, h6, rfl, rfl⟩)) fun pc => L.sr.mv rfl rfl
  · rw [if_neg ht, if_neg ht]
    exact ev_one L e (by have := tst_neg ht; simp only [evSs_nil, evSs_cons, evS_let, evS_rem, evS_goto, evS_ongo, evS_if, if_neg this]; rfl) (.refl _) (.inl ⟨rfl, rfl, fun h => by lcg_off⟩) fun pc => L.sr.mv rfl rfl
theorem call_ok (L : LeadAt parts i p way stk m) {one : Nat} {row : Row} {l : Int} (h1 : one < 2) (hr : (prg parts way).rows[m.pc]? = some (l, row))
    (hs : ∀ n, (prg parts way).places (ln (2 + 2 * one)) = some n → m.pile.length < 20 → step w2 (prg parts way) m row = .ok ⟨n, m.vals, m.pile ++ [.gosub (m.pc + 1)], m.notes⟩) (hw : way ≠ 1)
    (hsr : ∀ n, SR parts way (i :: stk) ⟨n, m.vals, m.pile ++ [.gosub (m.pc + 1)], m.notes⟩) : ∃ m', EndAt parts way 1 m m' (some (2 + 2 * one, i :: stk)) := by
  have hlen := L.sr.len hw
  have hf : stk.length < 20 := L.few.resolve_left hw
  have s1 := Runs.one (w := w2) hr (hs _ (L.pl (j := 2 + 2 * one) (by lcg_off)) (by lcg_off)) (List.prefix_refl _)
  exact ⟨_, s1, rfl, .refl _, fun x hx => by cases hx; exact ⟨.inl rfl, hsr _⟩, fun e => nomatch e⟩
theorem step_gosub {P : Prg} {l : Int} {n : Nat} (h : P.places l = some n) (hp : m.pile.length < 20) : step w2 P m (.st (.gosub l)) = .ok ⟨n, m.vals, m.pile ++ [.gosub (m.pc + 1)], m.notes⟩ := by
  simp only [step, h, if_pos hp]
theorem lead2 (L : LeadAt parts i p way stk m) (hw : way < 3) (hk : p.kind = 2) : ∃ m', EndAt parts way (cst parts way p m.vals stk) m m' (goes parts i p m.vals stk) := by
  have hkd := L.kd
  have h1 := L.ok.one
  have e4 : kd parts i ≠ 4 := by lcg_off
  have e21 : 2 * (1 + p.one) = 2 + 2 * p.one := by lcg_off
  unfold cst goes
  simp only [hk]
  obtain rfl | rfl | rfl : way = 0 ∨ way = 1 ∨ way = 2 := by lcg_off
  · have e : leadS parts i p 0 = [.gosub (ln (2 + 2 * p.one))] := by simp [leadS, hk, goneS, e21]
    have hat := L.at_
    have hnx := L.nx (by lcg_off)
    rw [e] at hat hnx
    exact call_ok L h1 hat.head (fun n hn hp => step_gosub hn hp) (by decide) fun n => L.sr.push0 (by rw [e0, if_neg e4, ← hnx]; rfl)
  · have e : leadS parts i p 1 = goneS i (1 + p.one) 1 := by simp [leadS, hk]
    exact ev_one L e (gone1_ev L.sr.1) (ag_K _ _) (.inr (.inl ⟨2 + 2 * p.one, by lcg_off, by rw [e21], rfl⟩)) fun pc => SR.push1 L.sr.2
  · have e : leadS parts i p 2 = [.gosub (ln (2 + 2 * p.one))] := by simp [leadS, hk, goneS, e21]
    have hat := L.at_
    have hnx := L.nx (by lcg_off)
    rw [e] at hat hnx
    exact call_ok L h1 hat.head (fun n hn hp => step_gosub hn hp) (by decide) fun n => L.sr.push2 e4 hnx
theorem step_ongo {P : Prg} {l : Int} {ls : List Int} {n : Nat} {k : Nat} (hA : (m.vals "A").getD 0 = ((k + 1 : Nat) : Int)) (hk : k < ls.length) (hk2 : k < 100) (hl : ls[k]? = some l) (h : P.places l = some n) (hp : m.pile.length < 20) :
    step w2 P m (.st (.ongo "GOSUB" ("same", "A", 0) ls)) = .ok ⟨n, m.vals, m.pile ++ [.gosub (m.pc + 1)], m.notes⟩ := by
  have hw : w2 ("same", "A", 0) m.vals = ((k + 1 : Nat) : Int) := by rw [w2_same]; exact hA
  simp only [step, hw]
  rw [if_pos (by lcg_off), if_pos (by lcg_off), show (((k + 1 : Nat) : Int) - 1).toNat = k by lcg_off, hl]
  simp only [Option.bind_some, h, if_pos hp, if_true]
theorem step_ongo_off {P : Prg} {ls : List Int} (h1 : 0 ≤ (m.vals "A").getD 0) (h2 : (m.vals "A").getD 0 < 5) (h : ¬ (1 ≤ (m.vals "A").getD 0 ∧ (m.vals "A").getD 0 ≤ ls.length)) :
    step w2 P m (.st (.ongo "GOSUB" ("same", "A", 0) ls)) = .ok { m with pc := m.pc + 1 } := by
  simp only [step, w2_same]
  rw [if_pos (by lcg_off), if_neg h]
theorem lead3 (L : LeadAt parts i p way stk m) (hw : way < 3) (hk : p.kind = 3) : ∃ m', EndAt parts way (cst parts way p m.vals stk) m m' (goes parts i p m.vals stk) := by
  have hkd := L.kd
  have h1 := L.ok.one
  have h2 := L.ok.other
  have hA : 0 ≤ (m.vals "A").getD 0 ∧ (m.vals "A").getD 0 < 5 := L.ab 0
  have e4 : kd parts i ≠ 4 := by lcg_off
  have e21 : 2 * (1 + p.one) = 2 + 2 * p.one := by lcg_off
  have e22 : 2 * (1 + p.other) = 2 + 2 * p.other := by lcg_off
  unfold cst goes
  simp only [hk]
  by_cases hw1 : way = 1
  · subst hw1
    have e : leadS parts i p 1 = [.if_ ("is", "A", 1) (goneS i (1 + p.one) 1) [.if_ ("is", "A", 2) (goneS i (1 + p.other) 1) []]] := by simp [leadS, hk]
    by_cases a1 : (m.vals "A").getD 0 = 1
    · have w1 : w2 ("is", "A", 1) m.vals ≠ 0 := w2_is_ne.mpr a1
      simp only [a1]
      refine ev_one L e (k := 3) (v' := setV m.vals "K" ((kOf (i :: stk) : Nat) : Int)) (o := .goto (ln (2 * (1 + p.one)))) ?_ (ag_K _ _) (.inr (.inl ⟨2 + 2 * p.one, by lcg_off, by rw [e21], rfl⟩)) fun pc => SR.push1 L.sr.2
      have := gone1_ev (i := i) (part := 1 + p.one) (n := m.notes) L.sr.1
      simp only [evSs_nil, evSs_cons, evS_let, evS_rem, evS_goto, evS_ongo, evS_if, if_pos w1, this]
      rfl
    · have w1 : ¬ w2 ("is", "A", 1) m.vals ≠ 0 := fun e => a1 (w2_is_ne.mp e)
      by_cases a2 : (m.vals "A").getD 0 = 2
      · have w2' : w2 ("is", "A", 2) m.vals ≠ 0 := w2_is_ne.mpr a2
        simp only [a2]
        refine ev_one L e (k := 4) (v' := setV m.vals "K" ((kOf (i :: stk) : Nat) : Int)) (o := .goto (ln (2 * (1 + p.other)))) ?_ (ag_K _ _) (.inr (.inl ⟨2 + 2 * p.other, by lcg_off, by rw [e22], rfl⟩)) fun pc => SR.push1 L.sr.2
        have := gone1_ev (i := i) (part := 1 + p.other) (n := m.notes) L.sr.1
        simp only [evSs_nil, evSs_cons, evS_let, evS_rem, evS_goto, evS_ongo, evS_if, if_neg w1, if_pos w2', this]
        rfl
      · have w2' : ¬ w2 ("is", "A", 2) m.vals ≠ 0 := fun e => a2 (w2_is_ne.mp e)
        simp only [if_neg a1, if_neg a2]
        refine ev_one L e (k := 2) (v' := m.vals) (o := .fall) ?_ (.refl _) (.inl ⟨rfl, rfl, by lcg_off⟩) fun pc => L.sr.mv rfl rfl
        simp only [evSs_nil, evSs_cons, evS_let, evS_rem, evS_goto, evS_ongo, evS_if, if_neg w1, if_neg w2']
        rfl
  · have e : leadS parts i p way = [.ongo "GOSUB" ("same", "A", 0) [ln (2 + 2 * p.one), ln (2 + 2 * p.other)]] := by simp [leadS, hk, hw1]
    have hat := L.at_
    have hnx := L.nx (by lcg_off)
    rw [e] at hat hnx
    have hsr : ∀ n, SR parts way (i :: stk) ⟨n, m.vals, m.pile ++ [.gosub (m.pc + 1)], m.notes⟩ := fun n => by
      obtain rfl | rfl : way = 0 ∨ way = 2 := by lcg_off
      · exact L.sr.push0 (by rw [e0, if_neg e4, ← hnx]; rfl)
      · exact L.sr.push2 e4 hnx
    simp only [hw1]
    by_cases a1 : (m.vals "A").getD 0 = 1
    · simp only [a1]
      exact call_ok L h1 hat.head (fun n hn hp => step_ongo (k := 0) a1 (by simp) (by decide) rfl hn hp) hw1 hsr
    · by_cases a2 : (m.vals "A").getD 0 = 2
      · simp only [a2]
        exact call_ok L h2 hat.head (fun n hn hp => step_ongo (k := 1) a2 (by simp) (by decide) rfl hn hp) hw1 hsr
      · simp only [if_neg a1, if_neg a2]
        have s1 := Runs.one (w := w2) hat.head (step_ongo_off hA.1 hA.2 (by simp; lcg_off)) (List.prefix_refl _)
        exact ⟨_, s1, rfl, .refl _, fun x hx => by cases hx; exact ⟨.inl hnx, L.sr.mv rfl rfl⟩, fun e => nomatch e⟩
theorem lead4 (L : LeadAt parts i p way stk m) (hw : way < 3) (hk : p.kind = 4) : ∃ m', EndAt parts way (cst parts way p m.vals stk) m m' (goes parts i p m.vals stk) := by
  have hkd := L.kd
  have h1 := L.ok.one
  have e4 : kd parts i = 4 := by lcg_off
  have e21 : 2 * (1 + p.one) = 2 + 2 * p.one := by lcg_off
  unfold cst goes
  simp only [hk]
  obtain rfl | rfl | rfl : way = 0 ∨ way = 1 ∨ way = 2 := by lcg_off
  · have e : leadS parts i p 0 = [.gosub (ln (2 + 2 * p.one)), .ret] := by simp [leadS, hk, goneS, backS, e21]
    have hat := L.at_
    have hnx := L.nx (by lcg_off)
    rw [e] at hat hnx
    exact call_ok L h1 hat.head (fun n hn hp => step_gosub hn hp) (by decide) fun n => L.sr.push0 (by rw [e0, if_pos e4, ← hnx]; rfl)
  · have e : leadS parts i p 1 = goneS i (1 + p.one) 1 := by simp [leadS, hk]
    exact ev_one L e (gone1_ev L.sr.1) (ag_K _ _) (.inr (.inl ⟨2 + 2 * p.one, by lcg_off, by rw [e21], rfl⟩)) fun pc => SR.push1 L.sr.2
  · have e : leadS parts i p 2 = [.goto (ln (2 + 2 * p.one))] := by simp [leadS, hk]
    exact ev_one L e rfl (.refl _) (.inr (.inl ⟨2 + 2 * p.one, by lcg_off, rfl, rfl⟩)) fun pc => (show m.pile = _ from (L.sr : m.pile = _).trans (pile2_four e4).symm)
theorem lead5 (L : LeadAt parts i p way stk m) (hw : way < 3) (hk : p.kind = 5) : ∃ m', EndAt parts way (cst parts way p m.vals stk) m m' (goes parts i p m.vals stk) := by
  have e : leadS parts i p way = backS parts way := by simp [leadS, hk]
  have hat := L.at_
  rw [e] at hat
  unfold cst goes
  simp only [hk]
  exact back_ok L.hl hw L.st hat L.sr
theorem lead6 (L : LeadAt parts i p way stk m) (hk : p.kind = 6) : ∃ m', EndAt parts way (cst parts way p m.vals stk) m m' (goes parts i p m.vals stk) := by
  have e : leadS parts i p way = [.end_] := by simp [leadS, hk]
  unfold cst goes
  simp only [hk]
  exact ev_one L e rfl (.refl _) (.inr (.inr ⟨rfl, rfl⟩)) fun pc => L.sr.mv rfl rfl
theorem lead7 (L : LeadAt parts i p way stk m) (hw : way < 3) (hk : p.kind = 7) : ∃ m', EndAt parts way (cst parts way p m.vals stk) m m' (goes parts i p m.vals stk) := by
  have e : leadS parts i p way = [.if_ (tst p) (backS parts way) []] := by simp [leadS, hk]
  unfold cst goes
  simp only [hk]
  by_cases ht : isT p m.vals
  · have w := tst_pos ht
    have hat := L.at_
    rw [e] at hat
    simp only [if_pos ht]
    simp only [flatSs_nil, flatSs_cons, flatS_if, flatS_let, flatS_rem, flatS_end, flatS_goto, flatS_ongo, List.append_nil] at hat
    have s1 := Runs.one (w := w2) hat.head (m' := { m with pc := m.pc + 1 }) (by simp only [step, if_pos w]) (List.prefix_refl _)
    obtain ⟨m', h'⟩ := back_ok (m := { m with pc := m.pc + 1 }) L.hl hw L.st hat.tail (L.sr.mv rfl rfl)
    exact ⟨m', .pre s1 rfl (.refl _) h'⟩
  · have w := tst_neg ht
    simp only [if_neg ht]
    exact ev_one L e (k := 1) (v' := m.vals) (o := .fall) (by simp only [evSs_nil, evSs_cons, evS_let, evS_rem, evS_goto, evS_ongo, evS_if, if_neg w]; rfl) (.refl _) (.inl ⟨rfl, rfl, by lcg_off⟩) fun pc => L.sr.mv rfl rfl
theorem lead0 (L : LeadAt parts i p way stk m) (hk : p.kind = 0) : ∃ m', EndAt parts way (cst parts way p m.vals stk) m m' (goes parts i p m.vals stk) := by
  have e : leadS parts i p way = [] := by simp [leadS, hk]
  unfold cst goes
  simp only [hk]
  exact ev_one L e rfl (.refl _) (.inl ⟨rfl, rfl, by lcg_off⟩) fun pc => L.sr.mv rfl rfl
theorem lead_ok (L : LeadAt parts i p way stk m) (hw : way < 3) : ∃ m', EndAt parts way (cst parts way p m.vals stk) m m' (goes parts i p m.vals stk) := by
  have h8 := L.ok.kind
  obtain h | h | h | h | h | h | h | h : p.kind = 0 ∨ p.kind = 1 ∨ p.kind = 2 ∨ p.kind = 3 ∨ p.kind = 4 ∨ p.kind = 5 ∨ p.kind = 6 ∨ p.kind = 7 := by lcg_off
  · exact lead0 L h
  · exact lead1 L h
  · exact lead2 L hw h
  · exact lead3 L hw h
  · exact lead4 L hw h
  · exact lead5 L hw h
  · exact lead6 L h
  · exact lead7 L hw h
end
-- Q6
theorem body_ev2 {p : Pt} {i : Nat} {v : Vals} {n : Nts} : evSs w2 (bodyS p i) v n = some (3, bodyV p v, n ++ [(rm i, (bodyV p v "X").getD 0)], .fall) := by
  simp only [bodyS, evSs_nil, evSs_cons, evS_let, evS_rem, evS_goto, evS_ongo, evS_if]; rfl
structure AbOk (s : Ab) : Prop where
  i : s.i ≤ 6
  ab : AB s.v
  st : ∀ x ∈ s.stk, x < 6
structure Sim (parts : List Pt) (way : Nat) (s : Ab) (m : Ms) : Prop where
  ag : Agree s.v m.vals
  nt : m.notes = s.n
  sr : SR parts way s.stk m
  pc : s.bad = false → PcAt parts way s.i m.pc
  bd : s.bad = true → Fail parts way m
theorem AB.ag {v u : Vals} (h : AB v) (a : Agree v u) : AB u := fun n => by rw [← a.nm]; exact h n
theorem isT_ag {p : Pt} {v u : Vals} (a : Agree v u) : isT p v ↔ isT p u := by unfold isT; rw [a.nm]
theorem cst_ag {parts : List Pt} {way : Nat} {p : Pt} {v u : Vals} {stk : List Nat} (a : Agree v u) : cst parts way p v stk = cst parts way p u stk := by
  unfold cst
  simp only [isT_ag a, a.1]
theorem goes_ag {parts : List Pt} {i : Nat} {p : Pt} {v u : Vals} {stk : List Nat} (a : Agree v u) : goes parts i p v stk = goes parts i p u stk := by
  unfold goes
  simp only [isT_ag a, a.1]
theorem retTo_ok {parts : List Pt} : ∀ {stk : List Nat} {q : Nat × List Nat}, (∀ x ∈ stk, x < 6) → retTo parts stk = some q → q.1 ≤ 6 ∧ ∀ x ∈ q.2, x < 6
  | [], q, h, e => by cases e
  | c :: r, q, h, e => by
    have hc := h c (.head _)
    rw [retTo_cons] at e
    split at e
    · exact retTo_ok (fun x hx => h x (.tail _ hx)) e
    · cases e
      exact ⟨hc, fun x hx => h x (.tail _ hx)⟩
theorem goes_ok {parts : List Pt} {i : Nat} {p : Pt} {v : Vals} {stk : List Nat} {q : Nat × List Nat} (hi : i < 6) (ok : p.Ok) (h : ∀ x ∈ stk, x < 6) (e : goes parts i p v stk = some q) : q.1 ≤ 6 ∧ ∀ x ∈ q.2, x < 6 := by
  have h1 := ok.one
  have h2 := ok.other
  have hc : ∀ x ∈ i :: stk, x < 6 := fun x hx => by
    rcases List.mem_cons.mp hx with rfl | hx
    · exact hi
    · exact h x hx
  unfold goes at e
  split at e
  · split at e <;> cases e
    · exact ⟨by show i / 2 * 2 + p.one ≤ 6; lcg_off, h⟩
    · exact ⟨hi, h⟩
  split at e
  · cases e
    exact ⟨by show 2 + 2 * p.one ≤ 6; lcg_off, hc⟩
  split at e
  · split at e
    · cases e
      exact ⟨by show 2 + 2 * p.one ≤ 6; lcg_off, hc⟩
    · split at e <;> cases e
      · exact ⟨by show 2 + 2 * p.other ≤ 6; lcg_off, hc⟩
      · exact ⟨hi, h⟩
  split at e
  · cases e
    exact ⟨by show 2 + 2 * p.one ≤ 6; lcg_off, hc⟩
  split at e
  · exact retTo_ok h e
  split at e
  · cases e
    exact ⟨Nat.le_refl 6, h⟩
  split at e
  · split at e
    · exact retTo_ok h e
    · cases e
      exact ⟨hi, h⟩
  · cases e
    exact ⟨hi, h⟩
section
variable {parts : List Pt} {way : Nat} {s : Ab} {m : Ms} {p : Pt}
theorem abStep_some (hb : s.bad = false) (hp : parts[s.i]? = some p) {q : Nat × List Nat} (h : goes parts s.i p (bodyV p s.v) s.stk = some q) : abStep parts s = ⟨q.1, bodyV p s.v, q.2, s.n ++ [(rm s.i, (bodyV p s.v "X").getD 0)], false⟩ := by
  unfold abStep
  rw [if_neg (by rw [hb]; decide)]
  simp only [hp, h]
theorem abStep_bad (hb : s.bad = false) (hp : parts[s.i]? = some p) (h : goes parts s.i p (bodyV p s.v) s.stk = none) : abStep parts s = ⟨s.i, bodyV p s.v, [], s.n ++ [(rm s.i, (bodyV p s.v "X").getD 0)], true⟩ := by
  unfold abStep
  rw [if_neg (by rw [hb]; decide)]
  simp only [hp, h]
theorem abStep_end (h : s.bad = true ∨ parts[s.i]? = none) : abStep parts s = s := by
  unfold abStep
  by_cases hb : s.bad = true
  · rw [if_pos hb]
  · rw [if_neg hb, h.resolve_left hb]
theorem abStep_ok (hP : ∀ p ∈ parts, p.Ok) (hl : parts.length = 6) (A : AbOk s) : AbOk (abStep parts s) := by
  by_cases hb : s.bad = true
  · rw [abStep_end (.inl hb)]; exact A
  · simp only [Bool.not_eq_true] at hb
    cases hp : parts[s.i]? with
    | none => rw [abStep_end (.inr hp)]; exact A
    | some p =>
      have hi : s.i < 6 := by rw [← hl]; exact (List.getElem?_eq_some_iff.mp hp).1
      cases h : goes parts s.i p (bodyV p s.v) s.stk with
      | none =>
        rw [abStep_bad hb hp h]
        exact ⟨A.i, A.ab.body, fun x hx => nomatch hx⟩
      | some q =>
        rw [abStep_some hb hp h]
        obtain ⟨g1, g2⟩ := goes_ok hi (hP p (List.mem_of_getElem? hp)) A.st h
        exact ⟨g1, A.ab.body, g2⟩
theorem visit_ok (hl : parts.length = 6) (hP : ∀ p ∈ parts, p.Ok) (hw : way < 3) (S : Sim parts way s m) (A : AbOk s) (hb : s.bad = false) (hp : parts[s.i]? = some p) (few : way = 1 ∨ s.stk.length < 20) :
    ∃ m', Runs w2 (prg parts way) (3 + cst parts way p (bodyV p s.v) s.stk) m m' ∧ Sim parts way (abStep parts s) m' := by
  have hi : s.i < 6 := by rw [← hl]; exact (List.getElem?_eq_some_iff.mp hp).1
  obtain ⟨pc, u, pile, nt⟩ := m
  obtain ⟨ag, hn, sr, hpc, _⟩ := S
  replace hn : nt = s.n := hn
  subst hn
  replace hpc : pc = base parts way s.i := (hpc hb).resolve_right fun h => by lcg_off
  subst hpc
  replace ag : Agree s.v u := ag
  have agb := ag.body (p := p)
  have hat := line_at (way := way) hp
  rw [lineS, flatSs_append] at hat
  have s1 := evSs_ok (m := ⟨base parts way s.i, u, pile, s.n⟩) (pc' := base parts way s.i + 3) _ hat.left body_ev2 rfl
  have L : LeadAt parts s.i p way s.stk ⟨base parts way s.i + 3, bodyV p u, pile, s.n ++ [(rm s.i, (bodyV p u "X").getD 0)]⟩ := by
    refine ⟨hl, hp, hP p (List.mem_of_getElem? hp), A.ab.body.ag agb, A.st, sr.mv rfl bodyV_K, hat.right, fun hk => ?_, few⟩
    rw [base_succ hp hk, lineS, flatSs_append, List.length_append, ← Nat.add_assoc]
    rfl
  obtain ⟨m', E⟩ := lead_ok L hw
  have e1 : cst parts way p (bodyV p s.v) s.stk = cst parts way p (bodyV p u) s.stk := cst_ag agb
  have e2 : goes parts s.i p (bodyV p s.v) s.stk = goes parts s.i p (bodyV p u) s.stk := goes_ag agb
  refine ⟨m', by rw [e1]; exact s1.trans E.runs, ?_⟩
  have hX : (bodyV p s.v "X").getD 0 = (bodyV p u "X").getD 0 := by rw [agb.2.2]
  cases h : goes parts s.i p (bodyV p s.v) s.stk with
  | none =>
    rw [abStep_bad hb hp h]
    obtain ⟨b1, b2⟩ := E.bad (e2.symm.trans h)
    exact ⟨agb.trans E.ag, by rw [E.nt, hX], b1, (fun e => nomatch e), fun zz => b2⟩
  | some q =>
    rw [abStep_some hb hp h]
    obtain ⟨b1, b2⟩ := E.to q (e2.symm.trans h)
    exact ⟨agb.trans E.ag, by rw [E.nt, hX], b2, fun zz => b1, fun e => nomatch e⟩
noncomputable def vt (parts : List Pt) (way : Nat) (s : Ab) : Nat := if s.bad = true then 0 else (parts[s.i]?).elim 0 fun p => 3 + cst parts way p (bodyV p s.v) s.stk
noncomputable def tot (parts : List Pt) (way : Nat) : Nat → Ab → Nat
  | 0, s => 0
  | k + 1, s => vt parts way s + tot parts way k (abStep parts s)
theorem tot_zero {s : Ab} : tot parts way 0 s = 0 := rfl
theorem tot_succ {k : Nat} {s : Ab} : tot parts way (k + 1) s = vt parts way s + tot parts way k (abStep parts s) := rfl
theorem vt_some (hb : s.bad = false) (hp : parts[s.i]? = some p) : vt parts way s = 3 + cst parts way p (bodyV p s.v) s.stk := by
  unfold vt; rw [if_neg (by rw [hb]; decide), hp]; rfl
theorem vt_end (h : s.bad = true ∨ parts[s.i]? = none) : vt parts way s = 0 := by
  unfold vt
  by_cases hb : s.bad = true
  · rw [if_pos hb]
  · rw [if_neg hb, h.resolve_left hb]; rfl
noncomputable def Done (s : Ab) : Prop := s.bad = true ∨ 6 ≤ s.i
theorem kd_p (hp : parts[s.i]? = some p) : kd parts s.i = p.kind := by unfold kd; rw [hp]; rfl
theorem step_len (hw : way < 3) (hb : s.bad = false) (hp : parts[s.i]? = some p) : 4 * (abStep parts s).stk.length ≤ 4 * s.stk.length + vt parts way s := by
  rw [vt_some hb hp]
  cases h : goes parts s.i p (bodyV p s.v) s.stk with
  | none => rw [abStep_bad hb hp h]; exact Nat.zero_le _
  | some q =>
    rw [abStep_some hb hp h]
    obtain ⟨c1, c2, c3, c4⟩ := cst_some (kd_p hp) h
    show 4 * q.2.length ≤ _
    by_cases hq : s.stk.length < q.2.length
    · obtain ⟨d1, d2, d3⟩ := c4 hq
      obtain rfl | rfl | rfl : way = 0 ∨ way = 1 ∨ way = 2 := by lcg_off
      · lcg_off
      · lcg_off
      · lcg_off
    · lcg_off
theorem stop_bad (hl : parts.length = 6) (S : Sim parts way s m) (hb : s.bad = true) : (∃ x, (prg parts way).rows[m.pc]? = some x) ∧ ∃ e, GoodErr (prg parts way) m e ∧ e = (if way = 1 then ("UL" : Str) else "RG") ∧ ∀ n, stopN w2 (prg parts way) (n + 1) m = (m, some e) := by
  have h := S.bd hb
  match way, h with
  | 1, h =>
    obtain ⟨l, hr⟩ := h
    have h9 := no_999 (way := 1) hl
    exact ⟨⟨_, hr⟩, "UL", .inr ⟨l, 999, hr, h9, rfl⟩, rfl, fun n => stopN_err hr (by simp only [step, h9])⟩
  | 0, h =>
    obtain ⟨⟨l, hr⟩, hp⟩ := h
    exact ⟨⟨_, hr⟩, "RG", .inl ⟨l, hr, hp, rfl⟩, rfl, fun n => stopN_err hr (by simp only [step, hp, List.getLast?_nil])⟩
  | n + 2, h =>
    obtain ⟨⟨l, hr⟩, hp⟩ := h
    refine ⟨⟨_, hr⟩, "RG", .inl ⟨l, hr, hp, rfl⟩, ?_, fun n => stopN_err hr (by simp only [step, hp, List.getLast?_nil])⟩
    rw [if_neg (by lcg_off)]
theorem stop_six (hl : parts.length = 6) (hw : way < 3) (S : Sim parts way s m) (A : AbOk s) (hb : s.bad = false) (h6 : 6 ≤ s.i) : (way ≠ 1 → (prg parts way).rows.length ≤ m.pc) ∧
    ∀ n, (m.pc < (prg parts way).rows.length ∨ n = 0 ∧ (stopN w2 (prg parts way) n m) = (m, none) ∨ ∃ m', stopN w2 (prg parts way) n m = (m', none) ∧ Sim parts way s m' ∧ (prg parts way).rows.length ≤ m'.pc) ∧
      ∃ m', stopN w2 (prg parts way) (n + 1) m = (m', none) ∧ Sim parts way s m' ∧ (prg parts way).rows.length ≤ m'.pc := by
  have hi : s.i = 6 := by have := A.i; lcg_off
  have hpc := S.pc hb
  rw [hi] at hpc
  have done : (prg parts way).rows.length ≤ m.pc → ∀ n, ∃ m', stopN w2 (prg parts way) n m = (m', none) ∧ Sim parts way s m' ∧ (prg parts way).rows.length ≤ m'.pc := fun h n => ⟨m, stopN_done h, S, h⟩
  by_cases hw1 : way = 1
  · subst hw1
    refine ⟨fun h => absurd rfl h, fun n => ?_⟩
    rcases hpc with hpc | ⟨_, hpc⟩
    · have hr := (base1_last hl).1
      rw [← hpc] at hr
      refine ⟨.inl (List.getElem?_eq_some_iff.mp hr).1, ?_⟩
      rw [stopN_ok hr (m₂ := { m with pc := (prg parts 1).rows.length }) rfl]
      refine ⟨_, stopN_done (Nat.le_refl _), ⟨S.ag, S.nt, S.sr.mv rfl rfl, fun zz => .inr ⟨hi, rfl⟩, fun e => ?_⟩, Nat.le_refl _⟩
      rw [hb] at e; cases e
    · exact ⟨.inr (.inr (done (by lcg_off) _)), done (by lcg_off) _⟩
  · have hge : (prg parts way).rows.length ≤ m.pc := by
      have := base_last hl hw1
      rcases hpc with hpc | ⟨_, hpc⟩ <;> lcg_off
    exact ⟨fun zz => hge, fun n => ⟨.inr (.inr (done hge _)), done hge _⟩⟩
theorem stop_fin (hl : parts.length = 6) (hw : way < 3) (S : Sim parts way s m) (A : AbOk s) (h : Done s) {n : Nat} (hn : s.bad = true ∨ way = 1 → 1 ≤ n) :
    ∃ m', Sim parts way s m' ∧ (s.bad = true → stopN w2 (prg parts way) n m = (m', some (if way = 1 then ("UL" : Str) else "RG"))) ∧ (s.bad = false → stopN w2 (prg parts way) n m = (m', none) ∧ (prg parts way).rows.length ≤ m'.pc) := by
  by_cases hb : s.bad = true
  · obtain ⟨_, e, _, he, hs⟩ := stop_bad hl S hb
    obtain ⟨n, rfl⟩ : ∃ k, n = k + 1 := ⟨n - 1, by have := hn (.inl hb); lcg_off⟩
    refine ⟨m, S, fun zz => by rw [hs, he], fun e => ?_⟩
    rw [hb] at e; cases e
  · have hb' : s.bad = false := by simpa using hb
    obtain ⟨h1, h2⟩ := stop_six hl hw S A hb' (h.resolve_left hb)
    by_cases hw1 : way = 1
    · obtain ⟨n, rfl⟩ : ∃ k, n = k + 1 := ⟨n - 1, by have := hn (.inr hw1); lcg_off⟩
      obtain ⟨m', e1, e2, e3⟩ := (h2 n).2
      exact ⟨m', e2, fun e => absurd e hb, fun zz => ⟨e1, e3⟩⟩
    · exact ⟨m, S, fun e => absurd e hb, fun zz => ⟨stopN_done (h1 hw1), h1 hw1⟩⟩
theorem stop_done (hl : parts.length = 6) (hP : ∀ p ∈ parts, p.Ok) (hw : way < 3) : ∀ (k : Nat) (s : Ab) (m : Ms) (n : Nat), Sim parts way s m → AbOk s → Done (abN parts k s) → (way = 1 ∨ 4 * s.stk.length + tot parts way k s ≤ 76) → tot parts way k s ≤ n →
    ((abN parts k s).bad = true ∨ way = 1 → tot parts way k s + 1 ≤ n) →
    ∃ m', Sim parts way (abN parts k s) m' ∧ ((abN parts k s).bad = true → stopN w2 (prg parts way) n m = (m', some (if way = 1 then ("UL" : Str) else "RG"))) ∧ ((abN parts k s).bad = false → stopN w2 (prg parts way) n m = (m', none) ∧ (prg parts way).rows.length ≤ m'.pc)
  | 0, s, m, n, S, A, hd, few, hn, hn1 => stop_fin hl hw S A hd fun h => by have := hn1 h; lcg_off
  | k + 1, s, m, n, S, A, hd, few, hn, hn1 => by
    rw [abN_succ] at hd hn1 ⊢
    rw [tot_succ] at few hn hn1
    by_cases he : s.bad = true ∨ parts[s.i]? = none
    · rw [abStep_end he] at *
      rw [vt_end he, Nat.zero_add] at few hn hn1
      exact stop_done hl hP hw k s m n S A hd few hn hn1
    · simp only [not_or, Bool.not_eq_true] at he
      obtain ⟨hb, hp⟩ := he
      obtain ⟨p, hp⟩ := Option.ne_none_iff_exists'.mp hp
      obtain ⟨m₁, R, S₁⟩ := visit_ok hl hP hw S A hb hp (few.imp id fun h => by lcg_off)
      have hlen := step_len hw hb hp (parts := parts) (way := way)
      rw [← vt_some hb hp] at R
      obtain ⟨m', h1, h2, h3⟩ := stop_done hl hP hw k (abStep parts s) m₁ (n - vt parts way s) S₁ (abStep_ok hP hl A) hd (few.imp id fun h => by lcg_off) (by lcg_off) (fun h => by have := hn1 h; lcg_off)
      have e := R.stop (r := n - vt parts way s)
      rw [show vt parts way s + (n - vt parts way s) = n by lcg_off] at e
      exact ⟨m', h1, fun h => by rw [e]; exact h2 h, fun h => by rw [e]; exact h3 h⟩
theorem abStep_pre : s.n <+: (abStep parts s).n := by
  unfold abStep
  split
  · exact List.prefix_refl _
  · split
    · exact List.prefix_refl _
    · split <;> exact List.prefix_append _ _
theorem abN_pre : ∀ (k : Nat) {s : Ab}, s.n <+: (abN parts k s).n
  | 0, s => List.prefix_refl _
  | k + 1, s => abStep_pre.trans (abN_pre k)
theorem abN_add : ∀ (a b : Nat) {s : Ab}, abN parts (a + b) s = abN parts b (abN parts a s)
  | 0, b, s => by rw [Nat.zero_add]; rfl
  | a + 1, b, s => by rw [Nat.add_right_comm, abN_succ, abN_succ, abN_add a b]
theorem abN_mono {a b : Nat} (h : a ≤ b) {s : Ab} : (abN parts a s).n <+: (abN parts b s).n := by
  obtain ⟨k, rfl⟩ : ∃ k, b = a + k := ⟨b - a, by lcg_off⟩
  rw [abN_add]
  exact abN_pre k
structure Stops (parts : List Pt) (way n : Nat) (s : Ab) (m : Ms) : Prop where
  ge : s.n <+: (stopN w2 (prg parts way) n m).1.notes
  le : ∃ k, (stopN w2 (prg parts way) n m).1.notes <+: (abN parts k s).n
  err : ∀ e, (stopN w2 (prg parts way) n m).2 = some e → GoodErr (prg parts way) (stopN w2 (prg parts way) n m).1 e
  fin : (stopN w2 (prg parts way) n m).2 ≠ none ∨ (prg parts way).rows.length ≤ (stopN w2 (prg parts way) n m).1.pc → ∃ k, Done (abN parts k s) ∧ tot parts way k s ≤ n ∧ ((abN parts k s).bad = true → tot parts way k s + 1 ≤ n)
theorem stop_gen (hl : parts.length = 6) (hP : ∀ p ∈ parts, p.Ok) (hw : way < 3) : ∀ (n : Nat) (s : Ab) (m : Ms), Sim parts way s m → AbOk s → (way = 1 ∨ 4 * s.stk.length + n ≤ 76) → Stops parts way n s m := by
  intro n
  induction n using Nat.strongRecOn with
  | _ n ih =>
    intro s m S A few
    by_cases hb : s.bad = true
    · obtain ⟨⟨x, hx⟩, e, ge, he, hs⟩ := stop_bad hl S hb
      have hlt := (List.getElem?_eq_some_iff.mp hx).1
      cases n with
      | zero =>
        refine ⟨?_, ⟨0, ?_⟩, (fun e h => nomatch h), fun h => ?_⟩
        · show s.n <+: m.notes
          rw [S.nt]; exact List.prefix_refl _
        · show m.notes <+: s.n
          rw [S.nt]; exact List.prefix_refl _
        · rcases h with h | h
          · exact absurd rfl h
          · exact absurd (show (prg parts way).rows.length ≤ m.pc from h) (by lcg_off)
      | succ n =>
        refine ⟨?_, ⟨0, ?_⟩, fun e' h => ?_, fun h => ⟨0, .inl hb, Nat.zero_le _, fun zz => Nat.le_add_left 1 n⟩⟩
        · rw [hs]; show s.n <+: m.notes
          rw [S.nt]; exact List.prefix_refl _
        · rw [hs]; show m.notes <+: s.n
          rw [S.nt]; exact List.prefix_refl _
        · rw [hs] at h ⊢
          cases h
          exact ge
    · have hb' : s.bad = false := by simpa using hb
      by_cases h6 : 6 ≤ s.i
      · have key : ∀ m', stopN w2 (prg parts way) n m = (m', none) → Sim parts way s m' → Stops parts way n s m := fun m' e S' => by
          refine ⟨?_, ⟨0, ?_⟩, fun e' h => ?_, fun h => ⟨0, .inr h6, Nat.zero_le _, fun h => absurd h hb⟩⟩
          · rw [e]; show s.n <+: m'.notes
            rw [S'.nt]; exact List.prefix_refl _
          · rw [e]; show m'.notes <+: s.n
            rw [S'.nt]; exact List.prefix_refl _
          · rw [e] at h; cases h
        cases n with
        | zero => exact key m rfl S
        | succ n =>
          obtain ⟨m', e1, e2, e3⟩ := ((stop_six hl hw S A hb' h6).2 n).2
          exact key m' e1 e2
      · obtain ⟨p, hp, _⟩ := pt_some hl (show s.i < 6 by lcg_off)
        obtain ⟨m₁, R, S₁⟩ := visit_ok hl hP hw S A hb' hp (few.imp id fun h => by lcg_off)
        have hlen := step_len hw hb' hp (parts := parts) (way := way)
        have hv : 3 ≤ vt parts way s := by rw [vt_some hb' hp]; lcg_off
        rw [← vt_some hb' hp] at R
        by_cases hN : n < vt parts way s
        · obtain ⟨mj, h1, h2, h3, h4⟩ := R.mid n hN
          have e := stop_go h1
          refine ⟨?_, ⟨1, ?_⟩, fun e' h => ?_, fun h => ?_⟩
          · rw [e, ← S.nt]; exact h3
          · rw [e]
            show mj.notes <+: (abStep parts s).n
            rw [← S₁.nt]; exact h4
          · rw [e] at h; cases h
          · rw [e] at h
            rcases h with h | h
            · exact absurd rfl h
            · exact absurd (show (prg parts way).rows.length ≤ mj.pc from h) (by lcg_off)
        · obtain ⟨g1, ⟨k, g2⟩, g3, g4⟩ := ih (n - vt parts way s) (by lcg_off) (abStep parts s) m₁ S₁ (abStep_ok hP hl A) (few.imp id fun h => by lcg_off)
          have e := R.stop (r := n - vt parts way s)
          rw [show vt parts way s + (n - vt parts way s) = n by lcg_off] at e
          rw [← e] at g1 g2 g3 g4
          refine ⟨abStep_pre.trans g1, ⟨k + 1, g2⟩, g3, fun h => ?_⟩
          obtain ⟨k, k1, k2, k3⟩ := g4 h
          exact ⟨k + 1, k1, by rw [tot_succ]; lcg_off, fun h => by have := k3 h; rw [tot_succ]; lcg_off⟩
theorem tot_le (hl : parts.length = 6) : ∀ (k : Nat) (s : Ab), tot parts 1 k s + fours parts (abN parts k s).stk ≤ 2 * tot parts 0 k s + fours parts s.stk ∧ tot parts 2 k s ≤ tot parts 0 k s
  | 0, s => ⟨by show 0 + fours parts s.stk ≤ 2 * 0 + fours parts s.stk; lcg_off, Nat.le_refl _⟩
  | k + 1, s => by
    obtain ⟨i1, i2⟩ := tot_le hl k (abStep parts s)
    simp only [tot_zero, tot_succ, abN_zero, abN_succ]
    by_cases he : s.bad = true ∨ parts[s.i]? = none
    · rw [abStep_end he] at *
      rw [vt_end he, vt_end he, vt_end he]
      lcg_off
    · simp only [not_or, Bool.not_eq_true] at he
      obtain ⟨hb, hp⟩ := he
      obtain ⟨p, hp⟩ := Option.ne_none_iff_exists'.mp hp
      rw [vt_some hb hp, vt_some hb hp, vt_some hb hp]
      cases h : goes parts s.i p (bodyV p s.v) s.stk with
      | none =>
        obtain ⟨c1, c2, c3, c4⟩ := cst_none h
        have : fours parts (abStep parts s).stk = 0 := by rw [abStep_bad hb hp h]; rfl
        lcg_off
      | some q =>
        obtain ⟨c1, c2, c3, c4⟩ := cst_some (kd_p hp) h
        have : fours parts (abStep parts s).stk = fours parts q.2 := by rw [abStep_some hb hp h]
        lcg_off
theorem stk_le (hw : way < 3) : ∀ (k : Nat) (s : Ab), 4 * (abN parts k s).stk.length ≤ 4 * s.stk.length + tot parts way k s
  | 0, s => Nat.le_refl _
  | k + 1, s => by
    have i1 := stk_le hw k (abStep parts s)
    rw [abN_succ, tot_succ]
    by_cases he : s.bad = true ∨ parts[s.i]? = none
    · rw [abStep_end he] at *
      lcg_off
    · simp only [not_or, Bool.not_eq_true] at he
      obtain ⟨hb, hp⟩ := he
      obtain ⟨p, hp⟩ := Option.ne_none_iff_exists'.mp hp
      have := step_len hw hb hp (parts := parts) (way := way)
      lcg_off
end
-- Q7
structure Shape (ps : List (Int × List St)) : Prop where
  few : ps.length ≤ 100
  ne : ∀ p ∈ ps, p.2 ≠ []
  dep : ∀ p ∈ ps, depSs p.2 ≤ 3
  len : (flatP 0 ps).length ≤ 900
  wf : ∀ x ∈ flatP 0 ps, WfRow x.2 ∧ remOk x.2 = true
theorem shape_of {ps : List (Int × List St)} (h1 : ps.length ≤ 20) (h2 : ∀ p ∈ ps, p.2 ≠ [] ∧ depSs p.2 ≤ 3 ∧ szSs p.2 ≤ 20 ∧ quSs true p.2 = true) : Shape ps := by
  refine ⟨by lcg_off, fun p hp => (h2 p hp).1, fun p hp => (h2 p hp).2.1, ?_, fun x hx => (quP_ok (b := true) ps 0 (fun p hp => (h2 p hp).2.2.2) x hx).2⟩
  have := szP_ok (k := 20) ps 0 fun p hp => (h2 p hp).2.2.1
  lcg_off
theorem rm_ok {n : Nat} (h : n < 10) : PyData.strOk (rm n) = true := by
  have : ∀ n, n < 10 → PyData.strOk (rm n) = true := by decide +kernel
  exact this n h
theorem nm_mem (n : Nat) : names9.contains (nm n) = true := by
  rcases nm_cases n with h | h <;> rw [h] <;> decide +kernel
noncomputable def Fit (k : Nat) (l : List St) : Prop := quSs true l = true ∧ depSs l ≤ 2 ∧ szSs l ≤ k
theorem Fit.le {a b : Nat} {l : List St} (h : Fit a l) (hab : a ≤ b) : Fit b l := ⟨h.1, h.2.1, Nat.le_trans h.2.2 hab⟩
theorem Fit.append {a b : Nat} {x y : List St} (hx : Fit a x) (hy : Fit b y) : Fit (a + b) (x ++ y) := by
  refine ⟨by rw [quSs_append, hx.1, hy.1]; rfl, ?_, ?_⟩
  · rw [depSs_append]; have := hx.2.1; have := hy.2.1; lcg_off
  · rw [szSs_append]; have := hx.2.2; have := hy.2.2; lcg_off
section
variable {parts : List Pt} {i way : Nat} {p : Pt}
theorem fit_ret : Fit 4 (retS parts) := by
  have hW : ("W" : Str) ∈ names9 := by decide +kernel
  have hK : ("K" : Str) ∈ names9 := by decide +kernel
  refine ⟨?_, by simp [retS, ret3, depSs, depS], by simp [retS, ret3, szSs, szS]⟩
  simp [retS, ret3, quSs_nil, quSs_cons, quS_let, quS_ongo, quS_if, quS_rem, quS_goto, hW, hK]
theorem fit_back : Fit 4 (backS parts way) := by
  unfold backS
  split
  · exact fit_ret
  · exact ⟨rfl, by decide, by decide⟩
theorem fit_gone {part : Nat} : Fit 2 (goneS i part way) := by
  have hK : ("K" : Str) ∈ names9 := by decide +kernel
  unfold goneS
  split
  · exact ⟨rfl, by simp [depSs, depS], by simp [szSs, szS]⟩
  · exact ⟨by simp [quSs_nil, quSs_cons, quS_let, quS_ongo, quS_if, quS_rem, quS_goto, hK], by simp [depSs, depS], by simp [szSs, szS]⟩
theorem dep_gone {part : Nat} : depSs (goneS i part way) = 0 := by unfold goneS; split <;> simp [depSs, depS]
theorem dep_back : depSs (backS parts way) = 0 := by unfold backS; split <;> simp [retS, ret3, depSs, depS]
theorem fit_if {a b : List St} {x y : Nat} {t : Tree} (ha : Fit x a) (hb : Fit y b) (da : depSs a ≤ 1) (db : depSs b ≤ 1) : Fit (2 + x + y) [.if_ t a b] := by
  refine ⟨by simp [quSs_nil, quSs_cons, quS_let, quS_ongo, quS_if, quS_rem, quS_goto, ha.1, hb.1], ?_, ?_⟩
  · simp only [depSs, depS]; lcg_off
  · simp only [szSs, szS]; have := ha.2.2; have := hb.2.2; lcg_off
theorem fit_nil : Fit 0 [] := ⟨rfl, by decide, by decide⟩
theorem fit_lead : Fit 10 (leadS parts i p way) := by
  unfold leadS
  split
  · exact (fit_if (x := 1) (y := 0) ⟨rfl, by simp [depSs, depS], by simp [szSs, szS]⟩ fit_nil (by simp [depSs, depS]) (by simp [depSs])).le (by decide)
  split
  · exact fit_gone.le (by decide)
  split
  · split
    · refine (fit_if (x := 2) (y := 4) fit_gone ?_ (by rw [dep_gone]; decide) ?_).le (by decide)
      · exact fit_if (x := 2) (y := 0) fit_gone fit_nil (by rw [dep_gone]; decide) (by simp [depSs])
      · simp only [depSs, depS, dep_gone]; decide
    · exact ⟨rfl, by simp [depSs, depS], by simp [szSs, szS]⟩
  split
  · split
    · exact ⟨rfl, by simp [depSs, depS], by simp [szSs, szS]⟩
    · split
      · exact (fit_gone.append fit_back).le (by decide)
      · exact (fit_gone.append fit_nil).le (by decide)
  split
  · exact fit_back.le (by decide)
  split
  · exact ⟨rfl, by decide, by decide⟩
  split
  · exact (fit_if fit_back fit_nil (by rw [dep_back]; decide) (by simp [depSs])).le (by decide)
  · exact fit_nil.le (by decide)
theorem fit_body {i : Nat} (hi : i < 10) : Fit 3 (bodyS p i) := by
  have hX : names9.contains ("X" : Str) = true := by decide +kernel
  refine ⟨?_, by simp [bodyS, depSs, depS], by simp [bodyS, szSs, szS]⟩
  simp only [bodyS, quSs_nil, quSs_cons, quS_let, quS_ongo, quS_if, quS_rem, quS_goto, nm_mem, rm_ok hi, hX, Bool.and_self]
theorem progFrom_mem {x : Int × List St} : ∀ (a : List Pt) (n : Nat), x ∈ progFrom parts way n a → (∃ p i, i < n + a.length ∧ x.2 = lineS parts way i p) ∨ x.2 = retS parts
  | [], n, h => by simp [progFrom_nil, progFrom_cons] at h
  | p :: a, n, h => by
    rcases List.mem_cons.mp h with e | h
    · subst e; exact .inl ⟨p, n, by simp, rfl⟩
    · rcases List.mem_append.mp h with h | h
      · split at h
        · rw [List.mem_singleton] at h
          subst h; exact .inr rfl
        · simp at h
      · rcases progFrom_mem a (n + 1) h with ⟨q, i, h2, h3⟩ | h
        · exact .inl ⟨q, i, by simp only [List.length_cons]; lcg_off, h3⟩
        · exact .inr h
theorem progFrom_len : ∀ (a : List Pt) (n : Nat), (progFrom parts way n a).length ≤ 2 * a.length
  | [], n => Nat.le_refl _
  | p :: a, n => by
    have := progFrom_len a (n + 1)
    simp only [progFrom_nil, progFrom_cons, List.length_cons, List.length_append]
    split <;> simp <;> lcg_off
theorem shape2 (hl : parts.length = 6) : Shape (progS parts way) := by
  refine shape_of ?_ fun x hx => ?_
  · unfold progS lastS
    have := progFrom_len (parts := parts) (way := way) parts 0
    rw [List.length_append]
    split <;> simp <;> lcg_off
  · have key : x.2 ≠ [] ∧ Fit 13 x.2 := by
      unfold progS at hx
      rcases List.mem_append.mp hx with hx | hx
      · rcases progFrom_mem _ _ hx with ⟨p, i, h1, h2⟩ | h
        · rw [h2]
          exact ⟨by simp [lineS, bodyS], (fit_body (by lcg_off)).append fit_lead⟩
        · rw [h]
          exact ⟨by simp [retS, ret3], fit_ret.le (by decide)⟩
      · unfold lastS at hx
        split at hx
        · rw [List.mem_singleton] at hx
          subst hx
          exact ⟨by simp, rfl, by decide, by decide⟩
        · simp at hx
    obtain ⟨k1, k2, k3, k4⟩ := key
    exact ⟨k1, by lcg_off, by lcg_off, k2⟩
end
noncomputable def mz : Ms := ⟨0, fun zz => none, [], []⟩
noncomputable def s0 : Ab := ⟨0, fun zz => none, [], [], false⟩
noncomputable def lim (way : Nat) : Nat := if way = 1 then 100 else 40
noncomputable abbrev endOf (parts : List Pt) (way : Nat) : Ms × Option Str := stopN w2 (prg parts way) (lim way) mz
structure Law2 (parts : List Pt) : Prop where
  shape : ∀ way, Shape (progS parts way)
  err : ∀ way < 3, ∀ e, (endOf parts way).2 = some e → GoodErr (prg parts way) (endOf parts way).1 e
  stok : ∀ way < 3, ∀ x ∈ (endOf parts way).1.notes, PyData.strOk x.1 = true
  few : ∀ way < 3, (endOf parts way).1.notes.length ≤ 100
  piles : ∀ way k, (stopN w2 (prg parts way) k mz).1.pile.length < 50
  more : (endOf parts 0).2 = none → (endOf parts 0).1.pc < (prg parts 0).rows.length → (∀ way < 3, 0 < (endOf parts way).1.notes.length) ∧
    ∀ n, (∀ way < 3, n ≤ (endOf parts way).1.notes.length) → ∀ way < 3, (endOf parts way).1.notes.take n = (endOf parts 0).1.notes.take n
  done : ¬ ((endOf parts 0).2 = none ∧ (endOf parts 0).1.pc < (prg parts 0).rows.length) → ((∀ way < 3, (endOf parts way).2 = none ∧ (prg parts way).rows.length ≤ (endOf parts way).1.pc) ∨ ∀ way < 3, (endOf parts way).2 = some (if way = 1 then ("UL" : Str) else "RG")) ∧
    (∀ way < 3, (endOf parts way).1.notes = (endOf parts 0).1.notes ∧ Agree (endOf parts way).1.vals (endOf parts 0).1.vals) ∧
    ∃ stk : List Nat, (∀ x ∈ stk, x < 6) ∧ stk.length ≤ 100 ∧ ((endOf parts 1).1.vals "K").getD 0 = ((kOf stk : Nat) : Int) ∧ (endOf parts 0).1.pile = pile0 parts stk ∧ (endOf parts 2).1.pile = pile2 parts stk
theorem Agree.symm {v u : Vals} (h : Agree v u) : Agree u v := ⟨h.1.symm, h.2.1.symm, h.2.2.symm⟩
theorem cst_nil {parts : List Pt} {way : Nat} {p : Pt} {v : Vals} : cst parts way p v [] ≤ 4 := by
  have : rc parts way [] ≤ 3 := by
    show rcost way 0 false ≤ 3
    unfold rcost
    split
    · lcg_off
    · simp
  unfold cst
  repeat' split
  all_goals lcg_off
theorem law2 {parts : List Pt} (hl : parts.length = 6) (hP : ∀ p ∈ parts, p.Ok) : Law2 parts := by
  have S0 : ∀ way < 3, Sim parts way s0 mz := fun way hw => by
    refine ⟨.refl _, rfl, ?_, fun zz => .inl ?_, fun e => nomatch e⟩
    · obtain rfl | rfl | rfl : way = 0 ∨ way = 1 ∨ way = 2 := by lcg_off
      · rfl
      · exact ⟨rfl, rfl⟩
      · rfl
    · show 0 = base parts way 0
      simp [base, progFrom_nil, progFrom_cons, flatP_nil, flatP_cons]
  have A0 : AbOk s0 := ⟨Nat.zero_le _, fun n => ⟨Int.le_refl _, by show (0 : Int) < 5; decide⟩, fun x hx => nomatch hx⟩
  have lm : ∀ way < 3, way = 1 ∨ 4 * s0.stk.length + lim way ≤ 76 := fun way hw => by
    unfold lim
    split
    · exact .inl ‹_›
    · exact .inr (by show 4 * 0 + 40 ≤ 76; lcg_off)
  have G : ∀ way < 3, Stops parts way (lim way) s0 mz := fun way hw => stop_gen hl hP hw _ s0 mz (S0 way hw) A0 (lm way hw)
  refine ⟨fun way => shape2 hl, fun way hw => (G way hw).err, fun way hw => stopN_strs (fun x hx => ((shape2 hl).wf x hx).2) _ (fun x hx => nomatch hx), fun way hw => ?_, fun way k => Nat.lt_of_le_of_lt (stopN_pile k (m := mz) (Nat.zero_le _)) (by decide), fun h1 h2 => ⟨fun way hw => ?_, fun n hn way hw => ?_⟩, fun h => ?_⟩
  · have := stopN_notes (w := w2) (P := prg parts way) (lim way) (m := mz)
    have : lim way ≤ 100 := by unfold lim; split <;> lcg_off
    have : mz.notes.length = 0 := rfl
    unfold endOf
    lcg_off
  · obtain ⟨p, hp, _⟩ := pt_some hl (c := s0.i) (by decide)
    obtain ⟨m₁, R, S₁⟩ := visit_ok hl hP hw (S0 way hw) A0 rfl hp (.inr (by decide))
    have hc := cst_nil (parts := parts) (way := way) (p := p) (v := bodyV p s0.v)
    rw [← vt_some rfl hp] at R
    have hv : vt parts way s0 ≤ 7 := by rw [vt_some rfl hp]; show 3 + cst parts way p (bodyV p s0.v) [] ≤ 7; lcg_off
    have hv2 : 40 ≤ lim way := by unfold lim; split <;> lcg_off
    have hlen := step_len hw (s := s0) rfl hp (parts := parts) (way := way)
    have g := (stop_gen hl hP hw (lim way - vt parts way s0) (abStep parts s0) m₁ S₁ (abStep_ok hP hl A0) ((lm way hw).imp id fun h => by lcg_off)).ge
    rw [← R.stop, show vt parts way s0 + (lim way - vt parts way s0) = lim way by lcg_off] at g
    have : 0 < (abStep parts s0).n.length := by
      cases h : goes parts s0.i p (bodyV p s0.v) s0.stk with
      | none => rw [abStep_bad rfl hp h]; simp
      | some q => rw [abStep_some rfl hp h]; simp
    exact Nat.lt_of_lt_of_le this g.length_le
  · obtain ⟨k1, z1⟩ := (G way hw).le
    obtain ⟨k2, z2⟩ := (G 0 (by decide)).le
    have p1 := z1.trans (abN_mono (parts := parts) (s := s0) (Nat.le_max_left k1 k2))
    have p2 := z2.trans (abN_mono (parts := parts) (s := s0) (Nat.le_max_right k1 k2))
    obtain ⟨y1, hy1⟩ := p1
    obtain ⟨y2, hy2⟩ := p2
    have e1 := congrArg (List.take n) hy1
    have e2 := congrArg (List.take n) hy2
    rw [List.take_append_of_le_length (hn way hw)] at e1
    rw [List.take_append_of_le_length (hn 0 (by decide))] at e2
    exact e1.trans e2.symm
  · obtain ⟨k, k1, k2, k3⟩ := (G 0 (by decide)).fin (by
      by_cases h0 : (stopN w2 (prg parts 0) (lim 0) mz).2 = none
      · exact .inr (by have := mt (fun q => ⟨h0, q⟩) h; simp only [endOf] at this; lcg_off)
      · exact .inl h0)
    have k2' : tot parts 0 k s0 ≤ 40 := k2
    have k3' : (abN parts k s0).bad = true → tot parts 0 k s0 + 1 ≤ 40 := k3
    obtain ⟨t1, t2⟩ := tot_le hl k s0
    have f0 : fours parts s0.stk = 0 := rfl
    have l0 : s0.stk.length = 0 := rfl
    have D : ∀ way, way < 3 → ∃ m', Sim parts way (abN parts k s0) m' ∧ ((abN parts k s0).bad = true → stopN w2 (prg parts way) (lim way) mz = (m', some (if way = 1 then ("UL" : Str) else "RG"))) ∧ ((abN parts k s0).bad = false → stopN w2 (prg parts way) (lim way) mz = (m', none) ∧ (prg parts way).rows.length ≤ m'.pc) := fun way hw => by
      refine stop_done hl hP hw k s0 mz (lim way) (S0 way hw) A0 k1 ?_ ?_ ?_
      · obtain rfl | rfl | rfl : way = 0 ∨ way = 1 ∨ way = 2 := by lcg_off
        · exact .inr (by lcg_off)
        · exact .inl rfl
        · exact .inr (by lcg_off)
      · obtain rfl | rfl | rfl : way = 0 ∨ way = 1 ∨ way = 2 := by lcg_off
        · exact k2
        · show _ ≤ 100; lcg_off
        · show _ ≤ 40; lcg_off
      · obtain rfl | rfl | rfl : way = 0 ∨ way = 1 ∨ way = 2 := by lcg_off
        · exact fun e => k3' (e.resolve_right (by decide))
        · exact fun zz => by show _ ≤ 100; lcg_off
        · exact fun e => by have := k3' (e.resolve_right (by decide)); show _ ≤ 40; lcg_off
    have AN : ∀ k, AbOk (abN parts k s0) := fun k => by
      have : ∀ k s, AbOk s → AbOk (abN parts k s) := fun k => by
        induction k with
        | zero => exact fun s h => h
        | succ k ih => exact fun s h => ih _ (abStep_ok hP hl h)
      exact this k s0 A0
    obtain ⟨m0', q0, b0, c0⟩ := D 0 (by decide)
    obtain ⟨m1', q1, b1, c1⟩ := D 1 (by decide)
    obtain ⟨m2', q2, b2, c2⟩ := D 2 (by decide)
    have hlen := stk_le (way := 0) (by decide) k s0 (parts := parts)
    have e : ∀ way < 3, ∃ m', Sim parts way (abN parts k s0) m' ∧ (endOf parts way).1 = m' ∧ ((abN parts k s0).bad = true → (endOf parts way).2 = some (if way = 1 then ("UL" : Str) else "RG")) ∧ ((abN parts k s0).bad = false → (endOf parts way).2 = none ∧ (prg parts way).rows.length ≤ (endOf parts way).1.pc) := fun way hw => by
      obtain ⟨m', q, b, c⟩ := D way hw
      cases hb : (abN parts k s0).bad with
      | true => exact ⟨m', q, by rw [endOf, b hb], fun zz => by rw [endOf, b hb], fun e => nomatch e⟩
      | false => exact ⟨m', q, by rw [endOf, (c hb).1], (fun e => nomatch e), fun zz => by rw [endOf, (c hb).1]; exact ⟨rfl, (c hb).2⟩⟩
    have S : ∀ way < 3, Sim parts way (abN parts k s0) (endOf parts way).1 := fun way hw => by
      obtain ⟨m', q, e1, _⟩ := e way hw
      rw [e1]; exact q
    refine ⟨?_, fun way hw => ⟨(S way hw).nt.trans (S 0 (by decide)).nt.symm, (S way hw).ag.symm.trans (S 0 (by decide)).ag⟩, (abN parts k s0).stk, (AN k).st, by lcg_off, (S 1 (by decide)).sr.1, (S 0 (by decide)).sr, (S 2 (by decide)).sr⟩
    cases hb : (abN parts k s0).bad with
    | true =>
      refine .inr fun way hw => ?_
      obtain ⟨m', _, _, h1, _⟩ := e way hw
      exact h1 hb
    | false =>
      refine .inl fun way hw => ?_
      obtain ⟨m', _, _, _, h1⟩ := e way hw
      exact h1 hb
-- K1
section
theorem to_true {QT QF : Prop} (h : QT) : ∃ t, V.bool true = .bool t ∧ ((t = false → QF) ∧ (t = true → QT)) := ⟨true, rfl, (fun e => nomatch e), fun zz => h⟩
theorem to_false {QT QF : Prop} (h : QF) : ∃ t, V.bool false = .bool t ∧ ((t = false → QF) ∧ (t = true → QT)) := ⟨false, rfl, fun zz => h, (fun e => nomatch e)⟩
theorem t_dt {p : Prop} [Decidable p] (hp : p) {QT QF : Prop} (h : QT) : ∃ t, V.bool (decide p) = .bool t ∧ ((t = true → QT) ∧ (t = false → QF)) := ⟨_, rfl, fun zz => h, fun e => absurd hp (of_decide_eq_false e)⟩
theorem t_df {p : Prop} [Decidable p] (hp : ¬ p) {QT QF : Prop} (h : QF) : ∃ t, V.bool (decide p) = .bool t ∧ ((t = true → QT) ∧ (t = false → QF)) := ⟨_, rfl, fun e => absurd (of_decide_eq_true e) hp, fun zz => h⟩
noncomputable def LawAds : Type := Unit
noncomputable def LawAds.f_take (_ : LawAds) : Addr := 568
noncomputable def LawAds.f_let (_ : LawAds) : Addr := 575
noncomputable def LawAds.f_worth (_ : LawAds) : Addr := 582
noncomputable def LawAds.f_back (_ : LawAds) : Addr := 589
noncomputable def LawAds.f_returned (_ : LawAds) : Addr := 594
noncomputable def LawAds.f_gone_to (_ : LawAds) : Addr := 601
noncomputable def LawAds.f_led (_ : LawAds) : Addr := 606
noncomputable def LawAds.f_program (_ : LawAds) : Addr := 613
noncomputable def LawAds.f_gone (_ : LawAds) : Addr := 620
noncomputable def LawAds.f_piles (_ : LawAds) : Addr := 625
noncomputable def LawAds.f_law (_ : LawAds) : Addr := 630
structure LawLib (c : Ctx) (W : LawAds) : Prop where
  take : GFn c.K "_law_take" (nth P1 76) W.f_take
  let_ : GFn c.K "_law_let" (nth P1 77) W.f_let
  worth : GFn c.K "_law_worth" (nth P1 78) W.f_worth
  back : GFn c.K "_law_back" (nth P1 79) W.f_back
  returned : GFn c.K "_law_returned" (nth P1 80) W.f_returned
  gone_to : GFn c.K "_law_gone_to" (nth P1 81) W.f_gone_to
  led : GFn c.K "_law_led" (nth P1 82) W.f_led
  program : GFn c.K "_law_program" (nth P1 83) W.f_program
  gone : GFn c.K "_law_gone" (nth P1 84) W.f_gone
  piles : GFn c.K "_law_piles_right" (nth P1 85) W.f_piles
  law : GFn c.K "law" (nth P1 86) W.f_law
  hand : handedIn (.ref W.f_worth) = true
noncomputable def usual2 : List Int := [0, 0, 1, 2, 0, 0, 0, 0, 1, 1, 1, 6, 0, 0, 0, 0, 0, 0, 1, 3, 0, 1, 0, 0, 1, 1, 2, 4, 1, 0, 0, 0, 0, 0, 3, 7, 0, 0, 0, 0, 1, 0, 0, 5, 0, 0, 0, 0]
noncomputable def takeV (s : List Int) (k : Nat) (many : Int) : Int := (if k < s.length then s.getD k 0 else usual2.getD (k % 48) 0).fmod many
section
variable {c : Ctx} {A : Ads} {W : LawAds} {d : Nat} {env : Env} {lk : Loc} {σ σ' : Sto} {pos : Pos} {QX : Fl → Loc → Sto → Prop} {Q : V → Sto → Prop}
theorem t_take (LB : Lib c A) (WL : LawLib c W) {kc k : Nat} {s : List Int} {many : Int} (hc : σ kc = some (.list [.lst (s.map .int), .int k])) (hs : s.length ≤ 63) (hk : k < 1000) (hm : 0 < many)
    (h : Q (.int (takeV s k many)) (upd σ kc (.list [.lst (s.map .int), .int ((k + 1 : Nat) : Int)]))) : CodeOk c 1 (.ref W.f_take) [.ref kc, .int many] σ Q := by
  refine code_fn2 "rope" "many" WL.take.fn (by intros; rfl) (by lcg_src) fun L cdv => ?_
  kat_tups
  kas_types
  refine ok_list ?_
  kas_types
  refine ⟨le_line (by decide), ?_⟩
  rw [show ([.int 0, .int 0, .int 1, .int 2, .int 0, .int 0, .int 0, .int 0, .int 1, .int 1, .int 1, .int 6, .int 0, .int 0, .int 0, .int 0, .int 0, .int 0, .int 1, .int 3, .int 0, .int 1, .int 0, .int 0, .int 1, .int 1, .int 2, .int 4, .int 1, .int 0, .int 0, .int 0, .int 0, .int 0, .int 3, .int 7, .int 0, .int 0, .int 0, .int 0, .int 1, .int 0, .int 0, .int 5, .int 0, .int 0, .int 0, .int 0] : List V) = usual2.map .int from rfl]
  generalize hU : usual2.map V.int = U
  have hUl : U.length = 48 := by rw [← hU]; rfl
  kas_types
  refine item_cell plainI hc (by decide) (by decide) (y := .int k) rfl ?_
  refine okb_assign ?_ (by lcg_sub) (by lcg_sub) (by lcg_sub)
  kas_types
  refine oka_sub ?_
  kas_types
  refine set_cell hc (by decide) (by decide) (by simp) ?_
  rw [show ([V.lst (s.map .int), V.int k].set (Int.toNat 1) (V.int ((k : Int) + 1))) = [.lst (s.map .int), .int ((k + 1 : Nat) : Int)] from rfl]
  kas_types
  refine item_cell plainI (upd_self ..) (by decide) (by decide) (y := .lst (s.map .int)) rfl ?_
  kas_types
  refine callf_len (.inr (.inl rfl)) (le_line (by simp; lcg_off)) ?_
  kas_types
  rw [List.length_map]
  by_cases hks : k < s.length
  · rw [decide_eq_true (by lcg_off)]
    kas_types
    refine item_cell plainI (upd_self ..) (by decide) (by decide) (y := .lst (s.map .int)) rfl ?_
    kas_types
    refine item_lst plainI (by lcg_off) (by lcg_off) (y := .int (s.getD k 0)) (by simp [hks]) ?_
    kas_types
    refine run_mod (by lcg_off) ?_
    have : takeV s k many = (s.getD k 0).fmod many := by unfold takeV; rw [if_pos hks]
    rw [← this]
    kas_types
    exact h
  · rw [decide_eq_false (by lcg_off)]
    kas_types
    refine callf_len (.inr (.inl rfl)) (le_line (by lcg_off)) ?_
    rw [hUl]
    refine run_mod (by decide) ?_
    have e : ((k : Int).fmod ((48 : Nat) : Int)) = ((k % 48 : Nat) : Int) := by rw [Int.fmod_eq_emod_of_nonneg _ (by lcg_off)]; lcg_off
    rw [e]
    refine item_lst plainI (by lcg_off) (by lcg_off) (y := .int (usual2.getD (k % 48) 0)) ?_ ?_
    · rw [Int.toNat_natCast, ← hU, List.getElem?_map]
      have hlt : k % 48 < usual2.length := by show k % 48 < 48; lcg_off
      rw [List.getD_eq_getElem?_getD, List.getElem?_eq_getElem hlt]
      rfl
    kas_types
    refine run_mod (by lcg_off) ?_
    have : takeV s k many = (usual2.getD (k % 48) 0).fmod many := by unfold takeV; rw [if_neg hks]
    rw [← this]
    kas_types
    exact h
theorem t_takeN (LB : Lib c A) (WL : LawLib c W) {kc k many : Nat} {s : List Int} (hc : σ kc = some (.list [.lst (s.map .int), .int k])) (hs : s.length ≤ 63) (hk : k < 1000) (hm : 0 < many)
    (h : ∀ n : Nat, n < many → Q (.int n) (upd σ kc (.list [.lst (s.map .int), .int ((k + 1 : Nat) : Int)]))) : CodeOk c 1 (.ref W.f_take) [.ref kc, .int many] σ Q := by
  refine t_take LB WL hc hs hk (by lcg_off) ?_
  have h1 : 0 ≤ takeV s k many ∧ takeV s k many < many := by
    unfold takeV
    rw [Int.fmod_eq_emod_of_nonneg _ (by lcg_off)]
    exact ⟨Int.emod_nonneg _ (by lcg_off), Int.emod_lt_of_pos _ (by lcg_off)⟩
  have h2 : takeV s k many = ((takeV s k many).toNat : Int) := by lcg_off
  rw [h2]
  exact h _ (by lcg_off)
theorem t_let (WL : LawLib c W) {x : Str} {t : V} (h : Q (.tup [.str "LET", .tup [.str "name", .str x], t]) σ) : CodeOk c 1 (.ref W.f_let) [.str x, t] σ Q := by
  refine code_fn2 "name" "tree" WL.let_.fn (by intros; rfl) (by lcg_src) fun L cdv => ?_
  kat_tups
  kas_types
  exact h
theorem callf_let (WL : LawLib c W) {x : Str} {t : V} (hd : 1 ≤ d) (h : Q (.tup [.str "LET", .tup [.str "name", .str x], t]) σ) : CallF c d env lk σ (.ref W.f_let) [.str x, t] Q := (t_let WL h).f hd
noncomputable abbrev encPt (p : Pt) : V := .lst [.int p.goal, .int p.source, .int p.more, .int p.kind, .int p.one, .int p.other, .int p.name, .int p.number]
theorem nm_get {n : Nat} (h : n < 2) : ([.str "A", .str "B"] : List V)[(n : Int).toNat]? = some (.str (nm n)) := by
  have : n = 0 ∨ n = 1 := by lcg_off
  rcases this with rfl | rfl <;> rfl
theorem ln_get {n : Nat} (h : n < 6) : ([.int 110, .int 120, .int 210, .int 220, .int 310, .int 320] : List V)[n]? = some (.int (ln n)) := by
  have : n = 0 ∨ n = 1 ∨ n = 2 ∨ n = 3 ∨ n = 4 ∨ n = 5 := by lcg_off
  rcases this with rfl | rfl | rfl | rfl | rfl | rfl <;> rfl
theorem ln_get7 {n : Nat} (h : n < 7) : (([.int 110, .int 120, .int 210, .int 220, .int 310, .int 320] : List V) ++ [.int 400])[n]? = some (.int (ln n)) := by
  have : n = 0 ∨ n = 1 ∨ n = 2 ∨ n = 3 ∨ n = 4 ∨ n = 5 ∨ n = 6 := by lcg_off
  rcases this with rfl | rfl | rfl | rfl | rfl | rfl | rfl <;> rfl
theorem pt_get {parts : List Pt} {i : Nat} {p : Pt} (h : parts[i]? = some p) : (parts.map fun p => encPt p)[i]? = some (encPt p) := by rw [List.getElem?_map, h]; rfl
theorem map_getD {o : Option Int} : (o.map V.int).getD (.int 0) = .int (o.getD 0) := by cases o <;> rfl
theorem beq_t {x y : Str} (h : x = y) : (x == y) = true := by simp [h]
theorem beq_f {x y : Str} (h : ¬ x = y) : (x == y) = false := by simp [h]
end
local macro_rules | `(tactic| kct_strs) => `(tactic| with_reducible first
  | (change Ok ..; first | (change Ok _ _ _ (.Call ..) ..; first | refine okg_call (‹LawLib _ _›).let_.ns (‹LawLib _ _›).let_.keep (by k_updF) (by kbo_bools) (fun zz => by lcg_sub) ?_))
  | (change Run2 ..; first | refine item_lst plainI (by decide) (by decide) (by lcg_sub) ?_)
  | (change CallF ..; first | refine callf_let (‹LawLib _ _›) (by lcg_off) ?_)
  | (change Exists _; first | refine to_true ?_ | refine to_false ?_)
  | (change And _ _; first | refine And.intro (le_line (Nat.le_of_ble_eq_true (by lcg_sub))) ?_))
section
variable {c : Ctx} {A : Ads} {W : LawAds} {d : Nat} {env : Env} {lk : Loc} {σ σ' : Sto} {pos : Pos} {QX : Fl → Loc → Sto → Prop} {Q : V → Sto → Prop}
set_option maxHeartbeats 1000000 in
theorem t_lawworth (LB : Lib c A) (WL : LawLib c W) : WorthOk c W.f_worth w2 1 := by
  refine ⟨WL.hand, WL.worth.keep, Nat.le_refl _, fun σ t kv vals Q hv h => ?_⟩
  obtain ⟨word, name, number⟩ := t
  unfold encT
  dsimp only [w2] at h
  dsimp only
  refine code_fn2 "tree" "values" WL.worth.fn (by intros; rfl) (by lcg_src) fun L cdv => ?_
  kat_tups
  refine okb_assign ?_ (by lcg_sub) (by lcg_sub) (by lcg_sub)
  kas_types
  refine oka_tuple (okas_cons (oka_name (okas_cons (oka_name (okas_cons (oka_name (okas_nil ?_) (by k_upd)) (by lcg_sub)) (by k_upd)) (by lcg_sub)) (by k_upd)) (by lcg_sub)) (by lcg_sub) (by lcg_sub)
  with_reducible refine okb_let ?_ (by k_upd) (by lcg_sub) (by lcg_sub)
  with_reducible refine ok_meth ?_ (by lcg_sub) (by lcg_sub) (by lcg_sub) (by lcg_sub)
  kas_types
  refine mk_meth (meth_get hv) rfl ?_
  kas_types
  refine callf_get2 LB.low hv ?_
  rw [map_getD]
  kas_types
  by_cases h2 : word = "mix"
  · subst h2
    rw [beq_t rfl]
    kas_types
    with_reducible refine ok_meth ?_ (by lcg_sub) (by lcg_sub) (by lcg_sub) (by lcg_sub)
    kas_types
    refine mk_meth (meth_get hv) rfl ?_
    kas_types
    refine callf_get2 LB.low hv ?_
    rw [map_getD]
    refine run_mul (.of_left (by decide)) ?_
    kas_types
    with_reducible refine ok_meth ?_ (by lcg_sub) (by lcg_sub) (by lcg_sub) (by lcg_sub)
    kas_types
    refine mk_meth (meth_get hv) rfl ?_
    kas_types
    refine callf_get2 LB.low hv ?_
    rw [map_getD]
    kas_types
    rw [if_pos rfl] at h
    exact h
  rw [beq_f h2]
  rw [if_neg h2] at h
  kas_types
  by_cases h4 : word = "sum"
  · rw [beq_t h4]
    kas_types
    refine run_mod (by decide) ?_
    kas_types
    rw [if_pos h4] at h
    exact h
  rw [beq_f h4]
  rw [if_neg h4] at h
  kas_types
  by_cases h5 : word = "same"
  · rw [beq_t h5]
    kas_types
    rw [if_pos h5] at h
    exact h
  rw [beq_f h5]
  rw [if_neg h5] at h
  kas_types
  by_cases h6 : word = "pushed"
  · rw [beq_t h6]
    kas_types
    refine run_mul (.of_right (by decide)) ?_
    kas_types
    rw [if_pos h6] at h
    exact h
  rw [beq_f h6]
  rw [if_neg h6] at h
  kas_types
  by_cases h7 : word = "last"
  · rw [beq_t h7]
    kas_types
    refine run_mod (by decide) ?_
    kas_types
    rw [if_pos h7] at h
    exact h
  rw [beq_f h7]
  rw [if_neg h7] at h
  kas_types
  by_cases h8 : word = "ahead"
  · rw [beq_t h8]
    kas_types
    refine run_fdiv (by decide) (by decide) ?_
    kas_types
    rw [if_pos h8] at h
    exact h
  rw [beq_f h8]
  rw [if_neg h8] at h
  kas_types
  by_cases e : (vals name).getD 0 = number
  · rw [decide_eq_true e]
    rw [if_pos e] at h
    exact h
  · rw [decide_eq_false e]
    rw [if_neg e] at h
    exact h
end
end
section
local macro_rules | `(tactic| kct_strs) => `(tactic| with_reducible first
  | (change Ok ..; first | (change Ok _ _ _ (.Call ..) ..; first | refine okg_call (‹LawLib _ _›).let_.ns (‹LawLib _ _›).let_.keep (by k_updF) (by kbo_bools) (fun _ => by lcg_sub) ?_))
  | (change Run2 ..; first | refine item_lst plainI (by decide) (by decide) (by lcg_sub) ?_)
  | (change CallF ..; first | refine callf_let (‹LawLib _ _›) (by omega) ?_)
  | (change Exists _; first | refine to_true ?_ | refine to_false ?_)
  | (change And _ _; first | refine And.intro (le_line (Nat.le_of_ble_eq_true (by lcg_sub))) ?_))
-- K2
section
local macro_rules | `(tactic| kct_strs) => `(tactic| with_reducible first
  | (change Ok ..; first | refine ok_list ?_))
section
variable {c : Ctx} {A : Ads} {W : LawAds} {d : Nat} {env : Env} {lk : Loc} {σ σ' : Sto} {pos : Pos} {QX : Fl → Loc → Sto → Prop} {Q : V → Sto → Prop}
theorem ok_cut {e : Expr} (y : V) (h1 : ∀ Q', Q' y σ → Ok c d env e lk σ Q') (h2 : Q y σ) : Ok c d env e lk σ Q := h1 Q h2
theorem kd_at {parts : List Pt} {i : Nat} {p : Pt} (h : parts[i]? = some p) : kd parts i = p.kind := by unfold kd; rw [h]; rfl
theorem t_back (LB : Lib c A) (WL : LawLib c W) {parts : List Pt} {i : Nat} {p : Pt} (hp : parts[i]? = some p) (hi : i < 6) (h : Q (.int (backN parts i)) σ) : CodeOk c 1 (.ref W.f_back) [.lst (parts.map fun p => encPt p), .int i] σ Q := by
  refine code_fn2 "parts" "at" WL.back.fn (by intros; rfl) (by lcg_src) fun L cdv => ?_
  kat_tups
  kas_types
  refine item_lst plainI (by lcg_off) (by lcg_off) (pt_get hp) ?_
  kas_types
  unfold backN at h
  rw [kd_at hp] at h
  by_cases k4 : p.kind = 4
  · with_reducible refine t_dt (by lcg_off) ?_
    rw [if_pos k4] at h
    kas_types
    refine item_lst plainI (by lcg_off) (by lcg_off) (ln_get hi) ?_
    kas_types
    exact h
  · with_reducible refine t_df (by lcg_off) ?_
    rw [if_neg k4] at h
    kas_types
    refine run_addl (.inl rfl) (.inl rfl) (le_line (by decide)) ?_
    kas_types
    refine item_lst plainI (by lcg_off) (by lcg_off) (ln_get7 (n := i + 1) (by lcg_off)) ?_
    kas_types
    exact h
theorem parts_at {parts : List Pt} (hl : parts.length = 6) {i : Nat} (hi : i < 6) : ∃ p, parts[i]? = some p := ⟨_, List.getElem?_eq_getElem (by lcg_off)⟩
theorem t_returned (LB : Lib c A) (WL : LawLib c W) {parts : List Pt} (hl : parts.length = 6) (h : Q (.lst (encSs (retS parts))) σ) : CodeOk c 2 (.ref W.f_returned) [.lst (parts.map fun p => encPt p)] σ Q := by
  refine code_fn1 "parts" WL.returned.fn (by intros; rfl) (by lcg_src) fun L cdv => ?_
  kat_tups
  kas_types
  refine ok_cut (.lst (((List.range 6).map (backN parts)).map .int)) (fun Q' hQ => ?_) ?_
  · refine ok_listcomp (cscope_fn [".0", "at"] rfl (by lcg_src) ⟨by keq_hits, by keq_hits, trivial⟩) (fun zz => by lcg_sub) ?_
    kas_types
    refine ⟨_, rfl, by decide, by decide, trivial, fun C cl => ?_⟩
    refine comp_inv1 (fun xs acc σ₁ => ∃ k m : Nat, xs = rangeV k 1 m ∧ k + m = 6 ∧ acc = ((List.range k).map (backN parts)).map .int ∧ σ₁ = σ) (by k_upd) (by keq_hits) (fun QE x r acc σ₁ hJ hE => ?_) (fun acc σ₁ hJ => ?_) ⟨0, 6, rfl, rfl, rfl, rfl⟩
    · obtain ⟨k, m, hx, hkm, rfl, rfl⟩ := hJ
      cases m with
      | zero => cases hx
      | succ m =>
        rw [rangeV] at hx
        injection hx with hx1 hx2
        subst hx1
        refine ⟨le_line (by simp; lcg_off), ?_⟩
        with_reducible refine okg_call (‹LawLib _ _›).back.ns (‹LawLib _ _›).back.keep (by k_updF) (by kbo_bools) (fun zz => by lcg_sub) ?_
        kas_types
        obtain ⟨p, hp⟩ := parts_at hl (i := k) (by lcg_off)
        refine (t_back LB WL hp (by lcg_off) ?_).f (by decide)
        refine hE _ _ trivial ⟨k + 1, m, hx2, by lcg_off, ?_, rfl⟩
        rw [List.range_succ, List.map_append, List.map_append]
        rfl
    · obtain ⟨k, m, hx, hkm, rfl, rfl⟩ := hJ
      cases m with
      | succ m => cases hx
      | zero =>
        obtain rfl : k = 6 := by lcg_off
        exact hQ
  kas_types
  refine run_addl (.inl rfl) (.inl rfl) (le_line (by simp)) ?_
  refine ret_ret ?_
  exact h
theorem t_gone_to (LB : Lib c A) (WL : LawLib c W) {pv : V} {i part way : Nat} (hp : part < 3) (h : Q (.lst (encSs (goneS i part way))) σ) : CodeOk c 2 (.ref W.f_gone_to) [pv, .int i, .int part, .int way] σ Q := by
  refine code_fn4 "parts" "at" "part" "way" WL.gone_to.fn (by intros; rfl) (by lcg_src) fun L cdv => ?_
  kat_tups
  kas_types
  refine run_mul (.of_left (by decide)) ?_
  refine item_lst plainI (by lcg_off) (by lcg_off) (y := .int (ln (2 * part))) (by rw [show ((2 * (part : Int)).toNat) = 2 * part by lcg_off]; exact ln_get (by lcg_off)) ?_
  kas_types
  unfold goneS at h
  by_cases hw : way = 0
  · with_reducible refine t_dt (by lcg_off) ?_
    rw [if_pos hw] at h
    kas_types
    exact h
  · with_reducible refine t_df (by lcg_off) ?_
    rw [if_neg hw] at h
    kas_types
    exact h
end
end
-- K3
section
local macro_rules | `(tactic| kct_strs) => `(tactic| with_reducible first
  | (change Ok ..; first | refine ok_list ?_))
section
variable {c : Ctx} {A : Ads} {W : LawAds} {d : Nat} {env : Env} {lk : Loc} {σ σ' : Sto} {pos : Pos} {QX : Fl → Loc → Sto → Prop} {Q : V → Sto → Prop}
theorem pt_drop {p : Pt} : Pick (.int 3) .none .none [.int p.goal, .int p.source, .int p.more, .int p.kind, .int p.one, .int p.other, .int p.name, .int p.number] [.int p.kind, .int p.one, .int p.other, .int p.name, .int p.number] := Pick.from 3 _ (by decide)
theorem encSs_append : ∀ (a b : List St), encSs (a ++ b) = encSs a ++ encSs b
  | [], b => rfl
  | x :: a, b => by simp [encSs_cons, encSs_append a b]
theorem goneS_len {i part way : Nat} : (goneS i part way).length ≤ 2 := by unfold goneS; split <;> simp
set_option maxHeartbeats 2000000 in
theorem t_led (LB : Lib c A) (WL : LawLib c W) {parts : List Pt} (hl : parts.length = 6) {i way : Nat} {p : Pt} (hp : parts[i]? = some p) (hi : i < 6) (hw : way < 3) (ho : p.Ok) (h : Q (.lst (encSs (leadS parts i p way))) σ) :
    CodeOk c 3 (.ref W.f_led) [.lst (parts.map fun p => encPt p), .int i, .int way] σ Q := by
  obtain ⟨p1, p2, p3, p4, p5, p6, p7, p8⟩ := ho
  refine code_fn3 "parts" "at" "way" WL.led.fn (by intros; rfl) (by lcg_src) fun L cdv => ?_
  kat_tups
  kas_types
  refine okb_assign ?_ (by lcg_sub) (by lcg_sub) (by lcg_sub)
  refine ok_slice ?_ plainI
  kas_types
  refine item_lst plainI (by lcg_off) (by lcg_off) (pt_get hp) ?_
  show Ok c 2 _ _ _ _ _
  kas_types
  refine ⟨_, _, .inl rfl, le_line (Nat.le_of_ble_eq_true (by lcg_sub)), pt_drop, ?_⟩
  refine oka_unpack (okas_cons (oka_name (okas_cons (oka_name (okas_cons (oka_name (okas_cons (oka_name (okas_cons (oka_name (okas_nil ?_) (by k_upd)) (by lcg_sub)) (by k_upd)) (by lcg_sub)) (by k_upd)) (by lcg_sub)) (by k_upd)) (by lcg_sub)) (by k_upd)) (by lcg_sub)) (by lcg_sub) (by lcg_sub)
  refine okb_swap2 "test" "back" ?_ (by lcg_sub) (by lcg_sub) (by k_upd) (by k_upd)
  refine ok_tuple ?_
  with_reducible refine okl_cons ?_ (fun zz => by lcg_sub)
  refine ok_cut (encT (tst p)) (fun Q' hQ => ?_) ?_
  · kas_types
    refine item_lst plainI (by lcg_off) (by lcg_off) (nm_get p7) ?_
    kas_types
    exact hQ
  with_reducible refine okl_cons ?_ (fun zz => by lcg_sub)
  refine ok_cut (.lst (encSs (backS parts way))) (fun Q' hQ => ?_) ?_
  · unfold backS at hQ
    kas_types
    by_cases w1 : way = 1
    · rw [decide_eq_true (by lcg_off), Bool.not_true]
      rw [if_pos w1] at hQ
      kas_types
      with_reducible refine okg_call (‹LawLib _ _›).returned.ns (‹LawLib _ _›).returned.keep (by k_updF) (by kbo_bools) (fun zz => by lcg_sub) ?_
      kas_types
      exact (t_returned LB WL hl hQ).f (Nat.le_refl _)
    · rw [decide_eq_false (by lcg_off), Bool.not_false]
      rw [if_neg w1] at hQ
      kas_types
      exact hQ
  kas_types
  have hx := h
  unfold leadS at hx
  by_cases k1 : p.kind = 1
  · with_reducible refine t_dt (by lcg_off) ?_
    rw [if_pos k1] at hx
    kas_types
    refine run_fdiv (by decide) (by decide) ?_
    kas_types
    refine run_mul (.of_right (by decide)) ?_
    kas_types
    refine item_lst plainI ?_ ?_ (y := .int (ln (i / 2 * 2 + p.one))) ?_ ?_
    · rw [Int.fdiv_eq_ediv_of_nonneg _ (by decide)]; lcg_off
    · rw [Int.fdiv_eq_ediv_of_nonneg _ (by decide)]; lcg_off
    · rw [Int.fdiv_eq_ediv_of_nonneg _ (by decide), show (((i : Int) / 2 * 2 + p.one).toNat) = i / 2 * 2 + p.one by lcg_off]
      exact ln_get (by lcg_off)
    kas_types
    exact hx
  with_reducible refine t_df (by lcg_off) ?_
  rw [if_neg k1] at hx
  kas_types
  by_cases k2 : p.kind = 2
  · with_reducible refine t_dt (by lcg_off) ?_
    rw [if_pos k2] at hx
    kas_types
    with_reducible refine okg_call (‹LawLib _ _›).gone_to.ns (‹LawLib _ _›).gone_to.keep (by k_updF) (by kbo_bools) (fun zz => by lcg_sub) ?_
    kas_types
    refine run_mod (by decide) ?_
    kas_types
    rw [show (1 + (p.one : Int)) = ((1 + p.one : Nat) : Int) by lcg_off, show ((way : Int).fmod 2) = ((way % 2 : Nat) : Int) by rw [Int.fmod_eq_emod_of_nonneg _ (by decide)]; lcg_off]
    refine (t_gone_to LB WL (by lcg_off) ?_).f (by decide)
    exact hx
  with_reducible refine t_df (by lcg_off) ?_
  rw [if_neg k2] at hx
  kas_types
  by_cases k3 : p.kind = 3
  · with_reducible refine t_dt (by lcg_off) ?_
    rw [if_pos k3] at hx
    kas_types
    by_cases w1 : way = 1
    · rw [decide_eq_true (by lcg_off), Bool.not_true]
      rw [if_pos w1] at hx
      kas_types
      with_reducible refine t_dt (by lcg_off) ?_
      refine okb_assign ?_ (by lcg_sub) (by lcg_sub) (by lcg_sub)
      refine ok_listcomp (cscope_fn [".0", "part"] rfl (by lcg_src) ⟨by keq_hits, by keq_hits, trivial⟩) (fun zz => by lcg_sub) ?_
      refine okit_val ?_
      kas_types
      refine ⟨_, .inl rfl, trivial, fun C cl => ?_⟩
      refine comp_name (by k_upd) (by keq_hits) (Nat.zero_le _) ?_
      with_reducible refine okg_call (‹LawLib _ _›).gone_to.ns (‹LawLib _ _›).gone_to.keep (by k_updF) (by kbo_bools) (fun zz => by lcg_sub) ?_
      kas_types
      rw [show (1 + (p.one : Int)) = ((1 + p.one : Nat) : Int) by lcg_off]
      refine (t_gone_to LB WL (way := 1) (by lcg_off) ?_).f (by decide)
      refine ⟨trivial, ?_⟩
      refine comp_name (by k_upd) (by keq_hits) (le_line (by simp)) ?_
      with_reducible refine okg_call (‹LawLib _ _›).gone_to.ns (‹LawLib _ _›).gone_to.keep (by k_updF) (by kbo_bools) (fun zz => by lcg_sub) ?_
      kas_types
      rw [show (1 + (p.other : Int)) = ((1 + p.other : Nat) : Int) by lcg_off]
      refine (t_gone_to LB WL (way := 1) (by lcg_off) ?_).f (by decide)
      refine ⟨trivial, ?_⟩
      refine comp_nil ?_
      refine oka_unpack (okas_cons (oka_name (okas_cons (oka_name (okas_nil ?_) (by k_upd)) (by lcg_sub)) (by k_upd)) (by lcg_sub)) (by lcg_sub) (by lcg_sub)
      kas_types
      exact hx
    · rw [decide_eq_false (by lcg_off), Bool.not_false]
      rw [if_neg w1] at hx
      kas_types
      refine run_mul (.of_left (by decide)) ?_
      kas_types
      refine item_lst plainI (by lcg_off) (by lcg_off) (y := .int (ln (2 + 2 * p.one))) (by rw [show ((2 + 2 * (p.one : Int)).toNat) = 2 + 2 * p.one by lcg_off]; exact ln_get (by lcg_off)) ?_
      kas_types
      refine run_mul (.of_left (by decide)) ?_
      kas_types
      refine item_lst plainI (by lcg_off) (by lcg_off) (y := .int (ln (2 + 2 * p.other))) (by rw [show ((2 + 2 * (p.other : Int)).toNat) = 2 + 2 * p.other by lcg_off]; exact ln_get (by lcg_off)) ?_
      kas_types
      exact hx
  with_reducible refine t_df (by lcg_off) ?_
  rw [if_neg k3] at hx
  kas_types
  with_reducible refine t_df (by lcg_off) ?_
  kas_types
  by_cases k4 : p.kind = 4
  · with_reducible refine t_dt (by lcg_off) ?_
    rw [if_pos k4] at hx
    kas_types
    by_cases w2 : way = 2
    · with_reducible refine t_dt (by lcg_off) ?_
      rw [if_pos w2] at hx
      kas_types
      refine run_mul (.of_left (by decide)) ?_
      kas_types
      refine item_lst plainI (by lcg_off) (by lcg_off) (y := .int (ln (2 + 2 * p.one))) (by rw [show ((2 + 2 * (p.one : Int)).toNat) = 2 + 2 * p.one by lcg_off]; exact ln_get (by lcg_off)) ?_
      kas_types
      exact hx
    · with_reducible refine t_df (by lcg_off) ?_
      rw [if_neg w2] at hx
      kas_types
      with_reducible refine okg_call (‹LawLib _ _›).gone_to.ns (‹LawLib _ _›).gone_to.keep (by k_updF) (by kbo_bools) (fun zz => by lcg_sub) ?_
      kas_types
      rw [show (1 + (p.one : Int)) = ((1 + p.one : Nat) : Int) by lcg_off]
      refine (t_gone_to LB WL (by lcg_off) ?_).f (by decide)
      kas_types
      by_cases w0 : way = 0
      · with_reducible refine t_dt (by lcg_off) ?_
        rw [if_pos w0] at hx
        kas_types
        refine run_addl (.inl rfl) (.inl rfl) (le_line (by rw [encSs_len, encSs_len]; have := @goneS_len i (1 + p.one) way; unfold backS; rw [if_neg (by lcg_off)]; simp; lcg_off)) ?_
        kas_types
        rw [← encSs_append]
        exact hx
      · with_reducible refine t_df (by lcg_off) ?_
        rw [if_neg w0] at hx
        kas_types
        refine run_addl (.inl rfl) (.inl rfl) (le_line (by rw [encSs_len]; have := @goneS_len i (1 + p.one) way; simp; lcg_off)) ?_
        kas_types
        rw [List.append_nil] at hx ⊢
        exact hx
  with_reducible refine t_df (by lcg_off) ?_
  rw [if_neg k4] at hx
  kas_types
  by_cases k5 : p.kind = 5
  · with_reducible refine t_dt (by lcg_off) ?_
    rw [if_pos k5] at hx
    kas_types
    exact hx
  with_reducible refine t_df (by lcg_off) ?_
  rw [if_neg k5] at hx
  kas_types
  by_cases k6 : p.kind = 6
  · with_reducible refine t_dt (by lcg_off) ?_
    rw [if_pos k6] at hx
    kas_types
    exact hx
  with_reducible refine t_df (by lcg_off) ?_
  rw [if_neg k6] at hx
  kas_types
  by_cases k7 : p.kind = 7
  · with_reducible refine t_dt (by lcg_off) ?_
    rw [if_pos k7] at hx
    kas_types
    exact hx
  with_reducible refine t_df (by lcg_off) ?_
  rw [if_neg k7] at hx
  kas_types
  exact hx
end
end
-- K4
section
local macro_rules | `(tactic| kct_strs) => `(tactic| with_reducible first
  | (change Ok ..; first | refine ok_list ?_))
section
variable {c : Ctx} {A : Ads} {W : LawAds} {d : Nat} {env : Env} {lk : Loc} {σ σ' : Sto} {pos : Pos} {QX : Fl → Loc → Sto → Prop} {Q : V → Sto → Prop}
theorem log2_small {n : Nat} (h : n < 1000) : (n : Int).natAbs.log2 < 1920 := by
  have := Nat.log2_le_self (n : Int).natAbs
  lcg_off
theorem leadS_len {parts : List Pt} {i way : Nat} {p : Pt} : (leadS parts i p way).length ≤ 10 := by
  have h1 : ∀ part w, (goneS i part w).length ≤ 2 := fun part w => goneS_len
  have h2 : (backS parts way).length ≤ 4 := by unfold backS retS ret3; split <;> simp
  unfold leadS
  have g1 := h1 (1 + p.one) (way % 2)
  have g2 := h1 (1 + p.one) way
  repeat' split
  all_goals simp
  all_goals lcg_off
set_option maxHeartbeats 2000000 in
theorem t_program (LB : Lib c A) (WL : LawLib c W) {parts : List Pt} (hl : parts.length = 6) {way : Nat} (hw : way < 3) (hP : ∀ p ∈ parts, p.Ok) (h : ∀ σ', (∀ j x, σ j = some x → σ' j = some x) → Q (.lst ((progS parts way).map encP)) σ') :
    CodeOk c 4 (.ref W.f_program) [.lst (parts.map fun p => encPt p), .int way] σ Q := by
  refine code_fn2 "parts" "way" WL.program.fn (by intros; rfl) (by lcg_src) fun L cdv => ?_
  kat_tups
  with_reducible refine okb_let ?_ (by k_upd) (by lcg_sub) (by lcg_sub)
  refine ok_cut (.lst [.str "A", .str "B"]) (fun Q' hQ => ?_) ?_
  · kas_types
    exact hQ
  with_reducible refine okb_let ?_ (by k_upd) (by lcg_sub) (by lcg_sub)
  refine ok_cut (.lst [.int 110, .int 120, .int 210, .int 220, .int 310, .int 320]) (fun Q' hQ => ?_) ?_
  · kas_types
    exact hQ
  with_reducible refine okb_let ?_ (by k_upd) (by lcg_sub) (by lcg_sub)
  refine ok_listC ?_
  refine okl_nil ⟨len0, fun kl hkl => ?_⟩
  have dom : ∀ j x, σ j = some x → j ≠ kl := fun j x hj => ne_none hj hkl
  kas_types
  refine okit_enum LB.b_enumerate (by k_updF) ?_ (fun zz => by lcg_sub)
  kas_types
  refine .inl ⟨_, rfl, trivial, ?_⟩
  refine loop_weak (lk' := [("parts", .lst (parts.map fun p => encPt p)), ("way", .int way), ("_law_names", .lst [.str "A", .str "B"]), ("_law_lines", .lst [.int 110, .int 120, .int 210, .int 220, .int 310, .int 320]), ("lines", .ref kl)]) (by keq_rows) ?_
  refine loop_inv2 (fun xs lk₁ σ₁ => ∃ (n : Nat) (rs : List Pt) (D : List V), xs = enumV n (rs.map fun p => encPt p) ∧ lk₁ = ([("parts", .lst (parts.map fun p => encPt p)), ("way", .int way), ("_law_names", .lst [.str "A", .str "B"]), ("_law_lines", .lst [.int 110, .int 120, .int 210, .int 220, .int 310, .int 320]), ("lines", .ref kl)] : Loc) ∧ rs = parts.drop n ∧ n ≤ 6 ∧
    σ₁ = upd σ kl (.list D) ∧ D.length ≤ 2 * n ∧ D ++ (progFrom parts way n rs).map encP = (progFrom parts way 0 parts).map encP) (by k_upd) (by k_upd) (fun QB x xs lk₁ σ₁ hJ hB => ?_) (fun lk₁ σ₁ hJ => ?_) ⟨0, parts, [], rfl, rfl, rfl, by decide, rfl, Nat.le_refl _, rfl⟩
  · obtain ⟨n, rs, D, hx, rfl, hrs, hn6, rfl, hDl, hD⟩ := hJ
    cases rs with
    | nil => cases hx
    | cons p rs =>
      rw [List.map_cons, enumV_cons] at hx
      injection hx with hx1 hx2
      subst hx1
      have hp : parts[n]? = some p := by rw [← List.head?_drop, ← hrs]; rfl
      have hn : n < 6 := by rw [← hl]; exact (List.getElem?_eq_some_iff.mp hp).1
      have hrs' : rs = parts.drop (n + 1) := by rw [← List.tail_drop, ← hrs]; rfl
      have ho := hP p (List.mem_of_getElem? hp)
      obtain ⟨p1, p2, p3, p4, p5, p6, p7, p8⟩ := id ho
      refine ⟨_, _, rfl, ?_⟩
      with_reducible refine okb_let ?_ (by k_upd) (by lcg_sub) (by lcg_sub)
      refine ok_cut (encS (.let_ (nm p.goal) ("sum", nm p.source, p.more))) (fun Q' hQ => ?_) ?_
      · kas_types
        refine item_lst plainI (by lcg_off) (by lcg_off) (nm_get p1) ?_
        kas_types
        refine item_lst plainI (by lcg_off) (by lcg_off) (nm_get p2) ?_
        kas_types
        exact hQ
      kas_types
      with_reducible refine ok_meth ?_ (by lcg_sub) (by lcg_sub) (by lcg_sub) (by lcg_sub)
      kas_types
      refine mk_meth (meth_append (upd_self ..)) rfl ?_
      with_reducible refine okl_cons ?_ (fun zz => by lcg_sub)
      refine ok_cut (encP (ln n, lineS parts way n p)) (fun Q' hQ => ?_) ?_
      · kas_types
        refine item_lst plainI (by lcg_off) (by lcg_off) (ln_get hn) ?_
        kas_types
        refine callf_str_int (log2_small (by lcg_off)) ?_
        kas_types
        with_reducible refine okg_call (‹LawLib _ _›).led.ns (‹LawLib _ _›).led.keep (by k_updF) (by kbo_bools) (fun zz => by lcg_sub) ?_
        kas_types
        refine (t_led LB WL hl hp hn hw ho ?_).f (by decide)
        refine run_addl (.inl rfl) (.inl rfl) (le_line (by rw [encSs_len]; have := @leadS_len parts n way p; simp; lcg_off)) ?_
        kas_types
        have e : encP (ln n, lineS parts way n p) = .tup [.int (ln n), .lst (encSs (bodyS p n) ++ encSs (leadS parts n p way))] := by rw [← encSs_append]; rfl
        rw [e] at hQ
        exact hQ
      kas_types
      refine callf_append (upd_self ..) (le_line (by lcg_off)) ?_
      rw [upd_upd]
      have dn : (D ++ [encP (ln n, lineS parts way n p)]).length = D.length + 1 := by simp
      by_cases w1 : way = 1 ∧ p.kind = 4
      · kas_types
        with_reducible refine t_dt (by lcg_off) ?_
        kas_types
        with_reducible refine t_dt (by lcg_off) ?_
        kas_types
        with_reducible refine ok_meth ?_ (by lcg_sub) (by lcg_sub) (by lcg_sub) (by lcg_sub)
        kas_types
        refine mk_meth (meth_append (upd_self ..)) rfl ?_
        kas_types
        refine item_lst plainI (by lcg_off) (by lcg_off) (ln_get hn) ?_
        kas_types
        with_reducible refine okg_call (‹LawLib _ _›).returned.ns (‹LawLib _ _›).returned.keep (by k_updF) (by kbo_bools) (fun zz => by lcg_sub) ?_
        kas_types
        refine (t_returned LB WL hl ?_).f (by decide)
        kas_types
        refine callf_append (upd_self ..) (le_line (by lcg_off)) ?_
        rw [upd_upd]
        kas_types
        refine hB .next _ _ ⟨trivial, ([("parts", .lst (parts.map fun p => encPt p)), ("way", .int way), ("_law_names", .lst [.str "A", .str "B"]), ("_law_lines", .lst [.int 110, .int 120, .int 210, .int 220, .int 310, .int 320]), ("lines", .ref kl)] : Loc), by keq_rows, n + 1, rs, _, hx2, rfl, hrs', hn, rfl, by simp; lcg_off, ?_⟩
        rw [← hD]
        simp only [progFrom_nil, progFrom_cons, if_pos w1, List.map_cons, List.map_append, List.append_assoc, List.cons_append, List.nil_append, List.map_nil]
        rfl
      · have fin : QB .next _ _ := hB .next (put "summed" (encS (.let_ (nm p.goal) ("sum", nm p.source, p.more))) (put "part" (encPt p) (put "at" (.int n) ([("parts", .lst (parts.map fun p => encPt p)), ("way", .int way), ("_law_names", .lst [.str "A", .str "B"]), ("_law_lines", .lst [.int 110, .int 120, .int 210, .int 220, .int 310, .int 320]), ("lines", .ref kl)] : Loc)))) (upd σ kl (.list (D ++ [encP (ln n, lineS parts way n p)])))
          ⟨trivial, ([("parts", .lst (parts.map fun p => encPt p)), ("way", .int way), ("_law_names", .lst [.str "A", .str "B"]), ("_law_lines", .lst [.int 110, .int 120, .int 210, .int 220, .int 310, .int 320]), ("lines", .ref kl)] : Loc), by keq_rows, n + 1, rs, _, hx2, rfl, hrs', hn, rfl, by lcg_off, by
            rw [← hD]
            simp only [progFrom_nil, progFrom_cons, if_neg w1, List.map_cons, List.append_assoc, List.cons_append, List.nil_append]⟩
        kas_types
        by_cases w2 : way = 1
        · with_reducible refine t_dt (by lcg_off) ?_
          kas_types
          with_reducible refine t_df (by lcg_off) ?_
          kas_types
          exact fin
        · with_reducible refine t_df (by lcg_off) ?_
          kas_types
          exact fin
  · obtain ⟨n, rs, D, hx, rfl, hrs, hn6, rfl, hDl, hD⟩ := hJ
    cases rs with
    | cons p rs => cases hx
    | nil =>
      simp only [progFrom_nil, progFrom_cons, List.map_nil, List.append_nil] at hD
      have hh := h (upd σ kl (.list D)) fun j x hj => (upd_ne (dom j x hj)).trans hj
      unfold progS at hh
      rw [List.map_append, ← hD] at hh
      kas_types
      by_cases w1 : way = 1
      · with_reducible refine t_dt (by lcg_off) ?_
        unfold lastS at hh
        rw [if_pos w1] at hh
        kas_types
        refine run_addl (.inr ⟨kl, rfl, upd_self ..⟩) (.inl rfl) (le_line (by simp; lcg_off)) ?_
        kas_types
        exact hh
      · with_reducible refine t_df (by lcg_off) ?_
        unfold lastS at hh
        rw [if_neg w1] at hh
        kas_types
        refine run_addl (.inr ⟨kl, rfl, upd_self ..⟩) (.inl rfl) (le_line (by simp; lcg_off)) ?_
        kas_types
        exact hh
end
end
-- K5
section
section
variable {c : Ctx} {A : Ads} {W : LawAds} {C fI : Addr} {d : Nat} {env : Env} {outs : List Env} {lk : Loc} {σ σ' : Sto} {pos : Pos} {QX : Fl → Loc → Sto → Prop} {Q : V → Sto → Prop} {QE : Loc → Sto → Str → Prop}
theorem oke_tuple2 {a b : Expr} {k : Nat} (h : Ok c d env a lk σ (fun y σ' => OkE c C d env outs b lk σ' (fun z σ'' => Q (.tup [y, z]) σ'') QE)) (he1 : ∀ env, starEach [a, b] env = (false, eval a env) :: starEach [b] env) (he2 : ∀ env, starEach [b] env = (false, eval b env) :: starEach [] env) :
    OkE c C d env outs (.Tuple [a, b] k pos) lk σ Q QE := by
  intro A s μ Qr Er ok r f D q qe
  refine Tuple_ (wpAny_items_cons (h A s μ _ Er ok r f fun va s₁ y σ₁ μ₁ h₁ r₁ f₁ v₁ st₁ => wpAny_items_cons (h₁ A s₁ μ₁ _ Er ok r₁ f₁ (D.step st₁) (fun vb s₂ z σ₂ μ₂ h₂ r₂ f₂ v₂ st₂ => wpAny_items_nil ?_) (qe.after st₁)) (he2 env)) (he1 env))
  refine wpAny_newObj_type (T := "tuple") (data := .seq [va, vb].toArray) ?_ (by show [va, vb].toArray.size ≤ sizeLine; rw [sizeLine_eq, List.size_toArray]; simp)
  exact q _ { s₂ with heap := s₂.heap.push _ } (.tup [y, z]) σ₂ μ₂ h₂ (r₂.push _) (f₂.push _) (.tup (Heap.get?_push_size _ rfl) (frz_size r₂) (.cons ((v₁.step st₂).at (Kp.push _)) (.cons (v₂.at (Kp.push _)) .nil))) ((st₁.trans st₂).trans (Step.push _))
noncomputable def objsL (o : Objs) (kp : Nat) : List Nat := [o.kRun, o.kFlat, o.kVals, o.kCtl, o.kNotes, o.kRows, o.kPl, o.kPairs, kp]
theorem RunAt.mv {aW : Addr} {o : Objs} {kp : Nat} {P : Prg} {m : Ms} (r : RunAt A aW o kp P σ m) (hs : ∀ j ∈ objsL o kp, ∀ x, σ j = some x → σ' j = some x) : RunAt A aW o kp P σ' m := by
  obtain ⟨⟨n1, f1, h1, q1⟩, ⟨n2, f2, h2, q2⟩, ⟨n3, f3, hn3, h3, q3⟩, h4, h5, h6, h7, h8, ⟨g, h9, q9⟩, nd, hl, hf⟩ := r
  have m : ∀ j, j ∈ objsL o kp → ∀ x, σ j = some x → σ' j = some x := hs
  simp only [objsL, List.mem_cons, List.not_mem_nil, or_false] at m
  exact ⟨⟨n1, f1, m _ (by simp) _ h1, q1⟩, ⟨⟨n2, f2, m _ (by simp) _ h2, q2⟩⟩, ⟨⟨n3, f3, hn3, m _ (by simp) _ h3, q3⟩⟩, m _ (by simp) _ h4, m _ (by simp) _ h5, m _ (by simp) _ h6, m _ (by simp) _ h7, m _ (by simp) _ h8, ⟨g, m _ (by simp) _ h9, q9⟩, nd, hl, hf⟩
noncomputable def Sub2 (σ σ' : Sto) : Prop := ∀ j x, σ j = some x → σ' j = some x
structure FlatIs (A : Ads) (P : Prg) (kf kr kl kp : Nat) (σ : Sto) : Prop where
  nd : [kf, kr, kl, kp].Nodup
  flat : FlatAt A σ kf kr kl kp
  rows : σ kr = some (.list (P.rows.map encRow))
  places : σ kl = some (.dictI fun l => (P.places l).map fun n => .int n)
  pairs : ∃ g, σ kp = some (.dictI g) ∧ ∀ n : Nat, g n = (P.pairs n).map fun k => .int k
theorem FlatNew.is {P : Prg} {kf kr kl kp : Nat} (F : FlatNew A P kf kr kl kp σ σ') : FlatIs A P kf kr kl kp σ' := ⟨F.nd, F.flat, F.rows, F.places, F.pairs⟩
theorem FlatIs.mv {P : Prg} {kf kr kl kp : Nat} (F : FlatIs A P kf kr kl kp σ) (h : Sub2 σ σ') : FlatIs A P kf kr kl kp σ' :=
  ⟨F.nd, ⟨F.flat.at_.imp fun zz => Exists.imp fun zz z => ⟨h _ _ z.1, z.2⟩⟩, h _ _ F.rows, h _ _ F.places, F.pairs.imp fun zz z => ⟨h _ _ z.1, z.2⟩⟩
structure RunOf (o : Objs) (kp kf kr kl kq : Nat) (σ : Sto) : Prop where
  flat : o.kFlat = kf ∧ o.kRows = kr ∧ o.kPl = kl ∧ o.kPairs = kq
  new : ∀ j ∈ [o.kRun, o.kVals, o.kCtl, o.kNotes], σ j = none
theorem callf_run (LB : Lib c A) {aW : Addr} {P : Prg} {kf kr kl kp kv : Nat} (hd : 4 ≤ d) (F : FlatIs A P kf kr kl kp σ) (hkv : σ kv = none) (hlen : P.rows.length ≤ 1000)
    (h : ∀ o kp' σ', RunAt A aW o kp' P σ' ⟨0, fun zz => none, [], []⟩ → RunOf o kp' kf kr kl kp σ → σ kp' = none → Sub2 σ σ' → Q (.ref o.kRun) σ') :
    CallF c d env lk (upd σ kv (.dictS fun zz => none)) (.ref A.c_FlowRun) [.ref kf, .ref kv, .raw (.ref aW), .int 16, .int 9] Q := by
  refine callf_new (d := 3) LB.FlowRun (by omega) fun k hk => ?_
  refine t_run_init LB (upd_self ..) fun kc kq kn σ' R => ⟨rfl, ?_⟩
  obtain ⟨nd, flat, rows, places, ⟨g, pairs, hg⟩⟩ := F
  obtain ⟨⟨a1, a2, a3, a4, a5, a6, a7, a8, a9⟩, run, ctl, pile, notes, keep', dom'⟩ := R
  have e1 : ∀ {j x}, σ j = some x → σ' j = some x ∧ j ≠ kv ∧ j ≠ k ∧ j ≠ kc ∧ j ≠ kq ∧ j ≠ kn := fun {j x} hj => by
    have n1 := ne_none hj hkv
    have hj2 := (upd_ne (c := .dictS fun zz => none) n1).trans hj
    have n2 := ne_none hj2 hk
    have hj3 := (upd_ne (c := .inst A.c_FlowRun 0 fun zz => none) n2).trans hj2
    exact ⟨keep' j x hj3 n2, n1, n2, ne_none hj3 a1, ne_none hj3 a2, ne_none hj3 a3⟩
  have v0 : upd σ kv (.dictS fun zz => none) kv = some (.dictS fun zz => none) := upd_self ..
  have nvk := ne_none v0 hk
  have v1 := (upd_ne (c := .inst A.c_FlowRun 0 fun zz => none) nvk).trans v0
  have hv := keep' kv _ v1 nvk
  have z : ∀ j, upd (upd σ kv (.dictS fun zz => none)) k (.inst A.c_FlowRun 0 fun zz => none) j = none → σ j = none := fun j hj => upd_dom (upd_dom hj)
  obtain ⟨nF, fF, hF, qF⟩ := flat.at_
  obtain ⟨t1, x1, x2, x3, x4, x5⟩ := e1 hF
  obtain ⟨t2, y1, y2, y3, y4, y5⟩ := e1 rows
  obtain ⟨t3, z1, z2, z3, z4, z5⟩ := e1 places
  obtain ⟨t4, w1, w2, w3, w4, w5⟩ := e1 pairs
  simp only [List.nodup_cons, List.mem_cons, List.not_mem_nil, or_false, not_or] at nd
  obtain ⟨⟨nd1, nd2, nd3⟩, ⟨nd4, nd5⟩, nd6, _⟩ := nd
  refine h ⟨k, kf, kv, kc, kn, kr, kl, kp⟩ kq σ' ⟨run, ⟨⟨nF, fF, t1, qF⟩⟩, ctl, pile, hv, notes, t2, t3, ⟨g, t4, hg⟩, ?_, hlen, fun x hx => absurd rfl hx⟩ ⟨⟨rfl, rfl, rfl, rfl⟩, ?_⟩ (z _ a2) fun j x hj => (e1 hj).1
  · simp only [List.nodup_cons, List.mem_cons, List.not_mem_nil, or_false, not_or]
    have q1 := ne_none v1 a1
    have q2 := ne_none v1 a2
    have q3 := ne_none v1 a3
    refine ⟨⟨Ne.symm x2, Ne.symm nvk, a7, a9, Ne.symm y2, Ne.symm z2, Ne.symm w2, a8⟩, ⟨x1, x3, x5, nd1, nd2, nd3, x4⟩, ⟨q1, q3, Ne.symm y1, Ne.symm z1, Ne.symm w1, q2⟩, ⟨a5, Ne.symm y3, Ne.symm z3, Ne.symm w3, a4⟩, ⟨Ne.symm y5, Ne.symm z5, Ne.symm w5, Ne.symm a6⟩, ⟨nd4, nd5, y4⟩, ⟨nd6, z4⟩, w4, not_false, List.nodup_nil⟩
  · intro j hj
    simp only [List.mem_cons, List.not_mem_nil, or_false] at hj
    rcases hj with rfl | rfl | rfl | rfl
    · exact upd_dom hk
    · exact hkv
    · exact z _ a1
    · exact z _ a3
noncomputable def codeOf (P : Prg) (m : Ms) : Option Str → Str
  | some e => e
  | none => if P.rows.length ≤ m.pc then "" else "more"
noncomputable def m0 : Ms := ⟨0, fun zz => none, [], []⟩
set_option maxHeartbeats 1000000 in
theorem t_gone (LB : Lib c A) (WL : LawLib c W) (Z : ExcK c C fI) {P : Prg} {kf kr kl kp : Nat} (F : FlatIs A P kf kr kl kp σ) (hlen : P.rows.length ≤ 1000) (hP : ∀ p ∈ P.rows, WfRow p.2) {most : Nat} {m' : Ms} {er : Option Str}
    (hm : stopN w2 P most m0 = (m', er)) (he : ∀ e, er = some e → GoodErr P m' e) (hmost : most ≤ 1000) (hpl : ∀ k, (stopN w2 P k m0).1.pile.length < 50)
    (h : ∀ o kp' σ', RunAt A W.f_worth o kp' P σ' m' → RunOf o kp' kf kr kl kp σ → σ kp' = none → Sub2 σ σ' → Q (.tup [.ref o.kRun, .str (codeOf P m' er)]) σ') :
    CodeO c 10 (.ref W.f_gone) [.ref kf, .int most] σ Q := by
  refine code_fnO2 "flat" "most" WL.gone.fn (by intros; rfl) (by lcg_src) fun L cdv outs => ?_
  kat_tups
  with_reducible refine okbO_let ?_ (by k_upd) (by lcg_sub) (by lcg_sub)
  with_reducible refine okg_call (‹Lib _ _›).FlowRun.ns (‹Lib _ _›).FlowRun.keep (by k_updF) (by kbo_bools) (fun zz => by lcg_sub) ?_
  with_reducible refine okl_cons ?_ (fun zz => by lcg_sub)
  kas_types
  refine ok_dictS fun kv hkv => ?_
  with_reducible refine okl_cons ?_ (fun zz => by lcg_sub)
  refine okgv WL.worth.ns (.raw _) (by k_updF) (by kbo_bools) ?_
  kas_types
  refine callf_run LB (by decide) F hkv hlen fun o kq σ1 R1 ro hkq dom1 => ?_
  refine okbO_try Z ?_ (by k_updF) (by lcg_sub) (by lcg_sub) (by lcg_sub)
  obtain ⟨e1, e2, e3, e4, e5⟩ := R1.m_ LB
  have nw : ∀ j x, σ j = some x → ∀ i, σ i = none → j ≠ i := fun j x hj i hi => ne_none hj hi
  have sub : ∀ {σ2 : Sto}, Keep o kq σ1 σ2 → Sub2 σ σ2 := fun K j x hj => K.same j x (dom1 j x hj) (nw j x hj _ (ro.new _ (by simp))) (nw j x hj _ (ro.new _ (by simp))) (nw j x hj _ (ro.new _ (by simp))) (nw j x hj _ hkq)
  have kq2 : ∀ {kq' : Nat}, (kq' = kq ∨ σ1 kq' = none) → σ kq' = none := fun {kq'} h => h.elim (fun e => e ▸ hkq) fun e => by
    cases z : σ kq' with
    | none => rfl
    | some x => exact nomatch (e.symm.trans (dom1 _ x z) : none = some x)
  refine okbE_returnE (oke_tuple2 ?_ (fun zz => by lcg_sub) (fun zz => by lcg_sub))
  kas_types
  refine oke_ifexp (okte_compare ?_ (by lcg_sub))
  with_reducible refine oke_meth ?_ (by lcg_sub) (by lcg_sub) (by lcg_sub) (by lcg_sub)
  kas_types
  refine mk_meth e5 LB.FlowRun_go.keep ?_
  kas_types
  refine CodeE.call (d := 7) (t_goE LB Z (t_lawworth LB WL) hP R1 hm he hmost (by show 0 + most ≤ 1000; omega) hpl (fun hn σ2 kq' R2 K2 hk => ?_) fun e hn σ2 kq' R2 K2 hk => ?_) (by decide)
  · subst hn
    have hh := h o kq' σ2 R2 ⟨ro.flat, ro.new⟩ (kq2 hk) (sub K2)
    unfold codeOf at hh
    dsimp only at hh
    unfold goQ
    by_cases hpc : P.rows.length ≤ m'.pc
    · rw [if_pos hpc] at hh ⊢
      kas_types
      rw [decide_eq_false (by omega)]
      refine ⟨_, rfl, (fun e => nomatch e), fun zz => oke_of (ok_str ⟨_, rfl, hh⟩)⟩
    · rw [if_neg hpc] at hh ⊢
      kas_types
      rw [decide_eq_true (by decide)]
      refine ⟨_, rfl, fun zz => oke_of (ok_str ⟨_, rfl, hh⟩), (fun e => nomatch e)⟩
  · subst hn
    exact ⟨.ref o.kRun, by with_unfolding_all rfl, h o kq' σ2 R2 ⟨ro.flat, ro.new⟩ (kq2 hk) (sub K2)⟩
end
end
-- K6
section
section
variable {c : Ctx} {A : Ads} {W : LawAds} {d : Nat} {env : Env} {lk : Loc} {σ σ' : Sto} {pos : Pos} {QX : Fl → Loc → Sto → Prop} {Q : V → Sto → Prop}
theorem okb_while {test : Expr} {body rest : List Stmt} (I : Nat → Loc → Sto → Prop)
    (hs : ∀ (QB : Fl → Loc → Sto → Prop) n lk₁ σ₁, I n lk₁ σ₁ → (∀ fl lk₂ σ₂, WhileJ I (Then c d env rest QX) n fl lk₂ σ₂ → QB fl lk₂ σ₂) → OkT c d env test lk₁ σ₁ (fun b σ₂ => (b = true → OkB c d env body lk₁ σ₂ QB) ∧ (b = false → OkB c d env rest lk₁ σ₂ QX)))
    (n : Nat) (h : I n lk σ) : OkB c d env (.While test body [] pos :: rest) lk σ QX := okb_cons (okx_while I hs n h)
theorem kOf_cons {r : List Nat} {b : Nat} (h : b < 6) : ((kOf (b :: r) : Nat) : Int).fmod 10 - 1 = (b : Int) ∧ ((kOf (b :: r) : Nat) : Int).fdiv 10 = ((kOf r : Nat) : Int) ∧ 0 < ((kOf (b :: r) : Nat) : Int) := by
  show (((kOf r * 10 + (b + 1) : Nat)) : Int).fmod 10 - 1 = b ∧ (((kOf r * 10 + (b + 1) : Nat)) : Int).fdiv 10 = ((kOf r : Nat) : Int) ∧ 0 < (((kOf r * 10 + (b + 1) : Nat)) : Int)
  rw [Int.fmod_eq_emod_of_nonneg _ (by decide), Int.fdiv_eq_ediv_of_nonneg _ (by decide)]
  lcg_off
theorem plain_ents (l : List Ent) : plains 7 (l.map encE) = true := by
  induction l with
  | nil => rfl
  | cons e l ih =>
    rw [List.map_cons, plains_cons, ih]
    cases e <;> with_unfolding_all rfl
theorem plain_ent {f : Nat → Ent} : ∀ (l : List Nat), plains 7 (l.map fun x => encE (f x)) = true
  | [] => rfl
  | x :: l => by
    rw [List.map_cons, plains_cons, plain_ent l]
    cases f x <;> with_unfolding_all rfl
theorem range3 {f : Nat → V} {w : Nat} (h : w < 3) : ([f 0, f 1, f 2] : List V)[(w : Int).toNat]? = some (f w) := by
  have : w = 0 ∨ w = 1 ∨ w = 2 := by lcg_off
  rcases this with rfl | rfl | rfl <;> rfl
set_option maxHeartbeats 2000000 in
theorem t_piles (LB : Lib c A) (WL : LawLib c W) {parts : List Pt} (hl : parts.length = 6) {kf kr kl kq : Nat → Nat} (F : ∀ w < 3, FlatIs A (prg parts w) (kf w) (kr w) (kl w) (kq w) σ) (hrl : ∀ w < 3, (prg parts w).rows.length ≤ 1000)
    {kR : Nat} {o0 o1 o2 : Objs} {p0 p1 p2 : Nat} {m0' m1' m2' : Ms} {aW : Addr} (hR : σ kR = some (.list [.ref o0.kRun, .ref o1.kRun, .ref o2.kRun]))
    (R0 : RunAt A aW o0 p0 (prg parts 0) σ m0') (R1 : RunAt A aW o1 p1 (prg parts 1) σ m1') (R2 : RunAt A aW o2 p2 (prg parts 2) σ m2')
    {stk : List Nat} (hs : ∀ x ∈ stk, x < 6) (hsl : stk.length ≤ 100) (hK : (m1'.vals "K").getD 0 = ((kOf stk : Nat) : Int)) (h0 : m0'.pile = pile0 parts stk) (h2 : m2'.pile = pile2 parts stk)
    (h : ∀ σ', Q (.bool true) σ') : CodeOk c 3 (.ref W.f_piles) [.lst (parts.map fun p => encPt p), .lst [.ref (kf 0), .ref (kf 1), .ref (kf 2)], .ref kR] σ Q := by
  refine code_fn3 "parts" "flats" "runs" WL.piles.fn (by intros; rfl) (by lcg_src) fun L cdv => ?_
  kat_tups
  with_reducible refine okb_let ?_ (by k_upd) (by lcg_sub) (by lcg_sub)
  refine ok_cut (.lst [.int 110, .int 120, .int 210, .int 220, .int 310, .int 320]) (fun Q' hQ => ?_) ?_
  · refine ok_list ?_
    kas_types
    exact hQ
  refine okb_swap3 "number" "first" "last" ?_ (by lcg_sub) (by lcg_sub) (by k_upd) (by k_upd) (by k_upd)
  refine ok_tuple ?_
  with_reducible refine okl_cons ?_ (fun zz => by lcg_sub)
  obtain ⟨a1, a2, a3, a4, a5, a6, a7, a8⟩ := R1.f_ LB
  with_reducible refine ok_meth ?_ (by lcg_sub) (by lcg_sub) (by lcg_sub) (by lcg_sub)
  kas_types
  refine item_cell plainI hR (by decide) (by decide) (y := .ref o1.kRun) rfl ?_
  kas_types
  refine mk_meth (meth_get R1.vals) rfl ?_
  kas_types
  refine callf_get2 LB.low R1.vals ?_
  rw [map_getD, hK]
  with_reducible refine okl_cons ?_ (fun zz => by lcg_sub)
  refine ok_listC (okl_nil ⟨len0, fun k1 hk1 => ?_⟩)
  with_reducible refine okl_cons ?_ (fun zz => by lcg_sub)
  refine ok_listC (okl_nil ⟨len0, fun k2 hk2 => ?_⟩)
  kas_types
  have nk : k1 ≠ k2 := ne_none (upd_self ..) hk2
  have hk2' : σ k2 = none := (upd_ne (Ne.symm nk)).symm.trans hk2
  have n1 : ∀ {j x}, σ j = some x → j ≠ k1 := fun hj => ne_none hj hk1
  have n2 : ∀ {j x}, σ j = some x → j ≠ k2 := fun hj => ne_none hj hk2'
  have sub0 : Sub2 σ (upd (upd σ k1 (.list [])) k2 (.list [])) := fun j x hj => (upd_ne (n2 hj)).trans ((upd_ne (n1 hj)).trans hj)
  have c1 : upd (upd σ k1 (.list [])) k2 (.list []) k1 = some (.list []) := (upd_ne nk).trans (upd_self ..)
  have c2 : upd (upd σ k1 (.list [])) k2 (.list []) k2 = some (.list []) := upd_self ..
  generalize upd (upd σ k1 (.list [])) k2 (.list []) = σa at *
  refine okb_weak (lk' := [("parts", .lst (parts.map fun p => encPt p)), ("flats", .lst [.ref (kf 0), .ref (kf 1), .ref (kf 2)]), ("runs", .ref kR), ("_law_lines", .lst [.int 110, .int 120, .int 210, .int 220, .int 310, .int 320]), ("number", .int ((kOf stk : Nat) : Int)), ("first", .ref k1), ("last", .ref k2)]) (show Sub _ _ by keq_rows) ?_
  refine okb_while (fun n lk₁ σ₁ => ∃ dn rest, stk = dn ++ rest ∧ n = rest.length ∧ lk₁ = ([("parts", .lst (parts.map fun p => encPt p)), ("flats", .lst [.ref (kf 0), .ref (kf 1), .ref (kf 2)]), ("runs", .ref kR), ("_law_lines", .lst [.int 110, .int 120, .int 210, .int 220, .int 310, .int 320]), ("number", .int ((kOf rest : Nat) : Int)), ("first", .ref k1), ("last", .ref k2)] : Loc) ∧
    Sub2 σ σ₁ ∧ σ₁ k1 = some (.list (dn.map fun x => encE (e0 parts x))) ∧ σ₁ k2 = some (.list ((keep2 parts dn).map fun x => encE (e2 parts x)))) (fun QB n lk₁ σ₁ hI hB => ?_) stk.length ⟨[], stk, rfl, rfl, rfl, sub0, c1, c2⟩
  obtain ⟨dn, rest, hst, rfl, rfl, sub, d1, d2⟩ := hI
  have hdl : dn.length ≤ 100 := by rw [hst, List.length_append] at hsl; lcg_off
  have hkl2 : (keep2 parts dn).length ≤ 100 := Nat.le_trans (List.length_filter_le _ _) hdl
  cases rest with
  | nil =>
    kas_types
    rw [show kOf [] = 0 from rfl, decide_eq_false (by decide)]
    kas_types
    rw [List.append_nil] at hst
    subst hst
    have hR' := sub _ _ hR
    obtain ⟨b1, b2, b3, b4, b5, b6, b7, b8⟩ := (R0.mv (σ' := σ₁) fun j zz x hj => sub j x hj).f_ LB
    obtain ⟨g1, g2, g3, g4, g5, g6, g7, g8⟩ := (R2.mv (σ' := σ₁) fun j zz x hj => sub j x hj).f_ LB
    have q0 := sub _ _ R0.pile
    have q2 := sub _ _ R2.pile
    refine ok_and ?_
    refine ok_compare ?_ (by lcg_sub)
    refine ok_cut (.ref p0) (fun Q' hQ => ?_) ?_
    · kas_types
      refine item_cell plainI hR' (by decide) (by decide) (y := .ref o0.kRun) rfl ?_
      kas_types
      exact hQ
    refine ok_slice ?_ plainI
    kas_types
    show Ok c 2 _ _ _ _ _
    kas_types
    refine ⟨_, _, .inr ⟨_, rfl, d1⟩, le_line (by simp; lcg_off), .rev _, ?_⟩
    refine run_eqc_t (a' := .lst (m0'.pile.map encE)) ⟨(show plains 7 _ = true from plain_ents _), .inr ⟨_, _, rfl, q0, rfl⟩⟩ ⟨by exact (show plains 7 ((stk.map fun x => encE (e0 parts x)).reverse) = true from by rw [← List.map_reverse]; exact plain_ent _), .inl rfl⟩ (by rw [h0, pile0, List.map_reverse, List.map_map]; rfl) ?_
    refine t_true ?_
    refine ok_compare ?_ (by lcg_sub)
    refine ok_cut (.ref p2) (fun Q' hQ => ?_) ?_
    · kas_types
      refine item_cell plainI hR' (by decide) (by decide) (y := .ref o2.kRun) rfl ?_
      kas_types
      exact hQ
    refine ok_slice ?_ plainI
    kas_types
    show Ok c 2 _ _ _ _ _
    kas_types
    refine ⟨_, _, .inr ⟨_, rfl, d2⟩, le_line (by simp; lcg_off), .rev _, ?_⟩
    refine run_eqc_t (a' := .lst (m2'.pile.map encE)) ⟨(show plains 7 _ = true from plain_ents _), .inr ⟨_, _, rfl, q2, rfl⟩⟩ ⟨by exact (show plains 7 (((keep2 parts stk).map fun x => encE (e2 parts x)).reverse) = true from by rw [← List.map_reverse]; exact plain_ent _), .inl rfl⟩ (by rw [h2, pile2, List.map_reverse, List.map_map]; rfl) ?_
    kas_types
    exact h _
  | cons x r =>
    have hx : x < 6 := hs x (by rw [hst]; simp)
    obtain ⟨k1', k2', k3'⟩ := kOf_cons (r := r) hx
    kas_types
    rw [decide_eq_true (by lcg_off)]
    kas_types
    refine okb_assign ?_ (by lcg_sub) (by lcg_sub) (by lcg_sub)
    kas_types
    refine run_mod (by decide) ?_
    kas_types
    refine run_fdiv (by decide) (by decide) ?_
    rw [k1', k2']
    kas_types
    refine oka_tuple (okas_cons (oka_name (okas_cons (oka_name (okas_nil ?_) (by k_upd)) (by lcg_sub)) (by k_upd)) (by lcg_sub)) (by lcg_sub) (by lcg_sub)
    refine okb_comp (cscope_fn [".0", "way"] rfl (by lcg_src) ⟨by keq_hits, by keq_hits, trivial⟩) (fun zz => by lcg_sub) (by lcg_sub) ?_ (by k_upd)
    kas_types
    refine ⟨_, rfl, by decide, by decide, trivial, fun C cl => ?_⟩
    refine comp_inv1 (fun xs acc σ₂ => ∃ k m : Nat, xs = rangeV k 1 m ∧ k + m = 3 ∧ acc = (List.range k).map (fun w => V.int (behindP parts w x)) ∧ σ₂ = σ₁) (by k_upd) (by keq_hits) (fun QE y ys acc σ₂ hJ hE => ?_) (fun acc σ₂ hJ => ?_) ⟨0, 3, rfl, rfl, rfl, rfl⟩
    · obtain ⟨k, m, hxs, hkm, rfl, rfl⟩ := hJ
      cases m with
      | zero => cases hxs
      | succ m =>
        rw [rangeV] at hxs
        injection hxs with hx1 hx2
        subst hx1
        have hk3 : k < 3 := by lcg_off
        have Fk := (F k hk3).mv sub
        have i1 := Fk.flat.places LB
        have i2 := Fk.flat.rows LB
        have fin : QE (.int (behindP parts k x)) σ₂ := hE _ _ trivial ⟨k + 1, m, hx2, by lcg_off, by rw [List.range_succ, List.map_append]; rfl, rfl⟩
        refine ⟨le_line (by simp; lcg_off), ?_⟩
        kas_types
        by_cases h5 : x < 5
        · with_reducible refine t_dt (by lcg_off) ?_
          kas_types
          refine item_lst plainI (by lcg_off) (by lcg_off) (range3 (f := fun w => .ref (kf w)) hk3) ?_
          kas_types
          refine item_lst plainI (by lcg_off) (by lcg_off) (y := .int (ln (x + 1))) (by rw [show (((x : Int) + 1).toNat) = x + 1 by lcg_off]; exact ln_get (by lcg_off)) ?_
          refine item_dictI plainI Fk.places (y := .int (behindP parts k x)) (by rw [place_behind hl h5]; rfl) ?_
          exact fin
        · with_reducible refine t_df (by lcg_off) ?_
          kas_types
          refine item_lst plainI (by lcg_off) (by lcg_off) (range3 (f := fun w => .ref (kf w)) hk3) ?_
          kas_types
          refine callf_len (.inr (.inr ⟨_, rfl, Fk.rows⟩)) (le_line (by have := hrl k hk3; simp; lcg_off)) ?_
          rw [List.length_map]
          unfold behindP at fin
          rw [if_neg h5] at fin
          exact fin
    · obtain ⟨k, m, hxs, hkm, rfl, rfl⟩ := hJ
      cases m with
      | succ m => cases hxs
      | zero =>
        obtain rfl : k = 3 := by lcg_off
        obtain ⟨p, hp⟩ := parts_at hl hx
        have hkd := kd_at hp
        have hb0 := base_pos (way := 0) hp
        rw [show ((List.range 3).map (fun w => V.int (behindP parts w x))) = [.int (behindP parts 0 x), .int (behindP parts 1 x), .int (behindP parts 2 x)] from rfl, behind_eq hl (way := 0) (by decide) hx, behind_eq hl (way := 2) (by decide) hx]
        kas_types
        refine item_lst plainI (by lcg_off) (by lcg_off) (pt_get hp) ?_
        kas_types
        with_reducible refine ok_meth ?_ (by lcg_sub) (by lcg_sub) (by lcg_sub) (by lcg_sub)
        kas_types
        refine mk_meth (meth_append d1) rfl ?_
        with_reducible refine okl_cons ?_ (fun zz => by lcg_sub)
        refine ok_cut (encE (e0 parts x)) (fun Q' hQ => ?_) ?_
        · unfold e0 at hQ
          rw [hkd] at hQ
          kas_types
          by_cases k4 : p.kind = 4
          · with_reducible refine t_dt (by lcg_off) ?_
            rw [if_pos k4] at hQ
            kas_types
            rw [show ((base parts 0 (x + 1) : Nat) : Int) - 1 = ((base parts 0 (x + 1) - 1 : Nat) : Int) by lcg_off]
            exact hQ
          · with_reducible refine t_df (by lcg_off) ?_
            rw [if_neg k4] at hQ
            kas_types
            exact hQ
        kas_types
        refine callf_append d1 (le_line (by simp; lcg_off)) ?_
        have sub' : ∀ L, Sub2 σ (upd σ₂ k1 L) := fun L j z hj => (upd_ne (n1 hj)).trans (sub j z hj)
        have dk2 := (upd_ne (c := .list ((dn.map fun x => encE (e0 parts x)) ++ [encE (e0 parts x)])) (Ne.symm nk)).trans d2
        have e1' : ((dn.map fun x => encE (e0 parts x)) ++ [encE (e0 parts x)]) = (dn ++ [x]).map fun x => encE (e0 parts x) := by rw [List.map_append]; rfl
        kas_types
        by_cases k4 : p.kind = 4
        · rw [decide_eq_true (by lcg_off)]
          kas_types
          refine hB .next _ _ ⟨r.length, Nat.lt_succ_self _, ([("parts", .lst (parts.map fun p => encPt p)), ("flats", .lst [.ref (kf 0), .ref (kf 1), .ref (kf 2)]), ("runs", .ref kR), ("_law_lines", .lst [.int 110, .int 120, .int 210, .int 220, .int 310, .int 320]), ("number", .int ((kOf r : Nat) : Int)), ("first", .ref k1), ("last", .ref k2)] : Loc), by keq_rows, dn ++ [x], r, by rw [hst]; simp, rfl, rfl, sub' _, by rw [← e1']; exact upd_self .., ?_⟩
          rw [dk2]
          unfold keep2
          rw [List.filter_append]
          simp [hkd, k4]
        · rw [decide_eq_false (by lcg_off)]
          kas_types
          with_reducible refine ok_meth ?_ (by lcg_sub) (by lcg_sub) (by lcg_sub) (by lcg_sub)
          kas_types
          refine mk_meth (meth_append dk2) rfl ?_
          kas_types
          refine callf_append dk2 (le_line (by simp; lcg_off)) ?_
          kas_types
          refine hB .next _ _ ⟨r.length, Nat.lt_succ_self _, ([("parts", .lst (parts.map fun p => encPt p)), ("flats", .lst [.ref (kf 0), .ref (kf 1), .ref (kf 2)]), ("runs", .ref kR), ("_law_lines", .lst [.int 110, .int 120, .int 210, .int 220, .int 310, .int 320]), ("number", .int ((kOf r : Nat) : Int)), ("first", .ref k1), ("last", .ref k2)] : Loc), by keq_rows, dn ++ [x], r, by rw [hst]; simp, rfl, rfl, fun j z hj => (upd_ne (n2 hj)).trans (sub' _ j z hj), by rw [← e1']; exact (upd_ne nk).trans (upd_self ..), ?_⟩
          rw [upd_self]
          unfold keep2
          rw [List.filter_append]
          simp [hkd, k4, e2, encE]
end
end
-- K7
section
structure LawB (c : Ctx) : Prop where
  b_all : nsIn c.K mainGlobals "all" = some none
  b_zip : nsIn c.K mainGlobals "zip" = some none
structure Ran (A : Ads) (W : LawAds) (P : Nat → Prg) (m : Nat → Ms) (o : Nat → Objs) (q : Nat → Nat) (kR kC : Nat) (cs : List Str) (σ : Sto) : Prop where
  run : ∀ w < 3, RunAt A W.f_worth (o w) (q w) (P w) σ (m w)
  runs : σ kR = some (.list [.ref (o 0).kRun, .ref (o 1).kRun, .ref (o 2).kRun])
  codes : σ kC = some (.list (cs.map .str))
section
variable {c : Ctx} {A : Ads} {W : LawAds} {d : Nat} {env : Env} {lk : Loc} {σ σ' : Sto} {pos : Pos} {QX : Fl → Loc → Sto → Prop} {Q : V → Sto → Prop}
theorem plains_notes : ∀ l : List (Str × Int), (∀ p ∈ l, PyData.strOk p.1 = true) → plains 7 (l.map encN) = true
  | [], _ => rfl
  | x :: l, h => by
    rw [List.map_cons, plains_cons, plains_notes l fun p hp => h p (.tail _ hp)]
    show (PyData.strOk x.1 && (true && true)) && true = true
    rw [h x (.head _)]
    rfl
theorem plains_notes6 : ∀ l : List (Str × Int), (∀ p ∈ l, PyData.strOk p.1 = true) → plains 6 (l.map encN) = true
  | [], _ => rfl
  | x :: l, h => by
    rw [List.map_cons, plains_cons, plains_notes6 l fun p hp => h p (.tail _ hp)]
    show (PyData.strOk x.1 && (true && true)) && true = true
    rw [h x (.head _)]
    rfl
theorem gets_len {α β : Type} {dn rs : List α} {l : List α} {f : α → β} (h : dn ++ rs = l) (hl : l.length ≤ 10000 := by decide) : (dn.map f).length ≤ 10000 := by
  rw [List.length_map]
  exact Nat.le_trans (by rw [← h, List.length_append]; exact Nat.le_add_right _ _) hl
theorem lt3 {dn rs : List Nat} {w : Nat} (h : dn ++ w :: rs = [0, 1, 2]) : w < 3 := by
  have : w ∈ ([0, 1, 2] : List Nat) := by rw [← h]; simp
  simp at this
  lcg_off
theorem sign_ABX : signV (Str.ofString "ABX").cps.toList = [.str "A", .str "B", .str "X"] := by with_unfolding_all rfl
noncomputable def gv (m : Ms) : V := .lst ((["A", "B", "X"] : List Str).map fun x : Str => ((m.vals x).map V.int).getD .none)
set_option maxHeartbeats 1000000 in
theorem law_more (LB : Lib c A) (LZ : LawB c) {L : Addr} {cdv : Value} {P : Nat → Prg} {m : Nat → Ms} {o : Nat → Objs} {q : Nat → Nat} {kR kC : Nat} {c1 c2 : Str} (T : Ran A W P m o q kR kC ["more", c1, c2] σ) (stok : ∀ w < 3, ∀ x ∈ (m w).notes, PyData.strOk x.1 = true)
    (few : ∀ w < 3, (m w).notes.length ≤ 100) (pos' : ∀ w < 3, 0 < (m w).notes.length) (same : ∀ n, (∀ w < 3, n ≤ (m w).notes.length) → ∀ w < 3, (m w).notes.take n = (m 0).notes.take n) {xp xf : V} (h : Q (.bool true) σ) :
    OkB c 11 (envOfC "law" (stScope (nth P1 86)) L W.f_law cdv) ((stBody (nth P1 86)).drop 4) [("parts", xp), ("flats", xf), ("runs", .ref kR), ("codes", .ref kC)] σ (RetOk Q) := by
  conv in (List.drop _ _) => whnf
  have hc := T.codes
  have hr := T.runs
  have hR := T.run
  clear T
  kas_types
  refine item_cell plainI hc (by decide) (by decide) (y := .str "more") rfl ?_
  kas_types
  refine ok_listcomp (cscope_fn [".0", "run"] rfl (by lcg_src) ⟨by keq_hits, by keq_hits, trivial⟩) (fun zz => by lcg_sub) ?_
  refine okit_cell ?_
  kas_types
  refine ⟨_, _, rfl, hr, hr, fun C cl => ?_⟩
  refine comp_inv1 (fun xs acc σ₁ => ∃ dn rs : List Nat, dn ++ rs = [0, 1, 2] ∧ xs = rs.map (fun w => V.ref (o w).kRun) ∧ acc = dn.map (fun w => V.int (m w).notes.length) ∧ σ = σ₁) (by k_upd) (by keq_hits) (fun QE x r acc σ₁ hJ hE => ?_) (fun acc σ₁ hJ => ?_) ⟨[], [0, 1, 2], rfl, rfl, rfl, rfl⟩
  · obtain ⟨dn, rs, he, hx, rfl, rfl⟩ := hJ
    cases rs with
    | nil => cases hx
    | cons w rs =>
      injection hx with hx1 hx2
      subst hx1
      have hw := lt3 he
      refine ⟨le_line (gets_len he), ?_⟩
      obtain ⟨i1, i2, i3, i4, i5, i6, i7, i8⟩ := (hR w hw).f_ LB
      have pn := (hR w hw).notes
      kas_types
      refine callf_len (.inr (.inr ⟨_, rfl, pn⟩)) (le_line (by have := few w hw; simp; lcg_off)) ?_
      rw [List.length_map]
      exact hE _ _ hr ⟨dn ++ [w], rs, (List.append_assoc dn [w] rs).trans he, hx2, (by rw [List.map_append]; rfl), rfl⟩
  · obtain ⟨dn, rs, he, hx, rfl, rfl⟩ := hJ
    cases rs with
    | cons y rs => cases hx
    | nil =>
      rw [List.append_nil] at he
      subst he
      kas_types
      refine callf_minL (ns := [((m 0).notes.length : Int), ((m 1).notes.length : Int), ((m 2).notes.length : Int)]) (by simp) fun n hn hle => ?_
      obtain ⟨many, rfl, hp⟩ : ∃ k : Nat, n = k ∧ 0 < k := by
        simp only [List.mem_cons, List.not_mem_nil, or_false] at hn
        rcases hn with rfl | rfl | rfl
        · exact ⟨_, rfl, pos' 0 (by decide)⟩
        · exact ⟨_, rfl, pos' 1 (by decide)⟩
        · exact ⟨_, rfl, pos' 2 (by decide)⟩
      have hm : ∀ w < 3, many ≤ (m w).notes.length := fun w hw => by
        have h0 := hle _ (.head _)
        have h1 := hle _ (.tail _ (.head _))
        have h2 := hle _ (.tail _ (.tail _ (.head _)))
        have : w = 0 ∨ w = 1 ∨ w = 2 := by lcg_off
        rcases this with rfl | rfl | rfl <;> lcg_off
      have hs := same many hm
      kas_types
      refine ok_and ?_
      refine ok_compare ?_ (by lcg_sub)
      kas_types
      rw [decide_eq_true (by lcg_off)]
      refine t_true ?_
      refine okb_call LZ.b_all bb_all rfl (by lcg_src) (by k_updF) (by kbo_bools) (fun zz => by lcg_sub) ?_
      with_reducible refine okl_cons ?_ (fun zz => by lcg_sub)
      refine ok_listcomp (cscope_fn [".0", "run"] rfl (by lcg_src) ⟨by keq_hits, by keq_hits, trivial⟩) (fun zz => by lcg_sub) ?_
      refine okit_cell ?_
      kas_types
      refine ⟨_, _, rfl, hr, hr, fun C cl => ?_⟩
      refine comp_inv1 (fun xs acc σ₁ => ∃ dn rs : List Nat, dn ++ rs = [0, 1, 2] ∧ xs = rs.map (fun w => V.ref (o w).kRun) ∧ acc = dn.map (fun w => V.bool true) ∧ True ∧ σ = σ₁) (by k_upd) (by keq_hits) (fun QE x r acc σ₁ hJ hE => ?_) (fun acc σ₁ hJ => ?_) ⟨[], [0, 1, 2], rfl, rfl, rfl, trivial, rfl⟩
      · obtain ⟨dn, rs, he, hx, rfl, -, rfl⟩ := hJ
        cases rs with
        | nil => cases hx
        | cons w rs =>
          injection hx with hx1 hx2
          subst hx1
          have hw := lt3 he
          refine ⟨le_line (gets_len he), ?_⟩
          obtain ⟨i1, i2, i3, i4, i5, i6, i7, i8⟩ := (hR w hw).f_ LB
          have pn := (hR w hw).notes
          refine ok_compare ?_ (by lcg_sub)
          refine ok_slice ?_ plainI
          kas_types
          show Ok c 11 _ _ _ _ _
          kas_types
          refine ⟨_, _, .inr ⟨_, rfl, pn⟩, le_line (by have := few w hw; simp; lcg_off), .upto _ _ (by lcg_off), ?_⟩
          clear i1 i2 i3 i4 i5 i6 i7 i8
          obtain ⟨i1, i2, i3, i4, i5, i6, i7, i8⟩ := (hR 0 (by decide)).f_ LB
          have p0 := (hR 0 (by decide)).notes
          refine ok_slice ?_ plainI
          kas_types
          refine item_cell plainI hr (by decide) (by decide) (y := .ref (o 0).kRun) rfl ?_
          kas_types
          show Ok c 11 _ _ _ _ _
          kas_types
          refine ⟨_, _, .inr ⟨_, rfl, p0⟩, le_line (by have := few 0 (by decide); simp; lcg_off), .upto _ _ (by lcg_off), ?_⟩
          rw [Int.toNat_natCast, ← List.map_take, ← List.map_take]
          refine run_eqv_t ?_ ?_ ?_ ?_
          · rw [plain_lst]; exact plains_notes _ fun p hp => stok w hw p (List.mem_of_mem_take hp)
          · rw [plain_lst]; exact plains_notes _ fun p hp => stok 0 (by decide) p (List.mem_of_mem_take hp)
          · rw [hs w hw]
          exact hE _ _ hr ⟨dn ++ [w], rs, (List.append_assoc dn [w] rs).trans he, hx2, (by rw [List.map_append]; rfl), trivial, rfl⟩
      · obtain ⟨dn, rs, he, hx, rfl, -, rfl⟩ := hJ
        cases rs with
        | cons y rs => cases hx
        | nil =>
          rw [List.append_nil] at he
          subst he
          refine okl_nil ?_
          refine callf_all (bs := [true, true, true]) ?_
          kas_types
          exact h
end
end
-- K8
section
section
variable {c : Ctx} {A : Ads} {W : LawAds} {d : Nat} {env : Env} {lk : Loc} {σ σ' : Sto} {pos : Pos} {QX : Fl → Loc → Sto → Prop} {Q : V → Sto → Prop}
theorem gv_eq {m u : Ms} (h : Agree m.vals u.vals) : gv m = gv u := by
  unfold gv
  rw [List.map_cons, List.map_cons, List.map_cons, List.map_nil, h.1, h.2.1, h.2.2]
  rfl
theorem gv_plain {m : Ms} : (gv m).plain 7 = true := by
  have pp : ∀ o : Option Int, V.plain 6 ((o.map V.int).getD .none) = true := fun o => by cases o <;> rfl
  show plains 6 [_, _, _] = true
  rw [plains_cons, plains_cons, plains_cons, plains_nil, pp, pp, pp]
  rfl
set_option maxHeartbeats 1000000 in
theorem law_done (LB : Lib c A) (WL : LawLib c W) {L : Addr} {cdv : Value} {parts : List Pt} (hl : parts.length = 6) {kf kr kl kq : Nat → Nat} (F : ∀ w < 3, FlatIs A (prg parts w) (kf w) (kr w) (kl w) (kq w) σ) (hrl : ∀ w < 3, (prg parts w).rows.length ≤ 1000)
    {m : Nat → Ms} {o : Nat → Objs} {q : Nat → Nat} {kR kC : Nat} {c0 c1 c2 : Str} (T : Ran A W (prg parts) m o q kR kC [c0, c1, c2] σ) (hcs : (c0 = "" ∧ c1 = "" ∧ c2 = "") ∨ (c0 = "RG" ∧ c1 = "UL" ∧ c2 = "RG"))
    (stok : ∀ w < 3, ∀ x ∈ (m w).notes, PyData.strOk x.1 = true) (same : ∀ w < 3, (m w).notes = (m 0).notes ∧ Agree (m w).vals (m 0).vals)
    {stk : List Nat} (hs : ∀ x ∈ stk, x < 6) (hsl : stk.length ≤ 100) (hK : ((m 1).vals "K").getD 0 = ((kOf stk : Nat) : Int)) (h0 : (m 0).pile = pile0 parts stk) (h2 : (m 2).pile = pile2 parts stk) (h : ∀ σ', Q (.bool true) σ') :
    OkB c 11 (envOfC "law" (stScope (nth P1 86)) L W.f_law cdv) ((stBody (nth P1 86)).drop 4) [("parts", .lst (parts.map fun p => encPt p)), ("flats", .lst [.ref (kf 0), .ref (kf 1), .ref (kf 2)]), ("runs", .ref kR), ("codes", .ref kC)] σ (RetOk Q) := by
  conv in (List.drop _ _) => whnf
  have hc := T.codes
  have hr := T.runs
  have hR := T.run
  clear T
  have hne : ¬ c0 = "more" := by rcases hcs with ⟨rfl, -, -⟩ | ⟨rfl, -, -⟩ <;> decide +kernel
  have hmem : (V.lst ([c0, c1, c2].map .str)) ∈ ([.lst [.str "", .str "", .str ""], .lst [.str "RG", .str "UL", .str "RG"]] : List V) := by
    rcases hcs with ⟨rfl, rfl, rfl⟩ | ⟨rfl, rfl, rfl⟩
    · exact .head _
    · exact .tail _ (.head _)
  have hpl : (V.lst ([c0, c1, c2].map .str)).plain 8 = true := by
    rcases hcs with ⟨rfl, rfl, rfl⟩ | ⟨rfl, rfl, rfl⟩ <;> decide +kernel
  kas_types
  refine item_cell plainI hc (by decide) (by decide) (y := .str c0) rfl ?_
  kas_types
  rw [beq_f hne]
  kas_types
  refine ok_list ?_
  kas_types
  refine ok_list ?_
  kas_types
  refine run_notin_f ⟨hpl, .inr ⟨_, _, rfl, hc, rfl⟩⟩ (by lcg_src) hmem ?_
  kas_types
  refine ok_listcomp (cscope_fn [".0", "run"] rfl (by lcg_src) ⟨by keq_hits, by keq_hits, trivial⟩) (fun zz => by lcg_sub) ?_
  refine okit_cell ?_
  kas_types
  refine ⟨_, _, rfl, hr, hr, fun C cl => ?_⟩
  refine comp_inv1 (fun xs acc σ₁ => ∃ dn rs : List Nat, dn ++ rs = [0, 1, 2] ∧ xs = rs.map (fun w => V.ref (o w).kRun) ∧ acc = dn.map (fun w => V.ref (o w).kNotes) ∧ σ = σ₁) (by k_upd) (by keq_hits) (fun QE x r acc σ₁ hJ hE => ?_) (fun acc σ₁ hJ => ?_) ⟨[], [0, 1, 2], rfl, rfl, rfl, rfl⟩
  · obtain ⟨dn, rs, he, hx, rfl, rfl⟩ := hJ
    cases rs with
    | nil => cases hx
    | cons w rs =>
      injection hx with hx1 hx2
      subst hx1
      have hw := lt3 he
      refine ⟨le_line (gets_len he), ?_⟩
      obtain ⟨i1, i2, i3, i4, i5, i6, i7, i8⟩ := (hR w hw).f_ LB
      kas_types
      exact hE _ _ hr ⟨dn ++ [w], rs, (List.append_assoc dn [w] rs).trans he, hx2, (by rw [List.map_append]; rfl), rfl⟩
  · obtain ⟨dn, rs, he, hx, rfl, rfl⟩ := hJ
    cases rs with
    | cons y rs => cases hx
    | nil =>
      rw [List.append_nil] at he
      subst he
      refine ok_cut (.lst [.ref (o 0).kNotes, .ref (o 0).kNotes, .ref (o 0).kNotes]) (fun Q' hQ => ?_) ?_
      · obtain ⟨i1, i2, i3, i4, i5, i6, i7, i8⟩ := (hR 0 (by decide)).f_ LB
        refine ok_binop ?_
        refine ok_list ?_
        kas_types
        refine item_cell plainI hr (by decide) (by decide) (y := .ref (o 0).kRun) rfl ?_
        kas_types
        refine run_mulL (n := 3) (by show 1 * 3 ≤ 2 ^ 20; decide) (by decide) ?_
        exact hQ
      have n0 := (hR 0 (by decide)).notes
      have n1 := (hR 1 (by decide)).notes
      have n2 := (hR 2 (by decide)).notes
      have pl : ∀ w < 3, (V.lst ((m w).notes.map encN)).plain 7 = true := fun w hw => by rw [plain_lst]; exact plains_notes6 _ (stok w hw)
      have seen : ∀ {w}, w < 3 → (V.lst ((m w).notes.map encN)).plain 7 = true ∧ (V.ref (o w).kNotes = (V.lst ((m w).notes.map encN)) ∨ ∃ k ys, V.ref (o w).kNotes = .ref k ∧ σ k = some (.list ys) ∧ (V.lst ((m w).notes.map encN)) = .lst ys) := fun {w} hw => ⟨pl w hw, .inr ⟨_, _, rfl, (hR w hw).notes, rfl⟩⟩
      refine run_neL_f (.cons (seen (w := 0) (by decide)) (.cons (seen (w := 1) (by decide)) (.cons (seen (w := 2) (by decide)) .nil))) (.cons (seen (w := 0) (by decide)) (.cons (seen (w := 0) (by decide)) (.cons (seen (w := 0) (by decide)) .nil))) (by rw [(same 1 (by decide)).1, (same 2 (by decide)).1]) ?_
      kas_types
      refine okb_comp (cscope_fn [".0", "run"] rfl (by lcg_src) ⟨by keq_hits, by keq_hits, trivial⟩) (fun zz => by lcg_sub) (by lcg_sub) ?_ (by k_upd)
      refine okit_cell ?_
      kas_types
      refine ⟨_, _, rfl, hr, hr, fun C cl => ?_⟩
      refine comp_inv1 (fun xs acc σ₁ => ∃ dn rs : List Nat, dn ++ rs = [0, 1, 2] ∧ xs = rs.map (fun w => V.ref (o w).kRun) ∧ acc = dn.map (fun w => gv (m w)) ∧ σ = σ₁) (by k_upd) (by keq_hits) (fun QE x r acc σ₁ hJ hE => ?_) (fun acc σ₁ hJ => ?_) ⟨[], [0, 1, 2], rfl, rfl, rfl, rfl⟩
      · obtain ⟨dn, rs, he, hx, rfl, rfl⟩ := hJ
        cases rs with
        | nil => cases hx
        | cons w rs =>
          injection hx with hx1 hx2
          subst hx1
          have hw := lt3 he
          refine ⟨le_line (gets_len he), ?_⟩
          obtain ⟨i1, i2, i3, i4, i5, i6, i7, i8⟩ := (hR w hw).f_ LB
          have pv := (hR w hw).vals
          refine ok_listcomp (cscope_comp [".0", "name"] rfl (by lcg_src) ⟨by keq_hits, by keq_hits, trivial⟩) (fun zz => by lcg_sub) ?_
          refine okit_str ?_
          kas_types
          refine ⟨_, rfl, by decide +kernel, trivial, fun C cl => ?_⟩
          rw [sign_ABX]
          refine comp_inv1 (fun xs acc σ₁ => ∃ (dn rs : List Str), dn ++ rs = (["A", "B", "X"] : List Str) ∧ xs = rs.map .str ∧ acc = dn.map (fun x : Str => (((m w).vals x).map V.int).getD .none) ∧ σ = σ₁) (by k_upd) (by keq_hits) (fun QE x r acc σ₁ hJ hE => ?_) (fun acc σ₁ hJ => ?_) ⟨[], (["A", "B", "X"] : List Str), rfl, rfl, rfl, rfl⟩
          · obtain ⟨dn, rs, he, hx, rfl, rfl⟩ := hJ
            cases rs with
            | nil => cases hx
            | cons y rs =>
              injection hx with hx1 hx2
              subst hx1
              refine ⟨le_line (gets_len he), ?_⟩
              with_reducible refine ok_meth ?_ (by lcg_sub) (by lcg_sub) (by lcg_sub) (by lcg_sub)
              kas_types
              refine mk_meth (meth_get pv) rfl ?_
              kas_types
              refine callf_get1 LB.low pv ?_
              exact hE _ _ trivial ⟨dn ++ [y], rs, (List.append_assoc dn [y] rs).trans he, hx2, (by rw [List.map_append]; rfl), rfl⟩
          · obtain ⟨dn', rs', he', hx', rfl, rfl⟩ := hJ
            cases rs' with
            | cons y rs => cases hx'
            | nil =>
              rw [List.append_nil] at he'
              subst he'
              exact hE _ _ hr ⟨dn ++ [w], rs, (List.append_assoc dn [w] rs).trans he, hx2, (by rw [List.map_append]; rfl), rfl⟩
      · obtain ⟨dn, rs, he, hx, rfl, rfl⟩ := hJ
        cases rs with
        | cons y rs => cases hx
        | nil =>
          rw [List.append_nil] at he
          subst he
          rw [show List.map (fun w => gv (m w)) [0, 1, 2] = [gv (m 0), gv (m 0), gv (m 0)] by rw [List.map_cons, List.map_cons, List.map_cons, List.map_nil, gv_eq (same 1 (by decide)).2, gv_eq (same 2 (by decide)).2]]
          kas_types
          refine ok_and ?_
          refine ok_compare ?_ (by lcg_sub)
          refine ok_cut (.lst [gv (m 0), gv (m 0), gv (m 0)]) (fun Q' hQ => ?_) ?_
          · kas_types
            exact hQ
          refine ok_cut (.lst [gv (m 0), gv (m 0), gv (m 0)]) (fun Q' hQ => ?_) ?_
          · refine ok_binop ?_
            refine ok_list ?_
            kas_types
            refine run_mulL (n := 3) (by show 1 * 3 ≤ 2 ^ 20; decide) (by decide) ?_
            exact hQ
          have pg : (V.lst [gv (m 0), gv (m 0), gv (m 0)]).plain 8 = true := by
            show plains 7 [_, _, _] = true
            rw [plains_cons, plains_cons, plains_cons, plains_nil, gv_plain]
            rfl
          refine run_eqv_t pg pg rfl ?_
          refine t_true ?_
          with_reducible refine okg_call (‹LawLib _ _›).piles.ns (‹LawLib _ _›).piles.keep (by k_updF) (by kbo_bools) (fun zz => by lcg_sub) ?_
          kas_types
          refine (t_piles LB WL hl F hrl hr (hR 0 (by decide)) (hR 1 (by decide)) (hR 2 (by decide)) hs hsl hK h0 h2 fun σ' => ?_).f (by decide)
          kas_types
          exact h _
end
end
-- K9
section
section
variable {c : Ctx} {A : Ads} {W : LawAds} {d : Nat} {env : Env} {lk : Loc} {σ σ' : Sto} {pos : Pos} {QX : Fl → Loc → Sto → Prop} {Q : V → Sto → Prop}
structure Flats (A : Ads) (P : Nat → Prg) (kf kr kl kq : Nat → Nat) (σ : Sto) : Prop where
  is : ∀ w < 3, FlatIs A (P w) (kf w) (kr w) (kl w) (kq w) σ
noncomputable abbrev Quad := Nat × Nat × Nat × Nat
theorem cons1 {α : Type} {l : List α} {n : Nat} (h : l.length = n + 1) : ∃ a r, l = a :: r ∧ r.length = n := by
  cases l with
  | nil => cases h
  | cons a r => exact ⟨a, r, rfl, Nat.succ.inj h⟩
theorem three {α : Type} {l : List α} (h : l.length = 3) : ∃ f : Nat → α, l = [f 0, f 1, f 2] := by
  obtain ⟨a, r1, rfl, h1⟩ := cons1 h
  obtain ⟨b, r2, rfl, h2⟩ := cons1 h1
  obtain ⟨g, r3, rfl, h3⟩ := cons1 h2
  obtain rfl := List.eq_nil_of_length_eq_zero h3
  exact ⟨fun w => [a, b, g].getD w a, rfl⟩
theorem three_get {α : Type} {f : Nat → α} {w : Nat} (h : w < 3) : [f 0, f 1, f 2][w]? = some (f w) := by
  obtain rfl | rfl | rfl : w = 0 ∨ w = 1 ∨ w = 2 := by lcg_off
  · rfl
  · rfl
  · rfl
theorem quad_fun {l : List Quad} (hl : l.length = 3) {R : Nat → Nat → Nat → Nat → Nat → Prop} (h : ∀ w x, l[w]? = some x → R w x.1 x.2.1 x.2.2.1 x.2.2.2) :
    ∃ kf kr kl kq : Nat → Nat, (l.map fun x => V.ref x.1) = [.ref (kf 0), .ref (kf 1), .ref (kf 2)] ∧ ∀ w < 3, R w (kf w) (kr w) (kl w) (kq w) := by
  obtain ⟨f, rfl⟩ := three hl
  exact ⟨fun w => (f w).1, fun w => (f w).2.1, fun w => (f w).2.2.1, fun w => (f w).2.2.2, rfl, fun w hw => h w (f w) (three_get hw)⟩
theorem draw_pt {ns : List Nat} (h : ns.length = 8) (hz : ∀ p ∈ ns.zip [2, 2, 5, 8, 2, 2, 2, 5], p.1 < p.2) : ∃ p : Pt, p.Ok ∧ encPt p = .lst (ns.map fun n : Nat => V.int n) := by
  refine opq fun Gq hGq => ?_
  obtain ⟨a0, r1, rfl, h1⟩ := cons1 h
  obtain ⟨a1, r2, rfl, h2⟩ := cons1 h1
  obtain ⟨a2, r3, rfl, h3⟩ := cons1 h2
  obtain ⟨a3, r4, rfl, h4⟩ := cons1 h3
  obtain ⟨a4, r5, rfl, h5⟩ := cons1 h4
  obtain ⟨a5, r6, rfl, h6⟩ := cons1 h5
  obtain ⟨a6, r7, rfl, h7⟩ := cons1 h6
  obtain ⟨a7, r8, rfl, h8⟩ := cons1 h7
  obtain rfl := List.eq_nil_of_length_eq_zero h8
  refine hGq ?_
  clear hGq Gq
  exact ⟨⟨a0, a1, a2, a3, a4, a5, a6, a7⟩, ⟨hz (a0, 2) (.head _), hz (a1, 2) (.tail _ (.head _)), hz (a2, 5) (.tail _ (.tail _ (.head _))), hz (a3, 8) (.tail _ (.tail _ (.tail _ (.head _)))), hz (a4, 2) (.tail _ (.tail _ (.tail _ (.tail _ (.head _))))),
    hz (a5, 2) (.tail _ (.tail _ (.tail _ (.tail _ (.tail _ (.head _)))))), hz (a6, 2) (.tail _ (.tail _ (.tail _ (.tail _ (.tail _ (.tail _ (.head _))))))), hz (a7, 5) (.tail _ (.tail _ (.tail _ (.tail _ (.tail _ (.tail _ (.tail _ (.head _)))))))) ⟩, rfl⟩
set_option maxHeartbeats 2000000 in
theorem law_pre (LB : Lib c A) (WL : LawLib c W) {L : Addr} {cdv : Value} {script : List Int} (hs : script.length ≤ 63)
    (h : ∀ (parts : List Pt) kf kr kl kq kR kC lk' σ', parts.length = 6 → (∀ p ∈ parts, p.Ok) → Flats A (prg parts) kf kr kl kq σ' → σ' kR = some (.list []) → σ' kC = some (.list []) → kR ≠ kC → (∀ w < 3, ∀ j ∈ [kf w, kr w, kl w, kq w], j ≠ kR ∧ j ≠ kC) →
      Sub [("parts", .lst (parts.map fun p => encPt p)), ("flats", .lst [.ref (kf 0), .ref (kf 1), .ref (kf 2)]), ("runs", .ref kR), ("codes", .ref kC)] lk' → QX .next lk' σ') :
    OkB c 11 (envOfC "law" (stScope (nth P1 86)) L W.f_law cdv) ((stBody (nth P1 86)).take 3) [("script", .lst (script.map .int))] σ QX := by
  conv in (List.take _ _) => whnf
  refine okb_let ?_ (by k_upd) (by lcg_sub) (by lcg_sub)
  refine ok_listC ?_
  with_reducible refine okl_cons ?_ (fun zz => by lcg_sub)
  refine ok_slice ?_ plainI
  kas_types
  show Ok c 11 _ _ _ _ _
  kas_types
  refine ⟨_, _, .inl rfl, le_line (by simp; lcg_off), .upto 60 _ (by decide), ?_⟩
  rw [show (60 : Int).toNat = 60 from rfl, ← List.map_take]
  have hs60 : (script.take 60).length ≤ 63 := by simp; lcg_off
  generalize script.take 60 = s at *
  kas_types
  intro kc hkc
  conv in (List.take _ _) => whnf
  have hc0 : upd σ kc (.list [.lst (s.map .int), .int 0]) kc = some (.list [.lst (s.map .int), .int ((0 : Nat) : Int)]) := upd_self ..
  with_reducible refine okb_let ?_ (by k_upd) (by lcg_sub) (by lcg_sub)
  refine ok_listcomp (cscope_fn [".0", "line"] rfl (by lcg_src) ⟨by keq_hits, by keq_hits, trivial⟩) (fun zz => by lcg_sub) ?_
  kas_types
  refine ⟨_, rfl, by lcg_off, by lcg_off, trivial, fun C cl => ?_⟩
  rw [show (6 : Int).toNat = 6 from rfl]
  refine comp_inv1 (fun xs acc σ₁ => ∃ (k m : Nat) (parts : List Pt), xs = rangeV k 1 m ∧ k + m = 6 ∧ parts.length = k ∧ (∀ p ∈ parts, p.Ok) ∧ acc = parts.map (fun p => encPt p) ∧ σ₁ = upd σ kc (.list [.lst (s.map .int), .int ((8 * k : Nat) : Int)])) (by k_upd) (by keq_hits) (fun QE x r acc σ₁ hJ hE => ?_) (fun acc σ₁ hJ => ?_) ⟨0, 6, [], rfl, rfl, rfl, by simp, rfl, rfl⟩
  · obtain ⟨k, m, parts, hx, hkm, hpl, hpo, rfl, rfl⟩ := hJ
    cases m with
    | zero => cases hx
    | succ m =>
      rw [rangeV] at hx
      injection hx with hx1 hx2
      subst hx1
      refine ⟨le_line (by simp; lcg_off), ?_⟩
      refine ok_listcomp (cscope_comp [".0", "below"] rfl (by lcg_src) ⟨by keq_hits, by keq_hits, trivial⟩) (fun zz => by lcg_sub) ?_
      refine okit_val ?_
      kas_types
      refine ⟨_, .inl rfl, trivial, fun C' cl' => ?_⟩
      rw [show ([.int 2, .int 2, .int 5, .int 8, .int 2, .int 2, .int 2, .int 5] : List V) = ([2, 2, 5, 8, 2, 2, 2, 5] : List Nat).map (fun n : Nat => V.int n) from rfl]
      have hpos : ∀ x ∈ ([2, 2, 5, 8, 2, 2, 2, 5] : List Nat), 0 < x := by simp
      have hbl : ([2, 2, 5, 8, 2, 2, 2, 5] : List Nat).length = 8 := rfl
      have fin : ∀ ns : List Nat, ns.length = 8 → (∀ p ∈ ns.zip [2, 2, 5, 8, 2, 2, 2, 5], p.1 < p.2) → ∃ p : Pt, p.Ok ∧ encPt p = .lst (ns.map fun n : Nat => V.int n) := fun zz => draw_pt
      generalize ([2, 2, 5, 8, 2, 2, 2, 5] : List Nat) = bs at *
      refine comp_inv1 (fun xs acc σ₁ => ∃ (ns done rest : List Nat), xs = rest.map (fun n : Nat => V.int n) ∧ bs = done ++ rest ∧ ns.length = done.length ∧ (∀ p ∈ ns.zip done, p.1 < p.2) ∧ acc = ns.map (fun n : Nat => V.int n) ∧ σ₁ = upd σ kc (.list [.lst (s.map .int), .int ((8 * k + ns.length : Nat) : Int)])) (by k_upd) (by keq_hits) (fun QE' x r' acc σ₁ hJ hE' => ?_) (fun acc σ₁ hJ => ?_) ⟨[], [], bs, rfl, rfl, rfl, by simp, rfl, rfl⟩
      · obtain ⟨ns, done, rest, hx, hbs, hnl, hz, rfl, rfl⟩ := hJ
        cases rest with
        | nil => cases hx
        | cons b rest =>
          rw [List.map_cons] at hx
          injection hx with hx1 hx2
          subst hx1
          have hb : 0 < b := hpos b (by rw [hbs]; simp)
          have hll : done.length + rest.length + 1 = 8 := by rw [← hbl, hbs]; simp; lcg_off
          refine ⟨le_line (by simp; lcg_off), ?_⟩
          with_reducible refine okg_call (‹LawLib _ _›).take.ns (‹LawLib _ _›).take.keep (by k_updF) (by kbo_bools) (fun zz => by lcg_sub) ?_
          kas_types
          refine (t_takeN LB WL (many := b) (upd_self ..) hs60 (by lcg_off) hb fun n hn => ?_).f (by decide)
          rw [upd_upd]
          refine hE' _ _ trivial ⟨ns ++ [n], done ++ [b], rest, hx2, by rw [hbs]; simp, by simp [hnl], ?_, by simp, ?_⟩
          · intro p hp
            rw [List.zip_append hnl] at hp
            rcases List.mem_append.mp hp with hp | hp
            · exact hz p hp
            · simp at hp
              subst hp
              exact hn
          · simp [Nat.add_assoc]
      · obtain ⟨ns, done, rest, hx, hbs, hnl, hz, rfl, rfl⟩ := hJ
        cases rest with
        | cons b rest => cases hx
        | nil =>
          rw [List.append_nil] at hbs
          subst hbs
          obtain ⟨p, hp, hpe⟩ := fin ns (by lcg_off) hz
          rw [← hpe]
          refine hE _ _ trivial ⟨k + 1, m, parts ++ [p], hx2, by lcg_off, by simp [hpl], ?_, by simp, ?_⟩
          · intro q hq
            rcases List.mem_append.mp hq with hq | hq
            · exact hpo q hq
            · rw [List.mem_singleton.mp hq]; exact hp
          · rw [hnl, hbl]
            rfl
  · obtain ⟨k, m, parts, hx, hkm, hpl, hpo, rfl, rfl⟩ := hJ
    cases m with
    | succ m => cases hx
    | zero =>
      obtain rfl : k = 6 := by lcg_off
      generalize upd σ kc (.list [.lst (s.map .int), .int ((8 * 6 : Nat) : Int)]) = σ1 at *
      have shp : ∀ w, Shape (progS parts w) := fun w => shape2 hpl
      refine okb_assign ?_ (by lcg_sub) (by lcg_sub) (by lcg_sub)
      refine ok_tuple ?_
      with_reducible refine okl_cons ?_ (fun zz => by lcg_sub)
      refine ok_listcomp (cscope_fn [".0", "way"] rfl (by lcg_src) ⟨by keq_hits, by keq_hits, trivial⟩) (fun zz => by lcg_sub) ?_
      kas_types
      refine ⟨_, rfl, by decide, by decide, trivial, fun C cl => ?_⟩
      rw [show (3 : Int).toNat = 3 from rfl]
      refine comp_inv1 (fun xs acc σ₂ => ∃ (k m : Nat) (fl : List Quad), xs = rangeV k 1 m ∧ k + m = 3 ∧ fl.length = k ∧ (∀ w x, fl[w]? = some x → FlatIs A (prg parts w) x.1 x.2.1 x.2.2.1 x.2.2.2 σ₂) ∧ acc = fl.map (fun x => V.ref x.1)) (by k_upd) (by keq_hits) (fun QE y ys acc σ₂ hJ hE => ?_) (fun acc σ₂ hJ => ?_) ⟨0, 3, [], rfl, rfl, rfl, (fun w x hx => nomatch hx), rfl⟩
      · refine opq fun Gq hGq => ?_
        obtain ⟨k, m, fl, hxs, hkm, hfl, hF, rfl⟩ := hJ
        refine hGq ?_
        clear hGq Gq
        cases m with
        | zero => cases hxs
        | succ m =>
          rw [rangeV] at hxs
          injection hxs with hx1 hx2
          subst hx1
          have hk3 : k < 3 := by lcg_off
          refine ⟨le_line (by simp; lcg_off), ?_⟩
          with_reducible refine okg_call (‹Lib _ _›).flatten.ns (‹Lib _ _›).flatten.keep (by k_updF) (by kbo_bools) (fun zz => by lcg_sub) ?_
          with_reducible refine okl_cons ?_ (fun zz => by lcg_sub)
          with_reducible refine okg_call (‹LawLib _ _›).program.ns (‹LawLib _ _›).program.keep (by k_updF) (by kbo_bools) (fun zz => by lcg_sub) ?_
          kas_types
          refine (t_program LB WL hpl hk3 hpo fun σ3 dom3 => ?_).f (by decide)
          kas_types
          refine (t_flatten LB (D := 3) (shp k).few (shp k).ne (shp k).dep (shp k).len fun kf kr kl kp σ4 F => ?_).f (by decide)
          refine hE _ _ trivial ⟨k + 1, m, fl ++ [(kf, kr, kl, kp)], hx2, by lcg_off, by simp [hfl], fun w x hx => ?_, by simp⟩
          rw [List.getElem?_append] at hx
          split at hx
          · exact ((hF w x hx).mv dom3).mv F.keep
          · rename_i hw
            have : w = fl.length := by
              have := (List.getElem?_eq_some_iff.mp hx).1
              simp at this
              lcg_off
            subst this
            simp at hx
            subst hx
            rw [hfl]
            exact F.is
      · refine opq fun Gq hGq => ?_
        obtain ⟨k, m, fl, hxs, hkm, hfl, hF, rfl⟩ := hJ
        refine hGq ?_
        clear hGq Gq
        cases m with
        | succ m => cases hxs
        | zero =>
          obtain rfl : k = 3 := by lcg_off
          refine opq fun Gq hGq => ?_
          obtain ⟨kf, kr, kl, kq, e, F⟩ := quad_fun hfl (R := fun w a b g q => FlatIs A (prg parts w) a b g q σ₂) hF
          refine hGq ?_
          clear hGq Gq
          rw [e]
          with_reducible refine okl_cons ?_ (fun zz => by lcg_sub)
          refine ok_listC (okl_nil ⟨len0, fun kR hkR => ?_⟩)
          with_reducible refine okl_cons ?_ (fun zz => by lcg_sub)
          refine ok_listC (okl_nil ⟨len0, fun kC hkC => ?_⟩)
          kas_types
          refine oka_tuple (okas_cons (oka_name (okas_cons (oka_name (okas_cons (oka_name (okas_nil ?_) (by k_upd)) (by lcg_sub)) (by k_upd)) (by lcg_sub)) (by k_upd)) (by lcg_sub)) (by lcg_sub) (by lcg_sub)
          kas_types
          have nk : kR ≠ kC := ne_none (upd_self ..) hkC
          have hC' : σ₂ kC = none := (upd_ne (Ne.symm nk)).symm.trans hkC
          have hne : ∀ w < 3, ∀ j ∈ [kf w, kr w, kl w, kq w], j ≠ kR ∧ j ≠ kC := fun w hw j hj => by
            have Fw := F w hw
            have he : ∃ x, σ₂ j = some x := by
              simp only [List.mem_cons, List.not_mem_nil, or_false] at hj
              rcases hj with rfl | rfl | rfl | rfl
              · exact Fw.flat.at_.elim fun zz z => z.elim fun zz z => ⟨_, z.1⟩
              · exact ⟨_, Fw.rows⟩
              · exact ⟨_, Fw.places⟩
              · exact Fw.pairs.elim fun zz z => ⟨_, z.1⟩
            exact he.elim fun x hx => ⟨ne_none hx hkR, ne_none hx hC'⟩
          conv in (List.take _ _) => whnf
          refine okb_nil ?_
          refine h parts kf kr kl kq kR kC _ _ hpl hpo ⟨fun w hw => (F w hw).mv fun j x hj => (upd_ne (ne_none hj hC')).trans ((upd_ne (ne_none hj hkR)).trans hj)⟩ ((upd_ne nk).trans (upd_self ..)) (upd_self ..) nk hne ?_
          show Sub _ _
          keq_rows
end
end
-- K10
section
section
variable {c : Ctx} {A : Ads} {W : LawAds} {C fI : Addr} {d : Nat} {env : Env} {outs : List Env} {lk : Loc} {σ σ' : Sto} {pos : Pos} {QX : Fl → Loc → Sto → Prop} {Q : V → Sto → Prop} {QE : Loc → Sto → Str → Prop}
theorem okbE_sub {sts : List Stmt} {lk' : Loc} (hw : Sub lk' lk) (h : OkBE c C d env outs sts lk' σ QX QE) : OkBE c C d env outs sts lk σ QX QE :=
  fun A s μ Qr Er ok r f D q qe => h A s μ Qr Er ok r (f.weak hw) D q qe
noncomputable def CodeT (c : Ctx) (d : Nat) (f : Value) (args : List V) (σ : Sto) (Q : V → Sto → Prop) : Prop :=
  ∀ A s μ vs R, AOk A d → HR c s.heap μ σ → A.frames = some [] → VRs s.heap μ args vs → (∀ v s' y σ' μ', Q y σ' → HR c s'.heap μ' σ' → VR s'.heap μ' y v → Step (fun zz => False) μ μ' s s' → R (.ok (.ret v)) s') → codeAny c.M A (.call f ⟨vs, []⟩) R s
theorem code_fnT1 {a : Addr} {qual : Str} {st : Stmt} (x0 : Str) {y0 : V} (hf : HasFn c.K a qual st)
    (hbind : ∀ doc pm an cdv ct v0, pure [(x0, v0)] = bindArgs (fnOf (stName st) qual (stArgs st) (stBody st) (stScope st) .none .none doc pm an cdv ct) ⟨[v0], []⟩)
    (hsc : scOk (stScope st) [x0] = true) (h : ∀ L cdv, OkBE c C d (envOfC qual (stScope st) L a cdv) [] (stBody st) [(x0, y0)] σ (RetOk Q) (fun zz zz zz => False)) : CodeT c (d + 1) (.ref a) [y0] σ Q := by
  refine opq fun Gq hGq => ?_
  obtain ⟨oc, od, osl, doc, pm, an, cdv, ct, ho, hcd⟩ := hf
  refine hGq ?_
  clear hGq Gq
  have b0 := Bool.and_eq_true_iff.mp hsc
  have b1 := Bool.and_eq_true_iff.mp b0.1
  have b2 := Bool.and_eq_true_iff.mp b1.1
  have b3 := Bool.and_eq_true_iff.mp b2.1
  have b4 := Bool.and_eq_true_iff.mp b3.1
  intro A s μ vs R ok r hA hv q
  refine def_frame ho hcd (ps := [x0]) rfl (fun vs hl => by obtain ⟨v0, rfl⟩ := len_1 hl; exact (hbind doc pm an cdv ct v0).symm) (of_decide_eq_true b0.2) (fun x hx => (Bool.or_eq_true_iff.mp (List.all_eq_true.mp b4.1 x hx)).imp beq_iff_eq.mp beq_iff_eq.mp) (fun p hp => bne_iff_ne.mp (List.all_eq_true.mp b4.2 p hp)) (beq_iff_eq.mp b3.2) (Bool.not_eq_true' _ ▸ b2.2) (Bool.not_eq_true' _ ▸ b1.2)
    ok r hv fun s₁ ok' r₁ f₁ keep fresh st₁ => ?_
  have D := deep_in (c := c) (μ := μ) (env := envOfC qual (stScope st) s.heap.objs.size a cdv) hA (fun e he => nomatch he) rfl keep fresh
  exact h _ cdv _ s₁ μ _ _ ok' r₁ f₁ D (frame_post (R := fun v s' => R (.ok (.ret v)) s') (fun zz zz h => h) (fun zz h => h) fresh st₁ q)
    fun e s₂ μ₂ σ₂ lk₂ code h' hq f R => hq.elim
noncomputable abbrev code3 (parts : List Pt) (w : Nat) : Str := codeOf (prg parts w) (endOf parts w).1 (endOf parts w).2
set_option maxHeartbeats 1000000 in
theorem law_loop (LB : Lib c A) (WL : LawLib c W) (LZ : LawB c) (Z : ExcK c C fI) {L : Addr} {cdv : Value} {parts : List Pt} {kf kr kl kq : Nat → Nat} {kR kC : Nat} (H : Law2 parts) (F : Flats A (prg parts) kf kr kl kq σ) (hR : σ kR = some (.list [])) (hC : σ kC = some (.list [])) (nk : kR ≠ kC)
    (hne : ∀ w < 3, ∀ j ∈ [kf w, kr w, kl w, kq w], j ≠ kR ∧ j ≠ kC)
    (h : ∀ o q σ', Flats A (prg parts) kf kr kl kq σ' → Ran A W (prg parts) (fun w => (endOf parts w).1) o q kR kC [code3 parts 0, code3 parts 1, code3 parts 2] σ' →
      OkB c 11 (envOfC "law" (stScope (nth P1 86)) L W.f_law cdv) ((stBody (nth P1 86)).drop 4) [("parts", .lst (parts.map fun p => encPt p)), ("flats", .lst [.ref (kf 0), .ref (kf 1), .ref (kf 2)]), ("runs", .ref kR), ("codes", .ref kC)] σ' (RetOk Q)) :
    OkBE c C 11 (envOfC "law" (stScope (nth P1 86)) L W.f_law cdv) [] ((stBody (nth P1 86)).drop 3) [("parts", .lst (parts.map fun p => encPt p)), ("flats", .lst [.ref (kf 0), .ref (kf 1), .ref (kf 2)]), ("runs", .ref kR), ("codes", .ref kC)] σ (RetOk Q) (fun zz zz zz => False) := by
  generalize hT : (stBody (nth P1 86)).drop 4 = T at h
  have hD : (stBody (nth P1 86)).drop 3 = nth (stBody (nth P1 86)) 3 :: T := by rw [← hT]; rfl
  rw [hD]
  conv in (nth (stBody (nth P1 86)) 3) => whnf
  refine okbE_cons (okxE_zip LZ.b_zip (by k_updF) ?_ (fun zz => by lcg_sub) (fun zz => by lcg_sub) (fun zz => by lcg_sub) (fun zz => by lcg_sub))
  kas_types
  refine ⟨_, _, rfl, rfl, rfl, ?_⟩
  refine loopE_inv2 (fun xs lk₁ σ₁ => ∃ (n : Nat) (rn : List (Objs × Nat)), n ≤ 3 ∧ rn.length = n ∧ xs = pairV (([V.ref (kf 0), .ref (kf 1), .ref (kf 2)]).drop n) (([V.int 40, .int 100, .int 40]).drop n) ∧ lk₁ = ([("parts", .lst (parts.map fun p => encPt p)), ("flats", .lst [.ref (kf 0), .ref (kf 1), .ref (kf 2)]), ("runs", .ref kR), ("codes", .ref kC)] : Loc) ∧
    Flats A (prg parts) kf kr kl kq σ₁ ∧ σ₁ kR = some (.list (rn.map fun x => .ref x.1.kRun)) ∧ σ₁ kC = some (.list ((List.range n).map fun w => .str (code3 parts w))) ∧
    ∀ w x, rn[w]? = some x → RunAt A W.f_worth x.1 x.2 (prg parts w) σ₁ (endOf parts w).1 ∧ ∀ j ∈ objsL x.1 x.2, j ≠ kR ∧ j ≠ kC) (by k_upd) (by k_upd) (fun QB y r lk₁ σ₁ hJ hB => ?_) (fun lk₁ σ₁ hJ => ?_)
    ⟨0, [], by decide, rfl, rfl, rfl, F, hR, hC, fun w x hx => nomatch hx⟩
  · obtain ⟨n, rn, hn3, hrl, hx, rfl, F₁, c1, c2, hrun⟩ := hJ
    have hn : n < 3 := by
      by_cases q : n < 3
      · exact q
      · obtain rfl : n = 3 := by lcg_off
        cases hx
    have hx' : pairV (([V.ref (kf 0), .ref (kf 1), .ref (kf 2)]).drop n) (([V.int 40, .int 100, .int 40]).drop n) = .tup [.ref (kf n), .int (lim n : Nat)] :: pairV (([V.ref (kf 0), .ref (kf 1), .ref (kf 2)]).drop (n + 1)) (([V.int 40, .int 100, .int 40]).drop (n + 1)) := by
      have : n = 0 ∨ n = 1 ∨ n = 2 := by lcg_off
      rcases this with rfl | rfl | rfl <;> rfl
    rw [hx'] at hx
    injection hx with hx1 hx2
    subst hx1
    refine ⟨_, _, rfl, ?_⟩
    have hlim : lim n ≤ 1000 := by unfold lim; split <;> decide
    have hlen : (prg parts n).rows.length ≤ 1000 := by have := (H.shape n).len; show (flatP 0 _).length ≤ 1000; lcg_off
    refine okbE_assignE ?_ (by lcg_sub) (by lcg_sub) (by lcg_sub)
    with_reducible refine okgE_call (‹LawLib _ _›).gone.ns (‹LawLib _ _›).gone.keep (by k_updF) (by kbo_bools) (fun zz => by lcg_sub) ?_
    kas_types
    refine CodeO.call (d := 10) (t_gone LB WL Z (F₁.is n hn) hlen (fun x hx => (H.shape n).wf x hx |>.1) (m' := (endOf parts n).1) (er := (endOf parts n).2) rfl (H.err n hn) hlim (H.piles n) fun o kp' σ2 R2 ro hkp dom2 => ?_) (by decide)
    refine oka_tuple (okas_cons (oka_name (okas_cons (oka_name (okas_nil ?_) (by k_upd)) (by lcg_sub)) (by k_upd)) (by lcg_sub)) (by lcg_sub) (by lcg_sub)
    have d1 := dom2 _ _ c1
    have d2 := dom2 _ _ c2
    have apart : ∀ j ∈ objsL o kp', j ≠ kR ∧ j ≠ kC := fun j hj => by
      have nw : σ₁ j = none → j ≠ kR ∧ j ≠ kC := fun e => ⟨(by rintro rfl; rw [c1] at e; cases e), (by rintro rfl; rw [c2] at e; cases e)⟩
      have h4 := hne n hn
      obtain ⟨f1, f2, f3, f4⟩ := ro.flat
      simp only [objsL, List.mem_cons, List.not_mem_nil, or_false] at hj
      rcases hj with rfl | rfl | rfl | rfl | rfl | rfl | rfl | rfl | rfl
      · exact nw (ro.new _ (by simp))
      · exact h4 _ (by rw [f1]; simp)
      · exact nw (ro.new _ (by simp))
      · exact nw (ro.new _ (by simp))
      · exact nw (ro.new _ (by simp))
      · exact h4 _ (by rw [f2]; simp)
      · exact h4 _ (by rw [f3]; simp)
      · exact h4 _ (by rw [f4]; simp)
      · exact nw hkp
    refine okbE_expr ?_ (by lcg_sub) (by lcg_sub)
    with_reducible refine ok_meth ?_ (by lcg_sub) (by lcg_sub) (by lcg_sub) (by lcg_sub)
    kas_types
    refine mk_meth (meth_append d1) rfl ?_
    kas_types
    refine callf_append d1 (le_line (by simp; lcg_off)) ?_
    refine okbE_expr ?_ (by lcg_sub) (by lcg_sub)
    have d2' := (upd_ne (c := .list ((rn.map fun x => V.ref x.1.kRun) ++ [.ref o.kRun])) (Ne.symm nk)).trans d2
    with_reducible refine ok_meth ?_ (by lcg_sub) (by lcg_sub) (by lcg_sub) (by lcg_sub)
    kas_types
    refine mk_meth (meth_append d2') rfl ?_
    kas_types
    refine callf_append d2' (le_line (by simp; lcg_off)) ?_
    kas_types
    have mv : ∀ {X Y : Cell} {j x}, j ≠ kR ∧ j ≠ kC → σ2 j = some x → upd (upd σ2 kR X) kC Y j = some x := fun hj hx => (upd_ne hj.2).trans ((upd_ne hj.1).trans hx)
    refine hB .next _ _ ⟨trivial, ([("parts", .lst (parts.map fun p => encPt p)), ("flats", .lst [.ref (kf 0), .ref (kf 1), .ref (kf 2)]), ("runs", .ref kR), ("codes", .ref kC)] : Loc), (show Sub _ _ by keq_rows), n + 1, rn ++ [(o, kp')], hn, by simp [hrl], hx2, rfl, ⟨fun w hw => ?_⟩, ?_, ?_, fun w x hx => ?_⟩
    · have Fw := (F₁.is w hw).mv dom2
      have h4 := hne w hw
      exact ⟨Fw.nd, ⟨Fw.flat.at_.imp fun zz => Exists.imp fun zz z => ⟨mv (h4 _ (by simp)) z.1, z.2⟩⟩, mv (h4 _ (by simp)) Fw.rows, mv (h4 _ (by simp)) Fw.places, Fw.pairs.imp fun zz z => ⟨mv (h4 _ (by simp)) z.1, z.2⟩⟩
    · rw [upd_ne nk, upd_self, List.map_append]
      rfl
    · rw [upd_self, List.range_succ, List.map_append]
      rfl
    · rw [List.getElem?_append] at hx
      split at hx
      · have hr := hrun w x hx
        exact ⟨hr.1.mv fun j hj y hy => mv (hr.2 j hj) (dom2 j y hy), hr.2⟩
      · have : w = n := by
          have := (List.getElem?_eq_some_iff.mp hx).1
          simp at this
          lcg_off
        subst this
        rw [hrl, Nat.sub_self] at hx
        simp at hx
        subst hx
        exact ⟨R2.mv fun j hj y hy => mv (apart j hj) hy, apart⟩
  · obtain ⟨n, rn, hn3, hrl, hx, rfl, F₁, c1, c2, hrun⟩ := hJ
    obtain rfl : n = 3 := by
      by_cases q : n = 3
      · exact q
      · have : n = 0 ∨ n = 1 ∨ n = 2 := by lcg_off
        rcases this with rfl | rfl | rfl <;> cases hx
    refine thenE_next (okbE_of ?_)
    obtain ⟨f, rfl⟩ := three hrl
    exact h (fun w => (f w).1) (fun w => (f w).2) σ₁ F₁ ⟨fun w hw => (hrun w (f w) (three_get hw)).1, c1, c2⟩
theorem code3_more {parts : List Pt} (q : (endOf parts 0).2 = none ∧ (endOf parts 0).1.pc < (prg parts 0).rows.length) : code3 parts 0 = "more" := by
  unfold code3 codeOf
  rw [q.1]
  dsimp only
  rw [if_neg (by lcg_off)]
theorem code3_done {parts : List Pt} (q : (∀ way < 3, (endOf parts way).2 = none ∧ (prg parts way).rows.length ≤ (endOf parts way).1.pc) ∨ ∀ way < 3, (endOf parts way).2 = some (if way = 1 then ("UL" : Str) else "RG")) :
    (code3 parts 0 = "" ∧ code3 parts 1 = "" ∧ code3 parts 2 = "") ∨ (code3 parts 0 = "RG" ∧ code3 parts 1 = "UL" ∧ code3 parts 2 = "RG") := by
  rcases q with q | q
  · have k : ∀ w < 3, code3 parts w = "" := fun w hw => by
      unfold code3 codeOf
      rw [(q w hw).1]
      dsimp only
      rw [if_pos (q w hw).2]
    exact .inl ⟨k 0 (by decide), k 1 (by decide), k 2 (by decide)⟩
  · have k : ∀ w < 3, code3 parts w = (if w = 1 then ("UL" : Str) else "RG") := fun w hw => by
      unfold code3 codeOf
      rw [q w hw]
    exact .inr ⟨k 0 (by decide), k 1 (by decide), k 2 (by decide)⟩
theorem t_law (LB : Lib c A) (WL : LawLib c W) (LZ : LawB c) (Z : ExcK c C fI) {script : List Int} (hs : script.length ≤ 63) (h : ∀ σ', Q (.bool true) σ') : CodeT c 12 (.ref W.f_law) [.lst (script.map .int)] σ Q := by
  refine code_fnT1 (C := C) "script" WL.law.fn (by intros; rfl) (by lcg_src) fun L cdv => ?_
  rw [← List.take_append_drop 3 (stBody (nth P1 86))]
  refine okbE_pre (law_pre LB WL hs fun parts kf kr kl kq kR kC lk' σ' hl hP F hR hC nk hne hsub => thenE_next (okbE_sub hsub ?_))
  have H := law2 hl hP
  refine law_loop LB WL LZ Z H F hR hC nk hne fun o q σ2 F2 T => ?_
  by_cases qm : (endOf parts 0).2 = none ∧ (endOf parts 0).1.pc < (prg parts 0).rows.length
  · rw [code3_more qm] at T
    have hm := H.more qm.1 qm.2
    exact law_more LB LZ T H.stok H.few hm.1 hm.2 (h _)
  · refine opq fun Gq hGq => ?_
    obtain ⟨h1, h2, stk, s1, s2, s3, s4, s5⟩ := H.done qm
    refine hGq ?_
    clear hGq Gq
    refine law_done LB WL hl F2.is (fun w hw => by have := (H.shape w).len; show (flatP 0 _).length ≤ 1000; lcg_off) T (code3_done h1) H.stok h2 s1 s2 s3 s4 s5 h
end
end
-- F2
theorem trim : ∀ (n : Nat) (h : Heap), h.objs.size = n → (∃ a o, h.get? a = some o) → ∃ H0 : Heap, (∀ b o, h.get? b = some o → H0.get? b = some o) ∧ (∀ b o, H0.get? b = some o → h.get? b = some o) ∧ ∃ o, H0.get? (H0.objs.size - 1) = some o
  | 0, h, hn, ⟨a, o, ha⟩ => by
    have : @LT.lt Nat _ a h.objs.size := Heap.lt_size ha
    omega
  | n + 1, h, hn, ⟨a, o, ha⟩ => by
    cases e : h.get? (h.objs.size - 1) with
    | some o' => exact ⟨h, fun zz zz q => q, fun zz zz q => q, o', e⟩
    | none =>
      have hp : ∀ b : Nat, (⟨h.objs.pop, h.life⟩ : Heap).get? b = h.get? b := by
        intro b
        by_cases hb : @LT.lt Nat _ b n
        · have q : h.objs.pop[b]? = h.objs[b]? := by rw [Array.getElem?_pop, if_pos (show @LT.lt Nat _ b (h.objs.size - 1) by omega)]
          unfold Heap.get?
          rw [q]
        · have e1 : (⟨h.objs.pop, h.life⟩ : Heap).get? b = none := by
            cases q : (⟨h.objs.pop, h.life⟩ : Heap).get? b with
            | none => rfl
            | some x =>
              have : @LT.lt Nat _ b (⟨h.objs.pop, h.life⟩ : Heap).objs.size := Heap.lt_size q
              simp only [Array.size_pop] at this
              omega
          rw [e1]
          by_cases hb2 : @Eq Nat b (h.objs.size - 1)
          · rw [hb2, e]
          · cases q : h.get? b with
            | none => rfl
            | some x =>
              have : @LT.lt Nat _ b h.objs.size := Heap.lt_size q
              omega
      obtain ⟨H0, h1, h2, h3⟩ := trim n ⟨h.objs.pop, h.life⟩ (by simp [hn]) ⟨a, o, by rw [hp]; exact ha⟩
      exact ⟨H0, fun b o q => h1 b o (by rw [hp]; exact q), fun b o q => by rw [← hp]; exact h2 b o q, h3⟩
noncomputable abbrev mu0 : AMap := (fun zz => none, fun zz => False)
theorem frz_mu0 (b : Addr) : Frz mu0 b := ⟨fun zz zz h => (nomatch h), fun h => h⟩
theorem well_ints {P : Params} {h : Heap} : ∀ (ns : List Int) (vs : List Value), WellAll P h vs (ns.map fun i => .int i) → VRs h mu0 (ns.map .int) vs
  | [], vs, w => by cases w; exact .nil
  | n :: ns, vs, w => by
    cases w with
    | cons a b =>
      cases a
      exact .cons (.int _ _) (well_ints ns _ b)
theorem ofPys_ints : ∀ ns : List Int, ofPys (ns.map .int) = ns.map fun i => .int i
  | [] => rfl
  | n :: ns => by rw [List.map_cons, ofPys, ofPys_ints ns]; rfl
theorem well_script {P : Params} {h : Heap} {v : Value} {ns : List Int} (w : Well P h v (ofPy (.list (ns.map .int)))) : VR h mu0 (.lst (ns.map .int)) v := by
  have w' : Well P h v (.list (ns.map fun i => .int i)) := by rw [← ofPys_ints]; exact w
  cases w' with
  | list ho hw => exact .lst ho (frz_mu0 _) (well_ints ns _ hw)
theorem fin_call (c : Ctx) {A : Ads} {W : LawAds} {C fI : Addr} (LB : Lib c A) (WL : LawLib c W) (LZ : LawB c) (Z : ExcK c C fI) {s₁ : Shared} (hb : ∀ b o, c.H0.get? b = some o → s₁.heap.get? b = some o) {ns : List Int} {v : Value} (hv : VR s₁.heap mu0 (.lst (ns.map .int)) v) (hl : ns.length ≤ 63)
    {Q : Value → Shared → Prop} {E : Value → Shared → Prop} (h : ∀ s', s'.gens = s₁.gens → s'.os = s₁.os → (∀ b o, s₁.heap.get? b = some o → s'.heap.get? b = some o) → Q (.bool true) s') : wpAny c.M callerA (call (.ref W.f_law) [v]) Q E s₁ := by
  have r : HR c s₁.heap mu0 (fun zz => none) :=
    ⟨hb, fun k => ⟨fun zz => rfl, fun zz => rfl⟩, fun k j p q h => (nomatch h), fun k p h => (nomatch h), fun k x p h => (nomatch h), ⟨0, fun zz zz => rfl⟩, fun b h => h.elim⟩
  have ok : AOk callerA 12 := ⟨rfl, by decide, by decide⟩
  refine wpAny_call (t_law (Q := fun y zz => y = .bool true) LB WL LZ Z hl (fun zz => rfl) callerA s₁ mu0 [v] _ ok r rfl (.cons hv .nil) fun v' s' y σ' μ' hq r' hv' st => ?_)
  subst hq
  cases hv'
  exact h s' st.gens st.os fun b o q => st.keep b o (frz_mu0 b) (fun h => h) q
-- F3
section
variable {K : Frag} {a fI : Addr} {st : Stmt} {n q : Str} {pm cdv : Value}
theorem hasFn (h : K.lookup a = some (fO st q .none pm cdv)) (hc : codeIn K cdv q = true) : HasFn K a q st := ⟨_, _, _, _, _, _, _, _, h, hc⟩
theorem gFn (hn : nsIn K mainGlobals n = some (some (.ref a))) (h : K.lookup a = some (fO st n .none pm cdv)) (hc : codeIn K cdv n = true) (hk : keepIn K (.ref a) = true) : GFn K n st a := ⟨hn, hasFn h hc, hk⟩
theorem gMeth {x : Str} (hg : findIn K (.ref fI) x = some (some (.ref a))) (h : K.lookup a = some (fO st q .none pm cdv)) (ht : typeIn K (.ref a) = some (.type "function")) (hc : codeIn K cdv q = true) (hk : keepIn K (.ref a) = true) : MethK K fI x q st a := ⟨hg, ht, hasFn h hc, hk⟩
theorem gCls {C : Addr} (hn : nsIn K mainGlobals n = some (some (.ref C))) (hk : keepIn K (.ref C) = true) (c1 : findIn K (.ref C) "__getattribute__" = some (some (.builtin "object.__getattribute__"))) (c2 : findIn K (.ref C) "__getattr__" = some none)
    (c3 : findIn K (.ref C) "__setattr__" = some (some (.builtin "object.__setattr__"))) (c4 : plainOver K C = true) (c5 : (clsIn K C).any (·.hasDict) = true) (hm : makesIn K C = true) (hi : findIn K (.ref C) "__init__" = some (some (.ref fI))) (ht : typeIn K (.ref fI) = some (.type "function"))
    (h : K.lookup fI = some (fO (mth st 0) (n ++ "." ++ "__init__") .none pm cdv)) (hc : codeIn K cdv (n ++ "." ++ "__init__") = true) : GCls K n st C fI := ⟨hn, hk, ⟨c1, c2, c3, c4, c5⟩, hm, hi, ht, hasFn h hc⟩
end
noncomputable def ads : Ads := ()
noncomputable def lads : LawAds := ()
section
variable {prog : Program} {w : World} {P : Params} {H0 : Heap} {mg mb : Str → Option Value} {X : (K1 P).In H0} {g : H0.Ns mainGlobals mg} {b : H0.Ns builtinsNs mb} {l : H0.NoLimit} {u : ∀ x : Str, x ≠ "__name__" → mb x = bootBuiltins x} {v : ∃ o, H0.get? (H0.objs.size - 1) = some o}
theorem lib : Lib ⟨prog, w, K1 P, H0, mg, mb, X, g, b, l, u, v⟩ ads where
  low := Heap.lt_size (X 3 _ rfl)
  b_len := rfl
  b_range := rfl
  b_enumerate := rfl
  b_isinstance := rfl
  b_str := rfl
  b_tuple := rfl
  b_int := rfl
  b_min := rfl
  fits := gFn rfl rfl rfl rfl
  whole_of := gFn rfl rfl rfl rfl
  is_nought := gFn rfl rfl rfl rfl
  is_true := gFn rfl rfl rfl rfl
  put_upon := gFn rfl rfl rfl rfl
  floor_of := gFn rfl rfl rfl rfl
  cut_to := gFn rfl rfl rfl rfl
  gosub := gFn rfl rfl rfl rfl
  return_place := gFn rfl rfl rfl rfl
  chosen := gFn rfl rfl rfl rfl
  put_row_of := gFn rfl rfl rfl rfl
  put_if := gFn rfl rfl rfl rfl
  put_all := gFn rfl rfl rfl rfl
  gather := gFn rfl rfl rfl rfl
  flatten := gFn rfl rfl rfl rfl
  place_of := gFn rfl rfl rfl rfl
  do_flow := gFn rfl rfl rfl rfl
  do_jump := gFn rfl rfl rfl rfl
  most_number := ⟨_, rfl⟩
  jumps := rfl
  jumpsV := VR.tup (X _ _ rfl) ⟨fun zz zz h => (nomatch h), fun h => h⟩ (.cons (.str _ _) (.cons (.str _ _) (.cons (.str _ _) (.cons (.str _ _) (.cons (.str _ _) (.cons (.str _ _) .nil))))))
  Control := gCls rfl rfl rfl rfl rfl rfl rfl rfl rfl rfl rfl rfl
  Control_pile := ⟨rfl, rfl⟩
  Control_most := ⟨rfl, rfl⟩
  Control_failed_at := ⟨rfl, rfl⟩
  Flat := gCls rfl rfl rfl rfl rfl rfl rfl rfl rfl rfl rfl rfl
  Flat_rows := ⟨rfl, rfl⟩
  Flat_places := ⟨rfl, rfl⟩
  Flat_data := ⟨rfl, rfl⟩
  Flat_pairs := ⟨rfl, rfl⟩
  Flat_loops := ⟨rfl, rfl⟩
  Flat_fns := ⟨rfl, rfl⟩
  FlowRun := gCls rfl rfl rfl rfl rfl rfl rfl rfl rfl rfl rfl rfl
  FlowRun_flat := ⟨rfl, rfl⟩
  FlowRun_values := ⟨rfl, rfl⟩
  FlowRun_worth_of := ⟨rfl, rfl⟩
  FlowRun_bits := ⟨rfl, rfl⟩
  FlowRun_digits := ⟨rfl, rfl⟩
  FlowRun_control := ⟨rfl, rfl⟩
  FlowRun_notes := ⟨rfl, rfl⟩
  FlowRun_worth := gMeth rfl rfl rfl rfl rfl
  FlowRun_whole := gMeth rfl rfl rfl rfl rfl
  FlowRun_value_of_name := gMeth rfl rfl rfl rfl rfl
  FlowRun_store := gMeth rfl rfl rfl rfl rfl
  FlowRun_go := gMeth rfl rfl rfl rfl rfl
theorem lawLib : LawLib ⟨prog, w, K1 P, H0, mg, mb, X, g, b, l, u, v⟩ lads where
  take := gFn rfl rfl rfl rfl
  let_ := gFn rfl rfl rfl rfl
  worth := gFn rfl rfl rfl rfl
  back := gFn rfl rfl rfl rfl
  returned := gFn rfl rfl rfl rfl
  gone_to := gFn rfl rfl rfl rfl
  led := gFn rfl rfl rfl rfl
  program := gFn rfl rfl rfl rfl
  gone := gFn rfl rfl rfl rfl
  piles := gFn rfl rfl rfl rfl
  law := gFn rfl rfl rfl rfl
  hand := rfl
theorem lawB : LawB ⟨prog, w, K1 P, H0, mg, mb, X, g, b, l, u, v⟩ := ⟨rfl, rfl⟩
theorem hd_ns33 : nsOkIn (K1 P) 33 = true := by kernel_rfl
theorem excK : ExcK ⟨PySem.Challenge.rw_sm0007_02.row.prog, w, K1 P, H0, mg, mb, X, g, b, l, u, v⟩ 34 31 where
  ns := rfl
  keep := rfl
  cls := ⟨_, _, _, _, _, _, _, _, _, _, _, _, _, _, rfl, hd_ns33, rfl, rfl, rfl, rfl, rfl, rfl⟩
  sub := rfl
  self := rfl
  init := ⟨_, _, _, _, _, _, _, _, _, _, _, _, _, _, _, _, _, _, _, _, _, rfl, rfl, rfl, rfl, rfl, rfl, by rfl⟩
  super := rfl
  top := by rfl
  statics := rfl
end
end
end
end
end
end Mine
set_option maxHeartbeats 8000000 in
theorem PySem.Challenge.cw_sm0007_02_holds : PySem.Challenge.rw_sm0007_02.Holds := by
  refine holds_law Mine.hd_said fun said => ?_
  refine holds_open (q := Mine.qv) (loose := Mine.loose1) (Xt := Mine.Xt1) (XP := XL Mine.qv []) (Yf := Hook.obs (kHook Mine.K1 Mine.as1 fun _ => rfl)) (Ya := Hook.val (kHook Mine.K1 Mine.as1 fun _ => rfl)) (YP := Hook.says (kHook Mine.K1 Mine.as1 fun _ => rfl)) (N := Mine.NN)
    (Mine.left1 Mine.hd_K) (Hook.of (kHook Mine.K1 Mine.as1 fun _ => rfl)) (Hook.keeps (kHook Mine.K1 Mine.as1 fun _ => rfl)) (fun s e => xl_of s (Bool.and_eq_true_iff.mp e).1) XL.keeps (by rfl) (by rfl) (by rfl) (fun s e => recFacts_of (Bool.and_eq_true_iff.mp e).2) (by rfl) said (by decide +kernel) ⟨rfl, rfl, rfl, rfl, rfl, by decide +kernel⟩ ?hw ?hc
  case hw => w_witness2
  intro w s₀ s₁ mg mb G Y fa o pm cd doc dV kV ho hd hcd hD hmg hg args vals as hpre hlay hrd hwl hlo
  have KX := kIn_of Y
  clear ho hd hcd hD
  refine Ground.open G ?_
  intro T B D TE TW
  have tr := topRead_of T
  wrow_args hpre hlay hrd hwl hlo
  rename Well _ _ _ _ => wl
  rename List Int => ns
  have hlen : ns.length ≤ 63 := by omega
  clear G Y T B D TE TW
  obtain ⟨H0, t1, t2, t3⟩ := Mine.trim _ s₁.heap rfl ⟨_, _, KX 3 _ rfl⟩
  have X := KX.keeps t1
  have hfa := mg_of X (tr.g.keeps t1) (Mine.lawLib (prog := PySem.Challenge.rw_sm0007_02.row.prog) (w := w) (X := X) (g := tr.g.keeps t1) (b := tr.b.keeps t1) (l := tr.nolimit.keeps t1) (u := tr.builtins) (v := t3)).law.ns
  have e : some (Value.ref Mine.lads.f_law) = some (Value.ref fa) := hfa.symm.trans hmg
  injection e with e
  injection e with e
  subst e
  exact Mine.fin_call ⟨PySem.Challenge.rw_sm0007_02.row.prog, w, _, H0, mg, mb, X, tr.g.keeps t1, tr.b.keeps t1, tr.nolimit.keeps t1, tr.builtins, t3⟩ Mine.lib Mine.lawLib Mine.lawB Mine.excK t2 (Mine.well_script wl) hlen fun s' q1 q2 q3 => GoodW.toG ⟨.inl ⟨.bool true, .bool true, [], rfl, fun _ => rfl, .bool true, by wrow_post, fun _ => ⟨List.nodup_nil, fun a ha => (nomatch ha)⟩⟩, q3, q2, q1.trans hg⟩

