import PyProof.Rows.All
import Wide.All
import OpenK.AllK
import Wide.FinOn
import Lean
import PySem.Challenge.RW_xm0056_01
open PySem PySem.W PySem.Calls PyProof.Rows
set_option Elab.async false
set_option maxRecDepth 100000
set_option maxHeartbeats 8000000
set_option linter.unusedVariables false
set_option linter.unusedSectionVars false
set_option genSizeOf false
set_option genInjectivity false
namespace Mine
noncomputable abbrev PR : Program := PySem.Challenge.rw_xm0056_01.row.prog

noncomputable def putK {K α : Type} [DecidableEq K] (d : List (K × α)) (k : K) (x : α) : List (K × α) :=
  if d.any (fun p => p.1 = k) then d.map (fun p => if p.1 = k then (p.1, x) else p) else d ++ [(k, x)]
theorem putK_le {K α : Type} [DecidableEq K] (d : List (K × α)) (k : K) (x : α) : (putK d k x).length ≤ d.length + 1 := by
  unfold putK
  split
  · rw [List.length_map]; omega
  · simp
noncomputable def nth {α : Type} : List α → Nat → Option α
  | [], _ => none
  | x :: _, 0 => some x
  | _ :: r, n + 1 => nth r n
noncomputable def hasN (i : Nat) : List Nat → Bool
  | [] => false
  | j :: r => match Nat.beq i j with | true => true | false => hasN i r
noncomputable def upFrom (k : Nat) : Nat → List Nat
  | 0 => []
  | n + 1 => k :: upFrom (k + 1) n

abbrev qS (s : String) : Str := Str.ofString s
abbrev qV (s : String) (n : Nat) : Value := .str (Str.ofString s) n
abbrev qI (i : Int) (n : Nat) : Value := .int i n
abbrev qR (n : Nat) : Value := .ref n
abbrev qN : Value := .none
noncomputable def qA {α : Type} (l : List α) : Array α := ⟨l⟩
noncomputable def qE (P : Params) (s : String) (n : Nat) (v : Value) : DictEntry := ⟨PyData.keyHash P (Str.ofString s), .str (Str.ofString s) n, v⟩
/-- the text's statements, and what they hold -/
noncomputable def qT (k : Nat) : Stmt := match nth PySem.Challenge.pw_xm0056_01.main.body k with | some s => s | none => .Pass default
noncomputable def qC (k j : Nat) : Stmt := match qT k with | .ClassDef _ _ _ b .. => (match nth b j with | some s => s | none => .Pass default) | s => s
noncomputable def qP : Stmt → Arguments | .FunctionDef _ a .. => a | _ => default
noncomputable def qB : Stmt → List Stmt | .FunctionDef _ _ b .. => b | _ => []
noncomputable def qK : Stmt → Scope | .FunctionDef _ _ _ _ _ _ s .. => s | _ => default
noncomputable def q46 (P : Params) : List Obj := [
  boot_o_0 P,
  boot_o_1 P,
  boot_o_2 P,
  boot_o_3 P,
  boot_o_4 P,
  boot_o_5 P,
  boot_o_6 P,
  boot_o_7 P,
  boot_o_8 P,
  boot_o_9 P,
  boot_o_10 P,
  (Obj.mk (Value.type "tuple") Option.none (Data.seq (qA []) 0) (qA [])),
  (Obj.mk qN Option.none (Data.fields (qA [])) (qA [])),
  (Obj.mk (Value.type "code") Option.none (Data.fields (qA [(qV "<module>" 182), (qV "<module>" 183), (qV "/claim/cut.py" 184), (qI 1 0), (qI 0 0), (qI 0 0), (qI 0 0), (qI 0 0), (qR 11), (Value.bool Bool.false), (qI 181 0), (qR 12), qN, qN, qN, qN, (qI 185 0), (qI 1 0), (qV "/claim/cut.py" 186)])) (qA [])),
  (Obj.mk (Value.type "frame") Option.none Data.plain (qA [(Option.some (qR 13)), (Option.some (qR 3)), (Option.some (qR 3)), Option.none, (Option.some (qV "__main__" 164)), Option.none, (Option.some (qR 0))]))]
noncomputable def q47 (P : Params) : List Obj := [
  boot_o_0 P,
  boot_o_1 P,
  boot_o_2 P,
  boot_o_3 P,
  boot_o_4 P,
  boot_o_5 P,
  boot_o_6 P,
  boot_o_7 P,
  boot_o_8 P,
  boot_o_9 P,
  boot_o_10 P,
  (Obj.mk (Value.type "tuple") Option.none (Data.seq (qA []) 0) (qA [])),
  (Obj.mk qN Option.none (Data.fields (qA [])) (qA [])),
  (Obj.mk (Value.type "code") Option.none (Data.fields (qA [(qV "<module>" 182), (qV "<module>" 183), (qV "/claim/cut.py" 184), (qI 1 0), (qI 0 0), (qI 0 0), (qI 0 0), (qI 0 0), (qR 11), (Value.bool Bool.false), (qI 181 0), (qR 12), qN, qN, qN, qN, (qI 185 0), (qI 1 0), (qV "/claim/cut.py" 186)])) (qA [])),
  (Obj.mk (Value.type "frame") Option.none Data.plain (qA [(Option.some (qR 13)), (Option.some (qR 3)), (Option.some (qR 3)), Option.none, (Option.some (qV "__main__" 164)), Option.none, (Option.some (qR 0))]))]
/-- what the top leaves -/
noncomputable def hd.heap_39 (P : Params) : Frag :=
  (nat_lit 0, boot_o_0 P) ::
  (nat_lit 1, boot_o_1 P) ::
  (nat_lit 2, (Obj.mk qN Option.none (Data.dict (qA [(qE P "type.__subclasses__.Exception.0" 221 (qI 34 0)), (qE P "type.__subclasses__.Exception.n" 222 (qI 1 0))]) 2) (qA []))) ::
  (nat_lit 3, (Obj.mk (Value.type "dict") Option.none (Data.dict (qA [(qE P "__name__" 165 (qV "law_xm0056_01" 1021)), (qE P "__doc__" 166 qN), (qE P "__package__" 167 qN), (qE P "__loader__" 168 (Value.builtin "__main__.__loader__#opaque")), (qE P "__spec__" 169 qN), (qE P "__annotations__" 170 (qR 6)), (qE P "__builtins__" 171 (qR 4)), (qE P "__file__" 173 (qV "/claim/cut.py" 172)), (qE P "__cached__" 174 qN), (qE P "MOST_EXPONENT" 190 (qI 99 189)), (qE P "BasicError" 224 (qR 34)), (qE P "figures_of" 233 (qR 44)), (qE P "rounded_by" 244 (qR 51)), (qE P "made" 256 (qR 58)), (qE P "whole_near" 266 (qR 65)), (qE P "fits" 274 (qR 72)), (qE P "whole_of" 283 (qR 79)), (qE P "decimal_of" 291 (qR 86)), (qE P "is_nought" 298 (qR 93)), (qE P "is_true" 305 (qR 100)), (qE P "sign_of" 313 (qR 107)), (qE P "MOST_NUMBER" 317 (qI 255 316)), (qE P "Control" 348 (qR 124)), (qE P "put_upon" 356 (qR 135)), (qE P "floor_of" 364 (qR 142)), (qE P "found_at" 374 (qR 149)), (qE P "cut_to" 382 (qR 156)), (qE P "is_past" 392 (qR 163)), (qE P "for_begin" 404 (qR 170)), (qE P "for_name" 413 (qR 177)), (qE P "for_next" 430 (qR 184)), (qE P "while_begin" 436 (qR 189)), (qE P "while_end" 442 (qR 194)), (qE P "wend_place" 452 (qR 202)), (qE P "loop_ends" 465 (qR 209)), (qE P "end_loop" 477 (qR 216)), (qE P "gosub" 485 (qR 223)), (qE P "return_place" 494 (qR 230)), (qE P "chosen" 502 (qR 237)), (qE P "Flat" 537 (qR 254)), (qE P "put_row_of" 546 (qR 265)), (qE P "put_if" 557 (qR 272)), (qE P "put_all" 567 (qR 279)), (qE P "gather" 583 (qR 286)), (qE P "join_rows" 593 (qR 293)), (qE P "end_loops" 604 (qR 300)), (qE P "flatten" 614 (qR 307)), (qE P "place_of" 622 (qR 314)), (qE P "line_of" 630 (qR 321)), (qE P "end_of_while" 638 (qR 328)), (qE P "next_of_for" 646 (qR 335)), (qE P "ONE" 651 (qR 336)), (qE P "MOST_POWER" 653 (qI 9999 652)), (qE P "d_negated" 660 (qR 343)), (qE P "alike" 669 (qR 350)), (qE P "d_add" 681 (qR 357)), (qE P "d_sub" 690 (qR 364)), (qE P "d_mul" 699 (qR 371)), (qE P "with_rest" 708 (qR 378)), (qE P "d_div" 722 (qR 385)), (qE P "d_compare" 733 (qR 392)), (qE P "d_power" 745 (qR 399)), (qE P "square_or_end" 753 (qR 406)), (qE P "is_whole" 762 (qR 413)), (qE P "settled" 771 (qR 420)), (qE P "whole_reckoned" 782 (qR 427)), (qE P "cut_quotient" 791 (qR 434)), (qE P "cut_rest" 799 (qR 441)), (qE P "exponent_of" 806 (qR 448)), (qE P "whole_power" 816 (qR 455)), (qE P "raised" 827 (qR 462)), (qE P "reckoned" 843 (qR 469)), (qE P "order_of" 851 (qR 476)), (qE P "JUMPS" 860 (qR 477)), (qE P "do_flow" 869 (qR 484)), (qE P "do_jump" 883 (qR 491)), (qE P "do_loop" 893 (qR 498)), (qE P "do_for" 914 (qR 505)), (qE P "next_from" 927 (qR 512)), (qE P "FlowRun" 1020 (qR 571)), (qE P "_law_draw" 1031 (qR 582)), (qE P "_law_worth" 1039 (qR 589)), (qE P "_law_open" 1049 (qR 596)), (qE P "_law_close" 1061 (qR 603)), (qE P "_law_rows" 1073 (qR 610)), (qE P "_law_word" 1080 (qR 617)), (qE P "law" 1086 (qR 622))]) 87) (qA []))) ::
  (nat_lit 4, boot_o_4 P) ::
  (nat_lit 5, boot_o_5 P) ::
  (nat_lit 6, boot_o_6 P) ::
  (nat_lit 7, boot_o_7 P) ::
  (nat_lit 8, boot_o_8 P) ::
  (nat_lit 9, boot_o_9 P) ::
  (nat_lit 10, boot_o_10 P) ::
  (nat_lit 11, (Obj.mk (Value.type "tuple") Option.none (Data.seq (qA []) 0) (qA []))) ::
  (nat_lit 12, (Obj.mk qN Option.none (Data.fields (qA [(qI 3 0), (qI 0 0), (qR 21), (qI 9 0), (qI 0 0), (qR 43), (qI 15 0), (qI 0 0), (qR 50), (qI 25 0), (qI 0 0), (qR 57), (qI 40 0), (qI 0 0), (qR 64), (qI 46 0), (qI 0 0), (qR 71), (qI 48 0), (qI 0 0), (qR 78), (qI 55 0), (qI 0 0), (qR 85), (qI 59 0), (qI 0 0), (qR 92), (qI 63 0), (qI 0 0), (qR 99), (qI 65 0), (qI 0 0), (qR 106), (qI 72 0), (qI 0 0), (qR 113), (qI 78 0), (qI 0 0), (qR 134), (qI 82 0), (qI 0 0), (qR 141), (qI 87 0), (qI 0 0), (qR 148), (qI 92 0), (qI 0 0), (qR 155), (qI 94 0), (qI 0 0), (qR 162), (qI 96 0), (qI 0 0), (qR 169), (qI 101 0), (qI 0 0), (qR 176), (qI 106 0), (qI 0 0), (qR 183), (qI 117 0), (qI 0 0), (qR 188), (qI 124 0), (qI 0 0), (qR 193), (qI 129 0), (qI 0 0), (qR 201), (qI 135 0), (qI 0 0), (qR 208), (qI 146 0), (qI 0 0), (qR 215), (qI 153 0), (qI 0 0), (qR 222), (qI 155 0), (qI 0 0), (qR 229), (qI 162 0), (qI 0 0), (qR 236), (qI 167 0), (qI 0 0), (qR 243), (qI 176 0), (qI 0 0), (qR 264), (qI 179 0), (qI 0 0), (qR 271), (qI 189 0), (qI 0 0), (qR 278), (qI 195 0), (qI 0 0), (qR 285), (qI 217 0), (qI 0 0), (qR 292), (qI 222 0), (qI 0 0), (qR 299), (qI 226 0), (qI 0 0), (qR 306), (qI 235 0), (qI 0 0), (qR 313), (qI 239 0), (qI 0 0), (qR 320), (qI 241 0), (qI 0 0), (qR 327), (qI 245 0), (qI 0 0), (qR 334), (qI 252 0), (qI 0 0), (qR 342), (qI 254 0), (qI 0 0), (qR 349), (qI 257 0), (qI 0 0), (qR 356), (qI 260 0), (qI 0 0), (qR 363), (qI 262 0), (qI 0 0), (qR 370), (qI 264 0), (qI 0 0), (qR 377), (qI 266 0), (qI 0 0), (qR 384), (qI 274 0), (qI 0 0), (qR 391), (qI 277 0), (qI 0 0), (qR 398), (qI 291 0), (qI 0 0), (qR 405), (qI 294 0), (qI 0 0), (qR 412), (qI 298 0), (qI 0 0), (qR 419), (qI 300 0), (qI 0 0), (qR 426), (qI 304 0), (qI 0 0), (qR 433), (qI 309 0), (qI 0 0), (qR 440), (qI 311 0), (qI 0 0), (qR 447), (qI 317 0), (qI 0 0), (qR 454), (qI 323 0), (qI 0 0), (qR 461), (qI 328 0), (qI 0 0), (qR 468), (qI 343 0), (qI 0 0), (qR 475), (qI 351 0), (qI 0 0), (qR 483), (qI 353 0), (qI 0 0), (qR 490), (qI 372 0), (qI 0 0), (qR 497), (qI 385 0), (qI 0 0), (qR 504), (qI 399 0), (qI 0 0), (qR 511), (qI 407 0), (qI 0 0), (qR 518), (qI 451 0), (qI 0 0), (qR 581), (qI 455 0), (qI 0 0), (qR 588), (qI 459 0), (qI 0 0), (qR 595), (qI 466 0), (qI 0 0), (qR 602), (qI 476 0), (qI 0 0), (qR 609), (qI 487 0), (qI 0 0), (qR 616), (qI 491 0), (qI 0 0), (qR 621)])) (qA []))) ::
  (nat_lit 13, (Obj.mk (Value.type "code") Option.none (Data.fields (qA [(qV "<module>" 182), (qV "<module>" 183), (qV "/claim/cut.py" 184), (qI 1 0), (qI 0 0), (qI 0 0), (qI 0 0), (qI 0 0), (qR 11), (Value.bool Bool.false), (qI 181 0), (qR 12), qN, qN, qN, qN, (qI 185 0), (qI 1 0), (qV "/claim/cut.py" 186)])) (qA []))) ::
  (nat_lit 14, (Obj.mk (Value.type "frame") Option.none Data.plain (qA [(Option.some (qR 13)), (Option.some (qR 3)), (Option.some (qR 3)), Option.none, (Option.some (qV "__main__" 164)), Option.none, (Option.some (qR 0))]))) ::
  (nat_lit 15, (Obj.mk (Value.type "tuple") Option.none (Data.seq (qA [(Value.type "Exception")]) 0) (qA []))) ::
  (nat_lit 16, (Obj.mk (Value.type "builtin_function_or_method") Option.none (Data.fields (qA [(Value.builtin "type.__prepare__"), (Value.type "type")])) (qA []))) ::
  (nat_lit 17, (Obj.mk (Value.type "dict") Option.none (Data.dict (qA [(qE P "__module__" 198 (qV "basicplus.values" 187)), (qE P "__qualname__" 200 (qV "BasicError" 199)), (qE P "__firstlineno__" 202 (qI 3 201)), (qE P "__init__" 213 (qR 31)), (qE P "__static_attributes__" 216 (qR 32)), (qE P "__classcell__" 217 (qR 18))]) 6) (qA []))) ::
  (nat_lit 18, (Obj.mk (Value.type "cell") Option.none (Data.cell (Option.some (qR 34))) (qA []))) ::
  (nat_lit 19, (Obj.mk (Value.type "tuple") Option.none (Data.seq (qA []) 0) (qA []))) ::
  (nat_lit 20, (Obj.mk qN Option.none (Data.fields (qA [(qI 5 0), (qI 4 0), (qR 30)])) (qA []))) ::
  (nat_lit 21, (Obj.mk (Value.type "code") Option.none (Data.fields (qA [(qV "BasicError" 193), (qV "BasicError" 194), (qV "/claim/cut.py" 195), (qI 3 0), (qI 0 0), (qI 0 0), (qI 0 0), (qI 0 0), (qR 19), (Value.bool Bool.false), (qI 181 0), (qR 20), qN, qN, qN, qN, (qI 196 0), (qI 3 0), (qV "/claim/cut.py" 197)])) (qA []))) ::
  (nat_lit 22, (Obj.mk (Value.type "frame") Option.none Data.plain (qA [(Option.some (qR 21)), (Option.some (qR 3)), (Option.some (qR 17)), Option.none, (Option.some (qV "basicplus.values" 187)), Option.none, (Option.some (qR 0))]))) ::
  (nat_lit 23, (Obj.mk (Value.type "tuple") Option.none (Data.seq (qA [(qV "" 203)]) 0) (qA []))) ::
  (nat_lit 24, (Obj.mk (Value.type "tuple") Option.none (Data.seq (qA [(qR 18)]) 0) (qA []))) ::
  (nat_lit 25, (Obj.mk (Value.type "tuple") Option.none (Data.seq (qA [(qV "__class__" 207)]) 0) (qA []))) ::
  (nat_lit 26, (Obj.mk qN Option.none (Data.fields (qA [])) (qA []))) ::
  (nat_lit 27, (Obj.mk (Value.type "tuple") Option.none (Data.seq (qA [(qV "self" 208), (qV "code" 209), (qV "told" 210)]) 0) (qA []))) ::
  (nat_lit 28, (Obj.mk (Value.type "tuple") Option.none (Data.seq (qA []) 0) (qA []))) ::
  (nat_lit 29, (Obj.mk qN Option.none (Data.func (FuncData.mk (qS "__init__") (qS "BasicError.__init__") (qP (qC 2 0)) (FuncBody.stmts (qB (qC 2 0))) (qK (qC 2 0)) 0 [] qN qN qN qN Option.none qN qN 0)) (qA []))) ::
  (nat_lit 30, (Obj.mk (Value.type "code") Option.none (Data.fields (qA [(qV "__init__" 204), (qV "BasicError.__init__" 205), (qV "/claim/cut.py" 206), (qI 5 0), (qI 3 0), (qI 0 0), (qI 0 0), (qI 3 0), (qR 25), (Value.bool Bool.true), (qI 181 0), (qR 26), qN, (qR 27), (qR 28), (qR 29), (qI 211 0), (qI 5 0), (qV "/claim/cut.py" 212)])) (qA []))) ::
  (nat_lit 31, (Obj.mk (Value.type "function") Option.none (Data.func (FuncData.mk (qS "__init__") (qS "BasicError.__init__") (qP (qC 2 0)) (FuncBody.stmts (qB (qC 2 0))) (qK (qC 2 0)) 3 [(Prod.mk (qS "__class__") 18)] (qR 23) qN qN (qV "basicplus.values" 187) Option.none (qR 30) (qR 24) 0)) (qA []))) ::
  (nat_lit 32, (Obj.mk (Value.type "tuple") Option.none (Data.seq (qA [(qV "code" 214), (qV "told" 215)]) 0) (qA []))) ::
  (nat_lit 33, (Obj.mk (Value.type "dict") Option.none (Data.dict (qA [(qE P "__module__" 198 (qV "basicplus.values" 187)), (qE P "__firstlineno__" 202 (qI 3 201)), (qE P "__init__" 213 (qR 31)), (qE P "__static_attributes__" 216 (qR 32)), (qE P "__weakref__" 219 (qR 35)), (qE P "__doc__" 220 qN)]) 4) (qA []))) ::
  (nat_lit 34, (Obj.mk (Value.type "type") Option.none (Data.cls (ClassData.mk (qS "BasicError") [(Value.type "Exception")] [(qR 34), (Value.type "Exception"), (Value.type "BaseException"), (Value.type "object")] 33 (qS "BasicError") Bool.true [] [] Bool.false Option.none Bool.false)) (qA [(Option.some (qR 15)), Option.none, (Option.some (qV "BasicError" 191)), (Option.some (qV "BasicError" 199)), (Option.some (Value.builtin "Exception.__new__")), (Option.some (Value.bool Bool.true))]))) ::
  (nat_lit 35, (Obj.mk (Value.type "getset_descriptor") Option.none (Data.fields (qA [(qV "__weakref__" 218), (qR 34), (Value.builtin "ExceptionGroup.__weakref__"), qN])) (qA []))) ::
  (nat_lit 36, (Obj.mk (Value.type "super") Option.none (Data.fields (qA [(qR 34), (qR 34), (qR 34)])) (qA []))) ::
  (nat_lit 37, (Obj.mk (Value.type "builtin_function_or_method") Option.none (Data.fields (qA [(Value.builtin "object.__init_subclass__"), (qR 34)])) (qA []))) ::
  (nat_lit 38, (Obj.mk (Value.type "tuple") Option.none (Data.seq (qA []) 0) (qA []))) ::
  (nat_lit 39, (Obj.mk qN Option.none (Data.fields (qA [])) (qA []))) ::
  (nat_lit 40, (Obj.mk (Value.type "tuple") Option.none (Data.seq (qA [(qV "number" 228), (qV "many" 229), (qV "bound" 230)]) 0) (qA []))) ::
  (nat_lit 41, (Obj.mk (Value.type "tuple") Option.none (Data.seq (qA []) 0) (qA []))) ::
  (nat_lit 42, (Obj.mk qN Option.none (Data.func (FuncData.mk (qS "figures_of") (qS "figures_of") (qP (qT 3)) (FuncBody.stmts (qB (qT 3))) (qK (qT 3)) 0 [] qN qN qN qN Option.none qN qN 0)) (qA []))) ::
  (nat_lit 43, (Obj.mk (Value.type "code") Option.none (Data.fields (qA [(qV "figures_of" 225), (qV "figures_of" 226), (qV "/claim/cut.py" 227), (qI 9 0), (qI 1 0), (qI 0 0), (qI 0 0), (qI 3 0), (qR 38), (Value.bool Bool.true), (qI 181 0), (qR 39), qN, (qR 40), (qR 41), (qR 42), (qI 231 0), (qI 9 0), (qV "/claim/cut.py" 232)])) (qA []))) ::
  (nat_lit 44, (Obj.mk (Value.type "function") Option.none (Data.func (FuncData.mk (qS "figures_of") (qS "figures_of") (qP (qT 3)) (FuncBody.stmts (qB (qT 3))) (qK (qT 3)) 3 [] qN qN qN (qV "basicplus.values" 187) Option.none (qR 43) qN 0)) (qA []))) ::
  (nat_lit 45, (Obj.mk (Value.type "tuple") Option.none (Data.seq (qA []) 0) (qA []))) ::
  (nat_lit 46, (Obj.mk qN Option.none (Data.fields (qA [])) (qA []))) ::
  (nat_lit 47, (Obj.mk (Value.type "tuple") Option.none (Data.seq (qA [(qV "number" 237), (qV "places" 238), (qV "unit" 239), (qV "found" 240), (qV "rest" 241)]) 0) (qA []))) ::
  (nat_lit 48, (Obj.mk (Value.type "tuple") Option.none (Data.seq (qA []) 0) (qA []))) ::
  (nat_lit 49, (Obj.mk qN Option.none (Data.func (FuncData.mk (qS "rounded_by") (qS "rounded_by") (qP (qT 4)) (FuncBody.stmts (qB (qT 4))) (qK (qT 4)) 0 [] qN qN qN qN Option.none qN qN 0)) (qA []))) ::
  (nat_lit 50, (Obj.mk (Value.type "code") Option.none (Data.fields (qA [(qV "rounded_by" 234), (qV "rounded_by" 235), (qV "/claim/cut.py" 236), (qI 15 0), (qI 2 0), (qI 0 0), (qI 0 0), (qI 3 0), (qR 45), (Value.bool Bool.true), (qI 181 0), (qR 46), qN, (qR 47), (qR 48), (qR 49), (qI 242 0), (qI 15 0), (qV "/claim/cut.py" 243)])) (qA []))) ::
  (nat_lit 51, (Obj.mk (Value.type "function") Option.none (Data.func (FuncData.mk (qS "rounded_by") (qS "rounded_by") (qP (qT 4)) (FuncBody.stmts (qB (qT 4))) (qK (qT 4)) 3 [] qN qN qN (qV "basicplus.values" 187) Option.none (qR 50) qN 0)) (qA []))) ::
  (nat_lit 52, (Obj.mk (Value.type "tuple") Option.none (Data.seq (qA []) 0) (qA []))) ::
  (nat_lit 53, (Obj.mk qN Option.none (Data.fields (qA [])) (qA []))) ::
  (nat_lit 54, (Obj.mk (Value.type "tuple") Option.none (Data.seq (qA [(qV "coefficient" 248), (qV "exponent" 249), (qV "digits" 250), (qV "size" 251), (qV "more" 252), (qV "first" 253)]) 0) (qA []))) ::
  (nat_lit 55, (Obj.mk (Value.type "tuple") Option.none (Data.seq (qA []) 0) (qA []))) ::
  (nat_lit 56, (Obj.mk qN Option.none (Data.func (FuncData.mk (qS "made") (qS "made") (qP (qT 5)) (FuncBody.stmts (qB (qT 5))) (qK (qT 5)) 0 [] qN qN qN qN Option.none qN qN 0)) (qA []))) ::
  (nat_lit 57, (Obj.mk (Value.type "code") Option.none (Data.fields (qA [(qV "made" 245), (qV "made" 246), (qV "/claim/cut.py" 247), (qI 25 0), (qI 3 0), (qI 0 0), (qI 0 0), (qI 3 0), (qR 52), (Value.bool Bool.true), (qI 181 0), (qR 53), qN, (qR 54), (qR 55), (qR 56), (qI 254 0), (qI 25 0), (qV "/claim/cut.py" 255)])) (qA []))) ::
  (nat_lit 58, (Obj.mk (Value.type "function") Option.none (Data.func (FuncData.mk (qS "made") (qS "made") (qP (qT 5)) (FuncBody.stmts (qB (qT 5))) (qK (qT 5)) 3 [] qN qN qN (qV "basicplus.values" 187) Option.none (qR 57) qN 0)) (qA []))) ::
  (nat_lit 59, (Obj.mk (Value.type "tuple") Option.none (Data.seq (qA []) 0) (qA []))) ::
  (nat_lit 60, (Obj.mk qN Option.none (Data.fields (qA [])) (qA []))) ::
  (nat_lit 61, (Obj.mk (Value.type "tuple") Option.none (Data.seq (qA [(qV "value" 260), (qV "coefficient" 261), (qV "exponent" 262), (qV "size" 263)]) 0) (qA []))) ::
  (nat_lit 62, (Obj.mk (Value.type "tuple") Option.none (Data.seq (qA []) 0) (qA []))) ::
  (nat_lit 63, (Obj.mk qN Option.none (Data.func (FuncData.mk (qS "whole_near") (qS "whole_near") (qP (qT 6)) (FuncBody.stmts (qB (qT 6))) (qK (qT 6)) 0 [] qN qN qN qN Option.none qN qN 0)) (qA []))) ::
  (nat_lit 64, (Obj.mk (Value.type "code") Option.none (Data.fields (qA [(qV "whole_near" 257), (qV "whole_near" 258), (qV "/claim/cut.py" 259), (qI 40 0), (qI 1 0), (qI 0 0), (qI 0 0), (qI 3 0), (qR 59), (Value.bool Bool.true), (qI 181 0), (qR 60), qN, (qR 61), (qR 62), (qR 63), (qI 264 0), (qI 40 0), (qV "/claim/cut.py" 265)])) (qA []))) ::
  (nat_lit 65, (Obj.mk (Value.type "function") Option.none (Data.func (FuncData.mk (qS "whole_near") (qS "whole_near") (qP (qT 6)) (FuncBody.stmts (qB (qT 6))) (qK (qT 6)) 3 [] qN qN qN (qV "basicplus.values" 187) Option.none (qR 64) qN 0)) (qA []))) ::
  (nat_lit 66, (Obj.mk (Value.type "tuple") Option.none (Data.seq (qA []) 0) (qA []))) ::
  (nat_lit 67, (Obj.mk qN Option.none (Data.fields (qA [])) (qA []))) ::
  (nat_lit 68, (Obj.mk (Value.type "tuple") Option.none (Data.seq (qA [(qV "number" 270), (qV "bits" 271)]) 0) (qA []))) ::
  (nat_lit 69, (Obj.mk (Value.type "tuple") Option.none (Data.seq (qA []) 0) (qA []))) ::
  (nat_lit 70, (Obj.mk qN Option.none (Data.func (FuncData.mk (qS "fits") (qS "fits") (qP (qT 7)) (FuncBody.stmts (qB (qT 7))) (qK (qT 7)) 0 [] qN qN qN qN Option.none qN qN 0)) (qA []))) ::
  (nat_lit 71, (Obj.mk (Value.type "code") Option.none (Data.fields (qA [(qV "fits" 267), (qV "fits" 268), (qV "/claim/cut.py" 269), (qI 46 0), (qI 2 0), (qI 0 0), (qI 0 0), (qI 3 0), (qR 66), (Value.bool Bool.true), (qI 181 0), (qR 67), qN, (qR 68), (qR 69), (qR 70), (qI 272 0), (qI 46 0), (qV "/claim/cut.py" 273)])) (qA []))) ::
  (nat_lit 72, (Obj.mk (Value.type "function") Option.none (Data.func (FuncData.mk (qS "fits") (qS "fits") (qP (qT 7)) (FuncBody.stmts (qB (qT 7))) (qK (qT 7)) 3 [] qN qN qN (qV "basicplus.values" 187) Option.none (qR 71) qN 0)) (qA []))) ::
  (nat_lit 73, (Obj.mk (Value.type "tuple") Option.none (Data.seq (qA []) 0) (qA []))) ::
  (nat_lit 74, (Obj.mk qN Option.none (Data.fields (qA [])) (qA []))) ::
  (nat_lit 75, (Obj.mk (Value.type "tuple") Option.none (Data.seq (qA [(qV "value" 278), (qV "bits" 279), (qV "number" 280)]) 0) (qA []))) ::
  (nat_lit 76, (Obj.mk (Value.type "tuple") Option.none (Data.seq (qA []) 0) (qA []))) ::
  (nat_lit 77, (Obj.mk qN Option.none (Data.func (FuncData.mk (qS "whole_of") (qS "whole_of") (qP (qT 8)) (FuncBody.stmts (qB (qT 8))) (qK (qT 8)) 0 [] qN qN qN qN Option.none qN qN 0)) (qA []))) ::
  (nat_lit 78, (Obj.mk (Value.type "code") Option.none (Data.fields (qA [(qV "whole_of" 275), (qV "whole_of" 276), (qV "/claim/cut.py" 277), (qI 48 0), (qI 2 0), (qI 0 0), (qI 0 0), (qI 3 0), (qR 73), (Value.bool Bool.true), (qI 181 0), (qR 74), qN, (qR 75), (qR 76), (qR 77), (qI 281 0), (qI 48 0), (qV "/claim/cut.py" 282)])) (qA []))) ::
  (nat_lit 79, (Obj.mk (Value.type "function") Option.none (Data.func (FuncData.mk (qS "whole_of") (qS "whole_of") (qP (qT 8)) (FuncBody.stmts (qB (qT 8))) (qK (qT 8)) 3 [] qN qN qN (qV "basicplus.values" 187) Option.none (qR 78) qN 0)) (qA []))) ::
  (nat_lit 80, (Obj.mk (Value.type "tuple") Option.none (Data.seq (qA []) 0) (qA []))) ::
  (nat_lit 81, (Obj.mk qN Option.none (Data.fields (qA [])) (qA []))) ::
  (nat_lit 82, (Obj.mk (Value.type "tuple") Option.none (Data.seq (qA [(qV "value" 287), (qV "digits" 288)]) 0) (qA []))) ::
  (nat_lit 83, (Obj.mk (Value.type "tuple") Option.none (Data.seq (qA []) 0) (qA []))) ::
  (nat_lit 84, (Obj.mk qN Option.none (Data.func (FuncData.mk (qS "decimal_of") (qS "decimal_of") (qP (qT 9)) (FuncBody.stmts (qB (qT 9))) (qK (qT 9)) 0 [] qN qN qN qN Option.none qN qN 0)) (qA []))) ::
  (nat_lit 85, (Obj.mk (Value.type "code") Option.none (Data.fields (qA [(qV "decimal_of" 284), (qV "decimal_of" 285), (qV "/claim/cut.py" 286), (qI 55 0), (qI 2 0), (qI 0 0), (qI 0 0), (qI 3 0), (qR 80), (Value.bool Bool.true), (qI 181 0), (qR 81), qN, (qR 82), (qR 83), (qR 84), (qI 289 0), (qI 55 0), (qV "/claim/cut.py" 290)])) (qA []))) ::
  (nat_lit 86, (Obj.mk (Value.type "function") Option.none (Data.func (FuncData.mk (qS "decimal_of") (qS "decimal_of") (qP (qT 9)) (FuncBody.stmts (qB (qT 9))) (qK (qT 9)) 3 [] qN qN qN (qV "basicplus.values" 187) Option.none (qR 85) qN 0)) (qA []))) ::
  (nat_lit 87, (Obj.mk (Value.type "tuple") Option.none (Data.seq (qA []) 0) (qA []))) ::
  (nat_lit 88, (Obj.mk qN Option.none (Data.fields (qA [])) (qA []))) ::
  (nat_lit 89, (Obj.mk (Value.type "tuple") Option.none (Data.seq (qA [(qV "value" 295)]) 0) (qA []))) ::
  (nat_lit 90, (Obj.mk (Value.type "tuple") Option.none (Data.seq (qA []) 0) (qA []))) ::
  (nat_lit 91, (Obj.mk qN Option.none (Data.func (FuncData.mk (qS "is_nought") (qS "is_nought") (qP (qT 10)) (FuncBody.stmts (qB (qT 10))) (qK (qT 59)) 0 [] qN qN qN qN Option.none qN qN 0)) (qA []))) ::
  (nat_lit 92, (Obj.mk (Value.type "code") Option.none (Data.fields (qA [(qV "is_nought" 292), (qV "is_nought" 293), (qV "/claim/cut.py" 294), (qI 59 0), (qI 1 0), (qI 0 0), (qI 0 0), (qI 3 0), (qR 87), (Value.bool Bool.true), (qI 181 0), (qR 88), qN, (qR 89), (qR 90), (qR 91), (qI 296 0), (qI 59 0), (qV "/claim/cut.py" 297)])) (qA []))) ::
  (nat_lit 93, (Obj.mk (Value.type "function") Option.none (Data.func (FuncData.mk (qS "is_nought") (qS "is_nought") (qP (qT 10)) (FuncBody.stmts (qB (qT 10))) (qK (qT 59)) 3 [] qN qN qN (qV "basicplus.values" 187) Option.none (qR 92) qN 0)) (qA []))) ::
  (nat_lit 94, (Obj.mk (Value.type "tuple") Option.none (Data.seq (qA []) 0) (qA []))) ::
  (nat_lit 95, (Obj.mk qN Option.none (Data.fields (qA [])) (qA []))) ::
  (nat_lit 96, (Obj.mk (Value.type "tuple") Option.none (Data.seq (qA [(qV "value" 302)]) 0) (qA []))) ::
  (nat_lit 97, (Obj.mk (Value.type "tuple") Option.none (Data.seq (qA []) 0) (qA []))) ::
  (nat_lit 98, (Obj.mk qN Option.none (Data.func (FuncData.mk (qS "is_true") (qS "is_true") (qP (qT 11)) (FuncBody.stmts (qB (qT 11))) (qK (qT 11)) 0 [] qN qN qN qN Option.none qN qN 0)) (qA []))) ::
  (nat_lit 99, (Obj.mk (Value.type "code") Option.none (Data.fields (qA [(qV "is_true" 299), (qV "is_true" 300), (qV "/claim/cut.py" 301), (qI 63 0), (qI 1 0), (qI 0 0), (qI 0 0), (qI 3 0), (qR 94), (Value.bool Bool.true), (qI 181 0), (qR 95), qN, (qR 96), (qR 97), (qR 98), (qI 303 0), (qI 63 0), (qV "/claim/cut.py" 304)])) (qA []))) ::
  (nat_lit 100, (Obj.mk (Value.type "function") Option.none (Data.func (FuncData.mk (qS "is_true") (qS "is_true") (qP (qT 11)) (FuncBody.stmts (qB (qT 11))) (qK (qT 11)) 3 [] qN qN qN (qV "basicplus.values" 187) Option.none (qR 99) qN 0)) (qA []))) ::
  (nat_lit 101, (Obj.mk (Value.type "tuple") Option.none (Data.seq (qA []) 0) (qA []))) ::
  (nat_lit 102, (Obj.mk qN Option.none (Data.fields (qA [])) (qA []))) ::
  (nat_lit 103, (Obj.mk (Value.type "tuple") Option.none (Data.seq (qA [(qV "value" 309), (qV "size" 310)]) 0) (qA []))) ::
  (nat_lit 104, (Obj.mk (Value.type "tuple") Option.none (Data.seq (qA []) 0) (qA []))) ::
  (nat_lit 105, (Obj.mk qN Option.none (Data.func (FuncData.mk (qS "sign_of") (qS "sign_of") (qP (qT 12)) (FuncBody.stmts (qB (qT 12))) (qK (qT 12)) 0 [] qN qN qN qN Option.none qN qN 0)) (qA []))) ::
  (nat_lit 106, (Obj.mk (Value.type "code") Option.none (Data.fields (qA [(qV "sign_of" 306), (qV "sign_of" 307), (qV "/claim/cut.py" 308), (qI 65 0), (qI 1 0), (qI 0 0), (qI 0 0), (qI 3 0), (qR 101), (Value.bool Bool.true), (qI 181 0), (qR 102), qN, (qR 103), (qR 104), (qR 105), (qI 311 0), (qI 65 0), (qV "/claim/cut.py" 312)])) (qA []))) ::
  (nat_lit 107, (Obj.mk (Value.type "function") Option.none (Data.func (FuncData.mk (qS "sign_of") (qS "sign_of") (qP (qT 12)) (FuncBody.stmts (qB (qT 12))) (qK (qT 12)) 3 [] qN qN qN (qV "basicplus.values" 187) Option.none (qR 106) qN 0)) (qA []))) ::
  (nat_lit 108, (Obj.mk (Value.type "tuple") Option.none (Data.seq (qA []) 0) (qA []))) ::
  (nat_lit 109, (Obj.mk (Value.type "builtin_function_or_method") Option.none (Data.fields (qA [(Value.builtin "type.__prepare__"), (Value.type "type")])) (qA []))) ::
  (nat_lit 110, (Obj.mk (Value.type "dict") Option.none (Data.dict (qA [(qE P "__module__" 325 (qV "basicplus.control" 314)), (qE P "__qualname__" 327 (qV "Control" 326)), (qE P "__firstlineno__" 329 (qI 72 328)), (qE P "__init__" 337 (qR 121)), (qE P "__static_attributes__" 341 (qR 122))]) 5) (qA []))) ::
  (nat_lit 111, (Obj.mk (Value.type "tuple") Option.none (Data.seq (qA []) 0) (qA []))) ::
  (nat_lit 112, (Obj.mk qN Option.none (Data.fields (qA [(qI 74 0), (qI 4 0), (qR 120)])) (qA []))) ::
  (nat_lit 113, (Obj.mk (Value.type "code") Option.none (Data.fields (qA [(qV "Control" 320), (qV "Control" 321), (qV "/claim/cut.py" 322), (qI 72 0), (qI 0 0), (qI 0 0), (qI 0 0), (qI 0 0), (qR 111), (Value.bool Bool.false), (qI 181 0), (qR 112), qN, qN, qN, qN, (qI 323 0), (qI 72 0), (qV "/claim/cut.py" 324)])) (qA []))) ::
  (nat_lit 114, (Obj.mk (Value.type "frame") Option.none Data.plain (qA [(Option.some (qR 113)), (Option.some (qR 3)), (Option.some (qR 110)), Option.none, (Option.some (qV "basicplus.control" 314)), Option.none, (Option.some (qR 0))]))) ::
  (nat_lit 115, (Obj.mk (Value.type "tuple") Option.none (Data.seq (qA []) 0) (qA []))) ::
  (nat_lit 116, (Obj.mk qN Option.none (Data.fields (qA [])) (qA []))) ::
  (nat_lit 117, (Obj.mk (Value.type "tuple") Option.none (Data.seq (qA [(qV "self" 333), (qV "most" 334)]) 0) (qA []))) ::
  (nat_lit 118, (Obj.mk (Value.type "tuple") Option.none (Data.seq (qA []) 0) (qA []))) ::
  (nat_lit 119, (Obj.mk qN Option.none (Data.func (FuncData.mk (qS "__init__") (qS "Control.__init__") (qP (qC 15 0)) (FuncBody.stmts (qB (qC 15 0))) (qK (qC 15 0)) 0 [] qN qN qN qN Option.none qN qN 0)) (qA []))) ::
  (nat_lit 120, (Obj.mk (Value.type "code") Option.none (Data.fields (qA [(qV "__init__" 330), (qV "Control.__init__" 331), (qV "/claim/cut.py" 332), (qI 74 0), (qI 2 0), (qI 0 0), (qI 0 0), (qI 3 0), (qR 115), (Value.bool Bool.true), (qI 181 0), (qR 116), qN, (qR 117), (qR 118), (qR 119), (qI 335 0), (qI 74 0), (qV "/claim/cut.py" 336)])) (qA []))) ::
  (nat_lit 121, (Obj.mk (Value.type "function") Option.none (Data.func (FuncData.mk (qS "__init__") (qS "Control.__init__") (qP (qC 15 0)) (FuncBody.stmts (qB (qC 15 0))) (qK (qC 15 0)) 3 [] qN qN qN (qV "basicplus.control" 314) Option.none (qR 120) qN 0)) (qA []))) ::
  (nat_lit 122, (Obj.mk (Value.type "tuple") Option.none (Data.seq (qA [(qV "failed_at" 338), (qV "most" 339), (qV "pile" 340)]) 0) (qA []))) ::
  (nat_lit 123, (Obj.mk (Value.type "dict") Option.none (Data.dict (qA [(qE P "__module__" 325 (qV "basicplus.control" 314)), (qE P "__firstlineno__" 329 (qI 72 328)), (qE P "__init__" 337 (qR 121)), (qE P "__static_attributes__" 341 (qR 122)), (qE P "__dict__" 343 (qR 125)), (qE P "__weakref__" 345 (qR 126)), (qE P "__doc__" 346 qN)]) 4) (qA []))) ::
  (nat_lit 124, (Obj.mk (Value.type "type") Option.none (Data.cls (ClassData.mk (qS "Control") [(Value.type "object")] [(qR 124), (Value.type "object")] 123 (qS "Control") Bool.true [] [] Bool.false Option.none Bool.false)) (qA [Option.none, Option.none, (Option.some (qV "Control" 318)), (Option.some (qV "Control" 326)), (Option.some (Value.builtin "object.__new__")), (Option.some (Value.bool Bool.true))]))) ::
  (nat_lit 125, (Obj.mk (Value.type "getset_descriptor") Option.none (Data.fields (qA [(qV "__dict__" 342), (qR 124), (Value.builtin "function.__dict__"), (Value.builtin "function.__dict__#set")])) (qA []))) ::
  (nat_lit 126, (Obj.mk (Value.type "getset_descriptor") Option.none (Data.fields (qA [(qV "__weakref__" 344), (qR 124), (Value.builtin "ExceptionGroup.__weakref__"), qN])) (qA []))) ::
  (nat_lit 127, (Obj.mk (Value.type "super") Option.none (Data.fields (qA [(qR 124), (qR 124), (qR 124)])) (qA []))) ::
  (nat_lit 128, (Obj.mk (Value.type "builtin_function_or_method") Option.none (Data.fields (qA [(Value.builtin "object.__init_subclass__"), (qR 124)])) (qA []))) ::
  (nat_lit 129, (Obj.mk (Value.type "tuple") Option.none (Data.seq (qA []) 0) (qA []))) ::
  (nat_lit 130, (Obj.mk qN Option.none (Data.fields (qA [])) (qA []))) ::
  (nat_lit 131, (Obj.mk (Value.type "tuple") Option.none (Data.seq (qA [(qV "control" 352), (qV "entry" 353)]) 0) (qA []))) ::
  (nat_lit 132, (Obj.mk (Value.type "tuple") Option.none (Data.seq (qA []) 0) (qA []))) ::
  (nat_lit 133, (Obj.mk qN Option.none (Data.func (FuncData.mk (qS "put_upon") (qS "put_upon") (qP (qT 16)) (FuncBody.stmts (qB (qT 16))) (qK (qT 16)) 0 [] qN qN qN qN Option.none qN qN 0)) (qA []))) ::
  (nat_lit 134, (Obj.mk (Value.type "code") Option.none (Data.fields (qA [(qV "put_upon" 349), (qV "put_upon" 350), (qV "/claim/cut.py" 351), (qI 78 0), (qI 2 0), (qI 0 0), (qI 0 0), (qI 3 0), (qR 129), (Value.bool Bool.true), (qI 181 0), (qR 130), qN, (qR 131), (qR 132), (qR 133), (qI 354 0), (qI 78 0), (qV "/claim/cut.py" 355)])) (qA []))) ::
  (nat_lit 135, (Obj.mk (Value.type "function") Option.none (Data.func (FuncData.mk (qS "put_upon") (qS "put_upon") (qP (qT 16)) (FuncBody.stmts (qB (qT 16))) (qK (qT 16)) 3 [] qN qN qN (qV "basicplus.control" 314) Option.none (qR 134) qN 0)) (qA []))) ::
  (nat_lit 136, (Obj.mk (Value.type "tuple") Option.none (Data.seq (qA []) 0) (qA []))) ::
  (nat_lit 137, (Obj.mk qN Option.none (Data.fields (qA [])) (qA []))) ::
  (nat_lit 138, (Obj.mk (Value.type "tuple") Option.none (Data.seq (qA [(qV "pile" 360), (qV "at" 361)]) 0) (qA []))) ::
  (nat_lit 139, (Obj.mk (Value.type "tuple") Option.none (Data.seq (qA []) 0) (qA []))) ::
  (nat_lit 140, (Obj.mk qN Option.none (Data.func (FuncData.mk (qS "floor_of") (qS "floor_of") (qP (qT 17)) (FuncBody.stmts (qB (qT 17))) (qK (qT 17)) 0 [] qN qN qN qN Option.none qN qN 0)) (qA []))) ::
  (nat_lit 141, (Obj.mk (Value.type "code") Option.none (Data.fields (qA [(qV "floor_of" 357), (qV "floor_of" 358), (qV "/claim/cut.py" 359), (qI 82 0), (qI 1 0), (qI 0 0), (qI 0 0), (qI 3 0), (qR 136), (Value.bool Bool.true), (qI 181 0), (qR 137), qN, (qR 138), (qR 139), (qR 140), (qI 362 0), (qI 82 0), (qV "/claim/cut.py" 363)])) (qA []))) ::
  (nat_lit 142, (Obj.mk (Value.type "function") Option.none (Data.func (FuncData.mk (qS "floor_of") (qS "floor_of") (qP (qT 17)) (FuncBody.stmts (qB (qT 17))) (qK (qT 17)) 3 [] qN qN qN (qV "basicplus.control" 314) Option.none (qR 141) qN 0)) (qA []))) ::
  (nat_lit 143, (Obj.mk (Value.type "tuple") Option.none (Data.seq (qA []) 0) (qA []))) ::
  (nat_lit 144, (Obj.mk qN Option.none (Data.fields (qA [])) (qA []))) ::
  (nat_lit 145, (Obj.mk (Value.type "tuple") Option.none (Data.seq (qA [(qV "pile" 368), (qV "kind" 369), (qV "name" 370), (qV "at" 371)]) 0) (qA []))) ::
  (nat_lit 146, (Obj.mk (Value.type "tuple") Option.none (Data.seq (qA []) 0) (qA []))) ::
  (nat_lit 147, (Obj.mk qN Option.none (Data.func (FuncData.mk (qS "found_at") (qS "found_at") (qP (qT 18)) (FuncBody.stmts (qB (qT 18))) (qK (qT 18)) 0 [] qN qN qN qN Option.none qN qN 0)) (qA []))) ::
  (nat_lit 148, (Obj.mk (Value.type "code") Option.none (Data.fields (qA [(qV "found_at" 365), (qV "found_at" 366), (qV "/claim/cut.py" 367), (qI 87 0), (qI 3 0), (qI 0 0), (qI 0 0), (qI 3 0), (qR 143), (Value.bool Bool.true), (qI 181 0), (qR 144), qN, (qR 145), (qR 146), (qR 147), (qI 372 0), (qI 87 0), (qV "/claim/cut.py" 373)])) (qA []))) ::
  (nat_lit 149, (Obj.mk (Value.type "function") Option.none (Data.func (FuncData.mk (qS "found_at") (qS "found_at") (qP (qT 18)) (FuncBody.stmts (qB (qT 18))) (qK (qT 18)) 3 [] qN qN qN (qV "basicplus.control" 314) Option.none (qR 148) qN 0)) (qA []))) ::
  (nat_lit 150, (Obj.mk (Value.type "tuple") Option.none (Data.seq (qA []) 0) (qA []))) ::
  (nat_lit 151, (Obj.mk qN Option.none (Data.fields (qA [])) (qA []))) ::
  (nat_lit 152, (Obj.mk (Value.type "tuple") Option.none (Data.seq (qA [(qV "control" 378), (qV "many" 379)]) 0) (qA []))) ::
  (nat_lit 153, (Obj.mk (Value.type "tuple") Option.none (Data.seq (qA []) 0) (qA []))) ::
  (nat_lit 154, (Obj.mk qN Option.none (Data.func (FuncData.mk (qS "cut_to") (qS "cut_to") (qP (qT 19)) (FuncBody.stmts (qB (qT 19))) (qK (qT 19)) 0 [] qN qN qN qN Option.none qN qN 0)) (qA []))) ::
  (nat_lit 155, (Obj.mk (Value.type "code") Option.none (Data.fields (qA [(qV "cut_to" 375), (qV "cut_to" 376), (qV "/claim/cut.py" 377), (qI 92 0), (qI 2 0), (qI 0 0), (qI 0 0), (qI 3 0), (qR 150), (Value.bool Bool.true), (qI 181 0), (qR 151), qN, (qR 152), (qR 153), (qR 154), (qI 380 0), (qI 92 0), (qV "/claim/cut.py" 381)])) (qA []))) ::
  (nat_lit 156, (Obj.mk (Value.type "function") Option.none (Data.func (FuncData.mk (qS "cut_to") (qS "cut_to") (qP (qT 19)) (FuncBody.stmts (qB (qT 19))) (qK (qT 19)) 3 [] qN qN qN (qV "basicplus.control" 314) Option.none (qR 155) qN 0)) (qA []))) ::
  (nat_lit 157, (Obj.mk (Value.type "tuple") Option.none (Data.seq (qA []) 0) (qA []))) ::
  (nat_lit 158, (Obj.mk qN Option.none (Data.fields (qA [])) (qA []))) ::
  (nat_lit 159, (Obj.mk (Value.type "tuple") Option.none (Data.seq (qA [(qV "value" 386), (qV "limit" 387), (qV "step" 388), (qV "order" 389)]) 0) (qA []))) ::
  (nat_lit 160, (Obj.mk (Value.type "tuple") Option.none (Data.seq (qA []) 0) (qA []))) ::
  (nat_lit 161, (Obj.mk qN Option.none (Data.func (FuncData.mk (qS "is_past") (qS "is_past") (qP (qT 20)) (FuncBody.stmts (qB (qT 20))) (qK (qT 20)) 0 [] qN qN qN qN Option.none qN qN 0)) (qA []))) ::
  (nat_lit 162, (Obj.mk (Value.type "code") Option.none (Data.fields (qA [(qV "is_past" 383), (qV "is_past" 384), (qV "/claim/cut.py" 385), (qI 94 0), (qI 4 0), (qI 0 0), (qI 0 0), (qI 3 0), (qR 157), (Value.bool Bool.true), (qI 181 0), (qR 158), qN, (qR 159), (qR 160), (qR 161), (qI 390 0), (qI 94 0), (qV "/claim/cut.py" 391)])) (qA []))) ::
  (nat_lit 163, (Obj.mk (Value.type "function") Option.none (Data.func (FuncData.mk (qS "is_past") (qS "is_past") (qP (qT 20)) (FuncBody.stmts (qB (qT 20))) (qK (qT 20)) 3 [] qN qN qN (qV "basicplus.control" 314) Option.none (qR 162) qN 0)) (qA []))) ::
  (nat_lit 164, (Obj.mk (Value.type "tuple") Option.none (Data.seq (qA []) 0) (qA []))) ::
  (nat_lit 165, (Obj.mk qN Option.none (Data.fields (qA [])) (qA []))) ::
  (nat_lit 166, (Obj.mk (Value.type "tuple") Option.none (Data.seq (qA [(qV "control" 396), (qV "name" 397), (qV "place" 398), (qV "limit" 399), (qV "step" 400), (qV "at" 401)]) 0) (qA []))) ::
  (nat_lit 167, (Obj.mk (Value.type "tuple") Option.none (Data.seq (qA []) 0) (qA []))) ::
  (nat_lit 168, (Obj.mk qN Option.none (Data.func (FuncData.mk (qS "for_begin") (qS "for_begin") (qP (qT 21)) (FuncBody.stmts (qB (qT 21))) (qK (qT 21)) 0 [] qN qN qN qN Option.none qN qN 0)) (qA []))) ::
  (nat_lit 169, (Obj.mk (Value.type "code") Option.none (Data.fields (qA [(qV "for_begin" 393), (qV "for_begin" 394), (qV "/claim/cut.py" 395), (qI 96 0), (qI 5 0), (qI 0 0), (qI 0 0), (qI 3 0), (qR 164), (Value.bool Bool.true), (qI 181 0), (qR 165), qN, (qR 166), (qR 167), (qR 168), (qI 402 0), (qI 96 0), (qV "/claim/cut.py" 403)])) (qA []))) ::
  (nat_lit 170, (Obj.mk (Value.type "function") Option.none (Data.func (FuncData.mk (qS "for_begin") (qS "for_begin") (qP (qT 21)) (FuncBody.stmts (qB (qT 21))) (qK (qT 21)) 3 [] qN qN qN (qV "basicplus.control" 314) Option.none (qR 169) qN 0)) (qA []))) ::
  (nat_lit 171, (Obj.mk (Value.type "tuple") Option.none (Data.seq (qA []) 0) (qA []))) ::
  (nat_lit 172, (Obj.mk qN Option.none (Data.fields (qA [])) (qA []))) ::
  (nat_lit 173, (Obj.mk (Value.type "tuple") Option.none (Data.seq (qA [(qV "control" 408), (qV "name" 409), (qV "at" 410)]) 0) (qA []))) ::
  (nat_lit 174, (Obj.mk (Value.type "tuple") Option.none (Data.seq (qA []) 0) (qA []))) ::
  (nat_lit 175, (Obj.mk qN Option.none (Data.func (FuncData.mk (qS "for_name") (qS "for_name") (qP (qT 22)) (FuncBody.stmts (qB (qT 22))) (qK (qT 22)) 0 [] qN qN qN qN Option.none qN qN 0)) (qA []))) ::
  (nat_lit 176, (Obj.mk (Value.type "code") Option.none (Data.fields (qA [(qV "for_name" 405), (qV "for_name" 406), (qV "/claim/cut.py" 407), (qI 101 0), (qI 2 0), (qI 0 0), (qI 0 0), (qI 3 0), (qR 171), (Value.bool Bool.true), (qI 181 0), (qR 172), qN, (qR 173), (qR 174), (qR 175), (qI 411 0), (qI 101 0), (qV "/claim/cut.py" 412)])) (qA []))) ::
  (nat_lit 177, (Obj.mk (Value.type "function") Option.none (Data.func (FuncData.mk (qS "for_name") (qS "for_name") (qP (qT 22)) (FuncBody.stmts (qB (qT 22))) (qK (qT 22)) 3 [] qN qN qN (qV "basicplus.control" 314) Option.none (qR 176) qN 0)) (qA []))) ::
  (nat_lit 178, (Obj.mk (Value.type "tuple") Option.none (Data.seq (qA []) 0) (qA []))) ::
  (nat_lit 179, (Obj.mk qN Option.none (Data.fields (qA [])) (qA []))) ::
  (nat_lit 180, (Obj.mk (Value.type "tuple") Option.none (Data.seq (qA [(qV "control" 417), (qV "name" 418), (qV "value" 419), (qV "add" 420), (qV "order" 421), (qV "at" 422), (qV "kind" 423), (qV "word" 424), (qV "place" 425), (qV "limit" 426), (qV "step" 427)]) 0) (qA []))) ::
  (nat_lit 181, (Obj.mk (Value.type "tuple") Option.none (Data.seq (qA []) 0) (qA []))) ::
  (nat_lit 182, (Obj.mk qN Option.none (Data.func (FuncData.mk (qS "for_next") (qS "for_next") (qP (qT 23)) (FuncBody.stmts (qB (qT 23))) (qK (qT 23)) 0 [] qN qN qN qN Option.none qN qN 0)) (qA []))) ::
  (nat_lit 183, (Obj.mk (Value.type "code") Option.none (Data.fields (qA [(qV "for_next" 414), (qV "for_next" 415), (qV "/claim/cut.py" 416), (qI 106 0), (qI 5 0), (qI 0 0), (qI 0 0), (qI 3 0), (qR 178), (Value.bool Bool.true), (qI 181 0), (qR 179), qN, (qR 180), (qR 181), (qR 182), (qI 428 0), (qI 106 0), (qV "/claim/cut.py" 429)])) (qA []))) ::
  (nat_lit 184, (Obj.mk (Value.type "function") Option.none (Data.func (FuncData.mk (qS "for_next") (qS "for_next") (qP (qT 23)) (FuncBody.stmts (qB (qT 23))) (qK (qT 23)) 3 [] qN qN qN (qV "basicplus.control" 314) Option.none (qR 183) qN 0)) (qA []))) ::
  (nat_lit 185, (Obj.mk (Value.type "tuple") Option.none (Data.seq (qA []) 0) (qA []))) ::
  (nat_lit 186, (Obj.mk qN Option.none (Data.fields (qA [])) (qA []))) ::
  (nat_lit 187, (Obj.mk qN Option.none (Data.func (FuncData.mk (qS "while_begin") (qS "while_begin") (qP (qT 24)) (FuncBody.stmts (qB (qT 24))) (qK (qT 24)) 0 [] qN qN qN qN Option.none qN qN 0)) (qA []))) ::
  (nat_lit 188, (Obj.mk (Value.type "code") Option.none (Data.fields (qA [(qV "while_begin" 431), (qV "while_begin" 432), (qV "/claim/cut.py" 433), (qI 117 0), (qI 2 0), (qI 0 0), (qI 0 0), (qI 3 0), (qR 185), (Value.bool Bool.true), (qI 181 0), (qR 186), qN, qN, qN, (qR 187), (qI 434 0), (qI 117 0), (qV "/claim/cut.py" 435)])) (qA []))) ::
  (nat_lit 189, (Obj.mk (Value.type "function") Option.none (Data.func (FuncData.mk (qS "while_begin") (qS "while_begin") (qP (qT 24)) (FuncBody.stmts (qB (qT 24))) (qK (qT 24)) 3 [] qN qN qN (qV "basicplus.control" 314) Option.none (qR 188) qN 0)) (qA []))) ::
  (nat_lit 190, (Obj.mk (Value.type "tuple") Option.none (Data.seq (qA []) 0) (qA []))) ::
  (nat_lit 191, (Obj.mk qN Option.none (Data.fields (qA [])) (qA []))) ::
  (nat_lit 192, (Obj.mk qN Option.none (Data.func (FuncData.mk (qS "while_end") (qS "while_end") (qP (qT 25)) (FuncBody.stmts (qB (qT 25))) (qK (qT 25)) 0 [] qN qN qN qN Option.none qN qN 0)) (qA []))) ::
  (nat_lit 193, (Obj.mk (Value.type "code") Option.none (Data.fields (qA [(qV "while_end" 437), (qV "while_end" 438), (qV "/claim/cut.py" 439), (qI 124 0), (qI 2 0), (qI 0 0), (qI 0 0), (qI 3 0), (qR 190), (Value.bool Bool.true), (qI 181 0), (qR 191), qN, qN, qN, (qR 192), (qI 440 0), (qI 124 0), (qV "/claim/cut.py" 441)])) (qA []))) ::
  (nat_lit 194, (Obj.mk (Value.type "function") Option.none (Data.func (FuncData.mk (qS "while_end") (qS "while_end") (qP (qT 25)) (FuncBody.stmts (qB (qT 25))) (qK (qT 25)) 3 [] qN qN qN (qV "basicplus.control" 314) Option.none (qR 193) qN 0)) (qA []))) ::
  (nat_lit 195, (Obj.mk (Value.type "tuple") Option.none (Data.seq (qA [(qV "" 443)]) 0) (qA []))) ::
  (nat_lit 196, (Obj.mk (Value.type "tuple") Option.none (Data.seq (qA []) 0) (qA []))) ::
  (nat_lit 197, (Obj.mk qN Option.none (Data.fields (qA [])) (qA []))) ::
  (nat_lit 198, (Obj.mk (Value.type "tuple") Option.none (Data.seq (qA [(qV "control" 447), (qV "place" 448), (qV "at" 449)]) 0) (qA []))) ::
  (nat_lit 199, (Obj.mk (Value.type "tuple") Option.none (Data.seq (qA []) 0) (qA []))) ::
  (nat_lit 200, (Obj.mk qN Option.none (Data.func (FuncData.mk (qS "wend_place") (qS "wend_place") (qP (qT 26)) (FuncBody.stmts (qB (qT 26))) (qK (qT 26)) 0 [] qN qN qN qN Option.none qN qN 0)) (qA []))) ::
  (nat_lit 201, (Obj.mk (Value.type "code") Option.none (Data.fields (qA [(qV "wend_place" 444), (qV "wend_place" 445), (qV "/claim/cut.py" 446), (qI 129 0), (qI 2 0), (qI 0 0), (qI 0 0), (qI 3 0), (qR 196), (Value.bool Bool.true), (qI 181 0), (qR 197), qN, (qR 198), (qR 199), (qR 200), (qI 450 0), (qI 129 0), (qV "/claim/cut.py" 451)])) (qA []))) ::
  (nat_lit 202, (Obj.mk (Value.type "function") Option.none (Data.func (FuncData.mk (qS "wend_place") (qS "wend_place") (qP (qT 26)) (FuncBody.stmts (qB (qT 26))) (qK (qT 26)) 3 [] (qR 195) qN qN (qV "basicplus.control" 314) Option.none (qR 201) qN 0)) (qA []))) ::
  (nat_lit 203, (Obj.mk (Value.type "tuple") Option.none (Data.seq (qA []) 0) (qA []))) ::
  (nat_lit 204, (Obj.mk qN Option.none (Data.fields (qA [])) (qA []))) ::
  (nat_lit 205, (Obj.mk (Value.type "tuple") Option.none (Data.seq (qA [(qV "rows" 456), (qV "found" 457), (qV "pile" 458), (qV "at" 459), (qV "word" 460), (qV "names" 461), (qV "name" 462)]) 0) (qA []))) ::
  (nat_lit 206, (Obj.mk (Value.type "tuple") Option.none (Data.seq (qA []) 0) (qA []))) ::
  (nat_lit 207, (Obj.mk qN Option.none (Data.func (FuncData.mk (qS "loop_ends") (qS "loop_ends") (qP (qT 27)) (FuncBody.stmts (qB (qT 27))) (qK (qT 27)) 0 [] qN qN qN qN Option.none qN qN 0)) (qA []))) ::
  (nat_lit 208, (Obj.mk (Value.type "code") Option.none (Data.fields (qA [(qV "loop_ends" 453), (qV "loop_ends" 454), (qV "/claim/cut.py" 455), (qI 135 0), (qI 1 0), (qI 0 0), (qI 0 0), (qI 3 0), (qR 203), (Value.bool Bool.true), (qI 181 0), (qR 204), qN, (qR 205), (qR 206), (qR 207), (qI 463 0), (qI 135 0), (qV "/claim/cut.py" 464)])) (qA []))) ::
  (nat_lit 209, (Obj.mk (Value.type "function") Option.none (Data.func (FuncData.mk (qS "loop_ends") (qS "loop_ends") (qP (qT 27)) (FuncBody.stmts (qB (qT 27))) (qK (qT 27)) 3 [] qN qN qN (qV "basicplus.control" 314) Option.none (qR 208) qN 0)) (qA []))) ::
  (nat_lit 210, (Obj.mk (Value.type "tuple") Option.none (Data.seq (qA []) 0) (qA []))) ::
  (nat_lit 211, (Obj.mk qN Option.none (Data.fields (qA [])) (qA []))) ::
  (nat_lit 212, (Obj.mk (Value.type "tuple") Option.none (Data.seq (qA [(qV "found" 469), (qV "pile" 470), (qV "kind" 471), (qV "name" 472), (qV "place" 473), (qV "at" 474)]) 0) (qA []))) ::
  (nat_lit 213, (Obj.mk (Value.type "tuple") Option.none (Data.seq (qA []) 0) (qA []))) ::
  (nat_lit 214, (Obj.mk qN Option.none (Data.func (FuncData.mk (qS "end_loop") (qS "end_loop") (qP (qT 28)) (FuncBody.stmts (qB (qT 28))) (qK (qT 28)) 0 [] qN qN qN qN Option.none qN qN 0)) (qA []))) ::
  (nat_lit 215, (Obj.mk (Value.type "code") Option.none (Data.fields (qA [(qV "end_loop" 466), (qV "end_loop" 467), (qV "/claim/cut.py" 468), (qI 146 0), (qI 5 0), (qI 0 0), (qI 0 0), (qI 3 0), (qR 210), (Value.bool Bool.true), (qI 181 0), (qR 211), qN, (qR 212), (qR 213), (qR 214), (qI 475 0), (qI 146 0), (qV "/claim/cut.py" 476)])) (qA []))) ::
  (nat_lit 216, (Obj.mk (Value.type "function") Option.none (Data.func (FuncData.mk (qS "end_loop") (qS "end_loop") (qP (qT 28)) (FuncBody.stmts (qB (qT 28))) (qK (qT 28)) 3 [] qN qN qN (qV "basicplus.control" 314) Option.none (qR 215) qN 0)) (qA []))) ::
  (nat_lit 217, (Obj.mk (Value.type "tuple") Option.none (Data.seq (qA []) 0) (qA []))) ::
  (nat_lit 218, (Obj.mk qN Option.none (Data.fields (qA [])) (qA []))) ::
  (nat_lit 219, (Obj.mk (Value.type "tuple") Option.none (Data.seq (qA [(qV "control" 481), (qV "place" 482)]) 0) (qA []))) ::
  (nat_lit 220, (Obj.mk (Value.type "tuple") Option.none (Data.seq (qA []) 0) (qA []))) ::
  (nat_lit 221, (Obj.mk qN Option.none (Data.func (FuncData.mk (qS "gosub") (qS "gosub") (qP (qT 29)) (FuncBody.stmts (qB (qT 29))) (qK (qT 29)) 0 [] qN qN qN qN Option.none qN qN 0)) (qA []))) ::
  (nat_lit 222, (Obj.mk (Value.type "code") Option.none (Data.fields (qA [(qV "gosub" 478), (qV "gosub" 479), (qV "/claim/cut.py" 480), (qI 153 0), (qI 2 0), (qI 0 0), (qI 0 0), (qI 3 0), (qR 217), (Value.bool Bool.true), (qI 181 0), (qR 218), qN, (qR 219), (qR 220), (qR 221), (qI 483 0), (qI 153 0), (qV "/claim/cut.py" 484)])) (qA []))) ::
  (nat_lit 223, (Obj.mk (Value.type "function") Option.none (Data.func (FuncData.mk (qS "gosub") (qS "gosub") (qP (qT 29)) (FuncBody.stmts (qB (qT 29))) (qK (qT 29)) 3 [] qN qN qN (qV "basicplus.control" 314) Option.none (qR 222) qN 0)) (qA []))) ::
  (nat_lit 224, (Obj.mk (Value.type "tuple") Option.none (Data.seq (qA []) 0) (qA []))) ::
  (nat_lit 225, (Obj.mk qN Option.none (Data.fields (qA [])) (qA []))) ::
  (nat_lit 226, (Obj.mk (Value.type "tuple") Option.none (Data.seq (qA [(qV "control" 489), (qV "many" 490), (qV "place" 491)]) 0) (qA []))) ::
  (nat_lit 227, (Obj.mk (Value.type "tuple") Option.none (Data.seq (qA []) 0) (qA []))) ::
  (nat_lit 228, (Obj.mk qN Option.none (Data.func (FuncData.mk (qS "return_place") (qS "return_place") (qP (qT 30)) (FuncBody.stmts (qB (qT 30))) (qK (qT 30)) 0 [] qN qN qN qN Option.none qN qN 0)) (qA []))) ::
  (nat_lit 229, (Obj.mk (Value.type "code") Option.none (Data.fields (qA [(qV "return_place" 486), (qV "return_place" 487), (qV "/claim/cut.py" 488), (qI 155 0), (qI 1 0), (qI 0 0), (qI 0 0), (qI 3 0), (qR 224), (Value.bool Bool.true), (qI 181 0), (qR 225), qN, (qR 226), (qR 227), (qR 228), (qI 492 0), (qI 155 0), (qV "/claim/cut.py" 493)])) (qA []))) ::
  (nat_lit 230, (Obj.mk (Value.type "function") Option.none (Data.func (FuncData.mk (qS "return_place") (qS "return_place") (qP (qT 30)) (FuncBody.stmts (qB (qT 30))) (qK (qT 30)) 3 [] qN qN qN (qV "basicplus.control" 314) Option.none (qR 229) qN 0)) (qA []))) ::
  (nat_lit 231, (Obj.mk (Value.type "tuple") Option.none (Data.seq (qA []) 0) (qA []))) ::
  (nat_lit 232, (Obj.mk qN Option.none (Data.fields (qA [])) (qA []))) ::
  (nat_lit 233, (Obj.mk (Value.type "tuple") Option.none (Data.seq (qA [(qV "number" 498), (qV "many" 499)]) 0) (qA []))) ::
  (nat_lit 234, (Obj.mk (Value.type "tuple") Option.none (Data.seq (qA []) 0) (qA []))) ::
  (nat_lit 235, (Obj.mk qN Option.none (Data.func (FuncData.mk (qS "chosen") (qS "chosen") (qP (qT 31)) (FuncBody.stmts (qB (qT 31))) (qK (qT 31)) 0 [] qN qN qN qN Option.none qN qN 0)) (qA []))) ::
  (nat_lit 236, (Obj.mk (Value.type "code") Option.none (Data.fields (qA [(qV "chosen" 495), (qV "chosen" 496), (qV "/claim/cut.py" 497), (qI 162 0), (qI 2 0), (qI 0 0), (qI 0 0), (qI 3 0), (qR 231), (Value.bool Bool.true), (qI 181 0), (qR 232), qN, (qR 233), (qR 234), (qR 235), (qI 500 0), (qI 162 0), (qV "/claim/cut.py" 501)])) (qA []))) ::
  (nat_lit 237, (Obj.mk (Value.type "function") Option.none (Data.func (FuncData.mk (qS "chosen") (qS "chosen") (qP (qT 31)) (FuncBody.stmts (qB (qT 31))) (qK (qT 31)) 3 [] qN qN qN (qV "basicplus.control" 314) Option.none (qR 236) qN 0)) (qA []))) ::
  (nat_lit 238, (Obj.mk (Value.type "tuple") Option.none (Data.seq (qA []) 0) (qA []))) ::
  (nat_lit 239, (Obj.mk (Value.type "builtin_function_or_method") Option.none (Data.fields (qA [(Value.builtin "type.__prepare__"), (Value.type "type")])) (qA []))) ::
  (nat_lit 240, (Obj.mk (Value.type "dict") Option.none (Data.dict (qA [(qE P "__module__" 512 (qV "basicplus.flatten" 503)), (qE P "__qualname__" 514 (qV "Flat" 513)), (qE P "__firstlineno__" 516 (qI 167 515)), (qE P "__init__" 523 (qR 251)), (qE P "__static_attributes__" 530 (qR 252))]) 5) (qA []))) ::
  (nat_lit 241, (Obj.mk (Value.type "tuple") Option.none (Data.seq (qA []) 0) (qA []))) ::
  (nat_lit 242, (Obj.mk qN Option.none (Data.fields (qA [(qI 169 0), (qI 4 0), (qR 250)])) (qA []))) ::
  (nat_lit 243, (Obj.mk (Value.type "code") Option.none (Data.fields (qA [(qV "Flat" 507), (qV "Flat" 508), (qV "/claim/cut.py" 509), (qI 167 0), (qI 0 0), (qI 0 0), (qI 0 0), (qI 0 0), (qR 241), (Value.bool Bool.false), (qI 181 0), (qR 242), qN, qN, qN, qN, (qI 510 0), (qI 167 0), (qV "/claim/cut.py" 511)])) (qA []))) ::
  (nat_lit 244, (Obj.mk (Value.type "frame") Option.none Data.plain (qA [(Option.some (qR 243)), (Option.some (qR 3)), (Option.some (qR 240)), Option.none, (Option.some (qV "basicplus.flatten" 503)), Option.none, (Option.some (qR 0))]))) ::
  (nat_lit 245, (Obj.mk (Value.type "tuple") Option.none (Data.seq (qA []) 0) (qA []))) ::
  (nat_lit 246, (Obj.mk qN Option.none (Data.fields (qA [])) (qA []))) ::
  (nat_lit 247, (Obj.mk (Value.type "tuple") Option.none (Data.seq (qA [(qV "self" 520)]) 0) (qA []))) ::
  (nat_lit 248, (Obj.mk (Value.type "tuple") Option.none (Data.seq (qA []) 0) (qA []))) ::
  (nat_lit 249, (Obj.mk qN Option.none (Data.func (FuncData.mk (qS "__init__") (qS "Flat.__init__") (qP (qC 33 0)) (FuncBody.stmts (qB (qC 33 0))) (qK (qC 33 0)) 0 [] qN qN qN qN Option.none qN qN 0)) (qA []))) ::
  (nat_lit 250, (Obj.mk (Value.type "code") Option.none (Data.fields (qA [(qV "__init__" 517), (qV "Flat.__init__" 518), (qV "/claim/cut.py" 519), (qI 169 0), (qI 1 0), (qI 0 0), (qI 0 0), (qI 3 0), (qR 245), (Value.bool Bool.true), (qI 181 0), (qR 246), qN, (qR 247), (qR 248), (qR 249), (qI 521 0), (qI 169 0), (qV "/claim/cut.py" 522)])) (qA []))) ::
  (nat_lit 251, (Obj.mk (Value.type "function") Option.none (Data.func (FuncData.mk (qS "__init__") (qS "Flat.__init__") (qP (qC 33 0)) (FuncBody.stmts (qB (qC 33 0))) (qK (qC 33 0)) 3 [] qN qN qN (qV "basicplus.flatten" 503) Option.none (qR 250) qN 0)) (qA []))) ::
  (nat_lit 252, (Obj.mk (Value.type "tuple") Option.none (Data.seq (qA [(qV "data" 524), (qV "fns" 525), (qV "loops" 526), (qV "pairs" 527), (qV "places" 528), (qV "rows" 529)]) 0) (qA []))) ::
  (nat_lit 253, (Obj.mk (Value.type "dict") Option.none (Data.dict (qA [(qE P "__module__" 512 (qV "basicplus.flatten" 503)), (qE P "__firstlineno__" 516 (qI 167 515)), (qE P "__init__" 523 (qR 251)), (qE P "__static_attributes__" 530 (qR 252)), (qE P "__dict__" 532 (qR 255)), (qE P "__weakref__" 534 (qR 256)), (qE P "__doc__" 535 qN)]) 4) (qA []))) ::
  (nat_lit 254, (Obj.mk (Value.type "type") Option.none (Data.cls (ClassData.mk (qS "Flat") [(Value.type "object")] [(qR 254), (Value.type "object")] 253 (qS "Flat") Bool.true [] [] Bool.false Option.none Bool.false)) (qA [Option.none, Option.none, (Option.some (qV "Flat" 505)), (Option.some (qV "Flat" 513)), (Option.some (Value.builtin "object.__new__")), (Option.some (Value.bool Bool.true))]))) ::
  (nat_lit 255, (Obj.mk (Value.type "getset_descriptor") Option.none (Data.fields (qA [(qV "__dict__" 531), (qR 254), (Value.builtin "function.__dict__"), (Value.builtin "function.__dict__#set")])) (qA []))) ::
  (nat_lit 256, (Obj.mk (Value.type "getset_descriptor") Option.none (Data.fields (qA [(qV "__weakref__" 533), (qR 254), (Value.builtin "ExceptionGroup.__weakref__"), qN])) (qA []))) ::
  (nat_lit 257, (Obj.mk (Value.type "super") Option.none (Data.fields (qA [(qR 254), (qR 254), (qR 254)])) (qA []))) ::
  (nat_lit 258, (Obj.mk (Value.type "builtin_function_or_method") Option.none (Data.fields (qA [(Value.builtin "object.__init_subclass__"), (qR 254)])) (qA []))) ::
  (nat_lit 259, (Obj.mk (Value.type "tuple") Option.none (Data.seq (qA []) 0) (qA []))) ::
  (nat_lit 260, (Obj.mk qN Option.none (Data.fields (qA [])) (qA []))) ::
  (nat_lit 261, (Obj.mk (Value.type "tuple") Option.none (Data.seq (qA [(qV "flat" 541), (qV "line" 542), (qV "statement" 543)]) 0) (qA []))) ::
  (nat_lit 262, (Obj.mk (Value.type "tuple") Option.none (Data.seq (qA []) 0) (qA []))) ::
  (nat_lit 263, (Obj.mk qN Option.none (Data.func (FuncData.mk (qS "put_row_of") (qS "put_row_of") (qP (qT 34)) (FuncBody.stmts (qB (qT 34))) (qK (qT 34)) 0 [] qN qN qN qN Option.none qN qN 0)) (qA []))) ::
  (nat_lit 264, (Obj.mk (Value.type "code") Option.none (Data.fields (qA [(qV "put_row_of" 538), (qV "put_row_of" 539), (qV "/claim/cut.py" 540), (qI 176 0), (qI 3 0), (qI 0 0), (qI 0 0), (qI 3 0), (qR 259), (Value.bool Bool.true), (qI 181 0), (qR 260), qN, (qR 261), (qR 262), (qR 263), (qI 544 0), (qI 176 0), (qV "/claim/cut.py" 545)])) (qA []))) ::
  (nat_lit 265, (Obj.mk (Value.type "function") Option.none (Data.func (FuncData.mk (qS "put_row_of") (qS "put_row_of") (qP (qT 34)) (FuncBody.stmts (qB (qT 34))) (qK (qT 34)) 3 [] qN qN qN (qV "basicplus.flatten" 503) Option.none (qR 264) qN 0)) (qA []))) ::
  (nat_lit 266, (Obj.mk (Value.type "tuple") Option.none (Data.seq (qA []) 0) (qA []))) ::
  (nat_lit 267, (Obj.mk qN Option.none (Data.fields (qA [])) (qA []))) ::
  (nat_lit 268, (Obj.mk (Value.type "tuple") Option.none (Data.seq (qA [(qV "flat" 550), (qV "line" 551), (qV "statement" 552), (qV "test" 553), (qV "skip" 554)]) 0) (qA []))) ::
  (nat_lit 269, (Obj.mk (Value.type "tuple") Option.none (Data.seq (qA []) 0) (qA []))) ::
  (nat_lit 270, (Obj.mk qN Option.none (Data.func (FuncData.mk (qS "put_if") (qS "put_if") (qP (qT 35)) (FuncBody.stmts (qB (qT 35))) (qK (qT 35)) 0 [] qN qN qN qN Option.none qN qN 0)) (qA []))) ::
  (nat_lit 271, (Obj.mk (Value.type "code") Option.none (Data.fields (qA [(qV "put_if" 547), (qV "put_if" 548), (qV "/claim/cut.py" 549), (qI 179 0), (qI 3 0), (qI 0 0), (qI 0 0), (qI 3 0), (qR 266), (Value.bool Bool.true), (qI 181 0), (qR 267), qN, (qR 268), (qR 269), (qR 270), (qI 555 0), (qI 179 0), (qV "/claim/cut.py" 556)])) (qA []))) ::
  (nat_lit 272, (Obj.mk (Value.type "function") Option.none (Data.func (FuncData.mk (qS "put_if") (qS "put_if") (qP (qT 35)) (FuncBody.stmts (qB (qT 35))) (qK (qT 35)) 3 [] qN qN qN (qV "basicplus.flatten" 503) Option.none (qR 271) qN 0)) (qA []))) ::
  (nat_lit 273, (Obj.mk (Value.type "tuple") Option.none (Data.seq (qA []) 0) (qA []))) ::
  (nat_lit 274, (Obj.mk qN Option.none (Data.fields (qA [])) (qA []))) ::
  (nat_lit 275, (Obj.mk (Value.type "tuple") Option.none (Data.seq (qA [(qV "flat" 561), (qV "line" 562), (qV "statements" 563), (qV "statement" 564)]) 0) (qA []))) ::
  (nat_lit 276, (Obj.mk (Value.type "tuple") Option.none (Data.seq (qA []) 0) (qA []))) ::
  (nat_lit 277, (Obj.mk qN Option.none (Data.func (FuncData.mk (qS "put_all") (qS "put_all") (qP (qT 36)) (FuncBody.stmts (qB (qT 36))) (qK (qT 36)) 0 [] qN qN qN qN Option.none qN qN 0)) (qA []))) ::
  (nat_lit 278, (Obj.mk (Value.type "code") Option.none (Data.fields (qA [(qV "put_all" 558), (qV "put_all" 559), (qV "/claim/cut.py" 560), (qI 189 0), (qI 3 0), (qI 0 0), (qI 0 0), (qI 3 0), (qR 273), (Value.bool Bool.true), (qI 181 0), (qR 274), qN, (qR 275), (qR 276), (qR 277), (qI 565 0), (qI 189 0), (qV "/claim/cut.py" 566)])) (qA []))) ::
  (nat_lit 279, (Obj.mk (Value.type "function") Option.none (Data.func (FuncData.mk (qS "put_all") (qS "put_all") (qP (qT 36)) (FuncBody.stmts (qB (qT 36))) (qK (qT 36)) 3 [] qN qN qN (qV "basicplus.flatten" 503) Option.none (qR 278) qN 0)) (qA []))) ::
  (nat_lit 280, (Obj.mk (Value.type "tuple") Option.none (Data.seq (qA []) 0) (qA []))) ::
  (nat_lit 281, (Obj.mk qN Option.none (Data.fields (qA [])) (qA []))) ::
  (nat_lit 282, (Obj.mk (Value.type "tuple") Option.none (Data.seq (qA [(qV "flat" 571), (qV "whiles" 572), (qV "fors" 573), (qV "heads" 574), (qV "at" 575), (qV "pair" 576), (qV "line" 577), (qV "statement" 578), (qV "word" 579), (qV "text" 580)]) 0) (qA []))) ::
  (nat_lit 283, (Obj.mk (Value.type "tuple") Option.none (Data.seq (qA []) 0) (qA []))) ::
  (nat_lit 284, (Obj.mk qN Option.none (Data.func (FuncData.mk (qS "gather") (qS "gather") (qP (qT 37)) (FuncBody.stmts (qB (qT 37))) (qK (qT 37)) 0 [] qN qN qN qN Option.none qN qN 0)) (qA []))) ::
  (nat_lit 285, (Obj.mk (Value.type "code") Option.none (Data.fields (qA [(qV "gather" 568), (qV "gather" 569), (qV "/claim/cut.py" 570), (qI 195 0), (qI 1 0), (qI 0 0), (qI 0 0), (qI 3 0), (qR 280), (Value.bool Bool.true), (qI 181 0), (qR 281), qN, (qR 282), (qR 283), (qR 284), (qI 581 0), (qI 195 0), (qV "/claim/cut.py" 582)])) (qA []))) ::
  (nat_lit 286, (Obj.mk (Value.type "function") Option.none (Data.func (FuncData.mk (qS "gather") (qS "gather") (qP (qT 37)) (FuncBody.stmts (qB (qT 37))) (qK (qT 37)) 3 [] qN qN qN (qV "basicplus.flatten" 503) Option.none (qR 285) qN 0)) (qA []))) ::
  (nat_lit 287, (Obj.mk (Value.type "tuple") Option.none (Data.seq (qA []) 0) (qA []))) ::
  (nat_lit 288, (Obj.mk qN Option.none (Data.fields (qA [])) (qA []))) ::
  (nat_lit 289, (Obj.mk (Value.type "tuple") Option.none (Data.seq (qA [(qV "flat" 587), (qV "open_rows" 588), (qV "at" 589), (qV "begin" 590)]) 0) (qA []))) ::
  (nat_lit 290, (Obj.mk (Value.type "tuple") Option.none (Data.seq (qA []) 0) (qA []))) ::
  (nat_lit 291, (Obj.mk qN Option.none (Data.func (FuncData.mk (qS "join_rows") (qS "join_rows") (qP (qT 38)) (FuncBody.stmts (qB (qT 38))) (qK (qT 38)) 0 [] qN qN qN qN Option.none qN qN 0)) (qA []))) ::
  (nat_lit 292, (Obj.mk (Value.type "code") Option.none (Data.fields (qA [(qV "join_rows" 584), (qV "join_rows" 585), (qV "/claim/cut.py" 586), (qI 217 0), (qI 3 0), (qI 0 0), (qI 0 0), (qI 3 0), (qR 287), (Value.bool Bool.true), (qI 181 0), (qR 288), qN, (qR 289), (qR 290), (qR 291), (qI 591 0), (qI 217 0), (qV "/claim/cut.py" 592)])) (qA []))) ::
  (nat_lit 293, (Obj.mk (Value.type "function") Option.none (Data.func (FuncData.mk (qS "join_rows") (qS "join_rows") (qP (qT 38)) (FuncBody.stmts (qB (qT 38))) (qK (qT 38)) 3 [] qN qN qN (qV "basicplus.flatten" 503) Option.none (qR 292) qN 0)) (qA []))) ::
  (nat_lit 294, (Obj.mk (Value.type "tuple") Option.none (Data.seq (qA []) 0) (qA []))) ::
  (nat_lit 295, (Obj.mk qN Option.none (Data.fields (qA [])) (qA []))) ::
  (nat_lit 296, (Obj.mk (Value.type "tuple") Option.none (Data.seq (qA [(qV "flat" 597), (qV "fors" 598), (qV "at" 599), (qV "many" 600), (qV "which" 601)]) 0) (qA []))) ::
  (nat_lit 297, (Obj.mk (Value.type "tuple") Option.none (Data.seq (qA []) 0) (qA []))) ::
  (nat_lit 298, (Obj.mk qN Option.none (Data.func (FuncData.mk (qS "end_loops") (qS "end_loops") (qP (qT 39)) (FuncBody.stmts (qB (qT 39))) (qK (qT 39)) 0 [] qN qN qN qN Option.none qN qN 0)) (qA []))) ::
  (nat_lit 299, (Obj.mk (Value.type "code") Option.none (Data.fields (qA [(qV "end_loops" 594), (qV "end_loops" 595), (qV "/claim/cut.py" 596), (qI 222 0), (qI 4 0), (qI 0 0), (qI 0 0), (qI 3 0), (qR 294), (Value.bool Bool.true), (qI 181 0), (qR 295), qN, (qR 296), (qR 297), (qR 298), (qI 602 0), (qI 222 0), (qV "/claim/cut.py" 603)])) (qA []))) ::
  (nat_lit 300, (Obj.mk (Value.type "function") Option.none (Data.func (FuncData.mk (qS "end_loops") (qS "end_loops") (qP (qT 39)) (FuncBody.stmts (qB (qT 39))) (qK (qT 39)) 3 [] qN qN qN (qV "basicplus.flatten" 503) Option.none (qR 299) qN 0)) (qA []))) ::
  (nat_lit 301, (Obj.mk (Value.type "tuple") Option.none (Data.seq (qA []) 0) (qA []))) ::
  (nat_lit 302, (Obj.mk qN Option.none (Data.fields (qA [])) (qA []))) ::
  (nat_lit 303, (Obj.mk (Value.type "tuple") Option.none (Data.seq (qA [(qV "parsed" 608), (qV "flat" 609), (qV "line" 610), (qV "statements" 611)]) 0) (qA []))) ::
  (nat_lit 304, (Obj.mk (Value.type "tuple") Option.none (Data.seq (qA []) 0) (qA []))) ::
  (nat_lit 305, (Obj.mk qN Option.none (Data.func (FuncData.mk (qS "flatten") (qS "flatten") (qP (qT 40)) (FuncBody.stmts (qB (qT 40))) (qK (qT 40)) 0 [] qN qN qN qN Option.none qN qN 0)) (qA []))) ::
  (nat_lit 306, (Obj.mk (Value.type "code") Option.none (Data.fields (qA [(qV "flatten" 605), (qV "flatten" 606), (qV "/claim/cut.py" 607), (qI 226 0), (qI 1 0), (qI 0 0), (qI 0 0), (qI 3 0), (qR 301), (Value.bool Bool.true), (qI 181 0), (qR 302), qN, (qR 303), (qR 304), (qR 305), (qI 612 0), (qI 226 0), (qV "/claim/cut.py" 613)])) (qA []))) ::
  (nat_lit 307, (Obj.mk (Value.type "function") Option.none (Data.func (FuncData.mk (qS "flatten") (qS "flatten") (qP (qT 40)) (FuncBody.stmts (qB (qT 40))) (qK (qT 40)) 3 [] qN qN qN (qV "basicplus.flatten" 503) Option.none (qR 306) qN 0)) (qA []))) ::
  (nat_lit 308, (Obj.mk (Value.type "tuple") Option.none (Data.seq (qA []) 0) (qA []))) ::
  (nat_lit 309, (Obj.mk qN Option.none (Data.fields (qA [])) (qA []))) ::
  (nat_lit 310, (Obj.mk (Value.type "tuple") Option.none (Data.seq (qA [(qV "flat" 618), (qV "line" 619)]) 0) (qA []))) ::
  (nat_lit 311, (Obj.mk (Value.type "tuple") Option.none (Data.seq (qA []) 0) (qA []))) ::
  (nat_lit 312, (Obj.mk qN Option.none (Data.func (FuncData.mk (qS "place_of") (qS "place_of") (qP (qT 41)) (FuncBody.stmts (qB (qT 41))) (qK (qT 41)) 0 [] qN qN qN qN Option.none qN qN 0)) (qA []))) ::
  (nat_lit 313, (Obj.mk (Value.type "code") Option.none (Data.fields (qA [(qV "place_of" 615), (qV "place_of" 616), (qV "/claim/cut.py" 617), (qI 235 0), (qI 2 0), (qI 0 0), (qI 0 0), (qI 3 0), (qR 308), (Value.bool Bool.true), (qI 181 0), (qR 309), qN, (qR 310), (qR 311), (qR 312), (qI 620 0), (qI 235 0), (qV "/claim/cut.py" 621)])) (qA []))) ::
  (nat_lit 314, (Obj.mk (Value.type "function") Option.none (Data.func (FuncData.mk (qS "place_of") (qS "place_of") (qP (qT 41)) (FuncBody.stmts (qB (qT 41))) (qK (qT 41)) 3 [] qN qN qN (qV "basicplus.flatten" 503) Option.none (qR 313) qN 0)) (qA []))) ::
  (nat_lit 315, (Obj.mk (Value.type "tuple") Option.none (Data.seq (qA []) 0) (qA []))) ::
  (nat_lit 316, (Obj.mk qN Option.none (Data.fields (qA [])) (qA []))) ::
  (nat_lit 317, (Obj.mk (Value.type "tuple") Option.none (Data.seq (qA [(qV "flat" 626), (qV "row" 627)]) 0) (qA []))) ::
  (nat_lit 318, (Obj.mk (Value.type "tuple") Option.none (Data.seq (qA []) 0) (qA []))) ::
  (nat_lit 319, (Obj.mk qN Option.none (Data.func (FuncData.mk (qS "line_of") (qS "line_of") (qP (qT 42)) (FuncBody.stmts (qB (qT 42))) (qK (qT 42)) 0 [] qN qN qN qN Option.none qN qN 0)) (qA []))) ::
  (nat_lit 320, (Obj.mk (Value.type "code") Option.none (Data.fields (qA [(qV "line_of" 623), (qV "line_of" 624), (qV "/claim/cut.py" 625), (qI 239 0), (qI 2 0), (qI 0 0), (qI 0 0), (qI 3 0), (qR 315), (Value.bool Bool.true), (qI 181 0), (qR 316), qN, (qR 317), (qR 318), (qR 319), (qI 628 0), (qI 239 0), (qV "/claim/cut.py" 629)])) (qA []))) ::
  (nat_lit 321, (Obj.mk (Value.type "function") Option.none (Data.func (FuncData.mk (qS "line_of") (qS "line_of") (qP (qT 42)) (FuncBody.stmts (qB (qT 42))) (qK (qT 42)) 3 [] qN qN qN (qV "basicplus.flatten" 503) Option.none (qR 320) qN 0)) (qA []))) ::
  (nat_lit 322, (Obj.mk (Value.type "tuple") Option.none (Data.seq (qA []) 0) (qA []))) ::
  (nat_lit 323, (Obj.mk qN Option.none (Data.fields (qA [])) (qA []))) ::
  (nat_lit 324, (Obj.mk (Value.type "tuple") Option.none (Data.seq (qA [(qV "flat" 634), (qV "row" 635)]) 0) (qA []))) ::
  (nat_lit 325, (Obj.mk (Value.type "tuple") Option.none (Data.seq (qA []) 0) (qA []))) ::
  (nat_lit 326, (Obj.mk qN Option.none (Data.func (FuncData.mk (qS "end_of_while") (qS "end_of_while") (qP (qT 43)) (FuncBody.stmts (qB (qT 43))) (qK (qT 44)) 0 [] qN qN qN qN Option.none qN qN 0)) (qA []))) ::
  (nat_lit 327, (Obj.mk (Value.type "code") Option.none (Data.fields (qA [(qV "end_of_while" 631), (qV "end_of_while" 632), (qV "/claim/cut.py" 633), (qI 241 0), (qI 2 0), (qI 0 0), (qI 0 0), (qI 3 0), (qR 322), (Value.bool Bool.true), (qI 181 0), (qR 323), qN, (qR 324), (qR 325), (qR 326), (qI 636 0), (qI 241 0), (qV "/claim/cut.py" 637)])) (qA []))) ::
  (nat_lit 328, (Obj.mk (Value.type "function") Option.none (Data.func (FuncData.mk (qS "end_of_while") (qS "end_of_while") (qP (qT 43)) (FuncBody.stmts (qB (qT 43))) (qK (qT 44)) 3 [] qN qN qN (qV "basicplus.flatten" 503) Option.none (qR 327) qN 0)) (qA []))) ::
  (nat_lit 329, (Obj.mk (Value.type "tuple") Option.none (Data.seq (qA []) 0) (qA []))) ::
  (nat_lit 330, (Obj.mk qN Option.none (Data.fields (qA [])) (qA []))) ::
  (nat_lit 331, (Obj.mk (Value.type "tuple") Option.none (Data.seq (qA [(qV "flat" 642), (qV "row" 643)]) 0) (qA []))) ::
  (nat_lit 332, (Obj.mk (Value.type "tuple") Option.none (Data.seq (qA []) 0) (qA []))) ::
  (nat_lit 333, (Obj.mk qN Option.none (Data.func (FuncData.mk (qS "next_of_for") (qS "next_of_for") (qP (qT 44)) (FuncBody.stmts (qB (qT 44))) (qK (qT 44)) 0 [] qN qN qN qN Option.none qN qN 0)) (qA []))) ::
  (nat_lit 334, (Obj.mk (Value.type "code") Option.none (Data.fields (qA [(qV "next_of_for" 639), (qV "next_of_for" 640), (qV "/claim/cut.py" 641), (qI 245 0), (qI 2 0), (qI 0 0), (qI 0 0), (qI 3 0), (qR 329), (Value.bool Bool.true), (qI 181 0), (qR 330), qN, (qR 331), (qR 332), (qR 333), (qI 644 0), (qI 245 0), (qV "/claim/cut.py" 645)])) (qA []))) ::
  (nat_lit 335, (Obj.mk (Value.type "function") Option.none (Data.func (FuncData.mk (qS "next_of_for") (qS "next_of_for") (qP (qT 44)) (FuncBody.stmts (qB (qT 44))) (qK (qT 44)) 3 [] qN qN qN (qV "basicplus.flatten" 503) Option.none (qR 334) qN 0)) (qA []))) ::
  (nat_lit 336, (Obj.mk (Value.type "tuple") Option.none (Data.seq (qA [(qI 1 649), (qI 0 650)]) 0) (qA []))) ::
  (nat_lit 337, (Obj.mk (Value.type "tuple") Option.none (Data.seq (qA []) 0) (qA []))) ::
  (nat_lit 338, (Obj.mk qN Option.none (Data.fields (qA [])) (qA []))) ::
  (nat_lit 339, (Obj.mk (Value.type "tuple") Option.none (Data.seq (qA [(qV "a" 657)]) 0) (qA []))) ::
  (nat_lit 340, (Obj.mk (Value.type "tuple") Option.none (Data.seq (qA []) 0) (qA []))) ::
  (nat_lit 341, (Obj.mk qN Option.none (Data.func (FuncData.mk (qS "d_negated") (qS "d_negated") (qP (qT 48)) (FuncBody.stmts (qB (qT 48))) (qK (qT 48)) 0 [] qN qN qN qN Option.none qN qN 0)) (qA []))) ::
  (nat_lit 342, (Obj.mk (Value.type "code") Option.none (Data.fields (qA [(qV "d_negated" 654), (qV "d_negated" 655), (qV "/claim/cut.py" 656), (qI 252 0), (qI 1 0), (qI 0 0), (qI 0 0), (qI 3 0), (qR 337), (Value.bool Bool.true), (qI 181 0), (qR 338), qN, (qR 339), (qR 340), (qR 341), (qI 658 0), (qI 252 0), (qV "/claim/cut.py" 659)])) (qA []))) ::
  (nat_lit 343, (Obj.mk (Value.type "function") Option.none (Data.func (FuncData.mk (qS "d_negated") (qS "d_negated") (qP (qT 48)) (FuncBody.stmts (qB (qT 48))) (qK (qT 48)) 3 [] qN qN qN (qV "basicplus.decimals" 647) Option.none (qR 342) qN 0)) (qA []))) ::
  (nat_lit 344, (Obj.mk (Value.type "tuple") Option.none (Data.seq (qA []) 0) (qA []))) ::
  (nat_lit 345, (Obj.mk qN Option.none (Data.fields (qA [])) (qA []))) ::
  (nat_lit 346, (Obj.mk (Value.type "tuple") Option.none (Data.seq (qA [(qV "a" 664), (qV "b" 665), (qV "least" 666)]) 0) (qA []))) ::
  (nat_lit 347, (Obj.mk (Value.type "tuple") Option.none (Data.seq (qA []) 0) (qA []))) ::
  (nat_lit 348, (Obj.mk qN Option.none (Data.func (FuncData.mk (qS "alike") (qS "alike") (qP (qT 49)) (FuncBody.stmts (qB (qT 49))) (qK (qT 49)) 0 [] qN qN qN qN Option.none qN qN 0)) (qA []))) ::
  (nat_lit 349, (Obj.mk (Value.type "code") Option.none (Data.fields (qA [(qV "alike" 661), (qV "alike" 662), (qV "/claim/cut.py" 663), (qI 254 0), (qI 2 0), (qI 0 0), (qI 0 0), (qI 3 0), (qR 344), (Value.bool Bool.true), (qI 181 0), (qR 345), qN, (qR 346), (qR 347), (qR 348), (qI 667 0), (qI 254 0), (qV "/claim/cut.py" 668)])) (qA []))) ::
  (nat_lit 350, (Obj.mk (Value.type "function") Option.none (Data.func (FuncData.mk (qS "alike") (qS "alike") (qP (qT 49)) (FuncBody.stmts (qB (qT 49))) (qK (qT 49)) 3 [] qN qN qN (qV "basicplus.decimals" 647) Option.none (qR 349) qN 0)) (qA []))) ::
  (nat_lit 351, (Obj.mk (Value.type "tuple") Option.none (Data.seq (qA []) 0) (qA []))) ::
  (nat_lit 352, (Obj.mk qN Option.none (Data.fields (qA [])) (qA []))) ::
  (nat_lit 353, (Obj.mk (Value.type "tuple") Option.none (Data.seq (qA [(qV "a" 673), (qV "b" 674), (qV "digits" 675), (qV "one" 676), (qV "other" 677), (qV "exponent" 678)]) 0) (qA []))) ::
  (nat_lit 354, (Obj.mk (Value.type "tuple") Option.none (Data.seq (qA []) 0) (qA []))) ::
  (nat_lit 355, (Obj.mk qN Option.none (Data.func (FuncData.mk (qS "d_add") (qS "d_add") (qP (qT 50)) (FuncBody.stmts (qB (qT 50))) (qK (qT 50)) 0 [] qN qN qN qN Option.none qN qN 0)) (qA []))) ::
  (nat_lit 356, (Obj.mk (Value.type "code") Option.none (Data.fields (qA [(qV "d_add" 670), (qV "d_add" 671), (qV "/claim/cut.py" 672), (qI 257 0), (qI 3 0), (qI 0 0), (qI 0 0), (qI 3 0), (qR 351), (Value.bool Bool.true), (qI 181 0), (qR 352), qN, (qR 353), (qR 354), (qR 355), (qI 679 0), (qI 257 0), (qV "/claim/cut.py" 680)])) (qA []))) ::
  (nat_lit 357, (Obj.mk (Value.type "function") Option.none (Data.func (FuncData.mk (qS "d_add") (qS "d_add") (qP (qT 50)) (FuncBody.stmts (qB (qT 50))) (qK (qT 50)) 3 [] qN qN qN (qV "basicplus.decimals" 647) Option.none (qR 356) qN 0)) (qA []))) ::
  (nat_lit 358, (Obj.mk (Value.type "tuple") Option.none (Data.seq (qA []) 0) (qA []))) ::
  (nat_lit 359, (Obj.mk qN Option.none (Data.fields (qA [])) (qA []))) ::
  (nat_lit 360, (Obj.mk (Value.type "tuple") Option.none (Data.seq (qA [(qV "a" 685), (qV "b" 686), (qV "digits" 687)]) 0) (qA []))) ::
  (nat_lit 361, (Obj.mk (Value.type "tuple") Option.none (Data.seq (qA []) 0) (qA []))) ::
  (nat_lit 362, (Obj.mk qN Option.none (Data.func (FuncData.mk (qS "d_sub") (qS "d_sub") (qP (qT 51)) (FuncBody.stmts (qB (qT 51))) (qK (qT 51)) 0 [] qN qN qN qN Option.none qN qN 0)) (qA []))) ::
  (nat_lit 363, (Obj.mk (Value.type "code") Option.none (Data.fields (qA [(qV "d_sub" 682), (qV "d_sub" 683), (qV "/claim/cut.py" 684), (qI 260 0), (qI 3 0), (qI 0 0), (qI 0 0), (qI 3 0), (qR 358), (Value.bool Bool.true), (qI 181 0), (qR 359), qN, (qR 360), (qR 361), (qR 362), (qI 688 0), (qI 260 0), (qV "/claim/cut.py" 689)])) (qA []))) ::
  (nat_lit 364, (Obj.mk (Value.type "function") Option.none (Data.func (FuncData.mk (qS "d_sub") (qS "d_sub") (qP (qT 51)) (FuncBody.stmts (qB (qT 51))) (qK (qT 51)) 3 [] qN qN qN (qV "basicplus.decimals" 647) Option.none (qR 363) qN 0)) (qA []))) ::
  (nat_lit 365, (Obj.mk (Value.type "tuple") Option.none (Data.seq (qA []) 0) (qA []))) ::
  (nat_lit 366, (Obj.mk qN Option.none (Data.fields (qA [])) (qA []))) ::
  (nat_lit 367, (Obj.mk (Value.type "tuple") Option.none (Data.seq (qA [(qV "a" 694), (qV "b" 695), (qV "digits" 696)]) 0) (qA []))) ::
  (nat_lit 368, (Obj.mk (Value.type "tuple") Option.none (Data.seq (qA []) 0) (qA []))) ::
  (nat_lit 369, (Obj.mk qN Option.none (Data.func (FuncData.mk (qS "d_mul") (qS "d_mul") (qP (qT 52)) (FuncBody.stmts (qB (qT 52))) (qK (qT 52)) 0 [] qN qN qN qN Option.none qN qN 0)) (qA []))) ::
  (nat_lit 370, (Obj.mk (Value.type "code") Option.none (Data.fields (qA [(qV "d_mul" 691), (qV "d_mul" 692), (qV "/claim/cut.py" 693), (qI 262 0), (qI 3 0), (qI 0 0), (qI 0 0), (qI 3 0), (qR 365), (Value.bool Bool.true), (qI 181 0), (qR 366), qN, (qR 367), (qR 368), (qR 369), (qI 697 0), (qI 262 0), (qV "/claim/cut.py" 698)])) (qA []))) ::
  (nat_lit 371, (Obj.mk (Value.type "function") Option.none (Data.func (FuncData.mk (qS "d_mul") (qS "d_mul") (qP (qT 52)) (FuncBody.stmts (qB (qT 52))) (qK (qT 52)) 3 [] qN qN qN (qV "basicplus.decimals" 647) Option.none (qR 370) qN 0)) (qA []))) ::
  (nat_lit 372, (Obj.mk (Value.type "tuple") Option.none (Data.seq (qA []) 0) (qA []))) ::
  (nat_lit 373, (Obj.mk qN Option.none (Data.fields (qA [])) (qA []))) ::
  (nat_lit 374, (Obj.mk (Value.type "tuple") Option.none (Data.seq (qA [(qV "whole" 703), (qV "rest" 704), (qV "exponent" 705)]) 0) (qA []))) ::
  (nat_lit 375, (Obj.mk (Value.type "tuple") Option.none (Data.seq (qA []) 0) (qA []))) ::
  (nat_lit 376, (Obj.mk qN Option.none (Data.func (FuncData.mk (qS "with_rest") (qS "with_rest") (qP (qT 53)) (FuncBody.stmts (qB (qT 53))) (qK (qT 53)) 0 [] qN qN qN qN Option.none qN qN 0)) (qA []))) ::
  (nat_lit 377, (Obj.mk (Value.type "code") Option.none (Data.fields (qA [(qV "with_rest" 700), (qV "with_rest" 701), (qV "/claim/cut.py" 702), (qI 264 0), (qI 3 0), (qI 0 0), (qI 0 0), (qI 3 0), (qR 372), (Value.bool Bool.true), (qI 181 0), (qR 373), qN, (qR 374), (qR 375), (qR 376), (qI 706 0), (qI 264 0), (qV "/claim/cut.py" 707)])) (qA []))) ::
  (nat_lit 378, (Obj.mk (Value.type "function") Option.none (Data.func (FuncData.mk (qS "with_rest") (qS "with_rest") (qP (qT 53)) (FuncBody.stmts (qB (qT 53))) (qK (qT 53)) 3 [] qN qN qN (qV "basicplus.decimals" 647) Option.none (qR 377) qN 0)) (qA []))) ::
  (nat_lit 379, (Obj.mk (Value.type "tuple") Option.none (Data.seq (qA []) 0) (qA []))) ::
  (nat_lit 380, (Obj.mk qN Option.none (Data.fields (qA [])) (qA []))) ::
  (nat_lit 381, (Obj.mk (Value.type "tuple") Option.none (Data.seq (qA [(qV "a" 712), (qV "b" 713), (qV "digits" 714), (qV "size" 715), (qV "below" 716), (qV "places" 717), (qV "whole" 718), (qV "exponent" 719)]) 0) (qA []))) ::
  (nat_lit 382, (Obj.mk (Value.type "tuple") Option.none (Data.seq (qA []) 0) (qA []))) ::
  (nat_lit 383, (Obj.mk qN Option.none (Data.func (FuncData.mk (qS "d_div") (qS "d_div") (qP (qT 54)) (FuncBody.stmts (qB (qT 54))) (qK (qT 54)) 0 [] qN qN qN qN Option.none qN qN 0)) (qA []))) ::
  (nat_lit 384, (Obj.mk (Value.type "code") Option.none (Data.fields (qA [(qV "d_div" 709), (qV "d_div" 710), (qV "/claim/cut.py" 711), (qI 266 0), (qI 3 0), (qI 0 0), (qI 0 0), (qI 3 0), (qR 379), (Value.bool Bool.true), (qI 181 0), (qR 380), qN, (qR 381), (qR 382), (qR 383), (qI 720 0), (qI 266 0), (qV "/claim/cut.py" 721)])) (qA []))) ::
  (nat_lit 385, (Obj.mk (Value.type "function") Option.none (Data.func (FuncData.mk (qS "d_div") (qS "d_div") (qP (qT 54)) (FuncBody.stmts (qB (qT 54))) (qK (qT 54)) 3 [] qN qN qN (qV "basicplus.decimals" 647) Option.none (qR 384) qN 0)) (qA []))) ::
  (nat_lit 386, (Obj.mk (Value.type "tuple") Option.none (Data.seq (qA []) 0) (qA []))) ::
  (nat_lit 387, (Obj.mk qN Option.none (Data.fields (qA [])) (qA []))) ::
  (nat_lit 388, (Obj.mk (Value.type "tuple") Option.none (Data.seq (qA [(qV "a" 726), (qV "b" 727), (qV "one" 728), (qV "other" 729), (qV "exponent" 730)]) 0) (qA []))) ::
  (nat_lit 389, (Obj.mk (Value.type "tuple") Option.none (Data.seq (qA []) 0) (qA []))) ::
  (nat_lit 390, (Obj.mk qN Option.none (Data.func (FuncData.mk (qS "d_compare") (qS "d_compare") (qP (qT 55)) (FuncBody.stmts (qB (qT 55))) (qK (qT 55)) 0 [] qN qN qN qN Option.none qN qN 0)) (qA []))) ::
  (nat_lit 391, (Obj.mk (Value.type "code") Option.none (Data.fields (qA [(qV "d_compare" 723), (qV "d_compare" 724), (qV "/claim/cut.py" 725), (qI 274 0), (qI 2 0), (qI 0 0), (qI 0 0), (qI 3 0), (qR 386), (Value.bool Bool.true), (qI 181 0), (qR 387), qN, (qR 388), (qR 389), (qR 390), (qI 731 0), (qI 274 0), (qV "/claim/cut.py" 732)])) (qA []))) ::
  (nat_lit 392, (Obj.mk (Value.type "function") Option.none (Data.func (FuncData.mk (qS "d_compare") (qS "d_compare") (qP (qT 55)) (FuncBody.stmts (qB (qT 55))) (qK (qT 55)) 3 [] qN qN qN (qV "basicplus.decimals" 647) Option.none (qR 391) qN 0)) (qA []))) ::
  (nat_lit 393, (Obj.mk (Value.type "tuple") Option.none (Data.seq (qA []) 0) (qA []))) ::
  (nat_lit 394, (Obj.mk qN Option.none (Data.fields (qA [])) (qA []))) ::
  (nat_lit 395, (Obj.mk (Value.type "tuple") Option.none (Data.seq (qA [(qV "a" 737), (qV "n" 738), (qV "digits" 739), (qV "work" 740), (qV "found" 741), (qV "left" 742)]) 0) (qA []))) ::
  (nat_lit 396, (Obj.mk (Value.type "tuple") Option.none (Data.seq (qA []) 0) (qA []))) ::
  (nat_lit 397, (Obj.mk qN Option.none (Data.func (FuncData.mk (qS "d_power") (qS "d_power") (qP (qT 56)) (FuncBody.stmts (qB (qT 56))) (qK (qT 56)) 0 [] qN qN qN qN Option.none qN qN 0)) (qA []))) ::
  (nat_lit 398, (Obj.mk (Value.type "code") Option.none (Data.fields (qA [(qV "d_power" 734), (qV "d_power" 735), (qV "/claim/cut.py" 736), (qI 277 0), (qI 3 0), (qI 0 0), (qI 0 0), (qI 3 0), (qR 393), (Value.bool Bool.true), (qI 181 0), (qR 394), qN, (qR 395), (qR 396), (qR 397), (qI 743 0), (qI 277 0), (qV "/claim/cut.py" 744)])) (qA []))) ::
  (nat_lit 399, (Obj.mk (Value.type "function") Option.none (Data.func (FuncData.mk (qS "d_power") (qS "d_power") (qP (qT 56)) (FuncBody.stmts (qB (qT 56))) (qK (qT 56)) 3 [] qN qN qN (qV "basicplus.decimals" 647) Option.none (qR 398) qN 0)) (qA []))) ::
  (nat_lit 400, (Obj.mk (Value.type "tuple") Option.none (Data.seq (qA []) 0) (qA []))) ::
  (nat_lit 401, (Obj.mk qN Option.none (Data.fields (qA [])) (qA []))) ::
  (nat_lit 402, (Obj.mk (Value.type "tuple") Option.none (Data.seq (qA [(qV "a" 749), (qV "work" 750)]) 0) (qA []))) ::
  (nat_lit 403, (Obj.mk (Value.type "tuple") Option.none (Data.seq (qA []) 0) (qA []))) ::
  (nat_lit 404, (Obj.mk qN Option.none (Data.func (FuncData.mk (qS "square_or_end") (qS "square_or_end") (qP (qT 57)) (FuncBody.stmts (qB (qT 57))) (qK (qT 57)) 0 [] qN qN qN qN Option.none qN qN 0)) (qA []))) ::
  (nat_lit 405, (Obj.mk (Value.type "code") Option.none (Data.fields (qA [(qV "square_or_end" 746), (qV "square_or_end" 747), (qV "/claim/cut.py" 748), (qI 291 0), (qI 2 0), (qI 0 0), (qI 0 0), (qI 3 0), (qR 400), (Value.bool Bool.true), (qI 181 0), (qR 401), qN, (qR 402), (qR 403), (qR 404), (qI 751 0), (qI 291 0), (qV "/claim/cut.py" 752)])) (qA []))) ::
  (nat_lit 406, (Obj.mk (Value.type "function") Option.none (Data.func (FuncData.mk (qS "square_or_end") (qS "square_or_end") (qP (qT 57)) (FuncBody.stmts (qB (qT 57))) (qK (qT 57)) 3 [] qN qN qN (qV "basicplus.decimals" 647) Option.none (qR 405) qN 0)) (qA []))) ::
  (nat_lit 407, (Obj.mk (Value.type "tuple") Option.none (Data.seq (qA []) 0) (qA []))) ::
  (nat_lit 408, (Obj.mk qN Option.none (Data.fields (qA [])) (qA []))) ::
  (nat_lit 409, (Obj.mk (Value.type "tuple") Option.none (Data.seq (qA [(qV "value" 759)]) 0) (qA []))) ::
  (nat_lit 410, (Obj.mk (Value.type "tuple") Option.none (Data.seq (qA []) 0) (qA []))) ::
  (nat_lit 411, (Obj.mk qN Option.none (Data.func (FuncData.mk (qS "is_whole") (qS "is_whole") (qP (qT 59)) (FuncBody.stmts (qB (qT 59))) (qK (qT 59)) 0 [] qN qN qN qN Option.none qN qN 0)) (qA []))) ::
  (nat_lit 412, (Obj.mk (Value.type "code") Option.none (Data.fields (qA [(qV "is_whole" 756), (qV "is_whole" 757), (qV "/claim/cut.py" 758), (qI 294 0), (qI 1 0), (qI 0 0), (qI 0 0), (qI 3 0), (qR 407), (Value.bool Bool.true), (qI 181 0), (qR 408), qN, (qR 409), (qR 410), (qR 411), (qI 760 0), (qI 294 0), (qV "/claim/cut.py" 761)])) (qA []))) ::
  (nat_lit 413, (Obj.mk (Value.type "function") Option.none (Data.func (FuncData.mk (qS "is_whole") (qS "is_whole") (qP (qT 59)) (FuncBody.stmts (qB (qT 59))) (qK (qT 59)) 3 [] qN qN qN (qV "basicplus.arith" 754) Option.none (qR 412) qN 0)) (qA []))) ::
  (nat_lit 414, (Obj.mk (Value.type "tuple") Option.none (Data.seq (qA []) 0) (qA []))) ::
  (nat_lit 415, (Obj.mk qN Option.none (Data.fields (qA [])) (qA []))) ::
  (nat_lit 416, (Obj.mk (Value.type "tuple") Option.none (Data.seq (qA [(qV "number" 766), (qV "bits" 767), (qV "digits" 768)]) 0) (qA []))) ::
  (nat_lit 417, (Obj.mk (Value.type "tuple") Option.none (Data.seq (qA []) 0) (qA []))) ::
  (nat_lit 418, (Obj.mk qN Option.none (Data.func (FuncData.mk (qS "settled") (qS "settled") (qP (qT 60)) (FuncBody.stmts (qB (qT 60))) (qK (qT 60)) 0 [] qN qN qN qN Option.none qN qN 0)) (qA []))) ::
  (nat_lit 419, (Obj.mk (Value.type "code") Option.none (Data.fields (qA [(qV "settled" 763), (qV "settled" 764), (qV "/claim/cut.py" 765), (qI 298 0), (qI 3 0), (qI 0 0), (qI 0 0), (qI 3 0), (qR 414), (Value.bool Bool.true), (qI 181 0), (qR 415), qN, (qR 416), (qR 417), (qR 418), (qI 769 0), (qI 298 0), (qV "/claim/cut.py" 770)])) (qA []))) ::
  (nat_lit 420, (Obj.mk (Value.type "function") Option.none (Data.func (FuncData.mk (qS "settled") (qS "settled") (qP (qT 60)) (FuncBody.stmts (qB (qT 60))) (qK (qT 60)) 3 [] qN qN qN (qV "basicplus.arith" 754) Option.none (qR 419) qN 0)) (qA []))) ::
  (nat_lit 421, (Obj.mk (Value.type "tuple") Option.none (Data.seq (qA []) 0) (qA []))) ::
  (nat_lit 422, (Obj.mk qN Option.none (Data.fields (qA [])) (qA []))) ::
  (nat_lit 423, (Obj.mk (Value.type "tuple") Option.none (Data.seq (qA [(qV "op" 775), (qV "a" 776), (qV "b" 777), (qV "bits" 778), (qV "digits" 779)]) 0) (qA []))) ::
  (nat_lit 424, (Obj.mk (Value.type "tuple") Option.none (Data.seq (qA []) 0) (qA []))) ::
  (nat_lit 425, (Obj.mk qN Option.none (Data.func (FuncData.mk (qS "whole_reckoned") (qS "whole_reckoned") (qP (qT 61)) (FuncBody.stmts (qB (qT 61))) (qK (qT 61)) 0 [] qN qN qN qN Option.none qN qN 0)) (qA []))) ::
  (nat_lit 426, (Obj.mk (Value.type "code") Option.none (Data.fields (qA [(qV "whole_reckoned" 772), (qV "whole_reckoned" 773), (qV "/claim/cut.py" 774), (qI 300 0), (qI 5 0), (qI 0 0), (qI 0 0), (qI 3 0), (qR 421), (Value.bool Bool.true), (qI 181 0), (qR 422), qN, (qR 423), (qR 424), (qR 425), (qI 780 0), (qI 300 0), (qV "/claim/cut.py" 781)])) (qA []))) ::
  (nat_lit 427, (Obj.mk (Value.type "function") Option.none (Data.func (FuncData.mk (qS "whole_reckoned") (qS "whole_reckoned") (qP (qT 61)) (FuncBody.stmts (qB (qT 61))) (qK (qT 61)) 3 [] qN qN qN (qV "basicplus.arith" 754) Option.none (qR 426) qN 0)) (qA []))) ::
  (nat_lit 428, (Obj.mk (Value.type "tuple") Option.none (Data.seq (qA []) 0) (qA []))) ::
  (nat_lit 429, (Obj.mk qN Option.none (Data.fields (qA [])) (qA []))) ::
  (nat_lit 430, (Obj.mk (Value.type "tuple") Option.none (Data.seq (qA [(qV "a" 786), (qV "b" 787), (qV "found" 788)]) 0) (qA []))) ::
  (nat_lit 431, (Obj.mk (Value.type "tuple") Option.none (Data.seq (qA []) 0) (qA []))) ::
  (nat_lit 432, (Obj.mk qN Option.none (Data.func (FuncData.mk (qS "cut_quotient") (qS "cut_quotient") (qP (qT 62)) (FuncBody.stmts (qB (qT 62))) (qK (qT 62)) 0 [] qN qN qN qN Option.none qN qN 0)) (qA []))) ::
  (nat_lit 433, (Obj.mk (Value.type "code") Option.none (Data.fields (qA [(qV "cut_quotient" 783), (qV "cut_quotient" 784), (qV "/claim/cut.py" 785), (qI 304 0), (qI 2 0), (qI 0 0), (qI 0 0), (qI 3 0), (qR 428), (Value.bool Bool.true), (qI 181 0), (qR 429), qN, (qR 430), (qR 431), (qR 432), (qI 789 0), (qI 304 0), (qV "/claim/cut.py" 790)])) (qA []))) ::
  (nat_lit 434, (Obj.mk (Value.type "function") Option.none (Data.func (FuncData.mk (qS "cut_quotient") (qS "cut_quotient") (qP (qT 62)) (FuncBody.stmts (qB (qT 62))) (qK (qT 62)) 3 [] qN qN qN (qV "basicplus.arith" 754) Option.none (qR 433) qN 0)) (qA []))) ::
  (nat_lit 435, (Obj.mk (Value.type "tuple") Option.none (Data.seq (qA []) 0) (qA []))) ::
  (nat_lit 436, (Obj.mk qN Option.none (Data.fields (qA [])) (qA []))) ::
  (nat_lit 437, (Obj.mk (Value.type "tuple") Option.none (Data.seq (qA [(qV "a" 795), (qV "b" 796)]) 0) (qA []))) ::
  (nat_lit 438, (Obj.mk (Value.type "tuple") Option.none (Data.seq (qA []) 0) (qA []))) ::
  (nat_lit 439, (Obj.mk qN Option.none (Data.func (FuncData.mk (qS "cut_rest") (qS "cut_rest") (qP (qT 63)) (FuncBody.stmts (qB (qT 63))) (qK (qT 63)) 0 [] qN qN qN qN Option.none qN qN 0)) (qA []))) ::
  (nat_lit 440, (Obj.mk (Value.type "code") Option.none (Data.fields (qA [(qV "cut_rest" 792), (qV "cut_rest" 793), (qV "/claim/cut.py" 794), (qI 309 0), (qI 2 0), (qI 0 0), (qI 0 0), (qI 3 0), (qR 435), (Value.bool Bool.true), (qI 181 0), (qR 436), qN, (qR 437), (qR 438), (qR 439), (qI 797 0), (qI 309 0), (qV "/claim/cut.py" 798)])) (qA []))) ::
  (nat_lit 441, (Obj.mk (Value.type "function") Option.none (Data.func (FuncData.mk (qS "cut_rest") (qS "cut_rest") (qP (qT 63)) (FuncBody.stmts (qB (qT 63))) (qK (qT 63)) 3 [] qN qN qN (qV "basicplus.arith" 754) Option.none (qR 440) qN 0)) (qA []))) ::
  (nat_lit 442, (Obj.mk (Value.type "tuple") Option.none (Data.seq (qA []) 0) (qA []))) ::
  (nat_lit 443, (Obj.mk qN Option.none (Data.fields (qA [])) (qA []))) ::
  (nat_lit 444, (Obj.mk (Value.type "tuple") Option.none (Data.seq (qA [(qV "value" 803)]) 0) (qA []))) ::
  (nat_lit 445, (Obj.mk (Value.type "tuple") Option.none (Data.seq (qA []) 0) (qA []))) ::
  (nat_lit 446, (Obj.mk qN Option.none (Data.func (FuncData.mk (qS "exponent_of") (qS "exponent_of") (qP (qT 64)) (FuncBody.stmts (qB (qT 64))) (qK (qT 64)) 0 [] qN qN qN qN Option.none qN qN 0)) (qA []))) ::
  (nat_lit 447, (Obj.mk (Value.type "code") Option.none (Data.fields (qA [(qV "exponent_of" 800), (qV "exponent_of" 801), (qV "/claim/cut.py" 802), (qI 311 0), (qI 1 0), (qI 0 0), (qI 0 0), (qI 3 0), (qR 442), (Value.bool Bool.true), (qI 181 0), (qR 443), qN, (qR 444), (qR 445), (qR 446), (qI 804 0), (qI 311 0), (qV "/claim/cut.py" 805)])) (qA []))) ::
  (nat_lit 448, (Obj.mk (Value.type "function") Option.none (Data.func (FuncData.mk (qS "exponent_of") (qS "exponent_of") (qP (qT 64)) (FuncBody.stmts (qB (qT 64))) (qK (qT 64)) 3 [] qN qN qN (qV "basicplus.arith" 754) Option.none (qR 447) qN 0)) (qA []))) ::
  (nat_lit 449, (Obj.mk (Value.type "tuple") Option.none (Data.seq (qA []) 0) (qA []))) ::
  (nat_lit 450, (Obj.mk qN Option.none (Data.fields (qA [])) (qA []))) ::
  (nat_lit 451, (Obj.mk (Value.type "tuple") Option.none (Data.seq (qA [(qV "a" 810), (qV "n" 811), (qV "bits" 812), (qV "digits" 813)]) 0) (qA []))) ::
  (nat_lit 452, (Obj.mk (Value.type "tuple") Option.none (Data.seq (qA []) 0) (qA []))) ::
  (nat_lit 453, (Obj.mk qN Option.none (Data.func (FuncData.mk (qS "whole_power") (qS "whole_power") (qP (qT 65)) (FuncBody.stmts (qB (qT 65))) (qK (qT 65)) 0 [] qN qN qN qN Option.none qN qN 0)) (qA []))) ::
  (nat_lit 454, (Obj.mk (Value.type "code") Option.none (Data.fields (qA [(qV "whole_power" 807), (qV "whole_power" 808), (qV "/claim/cut.py" 809), (qI 317 0), (qI 4 0), (qI 0 0), (qI 0 0), (qI 3 0), (qR 449), (Value.bool Bool.true), (qI 181 0), (qR 450), qN, (qR 451), (qR 452), (qR 453), (qI 814 0), (qI 317 0), (qV "/claim/cut.py" 815)])) (qA []))) ::
  (nat_lit 455, (Obj.mk (Value.type "function") Option.none (Data.func (FuncData.mk (qS "whole_power") (qS "whole_power") (qP (qT 65)) (FuncBody.stmts (qB (qT 65))) (qK (qT 65)) 3 [] qN qN qN (qV "basicplus.arith" 754) Option.none (qR 454) qN 0)) (qA []))) ::
  (nat_lit 456, (Obj.mk (Value.type "tuple") Option.none (Data.seq (qA []) 0) (qA []))) ::
  (nat_lit 457, (Obj.mk qN Option.none (Data.fields (qA [])) (qA []))) ::
  (nat_lit 458, (Obj.mk (Value.type "tuple") Option.none (Data.seq (qA [(qV "a" 820), (qV "b" 821), (qV "bits" 822), (qV "digits" 823), (qV "n" 824)]) 0) (qA []))) ::
  (nat_lit 459, (Obj.mk (Value.type "tuple") Option.none (Data.seq (qA []) 0) (qA []))) ::
  (nat_lit 460, (Obj.mk qN Option.none (Data.func (FuncData.mk (qS "raised") (qS "raised") (qP (qT 66)) (FuncBody.stmts (qB (qT 66))) (qK (qT 66)) 0 [] qN qN qN qN Option.none qN qN 0)) (qA []))) ::
  (nat_lit 461, (Obj.mk (Value.type "code") Option.none (Data.fields (qA [(qV "raised" 817), (qV "raised" 818), (qV "/claim/cut.py" 819), (qI 323 0), (qI 4 0), (qI 0 0), (qI 0 0), (qI 3 0), (qR 456), (Value.bool Bool.true), (qI 181 0), (qR 457), qN, (qR 458), (qR 459), (qR 460), (qI 825 0), (qI 323 0), (qV "/claim/cut.py" 826)])) (qA []))) ::
  (nat_lit 462, (Obj.mk (Value.type "function") Option.none (Data.func (FuncData.mk (qS "raised") (qS "raised") (qP (qT 66)) (FuncBody.stmts (qB (qT 66))) (qK (qT 66)) 3 [] qN qN qN (qV "basicplus.arith" 754) Option.none (qR 461) qN 0)) (qA []))) ::
  (nat_lit 463, (Obj.mk (Value.type "tuple") Option.none (Data.seq (qA []) 0) (qA []))) ::
  (nat_lit 464, (Obj.mk qN Option.none (Data.fields (qA [])) (qA []))) ::
  (nat_lit 465, (Obj.mk (Value.type "tuple") Option.none (Data.seq (qA [(qV "op" 831), (qV "a" 832), (qV "b" 833), (qV "bits" 834), (qV "digits" 835), (qV "is_first" 836), (qV "is_second" 837), (qV "work" 838), (qV "one" 839), (qV "other" 840)]) 0) (qA []))) ::
  (nat_lit 466, (Obj.mk (Value.type "tuple") Option.none (Data.seq (qA []) 0) (qA []))) ::
  (nat_lit 467, (Obj.mk qN Option.none (Data.func (FuncData.mk (qS "reckoned") (qS "reckoned") (qP (qT 67)) (FuncBody.stmts (qB (qT 67))) (qK (qT 67)) 0 [] qN qN qN qN Option.none qN qN 0)) (qA []))) ::
  (nat_lit 468, (Obj.mk (Value.type "code") Option.none (Data.fields (qA [(qV "reckoned" 828), (qV "reckoned" 829), (qV "/claim/cut.py" 830), (qI 328 0), (qI 5 0), (qI 0 0), (qI 0 0), (qI 3 0), (qR 463), (Value.bool Bool.true), (qI 181 0), (qR 464), qN, (qR 465), (qR 466), (qR 467), (qI 841 0), (qI 328 0), (qV "/claim/cut.py" 842)])) (qA []))) ::
  (nat_lit 469, (Obj.mk (Value.type "function") Option.none (Data.func (FuncData.mk (qS "reckoned") (qS "reckoned") (qP (qT 67)) (FuncBody.stmts (qB (qT 67))) (qK (qT 67)) 3 [] qN qN qN (qV "basicplus.arith" 754) Option.none (qR 468) qN 0)) (qA []))) ::
  (nat_lit 470, (Obj.mk (Value.type "tuple") Option.none (Data.seq (qA []) 0) (qA []))) ::
  (nat_lit 471, (Obj.mk qN Option.none (Data.fields (qA [])) (qA []))) ::
  (nat_lit 472, (Obj.mk (Value.type "tuple") Option.none (Data.seq (qA [(qV "a" 847), (qV "b" 848)]) 0) (qA []))) ::
  (nat_lit 473, (Obj.mk (Value.type "tuple") Option.none (Data.seq (qA []) 0) (qA []))) ::
  (nat_lit 474, (Obj.mk qN Option.none (Data.func (FuncData.mk (qS "order_of") (qS "order_of") (qP (qT 68)) (FuncBody.stmts (qB (qT 68))) (qK (qT 68)) 0 [] qN qN qN qN Option.none qN qN 0)) (qA []))) ::
  (nat_lit 475, (Obj.mk (Value.type "code") Option.none (Data.fields (qA [(qV "order_of" 844), (qV "order_of" 845), (qV "/claim/cut.py" 846), (qI 343 0), (qI 2 0), (qI 0 0), (qI 0 0), (qI 3 0), (qR 470), (Value.bool Bool.true), (qI 181 0), (qR 471), qN, (qR 472), (qR 473), (qR 474), (qI 849 0), (qI 343 0), (qV "/claim/cut.py" 850)])) (qA []))) ::
  (nat_lit 476, (Obj.mk (Value.type "function") Option.none (Data.func (FuncData.mk (qS "order_of") (qS "order_of") (qP (qT 68)) (FuncBody.stmts (qB (qT 68))) (qK (qT 68)) 3 [] qN qN qN (qV "basicplus.arith" 754) Option.none (qR 475) qN 0)) (qA []))) ::
  (nat_lit 477, (Obj.mk (Value.type "tuple") Option.none (Data.seq (qA [(qV "IFNOT" 854), (qV "JUMP" 855), (qV "GOTO" 856), (qV "GOSUB" 857), (qV "ONGO" 858), (qV "RETURN" 859)]) 0) (qA []))) ::
  (nat_lit 478, (Obj.mk (Value.type "tuple") Option.none (Data.seq (qA []) 0) (qA []))) ::
  (nat_lit 479, (Obj.mk qN Option.none (Data.fields (qA [])) (qA []))) ::
  (nat_lit 480, (Obj.mk (Value.type "tuple") Option.none (Data.seq (qA [(qV "run" 864), (qV "at" 865), (qV "statement" 866)]) 0) (qA []))) ::
  (nat_lit 481, (Obj.mk (Value.type "tuple") Option.none (Data.seq (qA []) 0) (qA []))) ::
  (nat_lit 482, (Obj.mk qN Option.none (Data.func (FuncData.mk (qS "do_flow") (qS "do_flow") (qP (qT 71)) (FuncBody.stmts (qB (qT 71))) (qK (qT 71)) 0 [] qN qN qN qN Option.none qN qN 0)) (qA []))) ::
  (nat_lit 483, (Obj.mk (Value.type "code") Option.none (Data.fields (qA [(qV "do_flow" 861), (qV "do_flow" 862), (qV "/claim/cut.py" 863), (qI 351 0), (qI 3 0), (qI 0 0), (qI 0 0), (qI 3 0), (qR 478), (Value.bool Bool.true), (qI 181 0), (qR 479), qN, (qR 480), (qR 481), (qR 482), (qI 867 0), (qI 351 0), (qV "/claim/cut.py" 868)])) (qA []))) ::
  (nat_lit 484, (Obj.mk (Value.type "function") Option.none (Data.func (FuncData.mk (qS "do_flow") (qS "do_flow") (qP (qT 71)) (FuncBody.stmts (qB (qT 71))) (qK (qT 71)) 3 [] qN qN qN (qV "basicplus.flow" 852) Option.none (qR 483) qN 0)) (qA []))) ::
  (nat_lit 485, (Obj.mk (Value.type "tuple") Option.none (Data.seq (qA []) 0) (qA []))) ::
  (nat_lit 486, (Obj.mk qN Option.none (Data.fields (qA [])) (qA []))) ::
  (nat_lit 487, (Obj.mk (Value.type "tuple") Option.none (Data.seq (qA [(qV "run" 873), (qV "at" 874), (qV "statement" 875), (qV "word" 876), (qV "place" 877), (qV "line" 878), (qV "which" 879), (qV "goal" 880)]) 0) (qA []))) ::
  (nat_lit 488, (Obj.mk (Value.type "tuple") Option.none (Data.seq (qA []) 0) (qA []))) ::
  (nat_lit 489, (Obj.mk qN Option.none (Data.func (FuncData.mk (qS "do_jump") (qS "do_jump") (qP (qT 72)) (FuncBody.stmts (qB (qT 72))) (qK (qT 72)) 0 [] qN qN qN qN Option.none qN qN 0)) (qA []))) ::
  (nat_lit 490, (Obj.mk (Value.type "code") Option.none (Data.fields (qA [(qV "do_jump" 870), (qV "do_jump" 871), (qV "/claim/cut.py" 872), (qI 353 0), (qI 3 0), (qI 0 0), (qI 0 0), (qI 3 0), (qR 485), (Value.bool Bool.true), (qI 181 0), (qR 486), qN, (qR 487), (qR 488), (qR 489), (qI 881 0), (qI 353 0), (qV "/claim/cut.py" 882)])) (qA []))) ::
  (nat_lit 491, (Obj.mk (Value.type "function") Option.none (Data.func (FuncData.mk (qS "do_jump") (qS "do_jump") (qP (qT 72)) (FuncBody.stmts (qB (qT 72))) (qK (qT 72)) 3 [] qN qN qN (qV "basicplus.flow" 852) Option.none (qR 490) qN 0)) (qA []))) ::
  (nat_lit 492, (Obj.mk (Value.type "tuple") Option.none (Data.seq (qA []) 0) (qA []))) ::
  (nat_lit 493, (Obj.mk qN Option.none (Data.fields (qA [])) (qA []))) ::
  (nat_lit 494, (Obj.mk (Value.type "tuple") Option.none (Data.seq (qA [(qV "run" 887), (qV "at" 888), (qV "statement" 889), (qV "word" 890)]) 0) (qA []))) ::
  (nat_lit 495, (Obj.mk (Value.type "tuple") Option.none (Data.seq (qA []) 0) (qA []))) ::
  (nat_lit 496, (Obj.mk qN Option.none (Data.func (FuncData.mk (qS "do_loop") (qS "do_loop") (qP (qT 73)) (FuncBody.stmts (qB (qT 73))) (qK (qT 73)) 0 [] qN qN qN qN Option.none qN qN 0)) (qA []))) ::
  (nat_lit 497, (Obj.mk (Value.type "code") Option.none (Data.fields (qA [(qV "do_loop" 884), (qV "do_loop" 885), (qV "/claim/cut.py" 886), (qI 372 0), (qI 3 0), (qI 0 0), (qI 0 0), (qI 3 0), (qR 492), (Value.bool Bool.true), (qI 181 0), (qR 493), qN, (qR 494), (qR 495), (qR 496), (qI 891 0), (qI 372 0), (qV "/claim/cut.py" 892)])) (qA []))) ::
  (nat_lit 498, (Obj.mk (Value.type "function") Option.none (Data.func (FuncData.mk (qS "do_loop") (qS "do_loop") (qP (qT 73)) (FuncBody.stmts (qB (qT 73))) (qK (qT 73)) 3 [] qN qN qN (qV "basicplus.flow" 852) Option.none (qR 497) qN 0)) (qA []))) ::
  (nat_lit 499, (Obj.mk (Value.type "tuple") Option.none (Data.seq (qA []) 0) (qA []))) ::
  (nat_lit 500, (Obj.mk qN Option.none (Data.fields (qA [])) (qA []))) ::
  (nat_lit 501, (Obj.mk (Value.type "tuple") Option.none (Data.seq (qA [(qV "run" 897), (qV "at" 898), (qV "statement" 899), (qV "word" 900), (qV "name" 901), (qV "first" 902), (qV "last" 903), (qV "stride" 904), (qV "begin" 905), (qV "limit" 906), (qV "step" 907), (qV "value" 908), (qV "row" 909), (qV "which" 910), (qV "names" 911)]) 0) (qA []))) ::
  (nat_lit 502, (Obj.mk (Value.type "tuple") Option.none (Data.seq (qA []) 0) (qA []))) ::
  (nat_lit 503, (Obj.mk qN Option.none (Data.func (FuncData.mk (qS "do_for") (qS "do_for") (qP (qT 74)) (FuncBody.stmts (qB (qT 74))) (qK (qT 74)) 0 [] qN qN qN qN Option.none qN qN 0)) (qA []))) ::
  (nat_lit 504, (Obj.mk (Value.type "code") Option.none (Data.fields (qA [(qV "do_for" 894), (qV "do_for" 895), (qV "/claim/cut.py" 896), (qI 385 0), (qI 3 0), (qI 0 0), (qI 0 0), (qI 3 0), (qR 499), (Value.bool Bool.true), (qI 181 0), (qR 500), qN, (qR 501), (qR 502), (qR 503), (qI 912 0), (qI 385 0), (qV "/claim/cut.py" 913)])) (qA []))) ::
  (nat_lit 505, (Obj.mk (Value.type "function") Option.none (Data.func (FuncData.mk (qS "do_for") (qS "do_for") (qP (qT 74)) (FuncBody.stmts (qB (qT 74))) (qK (qT 74)) 3 [] qN qN qN (qV "basicplus.flow" 852) Option.none (qR 504) qN 0)) (qA []))) ::
  (nat_lit 506, (Obj.mk (Value.type "tuple") Option.none (Data.seq (qA []) 0) (qA []))) ::
  (nat_lit 507, (Obj.mk qN Option.none (Data.fields (qA [])) (qA []))) ::
  (nat_lit 508, (Obj.mk (Value.type "tuple") Option.none (Data.seq (qA [(qV "run" 918), (qV "at" 919), (qV "names" 920), (qV "told" 921), (qV "name" 922), (qV "value" 923), (qV "place" 924)]) 0) (qA []))) ::
  (nat_lit 509, (Obj.mk (Value.type "tuple") Option.none (Data.seq (qA []) 0) (qA []))) ::
  (nat_lit 510, (Obj.mk qN Option.none (Data.func (FuncData.mk (qS "next_from") (qS "next_from") (qP (qT 75)) (FuncBody.stmts (qB (qT 75))) (qK (qT 75)) 0 [] qN qN qN qN Option.none qN qN 0)) (qA []))) ::
  (nat_lit 511, (Obj.mk (Value.type "code") Option.none (Data.fields (qA [(qV "next_from" 915), (qV "next_from" 916), (qV "/claim/cut.py" 917), (qI 399 0), (qI 3 0), (qI 0 0), (qI 0 0), (qI 3 0), (qR 506), (Value.bool Bool.true), (qI 181 0), (qR 507), qN, (qR 508), (qR 509), (qR 510), (qI 925 0), (qI 399 0), (qV "/claim/cut.py" 926)])) (qA []))) ::
  (nat_lit 512, (Obj.mk (Value.type "function") Option.none (Data.func (FuncData.mk (qS "next_from") (qS "next_from") (qP (qT 75)) (FuncBody.stmts (qB (qT 75))) (qK (qT 75)) 3 [] qN qN qN (qV "basicplus.flow" 852) Option.none (qR 511) qN 0)) (qA []))) ::
  (nat_lit 513, (Obj.mk (Value.type "tuple") Option.none (Data.seq (qA []) 0) (qA []))) ::
  (nat_lit 514, (Obj.mk (Value.type "builtin_function_or_method") Option.none (Data.fields (qA [(Value.builtin "type.__prepare__"), (Value.type "type")])) (qA []))) ::
  (nat_lit 515, (Obj.mk (Value.type "dict") Option.none (Data.dict (qA [(qE P "__module__" 935 (qV "basicplus.flow" 852)), (qE P "__qualname__" 937 (qV "FlowRun" 936)), (qE P "__firstlineno__" 939 (qI 407 938)), (qE P "__init__" 951 (qR 526)), (qE P "worth" 960 (qR 533)), (qE P "whole" 968 (qR 540)), (qE P "value_of_name" 976 (qR 547)), (qE P "store" 985 (qR 554)), (qE P "plus" 994 (qR 561)), (qE P "go" 1005 (qR 568)), (qE P "__static_attributes__" 1013 (qR 569))]) 11) (qA []))) ::
  (nat_lit 516, (Obj.mk (Value.type "tuple") Option.none (Data.seq (qA []) 0) (qA []))) ::
  (nat_lit 517, (Obj.mk qN Option.none (Data.fields (qA [(qI 409 0), (qI 4 0), (qR 525), (qI 418 0), (qI 4 0), (qR 532), (qI 422 0), (qI 4 0), (qR 539), (qI 425 0), (qI 4 0), (qR 546), (qI 428 0), (qI 4 0), (qR 553), (qI 431 0), (qI 4 0), (qR 560), (qI 434 0), (qI 4 0), (qR 567)])) (qA []))) ::
  (nat_lit 518, (Obj.mk (Value.type "code") Option.none (Data.fields (qA [(qV "FlowRun" 930), (qV "FlowRun" 931), (qV "/claim/cut.py" 932), (qI 407 0), (qI 0 0), (qI 0 0), (qI 0 0), (qI 0 0), (qR 516), (Value.bool Bool.false), (qI 181 0), (qR 517), qN, qN, qN, qN, (qI 933 0), (qI 407 0), (qV "/claim/cut.py" 934)])) (qA []))) ::
  (nat_lit 519, (Obj.mk (Value.type "frame") Option.none Data.plain (qA [(Option.some (qR 518)), (Option.some (qR 3)), (Option.some (qR 515)), Option.none, (Option.some (qV "basicplus.flow" 852)), Option.none, (Option.some (qR 0))]))) ::
  (nat_lit 520, (Obj.mk (Value.type "tuple") Option.none (Data.seq (qA []) 0) (qA []))) ::
  (nat_lit 521, (Obj.mk qN Option.none (Data.fields (qA [])) (qA []))) ::
  (nat_lit 522, (Obj.mk (Value.type "tuple") Option.none (Data.seq (qA [(qV "self" 943), (qV "flat" 944), (qV "values" 945), (qV "worth_of" 946), (qV "bits" 947), (qV "digits" 948)]) 0) (qA []))) ::
  (nat_lit 523, (Obj.mk (Value.type "tuple") Option.none (Data.seq (qA []) 0) (qA []))) ::
  (nat_lit 524, (Obj.mk qN Option.none (Data.func (FuncData.mk (qS "__init__") (qS "FlowRun.__init__") (qP (qC 76 0)) (FuncBody.stmts (qB (qC 76 0))) (qK (qC 76 0)) 0 [] qN qN qN qN Option.none qN qN 0)) (qA []))) ::
  (nat_lit 525, (Obj.mk (Value.type "code") Option.none (Data.fields (qA [(qV "__init__" 940), (qV "FlowRun.__init__" 941), (qV "/claim/cut.py" 942), (qI 409 0), (qI 6 0), (qI 0 0), (qI 0 0), (qI 3 0), (qR 520), (Value.bool Bool.true), (qI 181 0), (qR 521), qN, (qR 522), (qR 523), (qR 524), (qI 949 0), (qI 409 0), (qV "/claim/cut.py" 950)])) (qA []))) ::
  (nat_lit 526, (Obj.mk (Value.type "function") Option.none (Data.func (FuncData.mk (qS "__init__") (qS "FlowRun.__init__") (qP (qC 76 0)) (FuncBody.stmts (qB (qC 76 0))) (qK (qC 76 0)) 3 [] qN qN qN (qV "basicplus.flow" 852) Option.none (qR 525) qN 0)) (qA []))) ::
  (nat_lit 527, (Obj.mk (Value.type "tuple") Option.none (Data.seq (qA []) 0) (qA []))) ::
  (nat_lit 528, (Obj.mk qN Option.none (Data.fields (qA [])) (qA []))) ::
  (nat_lit 529, (Obj.mk (Value.type "tuple") Option.none (Data.seq (qA [(qV "self" 955), (qV "tree" 956), (qV "given_worth" 957)]) 0) (qA []))) ::
  (nat_lit 530, (Obj.mk (Value.type "tuple") Option.none (Data.seq (qA []) 0) (qA []))) ::
  (nat_lit 531, (Obj.mk qN Option.none (Data.func (FuncData.mk (qS "worth") (qS "FlowRun.worth") (qP (qC 76 1)) (FuncBody.stmts (qB (qC 76 1))) (qK (qC 76 1)) 0 [] qN qN qN qN Option.none qN qN 0)) (qA []))) ::
  (nat_lit 532, (Obj.mk (Value.type "code") Option.none (Data.fields (qA [(qV "worth" 952), (qV "FlowRun.worth" 953), (qV "/claim/cut.py" 954), (qI 418 0), (qI 2 0), (qI 0 0), (qI 0 0), (qI 3 0), (qR 527), (Value.bool Bool.true), (qI 181 0), (qR 528), qN, (qR 529), (qR 530), (qR 531), (qI 958 0), (qI 418 0), (qV "/claim/cut.py" 959)])) (qA []))) ::
  (nat_lit 533, (Obj.mk (Value.type "function") Option.none (Data.func (FuncData.mk (qS "worth") (qS "FlowRun.worth") (qP (qC 76 1)) (FuncBody.stmts (qB (qC 76 1))) (qK (qC 76 1)) 3 [] qN qN qN (qV "basicplus.flow" 852) Option.none (qR 532) qN 0)) (qA []))) ::
  (nat_lit 534, (Obj.mk (Value.type "tuple") Option.none (Data.seq (qA []) 0) (qA []))) ::
  (nat_lit 535, (Obj.mk qN Option.none (Data.fields (qA [])) (qA []))) ::
  (nat_lit 536, (Obj.mk (Value.type "tuple") Option.none (Data.seq (qA [(qV "self" 964), (qV "tree" 965)]) 0) (qA []))) ::
  (nat_lit 537, (Obj.mk (Value.type "tuple") Option.none (Data.seq (qA []) 0) (qA []))) ::
  (nat_lit 538, (Obj.mk qN Option.none (Data.func (FuncData.mk (qS "whole") (qS "FlowRun.whole") (qP (qC 76 2)) (FuncBody.stmts (qB (qC 76 2))) (qK (qC 76 2)) 0 [] qN qN qN qN Option.none qN qN 0)) (qA []))) ::
  (nat_lit 539, (Obj.mk (Value.type "code") Option.none (Data.fields (qA [(qV "whole" 961), (qV "FlowRun.whole" 962), (qV "/claim/cut.py" 963), (qI 422 0), (qI 2 0), (qI 0 0), (qI 0 0), (qI 3 0), (qR 534), (Value.bool Bool.true), (qI 181 0), (qR 535), qN, (qR 536), (qR 537), (qR 538), (qI 966 0), (qI 422 0), (qV "/claim/cut.py" 967)])) (qA []))) ::
  (nat_lit 540, (Obj.mk (Value.type "function") Option.none (Data.func (FuncData.mk (qS "whole") (qS "FlowRun.whole") (qP (qC 76 2)) (FuncBody.stmts (qB (qC 76 2))) (qK (qC 76 2)) 3 [] qN qN qN (qV "basicplus.flow" 852) Option.none (qR 539) qN 0)) (qA []))) ::
  (nat_lit 541, (Obj.mk (Value.type "tuple") Option.none (Data.seq (qA []) 0) (qA []))) ::
  (nat_lit 542, (Obj.mk qN Option.none (Data.fields (qA [])) (qA []))) ::
  (nat_lit 543, (Obj.mk (Value.type "tuple") Option.none (Data.seq (qA [(qV "self" 972), (qV "name" 973)]) 0) (qA []))) ::
  (nat_lit 544, (Obj.mk (Value.type "tuple") Option.none (Data.seq (qA []) 0) (qA []))) ::
  (nat_lit 545, (Obj.mk qN Option.none (Data.func (FuncData.mk (qS "value_of_name") (qS "FlowRun.value_of_name") (qP (qC 76 3)) (FuncBody.stmts (qB (qC 76 3))) (qK (qC 76 3)) 0 [] qN qN qN qN Option.none qN qN 0)) (qA []))) ::
  (nat_lit 546, (Obj.mk (Value.type "code") Option.none (Data.fields (qA [(qV "value_of_name" 969), (qV "FlowRun.value_of_name" 970), (qV "/claim/cut.py" 971), (qI 425 0), (qI 2 0), (qI 0 0), (qI 0 0), (qI 3 0), (qR 541), (Value.bool Bool.true), (qI 181 0), (qR 542), qN, (qR 543), (qR 544), (qR 545), (qI 974 0), (qI 425 0), (qV "/claim/cut.py" 975)])) (qA []))) ::
  (nat_lit 547, (Obj.mk (Value.type "function") Option.none (Data.func (FuncData.mk (qS "value_of_name") (qS "FlowRun.value_of_name") (qP (qC 76 3)) (FuncBody.stmts (qB (qC 76 3))) (qK (qC 76 3)) 3 [] qN qN qN (qV "basicplus.flow" 852) Option.none (qR 546) qN 0)) (qA []))) ::
  (nat_lit 548, (Obj.mk (Value.type "tuple") Option.none (Data.seq (qA []) 0) (qA []))) ::
  (nat_lit 549, (Obj.mk qN Option.none (Data.fields (qA [])) (qA []))) ::
  (nat_lit 550, (Obj.mk (Value.type "tuple") Option.none (Data.seq (qA [(qV "self" 980), (qV "name" 981), (qV "value" 982)]) 0) (qA []))) ::
  (nat_lit 551, (Obj.mk (Value.type "tuple") Option.none (Data.seq (qA []) 0) (qA []))) ::
  (nat_lit 552, (Obj.mk qN Option.none (Data.func (FuncData.mk (qS "store") (qS "FlowRun.store") (qP (qC 76 4)) (FuncBody.stmts (qB (qC 76 4))) (qK (qC 76 4)) 0 [] qN qN qN qN Option.none qN qN 0)) (qA []))) ::
  (nat_lit 553, (Obj.mk (Value.type "code") Option.none (Data.fields (qA [(qV "store" 977), (qV "FlowRun.store" 978), (qV "/claim/cut.py" 979), (qI 428 0), (qI 3 0), (qI 0 0), (qI 0 0), (qI 3 0), (qR 548), (Value.bool Bool.true), (qI 181 0), (qR 549), qN, (qR 550), (qR 551), (qR 552), (qI 983 0), (qI 428 0), (qV "/claim/cut.py" 984)])) (qA []))) ::
  (nat_lit 554, (Obj.mk (Value.type "function") Option.none (Data.func (FuncData.mk (qS "store") (qS "FlowRun.store") (qP (qC 76 4)) (FuncBody.stmts (qB (qC 76 4))) (qK (qC 76 4)) 3 [] qN qN qN (qV "basicplus.flow" 852) Option.none (qR 553) qN 0)) (qA []))) ::
  (nat_lit 555, (Obj.mk (Value.type "tuple") Option.none (Data.seq (qA []) 0) (qA []))) ::
  (nat_lit 556, (Obj.mk qN Option.none (Data.fields (qA [])) (qA []))) ::
  (nat_lit 557, (Obj.mk (Value.type "tuple") Option.none (Data.seq (qA [(qV "self" 989), (qV "value" 990), (qV "step" 991)]) 0) (qA []))) ::
  (nat_lit 558, (Obj.mk (Value.type "tuple") Option.none (Data.seq (qA []) 0) (qA []))) ::
  (nat_lit 559, (Obj.mk qN Option.none (Data.func (FuncData.mk (qS "plus") (qS "FlowRun.plus") (qP (qC 76 5)) (FuncBody.stmts (qB (qC 76 5))) (qK (qC 76 5)) 0 [] qN qN qN qN Option.none qN qN 0)) (qA []))) ::
  (nat_lit 560, (Obj.mk (Value.type "code") Option.none (Data.fields (qA [(qV "plus" 986), (qV "FlowRun.plus" 987), (qV "/claim/cut.py" 988), (qI 431 0), (qI 3 0), (qI 0 0), (qI 0 0), (qI 3 0), (qR 555), (Value.bool Bool.true), (qI 181 0), (qR 556), qN, (qR 557), (qR 558), (qR 559), (qI 992 0), (qI 431 0), (qV "/claim/cut.py" 993)])) (qA []))) ::
  (nat_lit 561, (Obj.mk (Value.type "function") Option.none (Data.func (FuncData.mk (qS "plus") (qS "FlowRun.plus") (qP (qC 76 5)) (FuncBody.stmts (qB (qC 76 5))) (qK (qC 76 5)) 3 [] qN qN qN (qV "basicplus.flow" 852) Option.none (qR 560) qN 0)) (qA []))) ::
  (nat_lit 562, (Obj.mk (Value.type "tuple") Option.none (Data.seq (qA []) 0) (qA []))) ::
  (nat_lit 563, (Obj.mk qN Option.none (Data.fields (qA [])) (qA []))) ::
  (nat_lit 564, (Obj.mk (Value.type "tuple") Option.none (Data.seq (qA [(qV "self" 998), (qV "at" 999), (qV "most" 1000), (qV "turn" 1001), (qV "statement" 1002)]) 0) (qA []))) ::
  (nat_lit 565, (Obj.mk (Value.type "tuple") Option.none (Data.seq (qA []) 0) (qA []))) ::
  (nat_lit 566, (Obj.mk qN Option.none (Data.func (FuncData.mk (qS "go") (qS "FlowRun.go") (qP (qC 76 6)) (FuncBody.stmts (qB (qC 76 6))) (qK (qC 76 6)) 0 [] qN qN qN qN Option.none qN qN 0)) (qA []))) ::
  (nat_lit 567, (Obj.mk (Value.type "code") Option.none (Data.fields (qA [(qV "go" 995), (qV "FlowRun.go" 996), (qV "/claim/cut.py" 997), (qI 434 0), (qI 3 0), (qI 0 0), (qI 0 0), (qI 3 0), (qR 562), (Value.bool Bool.true), (qI 181 0), (qR 563), qN, (qR 564), (qR 565), (qR 566), (qI 1003 0), (qI 434 0), (qV "/claim/cut.py" 1004)])) (qA []))) ::
  (nat_lit 568, (Obj.mk (Value.type "function") Option.none (Data.func (FuncData.mk (qS "go") (qS "FlowRun.go") (qP (qC 76 6)) (FuncBody.stmts (qB (qC 76 6))) (qK (qC 76 6)) 3 [] qN qN qN (qV "basicplus.flow" 852) Option.none (qR 567) qN 0)) (qA []))) ::
  (nat_lit 569, (Obj.mk (Value.type "tuple") Option.none (Data.seq (qA [(qV "bits" 1006), (qV "control" 1007), (qV "digits" 1008), (qV "flat" 1009), (qV "notes" 1010), (qV "values" 1011), (qV "worth_of" 1012)]) 0) (qA []))) ::
  (nat_lit 570, (Obj.mk (Value.type "dict") Option.none (Data.dict (qA [(qE P "__module__" 935 (qV "basicplus.flow" 852)), (qE P "__firstlineno__" 939 (qI 407 938)), (qE P "__init__" 951 (qR 526)), (qE P "worth" 960 (qR 533)), (qE P "whole" 968 (qR 540)), (qE P "value_of_name" 976 (qR 547)), (qE P "store" 985 (qR 554)), (qE P "plus" 994 (qR 561)), (qE P "go" 1005 (qR 568)), (qE P "__static_attributes__" 1013 (qR 569)), (qE P "__dict__" 1015 (qR 572)), (qE P "__weakref__" 1017 (qR 573)), (qE P "__doc__" 1018 qN)]) 4) (qA []))) ::
  (nat_lit 571, (Obj.mk (Value.type "type") Option.none (Data.cls (ClassData.mk (qS "FlowRun") [(Value.type "object")] [(qR 571), (Value.type "object")] 570 (qS "FlowRun") Bool.true [] [] Bool.false Option.none Bool.false)) (qA [Option.none, Option.none, (Option.some (qV "FlowRun" 928)), (Option.some (qV "FlowRun" 936)), (Option.some (Value.builtin "object.__new__")), (Option.some (Value.bool Bool.true))]))) ::
  (nat_lit 572, (Obj.mk (Value.type "getset_descriptor") Option.none (Data.fields (qA [(qV "__dict__" 1014), (qR 571), (Value.builtin "function.__dict__"), (Value.builtin "function.__dict__#set")])) (qA []))) ::
  (nat_lit 573, (Obj.mk (Value.type "getset_descriptor") Option.none (Data.fields (qA [(qV "__weakref__" 1016), (qR 571), (Value.builtin "ExceptionGroup.__weakref__"), qN])) (qA []))) ::
  (nat_lit 574, (Obj.mk (Value.type "super") Option.none (Data.fields (qA [(qR 571), (qR 571), (qR 571)])) (qA []))) ::
  (nat_lit 575, (Obj.mk (Value.type "builtin_function_or_method") Option.none (Data.fields (qA [(Value.builtin "object.__init_subclass__"), (qR 571)])) (qA []))) ::
  (nat_lit 576, (Obj.mk (Value.type "tuple") Option.none (Data.seq (qA []) 0) (qA []))) ::
  (nat_lit 577, (Obj.mk qN Option.none (Data.fields (qA [])) (qA []))) ::
  (nat_lit 578, (Obj.mk (Value.type "tuple") Option.none (Data.seq (qA [(qV "bag" 1026), (qV "below" 1027), (qV "spot" 1028)]) 0) (qA []))) ::
  (nat_lit 579, (Obj.mk (Value.type "tuple") Option.none (Data.seq (qA []) 0) (qA []))) ::
  (nat_lit 580, (Obj.mk qN Option.none (Data.func (FuncData.mk (qS "_law_draw") (qS "_law_draw") (qP (qT 78)) (FuncBody.stmts (qB (qT 78))) (qK (qT 78)) 0 [] qN qN qN qN Option.none qN qN 0)) (qA []))) ::
  (nat_lit 581, (Obj.mk (Value.type "code") Option.none (Data.fields (qA [(qV "_law_draw" 1023), (qV "_law_draw" 1024), (qV "/claim/cut.py" 1025), (qI 451 0), (qI 2 0), (qI 0 0), (qI 0 0), (qI 3 0), (qR 576), (Value.bool Bool.true), (qI 181 0), (qR 577), qN, (qR 578), (qR 579), (qR 580), (qI 1029 0), (qI 451 0), (qV "/claim/cut.py" 1030)])) (qA []))) ::
  (nat_lit 582, (Obj.mk (Value.type "function") Option.none (Data.func (FuncData.mk (qS "_law_draw") (qS "_law_draw") (qP (qT 78)) (FuncBody.stmts (qB (qT 78))) (qK (qT 78)) 3 [] qN qN qN (qV "law_xm0056_01" 1021) Option.none (qR 581) qN 0)) (qA []))) ::
  (nat_lit 583, (Obj.mk (Value.type "tuple") Option.none (Data.seq (qA []) 0) (qA []))) ::
  (nat_lit 584, (Obj.mk qN Option.none (Data.fields (qA [])) (qA []))) ::
  (nat_lit 585, (Obj.mk (Value.type "tuple") Option.none (Data.seq (qA [(qV "tree" 1035), (qV "values" 1036)]) 0) (qA []))) ::
  (nat_lit 586, (Obj.mk (Value.type "tuple") Option.none (Data.seq (qA []) 0) (qA []))) ::
  (nat_lit 587, (Obj.mk qN Option.none (Data.func (FuncData.mk (qS "_law_worth") (qS "_law_worth") (qP (qT 79)) (FuncBody.stmts (qB (qT 79))) (qK (qT 79)) 0 [] qN qN qN qN Option.none qN qN 0)) (qA []))) ::
  (nat_lit 588, (Obj.mk (Value.type "code") Option.none (Data.fields (qA [(qV "_law_worth" 1032), (qV "_law_worth" 1033), (qV "/claim/cut.py" 1034), (qI 455 0), (qI 2 0), (qI 0 0), (qI 0 0), (qI 3 0), (qR 583), (Value.bool Bool.true), (qI 181 0), (qR 584), qN, (qR 585), (qR 586), (qR 587), (qI 1037 0), (qI 455 0), (qV "/claim/cut.py" 1038)])) (qA []))) ::
  (nat_lit 589, (Obj.mk (Value.type "function") Option.none (Data.func (FuncData.mk (qS "_law_worth") (qS "_law_worth") (qP (qT 79)) (FuncBody.stmts (qB (qT 79))) (qK (qT 79)) 3 [] qN qN qN (qV "law_xm0056_01" 1021) Option.none (qR 588) qN 0)) (qA []))) ::
  (nat_lit 590, (Obj.mk (Value.type "tuple") Option.none (Data.seq (qA []) 0) (qA []))) ::
  (nat_lit 591, (Obj.mk qN Option.none (Data.fields (qA [])) (qA []))) ::
  (nat_lit 592, (Obj.mk (Value.type "tuple") Option.none (Data.seq (qA [(qV "bag" 1043), (qV "rows" 1044), (qV "depth" 1045), (qV "name" 1046)]) 0) (qA []))) ::
  (nat_lit 593, (Obj.mk (Value.type "tuple") Option.none (Data.seq (qA []) 0) (qA []))) ::
  (nat_lit 594, (Obj.mk qN Option.none (Data.func (FuncData.mk (qS "_law_open") (qS "_law_open") (qP (qT 80)) (FuncBody.stmts (qB (qT 80))) (qK (qT 80)) 0 [] qN qN qN qN Option.none qN qN 0)) (qA []))) ::
  (nat_lit 595, (Obj.mk (Value.type "code") Option.none (Data.fields (qA [(qV "_law_open" 1040), (qV "_law_open" 1041), (qV "/claim/cut.py" 1042), (qI 459 0), (qI 3 0), (qI 0 0), (qI 0 0), (qI 3 0), (qR 590), (Value.bool Bool.true), (qI 181 0), (qR 591), qN, (qR 592), (qR 593), (qR 594), (qI 1047 0), (qI 459 0), (qV "/claim/cut.py" 1048)])) (qA []))) ::
  (nat_lit 596, (Obj.mk (Value.type "function") Option.none (Data.func (FuncData.mk (qS "_law_open") (qS "_law_open") (qP (qT 80)) (FuncBody.stmts (qB (qT 80))) (qK (qT 80)) 3 [] qN qN qN (qV "law_xm0056_01" 1021) Option.none (qR 595) qN 0)) (qA []))) ::
  (nat_lit 597, (Obj.mk (Value.type "tuple") Option.none (Data.seq (qA []) 0) (qA []))) ::
  (nat_lit 598, (Obj.mk qN Option.none (Data.fields (qA [])) (qA []))) ::
  (nat_lit 599, (Obj.mk (Value.type "tuple") Option.none (Data.seq (qA [(qV "bag" 1053), (qV "rows" 1054), (qV "pile" 1055), (qV "due" 1056), (qV "at" 1057), (qV "name" 1058)]) 0) (qA []))) ::
  (nat_lit 600, (Obj.mk (Value.type "tuple") Option.none (Data.seq (qA []) 0) (qA []))) ::
  (nat_lit 601, (Obj.mk qN Option.none (Data.func (FuncData.mk (qS "_law_close") (qS "_law_close") (qP (qT 81)) (FuncBody.stmts (qB (qT 81))) (qK (qT 81)) 0 [] qN qN qN qN Option.none qN qN 0)) (qA []))) ::
  (nat_lit 602, (Obj.mk (Value.type "code") Option.none (Data.fields (qA [(qV "_law_close" 1050), (qV "_law_close" 1051), (qV "/claim/cut.py" 1052), (qI 466 0), (qI 4 0), (qI 0 0), (qI 0 0), (qI 3 0), (qR 597), (Value.bool Bool.true), (qI 181 0), (qR 598), qN, (qR 599), (qR 600), (qR 601), (qI 1059 0), (qI 466 0), (qV "/claim/cut.py" 1060)])) (qA []))) ::
  (nat_lit 603, (Obj.mk (Value.type "function") Option.none (Data.func (FuncData.mk (qS "_law_close") (qS "_law_close") (qP (qT 81)) (FuncBody.stmts (qB (qT 81))) (qK (qT 81)) 3 [] qN qN qN (qV "law_xm0056_01" 1021) Option.none (qR 602) qN 0)) (qA []))) ::
  (nat_lit 604, (Obj.mk (Value.type "tuple") Option.none (Data.seq (qA []) 0) (qA []))) ::
  (nat_lit 605, (Obj.mk qN Option.none (Data.fields (qA [])) (qA []))) ::
  (nat_lit 606, (Obj.mk (Value.type "tuple") Option.none (Data.seq (qA [(qV "bag" 1065), (qV "rows" 1066), (qV "pile" 1067), (qV "due" 1068), (qV "many" 1069), (qV "turn" 1070)]) 0) (qA []))) ::
  (nat_lit 607, (Obj.mk (Value.type "tuple") Option.none (Data.seq (qA []) 0) (qA []))) ::
  (nat_lit 608, (Obj.mk qN Option.none (Data.func (FuncData.mk (qS "_law_rows") (qS "_law_rows") (qP (qT 82)) (FuncBody.stmts (qB (qT 82))) (qK (qT 82)) 0 [] qN qN qN qN Option.none qN qN 0)) (qA []))) ::
  (nat_lit 609, (Obj.mk (Value.type "code") Option.none (Data.fields (qA [(qV "_law_rows" 1062), (qV "_law_rows" 1063), (qV "/claim/cut.py" 1064), (qI 476 0), (qI 1 0), (qI 0 0), (qI 0 0), (qI 3 0), (qR 604), (Value.bool Bool.true), (qI 181 0), (qR 605), qN, (qR 606), (qR 607), (qR 608), (qI 1071 0), (qI 476 0), (qV "/claim/cut.py" 1072)])) (qA []))) ::
  (nat_lit 610, (Obj.mk (Value.type "function") Option.none (Data.func (FuncData.mk (qS "_law_rows") (qS "_law_rows") (qP (qT 82)) (FuncBody.stmts (qB (qT 82))) (qK (qT 82)) 3 [] qN qN qN (qV "law_xm0056_01" 1021) Option.none (qR 609) qN 0)) (qA []))) ::
  (nat_lit 611, (Obj.mk (Value.type "tuple") Option.none (Data.seq (qA []) 0) (qA []))) ::
  (nat_lit 612, (Obj.mk qN Option.none (Data.fields (qA [])) (qA []))) ::
  (nat_lit 613, (Obj.mk (Value.type "tuple") Option.none (Data.seq (qA [(qV "statement" 1077)]) 0) (qA []))) ::
  (nat_lit 614, (Obj.mk (Value.type "tuple") Option.none (Data.seq (qA []) 0) (qA []))) ::
  (nat_lit 615, (Obj.mk qN Option.none (Data.func (FuncData.mk (qS "_law_word") (qS "_law_word") (qP (qT 83)) (FuncBody.stmts (qB (qT 83))) (qK (qT 83)) 0 [] qN qN qN qN Option.none qN qN 0)) (qA []))) ::
  (nat_lit 616, (Obj.mk (Value.type "code") Option.none (Data.fields (qA [(qV "_law_word" 1074), (qV "_law_word" 1075), (qV "/claim/cut.py" 1076), (qI 487 0), (qI 1 0), (qI 0 0), (qI 0 0), (qI 3 0), (qR 611), (Value.bool Bool.true), (qI 181 0), (qR 612), qN, (qR 613), (qR 614), (qR 615), (qI 1078 0), (qI 487 0), (qV "/claim/cut.py" 1079)])) (qA []))) ::
  (nat_lit 617, (Obj.mk (Value.type "function") Option.none (Data.func (FuncData.mk (qS "_law_word") (qS "_law_word") (qP (qT 83)) (FuncBody.stmts (qB (qT 83))) (qK (qT 83)) 3 [] qN qN qN (qV "law_xm0056_01" 1021) Option.none (qR 616) qN 0)) (qA []))) ::
  (nat_lit 618, (Obj.mk (Value.type "tuple") Option.none (Data.seq (qA []) 0) (qA []))) ::
  (nat_lit 619, (Obj.mk qN Option.none (Data.fields (qA [])) (qA []))) ::
  (nat_lit 620, (Obj.mk qN Option.none (Data.func (FuncData.mk (qS "law") (qS "law") (qP (qT 84)) (FuncBody.stmts (qB (qT 84))) (qK (qT 84)) 0 [] qN qN qN qN Option.none qN qN 0)) (qA []))) ::
  (nat_lit 621, (Obj.mk (Value.type "code") Option.none (Data.fields (qA [(qV "law" 1081), (qV "law" 1082), (qV "/claim/cut.py" 1083), (qI 491 0), (qI 1 0), (qI 0 0), (qI 0 0), (qI 3 0), (qR 618), (Value.bool Bool.true), (qI 181 0), (qR 619), qN, qN, qN, (qR 620), (qI 1084 0), (qI 491 0), (qV "/claim/cut.py" 1085)])) (qA []))) ::
  (nat_lit 622, (Obj.mk (Value.type "function") Option.none (Data.func (FuncData.mk (qS "law") (qS "law") (qP (qT 84)) (FuncBody.stmts (qB (qT 84))) (qK (qT 84)) 3 [] qN qN qN (qV "law_xm0056_01" 1021) Option.none (qR 621) qN 0)) (qA []))) ::
  []
noncomputable def snds : Frag → List Obj
  | [] => []
  | p :: r => p.2 :: snds r
noncomputable def alt : List Obj → List Obj × List Obj
  | [] => ([], [])
  | x :: r => (x :: (alt r).2, (alt r).1)
/-- the tree of a list's objects -/
noncomputable def mkT : Nat → List Obj → BT
  | 0, _ => .nil
  | _, [] => .nil
  | d + 1, o :: r => .node o (mkT d (alt r).1) (mkT d (alt r).2)
noncomputable def qLife : Life := PySem.Life.mk [] [] [] 0 [] [] false #[] [] 0 false false false 0 [2000, 10, 10] false 0 true [] [] 0 false
noncomputable def h46 (P : Params) : Heap := ⟨qA (q46 P), qLife⟩
noncomputable def t47 (P : Params) : BT := mkT 11 (q47 P)
noncomputable def tEnd (P : Params) : BT := mkT 11 (snds (hd.heap_39 P))
noncomputable def hEnd (P : Params) : Heap := ⟨qA (snds (hd.heap_39 P)), qLife⟩
noncomputable def qEnv : Env := { scope := PR.main.scope, locals := mainNs, globals := mainNs, cells := [], code := .ref 13, frame := some 14 }
noncomputable def qCode : Code := .body (behindTheImports PR) qEnv
theorem h_pre (w : World) (os : OsState) : topGo treeTable PR w 11 (some (.ref 6)) 12 ⟨boot_heap w.params, #[], boot_drawn, boot_toks, os⟩ (topStub PR) = some (⟨h46 w.params, #[], ⟨0, 0, 0, 0⟩, 187, os⟩, ⟨denote treeTable qCode, qCode, ⟨0, 0, 0, 0⟩, [topFrame ⟨0, 0, 0, 0⟩]⟩) := by kernel_rfl
theorem h_block (w : World) (os : OsState) : segRun treeTable PR w 11 (some (.ref 6)) 1 1 ⟨h46 w.params, #[], ⟨0, 0, 0, 0⟩, 187, os⟩ (blockOf (behindTheImports PR) qEnv qCode ⟨0, 0, 0, 0⟩ [topFrame ⟨0, 0, 0, 0⟩]) = some (.next, (SharedT.mk (t47 w.params) 15 qLife #[] ⟨0, 0, 0, 0⟩ 187 os).abs, qCode, ⟨0, 0, 0, 0⟩) := by kernel_rfl
noncomputable def tS (P : Params) (n : Nat) (a b : Obj) : BT := mkT 11 ((((snds (hd.heap_39 P)).take n).set 3 a).set 12 b)
noncomputable def qL0 : List Stmt := behindTheImports PR
noncomputable def tS1 (P : Params) : BT := tS P 164
  (Obj.mk (Value.type "dict") Option.none (Data.dict (qA [(qE P "__name__" 165 (qV "basicplus.control" 314)), (qE P "__doc__" 166 qN), (qE P "__package__" 167 qN), (qE P "__loader__" 168 (Value.builtin "__main__.__loader__#opaque")), (qE P "__spec__" 169 qN), (qE P "__annotations__" 170 (qR 6)), (qE P "__builtins__" 171 (qR 4)), (qE P "__file__" 173 (qV "/claim/cut.py" 172)), (qE P "__cached__" 174 qN), (qE P "MOST_EXPONENT" 190 (qI 99 189)), (qE P "BasicError" 224 (qR 34)), (qE P "figures_of" 233 (qR 44)), (qE P "rounded_by" 244 (qR 51)), (qE P "made" 256 (qR 58)), (qE P "whole_near" 266 (qR 65)), (qE P "fits" 274 (qR 72)), (qE P "whole_of" 283 (qR 79)), (qE P "decimal_of" 291 (qR 86)), (qE P "is_nought" 298 (qR 93)), (qE P "is_true" 305 (qR 100)), (qE P "sign_of" 313 (qR 107)), (qE P "MOST_NUMBER" 317 (qI 255 316)), (qE P "Control" 348 (qR 124)), (qE P "put_upon" 356 (qR 135)), (qE P "floor_of" 364 (qR 142)), (qE P "found_at" 374 (qR 149)), (qE P "cut_to" 382 (qR 156)), (qE P "is_past" 392 (qR 163))]) 28) (qA []))
  (Obj.mk qN Option.none (Data.fields (qA [(qI 3 0), (qI 0 0), (qR 21), (qI 9 0), (qI 0 0), (qR 43), (qI 15 0), (qI 0 0), (qR 50), (qI 25 0), (qI 0 0), (qR 57), (qI 40 0), (qI 0 0), (qR 64), (qI 46 0), (qI 0 0), (qR 71), (qI 48 0), (qI 0 0), (qR 78), (qI 55 0), (qI 0 0), (qR 85), (qI 59 0), (qI 0 0), (qR 92), (qI 63 0), (qI 0 0), (qR 99), (qI 65 0), (qI 0 0), (qR 106), (qI 72 0), (qI 0 0), (qR 113), (qI 78 0), (qI 0 0), (qR 134), (qI 82 0), (qI 0 0), (qR 141), (qI 87 0), (qI 0 0), (qR 148), (qI 92 0), (qI 0 0), (qR 155), (qI 94 0), (qI 0 0), (qR 162)])) (qA []))
theorem h_s1 (w : World) (os : OsState) : segRunT treeTable PR w 11 (some (.ref 6)) 1 972 (SharedT.mk (t47 w.params) 15 qLife #[] ⟨0, 0, 0, 0⟩ 187 os) (piecesOf (qL0.take 21) qEnv qCode ⟨0, 0, 0, 0⟩ [topFrame ⟨0, 0, 0, 0⟩]) = some (.next, SharedT.mk (tS1 w.params) 164 qLife #[] ⟨0, 0, 0, 0⟩ 393 os, qCode, ⟨94, 0, 95, 85⟩) := by kernel_rfl
noncomputable def qL1 : List Stmt := qL0.drop 21
noncomputable def tS2 (P : Params) : BT := tS P 372
  (Obj.mk (Value.type "dict") Option.none (Data.dict (qA [(qE P "__name__" 165 (qV "basicplus.decimals" 647)), (qE P "__doc__" 166 qN), (qE P "__package__" 167 qN), (qE P "__loader__" 168 (Value.builtin "__main__.__loader__#opaque")), (qE P "__spec__" 169 qN), (qE P "__annotations__" 170 (qR 6)), (qE P "__builtins__" 171 (qR 4)), (qE P "__file__" 173 (qV "/claim/cut.py" 172)), (qE P "__cached__" 174 qN), (qE P "MOST_EXPONENT" 190 (qI 99 189)), (qE P "BasicError" 224 (qR 34)), (qE P "figures_of" 233 (qR 44)), (qE P "rounded_by" 244 (qR 51)), (qE P "made" 256 (qR 58)), (qE P "whole_near" 266 (qR 65)), (qE P "fits" 274 (qR 72)), (qE P "whole_of" 283 (qR 79)), (qE P "decimal_of" 291 (qR 86)), (qE P "is_nought" 298 (qR 93)), (qE P "is_true" 305 (qR 100)), (qE P "sign_of" 313 (qR 107)), (qE P "MOST_NUMBER" 317 (qI 255 316)), (qE P "Control" 348 (qR 124)), (qE P "put_upon" 356 (qR 135)), (qE P "floor_of" 364 (qR 142)), (qE P "found_at" 374 (qR 149)), (qE P "cut_to" 382 (qR 156)), (qE P "is_past" 392 (qR 163)), (qE P "for_begin" 404 (qR 170)), (qE P "for_name" 413 (qR 177)), (qE P "for_next" 430 (qR 184)), (qE P "while_begin" 436 (qR 189)), (qE P "while_end" 442 (qR 194)), (qE P "wend_place" 452 (qR 202)), (qE P "loop_ends" 465 (qR 209)), (qE P "end_loop" 477 (qR 216)), (qE P "gosub" 485 (qR 223)), (qE P "return_place" 494 (qR 230)), (qE P "chosen" 502 (qR 237)), (qE P "Flat" 537 (qR 254)), (qE P "put_row_of" 546 (qR 265)), (qE P "put_if" 557 (qR 272)), (qE P "put_all" 567 (qR 279)), (qE P "gather" 583 (qR 286)), (qE P "join_rows" 593 (qR 293)), (qE P "end_loops" 604 (qR 300)), (qE P "flatten" 614 (qR 307)), (qE P "place_of" 622 (qR 314)), (qE P "line_of" 630 (qR 321)), (qE P "end_of_while" 638 (qR 328)), (qE P "next_of_for" 646 (qR 335)), (qE P "ONE" 651 (qR 336)), (qE P "MOST_POWER" 653 (qI 9999 652)), (qE P "d_negated" 660 (qR 343)), (qE P "alike" 669 (qR 350)), (qE P "d_add" 681 (qR 357)), (qE P "d_sub" 690 (qR 364)), (qE P "d_mul" 699 (qR 371))]) 58) (qA []))
  (Obj.mk qN Option.none (Data.fields (qA [(qI 3 0), (qI 0 0), (qR 21), (qI 9 0), (qI 0 0), (qR 43), (qI 15 0), (qI 0 0), (qR 50), (qI 25 0), (qI 0 0), (qR 57), (qI 40 0), (qI 0 0), (qR 64), (qI 46 0), (qI 0 0), (qR 71), (qI 48 0), (qI 0 0), (qR 78), (qI 55 0), (qI 0 0), (qR 85), (qI 59 0), (qI 0 0), (qR 92), (qI 63 0), (qI 0 0), (qR 99), (qI 65 0), (qI 0 0), (qR 106), (qI 72 0), (qI 0 0), (qR 113), (qI 78 0), (qI 0 0), (qR 134), (qI 82 0), (qI 0 0), (qR 141), (qI 87 0), (qI 0 0), (qR 148), (qI 92 0), (qI 0 0), (qR 155), (qI 94 0), (qI 0 0), (qR 162), (qI 96 0), (qI 0 0), (qR 169), (qI 101 0), (qI 0 0), (qR 176), (qI 106 0), (qI 0 0), (qR 183), (qI 117 0), (qI 0 0), (qR 188), (qI 124 0), (qI 0 0), (qR 193), (qI 129 0), (qI 0 0), (qR 201), (qI 135 0), (qI 0 0), (qR 208), (qI 146 0), (qI 0 0), (qR 215), (qI 153 0), (qI 0 0), (qR 222), (qI 155 0), (qI 0 0), (qR 229), (qI 162 0), (qI 0 0), (qR 236), (qI 167 0), (qI 0 0), (qR 243), (qI 176 0), (qI 0 0), (qR 264), (qI 179 0), (qI 0 0), (qR 271), (qI 189 0), (qI 0 0), (qR 278), (qI 195 0), (qI 0 0), (qR 285), (qI 217 0), (qI 0 0), (qR 292), (qI 222 0), (qI 0 0), (qR 299), (qI 226 0), (qI 0 0), (qR 306), (qI 235 0), (qI 0 0), (qR 313), (qI 239 0), (qI 0 0), (qR 320), (qI 241 0), (qI 0 0), (qR 327), (qI 245 0), (qI 0 0), (qR 334), (qI 252 0), (qI 0 0), (qR 342), (qI 254 0), (qI 0 0), (qR 349), (qI 257 0), (qI 0 0), (qR 356), (qI 260 0), (qI 0 0), (qR 363), (qI 262 0), (qI 0 0), (qR 370)])) (qA []))
theorem h_s2 (w : World) (os : OsState) : segRunT treeTable PR w 11 (some (.ref 6)) 1 1122 (SharedT.mk (tS1 w.params) 164 qLife #[] ⟨0, 0, 0, 0⟩ 393 os) (piecesOf (qL1.take 32) qEnv qCode ⟨94, 0, 95, 85⟩ [topFrame ⟨0, 0, 0, 0⟩]) = some (.next, SharedT.mk (tS2 w.params) 372 qLife #[] ⟨0, 0, 0, 0⟩ 700 os, qCode, ⟨262, 0, 263, 49⟩) := by kernel_rfl
noncomputable def qL2 : List Stmt := qL1.drop 32
theorem h_s3 (w : World) (os : OsState) : segRunT treeTable PR w 11 (some (.ref 6)) 1 1347 (SharedT.mk (tS2 w.params) 372 qLife #[] ⟨0, 0, 0, 0⟩ 700 os) (piecesOf (qL2.take 32) qEnv qCode ⟨262, 0, 263, 49⟩ [topFrame ⟨0, 0, 0, 0⟩]) = some (.next, SharedT.mk (tEnd w.params) 623 qLife #[] ⟨0, 0, 0, 0⟩ 1087 os, qCode, ⟨491, 0, 513, 16⟩) := by kernel_rfl
noncomputable def qL3 : List Stmt := qL2.drop 32
theorem q_end : qL3 = [] := by kernel_rfl
theorem h_last (w : World) (os : OsState) : topRun treeTable PR w 11 (some (.ref 6)) 2 (SharedT.mk (tEnd w.params) 623 qLife #[] ⟨0, 0, 0, 0⟩ 1087 os).abs ⟨doneF .next, qCode, ⟨491, 0, 513, 16⟩, [topFrame ⟨0, 0, 0, 0⟩]⟩ = some ⟨hEnd w.params, #[], ⟨0, 0, 0, 0⟩, 1087, os⟩ := by kernel_rfl

noncomputable def hd.view_39 : Program := { PR with main := { PR.main with body := ((upFrom 0 85).filter fun k => !hasN k [0, 13, 26, 32, 45, 58, 69, 77]).map qT } }
noncomputable def qD : DefRec := { name := Str.ofString "law", params := qP (qT 84), body := qB (qT 84), scope := qK (qT 84), pos := ⟨491, 0, 513, 16⟩ }
noncomputable def qLoose : List Str := [Str.ofString "BasicError", Str.ofString "wend_place"]
noncomputable def qAs : List Nat := upFrom 0 623
theorem q_as (P : Params) : qAs = (hd.heap_39 P).map (·.1) := by kernel_rfl
section
variable {tb : String → Option Builtin} {p : Program} {w : World} {n₀ : Nat} {ann : Option Value} {env : Env} {q : Pos}
theorem piece_take {n N : Nat} {s s' r : Shared} {l : List Stmt} (m : Nat) {c : Code} {pos p' : Pos} (h : segRun tb p w n₀ ann 1 n s (piecesOf (l.take m) env c pos [topFrame q]) = some (.next, s', c, p'))
    (k : topRun tb p w n₀ ann N s' (restOf (l.drop m) env c p' [topFrame q]) = some r) : topRun tb p w n₀ ann (n + N) s (restOf l env c pos [topFrame q]) = some r := by
  have e := piece_app h k
  rw [List.take_append_drop] at e
  exact e
end
theorem h_run (w : World) (os : OsState) : topRun treeTable PR w 11 (some (.ref 6)) (12 + (1 + (972 + (1122 + (1347 + 2))))) ⟨boot_heap w.params, #[], boot_drawn, boot_toks, os⟩ (topStub PR) = some ⟨hEnd w.params, #[], ⟨0, 0, 0, 0⟩, 1087, os⟩ := by
  refine go_top (h_pre w os) (piece_block (h_block w os) ?_)
  show topRun _ _ _ _ _ _ _ (restOf qL0 _ _ _ _) = _
  refine piece_take (l := qL0) 21 (segRun_of (h_s1 w os)) ?_
  show topRun _ _ _ _ _ _ _ (restOf qL1 _ _ _ _) = _
  refine piece_take (l := qL1) 32 (segRun_of (h_s2 w os)) ?_
  show topRun _ _ _ _ _ _ _ (restOf qL2 _ _ _ _) = _
  refine piece_take (l := qL2) 32 (segRun_of (h_s3 w os)) ?_
  show topRun _ _ _ _ _ _ _ (restOf qL3 _ _ _ _) = _
  rw [q_end]
  exact piece_nil (h_last w os)
theorem h_open (w : World) : (fencedOpening treeTable PR w 7002).map (fun s => (s.heap, s.gens, s.drawn, s.toks)) = some (boot_heap w.params, #[], boot_drawn, boot_toks) := boot_open (by kernel_rfl) (by decide) (fun _ => by kernel_rfl) w
theorem h_size (w : World) : ((boot_heap w.params).isNs mainGlobals && (#[] : Array GenState).size == 0, (boot_heap w.params).objs.size, (boot_heap w.params).nsMap mainGlobals "__annotations__") = (true, 11, some (.ref 6)) := by kernel_rfl
noncomputable def qHook : Hook := kHook hd.heap_39 qAs q_as
noncomputable abbrev qXt : Shared → Bool := fun s => xlAt hd.view_39 [] s && recOk (RowW.records PySem.Challenge.rw_xm0056_01.row.toRowW) s
theorem h_look1 (w : World) (os : OsState) : (staticsOk (importedModules PR.main.body) (boot_heap w.params) (hEnd w.params) && namesBound PR (hEnd w.params) && gensDone ⟨hEnd w.params, #[], ⟨0, 0, 0, 0⟩, 1087, os⟩ && laidKept (boot_heap w.params) (hEnd w.params)) = true := by kernel_rfl
theorem snds_map : ∀ K : Frag, snds K = K.map (·.2)
  | [] => rfl
  | p :: r => congrArg (p.2 :: ·) (snds_map r)
theorem get_from (life : Life) : ∀ (r pre : List Obj) (k : Nat), (r.all fun o => o.alive) = true → pre.length = k → (upFrom k r.length).map (fun a => Heap.get? ⟨⟨pre ++ r⟩, life⟩ a) = r.map some
  | [], _, _, _, _ => rfl
  | x :: r, pre, k, b, e => by
    obtain ⟨b1, b2⟩ := Bool.and_eq_true_iff.mp b
    have h2 := get_from life r (pre ++ [x]) (k + 1) b2 (by rw [List.length_append, e]; rfl)
    rw [List.append_assoc] at h2
    have h1 : Heap.get? ⟨⟨pre ++ x :: r⟩, life⟩ k = some x := by
      subst e
      refine (Heap.get?_eq_some _ _ _).2 ⟨?_, b1⟩
      show (Array.mk (pre ++ x :: r))[pre.length]? = some x
      simp
    exact (congrArg (· :: _) h1).trans (congrArg (some x :: ·) h2)
theorem look_all (life : Life) (K : Frag) (n : Nat) (e : K.length = n) (b : ((snds K).all fun o => o.alive) = true) : (upFrom 0 n).map (Heap.get? ⟨qA (snds K), life⟩) = K.map fun p => some p.2 := by
  have h := get_from life (snds K) [] 0 b rfl
  rw [snds_map, List.length_map, e, List.map_map, ← snds_map] at h
  exact h
theorem h_alive (P : Params) : ((snds (hd.heap_39 P)).all fun o => o.alive) = true := by kernel_rfl
theorem h_len (P : Params) : (hd.heap_39 P).length = 623 := by kernel_rfl
theorem h_look3 (w : World) (os : OsState) : qHook.obs ⟨hEnd w.params, #[], ⟨0, 0, 0, 0⟩, 1087, os⟩ = qHook.val w := look_all qLife (hd.heap_39 w.params) 623 (h_len _) (h_alive _)

noncomputable abbrev qEnd (w : World) (os : OsState) : Shared := ⟨hEnd w.params, #[], ⟨0, 0, 0, 0⟩, 1087, os⟩
theorem h_kA (w : World) (os : OsState) : seen ((recsOf hd.view_39).map (·.name)) (ownsOf hd.view_39) [] { qEnd w os with gens := #[] } = expectedOf hd.view_39 ∧ (qEnd w os).heap.bltView = bltViewBooted :=
  ⟨by kernel_rfl, by kernel_rfl⟩
theorem h_kB (w : World) (os : OsState) : ((qEnd w os).heap.keysOk (looseW hd.view_39 qLoose) ((recsOf hd.view_39).map (·.name)) ((litsOf hd.view_39).map (·.1)) ((clssOf hd.view_39 (looseW hd.view_39 qLoose)).map (·.name)) && (qEnd w os).heap.accountedOkI (importedModules PR.main.body) && (qEnd w os).heap.isNs mainGlobals && (qEnd w os).heap.isNs builtinsNs && tablesOk hd.view_39 (qEnd w os).heap && qXt (qEnd w os) && (if true then (qEnd w os).gens.size == 0 else !leftWithCleanup (qEnd w os).gens)) = true := by kernel_rfl
theorem h_kC (w : World) (os : OsState) : tabsOk hd.view_39 (qEnd w os) = true ∧ pinSeenD hd.view_39 (drecsOf hd.view_39) (qEnd w os) = pinGoodD (drecsOf hd.view_39) :=
  ⟨by kernel_rfl, by kernel_rfl⟩
theorem h_kD (w : World) (os : OsState) : plainSeenE hd.view_39 (looseW hd.view_39 qLoose) (qEnd w os) = plainGoodE hd.view_39 (looseW hd.view_39 qLoose) ∧ plainSeenD hd.view_39 qLoose (qEnd w os) = plainGoodD hd.view_39 qLoose :=
  ⟨by kernel_rfl, by kernel_rfl⟩
theorem h_kE (w : World) (os : OsState) : wideSeen hd.view_39 (qEnd w os) = wideGood hd.view_39 ∧ clsSeenW hd.view_39 qLoose (qEnd w os) = clsGoodW hd.view_39 qLoose :=
  ⟨by kernel_rfl, by kernel_rfl⟩
theorem tup9 {t1 t2 t3 t4 t5 t6 t7 t8 t9 : Type} {a1 b1 : t1} {a2 b2 : t2} {a3 b3 : t3} {a4 b4 : t4} {a5 b5 : t5} {a6 b6 : t6} {a7 b7 : t7} {a8 b8 : t8} {a9 b9 : t9} (e1 : a1 = b1) (e2 : a2 = b2) (e3 : a3 = b3) (e4 : a4 = b4) (e5 : a5 = b5) (e6 : a6 = b6) (e7 : a7 = b7) (e8 : a8 = b8) (e9 : a9 = b9) : (a1, a2, a3, a4, a5, a6, a7, a8, a9) = (b1, b2, b3, b4, b5, b6, b7, b8, b9) := by
  rw [e1, e2, e3, e4, e5, e6, e7, e8, e9]
theorem h_look2 (w : World) (os : OsState) : openSeen hd.view_39 qLoose (importedModules PR.main.body) qXt true (qEnd w os) = openGood hd.view_39 qLoose :=
  tup9 (h_kA w os).1 (h_kA w os).2 (h_kB w os) (h_kC w os).1 (h_kC w os).2 (h_kD w os).1 (h_kD w os).2 (h_kE w os).1 (h_kE w os).2
theorem h_left : LeftO PR hd.view_39 qLoose qXt qHook.obs qHook.val 7002 :=
  LeftO.of_pieces h_open h_size h_run (by decide) fun w => funext fun os => Prod.ext (h_look1 w os) (Prod.ext (h_look2 w os) (h_look3 w os))

theorem h_open1 : looksOpen PR = true := by
  delta looksOpen
  repeat' (with_reducible refine look_both ?_ ?_)
  all_goals decide +kernel
theorem h_row : PySem.Challenge.rw_xm0056_01.row.wellSaid = true := by
  delta OpenRow.wellSaid
  refine look_both (look_both ?_ ?_) ?_
  · delta OpenRow.partSaid
    repeat' (with_reducible refine look_both ?_ ?_)
    · exact h_open1
    all_goals decide +kernel
  all_goals decide +kernel
theorem h_said : PySem.Challenge.rw_xm0056_01.wellSaid = true := by
  delta OpenLaw.wellSaid
  repeat' (with_reducible refine look_both ?_ ?_)
  · exact h_row
  all_goals decide +kernel
theorem hd (walk : WalkO hd.view_39 qLoose (XL hd.view_39 []) (kHook hd.heap_39 qAs q_as).says PySem.Challenge.rw_xm0056_01.row.toRowW qD [] fun f vs => PySem.call f vs) : PySem.Challenge.rw_xm0056_01.Holds := by
  w_on
  refine holds_law h_said fun said => ?_
  refine holds_open (q := hd.view_39) (loose := qLoose) (Xt := qXt) (XP := XL hd.view_39 []) (Yf := qHook.obs) (Ya := qHook.val) (YP := qHook.says) (N := 7002) h_left qHook.of qHook.keeps (fun s e => xl_of s (Bool.and_eq_true_iff.mp e).1) XL.keeps (by kernel_rfl) (by kernel_rfl) (by kernel_rfl) (fun s e => recFacts_of (Bool.and_eq_true_iff.mp e).2) (by rfl) (by first | assumption | decide +kernel) (by decide +kernel) ⟨rfl, rfl, rfl, rfl, rfl, by decide +kernel⟩ ?hw walk
  case hw => w_witness2

example : PySem.Challenge.rw_xm0056_01 = PySem.Challenge.rw_xm0056_01 ∧ hd.heap_39 = hd.heap_39 := by
  k_fill
  exact ⟨rfl, rfl⟩

noncomputable abbrev LO : List Str := looseW hd.view_39 [Str.ofString "BasicError", Str.ofString "wend_place"]

/-- from h to h' only the addresses of S may change -/
noncomputable def Step (S : List Addr) (h h' : Heap) : Prop := ∀ b o, h.get? b = some o → b ∉ S → h'.get? b = some o
abbrev Ar (dp un : Nat) (gd : Option (List Code)) (env : Env) (outer : List Env) : Around := { handled := none, depth := dp, frames := some (env :: outer), guards := gd, units := un }

section
variable {M : Model} {A : Around} {E : Value → Shared → Prop} {env : Env} {s : Shared} {st : Stmt} {rest : List Stmt} {Q : Flow → Shared → Prop}
end
@[reducible] noncomputable def retV : Flow → Value := fun fl => match fl with | .ret v => v | _ => .none
theorem list_step {S h h' a vs} (t : Heap.IsList h a vs) (st : Step S h h') (hn : a ∉ S) : Heap.IsList h' a vs := let ⟨o, ho, r⟩ := t; ⟨o, st a o ho hn, r⟩
section
variable {prog : Program} {w : World} {A : Around} {E : Value → Shared → Prop} {s : Shared} {h₀ : Heap} {L l D b d : Addr} {m : Str → Option Value} {news news' : List (Addr × Obj)}
theorem ext_led {us ws : List Value} {n n2 : Nat} {Q : Value → Shared → Prop} (F : Fr h₀ L s.heap m) (N : News h₀ L s.heap news) (hb : (b, listOf ws.toArray n2) ∈ news) (hne : ws.length ≠ 0)
    (U : Upd D (listOf us.toArray n) (listOf (us ++ ws).toArray (n + 1)) news news') (hz : us.length + ws.length ≤ 1000)
    (h : ∀ h', Fr h₀ L h' m → News h₀ L h' news' → Q .none { s with heap := h' }) : wpAny (model prog w) A (call (.builtin "list.extend") [.ref D, .ref b]) Q E s := by
  refine kl_extend F N hb (l := us ++ ws) (by simp) (by simpa using hne) U ?_ ?_ ?_ h
  · simp only [Bool.and_eq_true, not_and, List.size_toArray]
    intro _
    simp only [Builtin.List.listTooLong, decide_eq_true_eq, sizeLine_eq]
    omega
  · rw [sizeLine_eq]; simp; omega
  · rw [sizeLine_eq]; simp; omega
theorem pop_led {us : List Value} {v : Value} {n : Nat} {Q : Value → Shared → Prop} (F : Fr h₀ L s.heap m) (N : News h₀ L s.heap news) (U : Upd D (listOf (us ++ [v]).toArray n) (listOf us.toArray (n + 1)) news news') (hz : us.length ≤ 1000)
    (h : ∀ h', Fr h₀ L h' m → News h₀ L h' news' → Q v { s with heap := h' }) : wpAny (model prog w) A (call (.builtin "list.pop") [.ref D]) Q E s :=
  kl_pop F N (p := us) (y := v) (by simpa using kpa_last v us) U (by rw [sizeLine_eq]; simp; omega) h
theorem app_led {us : List Value} {v : Value} {n : Nat} {Q : Value → Shared → Prop} (F : Fr h₀ L s.heap m) (N : News h₀ L s.heap news) (U : Upd D (listOf us.toArray n) (listOf (us ++ [v]).toArray (n + 1)) news news') (hz : us.length ≤ 1000)
    (h : ∀ h', Fr h₀ L h' m → News h₀ L h' news' → Q .none { s with heap := h' }) : wpAny (model prog w) A (call (.builtin "list.append") [.ref D, v]) Q E s :=
  append_K (its := us.toArray) F N (by rw [List.push_toArray]; exact U) h (by rw [sizeLine_eq, List.size_toArray]; omega)
section
variable {K : Type} [DecidableEq K] {knd : KeyKind prog w K} {kvs : List (K × Value)} {k : K} {key v : Value} {o : Obj} {g : Obj → List (Addr × Obj)}
theorem put_led {Q : Unit → Shared → Prop} (hkey : knd.is k key = true) (F : Fr h₀ L s.heap m) (N : News h₀ L s.heap news) (U : UpdF d o news g) (hd : o.IsDictOf knd kvs) (hz : kvs.length ≤ 1000)
    (h : ∀ h' o', Fr h₀ L h' m → News h₀ L h' (g o') → o'.IsDictOf knd (stored kvs k v) → Q () { s with heap := h', toks := s.toks + 1 }) : wpAny (model prog w) A (setItem (.ref d) key v) Q E s := by
  obtain ⟨pre, post, rfl, hg, a, b⟩ := U.split
  have hm := N (d, o) (List.mem_append_right _ (.head _))
  refine wpAny_setItem_pairs (hsz := by rw [sizeLine_eq]; omega) hkey (Heap.dictOf_iff.mpr ⟨o, hm.1, hd⟩) fun h' hmm hs => ?_
  obtain ⟨o', ho', hd'⟩ := Heap.dictOf_iff.mp hmm
  exact h h' o' (F.change hs hm.2.1 hm.2.2) (hg o' ▸ N.setIn a b hs ho') hd'
end
end
/-- a dict's pairs, key by key -/
inductive Prs {K α : Type} (P : Value → α → Prop) : List (K × Value) → List (K × α) → Prop
  | nil : Prs P [] []
  | cons {k v x kvs d} : P v x → Prs P kvs d → Prs P ((k, v) :: kvs) ((k, x) :: d)
namespace Prs
variable {K α : Type} [DecidableEq K] {P P' : Value → α → Prop} {kvs : List (K × Value)} {d : List (K × α)}
theorem length (h : Prs P kvs d) : kvs.length = d.length := by induction h <;> simp_all
theorem mono (h : Prs P kvs d) (hp : ∀ v x, P v x → P' v x) : Prs P' kvs d := by
  induction h with
  | nil => exact .nil
  | cons a _ ih => exact .cons (hp _ _ a) ih
theorem keys (h : Prs P kvs d) (k : K) : kvs.any (fun p => p.1 = k) = d.any (fun p => p.1 = k) := by
  induction h with
  | nil => rfl
  | cons a _ ih => simp [List.any_cons, ih]
theorem put (h : Prs P kvs d) {k : K} {v : Value} {x : α} (hv : P v x) : Prs P (stored kvs k v) (putK d k x) := by
  unfold stored putK
  rw [h.keys k]
  split
  · rename_i hc; clear hc
    induction h with
    | nil => exact .nil
    | @cons k' v' x' kvs d a _ ih =>
      simp only [List.map_cons]
      by_cases e : k' = k
      · simp only [e, if_true]; exact .cons hv ih
      · simp only [e, if_false]; exact .cons a ih
  · rename_i hc; clear hc
    induction h with
    | nil => exact .cons hv .nil
    | cons a _ ih => exact .cons a ih
theorem get (h : Prs P kvs d) {k : K} {x : α} (hx : d.lookup k = some x) : ∃ v, valueAt kvs k = some v ∧ P v x := by
  induction h with
  | nil => cases hx
  | @cons k' v' x' kvs d a _ ih =>
    unfold valueAt at ih ⊢
    by_cases e : k' = k
    · subst e
      rw [List.lookup_cons, beq_self_eq_true] at hx
      cases hx
      exact ⟨v', by simp, a⟩
    · have e' : (k == k') = false := by rw [beq_eq_false_iff_ne]; exact fun q => e q.symm
      rw [List.lookup_cons, e'] at hx
      obtain ⟨v, h1, h2⟩ := ih hx
      exact ⟨v, by rw [List.find?_cons]; simp only [e, decide_false]; exact h1, h2⟩
theorem none (h : Prs P kvs d) {k : K} (hx : d.lookup k = none) : valueAt kvs k = none := by
  induction h with
  | nil => rfl
  | @cons k' v' x' kvs d a _ ih =>
    unfold valueAt at ih ⊢
    by_cases e : k' = k
    · subst e
      rw [List.lookup_cons, beq_self_eq_true] at hx
      cases hx
    · have e' : (k == k') = false := by rw [beq_eq_false_iff_ne]; exact fun q => e q.symm
      rw [List.lookup_cons, e'] at hx
      rw [List.find?_cons]; simp only [e, decide_false]; exact ih hx
end Prs
/-! A clean machine for the language's part that this law reaches: immutable data, a small store, what a piece of code brings (a Prop for each continuation). -/
inductive D where
  | none | bool (b : Bool) | int (i : Int) | str (s : Str) | tup (l : List D) | fl (l : List D)
inductive V where
  | d (x : D) | tup (l : List V) | ref (i : Nat) | own (a : Nat) | blt (id : String) | typ (n : String) | bm (i f : Nat) | scr | cut
inductive O where
  | list (l : List D) | flist (l : List D) | dictI (l : List (Int × D)) | fdictI (l : List (Int × D)) | dictS (l : List (Str × D)) | inst (c : Nat) (fs : List (Str × V)) | bag (spot : Nat) | dead
structure St where
  m : List (Str × V)
  N : List O
inductive Fl where
  | next | ret (v : V) | brk | cont
abbrev Ct := List V → List O → (V → List O → Prop) → Prop
/-- a frame's own: its names, how many objects its caller handed in, the contracts at hand -/
structure Ix where
  names : List (Str × NameKind)
  p : Nat
  T : List (Nat × Ct)

noncomputable def ok (b : Bool) (q : Prop) : Prop := @Bool.rec (fun _ => Prop) False q b
noncomputable def br (c : Bool) (q r : Prop) : Prop := @Bool.rec (fun _ => Prop) r q c
noncomputable def opt {α : Type} (o : Option α) (K : α → Prop) : Prop := @Option.rec α (fun _ => Prop) False K o
theorem ok_in {b : Bool} {q : Prop} (h : b = true) (H : q) : @Bool.rec (fun _ => Prop) False q b := by subst h; exact H
theorem br_in {c : Bool} {q r : Prop} (h : c = true → q) (k : c = false → r) : @Bool.rec (fun _ => Prop) r q c := by cases c; exact k rfl; exact h rfl
theorem br_t {c : Bool} {q r : Prop} (e : c = true) (h : q) : @Bool.rec (fun _ => Prop) r q c := by subst e; exact h
theorem br_f {c : Bool} {q r : Prop} (e : c = false) (h : r) : @Bool.rec (fun _ => Prop) r q c := by subst e; exact h
theorem opt_in {α : Type} {o : Option α} {K : α → Prop} (x : α) (h : o = some x) (H : K x) : @Option.rec α (fun _ => Prop) False K o := by subst h; exact H

noncomputable def look {α : Type} : List (Str × α) → Str → Option α
  | [], _ => none
  | (y, v) :: r, x => match x == y with | true => some v | false => look r x
noncomputable def putM {α : Type} : List (Str × α) → Str → α → List (Str × α)
  | [], x, v => [(x, v)]
  | (y, u) :: r, x, v => match x == y with | true => (y, v) :: r | false => (y, u) :: putM r x v
noncomputable def setN {α : Type} : List α → Nat → α → List α
  | [], _, _ => []
  | _ :: r, 0, y => y :: r
  | x :: r, n + 1, y => x :: setN r n y
noncomputable def unsnoc {α : Type} : List α → Option (List α × α)
  | [] => none
  | x :: r => match unsnoc r with | some (ys, y) => some (x :: ys, y) | none => some ([], x)
/-- an item by its place, from behind if it is negative -/
noncomputable def item {α : Type} (l : List α) (k : Int) : Option α := match k with
  | .ofNat n => nth l n
  | .negSucc n => match Nat.ble (n + 1) l.length with | true => nth l (l.length - (n + 1)) | false => none

mutual
noncomputable def toD (N : List O) : V → Option (D × List O)
  | .d x => some (x, N)
  | .tup l => match toDs N l with | some (ds, N') => some (.tup ds, N') | none => none
  | .ref i => match nth N i with
    | some (.list l) => some (.fl l, setN N i (.flist l))
    | some (.flist l) => some (.fl l, N)
    | _ => none
  | _ => none
noncomputable def toDs (N : List O) : List V → Option (List D × List O)
  | [] => some ([], N)
  | v :: r => match toD N v with
    | some (x, N') => match toDs N' r with | some (xs, N'') => some (x :: xs, N'') | none => none
    | none => none
end
mutual
noncomputable def refsV : V → List Nat
  | .ref i => [i]
  | .bm i _ => [i]
  | .tup l => refsVs l
  | _ => []
noncomputable def refsVs : List V → List Nat
  | [] => []
  | v :: r => refsV v ++ refsVs r
end
noncomputable def refsM : List (Str × V) → List Nat
  | [] => []
  | (_, v) :: r => refsV v ++ refsM r
noncomputable def refsO : O → List Nat
  | .inst _ fs => refsM fs
  | _ => []
/-- what the places of a list reach, each once, in the order of the walk -/
noncomputable def reach (N : List O) : Nat → List Nat → List Nat → List Nat
  | 0, _, acc => acc
  | _, [], acc => acc
  | f + 1, i :: r, acc => match hasN i acc with
    | true => reach N f r acc
    | false => match nth N i with
      | some o => reach N f (refsO o ++ r) (acc ++ [i])
      | none => reach N f r acc
/-- where a place comes to lie -/
noncomputable def place (i : Nat) : List (Option Nat) → Nat → Option Nat
  | [], _ => none
  | some j :: r, k => (match Nat.beq i j with | true => some k | false => place i r (k + 1))
  | none :: r, k => place i r (k + 1)
mutual
noncomputable def renV (f : Nat → Option Nat) : V → Option V
  | .ref i => match f i with | some j => some (.ref j) | none => none
  | .bm i a => match f i with | some j => some (.bm j a) | none => none
  | .tup l => match renVs f l with | some l' => some (.tup l') | none => none
  | .d x => some (.d x)
  | .own a => some (.own a)
  | .blt a => some (.blt a)
  | .typ a => some (.typ a)
  | .scr => some .scr
  | .cut => some .cut
noncomputable def renVs (f : Nat → Option Nat) : List V → Option (List V)
  | [] => some []
  | v :: r => match renV f v with
    | some v' => match renVs f r with | some r' => some (v' :: r') | none => none
    | none => none
end
noncomputable def renM (f : Nat → Option Nat) : List (Str × V) → Option (List (Str × V))
  | [] => some []
  | (x, v) :: r => match renV f v with
    | some v' => match renM f r with | some r' => some ((x, v') :: r') | none => none
    | none => none
noncomputable def renO (f : Nat → Option Nat) : O → Option O
  | .inst c fs => match renM f fs with | some fs' => some (.inst c fs') | none => none
  | o => some o
noncomputable def isAt (x : Option Nat) (k : Nat) : Bool := match x with | some j => Nat.beq j k | none => false
/-- the objects at the places, their own places told anew; each comes to lie where it is said to lie -/
noncomputable def pick (f : Nat → Option Nat) (N : List O) : Nat → List (Option Nat) → Option (List O)
  | _, [] => some []
  | k, none :: r => (match pick f N (k + 1) r with | some r' => some (.dead :: r') | none => none)
  | k, some i :: r => match isAt (f i) k with
    | true => (match nth N i with
      | some o => match renO f o with
        | some o' => match pick f N (k + 1) r with | some r' => some (o' :: r') | none => none
        | none => none
      | none => none)
    | false => none
noncomputable def renOs (f : Nat → Option Nat) : List O → Option (List O)
  | [] => some []
  | o :: r => match renO f o with
    | some o' => match renOs f r with | some r' => some (o' :: r') | none => none
    | none => none
/-- numbers are counted out, lest they are counted again and again -/
noncomputable def forceA : List Nat → Nat → (Nat → Prop) → Prop
  | [], n, K => K n
  | x :: r, n, K => @Bool.rec (fun _ => Prop) (forceA r n K) (K x) (Nat.beq n x)
noncomputable def forceN (n : Nat) (K : Nat → Prop) : Prop := forceA [0, 1, 2, 3, 4, 5, 6, 7, 8, 9, 10, 11, 12, 13, 14, 15, 16, 17, 18, 19] n K
noncomputable def forceL : List Nat → (List Nat → Prop) → Prop
  | [], K => K []
  | x :: r, K => forceN x fun x => forceL r fun r => K (x :: r)
noncomputable def forceO : List (Option Nat) → (List (Option Nat) → Prop) → Prop
  | [], K => K []
  | some x :: r, K => forceN x fun x => forceO r fun r => K (some x :: r)
  | none :: r, K => forceO r fun r => K (none :: r)
/-- a store is laid out -/
noncomputable def forceS {α : Type} : List α → (List α → Prop) → Prop
  | [], K => K []
  | o :: r, K => forceS r fun r => K (o :: r)
theorem forceS_ok {α : Type} : ∀ {l : List α} {K : List α → Prop}, forceS l K → K l
  | [], _, h => h
  | _ :: r, _, h => forceS_ok (l := r) h
theorem forceA_ok {n : Nat} {K : Nat → Prop} : ∀ l : List Nat, forceA l n K → K n
  | [], h => h
  | x :: r, h => by
    have h : @Bool.rec (fun _ => Prop) (forceA r n K) (K x) (Nat.beq n x) := h
    cases q : Nat.beq n x with
    | true => rw [q] at h; rw [Nat.eq_of_beq_eq_true q]; exact h
    | false => rw [q] at h; exact forceA_ok r h
theorem forceN_ok {n : Nat} {K : Nat → Prop} (h : forceN n K) : K n := forceA_ok _ h
theorem forceL_ok : ∀ {l : List Nat} {K : List Nat → Prop}, forceL l K → K l
  | [], _, h => h
  | _ :: r, _, h => forceL_ok (l := r) (forceN_ok h)
theorem forceO_ok : ∀ {l : List (Option Nat)} {K : List (Option Nat) → Prop}, forceO l K → K l
  | [], _, h => h
  | some _ :: r, _, h => forceO_ok (l := r) (forceN_ok h)
  | none :: r, _, h => forceO_ok (l := r) h
noncomputable def somes : List Nat → List (Option Nat)
  | [] => []
  | i :: r => some i :: somes r
noncomputable def refsN : List O → List Nat
  | [] => []
  | o :: r => refsO o ++ refsN r
/-- what is reached, each place once -/
noncomputable def roots (p : Nat) (N : List O) (is : List Nat) : List Nat := reach N 200 (refsN (N.take p) ++ is) (upFrom 0 p)
noncomputable def below (n : Nat) : List Nat → Bool
  | [] => true
  | i :: r => match Nat.blt i n with | true => below n r | false => false
noncomputable def newOf (n : Nat) : List Nat → List Nat
  | [] => []
  | i :: r => match Nat.blt i n with | true => newOf n r | false => i :: newOf n r
/-- the slots of a store of n: what is reached stays, new things take the last of the slots that are free -/
noncomputable def slots (p : Nat) (π : List Nat) : Nat → Nat → List (Option Nat) → List (Option Nat)
  | _, 0, new => new
  | j, n + 1, new => match Nat.blt j p || hasN j π with
    | true => some j :: slots p π (j + 1) n new
    | false => match new with
      | [] => none :: slots p π (j + 1) n []
      | i :: r => i :: slots p π (j + 1) n r
noncomputable def frees (p : Nat) (π : List Nat) : Nat → Nat → Nat
  | _, 0 => 0
  | j, n + 1 => match Nat.blt j p || hasN j π with
    | true => frees p π (j + 1) n
    | false => frees p π (j + 1) n + 1
noncomputable def padN : Nat → List (Option Nat) → List (Option Nat)
  | 0, l => l
  | k + 1, l => none :: padN k l
/-- the state at a loop's head: the names that were there, and n objects -/
noncomputable def canon (p k n : Nat) (s : St) (K : St → Prop) : Prop :=
  @Bool.rec (fun _ => Prop)
    (forceL (roots p s.N (refsM (s.m.take k))) fun π => forceO (slots p π 0 n (padN (frees p π 0 n - (newOf n π).length) (somes (newOf n π)))) fun sl =>
      opt (renM (fun i => place i sl 0) (s.m.take k)) fun m' => opt (pick (fun i => place i sl 0) s.N 0 sl) fun N' => K ⟨m', N'⟩)
    (K ⟨s.m.take k, s.N.take n⟩)
    (Nat.blt 0 p && (below n (refsM (s.m.take k)) && below n (refsN (s.N.take n))))
noncomputable def endV (p : Nat) (v : V) (N : List O) (K : V → List O → Prop) : Prop :=
  forceL (roots p N (refsV v)) fun π =>
    opt (renV (fun i => place i (somes π) 0) v) fun v' => opt (pick (fun i => place i (somes π) 0) N 0 (somes π)) fun N' => K v' N'
/-- a call by contract: the callee sees what its arguments reach -/
noncomputable def normV (N : List O) : V → V
  | .ref i => match nth N i with | some (.flist l) => .d (.fl l) | _ => .ref i
  | v => v
noncomputable def back (π : List Nat) (n : Nat) (i : Nat) : Option Nat := match Nat.blt i π.length with
  | true => nth π i
  | false => some (n + (i - π.length))
noncomputable def put (N : List O) : List Nat → List O → List O
  | i :: r, o :: os => put (setN N i o) r os
  | _, _ => N
noncomputable def callC (ct : Ct) (args : List V) (N : List O) (K : V → List O → Prop) : Prop :=
  forceL (roots 0 N (refsVs (args.map (normV N)))) fun π =>
    opt (renVs (fun i => place i (somes π) 0) (args.map (normV N))) fun as' => opt (pick (fun i => place i (somes π) 0) N 0 (somes π)) fun N0 =>
      ct as' N0 fun v N1 => opt (renV (back π N.length) v) fun v' => opt (renOs (back π N.length) N1) fun N2 =>
        forceS (put N π (N2.take π.length) ++ N2.drop π.length) fun N => K v' N
noncomputable def lookN {α : Type} : List (Nat × α) → Nat → Option α
  | [], _ => none
  | (y, v) :: r, x => match Nat.beq x y with | true => some v | false => lookN r x

/-- the text's own names, and the built-in ones that it asks for -/
noncomputable def ownNames : List (Str × V) := [("_law_draw", 582), ("found_at", 149), ("floor_of", 142), ("cut_to", 156), ("end_loop", 216), ("put_upon", 135), ("sign_of", 107), ("is_past", 163), ("is_whole", 413), ("order_of", 476), ("for_name", 177), ("for_next", 184), ("for_begin", 170), ("while_begin", 189), ("while_end", 194), ("wend_place", 202), ("loop_ends", 209), ("put_row_of", 265), ("put_all", 279), ("gather", 286), ("join_rows", 293), ("end_loops", 300), ("flatten", 307), ("end_of_while", 328), ("settled", 420), ("whole_reckoned", 427), ("reckoned", 469), ("fits", 72), ("is_nought", 93), ("is_true", 100), ("do_flow", 484), ("do_loop", 498), ("do_for", 505), ("next_from", 512), ("Control", 124), ("Flat", 254), ("FlowRun", 571), ("_law_worth", 589), ("_law_open", 596), ("_law_close", 603), ("_law_rows", 610), ("_law_word", 617)].map fun y => (Str.ofString y.1, .own y.2)
noncomputable def bltNames : List (Str × V) := [(Str.ofString "len", .blt "len"), (Str.ofString "isinstance", .blt "isinstance"), (Str.ofString "range", .typ "range"), (Str.ofString "abs", .blt "abs"), (Str.ofString "max", .blt "max"), (Str.ofString "enumerate", .typ "enumerate"), (Str.ofString "str", .typ "str"), (Str.ofString "tuple", .typ "tuple")]
/-- the written tuple of jumps -/
noncomputable def jumps : V := .d (.tup ([Str.ofString "IFNOT", Str.ofString "JUMP", Str.ofString "GOTO", Str.ofString "GOSUB", Str.ofString "ONGO", Str.ofString "RETURN"].map .str))

noncomputable def asI : V → Option Int
  | .d (.int n) => some n
  | _ => none
noncomputable def asB : V → Option Bool
  | .d (.bool c) => some c
  | _ => none
noncomputable def asS : V → Option Str
  | .d (.str x) => some x
  | _ => none
theorem asI_out {v : V} {n : Int} (h : asI v = some n) : v = .d (.int n) := by
  cases v with
  | d x => cases x with
    | int i => exact congrArg (fun i => V.d (.int i)) (Option.some.inj h)
    | _ => cases h
  | _ => cases h
theorem asB_out {v : V} {n : Bool} (h : asB v = some n) : v = .d (.bool n) := by
  cases v with
  | d x => cases x with
    | bool i => exact congrArg (fun i => V.d (.bool i)) (Option.some.inj h)
    | _ => cases h
  | _ => cases h
theorem asS_out {v : V} {n : Str} (h : asS v = some n) : v = .d (.str n) := by
  cases v with
  | d x => cases x with
    | str i => exact congrArg (fun i => V.d (.str i)) (Option.some.inj h)
    | _ => cases h
  | _ => cases h
/-- equality of things that are no containers -/
noncomputable def eqA : D → D → Option Bool
  | .none, .none => some true
  | .int a, .int b => some (a == b)
  | .str a, .str b => some (a == b)
  | .int _, .str _ => some false
  | .str _, .int _ => some false
  | _, _ => none
noncomputable def eqDs : List D → List D → Option Bool
  | [], [] => some true
  | [], _ :: _ => some false
  | _ :: _, [] => some false
  | x :: a, y :: b => match eqA x y with
    | some c => match eqDs a b with | some d => some (c && d) | none => none
    | none => none
/-- one thing among others -/
noncomputable def inD (a : D) : List D → Option Bool
  | [] => some false
  | x :: r => match eqA x a with
    | some c => match inD a r with | some d => some (c || d) | none => none
    | none => none
noncomputable def itemsOf (N : List O) : V → Option (List D)
  | .d (.tup l) => some l
  | .d (.fl l) => some l
  | .tup l => match toDs [] l with | some (ds, _) => some ds | none => none
  | .ref i => match nth N i with | some (.list l) => some l | some (.flist l) => some l | _ => none
  | _ => none
noncomputable def isNone : V → Option Bool
  | .d .none => some true
  | .d _ => some false
  | .ref _ => some false
  | .tup _ => some false
  | _ => none


/-- two dicts of ints are the same: seen one way -/
noncomputable def sameI : List (Int × D) → List (Int × D) → Bool
  | [], _ => true
  | (k, x) :: r, b => (match b.lookup k with | some y => (match eqA x y with | some c => c | none => false) | none => false) && sameI r b
noncomputable def listOf? (N : List O) : V → Option (List D)
  | .d (.fl l) => some l
  | .ref i => match nth N i with | some (.list l) => some l | some (.flist l) => some l | _ => none
  | _ => none
noncomputable def dictIOf (N : List O) : V → Option (List (Int × D))
  | .ref i => match nth N i with | some (.dictI l) => some l | some (.fdictI l) => some l | _ => none
  | _ => none
/-- no wider than the model's own sizes (by small numbers, lest a number is counted out) -/
noncomputable def fitB (k : Int) : Bool := match k with | .ofNat n => Nat.ble n 100000 | .negSucc n => Nat.ble n 100000
/-- the answer of a comparison -/
noncomputable def cmpK (N : List O) (op : CmpOp) (a b : V) (K : Bool → Prop) : Prop := match op with
  | .Lt => opt (asI a) fun x => opt (asI b) fun y => K (decide (x < y))
  | .LtE => opt (asI a) fun x => opt (asI b) fun y => K (decide (x ≤ y))
  | .Gt => opt (asI a) fun x => opt (asI b) fun y => K (decide (y < x))
  | .GtE => opt (asI a) fun x => opt (asI b) fun y => K (decide (x ≥ y))
  | .Is => (match b with | .d .none => opt (isNone a) K | _ => False)
  | .IsNot => (match b with | .d .none => opt (isNone a) fun c => K (!c) | _ => False)
  | .In => (match a with | .d x => opt (itemsOf N b) fun l => opt (inD x l) K | _ => False)
  | .NotIn => (match a with | .d (.int k) => opt (dictIOf N b) fun l => opt (l.lookup k) fun _ => K false | _ => False)
  | .Eq => (match a with
    | .d (.int x) => opt (asI b) fun y => K (x == y)
    | .d (.str x) => opt (asS b) fun y => K (x == y)
    | .d (.tup x) => (match b with | .tup y => opt (toDs [] y) fun y => opt (eqDs x y.1) K | _ => False)
    | .ref _ => opt (listOf? N a) fun x => opt (listOf? N b) fun y => (match y with | [] => K x.isEmpty | _ => False)
    | _ => False)
  | .NotEq => (match a with
    | .d (.int x) => opt (asI b) fun y => K (x != y)
    | .d (.str x) => opt (asS b) fun y => K (x != y)
    | .d (.bool x) => opt (asB b) fun y => K (x != y)
    | .ref i => (match nth N i with
      | some (.list x) => opt (listOf? N b) fun y => (match y with | [] => K (!x.isEmpty) | _ => False)
      | some (.dictI x) => opt (dictIOf N b) fun y => ok (Nat.beq x.length y.length && sameI x y) (K false)
      | _ => False)
    | _ => False)
noncomputable def arK (op : Operator) (a b : V) (K : V → Prop) : Prop := match op with
  | .Add => opt (asI a) fun x => opt (asI b) fun y => K (.d (.int (x + y)))
  | .Sub => (match asI a with
    | some x => (match asI b with
      | some y => K (.d (.int (x - y)))
      | none => opt (asB b) fun y => K (.d (.int (x - (if y = true then 1 else 0)))))
    | none => opt (asB a) fun x => opt (asB b) fun y => K (.d (.int ((if x = true then 1 else 0) - (if y = true then 1 else 0)))))
  | .LShift => opt (asI a) fun x => opt (asI b) fun y => (match y with | .ofNat y => ok (Nat.ble y 60 && fitB x) (K (.d (.int (x * 2 ^ y)))) | .negSucc _ => False)
  | _ => False
noncomputable def subK (N : List O) (a i : V) (K : V → Prop) : Prop := match i with
  | .d (.int k) => (match a with
    | .d (.str s) => (match k with | .ofNat n => ok (Nat.blt n s.length && Nat.ble n 1000) (K (.d (.str (Txt.item s k)))) | _ => False)
    | .ref j => (match nth N j with
      | some (.dictI l) => opt (l.lookup k) fun x => K (.d x)
      | some (.fdictI l) => opt (l.lookup k) fun x => K (.d x)
      | some (.list l) => ok (fitB k) (opt (item l k) fun x => K (.d x))
      | some (.flist l) => ok (fitB k) (opt (item l k) fun x => K (.d x))
      | _ => False)
    | .d (.tup l) => ok (fitB k) (opt (item l k) fun x => K (.d x))
    | .d (.fl l) => ok (fitB k) (opt (item l k) fun x => K (.d x))
    | .tup l => ok (fitB k) (opt (item l k) K)
    | _ => False)
  | .d (.str x) => (match a with | .ref j => (match nth N j with | some (.dictS l) => opt (l.lookup x) fun y => K (.d y) | _ => False) | _ => False)
  | _ => False
/-- the methods of the text's classes -/
noncomputable def meths : List (Nat × List (Str × Nat)) := [(571, [("worth", 533), ("value_of_name", 547), ("store", 554), ("plus", 561)].map fun y => (Str.ofString y.1, y.2))]
/-- their own names -/
noncomputable def flds : List (Nat × List Str) := [(124, ["pile", "most", "failed_at"].map Str.ofString), (254, ["rows", "places", "data", "pairs", "loops", "fns"].map Str.ofString), (571, ["flat", "values", "worth_of", "bits", "digits", "control", "notes"].map Str.ofString)]
noncomputable def hasS (x : Str) : List Str → Bool
  | [] => false
  | y :: r => match x == y with | true => true | false => hasS x r
noncomputable def okField (c : Nat) (x : Str) : Bool := match lookN flds c with | some xs => hasS x xs | none => false
noncomputable def notBlt : V → Bool | .blt _ => false | _ => true
noncomputable def attrK (N : List O) (a : V) (x : Str) (K : V → Prop) : Prop := match a with
  | .ref i => (match nth N i with
    | some (.inst c fs) => (match look fs x with
      | some v => ok (okField c x && notBlt v) (K v)
      | none => opt (lookN meths c) fun ms => opt (look ms x) fun f => K (.bm i f))
    | _ => False)
  | _ => False
/-- built-in functions -/
noncomputable def bltK (id : String) (args : List V) (N : List O) (K : V → List O → Prop) : Prop := match id with
  | "len" => (match args with | [a] => opt (listOf? N a) fun l => ok (Nat.ble l.length 1000) (K (.d (.int l.length)) N) | _ => False)
  | "isinstance" => (match args with
    | [a, b] => opt (asI a) fun _ => (match b with
      | .typ n => (match n with
        | "str" => K (.d (.bool false)) N
        | "tuple" => K (.d (.bool false)) N
        | _ => False)
      | _ => False)
    | _ => False)
  | "max" => (match args with | [a, b] => opt (asI a) fun a => opt (asI b) fun b => K (.d (.int (if b > a then b else a))) N | _ => False)
  | _ => False
/-- a def of the text, or a bound method: its contract, and what comes ahead of the arguments -/
noncomputable def calOf (T : List (Nat × Ct)) : V → Option (Ct × List V)
  | .own a => (match lookN T a with | some ct => some (ct, []) | none => none)
  | .bm i a => (match lookN T a with | some ct => some (ct, [.ref i]) | none => none)
  | _ => none
inductive Mk where
  | app | ext | pop | get | fn (f : Nat)
/-- the method that is found -/
noncomputable def mkOf (N : List O) (o : V) (x : Str) : Option Mk := match o with
  | .ref i => (match nth N i with
    | some (.list _) => (match x == Str.ofString "append" with
      | true => some .app
      | false => (match x == Str.ofString "extend" with
        | true => some .ext
        | false => (match x == Str.ofString "pop" with | true => some .pop | false => none)))
    | some (.dictS _) => (match x == Str.ofString "get" with | true => some .get | false => none)
    | some (.inst c fs) => (match look fs x with
      | some _ => none
      | none => (match lookN meths c with
        | some ms => (match look ms x with | some f => some (.fn f) | none => none)
        | none => none))
    | _ => none)
  | _ => none
noncomputable def methK (T : List (Nat × Ct)) (k : Mk) (o : V) (args : List V) (N : List O) (K : V → List O → Prop) : Prop := match o with
  | .ref i => (match k with
    | .app => (match args with
      | [v] => (match nth N i with
        | some (.list l) => opt (toD N v) fun r => ok (Nat.ble l.length 1000) (match nth r.2 i with | some (.list _) => K (.d .none) (setN r.2 i (.list (l ++ [r.1]))) | _ => False)
        | _ => False)
      | _ => False)
    | .ext => (match args with
      | [.ref j] => (match Nat.beq i j with
        | true => False
        | false => (match nth N i with
          | some (.list l) => (match nth N j with
            | some (.list k) => ok (Nat.ble (l.length + k.length) 1000 && !k.isEmpty) (K (.d .none) (setN N i (.list (l ++ k))))
            | _ => False)
          | _ => False))
      | _ => False)
    | .pop => (match args with
      | [] => (match nth N i with | some (.list l) => ok (Nat.ble l.length 1000) (opt (unsnoc l) fun y => K (.d y.2) (setN N i (.list y.1))) | _ => False)
      | _ => False)
    | .get => (match args with
      | [.d (.str k), v] => (match nth N i with | some (.dictS l) => opt (l.lookup k) fun y => K (.d y) N | _ => False)
      | _ => False)
    | .fn f => opt (lookN T f) fun ct => callC ct (o :: args) N K)
  | _ => False
noncomputable def cutOf : List V → Option Int
  | [] => none
  | v :: r => match v with | .cut => (match r with | [w] => asI w | _ => none) | _ => none
noncomputable def newList (vs : List V) (N : List O) (K : V → List O → Prop) : Prop := match cutOf vs with
  | some k => (match k with | .ofNat k => K (.ref N.length) (N ++ [.bag k]) | .negSucc _ => False)
  | none => ok (Nat.ble vs.length 1000) (opt (toDs N vs) fun r => K (.ref r.2.length) (r.2 ++ [.list r.1]))

set_option backward.match.sparseCases false in
noncomputable def okTgt : PySem.Expr → Bool | .Name .. => true | .Tuple .. => true | _ => false
noncomputable def asgK (nm : List (Str × NameKind)) (n : Nat) (t : PySem.Expr) (v : V) (s : St) (K : St → Prop) : Prop := match n with
  | 0 => False
  | n + 1 => match t with
    | .Name x _ => (match look nm x with | some .local => K ⟨putM s.m x v, s.N⟩ | some .cell => K ⟨putM s.m x v, s.N⟩ | _ => False)
    | .Tuple es _ _ => (match v with
      | .d (.tup l) => ok (Nat.beq es.length l.length && es.all okTgt) (asgs (asgK nm n) es (l.map .d) s K)
      | .tup l => ok (Nat.beq es.length l.length && es.all okTgt) (asgs (asgK nm n) es l s K)
      | _ => False)
    | _ => False
where asgs (f : PySem.Expr → V → St → (St → Prop) → Prop) : List PySem.Expr → List V → St → (St → Prop) → Prop
  | [], [], s, K => K s
  | t :: ts, v :: vs, s, K => f t v s fun s => asgs f ts vs s K
  | _, _, _, _ => False

noncomputable def forI (p k n : Nat) (asg : D → St → (St → Prop) → Prop) (body : St → (Fl → St → Prop) → Prop) : List D → St → (Fl → St → Prop) → Prop
  | [], s, K => canon p k n s fun s => K .next s
  | x :: r, s, K => canon p k n s fun s => asg x s fun s => body s fun f s => match f with
    | .next => forI p k n asg body r s K
    | .cont => forI p k n asg body r s K
    | .brk => canon p k n s fun s => K .next s
    | .ret v => K (.ret v) s
/-- a for stops the evaluation -/
@[irreducible] noncomputable def loopI (p k n : Nat) (asg : D → St → (St → Prop) → Prop) (body : St → (Fl → St → Prop) → Prop) (l : List D) (s : St) (K : Fl → St → Prop) : Prop := forI p k n asg body l s K
theorem loop_in {p k n : Nat} {asg : D → St → (St → Prop) → Prop} {body : St → (Fl → St → Prop) → Prop} {l : List D} {s : St} {K : Fl → St → Prop} (h : forI p k n asg body l s K) : loopI p k n asg body l s K := by unfold loopI; exact h
theorem loop_out {p k n : Nat} {asg : D → St → (St → Prop) → Prop} {body : St → (Fl → St → Prop) → Prop} {l : List D} {s : St} {K : Fl → St → Prop} (h : loopI p k n asg body l s K) : forI p k n asg body l s K := by unfold loopI at h; exact h
noncomputable def whileI (p k n : Nat) (test : St → (Bool → St → Prop) → Prop) (body : St → (Fl → St → Prop) → Prop) : Nat → St → (Fl → St → Prop) → Prop
  | 0, _, _ => False
  | t + 1, s, K => canon p k n s fun s => test s fun c s => br c (body s fun f s => match f with
    | .next => whileI p k n test body t s K
    | .cont => whileI p k n test body t s K
    | .brk => K .next s
    | .ret v => K (.ret v) s) (K .next s)
noncomputable def compI (n : Nat) (tests : St → (Bool → St → Prop) → Prop) (elt : St → (V → St → Prop) → Prop) (x : Str) (m : List (Str × V)) : List D → List O → List D → (List D → List O → Prop) → Prop
  | [], N, ys, K => K ys N
  | v :: r, N, ys, K => tests ⟨(x, .d v) :: m, N⟩ fun c s => br c (elt s fun y s => opt (toD s.N y) fun z => ok (Nat.ble n z.2.length && below n (refsN (z.2.take n))) (compI n tests elt x m r (z.2.take n) (ys ++ [z.1]) K)) (ok (Nat.ble n s.N.length && below n (refsN (s.N.take n))) (compI n tests elt x m r (s.N.take n) ys K))

noncomputable def rangeL (a c : Int) : Nat → List D
  | 0 => []
  | n + 1 => .int a :: rangeL (a + c) c n
noncomputable def rangeN (a b c : Int) : Nat := if 0 < c then ((b - a + c - 1) / c).toNat else ((a - b - c - 1) / (-c)).toNat
noncomputable def enumL : Nat → List D → List D
  | _, [] => []
  | i, x :: r => .tup [.int i, x] :: enumL (i + 1) r
set_option backward.match.sparseCases false in
noncomputable def notStar : PySem.Expr → Bool | .Starred .. => false | _ => true
set_option backward.match.sparseCases false in
noncomputable def notComp : PySem.Expr → Bool | .ListComp .. => false | .SetComp .. => false | .DictComp .. => false | _ => true
set_option backward.match.sparseCases false in
noncomputable def plainT : PySem.Expr → Bool | .UnaryOp .Not _ _ => false | .BoolOp .. => false | .IfExp .. => false | .Compare .. => false | _ => true
noncomputable def notTup : PySem.Expr → Bool | .Tuple .. => false | _ => true
noncomputable def notAttr : PySem.Expr → Bool | .Attribute .. => false | _ => true
set_option backward.match.sparseCases false in
noncomputable def okMeth (o : PySem.Expr) (apos pos : Pos) (args : List PySem.Expr) : Bool := (match o with | .Name .. => true | .Attribute .. => true | _ => false) && args.all notStar && Nat.blt args.length 20 && apos.endLine == pos.line

set_option backward.match.sparseCases false in
noncomputable def baseOk : PySem.Expr → Bool | .Name .. => true | .Attribute .. => true | _ => false
structure Rec where
  ev : List (Str × NameKind) → PySem.Expr → St → (V → St → Prop) → Prop
  tr : List (Str × NameKind) → PySem.Expr → St → (Bool → St → Prop) → Prop
  exs : List Stmt → St → (Fl → St → Prop) → Prop
noncomputable def evs (R : PySem.Expr → St → (V → St → Prop) → Prop) : List PySem.Expr → St → (List V → St → Prop) → Prop
  | [], s, K => K [] s
  | e :: r, s, K => ok (notStar e) (R e s fun v s => evs R r s fun vs s => K (v :: vs) s)
set_option backward.match.sparseCases false in
/-- the arguments of a call: an empty dict among them is one of strs -/
noncomputable def evA (R : PySem.Expr → St → (V → St → Prop) → Prop) (e : PySem.Expr) (s : St) (K : V → St → Prop) : Prop := match e with
  | .Dict [] [] _ => K (.ref s.N.length) ⟨s.m, s.N ++ [.dictS []]⟩
  | _ => R e s K
noncomputable def rangeK (c3 : Bool) (K : List D → St → Prop) (vs : List V) (s : St) : Prop := match vs with
  | [b] => opt (asI b) fun b => ok (fitB b) (K (rangeL 0 1 (rangeN 0 b 1)) s)
  | [a, b] => opt (asI a) fun a => opt (asI b) fun b => ok (fitB a && fitB b) (K (rangeL a 1 (rangeN a b 1)) s)
  | [a, b, c] => opt (asI a) fun a => opt (asI b) fun b => opt (asI c) fun c => ok (c3 && (fitB a && fitB b && (c == 1 || c == -1))) (K (rangeL a c (rangeN a b c)) s)
  | _ => False
noncomputable def enumK (K : List D → St → Prop) (vs : List V) (s : St) : Prop := match vs with
  | [v] => opt (toD s.N v) fun r => (match r.1 with | .fl l => K (enumL 0 l) ⟨s.m, r.2⟩ | _ => False)
  | _ => False
noncomputable def listK (c3 : Bool) (K : List D → St → Prop) (v : V) (s : St) : Prop := opt (toD s.N v) fun r => (match r.1 with | .fl l => K l ⟨s.m, r.2⟩ | .tup l => ok c3 (K l ⟨s.m, r.2⟩) | _ => False)
noncomputable def itemsK (K : List D → St → Prop) (v : V) (s : St) : Prop := match v with
  | .ref i => (match nth s.N i with | some (.dictI l) => K (l.map fun y => .tup [.int y.1, y.2]) ⟨s.m, setN s.N i (.fdictI l)⟩ | _ => False)
  | _ => False
set_option backward.match.sparseCases false in
/-- what a for goes over -/
noncomputable def iterK (c3 : Bool) (R : PySem.Expr → St → (V → St → Prop) → Prop) (e : PySem.Expr) (s : St) (K : List D → St → Prop) : Prop := match e with
  | .Call (.Name x xp) args [] _ => ok (args.all notStar) (R (.Name x xp) s fun f s => (match f with
    | .typ n => (match x == Str.ofString "range" with
      | true => (match n with
        | "range" => evs R args s fun vs s => rangeK c3 K vs s
        | _ => False)
      | false => (match n with
        | "enumerate" => evs R args s fun vs s => enumK K vs s
        | _ => False))
    | _ => False))
  | .Call (.Attribute o x apos) [] [] pos => ok (okMeth o apos pos []) (match x == Str.ofString "items" with
    | true => R o s fun v s => itemsK K v s
    | false => False)
  | .Call .. => False
  | .Set .. => False
  | _ => R e s fun v s => listK c3 K v s
set_option backward.match.sparseCases false in
/-- what names may stand ahead of it: 1 one name; 2 several; 0 any; in a list's own frame 3, 4 -/
noncomputable def itKind (c3 : Bool) : PySem.Expr → Nat
  | .Call (.Name x _) _ _ _ => (match x == Str.ofString "range" with | true => (match c3 with | true => 1 | false => 3) | false => 2)
  | .Call .. => 2
  | _ => (match c3 with | true => 0 | false => 4)
set_option backward.match.sparseCases false in
noncomputable def tgtOk (t : PySem.Expr) (k : Nat) : Bool := match t with
  | .Name .. => (match k with | 2 => false | _ => true)
  | .Tuple .. => (match k with | 1 => false | _ => true)
  | _ => false
set_option backward.match.sparseCases false in
noncomputable def notSet : PySem.Expr → Bool | .Set .. => false | _ => true
/-- one comparison, or two in a chain -/
noncomputable def chainK (R : PySem.Expr → St → (V → St → Prop) → Prop) (l : PySem.Expr) (s : St) (K : Bool → St → Prop) : List CmpOp → List PySem.Expr → Prop
  | [], _ => False
  | op :: ops, rs => match ops with
    | [] => (match rs with | [e] => ok (notSet e) (R l s fun a s => R e s fun b s => cmpK s.N op a b fun c => K c s) | _ => False)
    | [op2] => (match rs with | [e, e2] => ok (notSet e2) (R l s fun a s => R e s fun b s => cmpK s.N op a b fun c => br c (R e2 s fun d s => cmpK s.N op2 b d fun c => K c s) (K false s)) | _ => False)
    | _ => False
/-- a test's comparison -/
noncomputable def testK (R : PySem.Expr → St → (V → St → Prop) → Prop) (l : PySem.Expr) (s : St) (K : Bool → St → Prop) : List CmpOp → List PySem.Expr → Prop
  | [op], rs => (match rs with | [e] => ok (notSet e) (R l s fun a s => R e s fun b s => cmpK s.N op a b fun c => K c s) | _ => False)
  | _, _ => False
noncomputable def boolK (R : PySem.Expr → St → (Bool → St → Prop) → Prop) (o : Bool) : List PySem.Expr → St → (Bool → St → Prop) → Prop
  | [], _, _ => False
  | [e], s, K => R e s K
  | e :: r, s, K => R e s fun c s => br c (if o then K true s else boolK R o r s K) (if o then boolK R o r s K else K false s)
/-- the names of a list's own frame: its own, the outer frame's cells, the text's -/
noncomputable def scOk (nm all : List (Str × NameKind)) : List (Str × NameKind) → Bool
  | [] => true
  | (y, k) :: r => (match k with | .local => (match look all y with | some .local => true | _ => false) | .free => (match look nm y with | some .cell => true | _ => false) | .globalImplicit => true | _ => false) && scOk nm all r
noncomputable def isLoc (nm : List (Str × NameKind)) (x : Str) : Bool := match look nm x with | some .local => true | _ => false
noncomputable def scFn (s : Scope) : Bool := match s.kind with | .function => true | _ => false
noncomputable def capM (nm : List (Str × NameKind)) : List (Str × V) → List (Str × V)
  | [] => []
  | (y, v) :: r => match look nm y with | some .free => (y, v) :: capM nm r | _ => capM nm r
/-- a list made of what a loop brings, one name, at most one test -/
noncomputable def compS (R : Rec) (nm nm' : List (Str × NameKind)) (elt : PySem.Expr) (scope : Scope) (s : St) (K : V → St → Prop) : List Comprehension → Prop
  | [⟨.Name x _, it, ifs, z⟩] => ok (Nat.ble ifs.length 1 && z == 0 && !Nat.beq (itKind false it) 2 && scFn scope && scOk nm' scope.names scope.names && isLoc scope.names x && (look scope.names (Str.ofString "__debug__")).isNone) (iterK false (R.ev nm) it s fun l s => ok (Nat.ble l.length 1000) (compI s.N.length
      (match ifs with | [] => fun s K => K true s | [c] => R.tr scope.names c | _ => fun _ _ => False) (R.ev scope.names elt) x (capM scope.names s.m) l s.N [] fun ys N => K (.ref N.length) ⟨s.m, N ++ [.list ys]⟩))
  | _ => False
/-- a list made for a name goes straight to it -/
noncomputable def swapB (x : Str) (xp : Pos) (scope : Scope) (cp : Pos) : Bool := xp.line == cp.line && !(scope.names.any fun y => y.1 == x && (y.2 == .local || y.2 == .cell))
noncomputable def evS (T : List (Nat × Ct)) (R : Rec) (nm : List (Str × NameKind)) (e : PySem.Expr) (s : St) (K : V → St → Prop) : Prop := match e with
  | .Name x _ => (match look nm x with
    | some .globalImplicit => (match look ownNames x with
      | some v => K v s
      | none => (match look bltNames x with
        | some v => K v s
        | none => (match x == Str.ofString "JUMPS" with | true => K jumps s | false => False)))
    | some .globalExplicit => False
    | some _ => opt (look s.m x) fun v => K v s
    | none => False)
  | .Constant c _ _ => (match c with
    | .int i => K (.d (.int i)) s
    | .str x => K (.d (.str x)) s
    | .none => K (.d .none) s
    | .bool b => K (.d (.bool b)) s
    | _ => False)
  | .BinOp l op r _ => R.ev nm l s fun a s => R.ev nm r s fun b s => arK op a b fun v => K v s
  | .UnaryOp op x _ => (match op with
    | .USub => R.ev nm x s fun a s => opt (asI a) fun i => K (.d (.int (-i))) s
    | .Not => R.ev nm x s fun a s => opt (asB a) fun c => K (.d (.bool (!c))) s
    | _ => False)
  | .BoolOp op es _ => (match op with
    | .And => boolK (fun e s K => R.ev nm e s fun v s => opt (asB v) fun c => K c s) false es s fun c s => K (.d (.bool c)) s
    | .Or => boolK (fun e s K => R.ev nm e s fun v s => opt (asB v) fun c => K c s) true es s fun c s => K (.d (.bool c)) s)
  | .Compare l ops rs _ => chainK (R.ev nm) l s (fun c s => K (.d (.bool c)) s) ops rs
  | .IfExp q x y _ => R.tr nm q s fun c s => br c (R.ev nm x s K) (R.ev nm y s K)
  | .Subscript v sl _ => R.ev nm v s fun a s => (match sl with
    | .Slice none (some hi) none _ => R.ev nm hi s fun k s => (match k with
      | .d (.int (.ofNat n)) => (match a with
        | .scr => ok (Nat.beq n 24) (K .cut s)
        | _ => opt (listOf? s.N a) fun l => ok (Nat.ble l.length 1000) (K (.ref s.N.length) ⟨s.m, s.N ++ [.list (l.take n)]⟩))
      | _ => False)
    | .Slice .. => False
    | _ => R.ev nm sl s fun i s => subK s.N a i fun v => K v s)
  | .Attribute o x _ => ok (baseOk o) (R.ev nm o s fun a s => attrK s.N a x fun v => K v s)
  | .Tuple es _ _ => evs (R.ev nm) es s fun vs s => ok (Nat.ble vs.length 1000) (K (.tup vs) s)
  | .List es _ => evs (R.ev nm) es s fun vs s => newList vs s.N fun v N => K v ⟨s.m, N⟩
  | .Dict [] [] _ => K (.ref s.N.length) ⟨s.m, s.N ++ [.dictI []]⟩
  | .Call f args [] pos => (match f with
    | .Attribute o x apos => ok (okMeth o apos pos args) (R.ev nm o s fun a s => opt (mkOf s.N a x) fun k => evs (evA (R.ev nm)) args s fun vs s => methK T k a vs s.N fun v N => K v ⟨s.m, N⟩)
    | _ => ok (args.all notStar) (R.ev nm f s fun a s => (match a with
      | .blt id => evs (evA (R.ev nm)) args s fun vs s => bltK id vs s.N fun v N => K v ⟨s.m, N⟩
      | _ => opt (calOf T a) fun c => evs (evA (R.ev nm)) args s fun vs s => callC c.1 (c.2 ++ vs) s.N fun v N => K v ⟨s.m, N⟩)))
  | .ListComp elt gens scope _ => compS R nm [] elt scope s K gens
  | _ => False
set_option backward.match.sparseCases false in
noncomputable def trS (R : Rec) (nm : List (Str × NameKind)) (e : PySem.Expr) (s : St) (K : Bool → St → Prop) : Prop := match plainT e with
  | true => R.ev nm e s fun v s => (match v with | .d (.bool c) => K c s | .d .none => K false s | _ => False)
  | false => match e with
    | .UnaryOp .Not x _ => R.tr nm x s fun c s => K (!c) s
    | .BoolOp op es _ => (match op with | .And => boolK (R.tr nm) false es s K | .Or => boolK (R.tr nm) true es s K)
    | .Compare l ops rs _ => testK (R.ev nm) l s K ops rs
    | _ => False
noncomputable def storeK (s : St) (o i v : V) (K : St → Prop) : Prop := match o with
  | .ref j => opt (toD s.N v) fun r => (match nth r.2 j with
    | some (.dictI l) => (match i with | .d (.int k) => ok (Nat.ble l.length 1000) (K ⟨s.m, setN r.2 j (.dictI (putK l k r.1))⟩) | _ => False)
    | some (.dictS l) => (match i with | .d (.str k) => ok (Nat.ble l.length 1000) (K ⟨s.m, setN r.2 j (.dictS (putK l k r.1))⟩) | _ => False)
    | _ => False)
  | _ => False
noncomputable def setAttrK (s : St) (o : V) (x : Str) (v : V) (K : St → Prop) : Prop := match o with
  | .ref j => (match nth s.N j with | some (.inst c fs) => ok (okField c x && Nat.ble fs.length 100) (K ⟨s.m, setN s.N j (.inst c (putM fs x v))⟩) | _ => False)
  | _ => False
/-- names that are stored to from behind -/
noncomputable def swName (nm : List (Str × NameKind)) (line : Nat) : PySem.Expr → Option Str
  | .Name id pos => (match look nm id with | some .local => if (pos.line == line) = true then some id else none | _ => none)
  | _ => none
noncomputable def swNames (nm : List (Str × NameKind)) (ts : List PySem.Expr) : List Str := ts.filterMap (swName nm ((ts.head?.map (·.pos.line)).getD 0))
noncomputable def swapC (nm : List (Str × NameKind)) (ts vs : List PySem.Expr) : Option (List Str) :=
  match (ts.length == 2 || ts.length == 3) && vs.length == ts.length && vs.all notStar && (swNames nm ts).length == ts.length && (swNames nm ts).eraseDups.length == (swNames nm ts).length && !(vs.all (foldedForSure 8)) && !(vs.all (constantsAlone 8)) with
  | true => some (swNames nm ts)
  | false => none
noncomputable def notSw (ts vs : List PySem.Expr) : Bool := !(ts.length == 2 || ts.length == 3) || vs.length != ts.length
noncomputable def asgR (nm : List (Str × NameKind)) : List Str → List V → St → (St → Prop) → Prop
  | x :: xs, v :: vs, s, K => (match look nm x with | some .local => asgR nm xs vs ⟨putM s.m x v, s.N⟩ K | _ => False)
  | [], [], s, K => K s
  | _, _, _, _ => False
set_option backward.match.sparseCases false in
noncomputable def plainC : PySem.Expr → Bool | .SetComp .. => false | .DictComp .. => false | _ => true
noncomputable def ex1 (p : Nat) (nm : List (Str × NameKind)) (R : Rec) (n : Nat) (x : Stmt) (s : St) (K : Fl → St → Prop) : Prop := match x with
  | .If q a b _ => R.tr nm q s fun c s => br c (R.exs a s K) (R.exs b s K)
  | .Return o _ => (match o with | some e => R.ev nm e s fun v s => K (.ret v) s | none => K (.ret (.d .none)) s)
  | .Expr e _ => ok (notComp e) (R.ev nm e s fun _ s => K .next s)
  | .Pass _ => K .next s
  | .Continue _ => K .cont s
  | .Break _ => K .brk s
  | .Assign [q] e _ => (match q with
    | .Name x xp => (match e with
      | .ListComp elt gens scope cp => ok (swapB x xp scope cp) (match look nm x with | some .local => compS R nm nm elt scope s (fun v s => K .next ⟨putM s.m x v, s.N⟩) gens | _ => False)
      | _ => ok (notComp e) (R.ev nm e s fun v s => asgK nm 5 q v s fun s => K .next s))
    | .Tuple es _ _ => (match e with
      | .Tuple fs _ _ => (match swapC nm es fs with
        | some names => R.ev nm e s fun v s => (match v with | .tup vs => ok (Nat.beq names.length vs.length) (asgR nm names.reverse vs.reverse s fun s => K .next s) | _ => False)
        | none => ok (notSw es fs) (R.ev nm e s fun v s => asgK nm 5 q v s fun s => K .next s))
      | _ => ok (notComp e) (R.ev nm e s fun v s => asgK nm 5 q v s fun s => K .next s))
    | .Subscript o i _ => ok (notComp e) (R.ev nm e s fun v s => R.ev nm o s fun o s => R.ev nm i s fun i s => storeK s o i v fun s => K .next s)
    | .Attribute o x _ => ok (notComp e) (R.ev nm e s fun v s => R.ev nm o s fun o s => setAttrK s o x v fun s => K .next s)
    | _ => False)
  | .For t it body [] _ => ok (tgtOk t (itKind true it)) (iterK true (R.ev nm) it s fun l s => loopI p s.m.length s.N.length (fun d s K => asgK nm 5 t (.d d) s K) (R.exs body) l s K)
  | .While q body [] _ => whileI p s.m.length s.N.length (R.tr nm q) (R.exs body) n s K
  | _ => False
noncomputable def exS (p : Nat) (nm : List (Str × NameKind)) (R : Rec) (n : Nat) : List Stmt → St → (Fl → St → Prop) → Prop
  | [], s, K => K .next s
  | x :: r, s, K => forceS s.m fun m => forceS s.N fun N => ex1 p nm R n x ⟨m, N⟩ fun f s => match f with | .next => exS p nm R n r s K | _ => K f s
noncomputable def run (p : Nat) (nm : List (Str × NameKind)) (T : List (Nat × Ct)) : Nat → Rec
  | 0 => ⟨fun _ _ _ _ => False, fun _ _ _ _ => False, fun _ _ _ => False⟩
  | n + 1 => ⟨evS T (run p nm T n), trS (run p nm T n), exS p nm (run p nm T n) n⟩
/-- the body of a def ends -/
noncomputable def endK (p : Nat) (Q : V → List O → Prop) (f : Fl) (s : St) : Prop := match f with
  | .ret v => endV p v s.N Q
  | .next => endV p (.d .none) s.N Q
  | _ => False

/-- a def of the text, as the written heap holds it -/
structure Fd (P : Params) (a : Nat) where
  (name qual : Str) (params : Arguments) (body : List Stmt) (scope : Scope) (dV kV doc pm cdv ct oc : Value) (an od : Option Addr) (osl : Array (Option Value))
  ho : (hd.heap_39 P).lookup a = some ⟨oc, od, .func (fnOf name qual params body scope dV kV doc pm an cdv ct), osl⟩
  hcd : codeIn (hd.heap_39 P) cdv qual = true
@[reducible] noncomputable def mkFd {P : Params} {a : Nat} {name qual : Str} {params : Arguments} {body : List Stmt} {scope : Scope} {dV kV doc pm cdv ct oc : Value} {an od : Option Addr} {osl : Array (Option Value)}
  (ho : (hd.heap_39 P).lookup a = some ⟨oc, od, .func (fnOf name qual params body scope dV kV doc pm an cdv ct), osl⟩) (hcd : codeIn (hd.heap_39 P) cdv qual = true) : Fd P a := ⟨name, qual, params, body, scope, dV, kV, doc, pm, cdv, ct, oc, an, od, osl, ho, hcd⟩
noncomputable def parsOf : List Arg → List Str
  | [] => []
  | x :: r => x.arg :: parsOf r
noncomputable def bindM : List Str → List V → List (Str × V)
  | x :: xs, v :: vs => (x, v) :: bindM xs vs
  | _, _ => []
/-- what a def's body brings -/
noncomputable def Walk {P : Params} {a : Nat} (fd : Fd P a) (T : List (Nat × Ct)) (args : List V) (N : List O) (Q : V → List O → Prop) : Prop :=
  (run N.length fd.scope.names T 100).exs fd.body ⟨bindM (parsOf fd.params.args) args, N⟩ (endK N.length Q)
/-- a contract is kept by the def's body -/
noncomputable def Kept {P : Params} {a : Nat} (fd : Fd P a) (T : List (Nat × Ct)) (ct : Ct) : Prop := ∀ args N Q, ct args N Q → Walk fd T args N Q
structure Can (p k n : Nat) (s s' : St) : Prop where
  out : ∀ K, K s' → canon p k n s K
noncomputable def goesOn : Fl → Bool | .next => true | .cont => true | _ => false
theorem for_inv {p k n : Nat} {asg : D → St → (St → Prop) → Prop} {body : St → (Fl → St → Prop) → Prop} {K : Fl → St → Prop} (J : List D → St → Prop)
    (turn : ∀ x r s, J (x :: r) s → ∀ K' : Fl → St → Prop, (∀ f s' s'', goesOn f = true → Can p k n s' s'' → J r s'' → K' f s') → (∀ v s', K (.ret v) s' → K' (.ret v) s') → asg x s fun s => body s K')
    (done : ∀ s, J [] s → K .next s) : ∀ l s s', Can p k n s s' → J l s' → forI p k n asg body l s K
  | [], s, s', h, j => h.out _ (done s' j)
  | x :: r, s, s', h, j => h.out _ (turn x r s' j _ (fun f s₁ s₂ g hc hj => by
      cases f with
      | next => exact for_inv J turn done r s₁ s₂ hc hj
      | cont => exact for_inv J turn done r s₁ s₂ hc hj
      | ret v => cases g
      | brk => cases g) fun v s' h => h)
theorem while_inv {p k n : Nat} {test : St → (Bool → St → Prop) → Prop} {body : St → (Fl → St → Prop) → Prop} {K : Fl → St → Prop} (J : Nat → St → Prop)
    (turn : ∀ m s, J m s → ∀ K' : Bool → St → Prop, (∀ s', K .next s' → K' false s') → (∀ s', (∀ K'' : Fl → St → Prop, (∀ f s' s'' m', goesOn f = true → m' < m → Can p k n s' s'' → J m' s'' → K'' f s') → (∀ v s', K (.ret v) s' → K'' (.ret v) s') → body s' K'') → K' true s') → test s K')
    : ∀ t m s s', m < t → Can p k n s s' → J m s' → whileI p k n test body t s K
  | 0, _, _, _, h, _, _ => absurd h (Nat.not_lt_zero _)
  | t + 1, m, s, s', hn, h, j => h.out _ (turn m s' j _ (fun s₁ h => h) fun s₁ hb => hb _ (fun f s₂ s₃ m' g hm hc hj => by
      cases f with
      | next => exact while_inv J turn t m' s₂ s₃ (by omega) hc hj
      | cont => exact while_inv J turn t m' s₂ s₃ (by omega) hc hj
      | ret v => cases g
      | brk => cases g) fun v s' h => h)
theorem for_in {p k n : Nat} {asg : D → St → (St → Prop) → Prop} {body : St → (Fl → St → Prop) → Prop} {K : Fl → St → Prop} {l l' : List D} {s : St} (e : l = l') (h : forI p k n asg body l' s K) : loopI p k n asg body l s K := loop_in (e ▸ h)
theorem ble_of {a b : Nat} (h : a ≤ b) : Nat.ble a b = true := Nat.ble_eq_true_of_le h
theorem fit_of {k : Int} (h : -100000 ≤ k) (h' : k ≤ 100000) : fitB k = true := by
  cases k with
  | ofNat n =>
    have : ((n : Nat) : Int) ≤ 100000 := h'
    exact ble_of (by omega)
  | negSucc n => exact ble_of (by omega)
theorem nth_lt {α : Type} : ∀ {l : List α} {n : Nat} (h : n < l.length), nth l n = some l[n]
  | _ :: _, 0, _ => rfl
  | _ :: r, n + 1, h => nth_lt (l := r) (Nat.lt_of_succ_lt_succ h)
theorem nth_get {α : Type} : ∀ (l : List α) (n : Nat), nth l n = l[n]?
  | [], _ => by simp [nth]
  | _ :: _, 0 => rfl
  | _ :: r, n + 1 => by rw [nth, nth_get r n]; rfl
theorem item_nat {α : Type} {l : List α} {k : Int} {n : Nat} {x : α} (hk : k = (n : Int)) (h : l[n]? = some x) : item l k = some x := by
  subst hk
  show nth l n = _
  rw [nth_get]; exact h
theorem item_last {α : Type} (l : List α) (x : α) : item (l ++ [x]) (-1) = some x := by
  show (match Nat.ble 1 (l ++ [x]).length with | true => nth (l ++ [x]) ((l ++ [x]).length - 1) | false => none) = _
  rw [ble_of (by simp), nth_get]
  simp
theorem unsnoc_snoc {α : Type} : ∀ (l : List α) (x : α), unsnoc (l ++ [x]) = some (l, x)
  | [], _ => rfl
  | y :: r, x => by
    show (match unsnoc (r ++ [x]) with | some (ys, z) => some (y :: ys, z) | none => some ([], y)) = _
    rw [unsnoc_snoc r x]
theorem empty_snoc {α : Type} (l : List α) (x : α) : (l ++ [x]).isEmpty = false := by simp

/-! what the clean machine's things are in the model -/
abbrev Ld := List (Addr × Obj)
mutual
noncomputable def DAt (K : Nat → Obj → Prop) : D → Value → Prop
  | .none, v => v = .none
  | .bool b, v => v = .bool b
  | .int i, v => ∃ t, v = .int i t
  | .str x, v => ∃ t, v = .str x t
  | .tup l, v => ∃ (a : Nat) (o : Obj) (us : List Value) (k : Nat), v = .ref a ∧ K a o ∧ o.cls = .type "tuple" ∧ o.data = .seq us.toArray k ∧ DsAt K l us
  | .fl l, v => ∃ (a : Nat) (o : Obj) (us : List Value) (k : Nat), v = .ref a ∧ K a o ∧ o.cls = .type "list" ∧ o.data = .seq us.toArray k ∧ DsAt K l us
noncomputable def DsAt (K : Nat → Obj → Prop) : List D → List Value → Prop
  | [], vs => vs = []
  | d :: ds, vs => ∃ v r, vs = v :: r ∧ DAt K d v ∧ DsAt K ds r
end
mutual
theorem DAt.mono {K K' : Nat → Obj → Prop} (h : ∀ a o, K a o → K' a o) : ∀ (d : D) (v : Value), DAt K d v → DAt K' d v
  | .none => by
    intro _ e
    exact e
  | .bool _ => by
    intro _ e
    exact e
  | .int _ => by
    intro _ e
    exact e
  | .str _ => by
    intro _ e
    exact e
  | .tup l => by
    intro _ z1
    obtain ⟨a, o, us, k, e, hk, hc, hd, hs⟩ := z1
    exact ⟨a, o, us, k, e, h _ _ hk, hc, hd, DsAt.mono h l us hs⟩
  | .fl l => by
    intro _ z1
    obtain ⟨a, o, us, k, e, hk, hc, hd, hs⟩ := z1
    exact ⟨a, o, us, k, e, h _ _ hk, hc, hd, DsAt.mono h l us hs⟩
theorem DsAt.mono {K K' : Nat → Obj → Prop} (h : ∀ a o, K a o → K' a o) : ∀ (ds : List D) (vs : List Value), DsAt K ds vs → DsAt K' ds vs
  | [] => by
    intro _ e
    exact e
  | d :: ds => by
    intro _ z1
    obtain ⟨v, r, e, h1, h2⟩ := z1
    exact ⟨v, r, e, DAt.mono h d v h1, DsAt.mono h ds r h2⟩
end
theorem DsAt.len {K : Nat → Obj → Prop} : ∀ {ds : List D} {vs : List Value}, DsAt K ds vs → vs.length = ds.length
  | [], _, e => by rw [show _ = _ from e]; rfl
  | _ :: _, _, ⟨_, _, e, _, h⟩ => by rw [e, List.length_cons, List.length_cons, DsAt.len h]
theorem DsAt.snoc {K : Nat → Obj → Prop} {d : D} {v : Value} (hd : DAt K d v) : ∀ {ds : List D} {vs : List Value}, DsAt K ds vs → DsAt K (ds ++ [d]) (vs ++ [v])
  | [], _, e => by rw [show _ = _ from e]; exact ⟨v, [], rfl, hd, rfl⟩
  | _ :: _, _, ⟨x, r, e, h1, h2⟩ => by rw [e]; exact ⟨x, r ++ [v], rfl, h1, h2.snoc hd⟩
theorem DsAt.app {K : Nat → Obj → Prop} {es : List D} {us : List Value} (hu : DsAt K es us) : ∀ {ds : List D} {vs : List Value}, DsAt K ds vs → DsAt K (ds ++ es) (vs ++ us)
  | [], _, e => by rw [show _ = _ from e]; exact hu
  | _ :: _, _, ⟨x, r, e, h1, h2⟩ => by rw [e]; exact ⟨x, r ++ us, rfl, h1, DsAt.app hu h2⟩
theorem DsAt.get {K : Nat → Obj → Prop} : ∀ {ds : List D} {vs : List Value}, DsAt K ds vs → ∀ {n : Nat} {d : D}, nth ds n = some d → ∃ v, vs[n]? = some v ∧ DAt K d v
  | [], _, _, _, _, h => by cases h
  | _ :: _, _, ⟨x, r, e, h1, h2⟩, 0, d, h => by cases h; rw [e]; exact ⟨x, rfl, h1⟩
  | _ :: _, _, ⟨x, r, e, h1, h2⟩, n + 1, d, h => by
    obtain ⟨v, hv, hd⟩ := h2.get h
    rw [e]; exact ⟨v, by simpa using hv, hd⟩
theorem DsAt.take {K : Nat → Obj → Prop} : ∀ {ds : List D} {vs : List Value}, DsAt K ds vs → ∀ n, DsAt K (ds.take n) (vs.take n)
  | [], _, e, n => by rw [show _ = _ from e]; simp; rfl
  | _ :: _, _, ⟨x, r, e, h1, h2⟩, 0 => by simp; rfl
  | _ :: _, _, ⟨x, r, e, h1, h2⟩, n + 1 => by rw [e]; exact ⟨x, _, rfl, h1, h2.take n⟩
theorem DsAt.unsnoc {K : Nat → Obj → Prop} : ∀ {ds : List D} {vs : List Value}, DsAt K ds vs → ∀ {r : List D} {x : D}, unsnoc ds = some (r, x) → ∃ us v, vs = us ++ [v] ∧ DsAt K r us ∧ DAt K x v
  | [], _, _, _, _, h => by cases h
  | d :: ds, _, ⟨y, t, e, h1, h2⟩, r, x, h => by
    unfold Mine.unsnoc at h
    split at h
    · rename_i ys z hz
      cases h
      obtain ⟨us, v, e2, h3, h4⟩ := h2.unsnoc hz
      exact ⟨y :: us, v, by rw [e, e2]; rfl, ⟨y, us, rfl, h1, h3⟩, h4⟩
    · rename_i hz
      cases h
      have : ds = [] := by
        cases ds with
        | nil => rfl
        | cons a b =>
          unfold Mine.unsnoc at hz
          split at hz <;> cases hz
      subst this
      rw [show t = [] from h2] at e
      exact ⟨[], y, e, rfl, h1⟩
/-- the frame at hand -/
structure Fx where
  (w : World) (ns sc : List Int) (A₀ : Around) (base g : Heap) (L : Nat) (fenv : Env) (outer : List Env) (mean : ExcName → Option Value) (mg mb : Str → Option Value) (dp un D : Nat) (gd : Option (List Code)) (gs : Array GenState) (dr : Drawn) (os : OsState) (kb : Nat → Obj → Prop)
abbrev Fx.A (fx : Fx) : Around := Ar fx.dp fx.un fx.gd fx.fenv fx.outer
noncomputable abbrev Fx.K (fx : Fx) : Frag := hd.heap_39 fx.w.params
structure FxOk (fx : Fx) : Prop where
  B : Below fx.A₀ fx.base fx.outer fx.g
  X : fx.K.In fx.g
  T : Top hd.view_39 LO fx.mean fx.mg fx.mb fx.g
  hf : fx.fenv.frame = some fx.L
  hk : fx.fenv.scope.kind = .function
  hgl : fx.fenv.globals = mainGlobals
  hbl : fx.fenv.builtins = builtinsNs
  hd : fx.dp + fx.D < recursionLimit
  hu : fx.un + 8 * fx.D < cLine
  hD : 0 < fx.D
  frag : ∀ a o, fx.K.lookup a = some o → fx.kb a o
  cut : fx.ns = fx.sc.take 24
  len : fx.sc.length ≤ 63
/-- what the run itself holds for a while; in a list's own frame, the outer names -/
structure Hid where
  l : Ld
  pin : Str → Option Value
/-- addresses of the store, and what stays for good -/
structure Wd where
  σ : List Nat
  I : Ld
  H : Hid
noncomputable def Kn (fx : Fx) (W : Wd) (a : Nat) (o : Obj) : Prop := fx.kb a o ∨ ((a, o) : Addr × Obj) ∈ W.I
mutual
noncomputable def VAt (fx : Fx) (W : Wd) : V → Value → Prop
  | .d x, v => DAt (Kn fx W) x v
  | .tup l, v => ∃ (a : Nat) (o : Obj) (us : List Value) (k : Nat), v = .ref a ∧ Kn fx W a o ∧ o.cls = .type "tuple" ∧ o.data = .seq us.toArray k ∧ VsAt fx W l us
  | .ref i, v => ∃ a : Nat, nth W.σ i = some a ∧ v = .ref a
  | .own a, v => v = .ref a
  | .blt id, v => v = .builtin id
  | .typ n, v => v = .type n
  | .bm i f, v => ∃ q a : Nat, v = .ref q ∧ nth W.σ i = some a ∧ Kn fx W q (methodObj (.ref f) (.ref a)) ∧ fnIn fx.K f = true
  | .scr, v => ∃ (a : Nat) (o : Obj) (us : List Value) (k : Nat), v = .ref a ∧ Kn fx W a o ∧ o.cls = .type "list" ∧ o.data = .seq us.toArray k ∧ IntsAre us fx.sc
  | .cut, v => ∃ (a : Nat) (o : Obj) (us : List Value) (k : Nat), v = .ref a ∧ Kn fx W a o ∧ o.cls = .type "list" ∧ o.data = .seq us.toArray k ∧ IntsAre us fx.ns
noncomputable def VsAt (fx : Fx) (W : Wd) : List V → List Value → Prop
  | [], vs => vs = []
  | d :: ds, vs => ∃ v r, vs = v :: r ∧ VAt fx W d v ∧ VsAt fx W ds r
end
structure Ext (W W' : Wd) : Prop where
  σ : ∃ t, W'.σ = W.σ ++ t
  I : ∀ p ∈ W.I, p ∈ W'.I
  H : W'.H = W.H
theorem Ext.refl (W : Wd) : Ext W W := ⟨⟨[], by simp⟩, fun _ h => h, rfl⟩
theorem Ext.trans {W W' W'' : Wd} (a : Ext W W') (b : Ext W' W'') : Ext W W'' := by
  obtain ⟨⟨t, e⟩, i, g⟩ := a
  obtain ⟨⟨u, e'⟩, i', g'⟩ := b
  exact ⟨⟨t ++ u, by rw [e', e, List.append_assoc]⟩, fun p h => i' p (i p h), g'.trans g⟩
theorem Kn.ext {fx : Fx} {W W' : Wd} (x : Ext W W') {a : Nat} {o : Obj} (h : Kn fx W a o) : Kn fx W' a o := h.imp id (x.I _)
theorem nth_app {α : Type} : ∀ {l : List α} {t : List α} {n : Nat} {x : α}, nth l n = some x → nth (l ++ t) n = some x
  | [], _, _, _, h => by cases h
  | _ :: _, _, 0, _, h => h
  | _ :: r, t, n + 1, x, h => nth_app (l := r) (t := t) (n := n) h
theorem Ext.nth {W W' : Wd} (x : Ext W W') {i a : Nat} (h : Mine.nth W.σ i = some a) : Mine.nth W'.σ i = some a := by
  obtain ⟨⟨t, e⟩, _⟩ := x
  rw [e]; exact nth_app h
section
variable {fx fx' : Fx} {W W' : Wd} (hw : fx'.w = fx.w) (hn : fx'.ns = fx.ns) (hs : fx'.sc = fx.sc) (hσ : ∀ i a, nth W.σ i = some a → nth W'.σ i = some a) (hk : ∀ a o, Kn fx W a o → Kn fx' W' a o)
include hw hn hs hσ hk
mutual
theorem VAt.mv : ∀ {v : V} {u : Value}, VAt fx W v u → VAt fx' W' v u
  | .d x => by
    intro h
    exact DAt.mono hk x _ h
  | .tup l => by
    intro z1
    obtain ⟨a, o, us, k, e, hk1, hc, hd, h⟩ := z1
    exact ⟨a, o, us, k, e, hk _ _ hk1, hc, hd, VsAt.mv h⟩
  | .ref y1 => by
    intro z1
    obtain ⟨a, h, e⟩ := z1
    exact ⟨a, hσ _ _ h, e⟩
  | .own y1 => by
    intro h
    exact h
  | .blt y1 => by
    intro h
    exact h
  | .typ y1 => by
    intro h
    exact h
  | .bm y1 y2 => by
    intro z1
    obtain ⟨q, a, e, h, k, z⟩ := z1
    exact ⟨q, a, e, hσ _ _ h, hk _ _ k, by show fnIn (hd.heap_39 fx'.w.params) _ = true; rw [hw]; exact z⟩
  | .scr => by
    intro z1
    obtain ⟨a, o, us, k, e, hk1, hc, hd, h⟩ := z1
    exact ⟨a, o, us, k, e, hk _ _ hk1, hc, hd, by rw [hs]; exact h⟩
  | .cut => by
    intro z1
    obtain ⟨a, o, us, k, e, hk1, hc, hd, h⟩ := z1
    exact ⟨a, o, us, k, e, hk _ _ hk1, hc, hd, by rw [hn]; exact h⟩
theorem VsAt.mv : ∀ {v : List V} {u : List Value}, VsAt fx W v u → VsAt fx' W' v u
  | [] => by
    intro h
    exact h
  | y1 :: y2 => by
    intro z1
    obtain ⟨v, r, e, h1, h2⟩ := z1
    exact ⟨v, r, e, VAt.mv h1, VsAt.mv h2⟩
end
end
theorem VAt.ext {fx : Fx} {W W' : Wd} (x : Ext W W') {v : V} {u : Value} (h : VAt fx W v u) : VAt fx W' v u := VAt.mv rfl rfl rfl (fun _ _ => x.nth) (fun _ _ => Kn.ext x) h
theorem VsAt.ext {fx : Fx} {W W' : Wd} (x : Ext W W') {v : List V} {u : List Value} (h : VsAt fx W v u) : VsAt fx W' v u := VsAt.mv rfl rfl rfl (fun _ _ => x.nth) (fun _ _ => Kn.ext x) h
/-- a thing's own names -/
noncomputable def EsAt (fx : Fx) (W : Wd) : List (Str × V) → List DictEntry → Prop
  | [], es => es = []
  | (x, v) :: fs, es => ∃ t u r, es = ⟨PyData.keyHash fx.w.params x, .str x t, u⟩ :: r ∧ VAt fx W v u ∧ EsAt fx W fs r
section
variable {fx fx' : Fx} {W W' : Wd} (hw : fx'.w = fx.w) (hn : fx'.ns = fx.ns) (hs : fx'.sc = fx.sc) (hσ : ∀ i a, nth W.σ i = some a → nth W'.σ i = some a) (hk : ∀ a o, Kn fx W a o → Kn fx' W' a o)
include hw hn hs hσ hk
theorem EsAt.mv : ∀ {fs : List (Str × V)} {es : List DictEntry}, EsAt fx W fs es → EsAt fx' W' fs es
  | [] => by
    intro h
    exact h
  | (x, y1) :: y2 => by
    intro z1
    obtain ⟨t, u, r, e, h1, h2⟩ := z1
    exact ⟨t, u, r, by rw [hw]; exact e, h1.mv hw hn hs hσ hk, EsAt.mv h2⟩
end
theorem EsAt.ext {fx : Fx} {W W' : Wd} (x : Ext W W') {fs : List (Str × V)} {es : List DictEntry} (h : EsAt fx W fs es) : EsAt fx W' fs es := EsAt.mv rfl rfl rfl (fun _ _ => x.nth) (fun _ _ => Kn.ext x) h
/-- a thing of the store at its address; what is in the ledger for it bears its mark (0: never changed; 1: a cell; i + 2: the thing at i) -/
noncomputable def OAt (fx : Fx) (W : Wd) (N : Ld) (ow : Nat → Nat) (i a : Nat) : O → Prop
  | .list l => ∃ (us : List Value) (c : Nat), ow a = i + 2 ∧ ((a, listOf us.toArray c) : Addr × Obj) ∈ N ∧ DsAt (Kn fx W) l us
  | .flist l => ∃ (o : Obj) (us : List Value) (k : Nat), Kn fx W a o ∧ o.cls = .type "list" ∧ o.data = .seq us.toArray k ∧ DsAt (Kn fx W) l us
  | .dictI l => ∃ (o : Obj) (kvs : List (Int × Value)), ow a = i + 2 ∧ ((a, o) : Addr × Obj) ∈ N ∧ o.IsDictOf (intKind PR fx.w) kvs ∧ Prs (fun v d => DAt (Kn fx W) d v) kvs l ∧ (a == sysModules) = false
  | .fdictI l => ∃ (o : Obj) (kvs : List (Int × Value)), Kn fx W a o ∧ o.IsDictOf (intKind PR fx.w) kvs ∧ Prs (fun v d => DAt (Kn fx W) d v) kvs l ∧ (a == sysModules) = false
  | .dictS l => ∃ (o : Obj) (kvs : List (Str × Value)), ow a = i + 2 ∧ ((a, o) : Addr × Obj) ∈ N ∧ o.IsDictOf (strKind PR fx.w) kvs ∧ Prs (fun v d => DAt (Kn fx W) d v) kvs l ∧ (a == sysModules) = false
  | .inst c fs => ∃ (dx : Nat) (es : List DictEntry) (n : Nat), ow a = i + 2 ∧ ow dx = i + 2 ∧ ((a, instObj c dx) : Addr × Obj) ∈ N ∧ ((dx, dictOf es n) : Addr × Obj) ∈ N ∧ EsAt fx W fs es
  | .bag spot => ∃ (sl : Nat) (tk : Tok) (n : Nat), ow a = i + 2 ∧ ((a, listOf #[.ref sl, .int spot tk] n) : Addr × Obj) ∈ N ∧ VAt fx W .cut (.ref sl)
  | .dead => True
/-- a name's value, where the run looks for it -/
inductive Rd (env : Env) (L : Nat) (ms : Str → Option Value) (I N : Ld) (ow : Nat → Nat) (x : Str) (v : Value) : Prop
  | loc : env.kindOf x = some .local → env.locals = L → ms x = some v → Rd env L ms I N ow x v
  | comp (C : Nat) (oC : Obj) (m₂ : Str → Option Value) : env.kindOf x = some .local → env.locals = C → ((C, oC) : Addr × Obj) ∈ I → LCg.NsObj oC m₂ → m₂ x = some v → Rd env L ms I N ow x v
  | cell (c : Nat) (o : Obj) : (env.kindOf x = some .cell ∨ env.kindOf x = some .free ∧ (x == ("__classdict__" : Str)) = false) → env.cells.lookup x = some c → ((c, o) : Addr × Obj) ∈ N → ow c = 1 → o.data = .cell (some v) → Rd env L ms I N ow x v
noncomputable def MAt (fx : Fx) (env : Env) (W : Wd) (ms : Str → Option Value) (N : Ld) (ow : Nat → Nat) (m : List (Str × V)) : Prop :=
  ∀ x v, look m x = some v → (x == ("__debug__" : Str)) = false ∧ ∃ u, VAt fx W v u ∧ Rd env fx.L ms W.H.l N ow x u
/-- each cell of the frame stands in the ledger, and so does what is hidden -/
noncomputable def ClAt (env : Env) (L : Nat) (H : Hid) (N : Ld) (ow : Nat → Nat) (ms : Str → Option Value) : Prop := ((∀ x, env.kindOf x = some .cell → ∃ (c : Nat) (o : Obj) (v : Option Value), env.cells.lookup x = some c ∧ ((c, o) : Addr × Obj) ∈ N ∧ ow c = 1 ∧ o.data = .cell v) ∧ ∀ p ∈ H.l, p ∈ N ∧ ow p.1 = 1 ∧ (env.locals = L → ∀ v, p.2.data ≠ .cell v)) ∧ (env.locals ≠ L → ms = H.pin)
/-- the state of the run, by the clean machine's state -/
structure Rl (fx : Fx) (env : Env) (W : Wd) (s : St) (h : Heap) (N : Ld) (ow : Nat → Nat) (ms : Str → Option Value) : Prop where
  kbg : ∀ a o, fx.kb a o → fx.g.get? a = some o
  F : Fr fx.g fx.L h ms
  Ns : News fx.g fx.L h N
  sub : ∀ p ∈ W.I, p ∈ N ∧ ow p.1 = 0
  len : W.σ.length = s.N.length
  obj : ∀ i o a, nth s.N i = some o → nth W.σ i = some a → OAt fx W N ow i a o
  nm : MAt fx env W ms N ow s.m
  cl : ClAt env fx.L W.H N ow ms
abbrev Fx.s (fx : Fx) (h : Heap) (t : Tok) : Shared := ⟨h, fx.gs, fx.dr, t, fx.os⟩
noncomputable def Rs (fx : Fx) (env : Env) (W : Wd) (s : St) (s' : Shared) : Prop := ∃ h t N ow ms, s' = fx.s h t ∧ Rl fx env W s h N ow ms
/-- a piece of the run brings what the clean machine says -/
noncomputable def Wp (fx : Fx) (env : Env) {α β : Type} (R : Wd → α → β → Prop) (t : Sem β) (W : Wd) (s' : Shared) (K : α → St → Prop) : Prop :=
  ∀ Q E, (∀ v u W' s s₂, K v s → Ext W W' → R W' v u → Rs fx env W' s s₂ → Q u s₂) → wpAny (model PR fx.w) fx.A t Q E s'

theorem Prs.ext {fx : Fx} {W W' : Wd} (x : Ext W W') {κ : Type} [DecidableEq κ] {kvs : List (κ × Value)} {l : List (κ × D)} (h : Prs (fun v d => DAt (Kn fx W) d v) kvs l) : Prs (fun v d => DAt (Kn fx W') d v) kvs l := h.mono fun _ _ a => DAt.mono (fun _ _ => Kn.ext x) _ _ a
section
variable {fx fx' : Fx} {W W' : Wd} (hw : fx'.w = fx.w) (hn : fx'.ns = fx.ns) (hs : fx'.sc = fx.sc) (hσ : ∀ i a, nth W.σ i = some a → nth W'.σ i = some a) (hk : ∀ a o, Kn fx W a o → Kn fx' W' a o)
include hw hn hs hσ hk
theorem OAt.mv {N N' : Ld} {ow ow' : Nat → Nat} {i a : Nat} (h1 : ∀ b, ow b = i + 2 → (∃ o, ((b, o) : Addr × Obj) ∈ N) → ow' b = i + 2) (h2 : ∀ b o, ow b = i + 2 → ((b, o) : Addr × Obj) ∈ N → ((b, o) : Addr × Obj) ∈ N') : ∀ {o : O}, OAt fx W N ow i a o → OAt fx' W' N' ow' i a o
  | .list _ => by
    intro z0
    obtain ⟨us, c, e, m, d⟩ := z0
    exact ⟨us, c, h1 _ e ⟨_, m⟩, h2 _ _ e m, DsAt.mono hk _ _ d⟩
  | .flist _ => by
    intro z0
    obtain ⟨o, us, k, e, c, d, r⟩ := z0
    exact ⟨o, us, k, hk _ _ e, c, d, DsAt.mono hk _ _ r⟩
  | .dictI _ => by
    intro z0
    obtain ⟨o, kvs, e, m, d, r, z⟩ := z0
    exact ⟨o, kvs, h1 _ e ⟨_, m⟩, h2 _ _ e m, by rw [hw]; exact d, r.mono fun _ _ a => DAt.mono hk _ _ a, z⟩
  | .fdictI _ => by
    intro z0
    obtain ⟨o, kvs, e, d, r, z⟩ := z0
    exact ⟨o, kvs, hk _ _ e, by rw [hw]; exact d, r.mono fun _ _ a => DAt.mono hk _ _ a, z⟩
  | .dictS _ => by
    intro z0
    obtain ⟨o, kvs, e, m, d, r, z⟩ := z0
    exact ⟨o, kvs, h1 _ e ⟨_, m⟩, h2 _ _ e m, by rw [hw]; exact d, r.mono fun _ _ a => DAt.mono hk _ _ a, z⟩
  | .inst _ _ => by
    intro z0
    obtain ⟨dx, es, n, e, e', m, m', r⟩ := z0
    exact ⟨dx, es, n, h1 _ e ⟨_, m⟩, h1 _ e' ⟨_, m'⟩, h2 _ _ e m, h2 _ _ e' m', r.mv hw hn hs hσ hk⟩
  | .bag _ => by
    intro z0
    obtain ⟨sl, tk, n, e, m, v⟩ := z0
    exact ⟨sl, tk, n, h1 _ e ⟨_, m⟩, h2 _ _ e m, VAt.mv hw hn hs hσ hk v⟩
  | .dead => by
    intro _
    exact trivial
end
theorem OAt.keep {fx : Fx} {W W' : Wd} {N N' : Ld} {ow ow' : Nat → Nat} {i a : Nat} (x : Ext W W') (h1 : ∀ b, ow b = i + 2 → (∃ o, ((b, o) : Addr × Obj) ∈ N) → ow' b = i + 2) (h2 : ∀ b o, ow b = i + 2 → ((b, o) : Addr × Obj) ∈ N → ((b, o) : Addr × Obj) ∈ N') {o : O} (h : OAt fx W N ow i a o) : OAt fx W' N' ow' i a o := OAt.mv rfl rfl rfl (fun _ _ => x.nth) (fun _ _ => Kn.ext x) h1 h2 h
theorem Rd.keep {env : Env} {L : Nat} {ms : Str → Option Value} {I I' N N' : Ld} {ow ow' : Nat → Nat} {x : Str} {v : Value} (hI : ∀ p ∈ I, p ∈ I') (h1 : ∀ b, ow b = 1 → (∃ o, ((b, o) : Addr × Obj) ∈ N) → ow' b = 1) (h2 : ∀ b o, ow b = 1 → ((b, o) : Addr × Obj) ∈ N → ((b, o) : Addr × Obj) ∈ N') : Rd env L ms I N ow x v → Rd env L ms I' N' ow' x v
  | .loc a b c => .loc a b c
  | .comp C oC m₂ a b c d e => .comp C oC m₂ a b (hI _ c) d e
  | .cell c o a b m e d => .cell c o a b (h2 _ _ e m) (h1 _ e ⟨_, m⟩) d
theorem ClAt.keep {env : Env} {L : Nat} {H : Hid} {ms : Str → Option Value} {N N' : Ld} {ow ow' : Nat → Nat} (h1 : ∀ b, ow b = 1 → (∃ o, ((b, o) : Addr × Obj) ∈ N) → ow' b = 1) (h2 : ∀ b o, ow b = 1 → ((b, o) : Addr × Obj) ∈ N → ((b, o) : Addr × Obj) ∈ N') (h : ClAt env L H N ow ms) : ClAt env L H N' ow' ms := ⟨⟨fun x hx =>
  let ⟨c, o, v, a, m, e, d⟩ := h.1.1 x hx
  ⟨c, o, v, a, h2 _ _ e m, h1 _ e ⟨_, m⟩, d⟩, fun p hp =>
  let ⟨m, e, d⟩ := h.1.2 p hp
  ⟨h2 _ _ e m, h1 _ e ⟨_, m⟩, d⟩⟩, h.2⟩
section
variable {fx : Fx} {env : Env} {W : Wd} {s : St} {h h' : Heap} {N N' : Ld} {ow ow' : Nat → Nat} {ms : Str → Option Value}
/-- the ledger grows -/
theorem Rl.grow (r : Rl fx env W s h N ow ms) (F : Fr fx.g fx.L h' ms) (Ns : News fx.g fx.L h' N') (hs : ∀ p ∈ N, p ∈ N') (ho : ∀ p ∈ N, ow' p.1 = ow p.1) : Rl fx env W s h' N' ow' ms where
  kbg := r.kbg
  F := F
  Ns := Ns
  sub := fun p hp => ⟨hs p (r.sub p hp).1, (ho p (r.sub p hp).1).trans (r.sub p hp).2⟩
  len := r.len
  obj := fun i o a h1 h2 => (r.obj i o a h1 h2).keep (Ext.refl W) (fun b e ⟨ob, m⟩ => (ho _ m).trans e) (fun b o _ m => hs _ m)
  nm := fun x v hx => by
    obtain ⟨hd, u, hu, hr⟩ := r.nm x v hx
    exact ⟨hd, u, hu, hr.keep (fun _ h => h) (fun b e ⟨ob, m⟩ => (ho _ m).trans e) (fun b o _ m => hs _ m)⟩
  cl := r.cl.keep (fun b e ⟨ob, m⟩ => (ho _ m).trans e) (fun b o _ m => hs _ m)
/-- an object of the ledger that no one may change is known for good -/
theorem Rl.know (r : Rl fx env W s h N ow ms) {a : Nat} {o : Obj} (hm : ((a, o) : Addr × Obj) ∈ N) (h0 : ow a = 0) : Rl fx env ⟨W.σ, (a, o) :: W.I, W.H⟩ s h N ow ms ∧ Ext W ⟨W.σ, (a, o) :: W.I, W.H⟩ := by
  have x : Ext W ⟨W.σ, (a, o) :: W.I, W.H⟩ := ⟨⟨[], by simp⟩, fun p hp => .tail _ hp, rfl⟩
  refine ⟨⟨r.kbg, r.F, r.Ns, fun p hp => ?_, r.len, fun i ob b h1 h2 => (r.obj i ob b h1 h2).keep x (fun b e _ => e) (fun b o _ m => m), fun y v hy => ?_, r.cl⟩, x⟩
  · rcases List.mem_cons.mp hp with rfl | hp
    · exact ⟨hm, h0⟩
    · exact r.sub p hp
  · obtain ⟨hd, u, hu, hr⟩ := r.nm y v hy
    exact ⟨hd, u, hu.ext x, hr.keep (fun _ h => h) (fun b e _ => e) (fun b o _ m => m)⟩
theorem nth_snoc_lt {α : Type} : ∀ {l : List α} {y x : α} {n : Nat}, nth (l ++ [y]) n = some x → n < l.length ∧ nth l n = some x ∨ n = l.length ∧ x = y
  | [], _, _, 0, h => by cases h; exact .inr ⟨rfl, rfl⟩
  | [], _, _, n + 1, h => by cases h
  | _ :: _, _, _, 0, h => .inl ⟨Nat.succ_pos _, h⟩
  | _ :: r, y, x, n + 1, h => by
    rcases nth_snoc_lt (l := r) (y := y) (x := x) (n := n) h with ⟨a, b⟩ | ⟨a, b⟩
    · exact .inl ⟨Nat.succ_lt_succ a, b⟩
    · exact .inr ⟨by rw [a]; rfl, b⟩
theorem nth_len {α : Type} : ∀ (l : List α) (x : α), nth (l ++ [x]) l.length = some x
  | [], _ => rfl
  | _ :: r, x => nth_len r x
theorem nth_lt_len {α : Type} : ∀ {l : List α} {n : Nat} {x : α}, nth l n = some x → n < l.length
  | _ :: _, 0, _, _ => Nat.succ_pos _
  | _ :: r, n + 1, x, h => Nat.succ_lt_succ (nth_lt_len (l := r) (n := n) h)
/-- one thing more in the store -/
theorem Rl.more (r : Rl fx env W s h N ow ms) {a : Nat} {o : O} (ho : OAt fx ⟨W.σ ++ [a], W.I, W.H⟩ N ow s.N.length a o) : Rl fx env ⟨W.σ ++ [a], W.I, W.H⟩ ⟨s.m, s.N ++ [o]⟩ h N ow ms ∧ Ext W ⟨W.σ ++ [a], W.I, W.H⟩ ∧ VAt fx ⟨W.σ ++ [a], W.I, W.H⟩ (.ref s.N.length) (.ref a) := by
  have x : Ext W ⟨W.σ ++ [a], W.I, W.H⟩ := ⟨⟨[a], rfl⟩, fun p hp => hp, rfl⟩
  refine ⟨⟨r.kbg, r.F, r.Ns, r.sub, by simp [r.len], fun i ob b h1 h2 => ?_, fun y v hy => ?_, r.cl⟩, x, a, by rw [← r.len]; exact nth_len _ _, rfl⟩
  · rcases nth_snoc_lt h1 with ⟨hi, h1⟩ | ⟨hi, rfl⟩
    · rcases nth_snoc_lt h2 with ⟨_, h2⟩ | ⟨hi2, _⟩
      · exact (r.obj i ob b h1 h2).keep x (fun b e _ => e) (fun b o _ m => m)
      · rw [r.len] at hi2; omega
    · rcases nth_snoc_lt h2 with ⟨hi2, _⟩ | ⟨_, rfl⟩
      · rw [r.len] at hi2; omega
      · rw [hi]; exact ho
  · obtain ⟨hd, u, hu, hr⟩ := r.nm y v hy
    exact ⟨hd, u, hu.ext x, hr⟩
noncomputable def rep (N : Ld) (a : Nat) (o : Obj) : Ld := (a, o) :: N.filter fun p => decide (p.1 ≠ a)
theorem rep_news {a : Nat} {o : Obj} (Ns : News fx.g fx.L h N) (hm : ((a, o) : Addr × Obj) ∈ N) : News fx.g fx.L h (rep N a o) := fun p hp => by
  rcases List.mem_cons.mp hp with rfl | hp
  · exact Ns _ hm
  · exact Ns p (List.mem_filter.mp hp).1
theorem rep_upd (N : Ld) (a : Nat) (o o' : Obj) : Upd a o o' (rep N a o) (rep N a o') := .head fun p hp => by simpa using (List.mem_filter.mp hp).2
theorem rep_updF (N : Ld) (a : Nat) (o : Obj) : UpdF a o (rep N a o) (rep N a) := .head fun p hp => by simpa using (List.mem_filter.mp hp).2
theorem rep_mem {a : Nat} {o o' : Obj} {b : Nat} (hb : b ≠ a) (hm : ((b, o) : Addr × Obj) ∈ N) : ((b, o) : Addr × Obj) ∈ rep N a o' := .tail _ (List.mem_filter.mpr ⟨hm, by simpa using hb⟩)
theorem nth_setN {α : Type} : ∀ {l : List α} {i : Nat} {y : α} {j : Nat} {x : α}, nth (setN l i y) j = some x → j = i ∧ x = y ∨ j ≠ i ∧ nth l j = some x
  | [], _, _, _, _, h => by cases h
  | _ :: _, 0, _, 0, _, h => by cases h; exact .inl ⟨rfl, rfl⟩
  | _ :: _, 0, _, j + 1, _, h => .inr ⟨Nat.succ_ne_zero _, h⟩
  | _ :: _, i + 1, _, 0, _, h => .inr ⟨Nat.succ_ne_zero _ |>.symm, h⟩
  | _ :: r, i + 1, y, j + 1, x, h => by
    rcases nth_setN (l := r) (i := i) (y := y) (j := j) (x := x) h with ⟨a, b⟩ | ⟨a, b⟩
    · exact .inl ⟨by rw [a], b⟩
    · exact .inr ⟨by omega, b⟩
theorem setN_len {α : Type} : ∀ (l : List α) (i : Nat) (y : α), (setN l i y).length = l.length
  | [], _, _ => rfl
  | _ :: _, 0, _ => rfl
  | _ :: r, i + 1, y => by rw [setN, List.length_cons, setN_len r, List.length_cons]
/-- a thing of the store is changed, by a change of one object that is its own -/
theorem Rl.put (r : Rl fx env W s h N ow ms) {i b : Nat} {ob : Obj} (hb : ow b = i + 2) (F : Fr fx.g fx.L h' ms) (Ns : News fx.g fx.L h' (rep N b ob)) {o : O}
    (ho : ∀ a, nth W.σ i = some a → OAt fx W (rep N b ob) ow i a o) : Rl fx env W ⟨s.m, setN s.N i o⟩ h' (rep N b ob) ow ms where
  kbg := r.kbg
  F := F
  Ns := Ns
  sub := fun p hp => ⟨rep_mem (fun e => by have := (r.sub p hp).2; rw [e, hb] at this; cases this) (r.sub p hp).1, (r.sub p hp).2⟩
  len := r.len.trans (setN_len _ _ _).symm
  obj := fun j oj a h1 h2 => by
    rcases nth_setN h1 with ⟨rfl, rfl⟩ | ⟨hj, h1⟩
    · exact ho a h2
    · exact (r.obj j oj a h1 h2).keep (Ext.refl W) (fun b e _ => e) (fun c o e m => rep_mem (fun q => by rw [q, hb] at e; omega) m)
  nm := fun x v hx => by
    obtain ⟨hd, u, hu, hr⟩ := r.nm x v hx
    exact ⟨hd, u, hu, hr.keep (fun _ h => h) (fun b e _ => e) (fun c o e m => rep_mem (fun q => by rw [q, hb] at e; omega) m)⟩
  cl := r.cl.keep (fun b e _ => e) (fun c o e m => rep_mem (fun q => by rw [q, hb] at e; omega) m)
/-- a list of the store is changed no more -/
theorem Rl.freeze (r : Rl fx env W s h N ow ms) {i a : Nat} {l : List D} (hi : nth s.N i = some (.list l)) (ha : nth W.σ i = some a) :
    ∃ W' ow', Ext W W' ∧ Rl fx env W' ⟨s.m, setN s.N i (.flist l)⟩ h N ow' ms ∧ DAt (Kn fx W') (.fl l) (.ref a) := by
  obtain ⟨us, c, ho, hm, hd⟩ := r.obj i _ a hi ha
  have x : Ext W ⟨W.σ, (a, listOf us.toArray c) :: W.I, W.H⟩ := ⟨⟨[], by simp⟩, fun p hp => .tail _ hp, rfl⟩
  have hk : Kn fx ⟨W.σ, (a, listOf us.toArray c) :: W.I, W.H⟩ a (listOf us.toArray c) := .inr (.head _)
  refine ⟨⟨W.σ, (a, listOf us.toArray c) :: W.I, W.H⟩, fun b => if b = a then 0 else ow b, x, ⟨r.kbg, r.F, r.Ns, fun p hp => ?_, r.len.trans (setN_len _ _ _).symm, fun j oj b h1 h2 => ?_, fun y v hy => ?_, r.cl.keep (fun b e _ => by show (if b = a then 0 else ow b) = 1; rw [if_neg fun q => by rw [q, ho] at e; omega]; exact e) (fun c o e m => m)⟩, a, _, us, c, rfl, hk, rfl, rfl, DsAt.mono (fun _ _ => Kn.ext x) _ _ hd⟩
  · rcases List.mem_cons.mp hp with rfl | hp
    · exact ⟨hm, if_pos rfl⟩
    · refine ⟨(r.sub p hp).1, ?_⟩
      show (if p.1 = a then 0 else ow p.1) = 0
      split
      · rfl
      · exact (r.sub p hp).2
  · rcases nth_setN h1 with ⟨rfl, rfl⟩ | ⟨hj, h1⟩
    · rw [ha] at h2
      cases h2
      exact ⟨_, us, c, hk, rfl, rfl, DsAt.mono (fun _ _ => Kn.ext x) _ _ hd⟩
    · refine (r.obj j oj b h1 h2).keep x (fun b e _ => ?_) (fun c o e m => m)
      show (if b = a then 0 else ow b) = j + 2
      rw [if_neg fun q => by rw [q, ho] at e; omega]
      exact e
  · obtain ⟨hd, u, hu, hr⟩ := r.nm y v hy
    refine ⟨hd, u, hu.ext x, hr.keep (fun _ h => h) (fun b e _ => ?_) (fun c o e m => m)⟩
    show (if b = a then 0 else ow b) = 1
    rw [if_neg fun q => by rw [q, ho] at e; omega]
    exact e
theorem Rl.freezeI (r : Rl fx env W s h N ow ms) {i a : Nat} {l : List (Int × D)} (hi : nth s.N i = some (.dictI l)) (ha : nth W.σ i = some a) :
    ∃ W' ow', Ext W W' ∧ Rl fx env W' ⟨s.m, setN s.N i (.fdictI l)⟩ h N ow' ms ∧ OAt fx W' N ow' i a (.fdictI l) := by
  obtain ⟨o, kvs, ho, hm, hd, hp, hz⟩ := r.obj i _ a hi ha
  have x : Ext W ⟨W.σ, (a, o) :: W.I, W.H⟩ := ⟨⟨[], by simp⟩, fun p hp => .tail _ hp, rfl⟩
  have hk : Kn fx ⟨W.σ, (a, o) :: W.I, W.H⟩ a o := .inr (.head _)
  refine ⟨⟨W.σ, (a, o) :: W.I, W.H⟩, fun b => if b = a then 0 else ow b, x, ⟨r.kbg, r.F, r.Ns, fun p hp => ?_, r.len.trans (setN_len _ _ _).symm, fun j oj b h1 h2 => ?_, fun y v hy => ?_, r.cl.keep (fun b e _ => by show (if b = a then 0 else ow b) = 1; rw [if_neg fun q => by rw [q, ho] at e; omega]; exact e) (fun c o e m => m)⟩, o, kvs, hk, hd, hp.ext x, hz⟩
  · rcases List.mem_cons.mp hp with rfl | hp
    · exact ⟨hm, if_pos rfl⟩
    · refine ⟨(r.sub p hp).1, ?_⟩
      show (if p.1 = a then 0 else ow p.1) = 0
      split
      · rfl
      · exact (r.sub p hp).2
  · rcases nth_setN h1 with ⟨rfl, rfl⟩ | ⟨hj, h1⟩
    · rw [ha] at h2
      cases h2
      exact ⟨o, kvs, hk, hd, hp.ext x, hz⟩
    · refine (r.obj j oj b h1 h2).keep x (fun b e _ => ?_) (fun c o e m => m)
      show (if b = a then 0 else ow b) = j + 2
      rw [if_neg fun q => by rw [q, ho] at e; omega]
      exact e
  · obtain ⟨hd, u, hu, hr⟩ := r.nm y v hy
    refine ⟨hd, u, hu.ext x, hr.keep (fun _ h => h) (fun b e _ => ?_) (fun c o e m => m)⟩
    show (if b = a then 0 else ow b) = 1
    rw [if_neg fun q => by rw [q, ho] at e; omega]
    exact e
end
mutual
/-- data out of a value: lists within are changed no more -/
theorem toD_ok {fx : Fx} {env : Env} {m : List (Str × V)} {h : Heap} {N : Ld} {ms : Str → Option Value} : ∀ {v : V} {u : Value} {n n' : List O} {x : D} {W : Wd} {ow : Nat → Nat}, toD n v = some (x, n') → Rl fx env W ⟨m, n⟩ h N ow ms → VAt fx W v u → ∃ W' ow', Ext W W' ∧ Rl fx env W' ⟨m, n'⟩ h N ow' ms ∧ DAt (Kn fx W') x u
  | .d y1 => by
    rename_i _ _ _ _ W ow
    intro e r hv
    cases e; exact ⟨W, ow, Ext.refl W, r, hv⟩
  | .tup l => by
    rename_i _ n n' x W ow
    intro e r z8
    obtain ⟨a, o, us, k, e1, hk, hc, hd, hs⟩ := z8
    unfold toD at e
    split at e
    · rename_i ds N2 hds
      cases e
      obtain ⟨W', ow', x', r', d'⟩ := toDs_ok hds r hs
      exact ⟨W', ow', x', r', a, o, us, k, e1, hk.ext x', hc, hd, d'⟩
    · cases e
  | .ref i => by
    rename_i _ n n' x W ow
    intro e r z8
    obtain ⟨a, ha, e1⟩ := z8
    unfold toD at e
    split at e
    · rename_i l hl
      cases e
      subst e1
      exact r.freeze hl ha
    · rename_i l hl
      cases e
      subst e1
      obtain ⟨o, us, k, hk, hc, hd, hs⟩ := r.obj i _ a hl ha
      exact ⟨W, ow, Ext.refl W, r, a, o, us, k, rfl, hk, hc, hd, hs⟩
    · cases e
  | .own y1 => by
    intro e _ _
    cases e
  | .blt y1 => by
    intro e _ _
    cases e
  | .typ y1 => by
    intro e _ _
    cases e
  | .bm y1 y2 => by
    intro e _ _
    cases e
  | .scr => by
    intro e _ _
    cases e
  | .cut => by
    intro e _ _
    cases e
theorem toDs_ok {fx : Fx} {env : Env} {m : List (Str × V)} {h : Heap} {N : Ld} {ms : Str → Option Value} : ∀ {v : List V} {u : List Value} {n n' : List O} {x : List D} {W : Wd} {ow : Nat → Nat}, toDs n v = some (x, n') → Rl fx env W ⟨m, n⟩ h N ow ms → VsAt fx W v u → ∃ W' ow', Ext W W' ∧ Rl fx env W' ⟨m, n'⟩ h N ow' ms ∧ DsAt (Kn fx W') x u
  | [] => by
    rename_i _ _ _ _ W ow
    intro e r hv
    cases e; exact ⟨W, ow, Ext.refl W, r, hv⟩
  | v :: vs => by
    rename_i _ n n' x W ow
    intro e r z8
    obtain ⟨u, us, e1, hu, hs⟩ := z8
    unfold toDs at e
    split at e
    · rename_i y N2 hy
      split at e
      · rename_i ys N3 hys
        cases e
        obtain ⟨W1, ow1, x1, r1, d1⟩ := toD_ok hy r hu
        obtain ⟨W2, ow2, x2, r2, d2⟩ := toDs_ok hys r1 (hs.ext x1)
        exact ⟨W2, ow2, x1.trans x2, r2, u, us, e1, DAt.mono (fun _ _ => Kn.ext x2) _ _ d1, d2⟩
      · cases e
    · cases e
end

section
variable {fx : Fx} {env : Env} {W : Wd} {s : St} {h : Heap} {N : Ld} {ow : Nat → Nat} {ms : Str → Option Value} {Q : Value → Shared → Prop} {E : Value → Shared → Prop} {t : Tok}
theorem Rl.get (r : Rl fx env W s h N ow ms) {a : Nat} {o : Obj} (k : Kn fx W a o) : h.get? a = some o := k.elim (fun e => r.F.keep a o (r.kbg a o e)) fun m => (r.Ns _ (r.sub _ m).1).1
theorem Rl.tup (r : Rl fx env W s h N ow ms) {a k : Nat} {o : Obj} {us : List Value} (hk : Kn fx W a o) (hc : o.cls = .type "tuple") (hd : o.data = .seq us.toArray k) : h.IsTuple a us.toArray := ⟨o, r.get hk, hc, k, hd⟩
theorem Rl.lst (r : Rl fx env W s h N ow ms) {a k : Nat} {o : Obj} {us : List Value} (hk : Kn fx W a o) (hc : o.cls = .type "list") (hd : o.data = .seq us.toArray k) : h.IsList a us.toArray := ⟨o, r.get hk, hc, k, hd⟩
/-- a thing that brings one value, and changes the count of tokens alone -/
noncomputable def Pure1 (fx : Fx) (W : Wd) (h : Heap) (v : V) (Q : Value → Shared → Prop) : Prop := ∀ u t, VAt fx W v u → Q u (fx.s h t)
theorem int_at {fx : Fx} {W : Wd} (i : Int) (t : Tok) : VAt fx W (.d (.int i)) (.int i t) := ⟨t, rfl⟩
theorem bool_at {fx : Fx} {W : Wd} (b : Bool) : VAt fx W (.d (.bool b)) (.bool b) := rfl
theorem opt_out {α : Type} {o : Option α} {K : α → Prop} (h : opt o K) : ∃ x, o = some x ∧ K x := by
  cases o with
  | none => exact h.elim
  | some x => exact ⟨x, rfl, h⟩
theorem ok_out {b : Bool} {q : Prop} (h : ok b q) : b = true ∧ q := by
  cases b with
  | true => exact ⟨rfl, h⟩
  | false => exact h.elim
theorem int_of {a : V} {x : Value} {n : Int} (h : asI a = some n) (ha : VAt fx W a x) : ∃ t, x = .int n t := by
  rw [asI_out h] at ha
  exact ha
theorem bool_of {a : V} {x : Value} {c : Bool} (h : asB a = some c) (ha : VAt fx W a x) : x = .bool c := by
  rw [asB_out h] at ha
  exact ha
theorem optI {a : V} {x : Value} {K : Int → Prop} (h : opt (asI a) K) (ha : VAt fx W a x) : ∃ n t, x = .int n t ∧ K n := by
  obtain ⟨n, e, k⟩ := opt_out h
  obtain ⟨t, e⟩ := int_of e ha
  exact ⟨n, t, e, k⟩
theorem optB {a : V} {x : Value} {K : Bool → Prop} (h : opt (asB a) K) (ha : VAt fx W a x) : ∃ n, x = .bool n ∧ K n := by
  obtain ⟨n, e, k⟩ := opt_out h
  exact ⟨n, bool_of e ha, k⟩
theorem optS {a : V} {x : Value} {K : Str → Prop} (h : opt (asS a) K) (ha : VAt fx W a x) : ∃ n t, x = .str n t ∧ K n := by
  obtain ⟨n, e, k⟩ := opt_out h
  rw [asS_out e] at ha
  obtain ⟨t, e⟩ := ha
  exact ⟨n, t, e, k⟩
theorem arK_ok {op : Operator} {a b : V} {x y : Value} {K : V → Prop} (hK : arK op a b K) (ha : VAt fx W a x) (hb : VAt fx W b y) (hQ : ∀ v, K v → Pure1 fx W h v Q) :
    wpAny (model PR fx.w) fx.A (binaryOp op x y) Q E (fx.s h t) := by
  cases op <;> try (exact hK.elim)
  · ((try dsimp only at hK); delta arK at hK; dsimp only at hK)
    obtain ⟨p, t1, rfl, hK⟩ := optI hK ha
    obtain ⟨q, t2, rfl, hK⟩ := optI hK hb
    exact PyProof.Rows.add_int (hQ _ hK _ _ (int_at _ _))
  · ((try dsimp only at hK); delta arK at hK; dsimp only at hK)
    cases ea : asI a with
    | some p =>
      rw [ea] at hK
      obtain ⟨t1, rfl⟩ := int_of ea ha
      cases eb : asI b with
      | some q =>
        rw [eb] at hK
        obtain ⟨t2, rfl⟩ := int_of eb hb
        exact PyProof.Rows.sub_int (hQ _ hK _ _ (int_at _ _))
      | none =>
        rw [eb] at hK
        obtain ⟨q, rfl, hK⟩ := optB hK hb
        exact IntBool.sub_int_bool (hQ _ hK _ _ (int_at _ _))
    | none =>
      rw [ea] at hK
      obtain ⟨p, rfl, hK⟩ := optB hK ha
      obtain ⟨q, rfl, hK⟩ := optB hK hb
      refine PyProof.Rows.sub_bool (hQ _ hK _ _ ?_)
      cases p <;> cases q <;> exact ⟨_, rfl⟩
  · ((try dsimp only at hK); delta arK at hK; dsimp only at hK)
    obtain ⟨p, t1, rfl, hK⟩ := optI hK ha
    obtain ⟨q, t2, rfl, hK⟩ := optI hK hb
    cases q with
    | negSucc q => exact hK.elim
    | ofNat q =>
        obtain ⟨hc, hK⟩ := ok_out hK
        rw [Bool.and_eq_true] at hc
        have h1 : q ≤ 60 := Nat.le_of_ble_eq_true hc.1
        refine PyProof.Rows.lshift_int_small (n := Int.ofNat q) (Int.natCast_nonneg q) ?_ ?_ (hQ _ hK _ _ ⟨_, rfl⟩)
        · show (q : Int) ≤ 1000000
          omega
        · have h2 := hc.2
          unfold fitB at h2
          split at h2 <;> (have h3 := Nat.le_of_ble_eq_true h2; simp; omega)
theorem eqA_ok {d e : D} {x y : Value} {b : Bool} {A : Around} {s' : Shared} {K : Nat → Obj → Prop} (h : eqA d e = some b) (hx : DAt K d x) (hy : DAt K e y) : SeqAt.EqAt A s' x y b := by
  cases d with
  | none => cases e with
    | none =>
      rw [show x = .none from hx, show y = .none from hy, ← Option.some.inj h]
      exact SeqAt.EqAt.same _
    | _ => cases h
  | int a =>
    obtain ⟨t, rfl⟩ := hx
    cases e with
    | int b =>
      obtain ⟨t', rfl⟩ := hy
      rw [← Option.some.inj h]
      exact SeqAt.EqAt.int_int _ _ _ _
    | str b =>
      obtain ⟨t', rfl⟩ := hy
      rw [← Option.some.inj h]
      exact SeqAt.EqAt.int_str _ _ _ _
    | _ => cases h
  | str a =>
    obtain ⟨t, rfl⟩ := hx
    cases e with
    | int b =>
      obtain ⟨t', rfl⟩ := hy
      rw [← Option.some.inj h]
      exact SeqAt.EqAt.str_int _ _ _ _
    | str b =>
      obtain ⟨t', rfl⟩ := hy
      rw [← Option.some.inj h]
      exact SeqAt.EqAt.str_str _ _ _ _
    | _ => cases h
  | _ => cases h
theorem eqDs_ok {A : Around} {s' : Shared} {K : Nat → Obj → Prop} : ∀ {ds es : List D} {us vs : List Value} {b : Bool}, eqDs ds es = some b → DsAt K ds us → DsAt K es vs →
    ∃ e : Nat → Bool, (∀ j (h1 : j < us.length) (h2 : j < vs.length), SeqAt.EqAt A s' us[j] vs[j] (e j)) ∧ ((List.range (min us.length vs.length)).all e && us.length == vs.length) = b
  | [], [], us, vs, b, h, hu, hv => by
    obtain rfl : us = [] := hu
    obtain rfl : vs = [] := hv
    cases h
    exact ⟨fun _ => true, fun j h1 => absurd h1 (Nat.not_lt_zero _), rfl⟩
  | [], _ :: _, us, vs, b, h, hu, hv => by
    obtain rfl : us = [] := hu
    obtain ⟨v, r, rfl, _, _⟩ := hv
    cases h
    exact ⟨fun _ => true, fun j h1 => absurd h1 (Nat.not_lt_zero _), by simp⟩
  | _ :: _, [], us, vs, b, h, hu, hv => by
    obtain rfl : vs = [] := hv
    obtain ⟨v, r, rfl, _, _⟩ := hu
    cases h
    exact ⟨fun _ => true, fun j _ h2 => absurd h2 (Nat.not_lt_zero _), by simp⟩
  | d :: ds, e :: es, us, vs, b, h, hu, hv => by
    obtain ⟨u, us, rfl, hu1, hu2⟩ := hu
    obtain ⟨v, vs, rfl, hv1, hv2⟩ := hv
    unfold eqDs at h
    split at h
    · rename_i c hc
      split at h
      · rename_i c2 hc2
        cases h
        obtain ⟨f, hf, hb⟩ := eqDs_ok hc2 hu2 hv2
        refine ⟨fun j => match j with | 0 => c | j + 1 => f j, fun j h1 h2 => ?_, ?_⟩
        · cases j with
          | zero => exact eqA_ok hc hu1 hv1
          | succ j => exact hf j (Nat.lt_of_succ_lt_succ h1) (Nat.lt_of_succ_lt_succ h2)
        · have e1 : min (u :: us).length (v :: vs).length = min us.length vs.length + 1 := by simp
          rw [e1, List.range_succ_eq_map, List.all_cons, List.all_map]
          have e2 : ((fun j => match j with | 0 => c | j + 1 => f j) ∘ Nat.succ) = f := rfl
          rw [e2, ← hb]
          have e3 : ((u :: us).length == (v :: vs).length) = (us.length == vs.length) := by simp
          rw [e3, Bool.and_assoc]
      · cases h
    · cases h
/-- the answer, by the values themselves -/
noncomputable def eqV : Value → Value → Bool
  | .none, .none => true
  | .int a _, .int b _ => a == b
  | .str a _, .str b _ => a == b
  | _, _ => false
theorem eqA_V {K : Nat → Obj → Prop} {d e : D} {x y : Value} {b : Bool} (h : eqA d e = some b) (hx : DAt K d x) (hy : DAt K e y) : b = eqV x y := by
  unfold eqA at h
  split at h <;> try (cases h)
  · rw [show x = .none from hx, show y = .none from hy]; rfl
  · obtain ⟨t, rfl⟩ := hx
    obtain ⟨t', rfl⟩ := hy
    rfl
  · obtain ⟨t, rfl⟩ := hx
    obtain ⟨t', rfl⟩ := hy
    rfl
  · obtain ⟨t, rfl⟩ := hx
    obtain ⟨t', rfl⟩ := hy
    rfl
  · obtain ⟨t, rfl⟩ := hx
    obtain ⟨t', rfl⟩ := hy
    rfl
theorem inD_ok {A : Around} {s' : Shared} {K : Nat → Obj → Prop} {d : D} {x : Value} (hx : DAt K d x) : ∀ {ds : List D} {us : List Value} {b : Bool}, inD d ds = some b → DsAt K ds us →
    (∀ y, y ∈ us → SeqAt.EqAt A s' y x (eqV y x)) ∧ us.any (fun y => eqV y x) = b
  | [], us, b, h, hu => by
    obtain rfl : us = [] := hu
    cases h
    exact ⟨fun y hy => (nomatch hy), rfl⟩
  | d1 :: ds, us, b, h, hu => by
    obtain ⟨u, us, rfl, hu1, hu2⟩ := hu
    unfold inD at h
    split at h
    · rename_i c hc
      split at h
      · rename_i c2 hc2
        cases h
        obtain ⟨e1, e2⟩ := inD_ok (A := A) (s' := s') hx hc2 hu2
        have e3 := eqA_V hc hu1 hx
        refine ⟨fun y hy => ?_, by rw [List.any_cons, e2, ← e3]⟩
        rcases List.mem_cons.mp hy with rfl | hy
        · rw [← e3]
          exact eqA_ok hc hu1 hx
        · exact e1 y hy
      · cases h
    · cases h
end
section
variable {fx : Fx} {env : Env} {W : Wd} {s : St} {h : Heap} {N : Ld} {ow : Nat → Nat} {ms : Str → Option Value} {Q : Value → Shared → Prop} {E : Value → Shared → Prop} {t : Tok}
theorem listOf_ok (r : Rl fx env W s h N ow ms) {v : V} {u : Value} {l : List D} (hl : listOf? s.N v = some l) (hv : VAt fx W v u) : ∃ (a : Nat) (us : List Value), u = .ref a ∧ h.IsList a us.toArray ∧ DsAt (Kn fx W) l us := by
  unfold listOf? at hl
  split at hl
  · cases hl
    obtain ⟨a, o, us, k, rfl, hk, hc, hd, hs⟩ := hv
    exact ⟨a, us, rfl, r.lst hk hc hd, hs⟩
  · rename_i i
    obtain ⟨a, ha, rfl⟩ := hv
    split at hl
    · rename_i l' hi
      cases hl
      obtain ⟨us, c, _, hm, hs⟩ := r.obj i _ a hi ha
      exact ⟨a, us, rfl, ⟨_, (r.Ns _ hm).1, rfl, c, rfl⟩, hs⟩
    · rename_i l' hi
      cases hl
      obtain ⟨o, us, k, hk, hc, hd, hs⟩ := r.obj i _ a hi ha
      exact ⟨a, us, rfl, r.lst hk hc hd, hs⟩
    · cases hl
  · cases hl
theorem dictI_ok (r : Rl fx env W s h N ow ms) {v : V} {u : Value} {l : List (Int × D)} (hl : dictIOf s.N v = some l) (hv : VAt fx W v u) :
    ∃ (a : Nat) (kvs : List (Int × Value)), u = .ref a ∧ h.DictOf (intKind PR fx.w) a kvs ∧ Prs (fun v d => DAt (Kn fx W) d v) kvs l ∧ (a == sysModules) = false := by
  unfold dictIOf at hl
  split at hl
  · rename_i i
    obtain ⟨a, ha, rfl⟩ := hv
    split at hl
    · rename_i l' hi
      cases hl
      obtain ⟨o, kvs, _, hm, hd, hp, hz⟩ := r.obj i _ a hi ha
      exact ⟨a, kvs, rfl, Heap.dictOf_iff.mpr ⟨o, (r.Ns _ hm).1, hd⟩, hp, hz⟩
    · rename_i l' hi
      cases hl
      obtain ⟨o, kvs, hk, hd, hp, hz⟩ := r.obj i _ a hi ha
      exact ⟨a, kvs, rfl, Heap.dictOf_iff.mpr ⟨o, r.get hk, hd⟩, hp, hz⟩
    · cases hl
  · cases hl
theorem Prs.val {fx : Fx} {W : Wd} {κ : Type} [DecidableEq κ] {kvs : List (κ × Value)} {l : List (κ × D)} (p : Prs (fun v d => DAt (Kn fx W) d v) kvs l) {k : κ} {d : D} (h : l.lookup k = some d) : ∃ v, valueAt kvs k = some v ∧ DAt (Kn fx W) d v := p.get h
theorem sameI_ok {A : Around} {s' : Shared} {kb : List (Int × Value)} {lb : List (Int × D)} (pb : Prs (fun v d => DAt (Kn fx W) d v) kb lb) : ∀ {ka : List (Int × Value)} {la : List (Int × D)}, Prs (fun v d => DAt (Kn fx W) d v) ka la → sameI la lb = true → KeqHits A s' kb ka true
  | _, _, .nil, _ => .nil
  | _, _, .cons (k := k) (v := v) (x := x) hv hr, e => by
    unfold sameI at e
    rw [Bool.and_eq_true] at e
    obtain ⟨e1, e2⟩ := e
    split at e1
    · rename_i y hy
      split at e1
      · rename_i c hc
        subst e1
        obtain ⟨u, h1, h2⟩ := pb.val hy
        have e3 : (true : Bool) = (true && true) := rfl
        rw [e3]
        exact .hit h1 (eqA_ok hc hv h2) (sameI_ok pb hr e2)
      · cases e1
    · cases e1
mutual
theorem noRefs1 {fx : Fx} {W : Wd} : ∀ (v : V) (u : Value) (x : D) (n' : List O), toD [] v = some (x, n') → VAt fx W v u → DAt (Kn fx W) x u ∧ n' = []
  | .d _ => by
    intro _ _ _ e h
    cases e; exact ⟨h, rfl⟩
  | .tup l => by
    intro _ x n' e z4
    obtain ⟨a, o, us, k, e1, hk, hc, hd, hs⟩ := z4
    unfold toD at e
    split at e
    · rename_i ds N2 hds
      cases e
      obtain ⟨h1, h2⟩ := noRefsL l us ds _ hds hs
      exact ⟨⟨a, o, us, k, e1, hk, hc, hd, h1⟩, h2⟩
    · cases e
  | .ref i => by
    intro _ _ _ e _
    unfold toD at e
    cases e
  | .own _ => by
    intro _ _ _ e _
    cases e
  | .blt _ => by
    intro _ _ _ e _
    cases e
  | .typ _ => by
    intro _ _ _ e _
    cases e
  | .bm _ _ => by
    intro _ _ _ e _
    cases e
  | .scr => by
    intro _ _ _ e _
    cases e
  | .cut => by
    intro _ _ _ e _
    cases e
theorem noRefsL {fx : Fx} {W : Wd} : ∀ (v : List V) (u : List Value) (x : List D) (n' : List O), toDs [] v = some (x, n') → VsAt fx W v u → DsAt (Kn fx W) x u ∧ n' = []
  | [] => by
    intro _ _ _ e h
    cases e; exact ⟨h, rfl⟩
  | v :: vs => by
    intro _ x n' e z4
    obtain ⟨u, us, e1, hu, hs⟩ := z4
    unfold toDs at e
    split at e
    · rename_i y N2 hy
      split at e
      · rename_i ys N3 hys
        cases e
        obtain ⟨h1, rfl⟩ := noRefs1 v u y N2 hy hu
        obtain ⟨h2, h3⟩ := noRefsL vs us ys _ hys hs
        exact ⟨⟨u, us, e1, h1, h2⟩, h3⟩
      · cases e
    · cases e
end
theorem isNone_ok {v : V} {u : Value} {c : Bool} (hn : isNone v = some c) (hv : VAt fx W v u) : (u == .none) = c := by
  unfold isNone at hn
  split at hn
  · cases hn
    rw [show u = .none from hv]; rfl
  · rename_i x hx
    cases hn
    cases x with
    | none => exact absurd rfl hx
    | bool b => rw [show u = .bool b from hv]; rfl
    | int i => obtain ⟨t, rfl⟩ := hv; rfl
    | str i => obtain ⟨t, rfl⟩ := hv; rfl
    | tup l => obtain ⟨a, _, _, _, rfl, _⟩ := hv; rfl
    | fl l => obtain ⟨a, _, _, _, rfl, _⟩ := hv; rfl
  · cases hn
    obtain ⟨a, _, rfl⟩ := hv; rfl
  · cases hn
    obtain ⟨a, _, _, _, rfl, _⟩ := hv; rfl
  · cases hn
theorem Rl.units (X : FxOk fx) : fx.A.units < cLine := by have := X.hu; show fx.un < cLine; omega
theorem noRefs {v : List V} {u : List Value} {x : List D} {n' : List O} (e : toDs [] v = some (x, n')) (hv : VsAt fx W v u) : DsAt (Kn fx W) x u ∧ n' = [] := noRefsL v u x n' e hv
theorem items_ok (r : Rl fx env W s h N ow ms) {v : V} {u : Value} {l : List D} (hl : itemsOf s.N v = some l) (hv : VAt fx W v u) : ∃ (a : Nat) (us : List Value), u = .ref a ∧ (h.IsList a us.toArray ∨ h.IsTuple a us.toArray) ∧ DsAt (Kn fx W) l us := by
  unfold itemsOf at hl
  split at hl
  · cases hl
    obtain ⟨a, o, us, k, rfl, hk, hc, hd, hs⟩ := hv
    exact ⟨a, us, rfl, .inr (r.tup hk hc hd), hs⟩
  · cases hl
    obtain ⟨a, o, us, k, rfl, hk, hc, hd, hs⟩ := hv
    exact ⟨a, us, rfl, .inl (r.lst hk hc hd), hs⟩
  · rename_i l'
    split at hl
    · rename_i ds n' hds
      cases hl
      obtain ⟨a, o, us, k, rfl, hk, hc, hd, hs⟩ := hv
      refine ⟨a, us, rfl, .inr (r.tup hk hc hd), ?_⟩
      exact (noRefs hds hs).1
    · cases hl
  · rename_i i
    obtain ⟨a, ha, rfl⟩ := hv
    split at hl
    · rename_i l' hi
      cases hl
      obtain ⟨us, c, _, hm, hs⟩ := r.obj i _ a hi ha
      exact ⟨a, us, rfl, .inl ⟨_, (r.Ns _ hm).1, rfl, c, rfl⟩, hs⟩
    · rename_i l' hi
      cases hl
      obtain ⟨o, us, k, hk, hc, hd, hs⟩ := r.obj i _ a hi ha
      exact ⟨a, us, rfl, .inl (r.lst hk hc hd), hs⟩
    · cases hl
  · cases hl
end

section
variable {fx : Fx} {env : Env} {W : Wd} {s : St} {h : Heap} {N : Ld} {ow : Nat → Nat} {ms : Str → Option Value} {Q : Value → Shared → Prop} {E : Value → Shared → Prop} {t : Tok}
theorem cmpK_ok (X : FxOk fx) (r : Rl fx env W s h N ow ms) {op : CmpOp} {a b : V} {x y : Value} {K : Bool → Prop} (hK : cmpK s.N op a b K) (ha : VAt fx W a x) (hb : VAt fx W b y) (hQ : ∀ c t', K c → Q (.bool c) (fx.s h t')) :
    wpAny (model PR fx.w) fx.A (compareOp op x y) Q E (fx.s h t) := by
  have hu := Rl.units X
  cases op <;> ((try dsimp only at hK); delta cmpK at hK; dsimp only at hK)
  case Lt =>
    obtain ⟨p, t1, rfl, hK⟩ := optI hK ha
    obtain ⟨q, t2, rfl, hK⟩ := optI hK hb
    exact PyProof.Rows.lt_int (hQ _ _ hK)
  case LtE =>
    obtain ⟨p, t1, rfl, hK⟩ := optI hK ha
    obtain ⟨q, t2, rfl, hK⟩ := optI hK hb
    exact PyProof.Rows.le_int (hQ _ _ hK)
  case Gt =>
    obtain ⟨p, t1, rfl, hK⟩ := optI hK ha
    obtain ⟨q, t2, rfl, hK⟩ := optI hK hb
    exact PyProof.Rows.gt_int (hQ _ _ hK)
  case GtE =>
    obtain ⟨p, t1, rfl, hK⟩ := optI hK ha
    obtain ⟨q, t2, rfl, hK⟩ := optI hK hb
    exact PyProof.Rows.ge_int (hQ _ _ hK)
  case Is =>
    split at hK
    · obtain ⟨c, hc, hk⟩ := opt_out hK
      rw [show y = .none from hb]
      refine PyProof.Rows.is_none_gen ?_
      rw [isNone_ok hc ha]
      exact hQ _ _ hk
    · exact hK.elim
  case IsNot =>
    split at hK
    · obtain ⟨c, hc, hk⟩ := opt_out hK
      rw [show y = .none from hb]
      refine PyProof.Rows.isnot_none_gen ?_
      rw [isNone_ok hc ha]
      exact hQ _ _ hk
    · exact hK.elim
  case In =>
    split at hK
    · rename_i d
      obtain ⟨l, hl, hk⟩ := opt_out hK
      obtain ⟨c, hc, hk⟩ := opt_out hk
      obtain ⟨p, us, rfl, hp, hs⟩ := items_ok r hl hb
      obtain ⟨h1, h2⟩ := inD_ok (A := fx.A.in1) (s' := fx.s h t) (show DAt (Kn fx W) d x from ha) hc hs
      have h3 : us.toArray.any (fun y => eqV y x) = c := by rw [← h2]; simp
      rcases hp with hp | hp
      · exact SeqAt.in_listAt (fun y => eqV y x) hp (fun y hy => h1 y (by simpa using hy)) (h3 ▸ hQ c _ hk)
      · exact SeqAt.in_tupleAt (fun y => eqV y x) hp (fun y hy => h1 y (by simpa using hy)) (h3 ▸ hQ c _ hk)
    · exact hK.elim
  case NotIn =>
    split at hK
    · obtain ⟨l, hl, hk⟩ := opt_out hK
      obtain ⟨d, hd, hk⟩ := opt_out hk
      obtain ⟨t1, rfl⟩ := ha
      obtain ⟨q, kb, rfl, hq, hpb, hz⟩ := dictI_ok r hl hb
      obtain ⟨v, hv, _⟩ := hpb.val hd
      exact wpAny_notIn_of (intKind_is _ _ _ _) hz hq.mapOf (by rw [hv]; exact hQ _ _ hk)
    · exact hK.elim
  case Eq =>
    split at hK
    · obtain ⟨t1, rfl⟩ := ha
      obtain ⟨q, t2, rfl, hK⟩ := optI hK hb
      exact PyProof.Rows.eq_int (hQ _ _ hK)
    · obtain ⟨t1, rfl⟩ := ha
      obtain ⟨q, t2, rfl, hK⟩ := optS hK hb
      exact PyProof.Rows.eq_str (hQ _ _ hK)
    · split at hK
      · rename_i ds _ _ vs
        obtain ⟨⟨es, n'⟩, he, hk⟩ := opt_out hK
        obtain ⟨c, hc, hk⟩ := opt_out hk
        obtain ⟨p, o, us, k, rfl, h1, h2, h3, h4⟩ := ha
        obtain ⟨q, o2, us2, k2, rfl, g1, g2, g3, g4⟩ := hb
        obtain ⟨e, he1, he2⟩ := eqDs_ok (A := fx.A.in1) (s' := fx.s h t) hc h4 (noRefs he g4).1
        refine SeqAt.eq_tupleAt (e := e) (r.tup h1 h2 h3) (r.tup g1 g2 g3) hu (fun j j1 j2 => he1 j (by simpa using j1) (by simpa using j2)) ?_
        simp only [List.size_toArray]
        rw [he2]
        exact hQ _ _ hk
      · exact hK.elim
    · obtain ⟨l, hl, hk⟩ := opt_out hK
      obtain ⟨l2, hl2, hk⟩ := opt_out hk
      split at hk
      · obtain ⟨p, us, rfl, hp, hs⟩ := listOf_ok r hl ha
        obtain ⟨q, us2, rfl, hq, hs2⟩ := listOf_ok r hl2 hb
        obtain rfl : us2 = [] := hs2
        cases l with
        | nil =>
          obtain rfl : us = [] := hs
          exact SeqAt.eq_listAt (e := fun _ => true) hp hq rfl hu (fun j h1 => absurd h1 (by simp)) (hQ _ _ hk)
        | cons d l =>
          obtain ⟨u, us, rfl, _, _⟩ := hs
          exact SeqAt.eq_list_lengthsAt hp hq (by simp) hu (hQ _ _ hk)
      · exact hk.elim
    · exact hK.elim
  case NotEq =>
    split at hK
    · obtain ⟨t1, rfl⟩ := ha
      obtain ⟨q, t2, rfl, hK⟩ := optI hK hb
      exact PyProof.Rows.ne_int (hQ _ _ hK)
    · obtain ⟨t1, rfl⟩ := ha
      obtain ⟨q, t2, rfl, hK⟩ := optS hK hb
      exact PyProof.Rows.ne_str (hQ _ _ hK)
    · obtain rfl := ha
      obtain ⟨q, rfl, hK⟩ := optB hK hb
      exact PyProof.Rows.ne_bool (hQ _ _ hK)
    · rename_i i
      split at hK
      · rename_i l hl
        obtain ⟨l2, hl2, hk⟩ := opt_out hK
        split at hk
        · have hl1 : listOf? s.N (.ref i) = some l := by simp only [listOf?, hl]
          obtain ⟨p, us, rfl, hp, hs⟩ := listOf_ok r hl1 ha
          obtain ⟨q, us2, rfl, hq, hs2⟩ := listOf_ok r hl2 hb
          obtain rfl : us2 = [] := hs2
          cases l with
          | nil =>
            obtain rfl : us = [] := hs
            exact SeqAt.RcNeAt.lists (items := #[]) (items2 := #[]) (e := fun _ => true) hp hq rfl hu (fun j h1 => absurd h1 (by simp)) _ _ _ _ (hQ _ _ hk)
          | cons d l =>
            obtain ⟨u, us, rfl, _, _⟩ := hs
            exact SeqAt.RcNeAt.lists_lengths hp hq (by simp) hu _ _ _ _ (hQ _ _ hk)
        · exact hk.elim
      · rename_i l hl
        obtain ⟨l2, hl2, hk⟩ := opt_out hK
        obtain ⟨hc, hk⟩ := ok_out hk
        rw [Bool.and_eq_true] at hc
        have hl1 : dictIOf s.N (.ref i) = some l := by simp only [dictIOf, hl]
        obtain ⟨p, ka, rfl, hp, hpa, hz⟩ := dictI_ok r hl1 ha
        obtain ⟨q, kb, rfl, hq, hpb, hz2⟩ := dictI_ok r hl2 hb
        refine keq_ne (r := true) hz hz2 hp hq hu (fun _ => sameI_ok hpb hpa hc.2) ?_
        have e : (ka.length == kb.length) = true := by
          rw [hpa.length, hpb.length]
          simpa using Nat.eq_of_beq_eq_true hc.1
        rw [e]
        exact hQ _ _ hk
      · exact hK.elim
    · exact hK.elim
end

theorem item_seq {α : Type} {l : List α} {k : Int} {x : α} (h : item l k = some x) : ∃ j, seqIndex? k l.length = some j ∧ nth l j = some x := by
  cases k with
  | ofNat n =>
    have hn : n < l.length := nth_lt_len h
    refine ⟨n, ?_, h⟩
    unfold seqIndex?
    simp
    omega
  | negSucc n =>
    simp only [item] at h
    split at h
    · rename_i hb
      have := Nat.le_of_ble_eq_true hb
      refine ⟨l.length - (n + 1), ?_, h⟩
      unfold seqIndex?
      have h1 : Int.negSucc n < 0 := by omega
      rw [if_pos h1]
      have h2 : (0 ≤ Int.negSucc n + (l.length : Int) && Int.negSucc n + (l.length : Int) < (l.length : Int)) = true := by
        rw [Bool.and_eq_true, decide_eq_true_eq, decide_eq_true_eq]
        omega
      rw [if_pos h2]
      congr 1
      omega
    · cases h
theorem fitB_out {k : Int} (h : fitB k = true) : -(2 ^ 63) ≤ k ∧ k < 2 ^ 63 := by
  cases k with
  | ofNat n =>
    have h1 : n ≤ 100000 := Nat.le_of_ble_eq_true h
    show (_ : Int) ≤ (n : Int) ∧ (n : Int) < _
    omega
  | negSucc n =>
    have h1 : n ≤ 100000 := Nat.le_of_ble_eq_true h
    omega
theorem VsAt.get {fx : Fx} {W : Wd} : ∀ {ds : List V} {vs : List Value}, VsAt fx W ds vs → ∀ {n : Nat} {d : V}, nth ds n = some d → ∃ v, vs[n]? = some v ∧ VAt fx W d v
  | [], _, _, _, _, h => by cases h
  | _ :: _, _, ⟨x, r, e, h1, h2⟩, 0, d, h => by cases h; rw [e]; exact ⟨x, rfl, h1⟩
  | _ :: _, _, ⟨x, r, e, h1, h2⟩, n + 1, d, h => by
    obtain ⟨v, hv, hd⟩ := h2.get h
    rw [e]; exact ⟨v, by simpa using hv, hd⟩
theorem VsAt.len {fx : Fx} {W : Wd} : ∀ {ds : List V} {vs : List Value}, VsAt fx W ds vs → vs.length = ds.length
  | [], _, e => by rw [show _ = _ from e]; rfl
  | _ :: _, _, ⟨_, _, e, _, h⟩ => by rw [e, List.length_cons, List.length_cons, VsAt.len h]
section
variable {fx : Fx} {env : Env} {W : Wd} {s : St} {h : Heap} {N : Ld} {ow : Nat → Nat} {ms : Str → Option Value} {Q : Value → Shared → Prop} {E : Value → Shared → Prop} {t : Tok}
noncomputable def notSlice : PySem.Expr → Bool | .Slice .. => false | _ => true
theorem sub_of {sl : PySem.Expr} (hs : notSlice sl = true) (o i : Value) : subscripted sl false o i = operate [o, i] (getItem o i) := by
  cases sl <;> first | rfl | cases hs
theorem listItem {a : Nat} {us : List Value} {k : Int} {u : Tok} {j : Nat} {x : Value} {s' : Shared} (hl : s'.heap.IsList a us.toArray) (hlo : -(2 ^ 63) ≤ k) (hhi : k < 2 ^ 63) (hj : seqIndex? k us.length = some j) (hx : us[j]? = some x) (hQ : Q x s') :
    wpAny (model PR fx.w) fx.A (getItem (.ref a) (.int k u)) Q E s' := by
  by_cases h0 : 0 ≤ k
  · have e : j = k.toNat := by
      have hk : ¬ k < 0 := by omega
      simp only [seqIndex?, hk, if_false] at hj
      split at hj
      · exact (Option.some.inj hj).symm
      · cases hj
    subst e
    exact wpAny_getItem_list hl h0 hhi (by simpa using hx) hQ
  · exact kde_getNeg hl (by omega) hlo hj hx hQ
theorem subK_ok (r : Rl fx env W s h N ow ms) {a i : V} {x y : Value} {K : V → Prop} {value sl : PySem.Expr} (hK : subK s.N a i K) (hs : notSlice sl = true) (ha : VAt fx W a x) (hi : VAt fx W i y) (hQ : ∀ v, K v → Pure1 fx W h v Q) :
    wpAny (model PR fx.w) fx.A (subscriptTail value sl x y) Q E (fx.s h t) := by
  have hsu := fun o i => sub_of hs o i
  unfold subK at hK
  split at hK
  · rename_i k
    obtain ⟨tk, rfl⟩ := hi
    split at hK
    · rename_i st
      obtain ⟨ts, rfl⟩ := ha
      split at hK
      · rename_i n
        obtain ⟨hc, hk⟩ := ok_out hK
        rw [Bool.and_eq_true] at hc
        have h1 : n < st.length := by have := hc.1; unfold Nat.blt at this; exact Nat.le_of_ble_eq_true this
        have h2 : n ≤ 1000 := Nat.le_of_ble_eq_true hc.2
        refine tail_any (T := "str") rfl PySem.F.slot_str_getitem.lookup (SB.getItem (fitsSsize_of (N := 9223372036854775808) ?_ ?_ (Int.le_refl _)) (charAt_isSome ?_ ?_) (hQ _ hk _ _ ⟨_, rfl⟩)) (hsu _ _)
        · show _ < (n : Int); omega
        · show (n : Int) < _; omega
        · show _ ≤ (n : Int); omega
        · show (n : Int) < _; omega
      · exact hK.elim
    · rename_i j
      obtain ⟨p, hp, rfl⟩ := ha
      split at hK
      · rename_i l hl
        obtain ⟨d, hd, hk⟩ := opt_out hK
        have hl1 : dictIOf s.N (.ref j) = some l := by simp only [dictIOf, hl]
        obtain ⟨p', ka, e, hp', hpa, hz⟩ := dictI_ok r hl1 ⟨p, hp, rfl⟩
        cases e
        obtain ⟨v, hv, hvd⟩ := hpa.val hd
        exact tail_any hp'.typeIs PySem.F.slot_dict_getitem.lookup (wpAny_getItem_of (intKind_is _ _ _ _) hp'.mapOf hv (hQ _ hk _ _ hvd)) (hsu _ _)
      · rename_i l hl
        obtain ⟨d, hd, hk⟩ := opt_out hK
        have hl1 : dictIOf s.N (.ref j) = some l := by simp only [dictIOf, hl]
        obtain ⟨p', ka, e, hp', hpa, hz⟩ := dictI_ok r hl1 ⟨p, hp, rfl⟩
        cases e
        obtain ⟨v, hv, hvd⟩ := hpa.val hd
        exact tail_any hp'.typeIs PySem.F.slot_dict_getitem.lookup (wpAny_getItem_of (intKind_is _ _ _ _) hp'.mapOf hv (hQ _ hk _ _ hvd)) (hsu _ _)
      · rename_i l hl
        obtain ⟨hf, hk⟩ := ok_out hK
        obtain ⟨d, hd, hk⟩ := opt_out hk
        have hl1 : listOf? s.N (.ref j) = some l := by simp only [listOf?, hl]
        obtain ⟨p', us, e, hp', hus⟩ := listOf_ok r hl1 ⟨p, hp, rfl⟩
        cases e
        obtain ⟨m, hm, hm2⟩ := item_seq hd
        obtain ⟨v, hv, hvd⟩ := hus.get hm2
        rw [← hus.len] at hm
        exact tail_any hp'.typeIs slot_list_getitem.lookup (listItem hp' (fitB_out hf).1 (fitB_out hf).2 hm hv (hQ _ hk _ _ hvd)) (hsu _ _)
      · rename_i l hl
        obtain ⟨hf, hk⟩ := ok_out hK
        obtain ⟨d, hd, hk⟩ := opt_out hk
        have hl1 : listOf? s.N (.ref j) = some l := by simp only [listOf?, hl]
        obtain ⟨p', us, e, hp', hus⟩ := listOf_ok r hl1 ⟨p, hp, rfl⟩
        cases e
        obtain ⟨m, hm, hm2⟩ := item_seq hd
        obtain ⟨v, hv, hvd⟩ := hus.get hm2
        rw [← hus.len] at hm
        exact tail_any hp'.typeIs slot_list_getitem.lookup (listItem hp' (fitB_out hf).1 (fitB_out hf).2 hm hv (hQ _ hk _ _ hvd)) (hsu _ _)
      · exact hK.elim
    · rename_i l
      obtain ⟨hf, hk⟩ := ok_out hK
      obtain ⟨d, hd, hk⟩ := opt_out hk
      obtain ⟨p, o, us, k2, rfl, h1, h2, h3, h4⟩ := ha
      obtain ⟨m, hm, hm2⟩ := item_seq hd
      obtain ⟨v, hv, hvd⟩ := h4.get hm2
      rw [← h4.len] at hm
      exact item_tupleT (r.tup h1 h2 h3) (fitB_out hf).1 (fitB_out hf).2 hm hv (hQ _ hk _ _ hvd) (hsu _ _)
    · rename_i l
      obtain ⟨hf, hk⟩ := ok_out hK
      obtain ⟨d, hd, hk⟩ := opt_out hk
      obtain ⟨p, o, us, k2, rfl, h1, h2, h3, h4⟩ := ha
      obtain ⟨m, hm, hm2⟩ := item_seq hd
      obtain ⟨v, hv, hvd⟩ := h4.get hm2
      rw [← h4.len] at hm
      have hp' : (fx.s h t).heap.IsList p us.toArray := r.lst h1 h2 h3
      exact tail_any hp'.typeIs slot_list_getitem.lookup (listItem hp' (fitB_out hf).1 (fitB_out hf).2 hm hv (hQ _ hk _ _ hvd)) (hsu _ _)
    · rename_i l
      obtain ⟨hf, hk⟩ := ok_out hK
      obtain ⟨d, hd, hk⟩ := opt_out hk
      obtain ⟨p, o, us, k2, rfl, h1, h2, h3, h4⟩ := ha
      obtain ⟨m, hm, hm2⟩ := item_seq hd
      obtain ⟨v, hv, hvd⟩ := VsAt.get h4 hm2
      rw [← VsAt.len h4] at hm
      exact item_tupleT (r.tup h1 h2 h3) (fitB_out hf).1 (fitB_out hf).2 hm hv (hQ _ hk _ _ hvd) (hsu _ _)
    · exact hK.elim
  · rename_i st
    obtain ⟨ts, rfl⟩ := hi
    split at hK
    · rename_i j
      obtain ⟨p, hp, rfl⟩ := ha
      split at hK
      · rename_i l hl
        obtain ⟨d, hd, hk⟩ := opt_out hK
        obtain ⟨o, kvs, _, hm, hdo, hpr, hz⟩ := r.obj j _ p hl hp
        obtain ⟨v, hv, hvd⟩ := hpr.val hd
        have hp' : (fx.s h t).heap.DictOf (strKind PR fx.w) p kvs := Heap.dictOf_iff.mpr ⟨o, (r.Ns _ hm).1, hdo⟩
        exact tail_any hp'.typeIs PySem.F.slot_dict_getitem.lookup (wpAny_getItem_of (strKind_is _ _ _ _) hp'.mapOf hv (hQ _ hk _ _ hvd)) (hsu _ _)
      · exact hK.elim
    · exact hK.elim
  · exact hK.elim
end

/-- what the clean machine asks of a def's or a class's call: see S8 -/
theorem flds_all (P : Params) : (flds.all fun y => y.2.all fun x => plainGet (hd.heap_39 P) y.1 x && hasDictIn (hd.heap_39 P) y.1 && decide (findIn (hd.heap_39 P) (.ref y.1) x = some none) && decide (findIn (hd.heap_39 P) (.ref y.1) "__setattr__" = some (some (.builtin "object.__setattr__"))) && plainOver (hd.heap_39 P) y.1 && decide (takerIn (hd.heap_39 P) y.1 x = some none)) = true := by kernel_rfl!
theorem meths_all (P : Params) : (meths.all fun y => y.2.all fun x => plainGet (hd.heap_39 P) y.1 x.1 && hasDictIn (hd.heap_39 P) y.1 && decide (findIn (hd.heap_39 P) (.ref y.1) x.1 = some (some (.ref x.2))) && isFn (hd.heap_39 P) (.ref x.2) && decide (specialIn (hd.heap_39 P) (.ref x.2) "__get__" = some (some (.builtin "function.__get__"))) && decide (takesIn (hd.heap_39 P) (.ref x.2) = some false) && !copiedNames.contains x.1 && fnIn (hd.heap_39 P) x.2 && keepIn (hd.heap_39 P) (.ref x.2)) = true := by kernel_rfl!
theorem lookN_mem {α : Type} : ∀ {l : List (Nat × α)} {x : Nat} {v : α}, lookN l x = some v → (x, v) ∈ l
  | [], _, _, h => by cases h
  | (y, u) :: r, x, v, h => by
    unfold lookN at h
    split at h
    · rename_i e
      cases h
      rw [Nat.eq_of_beq_eq_true e]
      exact .head _
    · exact .tail _ (lookN_mem h)
theorem look_mem {α : Type} : ∀ {l : List (Str × α)} {x : Str} {v : α}, look l x = some v → (x, v) ∈ l
  | [], _, _, h => by cases h
  | (y, u) :: r, x, v, h => by
    unfold look at h
    split at h
    · rename_i e
      cases h
      rw [eq_of_beq e]
      exact .head _
    · exact .tail _ (look_mem h)
theorem hasS_mem {x : Str} : ∀ {l : List Str}, hasS x l = true → x ∈ l
  | [], h => by cases h
  | y :: r, h => by
    unfold hasS at h
    split at h
    · rename_i e
      rw [eq_of_beq e]
      exact .head _
    · exact .tail _ (hasS_mem h)
structure FieldIn (K : Frag) (c : Nat) (x : Str) : Prop where
  get : plainGet K c x = true
  dict : hasDictIn K c = true
  find : findIn K (.ref c) x = some none
  set : findIn K (.ref c) "__setattr__" = some (some (.builtin "object.__setattr__"))
  over : plainOver K c = true
  taker : takerIn K c x = some none
theorem field_in (P : Params) {c : Nat} {x : Str} (h : okField c x = true) : FieldIn (hd.heap_39 P) c x := by
  unfold okField at h
  split at h
  · rename_i xs hx
    have := List.all_eq_true.mp (List.all_eq_true.mp (flds_all P) _ (lookN_mem hx)) _ (hasS_mem h)
    simp only [Bool.and_eq_true, decide_eq_true_eq] at this
    obtain ⟨⟨⟨⟨⟨a, b⟩, c⟩, d⟩, e⟩, f⟩ := this
    exact ⟨a, b, c, d, e, f⟩
  · cases h
structure MethIn (K : Frag) (c : Nat) (x : Str) (f : Nat) : Prop where
  get : plainGet K c x = true
  dict : hasDictIn K c = true
  find : findIn K (.ref c) x = some (some (.ref f))
  fn : isFn K (.ref f) = true
  bind : specialIn K (.ref f) "__get__" = some (some (.builtin "function.__get__"))
  takes : takesIn K (.ref f) = some false
  copied : copiedNames.contains x = false
  fnIn : fnIn K f = true
  keep : keepIn K (.ref f) = true
theorem meth_in (P : Params) {c f : Nat} {x : Str} {ms : List (Str × Nat)} (h : lookN meths c = some ms) (h' : look ms x = some f) : MethIn (hd.heap_39 P) c x f := by
  have := List.all_eq_true.mp (List.all_eq_true.mp (meths_all P) _ (lookN_mem h)) _ (look_mem h')
  simp only [Bool.and_eq_true, decide_eq_true_eq, Bool.not_eq_true'] at this
  obtain ⟨⟨⟨⟨⟨⟨⟨⟨a, b⟩, c⟩, d⟩, e⟩, f⟩, g⟩, i⟩, j⟩ := this
  exact ⟨a, b, c, d, e, f, g, i, j⟩
theorem handed_at {fx : Fx} {W : Wd} : ∀ {v : V} {u : Value}, VAt fx W v u → (∀ id, v ≠ .blt id) → handedIn u = true
  | .d x => by
    rename_i u
    intro h _
    cases x with
    | none => rw [show u = .none from h]; rfl
    | bool b => rw [show u = .bool b from h]; rfl
    | int i => obtain ⟨t, rfl⟩ := h; rfl
    | str i => obtain ⟨t, rfl⟩ := h; rfl
    | tup l => obtain ⟨a, _, _, _, rfl, _⟩ := h; rfl
    | fl l => obtain ⟨a, _, _, _, rfl, _⟩ := h; rfl
  | .tup l => by
    intro z1 _
    obtain ⟨a, _, _, _, e, _⟩ := z1
    rw [e]; rfl
  | .ref y1 => by
    intro z1 _
    obtain ⟨a, _, e⟩ := z1
    rw [e]; rfl
  | .own a => by
    rename_i u
    intro h _
    rw [show u = .ref a from h]; rfl
  | .blt id => by
    intro _ hn
    exact absurd rfl (hn id)
  | .typ n => by
    rename_i u
    intro h _
    rw [show u = .type n from h]; rfl
  | .bm y1 y2 => by
    intro z1 _
    obtain ⟨q, a, e, _⟩ := z1
    rw [e]; rfl
  | .scr => by
    intro z1 _
    obtain ⟨a, _, _, _, e, _⟩ := z1
    rw [e]; rfl
  | .cut => by
    intro z1 _
    obtain ⟨a, _, _, _, e, _⟩ := z1
    rw [e]; rfl
theorem isStr_key {x y : Str} {t : Tok} : Value.isStr (.str y t) x = (y == x) := rfl
theorem es_get {fx : Fx} {W : Wd} {x : Str} : ∀ {fs : List (Str × V)} {es : List DictEntry}, EsAt fx W fs es → (∀ v, look fs x = some v → ∃ u, getL x es = some (some u) ∧ VAt fx W v u) ∧ (look fs x = none → getL x es = some none)
  | [], es, h => by
    obtain rfl : es = [] := h
    exact ⟨fun v h => (by cases h), fun _ => rfl⟩
  | (y, v) :: fs, es, ⟨t, u, r, e, h1, h2⟩ => by
    subst e
    obtain ⟨i1, i2⟩ := es_get (x := x) h2
    have e1 : (y == x) = (x == y) := by rw [Bool.eq_iff_iff, beq_iff_eq, beq_iff_eq]; exact eq_comm
    unfold look
    cases hc : x == y with
    | true =>
      refine ⟨fun v' hv => ?_, fun hv => (by cases hv)⟩
      cases hv
      refine ⟨u, ?_, h1⟩
      unfold getL
      rw [List.find?_cons]
      have : (Value.str y t).isStr x = true := by rw [isStr_key, e1, hc]
      simp only [this]
    | false =>
      have e2 : getL x (⟨PyData.keyHash fx.w.params y, .str y t, u⟩ :: r) = getL x r := by
        unfold getL
        rw [List.find?_cons, List.any_cons]
        have : (Value.str y t).isStr x = false := by rw [isStr_key, e1, hc]
        simp only [this]
        rfl
      rw [e2]
      exact ⟨i1, i2⟩
theorem es_put {fx : Fx} {W : Wd} {x : Str} {v : V} {u : Value} {t : Tok} (hv : VAt fx W v u) : ∀ {fs : List (Str × V)} {es : List DictEntry}, EsAt fx W fs es → EsAt fx W (putM fs x v) (putL x (PyData.keyHash fx.w.params x) (.str x t) u es)
  | [], es, h => by
    obtain rfl : es = [] := h
    exact ⟨t, u, [], rfl, hv, rfl⟩
  | (y, w) :: fs, es, ⟨t2, u2, r, e, h1, h2⟩ => by
    subst e
    have e1 : (y == x) = (x == y) := by rw [Bool.eq_iff_iff, beq_iff_eq, beq_iff_eq]; exact eq_comm
    unfold putM putL
    simp only [isStr_key, e1]
    cases hc : x == y with
    | true => exact ⟨t2, u, r, rfl, hv, h2⟩
    | false => exact ⟨t2, u2, _, rfl, h1, es_put hv h2⟩
theorem es_len {fx : Fx} {W : Wd} : ∀ {fs : List (Str × V)} {es : List DictEntry}, EsAt fx W fs es → es.length = fs.length
  | [], es, h => by rw [show es = [] from h]; rfl
  | _ :: _, es, ⟨_, _, _, e, _, h⟩ => by rw [e, List.length_cons, List.length_cons, es_len h]
theorem putM_len (x : Str) (v : V) : ∀ fs : List (Str × V), (putM fs x v).length ≤ fs.length + 1
  | [] => Nat.le_refl _
  | (y, u) :: r => by
    unfold putM
    split
    · simp
    · have := putM_len x v r
      simp only [List.length_cons]; omega

theorem kit_str (P : Params) : kitOne (hd.heap_39 P) (.type "int") (.type "str") = some false := by kernel_rfl!
theorem kit_tuple' (P : Params) : kitOne (hd.heap_39 P) (.type "int") (.type "tuple") = some false := by kernel_rfl!
theorem VsAt.cons {fx : Fx} {W : Wd} {v : V} {vs : List V} {u : Value} {us : List Value} (h : VAt fx W v u) (k : VsAt fx W vs us) : VsAt fx W (v :: vs) (u :: us) := ⟨u, us, rfl, h, k⟩
/-- what is wanted of an operation that brings a value -/
noncomputable def Out (fx : Fx) (env : Env) (W : Wd) (K : V → St → Prop) (Q : Value → Shared → Prop) : Prop := ∀ v u W' s s₂, K v s → Ext W W' → VAt fx W' v u → Rs fx env W' s s₂ → Q u s₂
section
variable {fx : Fx} {env : Env} {W : Wd} {s : St} {h : Heap} {N : Ld} {ow : Nat → Nat} {ms : Str → Option Value} {Q : Value → Shared → Prop} {E : Value → Shared → Prop} {t : Tok}
theorem ow_new {a : Nat} {x : Nat} (hl : ∀ p ∈ N, p.1 < a) : ∀ p ∈ N, (fun b : Nat => if b = a then x else ow b) p.1 = ow p.1 := fun p hp => if_neg (Nat.ne_of_lt (hl p hp))
theorem tuple_ok (r : Rl fx env W s h N ow ms) {vs : List V} {us : List Value} {K : V → St → Prop} (hK : ok (Nat.ble vs.length 1000) (K (.tup vs) s)) (hv : VsAt fx W vs us) (hQ : Out fx env W K Q) :
    wpAny (model PR fx.w) fx.A (newTuple us) Q E (fx.s h t) := by
  obtain ⟨h1, hk⟩ := ok_out hK
  have h2 : vs.length ≤ 1000 := Nat.le_of_ble_eq_true h1
  refine kup_newTuple r.F r.Ns (fun a h' F' N' hl => ?_) (by rw [hv.len, sizeLine_eq]; omega)
  have r1 := r.grow (ow' := fun b => if b = a then 0 else ow b) F' N' (fun p hp => .tail _ hp) (ow_new hl)
  obtain ⟨r2, x⟩ := r1.know (a := a) (.head _) (if_pos rfl)
  exact hQ _ _ _ _ _ hk x ⟨a, _, us, 0, rfl, .inr (.head _), rfl, rfl, VsAt.ext x hv⟩ ⟨_, _, _, _, _, rfl, r2⟩
theorem cutOf_out {vs : List V} {k : Int} (h : cutOf vs = some k) : ∃ w, vs = [.cut, w] ∧ asI w = some k := by
  cases vs with
  | nil => cases h
  | cons v r => cases v with
    | cut => cases r with
      | nil => cases h
      | cons w r => cases r with
        | nil => exact ⟨w, rfl, h⟩
        | cons => cases h
    | _ => cases h
theorem list_ok (r : Rl fx env W s h N ow ms) {vs : List V} {us : List Value} {K : V → St → Prop} (hK : newList vs s.N fun v n => K v ⟨s.m, n⟩) (hv : VsAt fx W vs us) (hQ : Out fx env W K Q) :
    wpAny (model PR fx.w) fx.A (PySem.newList us) Q E (fx.s h t) := by
  delta Mine.newList at hK
  cases ec : cutOf vs with
  | some k =>
    rw [ec] at hK
    obtain ⟨w, rfl, ew⟩ := cutOf_out ec
    cases k with
    | negSucc k => exact hK.elim
    | ofNat k =>
    obtain ⟨u1, us, rfl, h1, u2, us, rfl, h2, h3⟩ := hv
    obtain rfl : us = [] := h3
    obtain ⟨t2, rfl⟩ := int_of ew h2
    obtain ⟨sl, o, vs, k3, rfl, g1, g2, g3, g4⟩ := h1
    refine newList_K r.F r.Ns (fun a h' F' N' hl => ?_) (by rw [sizeLine_eq]; simp)
    have r1 := r.grow (ow' := fun b => if b = a then s.N.length + 2 else ow b) F' N' (fun p hp => .tail _ hp) (ow_new hl)
    have x : Ext W ⟨W.σ ++ [a], W.I, W.H⟩ := ⟨⟨[a], rfl⟩, fun p hp => hp, rfl⟩
    obtain ⟨r2, x, hv⟩ := r1.more (a := a) (o := .bag k) ⟨sl, t2, 0, if_pos rfl, .head _, sl, o, vs, k3, rfl, g1.ext x, g2, g3, g4⟩
    exact hQ _ _ _ _ _ hK x hv ⟨_, _, _, _, _, rfl, r2⟩
  | none =>
    rw [ec] at hK
    obtain ⟨hb, hk⟩ := ok_out hK
    obtain ⟨⟨ds, n'⟩, hd, hk⟩ := opt_out hk
    have h2 : vs.length ≤ 1000 := Nat.le_of_ble_eq_true hb
    obtain ⟨W1, ow1, x1, r1, d1⟩ := toDs_ok hd r hv
    refine newList_K r1.F r1.Ns (fun a h' F' N' hl => ?_) (by rw [hv.len, sizeLine_eq]; omega)
    have r2 := r1.grow (ow' := fun b => if b = a then n'.length + 2 else ow1 b) F' N' (fun p hp => .tail _ hp) (ow_new hl)
    have x : Ext W1 ⟨W1.σ ++ [a], W1.I, W1.H⟩ := ⟨⟨[a], rfl⟩, fun p hp => hp, rfl⟩
    obtain ⟨r3, x, hv⟩ := r2.more (a := a) (o := .list ds) ⟨us, 0, if_pos rfl, .head _, DsAt.mono (fun _ _ => Kn.ext x) _ _ d1⟩
    exact hQ _ _ _ _ _ hk (x1.trans x) hv ⟨_, _, _, _, _, rfl, r3⟩
theorem dict_ok (X : FxOk fx) (r : Rl fx env W s h N ow ms) {pos : Pos} {K : V → St → Prop} {o : O} (ho : o = .dictI [] ∨ o = .dictS []) (hK : K (.ref s.N.length) ⟨s.m, s.N ++ [o]⟩) (hQ : Out fx env W K Q) :
    wpAny (model PR fx.w) fx.A (eval (.Dict [] [] pos) env) Q E (fx.s h t) := by
  refine newDict_K (prog := PR) r.F r.Ns X.T.nolimit (fun a h' ob F' N' hl lo d1 _ d2 _ => ?_)
  have r1 := r.grow (ow' := fun b => if b = a then s.N.length + 2 else ow b) F' N' (fun p hp => .tail _ hp) (ow_new hl)
  have hoat : OAt fx ⟨W.σ ++ [a], W.I, W.H⟩ ((a, ob) :: N) (fun b => if b = a then s.N.length + 2 else ow b) s.N.length a o := by
    rcases ho with rfl | rfl
    · exact ⟨ob, [], if_pos rfl, .head _, d2, .nil, lo⟩
    · exact ⟨ob, [], if_pos rfl, .head _, d1, .nil, lo⟩
  obtain ⟨r2, x, hv⟩ := r1.more (a := a) hoat
  exact hQ _ _ _ _ _ hK x hv ⟨_, _, _, _, _, rfl, r2⟩
theorem ints_take : ∀ {vs : List Value} {ns : List Int}, IntsAre vs ns → ∀ n, IntsAre (vs.take n) (ns.take n)
  | _, _, _, 0 => by simp; exact .nil
  | _, _, .nil, n + 1 => by simp; exact .nil
  | _, _, .cons a t h, n + 1 => by rw [List.take_succ_cons, List.take_succ_cons]; exact .cons a t (ints_take h n)
theorem pick_take (us : List Value) (n : Nat) : slicePick us.toArray none (some (n : Int)) none = (us.take n).toArray := by
  rw [kms_pick_eq]
  congr 1
  have h1 : ¬ (n : Int) < 0 := by omega
  unfold kms_pick kms_lo kms_hi
  simp only [if_neg h1, List.drop_zero, Nat.sub_zero, Int.toNat_natCast]
  rw [List.take_eq_take_iff]
  simp
theorem slice_ok (r : Rl fx env W s h N ow ms) {a : V} {x : Value} {n : Nat} {tk : Tok} {l : List D} {value sl : PySem.Expr} {lo hi : Option PySem.Expr} {p : Pos} {K : V → St → Prop} (hsl : sl = .Slice lo hi none p) (hl : listOf? s.N a = some l) (hb : Nat.ble l.length 1000 = true) (ha : VAt fx W a x)
    (hK : K (.ref s.N.length) ⟨s.m, s.N ++ [.list (l.take n)]⟩) (hQ : Out fx env W K Q) :
    wpAny (model PR fx.w) fx.A (subscriptTail value sl x (.ref h.objs.size)) Q E { fx.s h t with heap := h.push { cls := .type "slice", data := .fields #[.none, .int (n : Int) tk, .none] } } := by
  obtain ⟨q, us, rfl, hq, hus⟩ := listOf_ok r hl ha
  have hz : us.length ≤ 1000 := by rw [hus.len]; exact Nat.le_of_ble_eq_true hb
  subst hsl
  have F1 := r.F.push { cls := .type "slice", data := .fields #[.none, .int (n : Int) tk, .none] }
  have N1 := r.Ns.grown (h' := h.push { cls := .type "slice", data := .fields #[.none, .int (n : Int) tk, .none] }) fun _ _ e => Heap.get?_push_of_some _ e
  refine tail_any (ops := [.ref h.objs.size, .ref q]) (Heap.IsList.typeIs (s := { fx.s h t with heap := h.push { cls := .type "slice", data := .fields #[.none, .int (n : Int) tk, .none] } }) (hq.push _)) slot_list_getitem.lookup
    (wpAny_getItem_list_slice (hq.push _) (Heap.IsSliceOf.new ..) .none (.int (n : Int) tk) .none (by simp) ?_ (by rw [sizeLine_eq]; simp; omega)) rfl
  rw [pick_take us n]
  have N2 := News.push F1 N1 { cls := .type "list", data := .seq (us.take n).toArray }
  have F2 := F1.push { cls := .type "list", data := .seq (us.take n).toArray }
  have hlt : ∀ p ∈ N, p.1 < (h.push { cls := .type "slice", data := .fields #[.none, .int (n : Int) tk, .none] }).objs.size := fun p hp => Heap.lt_size (N1 p hp).1
  have r1 := r.grow (ow' := fun b => if b = (h.push { cls := .type "slice", data := .fields #[.none, .int (n : Int) tk, .none] }).objs.size then s.N.length + 2 else ow b) F2 N2 (fun p hp => .tail _ hp) (ow_new hlt)
  have x : Ext W ⟨W.σ ++ [(h.push { cls := .type "slice", data := .fields #[.none, .int (n : Int) tk, .none] }).objs.size], W.I, W.H⟩ := ⟨⟨[_], rfl⟩, fun p hp => hp, rfl⟩
  obtain ⟨r2, x, hv⟩ := r1.more (a := (h.push { cls := .type "slice", data := .fields #[.none, .int (n : Int) tk, .none] }).objs.size) (o := .list (l.take n)) ⟨us.take n, 0, if_pos rfl, .head _, DsAt.mono (fun _ _ => Kn.ext x) _ _ (hus.take n)⟩
  exact hQ _ _ _ _ _ hK x hv ⟨_, _, _, _, _, rfl, r2⟩
theorem cut_ok (X : FxOk fx) (r : Rl fx env W s h N ow ms) {x : Value} {n : Nat} {tk : Tok} {value sl : PySem.Expr} {lo hi : Option PySem.Expr} {p : Pos} {K : V → St → Prop} (hsl : sl = .Slice lo hi none p) (ha : VAt fx W .scr x)
    (hK : ok (Nat.beq n 24) (K .cut s)) (hQ : Out fx env W K Q) :
    wpAny (model PR fx.w) fx.A (subscriptTail value sl x (.ref h.objs.size)) Q E { fx.s h t with heap := h.push { cls := .type "slice", data := .fields #[.none, .int (n : Int) tk, .none] } } := by
  obtain ⟨hn, hk⟩ := ok_out hK
  obtain rfl := Nat.eq_of_beq_eq_true hn
  obtain ⟨q, o, us, k, rfl, g1, g2, g3, g4⟩ := ha
  have hq := r.lst g1 g2 g3
  have hz : us.length ≤ 63 := by rw [g4.length]; exact X.len
  subst hsl
  have F1 := r.F.push { cls := .type "slice", data := .fields #[.none, .int ((24 : Nat) : Int) tk, .none] }
  have N1 := r.Ns.grown (h' := h.push { cls := .type "slice", data := .fields #[.none, .int ((24 : Nat) : Int) tk, .none] }) fun _ _ e => Heap.get?_push_of_some _ e
  refine tail_any (ops := [.ref h.objs.size, .ref q]) (Heap.IsList.typeIs (s := { fx.s h t with heap := h.push { cls := .type "slice", data := .fields #[.none, .int ((24 : Nat) : Int) tk, .none] } }) (hq.push _)) slot_list_getitem.lookup
    (wpAny_getItem_list_slice (hq.push _) (Heap.IsSliceOf.new ..) .none (.int ((24 : Nat) : Int) tk) .none (by simp) ?_ (by rw [sizeLine_eq]; simp; omega)) rfl
  rw [pick_take us 24]
  have N2 := News.push F1 N1 { cls := .type "list", data := .seq (us.take 24).toArray }
  have F2 := F1.push { cls := .type "list", data := .seq (us.take 24).toArray }
  have hlt : ∀ p ∈ N, p.1 < (h.push { cls := .type "slice", data := .fields #[.none, .int ((24 : Nat) : Int) tk, .none] }).objs.size := fun p hp => Heap.lt_size (N1 p hp).1
  have r1 := r.grow (ow' := fun b => if b = (h.push { cls := .type "slice", data := .fields #[.none, .int ((24 : Nat) : Int) tk, .none] }).objs.size then 0 else ow b) F2 N2 (fun p hp => .tail _ hp) (ow_new hlt)
  obtain ⟨r2, x2⟩ := r1.know (a := (h.push { cls := .type "slice", data := .fields #[.none, .int ((24 : Nat) : Int) tk, .none] }).objs.size) (.head _) (if_pos rfl)
  exact hQ _ _ _ _ _ hk x2 ⟨_, _, us.take 24, 0, rfl, .inr (.head _), rfl, rfl, X.cut ▸ ints_take g4 24⟩ ⟨_, _, _, _, _, rfl, r2⟩
/-- built-in functions -/
theorem blt_ok (X : FxOk fx) (r : Rl fx env W s h N ow ms) {id : String} {vs : List V} {us : List Value} {K : V → St → Prop} (hK : bltK id vs s.N fun v n => K v ⟨s.m, n⟩) (hv : VsAt fx W vs us) (hQ : Out fx env W K Q) :
    wpAny (model PR fx.w) fx.A (call (.builtin id) us) Q E (fx.s h t) := by
  unfold bltK at hK
  split at hK
  · split at hK
    · obtain ⟨l, hl, hk⟩ := opt_out hK
      obtain ⟨hb, hk⟩ := ok_out hk
      obtain ⟨u, us, rfl, h1, h2⟩ := hv
      obtain rfl : us = [] := h2
      obtain ⟨q, ws, rfl, hq, hws⟩ := listOf_ok r hl h1
      have hz : ws.length ≤ 1000 := by rw [hws.len]; exact Nat.le_of_ble_eq_true hb
      have e2 : ws.toArray.size = ws.length := by simp
      refine len_list hq (by rw [e2]; omega) ?_
      rw [e2, hws.len]
      exact hQ _ _ W ⟨s.m, s.N⟩ _ hk (Ext.refl W) ⟨_, rfl⟩ ⟨_, _, _, _, _, rfl, r⟩
    · exact hK.elim
  · split at hK
    · obtain ⟨u1, us, rfl, h1, u2, us, rfl, h2, h3⟩ := hv
      obtain rfl : us = [] := h3
      obtain ⟨i, t1, rfl, hK⟩ := optI hK h1
      split at hK
      case h_2 => exact hK.elim
      obtain rfl := h2
      have XK : fx.K.In (fx.s h t).heap := X.X.keeps r.F.keep
      split at hK
      · exact kia_one kitx_int XK trivial (kit_str _) (fun e => by cases e) fun tk => hQ _ _ W ⟨s.m, s.N⟩ _ hK (Ext.refl W) rfl ⟨_, _, _, _, _, rfl, r⟩
      · exact kia_one kitx_int XK trivial (kit_tuple' _) (fun e => by cases e) fun tk => hQ _ _ W ⟨s.m, s.N⟩ _ hK (Ext.refl W) rfl ⟨_, _, _, _, _, rfl, r⟩
      · exact hK.elim
    · exact hK.elim
  · split at hK
    · obtain ⟨u1, us, rfl, h1, u2, us, rfl, h2, h3⟩ := hv
      obtain rfl : us = [] := h3
      obtain ⟨a, t1, rfl, hK⟩ := optI hK h1
      obtain ⟨b, t2, rfl, hK⟩ := optI hK h2
      refine max_two_ints rfl fun h' tk hk => ?_
      have r1 := r.grow (h' := h') (ow' := ow) (r.F.keeps hk) (r.Ns.grown hk) (fun _ h => h) (fun _ _ => rfl)
      refine hQ _ _ W ⟨s.m, s.N⟩ _ hK (Ext.refl W) ?_ ⟨_, _, _, _, _, rfl, r1⟩
      split <;> exact ⟨_, rfl⟩
    · exact hK.elim
  · exact hK.elim
end

section
variable {fx : Fx} {env : Env} {W : Wd} {s : St} {h : Heap} {N : Ld} {ow : Nat → Nat} {ms : Str → Option Value} {Q : Value → Shared → Prop} {E : Value → Shared → Prop} {t : Tok}
theorem inst_at (r : Rl fx env W s h N ow ms) {i a c : Nat} {fs : List (Str × V)} (hi : nth s.N i = some (.inst c fs)) (ha : nth W.σ i = some a) :
    ∃ (dx : Nat) (es : List DictEntry) (n : Nat), InstAt h a (instObj c dx) c (some (dictOf es n)) ∧ ow dx = i + 2 ∧ ((a, instObj c dx) : Addr × Obj) ∈ N ∧ ((dx, dictOf es n) : Addr × Obj) ∈ N ∧ EsAt fx W fs es := by
  obtain ⟨dx, es, n, h1, h2, h3, h4, h5⟩ := r.obj i _ a hi ha
  exact ⟨dx, es, n, InstAt.of_news r.Ns h3 h4, h2, h3, h4, h5⟩
theorem attrK_ok (X : FxOk fx) (r : Rl fx env W s h N ow ms) {a : V} {x : Str} {u : Value} {b : Bool} {K : V → St → Prop} (hK : attrK s.N a x fun v => K v s) (ha : VAt fx W a u) (hQ : Out fx env W K Q) :
    wpAny (model PR fx.w) fx.A (getAttr u x b) Q E (fx.s h t) := by
  unfold attrK at hK
  split at hK
  · rename_i i
    obtain ⟨q, hq, rfl⟩ := ha
    split at hK
    · rename_i c fs hi
      obtain ⟨dx, es, n, hI, ho, m1, m2, he⟩ := inst_at r hi hq
      obtain ⟨g1, g2⟩ := es_get (x := x) he
      split at hK
      · rename_i v hv
        obtain ⟨hf, hk⟩ := ok_out hK
        rw [Bool.and_eq_true] at hf
        obtain ⟨y, hy, hyv⟩ := g1 v hv
        have fi := field_in fx.w.params hf.1
        exact get_own r.F X.X hI fi.get fi.dict fi.find rfl hy (handed_at hyv fun id e => by subst e; exact absurd hf.2 (by simp [notBlt])) (hQ _ _ W s _ hk (Ext.refl W) hyv ⟨_, _, _, _, _, rfl, r⟩)
      · rename_i hnone
        obtain ⟨mm, h1, hk⟩ := opt_out hK
        obtain ⟨f, h2, hk⟩ := opt_out hk
        have mi := meth_in fx.w.params h1 h2
        refine kbm_bound r.F X.X r.Ns hI mi.get mi.dict mi.find mi.fn mi.bind mi.takes mi.copied (g2 hnone) fun p h' F' N' hl => ?_
        have r1 := r.grow (ow' := fun b => if b = p then 0 else ow b) F' N' (fun p hp => .tail _ hp) (ow_new hl)
        obtain ⟨r2, x2⟩ := r1.know (a := p) (.head _) (if_pos rfl)
        exact hQ _ _ _ _ _ hk x2 ⟨p, q, rfl, hq, .inr (.head _), mi.fnIn⟩ ⟨_, _, _, _, _, rfl, r2⟩
    · exact hK.elim
  · exact hK.elim
/-- what is wanted of a store -/
noncomputable def OutS (fx : Fx) (env : Env) (W : Wd) (K : St → Prop) (Q : Unit → Shared → Prop) : Prop := ∀ W' s s₂, K s → Ext W W' → Rs fx env W' s s₂ → Q () s₂
theorem setAttrK_ok (X : FxOk fx) (r : Rl fx env W s h N ow ms) {Q : Unit → Shared → Prop} {a v : V} {x : Str} {u y : Value} {K : St → Prop} (hK : setAttrK s a x v K) (ha : VAt fx W a u) (hv : VAt fx W v y) (hQ : OutS fx env W K Q) :
    wpAny (model PR fx.w) fx.A (setAttr u x y) Q E (fx.s h t) := by
  unfold setAttrK at hK
  split at hK
  · rename_i i
    obtain ⟨q, hq, rfl⟩ := ha
    split at hK
    · rename_i c fs hi
      obtain ⟨hf, hk⟩ := ok_out hK
      rw [Bool.and_eq_true] at hf
      have hz : fs.length ≤ 100 := Nat.le_of_ble_eq_true hf.2
      obtain ⟨dx, es, n, hI, ho, m1, m2, he⟩ := inst_at r hi hq
      have fi := field_in fx.w.params hf.1
      obtain ⟨g1, g2⟩ := es_get (x := x) he
      have hs : (getL x es).isSome = true := by
        cases hl : look fs x with
        | none => rw [g2 hl]; rfl
        | some v => obtain ⟨_, e, _⟩ := g1 v hl; rw [e]; rfl
      have hne : q ≠ dx := fun e => by
        subst e
        have := (r.Ns _ m1).1
        rw [(r.Ns _ m2).1] at this
        cases this
      have hput := es_put (x := x) (t := t + 1) hv he
      have hlen := es_len hput
      have hlen2 := putM_len x v fs
      refine set_dict (s := fx.s h t) r.F X.X (rep_news r.Ns m2) hI rfl fi.set fi.over fi.taker fi.dict hs rfl (rep_upd N dx _ _) (by show (putL x _ (.str x (t + 1)) y es).length ≤ 1000; omega) fun h' F' N' => ?_
      have r1 := r.put (i := i) (b := dx) (o := .inst c (putM fs x v)) ho F' N' fun a' ha' => by
        rw [hq] at ha'
        cases ha'
        obtain ⟨_, _, _, e1, _⟩ := r.obj i _ q hi hq
        exact ⟨dx, _, _, e1, ho, rep_mem hne m1, .head _, hput⟩
      exact hQ _ _ _ hk (Ext.refl W) ⟨_, _, _, _, _, rfl, r1⟩
    · exact hK.elim
  · exact hK.elim
theorem setItem_ok (r : Rl fx env W s h N ow ms) {Q : Unit → Shared → Prop} {a i v : V} {u k y : Value} {K : St → Prop} (hK : storeK s a i v K) (ha : VAt fx W a u) (hi : VAt fx W i k) (hv : VAt fx W v y) (hQ : OutS fx env W K Q) :
    wpAny (model PR fx.w) fx.A (setItem u k y) Q E (fx.s h t) := by
  unfold storeK at hK
  split at hK
  · rename_i j
    obtain ⟨q, hq, rfl⟩ := ha
    obtain ⟨⟨d, n'⟩, hd, hk⟩ := opt_out hK
    obtain ⟨W1, ow1, x1, r1, d1⟩ := toD_ok hd r hv
    have hq1 := x1.nth hq
    split at hk
    · rename_i l hl
      split at hk
      · rename_i key
        obtain ⟨tk, rfl⟩ := hi
        obtain ⟨hb, hk⟩ := ok_out hk
        have hz : l.length ≤ 1000 := Nat.le_of_ble_eq_true hb
        obtain ⟨o, kvs, e1, m1, hdo, hpr, hz0⟩ := r1.obj j _ q hl hq1
        refine put_led (intKind_is _ _ _ _) r1.F (rep_news r1.Ns m1) (rep_updF N q o) hdo (by rw [hpr.length]; omega) fun h' o' F' N' hd' => ?_
        have r2 := r1.put (i := j) (b := q) (o := .dictI (putK l key d)) e1 F' N' fun a' ha' => by
          rw [hq1] at ha'
          cases ha'
          exact ⟨o', _, e1, .head _, hd', hpr.put d1, hz0⟩
        exact hQ _ _ _ hk x1 ⟨_, _, _, _, _, rfl, r2⟩
      · exact hk.elim
    · rename_i l hl
      split at hk
      · rename_i key
        obtain ⟨tk, rfl⟩ := hi
        obtain ⟨hb, hk⟩ := ok_out hk
        have hz : l.length ≤ 1000 := Nat.le_of_ble_eq_true hb
        obtain ⟨o, kvs, e1, m1, hdo, hpr, hz0⟩ := r1.obj j _ q hl hq1
        refine put_led (strKind_is _ _ _ _) r1.F (rep_news r1.Ns m1) (rep_updF N q o) hdo (by rw [hpr.length]; omega) fun h' o' F' N' hd' => ?_
        have r2 := r1.put (i := j) (b := q) (o := .dictS (putK l key d)) e1 F' N' fun a' ha' => by
          rw [hq1] at ha'
          cases ha'
          exact ⟨o', _, e1, .head _, hd', hpr.put d1, hz0⟩
        exact hQ _ _ _ hk x1 ⟨_, _, _, _, _, rfl, r2⟩
      · exact hk.elim
    · exact hk.elim
  · exact hK.elim
theorem list_at (r : Rl fx env W s h N ow ms) {i a : Nat} {l : List D} (hi : nth s.N i = some (.list l)) (ha : nth W.σ i = some a) : ∃ (us : List Value) (c : Nat), ow a = i + 2 ∧ ((a, listOf us.toArray c) : Addr × Obj) ∈ N ∧ DsAt (Kn fx W) l us := r.obj i _ a hi ha
theorem append_ok (r : Rl fx env W s h N ow ms) {T : List (Nat × Ct)} {i a : Nat} {vs : List V} {us : List Value} {K : V → St → Prop} (hK : methK T .app (.ref i) vs s.N fun v n => K v ⟨s.m, n⟩) (ha : nth W.σ i = some a) (hv : VsAt fx W vs us) (hQ : Out fx env W K Q) :
    wpAny (model PR fx.w) fx.A (call (.builtin "list.append") (.ref a :: us)) Q E (fx.s h t) := by
  ((try dsimp only at hK); delta methK at hK; dsimp only at hK)
  split at hK
  · rename_i v
    obtain ⟨u, us, rfl, h1, h2⟩ := hv
    obtain rfl : us = [] := h2
    split at hK
    · rename_i l hl
      obtain ⟨⟨d, n'⟩, hd, hk⟩ := opt_out hK
      obtain ⟨hb, hk⟩ := ok_out hk
      have hz : l.length ≤ 1000 := Nat.le_of_ble_eq_true hb
      obtain ⟨W1, ow1, x1, r1, d1⟩ := toD_ok hd r h1
      have ha1 := x1.nth ha
      split at hk
      · rename_i l2 hl2
        obtain ⟨ws, c, e1, m1, hws⟩ := list_at r hl ha
        obtain ⟨ws2, c2, e2, m2, hws2⟩ := list_at r1 hl2 ha1
        have he : ws = ws2 ∧ c = c2 := by
          have := (r.Ns _ m1).1
          rw [(r1.Ns _ m2).1] at this
          injection this with this
          injection this with _ _ h3 _
          injection h3 with h4 h5
          exact ⟨List.toArray_inj h4 |>.symm, h5.symm⟩
        obtain ⟨rfl, rfl⟩ := he
        refine app_led r1.F (rep_news r1.Ns m2) (rep_upd N a _ _) (by rw [hws.len]; omega) fun h' F' N' => ?_
        have r2 := r1.put (i := i) (b := a) (o := .list (l ++ [d])) e2 F' N' fun a' ha' => by
          rw [ha1] at ha'
          cases ha'
          exact ⟨ws ++ [u], c + 1, e2, .head _, (DsAt.mono (fun _ _ => Kn.ext x1) _ _ hws).snoc d1⟩
        exact hQ _ _ _ _ _ hk x1 rfl ⟨_, _, _, _, _, rfl, r2⟩
      · exact hk.elim
    · exact hK.elim
  · exact hK.elim
theorem extend_ok (r : Rl fx env W s h N ow ms) {T : List (Nat × Ct)} {i a : Nat} {vs : List V} {us : List Value} {K : V → St → Prop} (hK : methK T .ext (.ref i) vs s.N fun v n => K v ⟨s.m, n⟩) (ha : nth W.σ i = some a) (hv : VsAt fx W vs us) (hQ : Out fx env W K Q) :
    wpAny (model PR fx.w) fx.A (call (.builtin "list.extend") (.ref a :: us)) Q E (fx.s h t) := by
  ((try dsimp only at hK); delta methK at hK; dsimp only at hK)
  split at hK
  · rename_i j
    obtain ⟨u, us, rfl, ⟨b, hb, rfl⟩, h2⟩ := hv
    obtain rfl : us = [] := h2
    split at hK
    · exact hK.elim
    · rename_i hij
      split at hK
      · rename_i l hl
        split at hK
        · rename_i k hk2
          obtain ⟨hz, hk⟩ := ok_out hK
          rw [Bool.and_eq_true] at hz
          have hz1 : l.length + k.length ≤ 1000 := Nat.le_of_ble_eq_true hz.1
          obtain ⟨ws, c, e1, m1, hws⟩ := list_at r hl ha
          obtain ⟨ws2, c2, e2, m2, hws2⟩ := list_at r hk2 hb
          have hne : b ≠ a := fun e => by
            subst e
            have e3 : i = j := by omega
            rw [e3] at hij
            simp at hij
          have hl1 := hws.len
          have hl2 := hws2.len
          refine ext_led (us := ws) (ws := ws2) r.F (rep_news r.Ns m1) (rep_mem hne m2) ?_ (rep_upd N a _ _) (by omega) fun h' F' N' => ?_
          · intro e
            rw [hl2] at e
            have : k = [] := List.length_eq_zero_iff.mp e
            subst this
            exact absurd hz.2 (by simp)
          have r2 := r.put (i := i) (b := a) (o := .list (l ++ k)) e1 F' N' fun a' ha' => by
            rw [ha] at ha'
            cases ha'
            exact ⟨ws ++ ws2, c + 1, e1, .head _, DsAt.app hws2 hws⟩
          exact hQ _ _ _ _ _ hk (Ext.refl W) rfl ⟨_, _, _, _, _, rfl, r2⟩
        · exact hK.elim
      · exact hK.elim
  · exact hK.elim
theorem pop_ok (r : Rl fx env W s h N ow ms) {T : List (Nat × Ct)} {i a : Nat} {vs : List V} {us : List Value} {K : V → St → Prop} (hK : methK T .pop (.ref i) vs s.N fun v n => K v ⟨s.m, n⟩) (ha : nth W.σ i = some a) (hv : VsAt fx W vs us) (hQ : Out fx env W K Q) :
    wpAny (model PR fx.w) fx.A (call (.builtin "list.pop") (.ref a :: us)) Q E (fx.s h t) := by
  ((try dsimp only at hK); delta methK at hK; dsimp only at hK)
  split at hK
  · obtain rfl : us = [] := hv
    split at hK
    · rename_i l hl
      obtain ⟨hz, hk⟩ := ok_out hK
      have hz1 : l.length ≤ 1000 := Nat.le_of_ble_eq_true hz
      obtain ⟨⟨l2, x⟩, hu, hk⟩ := opt_out hk
      obtain ⟨ws, c, e1, m1, hws⟩ := list_at r hl ha
      have hl1 := hws.len
      obtain ⟨us, v, rfl, h3, h4⟩ := hws.unsnoc hu
      simp only [List.length_append, List.length_cons, List.length_nil] at hl1
      refine pop_led (us := us) (v := v) r.F (rep_news r.Ns m1) (rep_upd N a _ _) (by omega) fun h' F' N' => ?_
      have r2 := r.put (i := i) (b := a) (o := .list l2) e1 F' N' fun a' ha' => by
        rw [ha] at ha'
        cases ha'
        exact ⟨us, c + 1, e1, .head _, h3⟩
      exact hQ _ _ _ _ _ hk (Ext.refl W) h4 ⟨_, _, _, _, _, rfl, r2⟩
    · exact hK.elim
  · exact hK.elim
theorem dget_ok (r : Rl fx env W s h N ow ms) {T : List (Nat × Ct)} {i a : Nat} {vs : List V} {us : List Value} {K : V → St → Prop} (hK : methK T .get (.ref i) vs s.N fun v n => K v ⟨s.m, n⟩) (ha : nth W.σ i = some a) (hv : VsAt fx W vs us) (hQ : Out fx env W K Q) :
    wpAny (model PR fx.w) fx.A (call (.builtin "dict.get") (.ref a :: us)) Q E (fx.s h t) := by
  ((try dsimp only at hK); delta methK at hK; dsimp only at hK)
  split at hK
  · rename_i k v
    obtain ⟨u1, us, rfl, ⟨t1, rfl⟩, u2, us, rfl, h2, h3⟩ := hv
    obtain rfl : us = [] := h3
    split at hK
    · rename_i l hl
      obtain ⟨o, kvs, e1, m1, hdo, hpr, hz0⟩ := r.obj i _ a hl ha
      obtain ⟨y, hy, hk⟩ := opt_out hK
      obtain ⟨w, hw, hwd⟩ := hpr.val hy
      exact kdg_get2 (knd := strKind PR fx.w) r.Ns m1 hdo hz0 (strKind_is _ _ _ _) (some w) hw (hQ _ _ W ⟨s.m, s.N⟩ _ hk (Ext.refl W) hwd ⟨_, _, _, _, _, rfl, r⟩)
    · exact hK.elim
  · exact hK.elim
end

section
variable {fx : Fx} {W W' : Wd} {f : Nat → Option Nat} (hf : ∀ i j a, f i = some j → nth W.σ i = some a → nth W'.σ j = some a) (hI : ∀ p ∈ W.I, p ∈ W'.I)
include hf hI
mutual
theorem renV_ok : ∀ {v v' : V} {u : Value}, renV f v = some v' → VAt fx W v u → VAt fx W' v' u
  | .d x => by
    intro e h
    cases e; exact DAt.mono (fun _ _ k => k.imp id (hI _)) x _ h
  | .tup l => by
    rename_i v' _
    intro e z3
    obtain ⟨a, o, us, k, e1, hk, hc, hd, hs⟩ := z3
    unfold renV at e
    split at e
    · rename_i l' hl
      cases e
      exact ⟨a, o, us, k, e1, hk.imp id (hI _), hc, hd, renVs_ok hl hs⟩
    · cases e
  | .ref i => by
    rename_i v' _
    intro e z3
    obtain ⟨a, h, e1⟩ := z3
    unfold renV at e
    split at e
    · rename_i j hj
      cases e
      exact ⟨a, hf _ _ _ hj h, e1⟩
    · cases e
  | .own y1 => by
    intro e h
    cases e; exact h
  | .blt y1 => by
    intro e h
    cases e; exact h
  | .typ y1 => by
    intro e h
    cases e; exact h
  | .bm i g => by
    rename_i v' _
    intro e z3
    obtain ⟨q, a, e1, h, k, z⟩ := z3
    unfold renV at e
    split at e
    · rename_i j hj
      cases e
      exact ⟨q, a, e1, hf _ _ _ hj h, k.imp id (hI _), z⟩
    · cases e
  | .scr => by
    intro e z3
    obtain ⟨a, o, us, k, e1, hk, hc, hd, hs⟩ := z3
    cases e; exact ⟨a, o, us, k, e1, hk.imp id (hI _), hc, hd, hs⟩
  | .cut => by
    intro e z3
    obtain ⟨a, o, us, k, e1, hk, hc, hd, hs⟩ := z3
    cases e; exact ⟨a, o, us, k, e1, hk.imp id (hI _), hc, hd, hs⟩
theorem renVs_ok : ∀ {v v' : List V} {u : List Value}, renVs f v = some v' → VsAt fx W v u → VsAt fx W' v' u
  | [] => by
    intro e h
    cases e; exact h
  | v :: vs => by
    rename_i v' _
    intro e z3
    obtain ⟨u, us, e1, h1, h2⟩ := z3
    unfold renVs at e
    split at e
    · rename_i w hw
      split at e
      · rename_i ws hws
        cases e
        exact ⟨u, us, e1, renV_ok hw h1, renVs_ok hws h2⟩
      · cases e
    · cases e
end
theorem renM_es : ∀ {m m' : List (Str × V)} {es : List DictEntry}, renM f m = some m' → EsAt fx W m es → EsAt fx W' m' es
  | [], _, _, e, h => by cases e; exact h
  | (x, v) :: m, m', es, e, ⟨t, u, r, e1, h1, h2⟩ => by
    unfold renM at e
    split at e
    · rename_i w hw
      split at e
      · rename_i ws hws
        cases e
        exact ⟨t, u, r, e1, renV_ok hf hI hw h1, renM_es hws h2⟩
      · cases e
    · cases e
theorem renO_ok {N N' : Ld} {ow ow' : Nat → Nat} {i j a : Nat} (h1 : ∀ b, ow b = i + 2 → (∃ o, ((b, o) : Addr × Obj) ∈ N) → ow' b = j + 2) (h2 : ∀ b o, ow b = i + 2 → ((b, o) : Addr × Obj) ∈ N → ((b, o) : Addr × Obj) ∈ N') :
    ∀ {o o' : O}, renO f o = some o' → OAt fx W N ow i a o → OAt fx W' N' ow' j a o' := by
  have hk : ∀ a o, Kn fx W a o → Kn fx W' a o := fun _ _ k => k.imp id (hI _)
  intro o o' e h
  cases o with
  | list l => cases e; obtain ⟨us, c, e, m, d⟩ := h; exact ⟨us, c, h1 _ e ⟨_, m⟩, h2 _ _ e m, DsAt.mono hk _ _ d⟩
  | flist l => cases e; obtain ⟨o, us, k, e, c, d, r⟩ := h; exact ⟨o, us, k, hk _ _ e, c, d, DsAt.mono hk _ _ r⟩
  | dictI l => cases e; obtain ⟨o, kvs, e, m, d, r, z⟩ := h; exact ⟨o, kvs, h1 _ e ⟨_, m⟩, h2 _ _ e m, d, r.mono fun _ _ a => DAt.mono hk _ _ a, z⟩
  | fdictI l => cases e; obtain ⟨o, kvs, e, d, r, z⟩ := h; exact ⟨o, kvs, hk _ _ e, d, r.mono fun _ _ a => DAt.mono hk _ _ a, z⟩
  | dictS l => cases e; obtain ⟨o, kvs, e, m, d, r, z⟩ := h; exact ⟨o, kvs, h1 _ e ⟨_, m⟩, h2 _ _ e m, d, r.mono fun _ _ a => DAt.mono hk _ _ a, z⟩
  | inst c fs =>
    simp only [renO] at e
    split at e
    · rename_i fs' hfs
      cases e
      obtain ⟨dx, es, n, e, e', m, m', r⟩ := h
      exact ⟨dx, es, n, h1 _ e ⟨_, m⟩, h1 _ e' ⟨_, m'⟩, h2 _ _ e m, h2 _ _ e' m', renM_es hf hI hfs r⟩
    · cases e
  | bag spot =>
    cases e
    obtain ⟨sl, tk, n, e, m, a, o, us, k, e1, hk1, hc, hd, hs⟩ := h
    exact ⟨sl, tk, n, h1 _ e ⟨_, m⟩, h2 _ _ e m, a, o, us, k, e1, hk _ _ hk1, hc, hd, hs⟩
  | dead => cases e; trivial
end
theorem renM_look {f : Nat → Option Nat} : ∀ {m m' : List (Str × V)} {x : Str} {v' : V}, renM f m = some m' → look m' x = some v' → ∃ v, look m x = some v ∧ renV f v = some v'
  | [], _, _, _, e, h => by cases e; cases h
  | (y, v) :: m, m', x, v', e, h => by
    unfold renM at e
    split at e
    · rename_i w hw
      split at e
      · rename_i ws hws
        cases e
        unfold look at h ⊢
        split at h
        · rename_i hc
          cases h
          exact ⟨v, rfl, hw⟩
        · rename_i hc
          obtain ⟨u, h1, h2⟩ := renM_look hws h
          exact ⟨u, h1, h2⟩
      · cases e
    · cases e
theorem place_at {i : Nat} : ∀ {sl : List (Option Nat)} {k j : Nat}, place i sl k = some j → ∃ d, j = k + d ∧ nth sl d = some (some i)
  | [], _, _, h => by cases h
  | some x :: r, k, j, h => by
    unfold place at h
    split at h
    · rename_i hc
      cases h
      exact ⟨0, rfl, by rw [Nat.eq_of_beq_eq_true hc]; rfl⟩
    · obtain ⟨d, h1, h2⟩ := place_at (sl := r) h
      exact ⟨d + 1, by omega, h2⟩
  | none :: r, k, j, h => by
    obtain ⟨d, h1, h2⟩ := place_at (sl := r) (show place i r (k + 1) = some j from h)
    exact ⟨d + 1, by omega, h2⟩
theorem pick_at {f : Nat → Option Nat} {Ns : List O} : ∀ {sl : List (Option Nat)} {k : Nat} {N' : List O}, pick f Ns k sl = some N' → N'.length = sl.length ∧ ∀ d o', nth N' d = some o' → (nth sl d = some none ∧ o' = .dead) ∨ ∃ i o, nth sl d = some (some i) ∧ f i = some (k + d) ∧ nth Ns i = some o ∧ renO f o = some o'
  | [], _, _, e => by cases e; exact ⟨rfl, fun d o' h => by cases h⟩
  | none :: r, k, N', e => by
    unfold pick at e
    split at e
    · rename_i r' hr
      cases e
      obtain ⟨h1, h2⟩ := pick_at hr
      refine ⟨by rw [List.length_cons, List.length_cons, h1], fun d o' h => ?_⟩
      cases d with
      | zero => cases h; exact .inl ⟨rfl, rfl⟩
      | succ d =>
        rcases h2 d o' h with ⟨a, b⟩ | ⟨i, o, a, b, c, e⟩
        · exact .inl ⟨a, b⟩
        · exact .inr ⟨i, o, a, by rw [b]; congr 1; omega, c, e⟩
    · cases e
  | some x :: r, k, N', e => by
    unfold pick at e
    split at e
    · rename_i hx
      split at e
      · rename_i o ho
        split at e
        · rename_i o1 ho1
          split at e
          · rename_i r' hr
            cases e
            obtain ⟨h1, h2⟩ := pick_at hr
            refine ⟨by rw [List.length_cons, List.length_cons, h1], fun d o' h => ?_⟩
            cases d with
            | zero =>
              cases h
              refine .inr ⟨x, o, rfl, ?_, ho, ho1⟩
              unfold isAt at hx
              split at hx
              · rename_i j hj
                rw [hj, Nat.eq_of_beq_eq_true hx]; rfl
              · cases hx
            | succ d =>
              rcases h2 d o' h with ⟨a, b⟩ | ⟨i, o, a, b, c, e⟩
              · exact .inl ⟨a, b⟩
              · exact .inr ⟨i, o, a, by rw [b]; congr 1; omega, c, e⟩
          · cases e
        · cases e
      · cases e
    · cases e
noncomputable def slA (σ : List Nat) : Option Nat → Nat
  | some i => (nth σ i).getD 0
  | none => 0
theorem nth_map {α β : Type} (g : α → β) : ∀ {l : List α} {n : Nat}, nth (l.map g) n = (nth l n).map g
  | [], _ => by simp [nth]
  | _ :: _, 0 => rfl
  | _ :: r, n + 1 => nth_map g (l := r)
noncomputable def owS (ow : Nat → Nat) (sl : List (Option Nat)) (b : Nat) : Nat := match ow b with
  | 0 => 0
  | 1 => 1
  | i + 2 => match place i sl 0 with | some j => j + 2 | none => 0
section
variable {fx : Fx} {env : Env} {W : Wd} {m m' : List (Str × V)} {Ns Ns' : List O} {h : Heap} {N : Ld} {ow : Nat → Nat} {ms : Str → Option Value} {sl : List (Option Nat)}
theorem slots_f (σ : List Nat) : ∀ i j a, place i sl 0 = some j → nth σ i = some a → nth (sl.map (slA σ)) j = some a := fun i j a h1 h2 => by
  obtain ⟨d, e, h3⟩ := place_at h1
  rw [Nat.zero_add] at e
  subst e
  rw [nth_map, h3]
  show some ((nth σ i).getD 0) = _
  rw [h2]; rfl
/-- a store laid anew -/
theorem Rl.relay (r : Rl fx env W ⟨m, Ns⟩ h N ow ms) (hm : renM (fun i => place i sl 0) m = some m') (hp : pick (fun i => place i sl 0) Ns 0 sl = some Ns') {H' : Hid} (hH : H' = W.H ∨ H' = ⟨[], ms⟩ ∧ m' = []) :
    Rl fx env ⟨sl.map (slA W.σ), W.I, H'⟩ ⟨m', Ns'⟩ h N (owS ow sl) ms := by
  obtain ⟨p1, p2⟩ := pick_at hp
  have hf := slots_f (sl := sl) W.σ
  refine ⟨r.kbg, r.F, r.Ns, fun p hp => ⟨(r.sub p hp).1, by unfold owS; rw [(r.sub p hp).2]⟩, by rw [List.length_map]; exact p1.symm, fun d o' a h1 h2 => ?_, fun x v hx => ?_, ?_⟩
  · rcases p2 d o' h1 with ⟨_, rfl⟩ | ⟨i, o, q1, q2, q3, q4⟩
    · trivial
    · rw [Nat.zero_add] at q2
      have hi : i < W.σ.length := by rw [r.len]; exact nth_lt_len q3
      have h3 : nth W.σ i = some a := by
        rw [nth_map, q1] at h2
        have h4 : some ((nth W.σ i).getD 0) = some a := h2
        rw [nth_lt hi] at h4 ⊢
        exact h4
      exact renO_ok (W' := ⟨sl.map (slA W.σ), W.I, H'⟩) (fun i j a => hf i j a) (fun _ h => h) (fun b e _ => by unfold owS; rw [e]; show (match place i sl 0 with | some j => j + 2 | none => 0) = _; rw [q2]) (fun b o _ m => m) q4 (r.obj i o a q3 h3)
  · obtain ⟨v0, h1, h2⟩ := renM_look hm hx
    obtain ⟨hd, u, hu, hr⟩ := r.nm x v0 h1
    refine ⟨hd, u, renV_ok (W := W) (W' := ⟨sl.map (slA W.σ), W.I, H'⟩) (fun i j a => hf i j a) (fun _ h => h) h2 hu, hr.keep (fun _ h => ?_) (fun b e _ => by unfold owS; rw [e]) (fun b o _ m => m)⟩
    rcases hH with rfl | ⟨_, rfl⟩
    · exact h
    · cases hx
  · have c := r.cl.keep (ow' := owS ow sl) (fun b e _ => by unfold owS; rw [e]) (fun b o _ m => m)
    rcases hH with rfl | ⟨rfl, _⟩
    · exact c
    · exact ⟨⟨c.1.1, fun p hp => nomatch hp⟩, fun _ => rfl⟩
end

/-- what a call's end brings -/
noncomputable def CallR (Q E : Value → Shared → Prop) : Result → Shared → Prop := fun r s' => match r with | .ok (.ret v) => Q v s' | .ok _ => False | .error e => E e s'
/-- a def (or a class) keeps a contract, in the model -/
noncomputable def SpecI (w : World) (ns sc : List Int) (f D : Nat) (ct : Ct) : Prop :=
  ∀ (fx : Fx), FxOk fx → fx.w = w → fx.ns = ns → fx.sc = sc → D ≤ fx.D → ∀ (env : Env) (W : Wd) (N0 : List O) (h : Heap) (t : Tok) (N R : Ld) (ow : Nat → Nat) (ms : Str → Option Value) (as : List V) (us : List Value) (K : V → List O → Prop) (Q E : Value → Shared → Prop),
    Rl fx env W ⟨[], N0⟩ h N ow ms → W.H = ⟨[], ms⟩ → (∀ p ∈ R, p ∈ N ∧ ow p.1 = 0) → VsAt fx W as us → ct as N0 K →
    (∀ v u W' N1 h' t' N' ow', K v N1 → Ext W W' → VAt fx W' v u → Rl fx env W' ⟨[], N1⟩ h' N' ow' ms → (∀ p ∈ R, p ∈ N' ∧ ow' p.1 = 0) → (∀ p ∈ W'.I, p ∈ W.I ∨ ∀ q ∈ R, q.1 ≠ p.1) → Q u (fx.s h' t')) →
    codeAny (model PR fx.w) fx.A (.call (.ref f) ⟨us, []⟩) (CallR Q E) (fx.s h t)
structure TOk (w : World) (ns sc : List Int) (D : Nat) (T : List (Nat × Ct)) : Prop where
  keep : ∀ a ct, lookN T a = some ct → keepIn (hd.heap_39 w.params) (.ref a) = true
  spec : ∀ a ct, lookN T a = some ct → SpecI w ns sc a D ct
theorem nth_somes : ∀ {π : List Nat} {d i : Nat}, nth (somes π) d = some (some i) ↔ nth π d = some i
  | [], _, _ => by simp [somes, nth]
  | _ :: _, 0, _ => by simp [somes, nth]
  | _ :: r, d + 1, i => nth_somes (π := r) (d := d) (i := i)
theorem somes_len : ∀ π : List Nat, (somes π).length = π.length
  | [] => rfl
  | _ :: r => by rw [somes, List.length_cons, somes_len r, List.length_cons]
theorem somes_none : ∀ {π : List Nat} {d : Nat}, nth (somes π) d ≠ some none
  | [], _ => by simp [somes, nth]
  | _ :: _, 0 => by simp [somes, nth]
  | _ :: r, d + 1 => somes_none (π := r) (d := d)
theorem place_none {i : Nat} : ∀ {π : List Nat} {k : Nat}, place i (somes π) k = none → ∀ d, nth π d ≠ some i
  | [], _, _, d => by simp [nth]
  | x :: r, k, h, d => by
    unfold somes place at h
    split at h
    · cases h
    · rename_i hc
      cases d with
      | zero =>
        intro e
        cases e
        rw [Nat.beq_refl] at hc
        cases hc
      | succ d => exact place_none h d
theorem put_len : ∀ (N : List O) (π : List Nat) (os : List O), (put N π os).length = N.length
  | _, [], [] => rfl
  | _, [], _ :: _ => rfl
  | _, _ :: _, [] => rfl
  | N, i :: r, o :: os => by
    show (put (setN N i o) r os).length = _
    rw [put_len, setN_len]
theorem put_off {i : Nat} : ∀ {π : List Nat} {N os : List O}, (∀ d, nth π d ≠ some i) → nth (put N π os) i = nth N i
  | [], N, [], _ => rfl
  | [], N, _ :: _, _ => rfl
  | _ :: _, N, [], _ => rfl
  | j :: r, N, o :: os, h => by
    show nth (put (setN N j o) r os) i = _
    rw [put_off (π := r) fun d => h (d + 1)]
    have hij : i ≠ j := fun e => h 0 (by rw [e]; rfl)
    cases hx : nth N i with
    | none =>
      cases hy : nth (setN N j o) i with
      | none => rfl
      | some y =>
        rcases nth_setN hy with ⟨a, _⟩ | ⟨_, b⟩
        · exact absurd a hij
        · rw [hx] at b; cases b
    | some x =>
      have hl : i < (setN N j o).length := by rw [setN_len]; exact nth_lt_len hx
      have hy := nth_lt hl
      rcases nth_setN hy with ⟨a, _⟩ | ⟨_, b⟩
      · exact absurd a hij
      · rw [hy, ← b, hx]
theorem setN_self {α : Type} : ∀ {l : List α} {i : Nat} {y : α}, i < l.length → nth (setN l i y) i = some y
  | _ :: _, 0, _, _ => rfl
  | _ :: r, i + 1, y, h => setN_self (l := r) (Nat.lt_of_succ_lt_succ h)
theorem put_on {i : Nat} {o : O} : ∀ {π : List Nat} {N os : List O} {j : Nat}, (∀ d e x, nth π d = some x → nth π e = some x → d = e) → nth π j = some i → nth os j = some o → i < N.length → nth (put N π os) i = some o
  | _ :: r, N, o1 :: os, 0, hd, h1, h2, h3 => by
    cases h1
    cases h2
    show nth (put (setN N i o) r os) i = _
    rw [put_off fun d e => ?_, setN_self h3]
    have := hd 0 (d + 1) i rfl e
    omega
  | _ :: r, N, o1 :: os, j + 1, hd, h1, h2, h3 => by
    show nth (put (setN N _ o1) r os) i = _
    refine put_on (π := r) (j := j) (fun d e x a b => ?_) h1 h2 (by rw [setN_len]; exact h3)
    have := hd (d + 1) (e + 1) x a b
    omega
theorem renOs_at {f : Nat → Option Nat} : ∀ {l l' : List O}, renOs f l = some l' → l'.length = l.length ∧ ∀ d o', nth l' d = some o' → ∃ o, nth l d = some o ∧ renO f o = some o'
  | [], _, e => by cases e; exact ⟨rfl, fun d o h => by cases h⟩
  | o :: r, l', e => by
    unfold renOs at e
    split at e
    · rename_i o1 h1
      split at e
      · rename_i r1 hr
        cases e
        obtain ⟨a, b⟩ := renOs_at hr
        refine ⟨by rw [List.length_cons, List.length_cons, a], fun d o' h => ?_⟩
        cases d with
        | zero => cases h; exact ⟨o, rfl, h1⟩
        | succ d => exact b d o' h
      · cases e
    · cases e
theorem nth_take {α : Type} {l : List α} {k n : Nat} {x : α} (h : nth (l.take k) n = some x) : nth l n = some x := by
  rw [nth_get] at h ⊢
  rw [List.getElem?_take] at h
  split at h
  · exact h
  · cases h
theorem nth_drop {α : Type} (l : List α) (k n : Nat) : nth (l.drop k) n = nth l (k + n) := by
  rw [nth_get, nth_get, List.getElem?_drop]
theorem nth_appR {α : Type} {l r : List α} {n : Nat} (h : l.length ≤ n) : nth (l ++ r) n = nth r (n - l.length) := by
  rw [nth_get, nth_get, List.getElem?_append_right h]
theorem nth_appL {α : Type} {l r : List α} {n : Nat} (h : n < l.length) : nth (l ++ r) n = nth l n := by
  rw [nth_get, nth_get, List.getElem?_append_left h]
section
variable {fx : Fx} {env : Env} {W : Wd} {s : St} {h : Heap} {N : Ld} {ow : Nat → Nat} {ms : Str → Option Value} {Q : Value → Shared → Prop} {E : Value → Shared → Prop} {t : Tok}
theorem Rl.noNames (r : Rl fx env W s h N ow ms) : Rl fx env W ⟨[], s.N⟩ h N ow ms := ⟨r.kbg, r.F, r.Ns, r.sub, r.len, r.obj, (fun x v e => by cases e), r.cl⟩
theorem norm_ok (r : Rl fx env W s h N ow ms) {v : V} {u : Value} (hv : VAt fx W v u) : VAt fx W (normV s.N v) u := by
  unfold normV
  split
  · rename_i i
    split
    · rename_i l hl
      obtain ⟨a, ha, rfl⟩ := hv
      obtain ⟨o, us, k, hk, hc, hd, hs⟩ := r.obj i _ a hl ha
      exact ⟨a, o, us, k, rfl, hk, hc, hd, hs⟩
    · exact hv
  · exact hv
theorem norms_ok (r : Rl fx env W s h N ow ms) : ∀ {vs : List V} {us : List Value}, VsAt fx W vs us → VsAt fx W (vs.map (normV s.N)) us
  | [], _, h => h
  | _ :: _, _, ⟨u, us, e, h1, h2⟩ => ⟨u, us, e, norm_ok r h1, norms_ok r h2⟩
open Classical in
noncomputable def owB (N : Ld) (ow ow0 ow' : Nat → Nat) (π : List Nat) (n : Nat) (b : Nat) : Nat := match ow' b with
  | 0 => if (∃ o, ((b, o) : Addr × Obj) ∈ N) ∧ ow0 b = 0 then ow b else 0
  | 1 => 0
  | j + 2 => match back π n j with | some i => i + 2 | none => 0
/-- an environment without names -/
noncomputable def noEnv : Env := { scope := { kind := .function, names := [], isGenerator := false, isCoroutine := false }, locals := 0, globals := 0, cells := [] }
/-- cells are not the callee's to change -/
noncomputable def ow0 (ow : Nat → Nat) (sl : List (Option Nat)) (b : Nat) : Nat := match owS ow sl b with
  | 1 => 0
  | n => n
theorem callC_ok {f D : Nat} {ct : Ct} (S : SpecI fx.w fx.ns fx.sc f D ct) (hD : D ≤ fx.D) (X : FxOk fx) (r : Rl fx env W s h N ow ms) {as : List V} {us : List Value} {K : V → St → Prop} (hK : callC ct as s.N fun v n => K v ⟨s.m, n⟩) (hv : VsAt fx W as us) (hQ : Out fx env W K Q) :
    codeAny (model PR fx.w) fx.A (.call (.ref f) ⟨us, []⟩) (CallR Q E) (fx.s h t) := by
  have hK1 := forceL_ok hK
  generalize roots 0 s.N (refsVs (as.map (normV s.N))) = π at hK1
  obtain ⟨as', ha, hk⟩ := opt_out hK1
  obtain ⟨N0, hp, hct⟩ := opt_out hk
  have r0 : Rl fx noEnv ⟨(somes π).map (slA W.σ), W.I, ⟨[], ms⟩⟩ ⟨[], N0⟩ h N (ow0 ow (somes π)) ms := by
    have r1 := (r.noNames).relay (m' := []) rfl hp (.inr ⟨rfl, rfl⟩)
    exact ⟨r1.kbg, r1.F, r1.Ns, fun p hp => ⟨(r1.sub p hp).1, by unfold ow0; rw [(r1.sub p hp).2]; try rfl⟩, r1.len, fun i o a h1 h2 => (r1.obj i o a h1 h2).keep (Ext.refl _) (fun b e _ => by unfold ow0; rw [e]; try rfl) (fun b o _ m => m), (fun x v e => by cases e), ⟨(fun x hx => (by cases hx)), fun p hp => nomatch hp⟩, fun _ => rfl⟩
  have va := renVs_ok (W := W) (W' := ⟨(somes π).map (slA W.σ), W.I, ⟨[], ms⟩⟩) (fun i j a => slots_f W.σ i j a) (fun _ h => h) ha (norms_ok r hv)
  obtain ⟨p1, p2⟩ := pick_at hp
  rw [somes_len] at p1
  have hdist : ∀ d e x, nth π d = some x → nth π e = some x → d = e := by
    intro d e x h1 h2
    have hd : d < N0.length := by rw [p1]; exact nth_lt_len h1
    have he : e < N0.length := by rw [p1]; exact nth_lt_len h2
    rcases p2 d _ (nth_lt hd) with ⟨q, _⟩ | ⟨i, o, q1, q2, _, _⟩
    · exact absurd q somes_none
    · rcases p2 e _ (nth_lt he) with ⟨q, _⟩ | ⟨i2, o2, g1, g2, _, _⟩
      · exact absurd q somes_none
      · rw [nth_somes, h1] at q1
        rw [nth_somes, h2] at g1
        cases q1
        cases g1
        rw [q2] at g2
        injection g2 with g2
        omega
  have hin : ∀ d x, nth π d = some x → x < s.N.length := by
    intro d x h1
    have hd : d < N0.length := by rw [p1]; exact nth_lt_len h1
    rcases p2 d _ (nth_lt hd) with ⟨q, _⟩ | ⟨i, o, q1, _, q3, _⟩
    · exact absurd q somes_none
    · rw [nth_somes, h1] at q1
      cases q1
      exact nth_lt_len q3
  refine S fx X rfl rfl rfl hD noEnv _ N0 h t N (N.filter fun p => decide (ow0 ow (somes π) p.1 = 0)) _ ms as' us _ Q E r0 rfl (fun p hp => by simpa using List.mem_filter.mp hp) va hct fun v u W' N1 h' t' N' ow' hk hx hu r1 hR hI => ?_
  obtain ⟨v', hv', hk⟩ := opt_out hk
  obtain ⟨N2, hn2, hk⟩ := opt_out hk
  have hk := forceS_ok hk
  obtain ⟨⟨tl, hσ⟩, hWI, _⟩ := hx
  dsimp only at hσ hWI
  obtain ⟨l2, o2⟩ := renOs_at hn2
  have hl1 : N1.length = π.length + tl.length := by
    have := r1.len
    rw [hσ] at this
    simp only [List.length_append, List.length_map, somes_len] at this
    exact this.symm
  have inR : ∀ b o, ((b, o) : Addr × Obj) ∈ N → ow0 ow (somes π) b = 0 → ((b, o) : Addr × Obj) ∈ N' ∧ ow' b = 0 := fun b o m e => hR (b, o) (List.mem_filter.mpr ⟨m, by simpa using e⟩)
  have owb0 : ∀ b o, ((b, o) : Addr × Obj) ∈ N → ow0 ow (somes π) b = 0 → owB N ow (ow0 ow (somes π)) ow' π s.N.length b = ow b := fun b o m e => by
    unfold owB
    rw [(inR b o m e).2]
    exact if_pos ⟨⟨o, m⟩, e⟩
  have x : Ext W ⟨W.σ ++ tl, W'.I, W.H⟩ := ⟨⟨tl, rfl⟩, hWI, rfl⟩
  have hfb : ∀ i j a, back π s.N.length i = some j → nth W'.σ i = some a → nth (W.σ ++ tl) j = some a := by
    intro i j a h1 h2
    unfold back at h1
    rw [hσ] at h2
    split at h1
    · rename_i hlt
      have hlt' : i < π.length := Nat.le_of_ble_eq_true hlt
      rw [nth_appL (by rw [List.length_map, somes_len]; exact hlt'), nth_map, nth_somes.mpr h1] at h2
      have hj : j < W.σ.length := by rw [r.len]; exact hin _ _ h1
      rw [nth_appL hj]
      have h2' : some ((nth W.σ j).getD 0) = some a := h2
      rw [nth_lt hj] at h2' ⊢
      exact h2'
    · rename_i hlt
      have hge : ¬ i < π.length := fun q => by
        have : Nat.blt i π.length = true := Nat.ble_eq_true_of_le q
        rw [this] at hlt; cases hlt
      cases h1
      rw [nth_appR (by rw [List.length_map, somes_len]; omega), List.length_map, somes_len] at h2
      rw [nth_appR (by rw [r.len]; omega), r.len]
      rw [show s.N.length + (i - π.length) - s.N.length = i - π.length by omega]
      exact h2
  refine hQ v' u ⟨W.σ ++ tl, W'.I, W.H⟩ _ _ hk x (renV_ok (W := W') (W' := ⟨W.σ ++ tl, W'.I, W.H⟩) hfb (fun _ h => h) hv' hu) ⟨h', t', N', owB N ow (ow0 ow (somes π)) ow' π s.N.length, ms, rfl, r1.kbg, r1.F, r1.Ns, fun p hp => ⟨(r1.sub p hp).1, ?_⟩, ?_, fun i o' a h1 h2 => ?_, fun y w hy => ?_, ?_⟩
  · unfold owB
    rw [(r1.sub p hp).2]
    dsimp only
    split
    · rename_i hc
      obtain ⟨⟨o, m⟩, e⟩ := hc
      rcases hI p hp with hq | hq
      · exact (r.sub p hq).2
      · exact absurd rfl (hq (p.1, o) (List.mem_filter.mpr ⟨m, by simpa using e⟩))
    · rfl
  · dsimp only
    rw [List.length_append, List.length_append, put_len, List.length_drop, l2, hl1, r.len]
    omega
  · dsimp only at h1 h2
    have hback : ∀ j i : Nat, nth W'.σ j = some a → back π s.N.length j = some i → ∀ o o', nth N1 j = some o → renO (back π s.N.length) o = some o' → OAt fx ⟨W.σ ++ tl, W'.I, W.H⟩ N' (owB N ow (ow0 ow (somes π)) ow' π s.N.length) i a o' := by
      intro j i h3 h4 o o' h5 h6
      refine renO_ok (W := W') (W' := ⟨W.σ ++ tl, W'.I, W.H⟩) hfb (fun _ h => h) (fun b e _ => ?_) (fun b o _ m => m) h6 (r1.obj j o a h5 h3)
      unfold owB
      rw [e]
      dsimp only
      rw [h4]
    by_cases hi : i < s.N.length
    · rw [nth_appL (by rw [put_len]; exact hi)] at h1
      rw [nth_appL (by rw [r.len]; exact hi)] at h2
      cases hpl : place i (somes π) 0 with
      | none =>
        rw [put_off (place_none hpl)] at h1
        refine (r.obj i o' a h1 h2).keep x (fun b e ⟨ob, m⟩ => ?_) (fun b ob e m => ?_)
        · exact (inR b ob m (by unfold ow0 owS; rw [e]; dsimp only; rw [hpl]; try rfl)).1
        · rw [owb0 b ob m (by unfold ow0 owS; rw [e]; dsimp only; rw [hpl]; try rfl)]
          exact e
      | some j =>
        obtain ⟨d, e, h3⟩ := place_at hpl
        rw [Nat.zero_add] at e
        subst e
        rw [nth_somes] at h3
        have hjl := nth_lt_len h3
        have hj2 : j < N2.length := by rw [l2, hl1]; omega
        have h4 : nth (N2.take π.length) j = some N2[j] := by
          rw [nth_get, List.getElem?_take, if_pos hjl]
          exact List.getElem?_eq_getElem hj2
        rw [put_on hdist h3 h4 hi] at h1
        cases h1
        obtain ⟨o, h5, h6⟩ := o2 j _ (nth_lt hj2)
        refine hback j i ?_ ?_ o _ h5 h6
        · rw [hσ, nth_appL (by rw [List.length_map, somes_len]; exact hjl), nth_map, nth_somes.mpr h3]
          show some ((nth W.σ i).getD 0) = some a
          rw [h2]; rfl
        · unfold back
          have : Nat.blt j π.length = true := Nat.ble_eq_true_of_le hjl
          rw [this]
          exact h3
    · have hge : s.N.length ≤ i := by omega
      rw [nth_appR (by rw [put_len]; exact hge), put_len, nth_drop] at h1
      rw [nth_appR (by rw [r.len]; exact hge), r.len] at h2
      obtain ⟨o, h5, h6⟩ := o2 _ _ h1
      refine hback (π.length + (i - s.N.length)) i ?_ ?_ o _ h5 h6
      · rw [hσ, nth_appR (by rw [List.length_map, somes_len]; omega), List.length_map, somes_len]
        rw [show π.length + (i - s.N.length) - π.length = i - s.N.length by omega]
        exact h2
      · unfold back
        have : Nat.blt (π.length + (i - s.N.length)) π.length = false := by
          cases hb : Nat.blt (π.length + (i - s.N.length)) π.length with
          | false => rfl
          | true => have : π.length + (i - s.N.length) + 1 ≤ π.length := Nat.le_of_ble_eq_true hb; omega
        rw [this]
        dsimp only
        congr 1
        omega
  · obtain ⟨hd, q, hq, hr⟩ := r.nm y w hy
    have z : ∀ b o, ow b = 1 → ((b, o) : Addr × Obj) ∈ N → ow0 ow (somes π) b = 0 := fun b o e _ => by unfold ow0 owS; rw [e]; try rfl
    exact ⟨hd, q, hq.ext x, hr.keep (fun _ h => h) (fun b e ⟨ob, m⟩ => by rw [owb0 b ob m (z b ob e m)]; exact e) (fun b ob e m => (inR b ob m (z b ob e m)).1)⟩
  · have z : ∀ b o, ow b = 1 → ((b, o) : Addr × Obj) ∈ N → ow0 ow (somes π) b = 0 := fun b o e _ => by unfold ow0 owS; rw [e]; try rfl
    exact r.cl.keep (fun b e ⟨ob, m⟩ => by rw [owb0 b ob m (z b ob e m)]; exact e) (fun b ob e m => (inR b ob m (z b ob e m)).1)
end

theorem star_of {e : PySem.Expr} {rest : List PySem.Expr} {env : Env} (hs : notStar e = true) : starEach (e :: rest) env = (false, eval e env) :: starEach rest env := by
  cases e <;> first | rfl | cases hs
theorem own_all (P : Params) : (ownNames.all fun y => match y.2 with | .own a => decide (nsIn (hd.heap_39 P) mainGlobals y.1 = some (some (.ref a))) | _ => false) = true := by kernel_rfl!
theorem blt_all (P : Params) : (bltNames.all fun y => decide (nsIn (hd.heap_39 P) mainGlobals y.1 = some none) && (match y.2 with | .blt id => decide (bootBuiltins y.1 = some (.builtin id)) | .typ n => decide (bootBuiltins y.1 = some (.type n)) | _ => false) && decide (y.1 ≠ Str.ofString "__name__")) = true := by kernel_rfl!
theorem jumps_in (P : Params) : nsIn (hd.heap_39 P) mainGlobals (Str.ofString "JUMPS") = some (some (.ref 477)) := by kernel_rfl!
theorem jumps_at (P : Params) : (hd.heap_39 P).lookup 477 = some { cls := .type "tuple", data := .seq #[.str (Str.ofString "IFNOT") 854, .str (Str.ofString "JUMP") 855, .str (Str.ofString "GOTO") 856, .str (Str.ofString "GOSUB") 857, .str (Str.ofString "ONGO") 858, .str (Str.ofString "RETURN") 859] } := by rfl
theorem plain_of {env : Env} {pos : Pos} : ∀ {args : List PySem.Expr}, args.all notStar = true → (backTo pos (starEach args env)).any (·.1) = false
  | [], _ => rfl
  | e :: rest, h => by
    simp only [List.all_cons, Bool.and_eq_true] at h
    rw [star_of h.1]
    show (false || (backTo pos (starEach rest env)).any (·.1)) = false
    rw [plain_of h.2]
    rfl
section
variable {M : Model} {A : Around} {E : Value → Shared → Prop} {s : Shared} {env : Env} {pos : Pos} {f : Value} {first : List Value} {args : List PySem.Expr} {Q : Value → Shared → Prop}
theorem evalArgs_any {R : Args → Shared → Prop} (hs : args.all notStar = true) (h : wpAny M A (spliced (backTo pos (starEach args env))) (fun vs s' => R { pos := vs } s') E s) : wpAny M A (evalArgs f true (backTo pos (starEach args env)) []) R E s := by
  cases args with
  | nil =>
    unfold evalArgs
    show wpAny M A (spliced [] >>= _) R E s
    refine wpAny_bind (wpAny_mono (show wpAny M A (spliced []) _ E s from h) (fun vs s' h' => ?_) fun _ _ x => x)
    refine wpAny_bind (wpAny_pure ?_)
    refine wpAny_holding ?_
    exact wpAny_bind (wpAny_pure (wpAny_bind (wpAny_pure (wpAny_pure h'))))
  | cons e rest =>
    simp only [List.all_cons, Bool.and_eq_true] at hs
    rw [star_of hs.1] at h ⊢
    exact evalArgs_plain h
theorem with_blt {id : String} (hs : args.all notStar = true) (h : wpAny M A (spliced (backTo pos (starEach args env))) (fun vs s' => wpAny M A (call (.builtin id) (first ++ vs)) Q E s') E s) :
    wpAny M A (callWith pos (.builtin id) first (backTo pos (starEach args env)) []) Q E s :=
  callWith_builtin (plain_of hs) (evalArgs_any hs h)
theorem with_ref {K : Frag} (hs : args.all notStar = true) (hk : keepIn K f = true) (h : wpAny M A (spliced (backTo pos (starEach args env))) (fun vs s' => K.In s'.heap ∧ wpAny M A (call f (first ++ vs)) Q E s') E s) :
    wpAny M A (callWith pos f first (backTo pos (starEach args env)) []) Q E s :=
  callWith_of (by rw [plain_of hs]; rfl) (keeps_K hk) (evalArgs_any hs h)
theorem with_bm {K : Frag} {q g : Nat} {self : Value} (hs : args.all notStar = true) (hk : fnIn K g = true) (h : wpAny M A (spliced (backTo pos (starEach args env))) (fun vs s' => MethP K q g self s'.heap ∧ wpAny M A (call (.ref q) (first ++ vs)) Q E s') E s) :
    wpAny M A (callWith pos (.ref q) first (backTo pos (starEach args env)) []) Q E s :=
  callWith_of (by rw [plain_of hs]; rfl) (keeps_M hk) (evalArgs_any hs h)
theorem len_back : ∀ {args : List PySem.Expr}, (backTo pos (starEach args env)).all (!·.1) = !((backTo pos (starEach args env)).any (·.1)) := by
  intro args
  rw [List.all_eq_not_any_not]
  simp
theorem base_of {o : PySem.Expr} {name : Str} (h : baseOk o = true) : attributeBase o name env (eval o env) = eval o env := by cases o <;> first | rfl | cases h
theorem attr_of {o : PySem.Expr} {name : Str} {apos : Pos} (h : baseOk o = true) : eval (.Attribute o name apos) env = (do
      let ov ← eval o env
      standAt apos.atName
      let r ← holding [ov] (getAttr ov name true)
      letTemporaryGo o ov r
      pure r) := by
  rw [arm_eval_Attribute, base_of h]
theorem meth_of {o : PySem.Expr} {name : Str} {apos : Pos} (h : okMeth o apos pos args = true) : eval (.Call (.Attribute o name apos) args [] pos) env = (do
      let ov ← eval o env
      standAt apos.atName
      let (f, first) ← holding [ov] (getMethod ov name (do return (← importBound o env).getD true))
      callWith pos f first (backTo pos (starEach args env)) []) := by
  obtain ⟨h, h4⟩ := Bool.and_eq_true_iff.mp h
  obtain ⟨h, h3⟩ := Bool.and_eq_true_iff.mp h
  obtain ⟨h1, h2⟩ := Bool.and_eq_true_iff.mp h
  have hm : methodCallForm (args.length + 0) (backTo pos (starEach args env)) [] = true := by
    unfold methodCallForm
    rw [len_back, plain_of h2]
    have : args.length < 20 := Nat.le_of_ble_eq_true h3
    simp only [Bool.not_false, Bool.true_and, List.all_nil, decide_eq_true_eq, List.isEmpty_nil, if_true]
    omega
  have hb : attributeBase o name env (eval o env) = eval o env := by cases o <;> first | rfl | cases h1
  have hp : methodCallPos true o env apos pos = pure pos := by
    unfold methodCallPos
    rw [h4]
    rfl
  show (do
    let ov ← attributeBase o name env (eval o env)
    standAt apos.atName
    methodCall o name apos pos env ov (args.length + 0) (backTo pos (starEach args env)) []) = _
  rw [hb]
  unfold methodCall
  rw [hm]
  unfold calleeOf
  rw [hp]
  rfl
end
/-- where names are looked for -/
structure EnvOk (env : Env) (nm : List (Str × NameKind)) : Prop where
  hk : env.scope.kind = .function
  hgl : env.globals = mainGlobals
  hbl : env.builtins = builtinsNs
  glob : ∀ x, look nm x = some .globalImplicit → env.kindOf x = some .globalImplicit
  dbg : look nm (Str.ofString "__debug__") = none
theorem EnvOk.notDbg {env : Env} {nm : List (Str × NameKind)} (e : EnvOk env nm) {x : Str} {k : NameKind} (h : look nm x = some k) : (x == ("__debug__" : Str)) = false := by
  rw [beq_eq_false_iff_ne]
  intro q
  subst q
  have := e.dbg
  rw [show Str.ofString "__debug__" = (("__debug__" : Str)) from rfl, h] at this
  cases this
noncomputable def OutB (fx : Fx) (env : Env) (W : Wd) (K : Bool → St → Prop) (Q : Bool → Shared → Prop) : Prop := ∀ v W' s s₂, K v s → Ext W W' → Rs fx env W' s s₂ → Q v s₂
noncomputable def OutL (fx : Fx) (env : Env) (W : Wd) (K : List V → St → Prop) (Q : List Value → Shared → Prop) : Prop := ∀ vs us W' s s₂, K vs s → Ext W W' → VsAt fx W' vs us → Rs fx env W' s s₂ → Q us s₂
section
variable {fx : Fx} {env : Env} {W W' : Wd}
theorem Out.ext {K : V → St → Prop} {Q : Value → Shared → Prop} (x : Ext W W') (h : Out fx env W K Q) : Out fx env W' K Q := fun v u W2 s s₂ hk y hv hr => h v u W2 s s₂ hk (x.trans y) hv hr
theorem OutB.ext {K : Bool → St → Prop} {Q : Bool → Shared → Prop} (x : Ext W W') (h : OutB fx env W K Q) : OutB fx env W' K Q := fun v W2 s s₂ hk y hr => h v W2 s s₂ hk (x.trans y) hr
end
noncomputable def EvOk (fx : Fx) (env : Env) (R : PySem.Expr → St → (V → St → Prop) → Prop) : Prop := ∀ e s K, R e s K → ∀ W h t N ow ms, Rl fx env W s h N ow ms → ∀ Q E, Out fx env W K Q → wpAny (model PR fx.w) fx.A (eval e env) Q E (fx.s h t)
noncomputable def TrOk (fx : Fx) (env : Env) (R : PySem.Expr → St → (Bool → St → Prop) → Prop) : Prop := ∀ e s K, R e s K → ∀ W h t N ow ms, Rl fx env W s h N ow ms → ∀ Q E, OutB fx env W K Q → wpAny (model PR fx.w) fx.A (isTrue e env (eval e env)) Q E (fx.s h t)
section
variable {fx : Fx} {env : Env} {W : Wd} {s : St} {h : Heap} {N : Ld} {ow : Nat → Nat} {ms : Str → Option Value} {t : Tok}
theorem evs_ok {R : PySem.Expr → St → (V → St → Prop) → Prop} (I : EvOk fx env R) {pos : Pos} : ∀ {es : List PySem.Expr} {s : St} {K : List V → St → Prop}, evs R es s K → ∀ {W h t N ow ms}, Rl fx env W s h N ow ms → ∀ {Q E}, OutL fx env W K Q → wpAny (model PR fx.w) fx.A (spliced (backTo pos (starEach es env))) Q E (fx.s h t)
  | [], _, _, hK, W, _, _, _, _, _, r, _, _, hQ => args_nil (hQ _ _ W _ _ hK (Ext.refl W) rfl ⟨_, _, _, _, _, rfl, r⟩)
  | e :: rest, s, K, hK, W, _, _, _, _, _, r, Q, E, hQ => by
    obtain ⟨hs, hk⟩ := ok_out hK
    refine args_cons (I e s _ hk _ _ _ _ _ _ r _ _ fun v u W1 s1 s₂ hk1 x1 hv1 hr1 => ?_) (star_of hs)
    obtain ⟨h1, t1, N1, ow1, ms1, rfl, r1⟩ := hr1
    refine evs_ok I (Q := fun us s₃ => Q (u :: us) s₃) hk1 r1 fun vs us W2 s2 s₃ hk2 x2 hv2 hr2 => ?_
    exact hQ _ _ _ _ _ hk2 (x1.trans x2) ⟨u, us, rfl, hv1.ext x2, hv2⟩ hr2
theorem evA_ok (X : FxOk fx) {R : PySem.Expr → St → (V → St → Prop) → Prop} (I : EvOk fx env R) : EvOk fx env (evA R) := by
  intro e s K hK W h t N ow ms r Q E hQ
  cases e with
  | Dict ks vs p => cases ks with
    | nil => cases vs with
      | nil => exact dict_ok X r (.inr rfl) hK hQ
      | cons => exact I _ _ _ hK _ _ _ _ _ _ r _ _ hQ
    | cons => exact I _ _ _ hK _ _ _ _ _ _ r _ _ hQ
  | _ => exact I _ _ _ hK _ _ _ _ _ _ r _ _ hQ
theorem read_ok (X : FxOk fx) (Y : env.scope.kind = .function) (r : Rl fx env W s h N ow ms) {x : Str} {p : Pos} {v : V} (hx : look s.m x = some v) {K : V → St → Prop} (hK : K v s) {Q E} (hQ : Out fx env W K Q) :
    wpAny (model PR fx.w) fx.A (eval (.Name x p) env) Q E (fx.s h t) := by
  obtain ⟨hd, u, hu, hr⟩ := r.nm x v hx
  have fin := hQ _ u W s (fx.s h t) hK (Ext.refl W) hu ⟨_, _, _, _, _, rfl, r⟩
  refine wpAny_Name ?_ hd
  cases hr with
  | loc a b c => exact wpAny_loadName_local Y a (b ▸ r.F.ns) c fin
  | comp C oC m₂ a b c d e =>
    have z := (r.Ns _ (r.cl.1.2 _ c).1).1
    exact wpAny_loadName_local Y a (b ▸ d.ns z) e fin
  | cell c o a b m e d =>
    rcases a with a | ⟨a, a2⟩
    · exact wpAny_loadName_cell Y a b ⟨o, r.Ns.get m, d⟩ fin
    · exact wpAny_loadName_free Y a b ⟨o, r.Ns.get m, d⟩ fin a2
theorem name_ok (X : FxOk fx) {nm : List (Str × NameKind)} (Y : EnvOk env nm) (r : Rl fx env W s h N ow ms) {T : List (Nat × Ct)} {R : Rec} {x : Str} {p : Pos} {K : V → St → Prop} (hK : evS T R nm (.Name x p) s K) {Q E} (hQ : Out fx env W K Q) :
    wpAny (model PR fx.w) fx.A (eval (.Name x p) env) Q E (fx.s h t) := by
  ((try dsimp only at hK); delta evS at hK; dsimp only at hK)
  have T0 := topRead_of X.T
  split at hK
  · rename_i hg
    have hx := Y.glob x hg
    have hd := Y.notDbg hg
    split at hK
    · rename_i v hv
      have := List.all_eq_true.mp (own_all fx.w.params) _ (look_mem hv)
      dsimp only at this
      split at this
      · rename_i a
        have ha := of_decide_eq_true this
        exact Name_function_global Y.hk hx (loadGlobal_global (by rw [Y.hgl]; exact T0.g.keeps r.F.keep) (mg_of X.X T0.g ha) (hQ _ _ W s _ hK (Ext.refl W) rfl ⟨_, _, _, _, _, rfl, r⟩)) hd
      · cases this
    · split at hK
      · rename_i v hv
        have := List.all_eq_true.mp (blt_all fx.w.params) _ (look_mem hv)
        simp only [Bool.and_eq_true, decide_eq_true_eq] at this
        obtain ⟨⟨h1, h2⟩, h3⟩ := this
        split at h2
        · have h2 := of_decide_eq_true h2
          exact Name_function_global Y.hk hx (loadGlobal_builtin (by rw [Y.hgl]; exact T0.g.keeps r.F.keep) (mg_none_of X.X T0.g h1) (by rw [Y.hbl]; exact T0.b.keeps r.F.keep) ((T0.builtins x h3).trans h2) (hQ _ _ W s _ hK (Ext.refl W) rfl ⟨_, _, _, _, _, rfl, r⟩)) hd
        · have h2 := of_decide_eq_true h2
          exact Name_function_global Y.hk hx (loadGlobal_builtin (by rw [Y.hgl]; exact T0.g.keeps r.F.keep) (mg_none_of X.X T0.g h1) (by rw [Y.hbl]; exact T0.b.keeps r.F.keep) ((T0.builtins x h3).trans h2) (hQ _ _ W s _ hK (Ext.refl W) rfl ⟨_, _, _, _, _, rfl, r⟩)) hd
        · cases h2
      · split at hK
        · rename_i hj
          obtain rfl := eq_of_beq hj
          refine Name_function_global Y.hk hx (loadGlobal_global (by rw [Y.hgl]; exact T0.g.keeps r.F.keep) (mg_of X.X T0.g (jumps_in _)) (hQ _ _ W s _ hK (Ext.refl W) ?_ ⟨_, _, _, _, _, rfl, r⟩)) hd
          exact ⟨477, _, [.str (Str.ofString "IFNOT") 854, .str (Str.ofString "JUMP") 855, .str (Str.ofString "GOTO") 856, .str (Str.ofString "GOSUB") 857, .str (Str.ofString "ONGO") 858, .str (Str.ofString "RETURN") 859], 0, rfl, .inl (X.frag _ _ (jumps_at _)), rfl, rfl,
            ⟨_, _, rfl, ⟨_, rfl⟩, _, _, rfl, ⟨_, rfl⟩, _, _, rfl, ⟨_, rfl⟩, _, _, rfl, ⟨_, rfl⟩, _, _, rfl, ⟨_, rfl⟩, _, _, rfl, ⟨_, rfl⟩, rfl⟩⟩
        · exact hK.elim
  · exact hK.elim
  · obtain ⟨v, hv, hk⟩ := opt_out hK
    exact read_ok X Y.hk r hv hk hQ
  · exact hK.elim
end

theorem br_out {c : Bool} {q r : Prop} (h : br c q r) : (c = true → q) ∧ (c = false → r) := by
  cases c with
  | true => exact ⟨fun _ => h, fun e => (by cases e)⟩
  | false => exact ⟨fun e => (by cases e), fun _ => h⟩
structure RecOk (fx : Fx) (R : Rec) : Prop where
  ev : ∀ env nm, EnvOk env nm → EvOk fx env (R.ev nm)
  tr : ∀ env nm, EnvOk env nm → TrOk fx env (R.tr nm)
noncomputable def CompOk (fx : Fx) (R : Rec) : Prop := ∀ env nm, EnvOk env nm → ∀ elt gens scope pos s K, compS R nm [] elt scope s K gens → ∀ W h t N ow ms, Rl fx env W s h N ow ms → ∀ Q E, Out fx env W K Q → wpAny (model PR fx.w) fx.A (eval (.ListComp elt gens scope pos) env) Q E (fx.s h t)
noncomputable def boolE (R : PySem.Expr → St → (V → St → Prop) → Prop) : PySem.Expr → St → (Bool → St → Prop) → Prop := fun e s K => R e s fun v s => opt (asB v) fun c => K c s
section
variable {fx : Fx} {env : Env} {W : Wd} {s : St} {h : Heap} {N : Ld} {ow : Nat → Nat} {ms : Str → Option Value} {t : Tok} {Q : Value → Shared → Prop} {E : Value → Shared → Prop}
theorem Rs.mk (r : Rl fx env W s h N ow ms) (t : Tok) : Rs fx env W s (fx.s h t) := ⟨h, t, N, ow, ms, rfl, r⟩
theorem Out.pure {W1 : Wd} {K : V → St → Prop} (hQ : Out fx env W K Q) (x : Ext W W1) (r : Rl fx env W1 s h N ow ms) {v : V} (hk : K v s) : Pure1 fx W1 h v Q := fun u t hv => hQ v u W1 s _ hk x hv (Rs.mk r t)
theorem boolE_ok {R : PySem.Expr → St → (V → St → Prop) → Prop} (I : EvOk fx env R) {o : Bool} {pos : Pos} {K : V → St → Prop} : ∀ {es : List PySem.Expr} {s : St} {W h t N ow ms}, boolK (boolE R) o es s (fun c s => K (.d (.bool c)) s) → Rl fx env W s h N ow ms → Out fx env W K Q →
    wpAny (model PR fx.w) fx.A (eval (.BoolOp (if o then .Or else .And) es pos) env) Q E (fx.s h t)
  | [], _, _, _, _, _, _, _, hK, _, _ => hK.elim
  | [e], s, W, h, t, N, ow, ms, hK, r, hQ => by
    have J := I e s _ hK _ _ t _ _ _ r Q E (fun v u W1 s1 s₂ hk x hv hr => by
      obtain ⟨c, ec, hk⟩ := opt_out hk
      obtain rfl := asB_out ec
      exact hQ _ _ _ _ _ hk x hv hr)
    cases o <;> exact BoolOp_one (J)
  | e :: e2 :: es, s, W, h, t, N, ow, ms, hK, r, hQ => by
    have J : wpAny (model PR fx.w) fx.A (eval e env) (fun v s₁ => wpAny (model PR fx.w) fx.A (truthy v) (fun c s₂ => if c = o then Q v s₂ else wpAny (model PR fx.w) fx.A (eval (.BoolOp (if o then .Or else .And) (e2 :: es) pos) env) Q E s₂) E s₁) E (fx.s h t) :=
      I e s _ hK _ _ t _ _ _ r _ E (fun v u W1 s1 s₂ hk x hv hr => by
        · obtain ⟨c, ec, hk⟩ := opt_out hk
          obtain rfl := asB_out ec
          obtain ⟨h1, t1, N1, ow1, ms1, rfl, r1⟩ := hr
          obtain ⟨b1, b2⟩ := br_out hk
          rw [show u = .bool c from hv]
          refine wpAny_truthy_bool ?_
          split
          · rename_i hc
            subst hc
            cases c with
            | true => exact hQ _ _ _ _ _ (b1 rfl) x rfl (Rs.mk r1 _)
            | false => exact hQ _ _ _ _ _ (b2 rfl) x rfl (Rs.mk r1 _)
          · rename_i hc
            cases c <;> cases o <;> first | exact absurd rfl hc | skip
            · exact boolE_ok I (b2 rfl) r1 (hQ.ext x)
            · exact boolE_ok I (b1 rfl) r1 (hQ.ext x))
    cases o with
    | true =>
      refine BoolOp_or (wpAny_mono J (fun v s₁ h1 => wpAny_mono h1 (fun c s₂ h2 => ?_) fun _ _ x => x) fun _ _ x => x)
      cases c <;> exact h2
    | false =>
      refine BoolOp_and (wpAny_mono J (fun v s₁ h1 => wpAny_mono h1 (fun c s₂ h2 => ?_) fun _ _ x => x) fun _ _ x => x)
      cases c <;> exact h2
theorem boolT_ok {R : PySem.Expr → St → (Bool → St → Prop) → Prop} (I : TrOk fx env R) {o : Bool} {whole : Sem Value} {pos : Pos} {K : Bool → St → Prop} {Q : Bool → Shared → Prop} : ∀ {es : List PySem.Expr} {s : St} {W h t N ow ms}, boolK R o es s K → Rl fx env W s h N ow ms → OutB fx env W K Q →
    wpAny (model PR fx.w) fx.A (isTrue (.BoolOp (if o then .Or else .And) es pos) env whole) Q E (fx.s h t)
  | [], _, _, _, _, _, _, _, hK, _, _ => hK.elim
  | [e], s, W, h, t, N, ow, ms, hK, r, hQ => by
    have J := I e s _ hK _ _ t _ _ _ r Q E hQ
    cases o with
    | true =>
      refine isTrue_or (wpAny_mono J (fun c s' h' => ?_) fun _ _ x => x)
      cases c
      · exact isTrue_or_nil h'
      · exact h'
    | false =>
      refine isTrue_and (wpAny_mono J (fun c s' h' => ?_) fun _ _ x => x)
      cases c
      · exact h'
      · exact isTrue_and_nil h'
  | e :: e2 :: es, s, W, h, t, N, ow, ms, hK, r, hQ => by
    have J : wpAny (model PR fx.w) fx.A (isTrue e env (eval e env)) (fun c s₂ => if c = o then Q c s₂ else wpAny (model PR fx.w) fx.A (isTrue (.BoolOp (if o then .Or else .And) (e2 :: es) pos) env whole) Q E s₂) E (fx.s h t) :=
      I e s _ hK _ _ t _ _ _ r _ E (fun c W1 s1 s₂ hk x hr => by
        obtain ⟨h1, t1, N1, ow1, ms1, rfl, r1⟩ := hr
        obtain ⟨b1, b2⟩ := br_out hk
        split
        · rename_i hc
          subst hc
          cases c with
          | true => exact hQ _ _ _ _ (b1 rfl) x (Rs.mk r1 _)
          | false => exact hQ _ _ _ _ (b2 rfl) x (Rs.mk r1 _)
        · rename_i hc
          cases c <;> cases o <;> first | exact absurd rfl hc | skip
          · exact boolT_ok I (b2 rfl) r1 (hQ.ext x)
          · exact boolT_ok I (b1 rfl) r1 (hQ.ext x))
    cases o with
    | true =>
      refine isTrue_or (wpAny_mono J (fun c s' h' => ?_) fun _ _ x => x)
      cases c <;> exact h'
    | false =>
      refine isTrue_and (wpAny_mono J (fun c s' h' => ?_) fun _ _ x => x)
      cases c <;> exact h'
theorem set_of {e : PySem.Expr} {op : CmpOp} (h : notSet e = true) : behindInMarks op e = false := by cases e <;> first | rfl | cases h
theorem test_ok {R : PySem.Expr → St → (V → St → Prop) → Prop} (X : FxOk fx) (I : EvOk fx env R) {l : PySem.Expr} {pos : Pos} {whole : Sem Value} {K : Bool → St → Prop} {Q : Bool → Shared → Prop} {ops : List CmpOp} {rs : List PySem.Expr} (hK : testK R l s K ops rs) (r : Rl fx env W s h N ow ms) (hQ : OutB fx env W K Q) :
    wpAny (model PR fx.w) fx.A (isTrue (.Compare l ops rs pos) env whole) Q E (fx.s h t) := by
  delta testK at hK
  cases ops with
  | nil => exact hK.elim
  | cons op ops => cases ops with
    | cons => exact hK.elim
    | nil => cases rs with
      | nil => exact hK.elim
      | cons e rs => cases rs with
        | cons => exact hK.elim
        | nil =>
    obtain ⟨hm, hK⟩ := ok_out hK
    refine wpAny_isTrue_Compare1 (I l s _ hK _ _ _ _ _ _ r _ E fun a u W1 s1 s₂ hk x1 hv hr => ?_) (set_of hm)
    obtain ⟨h1, t1, N1, ow1, ms1, rfl, r1⟩ := hr
    refine I e s1 _ hk _ _ _ _ _ _ r1 _ E fun b w W2 s2 s₃ hk2 x2 hv2 hr2 => ?_
    obtain ⟨h2, t2, N2, ow2, ms2, rfl, r2⟩ := hr2
    exact cmpK_ok X r2 hk2 (hv.ext x2) hv2 fun c _ hc => wpAny_truthy_bool (hQ c _ _ _ hc (x1.trans x2) (Rs.mk r2 _))
theorem chain_ok {R : PySem.Expr → St → (V → St → Prop) → Prop} (X : FxOk fx) (I : EvOk fx env R) {l : PySem.Expr} {pos : Pos} {K : V → St → Prop} {ops : List CmpOp} {rs : List PySem.Expr} (hK : chainK R l s (fun c s => K (.d (.bool c)) s) ops rs) (r : Rl fx env W s h N ow ms) (hQ : Out fx env W K Q) :
    wpAny (model PR fx.w) fx.A (eval (.Compare l ops rs pos) env) Q E (fx.s h t) := by
  delta chainK at hK
  cases ops with
  | nil => exact hK.elim
  | cons op ops => cases ops with
  | nil => cases rs with
    | nil => exact hK.elim
    | cons e rs => cases rs with
    | cons => exact hK.elim
    | nil =>
    obtain ⟨hm, hK⟩ := ok_out hK
    refine wpAny_Compare1 (I l s _ hK _ _ _ _ _ _ r _ E fun a u W1 s1 s₂ hk x1 hv hr => ?_) (set_of hm)
    obtain ⟨h1, t1, N1, ow1, ms1, rfl, r1⟩ := hr
    refine I e s1 _ hk _ _ _ _ _ _ r1 _ E fun b w W2 s2 s₃ hk2 x2 hv2 hr2 => ?_
    obtain ⟨h2, t2, N2, ow2, ms2, rfl, r2⟩ := hr2
    exact cmpK_ok X r2 hk2 (hv.ext x2) hv2 fun c _ hc => hQ _ _ _ _ _ hc (x1.trans x2) rfl (Rs.mk r2 _)
  | cons op2 ops => cases ops with
  | cons => exact hK.elim
  | nil => cases rs with
    | nil => exact hK.elim
    | cons e rs => cases rs with
    | nil => exact hK.elim
    | cons e2 rs => cases rs with
    | cons => exact hK.elim
    | nil =>
    obtain ⟨hm, hK⟩ := ok_out hK
    refine Compare_chain (I l s _ hK _ _ _ _ _ _ r _ E fun a u W1 s1 s₂ hk x1 hv hr => chain_link ?_) (by show behindInMarks op2 e2 = false; exact set_of hm)
    obtain ⟨h1, t1, N1, ow1, ms1, rfl, r1⟩ := hr
    refine I e s1 _ hk _ _ _ _ _ _ r1 _ E fun b w W2 s2 s₃ hk2 x2 hv2 hr2 => ?_
    obtain ⟨h2, t2, N2, ow2, ms2, rfl, r2⟩ := hr2
    refine cmpK_ok X r2 hk2 (hv.ext x2) hv2 fun c _ hc => wpAny_truthy_bool ?_
    obtain ⟨b1, b2⟩ := br_out hc
    cases c with
    | true =>
      refine chain_last (I e2 s2 _ (b1 rfl) _ _ _ _ _ _ r2 _ E fun d y W3 s3 s₄ hk3 x3 hv3 hr3 => ?_)
      obtain ⟨h3, t3, N3, ow3, ms3, rfl, r3⟩ := hr3
      exact cmpK_ok X r3 hk3 (hv2.ext x3) hv3 fun c _ hc => hQ _ _ _ _ _ hc ((x1.trans x2).trans x3) rfl (Rs.mk r3 _)
    | false => exact hQ _ _ _ _ _ (b2 rfl) (x1.trans x2) rfl (Rs.mk r2 _)
theorem mkOf_inv {Ns : List O} {i : Nat} {x : Str} {k : Mk} (h : mkOf Ns (.ref i) x = some k) :
    (∃ l, nth Ns i = some (.list l) ∧ ((x = Str.ofString "append" ∧ k = .app) ∨ (x = Str.ofString "extend" ∧ k = .ext) ∨ (x = Str.ofString "pop" ∧ k = .pop))) ∨ (∃ l, nth Ns i = some (.dictS l) ∧ x = Str.ofString "get" ∧ k = .get) ∨
    ∃ c fs mm f, nth Ns i = some (.inst c fs) ∧ look fs x = none ∧ lookN meths c = some mm ∧ look mm x = some f ∧ k = .fn f := by
  ((try dsimp only at h); delta mkOf at h; dsimp only at h)
  generalize nth Ns i = o at h
  match o, h with
  | some (.list l), h =>
    refine .inl ⟨l, rfl, ?_⟩
    cases h1 : x == Str.ofString "append" with
    | true => simp only [h1] at h; exact .inl ⟨eq_of_beq h1, (Option.some.inj h).symm⟩
    | false =>
      cases h2 : x == Str.ofString "extend" with
      | true => simp only [h1, h2] at h; exact .inr (.inl ⟨eq_of_beq h2, (Option.some.inj h).symm⟩)
      | false =>
        cases h3 : x == Str.ofString "pop" with
        | true => simp only [h1, h2, h3] at h; exact .inr (.inr ⟨eq_of_beq h3, (Option.some.inj h).symm⟩)
        | false => simp only [h1, h2, h3] at h; cases h
  | some (.dictS l), h =>
    refine .inr (.inl ⟨l, rfl, ?_⟩)
    cases h1 : x == Str.ofString "get" with
    | true => simp only [h1] at h; exact ⟨eq_of_beq h1, (Option.some.inj h).symm⟩
    | false => simp only [h1] at h; cases h
  | some (.inst c fs), h =>
    refine .inr (.inr ⟨c, fs, ?_⟩)
    dsimp only at h
    cases h1 : look fs x with
    | some v => simp only [h1] at h; cases h
    | none =>
      cases h2 : lookN meths c with
      | none => simp only [h1, h2] at h; cases h
      | some mm =>
        cases h3 : look mm x with
        | none => simp only [h1, h2, h3] at h; cases h
        | some f => simp only [h1, h2, h3] at h; exact ⟨mm, f, rfl, rfl, rfl, h3, (Option.some.inj h).symm⟩
  | some (.flist _), h => cases h
  | some (.dictI _), h => cases h
  | some (.fdictI _), h => cases h
  | some (.bag _), h => cases h
  | some .dead, h => cases h
  | none, h => cases h
noncomputable def mkV : Mk → Value | .app => .builtin "list.append" | .ext => .builtin "list.extend" | .pop => .builtin "list.pop" | .get => .builtin "dict.get" | .fn f => .ref f
theorem getMeth_ok (X : FxOk fx) (r : Rl fx env W s h N ow ms) {i q : Nat} {x : Str} {k : Mk} {pl : Sem Bool} {Q : Value × List Value → Shared → Prop} (hk : mkOf s.N (.ref i) x = some k) (hq : nth W.σ i = some q) (fin : Q (mkV k, [.ref q]) (fx.s h t)) :
    wpAny (model PR fx.w) fx.A (getMethod (.ref q) x pl) Q E (fx.s h t) := by
  rcases mkOf_inv hk with ⟨l, hl, hc⟩ | ⟨l, hl, rfl, rfl⟩ | ⟨c, fs, mm, f, hi, hnone, hmm, hf, rfl⟩
  · obtain ⟨us, c, e1, m1, _⟩ := list_at r hl hq
    rcases hc with ⟨rfl, rfl⟩ | ⟨rfl, rfl⟩ | ⟨rfl, rfl⟩
    · exact listMethod_K r.Ns m1 PySem.F.slot_list_append PySem.F.type_list_append fin
    · exact listMethod_K r.Ns m1 PySem.F.slot_list_extend PySem.F.type_list_extend fin
    · exact listMethod_K r.Ns m1 PySem.F.slot_list_pop PySem.F.type_list_pop fin
  · obtain ⟨o, kvs, e1, m1, hdo, _, _⟩ := r.obj i _ q hl hq
    exact kdg_method (knd := strKind PR fx.w) r.Ns m1 hdo fin
  · obtain ⟨dx, es, n, hI, ho, m1, m2, he⟩ := inst_at r hi hq
    have mi := meth_in fx.w.params hmm hf
    exact method_inst r.F X.X hI mi.get mi.find mi.fn ((es_get (x := x) he).2 hnone) fin
/-- how a method's callee is kept -/
theorem mkOf_fn {Ns : List O} {i : Nat} {x : Str} {f : Nat} (hk : mkOf Ns (.ref i) x = some (.fn f)) (P : Params) : keepIn (hd.heap_39 P) (.ref f) = true := by
  rcases mkOf_inv hk with ⟨l, hl, hc⟩ | ⟨l, hl, rfl, h⟩ | ⟨c, fs, mm, g, hi, hnone, hmm, hf, h⟩
  · rcases hc with ⟨_, h⟩ | ⟨_, h⟩ | ⟨_, h⟩ <;> cases h
  · cases h
  · cases h
    exact (meth_in P hmm hf).keep
theorem mkOf_ref {Ns : List O} {a : V} {x : Str} {k : Mk} (hk : mkOf Ns a x = some k) : ∃ i, a = .ref i := by
  cases a <;> first | exact ⟨_, rfl⟩ | cases hk
end

section
variable {fx : Fx} {env : Env} {W : Wd} {s : St} {h : Heap} {N : Ld} {ow : Nat → Nat} {ms : Str → Option Value} {t : Tok} {Q : Value → Shared → Prop} {E : Value → Shared → Prop} {T : List (Nat × Ct)} {R : Rec} {nm : List (Str × NameKind)} {D : Nat}
theorem args_all : ∀ {args : List PySem.Expr}, args.all notStar = true → True := fun _ => trivial
theorem call_ok (X : FxOk fx) (TT : TOk fx.w fx.ns fx.sc D T) (hD : D ≤ fx.D) (I : RecOk fx R) (Y : EnvOk env nm) {f : PySem.Expr} {args : List PySem.Expr} {pos : Pos} {K : V → St → Prop} (hK : evS T R nm (.Call f args [] pos) s K) (r : Rl fx env W s h N ow ms) (hQ : Out fx env W K Q) :
    wpAny (model PR fx.w) fx.A (eval (.Call f args [] pos) env) Q E (fx.s h t) := by
  have Ie := I.ev env nm Y
  have Ia := evA_ok X Ie
  ((try dsimp only at hK); delta evS at hK; dsimp only at hK)
  split at hK
  · rename_i o x apos
    obtain ⟨hm, hK⟩ := ok_out hK
    have hs : args.all notStar = true := by
      exact (Bool.and_eq_true_iff.mp (Bool.and_eq_true_iff.mp (Bool.and_eq_true_iff.mp hm).1).1).2
    refine MethodCall_ (Ie o s _ hK _ _ _ _ _ _ r _ E fun a u W1 s1 s₂ hk x1 hv hr => ?_) (meth_of hm)
    obtain ⟨h1, t1, N1, ow1, ms1, rfl, r1⟩ := hr
    obtain ⟨k, hk1, hk⟩ := opt_out hk
    obtain ⟨i, rfl⟩ := mkOf_ref hk1
    obtain ⟨q, hq, rfl⟩ := hv
    refine getMeth_ok X r1 hk1 hq ?_
    have fin : ∀ (P : List Value → Shared → Prop), (∀ vs us W2 s2 s₃, methK T k (.ref i) vs s2.N (fun v N => K v ⟨s2.m, N⟩) → Ext W1 W2 → VsAt fx W2 vs us → Rs fx env W2 s2 s₃ → P us s₃) → wpAny (model PR fx.w) fx.A (spliced (backTo pos (starEach args env))) P E (fx.s h1 t1) := fun P hP => evs_ok Ia hk r1 hP
    cases k with
    | app =>
      refine with_blt hs (fin _ fun vs us W2 s2 s₃ hk2 x2 hv2 hr2 => ?_)
      obtain ⟨h2, t2, N2, ow2, ms2, rfl, r2⟩ := hr2
      exact append_ok r2 hk2 (x2.nth hq) hv2 (hQ.ext (x1.trans x2))
    | ext =>
      refine with_blt hs (fin _ fun vs us W2 s2 s₃ hk2 x2 hv2 hr2 => ?_)
      obtain ⟨h2, t2, N2, ow2, ms2, rfl, r2⟩ := hr2
      exact extend_ok r2 hk2 (x2.nth hq) hv2 (hQ.ext (x1.trans x2))
    | pop =>
      refine with_blt hs (fin _ fun vs us W2 s2 s₃ hk2 x2 hv2 hr2 => ?_)
      obtain ⟨h2, t2, N2, ow2, ms2, rfl, r2⟩ := hr2
      exact pop_ok r2 hk2 (x2.nth hq) hv2 (hQ.ext (x1.trans x2))
    | get =>
      refine with_blt hs (fin _ fun vs us W2 s2 s₃ hk2 x2 hv2 hr2 => ?_)
      obtain ⟨h2, t2, N2, ow2, ms2, rfl, r2⟩ := hr2
      exact dget_ok r2 hk2 (x2.nth hq) hv2 (hQ.ext (x1.trans x2))
    | fn g =>
      refine with_ref hs (mkOf_fn hk1 fx.w.params) (fin _ fun vs us W2 s2 s₃ hk2 x2 hv2 hr2 => ?_)
      obtain ⟨h2, t2, N2, ow2, ms2, rfl, r2⟩ := hr2
      refine ⟨X.X.keeps r2.F.keep, wpAny_call ?_⟩
      obtain ⟨ct, hct, hk2⟩ := opt_out (show opt (lookN T g) _ from hk2)
      exact callC_ok (TT.spec _ _ hct) hD X r2 hk2 ⟨_, _, rfl, ⟨q, x2.nth hq, rfl⟩, hv2⟩ (hQ.ext (x1.trans x2))
  · rename_i hna
    obtain ⟨hs, hK⟩ := ok_out hK
    refine Call_ (Ie f s _ hK _ _ _ _ _ _ r _ E fun a u W1 s1 s₂ hk x1 hv hr => ?_) ?_
    · obtain ⟨h1, t1, N1, ow1, ms1, rfl, r1⟩ := hr
      dsimp only at hk
      split at hk
      · rename_i id
        rw [show u = .builtin id from hv]
        refine with_blt hs (evs_ok Ia hk r1 fun vs us W2 s2 s₃ hk2 x2 hv2 hr2 => ?_)
        obtain ⟨h2, t2, N2, ow2, ms2, rfl, r2⟩ := hr2
        exact blt_ok X r2 hk2 hv2 (hQ.ext (x1.trans x2))
      · obtain ⟨c, hc, hk⟩ := opt_out hk
        unfold calOf at hc
        split at hc
        · rename_i f' _
          split at hc
          · rename_i ct hct
            cases hc
            rw [show u = .ref f' from hv]
            refine with_ref hs (TT.keep _ _ hct) (evs_ok Ia hk r1 fun vs us W2 s2 s₃ hk2 x2 hv2 hr2 => ?_)
            obtain ⟨h2, t2, N2, ow2, ms2, rfl, r2⟩ := hr2
            exact ⟨X.X.keeps r2.F.keep, wpAny_call (callC_ok (TT.spec _ _ hct) hD X r2 hk2 hv2 (hQ.ext (x1.trans x2)))⟩
          · cases hc
        · rename_i i g _
          split at hc
          · rename_i ct hct
            cases hc
            obtain ⟨q, b, rfl, hb, hq, hg⟩ := hv
            refine with_bm (K := fx.K) (g := g) (self := .ref b) hs hg (evs_ok Ia hk r1 fun vs us W2 s2 s₃ hk2 x2 hv2 hr2 => ?_)
            obtain ⟨h2, t2, N2, ow2, ms2, rfl, r2⟩ := hr2
            have ho := r2.get (hq.ext x2)
            refine ⟨⟨ho, X.X.keeps r2.F.keep⟩, wpAny_call (method_call (s := fx.s h2 t2) ho ?_)⟩
            exact callC_ok (TT.spec _ _ hct) hD X r2 hk2 ⟨_, _, rfl, ⟨b, x2.nth hb, rfl⟩, hv2⟩ (hQ.ext (x1.trans x2))
          · cases hc
        · cases hc
    · cases f <;> first | rfl | exact absurd rfl (hna _ _ _)
theorem sub_plain (X : FxOk fx) {nm : List (Str × NameKind)} {R : Rec} (Ie : EvOk fx env (R.ev nm)) {v sl : PySem.Expr} {p : Pos} (hns : notSlice sl = true) {K : V → St → Prop} (hK : R.ev nm v s fun a s => R.ev nm sl s fun i s => subK s.N a i fun v => K v s) (r : Rl fx env W s h N ow ms) (hQ : Out fx env W K Q) :
    wpAny (model PR fx.w) fx.A (eval (.Subscript v sl p) env) Q E (fx.s h t) := by
  refine Subscript_ (Ie v s _ hK _ _ _ _ _ _ r _ E fun a u W1 s1 s₂ hk x1 hv hr => ?_)
  obtain ⟨h1, t1, N1, ow1, ms1, rfl, r1⟩ := hr
  refine Ie sl s1 _ hk _ _ _ _ _ _ r1 _ E fun b w W2 s2 s₃ hk2 x2 hv2 hr2 => ?_
  obtain ⟨h2, t2, N2, ow2, ms2, rfl, r2⟩ := hr2
  exact subK_ok r2 hk2 hns (hv.ext x2) hv2 fun v hv3 => hQ.pure (x1.trans x2) r2 hv3
theorem evS_ok (X : FxOk fx) (TT : TOk fx.w fx.ns fx.sc D T) (hD : D ≤ fx.D) (I : RecOk fx R) (C : CompOk fx R) (Y : EnvOk env nm) : EvOk fx env (evS T R nm) := by
  intro e s K hK W h t N ow ms r Q E hQ
  have Ie := I.ev env nm Y
  cases e with
  | Name x p => exact name_ok X Y r hK hQ
  | Constant c k p =>
    ((try dsimp only at hK); delta evS at hK; dsimp only at hK)
    split at hK
    · exact wpAny_Constant_int (hQ _ _ W s _ hK (Ext.refl W) ⟨_, rfl⟩ (Rs.mk r _))
    · exact Constant_str (hQ _ _ W s _ hK (Ext.refl W) ⟨_, rfl⟩ (Rs.mk r _))
    · exact wpAny_pure (hQ _ _ W s _ hK (Ext.refl W) rfl (Rs.mk r _))
    · exact wpAny_pure (hQ _ _ W s _ hK (Ext.refl W) rfl (Rs.mk r _))
    · exact hK.elim
  | BinOp l op rr p =>
    ((try dsimp only at hK); delta evS at hK; dsimp only at hK)
    refine wpAny_BinOp (Ie l s _ hK _ _ _ _ _ _ r _ E fun a u W1 s1 s₂ hk x1 hv hr => ?_)
    obtain ⟨h1, t1, N1, ow1, ms1, rfl, r1⟩ := hr
    refine Ie rr s1 _ hk _ _ _ _ _ _ r1 _ E fun b w W2 s2 s₃ hk2 x2 hv2 hr2 => ?_
    obtain ⟨h2, t2, N2, ow2, ms2, rfl, r2⟩ := hr2
    exact arK_ok hk2 (hv.ext x2) hv2 fun v hv3 => hQ.pure (x1.trans x2) r2 hv3
  | UnaryOp op x p =>
    ((try dsimp only at hK); delta evS at hK; dsimp only at hK)
    split at hK
    · refine UnaryOp_ (Ie x s _ hK _ _ _ _ _ _ r _ E fun a u W1 s1 s₂ hk x1 hv hr => ?_)
      obtain ⟨h1, t1, N1, ow1, ms1, rfl, r1⟩ := hr
      obtain ⟨i, t2, rfl, hk⟩ := optI hk hv
      exact PyProof.Rows.neg_int (hQ _ _ _ _ _ hk x1 ⟨_, rfl⟩ (Rs.mk r1 _))
    · refine UnaryOp_ (Ie x s _ hK _ _ _ _ _ _ r _ E fun a u W1 s1 s₂ hk x1 hv hr => ?_)
      obtain ⟨h1, t1, N1, ow1, ms1, rfl, r1⟩ := hr
      obtain ⟨c, rfl, hk⟩ := optB hk hv
      exact not_of (wpAny_truthy_bool (hQ _ _ _ _ _ hk x1 rfl (Rs.mk r1 _)))
    · exact hK.elim
  | BoolOp op es p =>
    ((try dsimp only at hK); delta evS at hK; dsimp only at hK)
    split at hK
    · exact boolE_ok (o := false) Ie hK r hQ
    · exact boolE_ok (o := true) Ie hK r hQ
  | Compare l ops rs p => exact chain_ok X Ie hK r hQ
  | IfExp q x y p =>
    ((try dsimp only at hK); delta evS at hK; dsimp only at hK)
    refine IfExp_ (I.tr env nm Y q s _ hK _ _ _ _ _ _ r _ E fun c W1 s1 s₂ hk x1 hr => ?_)
    obtain ⟨h1, t1, N1, ow1, ms1, rfl, r1⟩ := hr
    obtain ⟨b1, b2⟩ := br_out hk
    cases c with
    | true => exact Ie x s1 _ (b1 rfl) _ _ _ _ _ _ r1 _ E (hQ.ext x1)
    | false => exact Ie y s1 _ (b2 rfl) _ _ _ _ _ _ r1 _ E (hQ.ext x1)
  | Subscript v sl p =>
    cases sl <;> try exact sub_plain X Ie rfl hK r hQ
    rename_i q1 q2 q3 pp
    cases q1 with
    | some => exact Subscript_ (Ie v s _ hK _ _ _ _ _ _ r _ E fun a u W1 s1 s₂ hk x1 hv hr => False.elim hk)
    | none => cases q2 with
    | none => exact Subscript_ (Ie v s _ hK _ _ _ _ _ _ r _ E fun a u W1 s1 s₂ hk x1 hv hr => False.elim hk)
    | some hi => cases q3 with
    | some => exact Subscript_ (Ie v s _ hK _ _ _ _ _ _ r _ E fun a u W1 s1 s₂ hk x1 hv hr => False.elim hk)
    | none =>
    refine Subscript_ (Ie v s _ hK _ _ _ _ _ _ r _ E fun a u W1 s1 s₂ hk x1 hv hr => ?_)
    obtain ⟨h1, t1, N1, ow1, ms1, rfl, r1⟩ := hr
    dsimp only at hk
    refine wpAny_Slice (wpAny_pure ?_)
    rw [evalPart_some]
    refine Ie hi s1 _ hk _ _ _ _ _ _ r1 _ E fun b w W2 s2 s₃ hk2 x2 hv2 hr2 => wpAny_pure ?_
    obtain ⟨h2, t2, N2, ow2, ms2, rfl, r2⟩ := hr2
    dsimp only at hk2
    split at hk2
    · rename_i n
      obtain ⟨tk, rfl⟩ := hv2
      split at hk2
      · exact cut_ok X r2 rfl (hv.ext x2) hk2 (hQ.ext (x1.trans x2))
      · obtain ⟨l, hl, hk2⟩ := opt_out hk2
        obtain ⟨hb, hk2⟩ := ok_out hk2
        exact slice_ok r2 rfl hl hb (hv.ext x2) hk2 (hQ.ext (x1.trans x2))
    · exact hk2.elim
  | Attribute o x p =>
    ((try dsimp only at hK); delta evS at hK; dsimp only at hK)
    obtain ⟨hb, hK⟩ := ok_out hK
    refine Attribute_any_ (Ie o s _ hK _ _ _ _ _ _ r _ E fun a u W1 s1 s₂ hk x1 hv hr => ?_) (attr_of hb)
    obtain ⟨h1, t1, N1, ow1, ms1, rfl, r1⟩ := hr
    exact attrK_ok X r1 hk hv (hQ.ext x1)
  | Tuple es k p =>
    ((try dsimp only at hK); delta evS at hK; dsimp only at hK)
    refine Tuple_ (evs_ok Ie hK r fun vs us W1 s1 s₂ hk x1 hv hr => ?_)
    obtain ⟨h1, t1, N1, ow1, ms1, rfl, r1⟩ := hr
    exact tuple_ok r1 hk hv (hQ.ext x1)
  | List es p =>
    ((try dsimp only at hK); delta evS at hK; dsimp only at hK)
    refine List_ (evs_ok Ie hK r fun vs us W1 s1 s₂ hk x1 hv hr => ?_)
    obtain ⟨h1, t1, N1, ow1, ms1, rfl, r1⟩ := hr
    exact list_ok r1 hk hv (hQ.ext x1)
  | Dict ks vs p =>
    cases ks with
    | nil =>
      cases vs with
      | nil => exact dict_ok X r (.inl rfl) hK hQ
      | cons => exact hK.elim
    | cons => exact hK.elim
  | Call f args kws p =>
    cases kws with
    | nil => exact call_ok X TT hD I Y hK r hQ
    | cons => exact hK.elim
  | ListComp elt gens scope p => exact C env nm Y elt gens scope p s K hK _ _ _ _ _ _ r _ _ hQ
  | _ => exact hK.elim
theorem trS_ok (X : FxOk fx) (I : RecOk fx R) (Y : EnvOk env nm) : TrOk fx env (trS R nm) := by
  intro e s K hK W h t N ow ms r Q E hQ
  have Ie := I.ev env nm Y
  unfold trS at hK
  split at hK
  · rename_i hp
    refine isTrue_plain (Ie e s _ hK _ _ _ _ _ _ r _ E fun a u W1 s1 s₂ hk x1 hv hr => ?_) ?_
    · obtain ⟨h1, t1, N1, ow1, ms1, rfl, r1⟩ := hr
      dsimp only at hk
      split at hk
      · rename_i c
        rw [show u = .bool c from hv]
        exact wpAny_truthy_bool (hQ _ _ _ _ hk x1 (Rs.mk r1 _))
      · rw [show u = .none from hv]
        exact PyProof.Rows.truthy_none (hQ _ _ _ _ hk x1 (Rs.mk r1 _))
      · exact hk.elim
    · cases e with
      | UnaryOp op x p => cases op <;> first | rfl | cases hp
      | BoolOp | IfExp | Compare => cases hp
      | _ => rfl
  · cases e with
    | UnaryOp op x p => cases op with
      | Not => exact isTrue_not (I.tr env nm Y x s _ hK _ _ _ _ _ _ r _ E fun c W1 s1 s₂ hk x1 hr => hQ _ _ _ _ hk x1 hr)
      | _ => exact hK.elim
    | BoolOp op es p => cases op with
      | And => exact boolT_ok (o := false) (I.tr env nm Y) hK r hQ
      | Or => exact boolT_ok (o := true) (I.tr env nm Y) hK r hQ
    | Compare l ops rs p => exact test_ok X Ie hK r hQ
    | _ => exact hK.elim
end

theorem look_putM {α : Type} (x : Str) (v : α) (y : Str) : ∀ m : List (Str × α), look (putM m x v) y = if y = x then some v else look m y
  | [] => by
    show (match y == x with | true => some v | false => none) = _
    by_cases h : y = x
    · rw [if_pos h, beq_iff_eq.mpr h]
    · rw [if_neg h, beq_eq_false_iff_ne.mpr h]; rfl
  | (z, u) :: r => by
    have ih := look_putM x v y r
    by_cases hx : x = z
    · have e : putM ((z, u) :: r) x v = (z, v) :: r := by unfold putM; rw [beq_iff_eq.mpr hx]
      rw [e]
      show (match y == z with | true => some v | false => look r y) = if y = x then some v else (match y == z with | true => some u | false => look r y)
      subst hx
      by_cases h : y = x
      · rw [if_pos h, beq_iff_eq.mpr h]
      · rw [if_neg h, beq_eq_false_iff_ne.mpr h]
    · have e : putM ((z, u) :: r) x v = (z, u) :: putM r x v := by
        show (match x == z with | true => (z, v) :: r | false => (z, u) :: putM r x v) = _
        rw [beq_eq_false_iff_ne.mpr hx]
      rw [e]
      show (match y == z with | true => some u | false => look (putM r x v) y) = if y = x then some v else (match y == z with | true => some u | false => look r y)
      by_cases hz : y = z
      · rw [beq_iff_eq.mpr hz, if_neg fun q => hx (q.symm.trans hz)]
      · rw [beq_eq_false_iff_ne.mpr hz]
        exact ih
structure FenvOk (fx : Fx) (nm : List (Str × NameKind)) : Prop where
  e : EnvOk fx.fenv nm
  loc : ∀ x, look nm x = some .local → fx.fenv.kindOf x = some .local
  cell : ∀ x, look nm x = some .cell → fx.fenv.kindOf x = some .cell
  hl : fx.fenv.locals = fx.L
  inter : interactive fx.fenv = false
section
variable {fx : Fx} {W : Wd} {s : St} {h : Heap} {N : Ld} {ow : Nat → Nat} {ms : Str → Option Value} {t : Tok} {nm : List (Str × NameKind)} {Q : Unit → Shared → Prop} {E : Value → Shared → Prop}
theorem storeLoc (Y : FenvOk fx nm) (r : Rl fx fx.fenv W s h N ow ms) {x : Str} (hx : look nm x = some .local) {v : V} {u : Value} (hv : VAt fx W v u) (hQ : ∀ s₂, Rs fx fx.fenv W ⟨putM s.m x v, s.N⟩ s₂ → Q () s₂) :
    wpAny (model PR fx.w) fx.A (storeName fx.fenv x u) Q E (fx.s h t) := by
  have hk := Y.loc x hx
  have F := r.F
  rw [← Y.hl] at F
  refine wpAny_storeName_local hk F.ns (fun h' hn hs => hQ _ ?_) (by rw [Y.e.hk]; rfl)
  rw [Y.hl] at hn hs
  refine ⟨h', t + 1, N, ow, _, rfl, r.kbg, r.F.set hn hs, r.Ns.set hs, r.sub, r.len, r.obj, fun y w hy => ?_, r.cl.1, fun q => absurd Y.hl q⟩
  rw [look_putM] at hy
  split at hy
  · rename_i e
    subst e
    cases hy
    exact ⟨Y.e.notDbg hx, u, hv, .loc hk Y.hl (if_pos rfl)⟩
  · rename_i hne
    obtain ⟨hd, q, hq, hr⟩ := r.nm y w hy
    refine ⟨hd, q, hq, ?_⟩
    cases hr with
    | loc a b c => exact .loc a b (by rw [if_neg hne]; exact c)
    | comp C oC m₂ a b c d e => exact .comp C oC m₂ a b c d e
    | cell c o a b m e d => exact .cell c o a b m e d
theorem storeCell (Y : FenvOk fx nm) (r : Rl fx fx.fenv W s h N ow ms) {x : Str} (hx : look nm x = some .cell) (hinj : ∀ y z c, fx.fenv.cells.lookup y = some c → fx.fenv.cells.lookup z = some c → y = z) {v : V} {u : Value} (hv : VAt fx W v u) (hQ : ∀ s₂, Rs fx fx.fenv W ⟨putM s.m x v, s.N⟩ s₂ → Q () s₂) :
    wpAny (model PR fx.w) fx.A (storeName fx.fenv x u) Q E (fx.s h t) := by
  have hk := Y.cell x hx
  obtain ⟨c, o, v0, hc, m, e1, d⟩ := r.cl.1.1 x hk
  have z := r.Ns _ m
  refine wpAny_storeName_cell Y.e.hk hk hc ⟨o, z.1, d⟩ fun h' hv' hs => hQ _ ?_
  obtain ⟨o', ho', hd'⟩ := hv'
  have F' : Fr fx.g fx.L h' ms := r.F.change hs z.2.1 z.2.2
  have N' : News fx.g fx.L h' (rep N c o') := fun p hp => by
    rcases List.mem_cons.mp hp with rfl | hp
    · exact ⟨ho', z.2⟩
    · obtain ⟨hp, hne⟩ := List.mem_filter.mp hp
      exact ⟨(hs.2 _ (by simpa using hne)).trans (r.Ns p hp).1, (r.Ns p hp).2⟩
  refine ⟨h', t, rep N c o', ow, ms, rfl, r.kbg, F', N', fun p hp => ⟨rep_mem (fun q => by have := (r.sub p hp).2; rw [q, e1] at this; cases this) (r.sub p hp).1, (r.sub p hp).2⟩, r.len, fun i ob a h1 h2 => (r.obj i ob a h1 h2).keep (Ext.refl W) (fun b e _ => e) (fun b ob e m => rep_mem (fun q => by rw [q, e1] at e; omega) m), fun y w hy => ?_, ⟨fun y hy => ?_, fun p hp => ?_⟩, r.cl.2⟩
  · rw [look_putM] at hy
    split at hy
    · rename_i e
      subst e
      cases hy
      exact ⟨Y.e.notDbg hx, u, hv, .cell c o' (.inl hk) hc (.head _) e1 hd'⟩
    · rename_i hne
      obtain ⟨hd, q, hq, hr⟩ := r.nm y w hy
      refine ⟨hd, q, hq, ?_⟩
      cases hr with
      | loc a b c => exact .loc a b c
      | comp C oC m₂ a b c d e => exact .comp C oC m₂ a b c d e
      | cell c2 o2 a b m2 e2 d2 => exact .cell c2 o2 a b (rep_mem (fun q => hne (hinj _ _ _ (q ▸ b) hc)) m2) e2 d2
  · obtain ⟨c2, o2, v2, h1, h2, h3, h4⟩ := r.cl.1.1 y hy
    by_cases q : c2 = c
    · subst q
      exact ⟨c2, o', _, h1, .head _, h3, hd'⟩
    · exact ⟨c2, o2, v2, h1, rep_mem q h2, h3, h4⟩
  · obtain ⟨m2, e2, d2⟩ := r.cl.1.2 p hp
    refine ⟨rep_mem (fun q => ?_) m2, e2, d2⟩
    have := (r.Ns _ m2).1
    rw [q, z.1] at this
    cases this
    exact d2 Y.hl _ d
theorem ds_vs {fx : Fx} {W : Wd} : ∀ {l : List D} {us : List Value}, DsAt (Kn fx W) l us → VsAt fx W (l.map .d) us
  | [], _, h => h
  | _ :: _, _, ⟨u, us, e, h1, h2⟩ => ⟨u, us, e, h1, ds_vs h2⟩
/-- cells are told apart -/
noncomputable def CInj (fx : Fx) : Prop := ∀ y z c, fx.fenv.cells.lookup y = some c → fx.fenv.cells.lookup z = some c → y = z
/-- what is wanted of an assignment: no thing is moved -/
noncomputable def OutA (fx : Fx) (W : Wd) (K : St → Prop) (Q : Unit → Shared → Prop) : Prop := ∀ s s₂, K s → Rs fx fx.fenv W s s₂ → Q () s₂
theorem each_len (env : Env) : ∀ es : List PySem.Expr, (assignEach es env).length = es.length
  | [] => rfl
  | e :: r => by
    have := each_len env r
    cases e <;> (show _ + 1 = _ + 1; rw [this])
theorem each_cons {env : Env} {e : PySem.Expr} {r : List PySem.Expr} (h : okTgt e = true) : assignEach (e :: r) env = (false, assign e env) :: assignEach r env := by cases e <;> first | rfl | cases h
theorem each_star {env : Env} : ∀ {es : List PySem.Expr}, es.all okTgt = true → (assignEach es env).findIdx? (·.1) = none
  | [], _ => rfl
  | e :: r, h => by
    rw [List.all_cons, Bool.and_eq_true] at h
    rw [each_cons h.1, List.findIdx?_cons]
    simp [each_star h.2]
theorem Rl.bump (r : Rl fx fx.fenv W s h N ow ms) {h' : Heap} (he : Heap.ExtBut h.objs.size h h') : Rl fx fx.fenv W s h' N ow ms :=
  r.grow (r.F.extBut he (Nat.le_refl _)) (r.Ns.extBut he (Nat.le_refl _)) (fun _ h => h) (fun _ _ => rfl)
theorem asgK_tgt {n : Nat} {e : PySem.Expr} {v : V} {K : St → Prop} (h : asgK nm n e v s K) : okTgt e = true := by
  cases n with
  | zero => exact h.elim
  | succ n => cases e <;> first | rfl | exact h.elim
theorem asgK_ok (Y : FenvOk fx nm) (C : CInj fx) : ∀ (n : Nat) {e : PySem.Expr} {v : V} {u : Value} {s : St} {h : Heap} {t : Tok} {N : Ld} {ow : Nat → Nat} {ms : Str → Option Value} {K : St → Prop} {Q : Unit → Shared → Prop}, asgK nm n e v s K → Rl fx fx.fenv W s h N ow ms → VAt fx W v u → OutA fx W K Q →
    wpAny (model PR fx.w) fx.A (assign e fx.fenv u) Q E (fx.s h t)
  | 0, _, _, _, _, _, _, _, _, _, _, _, hK, _, _, _ => hK.elim
  | n + 1, e, v, u, s, h, t, N, ow, ms, K, Q, hK, r, hv, hQ => by
    cases e
    case Name x p =>
      replace hK : (match (generalizing := false) look nm x with | some .local => K ⟨putM s.m x v, s.N⟩ | some .cell => K ⟨putM s.m x v, s.N⟩ | _ => False) := hK
      split at hK
      · rename_i hx
        exact assign_Name (storeLoc Y r hx hv fun s₂ hr => hQ _ _ hK hr)
      · rename_i hx
        exact assign_Name (storeCell Y r hx C hv fun s₂ hr => hQ _ _ hK hr)
      · exact hK.elim
    case Tuple es k p =>
      replace hK : (match (generalizing := false) v with
        | .d (.tup l) => ok (Nat.beq es.length l.length && es.all okTgt) (asgK.asgs (asgK nm n) es (l.map .d) s K)
        | .tup l => ok (Nat.beq es.length l.length && es.all okTgt) (asgK.asgs (asgK nm n) es l s K)
        | _ => False) := hK
      have go : ∀ (es : List PySem.Expr) (vs : List V) (us : List Value) (s : St) (h : Heap) (t : Tok) (N : Ld) (ow : Nat → Nat) (ms : Str → Option Value) (Q : Unit → Shared → Prop), asgK.asgs (asgK nm n) es vs s K → Rl fx fx.fenv W s h N ow ms → VsAt fx W vs us → OutA fx W K Q →
          es.all okTgt = true → wpAny (model PR fx.w) fx.A (assignInOrder ((assignEach es fx.fenv).map (·.2)) us) Q E (fx.s h t) := by
        intro es
        induction es with
        | nil =>
          intro vs us s h t N ow ms Q hK r hv hQ _
          cases vs with
          | nil => exact assignInOrder_nil (hQ _ _ hK ⟨_, _, _, _, _, rfl, r⟩)
          | cons => exact hK.elim
        | cons e es ih =>
          intro vs us s h t N ow ms Q hK r hv hQ ho
          cases vs with
          | nil => exact hK.elim
          | cons v vs =>
            obtain ⟨u, us, rfl, h1, h2⟩ := hv
            rw [List.all_cons, Bool.and_eq_true] at ho
            rw [each_cons ho.1, List.map_cons]
            refine assignInOrder_cons (asgK_ok Y C n (K := fun s => asgK.asgs (asgK nm n) es vs s K) hK r h1 fun s1 s₂ hk hr => ?_)
            obtain ⟨h1, t1, N1, ow1, ms1, rfl, r1⟩ := hr
            exact ih vs us s1 h1 t1 N1 ow1 ms1 Q hk r1 h2 hQ ho.2
      split at hK
      · rename_i l
        obtain ⟨hb, hk⟩ := ok_out hK
        rw [Bool.and_eq_true] at hb
        obtain ⟨q, o, us, k2, rfl, g1, g2, g3, g4⟩ := hv
        have hl : es.length = l.length := Nat.eq_of_beq_eq_true hb.1
        refine wpAny_assign_Tuple rfl (r.tup g1 g2 g3) ?_ (each_star hb.2) fun h' he => ?_
        · rw [each_len, hl, List.size_toArray, g4.len]
        · exact go es (l.map .d) us s h' t N ow ms Q hk (r.bump he) (ds_vs g4) hQ hb.2
      · rename_i l
        obtain ⟨hb, hk⟩ := ok_out hK
        rw [Bool.and_eq_true] at hb
        obtain ⟨q, o, us, k2, rfl, g1, g2, g3, g4⟩ := hv
        have hl : es.length = l.length := Nat.eq_of_beq_eq_true hb.1
        refine wpAny_assign_Tuple rfl (r.tup g1 g2 g3) ?_ (each_star hb.2) fun h' he => ?_
        · rw [each_len, hl, List.size_toArray, VsAt.len g4]
        · exact go es l us s h' t N ow ms Q hk (r.bump he) g4 hQ hb.2
      · exact hK.elim
    all_goals exact hK.elim
end

noncomputable def FlAt (fx : Fx) (W : Wd) : Fl → Flow → Prop
  | .next, f => f = .next
  | .ret v, f => ∃ u, f = .ret u ∧ VAt fx W v u
  | .brk, f => f = .brk
  | .cont, f => f = .cont
structure ExtP (p : Nat) (W W' : Wd) : Prop where
  len : p ≤ W'.σ.length
  σ : ∀ i, i < p → nth W'.σ i = nth W.σ i
  I : ∀ q ∈ W.I, q ∈ W'.I
  H : W'.H = W.H
theorem Ext.p {W W' : Wd} (x : Ext W W') {p : Nat} (h : p ≤ W.σ.length) : ExtP p W W' := by
  obtain ⟨⟨t, e⟩, i, g⟩ := x
  refine ⟨by rw [e, List.length_append]; omega, fun j hj => ?_, i, g⟩
  rw [e, nth_appL (by omega)]
theorem ExtP.trans {p : Nat} {W W' W'' : Wd} (a : ExtP p W W') (b : ExtP p W' W'') : ExtP p W W'' := ⟨b.len, fun i hi => (b.σ i hi).trans (a.σ i hi), fun q h => b.I q (a.I q h), b.H.trans a.H⟩
theorem ExtP.refl {p : Nat} {W : Wd} (h : p ≤ W.σ.length) : ExtP p W W := ⟨h, fun _ _ => rfl, fun _ h => h, rfl⟩
noncomputable def OutF (fx : Fx) (p : Nat) (W : Wd) (K : Fl → St → Prop) (Q : Flow → Shared → Prop) : Prop := ∀ fl f W' s s₂, K fl s → ExtP p W W' → FlAt fx W' fl f → Rs fx fx.fenv W' s s₂ → Q f s₂
theorem OutF.ext {fx : Fx} {p : Nat} {W W' : Wd} {K : Fl → St → Prop} {Q : Flow → Shared → Prop} (x : ExtP p W W') (h : OutF fx p W K Q) : OutF fx p W' K Q := fun fl f W2 s s₂ hk y hf hr => h fl f W2 s s₂ hk (x.trans y) hf hr
noncomputable def ExOk (fx : Fx) (p : Nat) (R : List Stmt → St → (Fl → St → Prop) → Prop) : Prop := ∀ b s K, R b s K → ∀ W h t N ow ms, Rl fx fx.fenv W s h N ow ms → p ≤ W.σ.length → ∀ Q E, OutF fx p W K Q → wpAny (model PR fx.w) fx.A (execs b fx.fenv) Q E (fx.s h t)
theorem swaps_of {e : PySem.Expr} {o l} {env : Env} (hc : notComp e = true) : swapsWith e o l env = pure false := by
  cases e <;> first | rfl | cases hc
theorem stores_tup {e : PySem.Expr} {elts k tp} {env : Env} (hc : notTup e = true) : swappedStores [.Tuple elts k tp] e env = pure none := by
  cases e <;> first | rfl | cases hc
theorem stores_not {ts vs : List PySem.Expr} {k tp k2 tp2} {env : Env} (h : notSw ts vs = true) : swappedStores [.Tuple ts k tp] (.Tuple vs k2 tp2) env = pure none := by
  unfold swappedStores
  simp only [notSw, Bool.or_eq_true] at h
  have h2 : (!(ts.length == 2 || ts.length == 3) || vs.length != ts.length || env.blockKind != .function) = true := by
    simp only [Bool.or_eq_true]
    exact .inl h
  show (if _ then _ else _) = _
  rw [if_pos h2]
theorem names_of {nm : List (Str × NameKind)} {line : Nat} {f : PySem.Expr → Option Str} (hf : ∀ e x, swName nm line e = some x → f e = some x) : ∀ {ts : List PySem.Expr}, (ts.filterMap (swName nm line)).length = ts.length → ts.filterMap f = ts.filterMap (swName nm line)
  | [], _ => rfl
  | e :: ts, h => by
    rw [List.filterMap_cons] at h
    split at h
    · have := List.length_filterMap_le (swName nm line) ts
      rw [List.length_cons] at h
      omega
    · rename_i x hx
      rw [List.filterMap_cons, List.filterMap_cons, hx, hf _ _ hx, names_of hf (ts := ts) (by simpa using h)]
theorem swName_loc {nm : List (Str × NameKind)} {line : Nat} {e : PySem.Expr} {x : Str} (h : swName nm line e = some x) : look nm x = some .local ∧ ∃ pos, e = .Name x pos ∧ (pos.line == line) = true := by
  unfold swName at h
  split at h
  · split at h
    · rename_i hl
      split at h
      · rename_i hline
        cases h
        exact ⟨hl, _, rfl, hline⟩
      · cases h
    · cases h
  · cases h
theorem stores_sw {nm : List (Str × NameKind)} {env : Env} (hl : ∀ x, look nm x = some .local → env.kindOf x = some .local) (hk : env.scope.kind = .function) {ts vs : List PySem.Expr} {k tp k2 tp2} {names : List Str} (h : swapC nm ts vs = some names) :
    swappedStores [.Tuple ts k tp] (.Tuple vs k2 tp2) env = pure (some names) := by
  unfold swapC at h
  split at h
  · rename_i hc
    cases h
    simp only [Bool.and_eq_true, Bool.not_eq_true'] at hc
    obtain ⟨⟨⟨⟨⟨⟨c1, c2⟩, c3⟩, c4⟩, c5⟩, c6⟩, c7⟩ := hc
    have e1 : (!(ts.length == 2 || ts.length == 3) || vs.length != ts.length || env.blockKind != .function) = false := by
      have : env.blockKind = .function := by unfold Env.blockKind; rw [hk]; rfl
      rw [this, c1]
      simp only [Bool.not_true, Bool.false_or, Bool.or_eq_false_iff]
      refine ⟨?_, rfl⟩
      rw [bne_eq_false_iff_eq]
      simpa using c2
    have e3 : ((swNames nm ts).length != ts.length || (swNames nm ts).eraseDups.length != (swNames nm ts).length) = false := by
      rw [Bool.or_eq_false_iff, bne_eq_false_iff_eq, bne_eq_false_iff_eq]
      exact ⟨by simpa using c4, by simpa using c5⟩
    unfold swappedStores
    refine (if_neg (by rw [e1]; decide)).trans ?_
    refine (if_neg ?_).trans ?_
    · intro hh
      obtain ⟨e, he, h2⟩ := List.any_eq_true.mp hh
      have := List.all_eq_true.mp c3 e he
      cases e <;> first | (cases h2; done) | (cases this; done)
    dsimp only
    have c4' : (ts.filterMap (swName nm ((ts.head?.map (·.pos.line)).getD 0))).length = ts.length := by simpa [swNames] using c4
    rw [names_of (nm := nm) (line := (ts.head?.map (·.pos.line)).getD 0) (fun e x hx => by
      obtain ⟨q, pos, rfl, hline⟩ := swName_loc hx
      dsimp only
      rw [hl _ q, hline]
      rfl) c4']
    show (if ((swNames nm ts).length != ts.length || (swNames nm ts).eraseDups.length != (swNames nm ts).length) = true then _ else _) = _
    rw [if_neg (by rw [e3]; decide)]
    refine (if_neg (by rw [c6]; decide)).trans ?_
    refine (if_neg (by rw [c7]; decide)).trans ?_
    rfl
  · cases h
section
variable {fx : Fx} {W : Wd} {s : St} {h : Heap} {N : Ld} {ow : Nat → Nat} {ms : Str → Option Value} {t : Tok} {nm : List (Str × NameKind)} {E : Value → Shared → Prop}
theorem asgR_ok (Y : FenvOk fx nm) {K : St → Prop} {Q : Unit → Shared → Prop} : ∀ {xs : List Str} {vs : List V} {us : List Value} {s : St} {h : Heap} {t : Tok} {N : Ld} {ow : Nat → Nat} {ms : Str → Option Value}, asgR nm xs vs s K → Rl fx fx.fenv W s h N ow ms → VsAt fx W vs us → OutA fx W K Q →
    wpAny (model PR fx.w) fx.A (assignInOrder (xs.map fun n => bindName fx.fenv n) us) Q E (fx.s h t)
  | [], [], _, _, _, _, _, _, _, hK, r, hv, hQ => assignInOrder_nil (hQ _ _ hK ⟨_, _, _, _, _, rfl, r⟩)
  | [], _ :: _, _, _, _, _, _, _, _, hK, _, _, _ => hK.elim
  | _ :: _, [], _, _, _, _, _, _, _, hK, _, _, _ => hK.elim
  | x :: xs, v :: vs, us, s, h, t, N, ow, ms, hK, r, hv, hQ => by
    obtain ⟨u, us, rfl, h1, h2⟩ := hv
    unfold asgR at hK
    split at hK
    · rename_i hx
      rw [List.map_cons]
      refine assignInOrder_cons (bindName_ (storeLoc Y r hx h1 fun s₂ hr => ?_))
      obtain ⟨h3, t1, N1, ow1, ms1, rfl, r1⟩ := hr
      exact asgR_ok Y hK r1 h2 hQ
    · exact hK.elim
theorem vs_snoc {v : V} {u : Value} (hd : VAt fx W v u) : ∀ {ds : List V} {vs : List Value}, VsAt fx W ds vs → VsAt fx W (ds ++ [v]) (vs ++ [u])
  | [], _, e => by rw [show _ = _ from e]; exact ⟨u, [], rfl, hd, rfl⟩
  | _ :: _, _, ⟨x, r, e, h1, h2⟩ => by rw [e]; exact ⟨x, r ++ [u], rfl, h1, vs_snoc hd h2⟩
theorem vs_rev : ∀ {vs : List V} {us : List Value}, VsAt fx W vs us → VsAt fx W vs.reverse us.reverse
  | [], _, h => by rw [show _ = [] from h]; rfl
  | v :: vs, _, ⟨u, us, e, h1, h2⟩ => by
    rw [e, List.reverse_cons, List.reverse_cons]
    exact vs_snoc h1 (vs_rev h2)
/-- loops are taken apart: see S16 -/
structure LoopOk (fx : Fx) (p : Nat) (nm : List (Str × NameKind)) (R : Rec) (n : Nat) : Prop where
  for_ : ∀ tg it body pos s K, tgtOk tg (itKind true it) = true → (iterK true (R.ev nm) it s fun l s => loopI p s.m.length s.N.length (fun d s K => asgK nm 5 tg (.d d) s K) (R.exs body) l s K) → ∀ W h t N ow ms, Rl fx fx.fenv W s h N ow ms → p ≤ W.σ.length → ∀ Q E, OutF fx p W K Q → wpAny (model PR fx.w) fx.A (exec (.For tg it body [] pos) fx.fenv) Q E (fx.s h t)
  while_ : ∀ q body pos s K, whileI p s.m.length s.N.length (R.tr nm q) (R.exs body) n s K → ∀ W h t N ow ms, Rl fx fx.fenv W s h N ow ms → p ≤ W.σ.length → ∀ Q E, OutF fx p W K Q → wpAny (model PR fx.w) fx.A (exec (.While q body [] pos) fx.fenv) Q E (fx.s h t)
  comp : ∀ x xp elt gens scope cp pos s K, swapB x xp scope cp = true → look nm x = some .local → compS R nm nm elt scope s (fun v s => K .next ⟨putM s.m x v, s.N⟩) gens → ∀ W h t N ow ms, Rl fx fx.fenv W s h N ow ms → p ≤ W.σ.length → ∀ Q E, OutF fx p W K Q → wpAny (model PR fx.w) fx.A (exec (.Assign [.Name x xp] (.ListComp elt gens scope cp) pos) fx.fenv) Q E (fx.s h t)
theorem ex1_ok (X : FxOk fx) (Y : FenvOk fx nm) (C : CInj fx) {p n : Nat} {R : Rec} (I : RecOk fx R) (J : ExOk fx p R.exs) (B : LoopOk fx p nm R n) {x : Stmt} {K : Fl → St → Prop} {Q : Flow → Shared → Prop} (hK : ex1 p nm R n x s K) (r : Rl fx fx.fenv W s h N ow ms) (hp : p ≤ W.σ.length) (hQ : OutF fx p W K Q) :
    wpAny (model PR fx.w) fx.A (exec x fx.fenv) Q E (fx.s h t) := by
  have Ie := I.ev fx.fenv nm Y.e
  have It := I.tr fx.fenv nm Y.e
  have nextA : ∀ {W1 : Wd}, ExtP p W W1 → OutA fx W1 (fun s => K .next s) (fun _ => Q .next) := fun {W1} x1 s1 s₂ hk hr => hQ _ _ _ _ _ hk x1 rfl hr
  cases x
  case If q a b pos =>
    refine wpAny_If (It q s _ hK _ _ _ _ _ _ r _ E fun c W1 s1 s₂ hk x1 hr => ?_)
    obtain ⟨h1, t1, N1, ow1, ms1, rfl, r1⟩ := hr
    obtain ⟨b1, b2⟩ := br_out hk
    have x2 := x1.p hp
    cases c with
    | true => exact J a s1 K (b1 rfl) _ _ _ _ _ _ r1 x2.len _ E (hQ.ext x2)
    | false => exact J b s1 K (b2 rfl) _ _ _ _ _ _ r1 x2.len _ E (hQ.ext x2)
  case Return o pos =>
    cases o with
    | some e => exact wpAny_Return_some (Ie _ s _ hK _ _ _ _ _ _ r _ E fun v u W1 s1 s₂ hk x1 hv hr => hQ _ _ _ _ _ hk (x1.p hp) ⟨u, rfl, hv⟩ hr)
    | none => exact wpAny_Return_none (hQ _ _ W s _ hK (ExtP.refl hp) ⟨_, rfl, rfl⟩ ⟨_, _, _, _, _, rfl, r⟩)
  case Expr e pos =>
    obtain ⟨hc, hK⟩ := ok_out hK
    exact wpAny_Expr_any (Ie _ s _ hK _ _ _ _ _ _ r _ E fun v u W1 s1 s₂ hk x1 hv hr => hQ _ _ _ _ _ hk (x1.p hp) rfl hr) Y.inter (swaps_of hc)
  case Pass => exact wpAny_Pass (hQ _ _ W s _ hK (ExtP.refl hp) rfl ⟨_, _, _, _, _, rfl, r⟩)
  case Continue => exact wpAny_Continue (hQ _ _ W s _ hK (ExtP.refl hp) rfl ⟨_, _, _, _, _, rfl, r⟩)
  case Break => exact wpAny_Break (hQ _ _ W s _ hK (ExtP.refl hp) rfl ⟨_, _, _, _, _, rfl, r⟩)
  case Assign ts e pos =>
    match ts, hK with
    | [], hK => exact hK.elim
    | _ :: _ :: _, hK => exact hK.elim
    | [q], hK =>
    delta ex1 at hK
    dsimp only at hK
    split at hK
    · rename_i x xp
      split at hK
      · rename_i elt gens scope cp
        obtain ⟨hsw, hK⟩ := ok_out hK
        split at hK
        · rename_i hx
          exact B.comp x xp _ _ _ _ pos s K hsw hx hK _ _ _ _ _ _ r hp _ _ hQ
        · exact hK.elim
      · obtain ⟨hc, hK⟩ := ok_out hK
        refine wpAny_Assign_Name (Ie e s _ hK _ _ _ _ _ _ r _ E fun v u W1 s1 s₂ hk x1 hv hr => ?_) (swaps_of hc)
        obtain ⟨h1, t1, N1, ow1, ms1, rfl, r1⟩ := hr
        have hk2 : (match look nm x with | some .local => K .next ⟨putM s1.m x v, s1.N⟩ | some .cell => K .next ⟨putM s1.m x v, s1.N⟩ | _ => False) := hk
        split at hk2
        · rename_i hx
          exact storeLoc Y r1 hx hv fun s₂ hr => nextA (x1.p hp) _ _ hk2 hr
        · rename_i hx
          exact storeCell Y r1 hx C hv fun s₂ hr => nextA (x1.p hp) _ _ hk2 hr
        · exact hk2.elim
    · rename_i es k tp
      split at hK
      · rename_i fs k2 tp2 _
        split at hK
        · rename_i names hsw
          have hst := stores_sw (env := fx.fenv) Y.loc Y.e.hk (k := k) (tp := tp) (k2 := k2) (tp2 := tp2) hsw
          refine Assign_Tuple_swapped (Ie _ s _ hK _ _ _ _ _ _ r _ E fun v u W1 s1 s₂ hk x1 hv hr => ?_) rfl hst
          obtain ⟨h1, t1, N1, ow1, ms1, rfl, r1⟩ := hr
          dsimp only at hk
          split at hk
          · rename_i vs
            obtain ⟨hl, hk⟩ := ok_out hk
            have hl := Nat.eq_of_beq_eq_true hl
            obtain ⟨q, o, us, k3, rfl, g1, g2, g3, g4⟩ := hv
            have hlen : names.length = us.toArray.size := by rw [hl, List.size_toArray, VsAt.len g4]
            rw [hlen]
            refine wpAny_unpackItems_tuple rfl (r1.tup g1 g2 g3) fun h' he => ?_
            exact asgR_ok Y hk (r1.bump he) (vs_rev g4) (nextA (x1.p hp))
          · exact hk.elim
        · rename_i hsw
          obtain ⟨hn, hK⟩ := ok_out hK
          refine Assign_Tuple (Ie _ s _ hK _ _ _ _ _ _ r _ E fun v u W1 s1 s₂ hk x1 hv hr => ?_) rfl (stores_not hn)
          obtain ⟨h1, t1, N1, ow1, ms1, rfl, r1⟩ := hr
          exact asgK_ok Y C 5 hk r1 hv (nextA (x1.p hp))
      · rename_i hnt
        obtain ⟨hc, hK⟩ := ok_out hK
        have hnt' : notTup e = true := by cases e <;> first | rfl | exact absurd rfl (hnt _ _ _)
        refine Assign_Tuple (Ie _ s _ hK _ _ _ _ _ _ r _ E fun v u W1 s1 s₂ hk x1 hv hr => ?_) (by unfold swapsWithSole; exact swaps_of hc) (stores_tup hnt')
        obtain ⟨h1, t1, N1, ow1, ms1, rfl, r1⟩ := hr
        exact asgK_ok Y C 5 hk r1 hv (nextA (x1.p hp))
    · rename_i o i sp
      obtain ⟨hc, hK⟩ := ok_out hK
      refine wpAny_Assign_Subscript (Ie e s _ hK _ _ _ _ _ _ r _ E fun v u W1 s1 s₂ hk x1 hv hr => ?_) (swaps_of hc)
      obtain ⟨h1, t1, N1, ow1, ms1, rfl, r1⟩ := hr
      refine Ie o s1 _ hk _ _ _ _ _ _ r1 _ E fun ov ou W2 s2 s₃ hk2 x2 hv2 hr2 => ?_
      obtain ⟨h2, t2, N2, ow2, ms2, rfl, r2⟩ := hr2
      refine Ie i s2 _ hk2 _ _ _ _ _ _ r2 _ E fun iv iu W3 s3 s₄ hk3 x3 hv3 hr3 => ?_
      obtain ⟨h3, t3, N3, ow3, ms3, rfl, r3⟩ := hr3
      exact setItem_ok r3 hk3 (hv2.ext x3) hv3 ((hv.ext x2).ext x3) fun W4 s4 s₅ hk4 x4 hr4 => hQ _ _ _ _ _ hk4 ((((x1.trans x2).trans x3).trans x4).p hp) rfl hr4
    · rename_i o x sp
      obtain ⟨hc, hK⟩ := ok_out hK
      refine plainObj_wpAny_Assign_Attribute (Ie e s _ hK _ _ _ _ _ _ r _ E fun v u W1 s1 s₂ hk x1 hv hr => ?_) (swaps_of hc)
      obtain ⟨h1, t1, N1, ow1, ms1, rfl, r1⟩ := hr
      refine Ie o s1 _ hk _ _ _ _ _ _ r1 _ E fun ov ou W2 s2 s₃ hk2 x2 hv2 hr2 => ?_
      obtain ⟨h2, t2, N2, ow2, ms2, rfl, r2⟩ := hr2
      exact setAttrK_ok X r2 hk2 hv2 (hv.ext x2) fun W4 s4 s₅ hk4 x4 hr4 => hQ _ _ _ _ _ hk4 (((x1.trans x2).trans x4).p hp) rfl hr4
    · exact hK.elim
  case For tg it body orelse pos =>
    match orelse, hK with
    | _ :: _, hK => exact hK.elim
    | [], hK =>
    obtain ⟨htg, hK⟩ := ok_out hK
    exact B.for_ _ _ _ _ s K htg hK _ _ _ _ _ _ r hp _ _ hQ
  case While q body orelse pos =>
    match orelse, hK with
    | _ :: _, hK => exact hK.elim
    | [], hK => exact B.while_ _ _ _ s K hK _ _ _ _ _ _ r hp _ _ hQ
  all_goals exact hK.elim
theorem exS_ok (X : FxOk fx) (Y : FenvOk fx nm) (C : CInj fx) {p n : Nat} {R : Rec} (I : RecOk fx R) (J : ExOk fx p R.exs) (B : LoopOk fx p nm R n) : ExOk fx p (exS p nm R n) := by
  intro b
  induction b with
  | nil => intro s K hK W h t N ow ms r hp Q E hQ; exact wpAny_execs_nil (hQ _ _ W s _ hK (ExtP.refl hp) rfl ⟨_, _, _, _, _, rfl, r⟩)
  | cons x rest ih =>
    intro s K hK W h t N ow ms r hp Q E hQ
    have hK := forceS_ok (forceS_ok hK)
    refine wpAny_execs_cons (ex1_ok X Y C I J B hK r hp fun fl f W1 s1 s₂ hk x1 hf hr => ?_)
    cases fl with
    | next =>
      obtain rfl := hf
      obtain ⟨h1, t1, N1, ow1, ms1, rfl, r1⟩ := hr
      exact ih s1 K hk _ _ _ _ _ _ r1 x1.len _ E (hQ.ext x1)
    | ret v =>
      obtain ⟨u, rfl, hv⟩ := hf
      exact hQ _ _ _ _ _ hk x1 ⟨u, rfl, hv⟩ hr
    | brk => obtain rfl := hf; exact hQ _ _ _ _ _ hk x1 rfl hr
    | cont => obtain rfl := hf; exact hQ _ _ _ _ _ hk x1 rfl hr
end

theorem VAt.hid {fx : Fx} {σ : List Nat} {I : Ld} {H H' : Hid} {v : V} {u : Value} (h : VAt fx ⟨σ, I, H⟩ v u) : VAt fx ⟨σ, I, H'⟩ v u := VAt.mv (W := ⟨σ, I, H⟩) (W' := ⟨σ, I, H'⟩) rfl rfl rfl (fun _ _ h => h) (fun _ _ h => h) h
theorem OAt.hid {fx : Fx} {σ : List Nat} {I : Ld} {H H' : Hid} {N N' : Ld} {ow ow' : Nat → Nat} {i a : Nat} (h1 : ∀ b, ow b = i + 2 → (∃ o, ((b, o) : Addr × Obj) ∈ N) → ow' b = i + 2) (h2 : ∀ b o, ow b = i + 2 → ((b, o) : Addr × Obj) ∈ N → ((b, o) : Addr × Obj) ∈ N') {o : O} (h : OAt fx ⟨σ, I, H⟩ N ow i a o) : OAt fx ⟨σ, I, H'⟩ N' ow' i a o := OAt.mv (W := ⟨σ, I, H⟩) (W' := ⟨σ, I, H'⟩) rfl rfl rfl (fun _ _ h => h) (fun _ _ h => h) h1 h2 h
section
variable {fx : Fx} {env : Env} {W : Wd} {s : St} {h : Heap} {N : Ld} {ow : Nat → Nat} {ms : Str → Option Value}
/-- things that the run itself holds are hidden while a piece runs -/
theorem Rl.hide {σ : List Nat} {I : Ld} {H : Hid} (r : Rl fx env ⟨σ, I, H⟩ s h N ow ms) (own : Ld) (ho : ∀ q ∈ own, h.get? q.1 = some q.2 ∧ q.1 ≠ fx.L ∧ fx.g.get? q.1 = none) (hc : ∀ q ∈ own, ∀ v, q.2.data ≠ .cell v) (hn : ∀ p ∈ N, ∀ q ∈ own, p.1 ≠ q.1) :
    Rl fx env ⟨σ, I, ⟨own ++ H.l, H.pin⟩⟩ s h (own ++ N) (fun b => if (own.any fun q => q.1 == b) = true then 1 else ow b) ms := by
  have hnot : ∀ b o, ((b, o) : Addr × Obj) ∈ N → ¬ (own.any fun q => q.1 == b) = true := fun b o m e => by
    obtain ⟨q, hq, e⟩ := List.any_eq_true.mp e
    exact hn _ m q hq (eq_of_beq e).symm
  have hown : ∀ q ∈ own, (own.any fun p => p.1 == q.1) = true := fun q hq => List.any_eq_true.mpr ⟨q, hq, beq_self_eq_true _⟩
  refine ⟨r.kbg, r.F, fun p hp => (List.mem_append.mp hp).elim (fun hp => ho p hp) (r.Ns p), fun p hp => ?_, r.len, fun i o a h1 h2 => (r.obj i o a h1 h2).hid (fun b e ⟨o, m⟩ => (if_neg (hnot b o m)).trans e) (fun b o _ m => List.mem_append_right _ m), fun x v hx => ?_, ⟨?_, ?_⟩, r.cl.2⟩
  · have := r.sub p hp
    exact ⟨List.mem_append_right _ this.1, (if_neg (hnot p.1 p.2 this.1)).trans this.2⟩
  · obtain ⟨hd, u, hu, hr⟩ := r.nm x v hx
    exact ⟨hd, u, hu.hid, hr.keep (fun _ h => List.mem_append_right _ h) (fun b e ⟨o, m⟩ => (if_neg (hnot b o m)).trans e) (fun b o _ m => List.mem_append_right _ m)⟩
  · intro x hx
    obtain ⟨c, o, v, a, m, e, d⟩ := r.cl.1.1 x hx
    exact ⟨c, o, v, a, List.mem_append_right _ m, (if_neg (hnot c o m)).trans e, d⟩
  · intro p hp
    rcases List.mem_append.mp hp with hp | hp
    · exact ⟨List.mem_append_left _ hp, if_pos (hown p hp), fun _ => hc p hp⟩
    · obtain ⟨m, e, d⟩ := r.cl.1.2 p hp
      exact ⟨List.mem_append_right _ m, (if_neg (hnot p.1 p.2 m)).trans e, d⟩
/-- ... and are let go -/
theorem Rl.drop {σ : List Nat} {I own H : Ld} {pin : Str → Option Value} (r : Rl fx env ⟨σ, I, ⟨own ++ H, pin⟩⟩ s h N ow ms) (hH : ∀ p ∈ H, ∀ q ∈ own, p.1 ≠ q.1) (hc : ∀ q ∈ own, env.locals ≠ q.1) (hL : env.locals = fx.L) :
    Rl fx env ⟨σ, I, ⟨H, pin⟩⟩ s h (N.filter fun p => !(own.any fun q => q.1 == p.1)) ow ms := by
  have mem : ∀ b o, ((b, o) : Addr × Obj) ∈ N → (∀ q ∈ own, b ≠ q.1) → ((b, o) : Addr × Obj) ∈ N.filter fun p => !(own.any fun q => q.1 == p.1) := fun b o m hq => by
    refine List.mem_filter.mpr ⟨m, ?_⟩
    rw [Bool.not_eq_true', Bool.eq_false_iff]
    intro e
    obtain ⟨q, hq', e⟩ := List.any_eq_true.mp e
    exact hq q hq' (eq_of_beq e).symm
  have off : ∀ b, ow b ≠ 1 → ∀ q ∈ own, b ≠ q.1 := fun b hb q hq e => by
    have := (r.cl.1.2 q (List.mem_append_left _ hq)).2.1
    rw [← e] at this
    exact hb this
  have offc : ∀ b o v, ((b, o) : Addr × Obj) ∈ N → o.data = .cell v → ∀ q ∈ own, b ≠ q.1 := fun b o v m d q hq e => by
    obtain ⟨m2, _, d2⟩ := r.cl.1.2 q (List.mem_append_left _ hq)
    have h1 := (r.Ns _ m).1
    have h2 := (r.Ns _ m2).1
    dsimp only at h1
    rw [e, h2] at h1
    cases h1
    exact d2 hL _ d
  refine ⟨r.kbg, r.F, fun p hp => r.Ns p (List.mem_filter.mp hp).1, fun p hp => ?_, r.len, fun i o a h1 h2 => (r.obj i o a h1 h2).hid (fun b e _ => e) (fun b o e m => mem b o m (off b (by rw [e]; omega))), fun x v hx => ?_, ⟨?_, ?_⟩, r.cl.2⟩
  · have := r.sub p hp
    exact ⟨mem _ _ this.1 (off _ (by rw [this.2]; omega)), this.2⟩
  · obtain ⟨hd, u, hu, hr⟩ := r.nm x v hx
    refine ⟨hd, u, hu.hid, ?_⟩
    cases hr with
    | loc a b c => exact .loc a b c
    | comp C oC m₂ a b c d e =>
      refine .comp C oC m₂ a b ?_ d e
      rcases List.mem_append.mp c with c | c
      · exact absurd b (hc _ c)
      · exact c
    | cell c o a b m e d => exact .cell c o a b (mem c o m (offc c o _ m d)) e d
  · intro x hx
    obtain ⟨c, o, v, a, m, e, d⟩ := r.cl.1.1 x hx
    exact ⟨c, o, v, a, mem c o m (offc c o _ m d), e, d⟩
  · intro p hp
    obtain ⟨m, e, d⟩ := r.cl.1.2 p (List.mem_append_right _ hp)
    exact ⟨mem _ _ m (hH p hp), e, d⟩
theorem drop_off {own N : Ld} : ∀ p ∈ N.filter (fun p => !(own.any fun q => q.1 == p.1)), ∀ q ∈ own, p.1 ≠ q.1 := fun p hp q hq e => by
  have := (List.mem_filter.mp hp).2
  rw [Bool.not_eq_true', Bool.eq_false_iff] at this
  exact this (List.any_eq_true.mpr ⟨q, hq, by rw [e]; exact beq_self_eq_true _⟩)
/-- a step of the run's own, off the ledger -/
theorem Rl.step (r : Rl fx env W s h N ow ms) {h' : Heap} {wr : List Addr} (hk : ∀ b o, b ∉ wr → h.get? b = some o → h'.get? b = some o) (hn : ∀ p ∈ N, p.1 ∉ wr) (hL : fx.L ∉ wr) (hg : ∀ b ∈ wr, fx.g.get? b = none) : Rl fx env W s h' N ow ms :=
  r.grow (ow' := ow) ⟨r.F.ns.at' fun o e => hk _ o hL e, fun b o e => hk b o (fun q => by rw [hg b q] at e; cases e) (r.F.keep b o e), r.F.above⟩ (fun p hp => ⟨hk _ _ (hn p hp) (r.Ns p hp).1, (r.Ns p hp).2⟩) (fun _ h => h) (fun _ _ => rfl)
theorem look_take {α : Type} : ∀ {m : List (Str × α)} {k : Nat} {x : Str} {v : α}, look (m.take k) x = some v → look m x = some v
  | [], _, _, _, h => by simp [look] at h
  | _ :: _, 0, _, _, h => by simp [look] at h
  | (y, u) :: r, k + 1, x, v, h => by
    rw [List.take_succ_cons] at h
    unfold look at h ⊢
    split at h
    · exact h
    · exact look_take h
theorem below_app {n : Nat} : ∀ {a b : List Nat}, below n (a ++ b) = true → below n a = true ∧ below n b = true
  | [], _, h => ⟨rfl, h⟩
  | i :: r, b, h => by
    have h' : (match Nat.blt i n with | true => below n (r ++ b) | false => false) = true := h
    show (match Nat.blt i n with | true => below n r | false => false) = true ∧ _
    cases hi : Nat.blt i n with
    | true => rw [hi] at h'; exact below_app h'
    | false => rw [hi] at h'; cases h'
theorem below_one {n i : Nat} (h : below n [i] = true) : i < n := by
  unfold below at h
  split at h
  · rename_i e; exact Nat.le_of_ble_eq_true e
  · cases h
theorem nth_takeI {α : Type} {l : List α} {n i : Nat} {x : α} (h : nth l i = some x) (hi : i < n) : nth (l.take n) i = some x := by
  rw [nth_get] at h ⊢
  rw [List.getElem?_take, if_pos hi]; exact h
mutual
theorem VAt.cut {n : Nat} {σ : List Nat} {I : Ld} {H : Hid} : ∀ {v : V} {u : Value}, below n (refsV v) = true → VAt fx ⟨σ, I, H⟩ v u → VAt fx ⟨σ.take n, I, H⟩ v u
  | .d y1 => by
    intro _ h
    exact h
  | .tup l => by
    intro b z2
    obtain ⟨a, o, us, k, e, hk, hc, hd, hs⟩ := z2
    exact ⟨a, o, us, k, e, hk, hc, hd, VsAt.cut (by simpa [refsV] using b) hs⟩
  | .ref y1 => by
    intro b z2
    obtain ⟨a, h, e⟩ := z2
    exact ⟨a, nth_takeI h (below_one (by simpa [refsV] using b)), e⟩
  | .own y1 => by
    intro _ h
    exact h
  | .blt y1 => by
    intro _ h
    exact h
  | .typ y1 => by
    intro _ h
    exact h
  | .bm y1 y2 => by
    intro b z2
    obtain ⟨q, a, e, h, k, z⟩ := z2
    exact ⟨q, a, e, nth_takeI h (below_one (by simpa [refsV] using b)), k, z⟩
  | .scr => by
    intro _ h
    exact h
  | .cut => by
    intro _ h
    exact h
theorem VsAt.cut {n : Nat} {σ : List Nat} {I : Ld} {H : Hid} : ∀ {v : List V} {u : List Value}, below n (refsVs v) = true → VsAt fx ⟨σ, I, H⟩ v u → VsAt fx ⟨σ.take n, I, H⟩ v u
  | [] => by
    intro _ h
    exact h
  | y1 :: y2 => by
    intro b z2
    obtain ⟨v, r, e, h1, h2⟩ := z2
    unfold refsVs at b
    exact ⟨v, r, e, VAt.cut (below_app b).1 h1, VsAt.cut (below_app b).2 h2⟩
end
theorem EsAt.cut {n : Nat} {σ : List Nat} {I : Ld} {H : Hid} : ∀ {fs : List (Str × V)} {es : List DictEntry}, below n (refsM fs) = true → EsAt fx ⟨σ, I, H⟩ fs es → EsAt fx ⟨σ.take n, I, H⟩ fs es
  | [], _, _, h => h
  | (_, _) :: _, _, b, ⟨t, u, r, e, h1, h2⟩ => by
    unfold refsM at b
    exact ⟨t, u, r, e, h1.cut (below_app b).1, EsAt.cut (below_app b).2 h2⟩
theorem OAt.cut {n : Nat} {σ : List Nat} {I : Ld} {H : Hid} {i a : Nat} : ∀ {o : O}, below n (refsO o) = true → OAt fx ⟨σ, I, H⟩ N ow i a o → OAt fx ⟨σ.take n, I, H⟩ N ow i a o
  | .list _ => by
    intro _ h
    exact h
  | .flist _ => by
    intro _ h
    exact h
  | .dictI _ => by
    intro _ h
    exact h
  | .fdictI _ => by
    intro _ h
    exact h
  | .dictS _ => by
    intro _ h
    exact h
  | .inst _ _ => by
    intro b z1
    obtain ⟨dx, es, n, e, e', m, m', r⟩ := z1
    exact ⟨dx, es, n, e, e', m, m', r.cut (by simpa [refsO] using b)⟩
  | .bag _ => by
    intro _ z1
    obtain ⟨sl, tk, n, e, m, v⟩ := z1
    exact ⟨sl, tk, n, e, m, VAt.cut (by rfl) v⟩
  | .dead => by
    intro _ _
    exact trivial
theorem below_nth {n : Nat} : ∀ {l : List O} {i : Nat} {o : O}, below n (refsN l) = true → nth l i = some o → below n (refsO o) = true
  | [], _, _, _, h => by cases h
  | _ :: _, 0, _, b, h => by
    cases h
    unfold refsN at b
    exact (below_app b).1
  | _ :: r, i + 1, _, b, h => by
    unfold refsN at b
    exact below_nth (below_app b).2 h
theorem below_look {n : Nat} : ∀ {m : List (Str × V)} {x : Str} {v : V}, below n (refsM m) = true → look m x = some v → below n (refsV v) = true
  | [], _, _, _, h => by cases h
  | (y, u) :: r, x, v, b, h => by
    unfold refsM at b
    unfold look at h
    split at h
    · cases h; exact (below_app b).1
    · exact below_look (below_app b).2 h
theorem slots_lt {p : Nat} {π : List Nat} : ∀ {n j d : Nat} {new : List (Option Nat)}, j + d < p → d < n → nth (slots p π j n new) d = some (some (j + d))
  | 0, _, _, _, _, h => absurd h (Nat.not_lt_zero _)
  | n + 1, j, d, new, h1, h2 => by
    have hb : (Nat.blt j p || hasN j π) = true := by rw [show Nat.blt j p = true from Nat.ble_eq_true_of_le (by omega)]; rfl
    unfold slots
    rw [hb]
    cases d with
    | zero => rfl
    | succ d =>
      show nth (slots p π (j + 1) n new) d = _
      rw [slots_lt (by omega) (by omega)]
      congr 2
      omega
theorem slots_len {p : Nat} {π : List Nat} : ∀ {n j : Nat} {new : List (Option Nat)}, n ≤ (slots p π j n new).length
  | 0, _, _ => Nat.zero_le _
  | n + 1, j, new => by
    unfold slots
    split
    · exact Nat.succ_le_succ slots_len
    · split
      · exact Nat.succ_le_succ slots_len
      · exact Nat.succ_le_succ slots_len
/-- the state at a loop's head -/
theorem canon_ok {p k n : Nat} {K : St → Prop} (hK : canon p k n s K) (r : Rl fx env W s h N ow ms) (hn : p ≤ n) (hp : p ≤ W.σ.length) : ∃ W' s' ow', K s' ∧ ExtP p W W' ∧ Rl fx env W' s' h N ow' ms := by
  have rm : Rl fx env W ⟨s.m.take k, s.N⟩ h N ow ms := ⟨r.kbg, r.F, r.Ns, r.sub, r.len, r.obj, fun x v hx => r.nm x v (look_take hx), r.cl⟩
  unfold canon at hK
  cases hb : (Nat.blt 0 p && (below n (refsM (s.m.take k)) && below n (refsN (s.N.take n)))) with
  | true =>
    rw [hb] at hK
    have hb := (Bool.and_eq_true_iff.mp (Bool.and_eq_true_iff.mp hb).2)
    obtain ⟨σ, I, H⟩ := W
    refine ⟨⟨σ.take n, I, H⟩, _, ow, hK, ⟨by rw [List.length_take]; exact Nat.le_min.mpr ⟨hn, hp⟩, fun i hi => ?_, fun _ h => h, rfl⟩, r.kbg, r.F, r.Ns, r.sub, ?_, fun i o a h1 h2 => ?_, fun x v hx => ?_, r.cl⟩
    · rw [nth_get, nth_get, List.getElem?_take, if_pos (by omega)]
    · have := r.len
      show (σ.take n).length = (s.N.take n).length
      rw [List.length_take, List.length_take]
      exact congrArg _ this
    · exact (r.obj i o a (nth_take h1) (nth_take h2)).cut (below_nth hb.2 h1)
    · obtain ⟨hd, u, hu, hr⟩ := rm.nm x v hx
      exact ⟨hd, u, hu.cut (below_look hb.1 hx), hr⟩
  | false =>
    rw [hb] at hK
    have h1 := forceO_ok (forceL_ok hK)
    generalize hsl : slots p _ 0 n _ = sl at h1
    obtain ⟨m', hm, h2⟩ := opt_out h1
    obtain ⟨N', hN, h3⟩ := opt_out h2
    refine ⟨⟨sl.map (slA W.σ), W.I, W.H⟩, _, _, h3, ⟨?_, fun i hi => ?_, fun _ h => h, rfl⟩, rm.relay hm hN (.inl rfl)⟩
    · rw [List.length_map, ← hsl]
      exact Nat.le_trans hn slots_len
    · show nth (sl.map (slA W.σ)) i = _
      rw [nth_map, ← hsl, slots_lt (by omega) (by omega)]
      have hi' : i < W.σ.length := by omega
      show some ((nth W.σ (0 + i)).getD 0) = _
      rw [Nat.zero_add, nth_lt hi']
      rfl
end

section
variable {fx : Fx} {nm : List (Str × NameKind)} {W₀ : Wd} {s : St} {h : Heap} {N : Ld} {ow : Nat → Nat} {ms : Str → Option Value} {t : Tok}
theorem any_of {own : Ld} {b : Nat} {o : Obj} (h : ((b, o) : Addr × Obj) ∈ own) : (own.any fun q => q.1 == b) = true := List.any_eq_true.mpr ⟨_, h, beq_self_eq_true _⟩
noncomputable def ownOfW (wr : List Addr) (h : Heap) : Ld := wr.filterMap fun b => (h.get? b).map fun o => (b, o)
theorem mem_ownW {wr : List Addr} {h : Heap} {q : Addr × Obj} : q ∈ ownOfW wr h ↔ q.1 ∈ wr ∧ h.get? q.1 = some q.2 := by
  constructor
  · intro hq
    obtain ⟨b, hb, e⟩ := List.mem_filterMap.mp hq
    obtain ⟨o, ho, rfl⟩ := Option.map_eq_some_iff.mp e
    exact ⟨hb, ho⟩
  · rintro ⟨hb, ho⟩
    exact List.mem_filterMap.mpr ⟨q.1, hb, by rw [ho]; rfl⟩
/-- a value of a turn is what is said, in one of two ways -/
noncomputable def AsgOk (fx : Fx) (nm : List (Str × NameKind)) (W₀ : Wd) (target : PySem.Expr) (P : Nat → Value → Heap → Prop) (l : List D) : Prop :=
  ∀ i v d W s h t N ow ms K Q, P i v h → nth l i = some d → (∀ q ∈ W₀.I, q ∈ W.I) → Rl fx fx.fenv W s h N ow ms → asgK nm 5 target (.d d) s K → OutA fx W K Q → wpAny (model PR fx.w) fx.A (assign target fx.fenv v) Q (fun _ _ => False) (fx.s h t)
theorem for_loop (Y : FenvOk fx nm) {target : PySem.Expr} {body : List Stmt} {R : List Stmt → St → (Fl → St → Prop) → Prop} {I : Addr} {fp wr : List Addr} {n : Nat} {P Md : Nat → Value → Heap → Prop} {St' : Nat → Heap → Prop} (T : KTurns PR fx.w fx.A target I fp wr n P Md St') {p k nn : Nat} (J : ExOk fx p R) {l : List D} (hl : l.length = n)
    (hA : AsgOk fx nm W₀ target P l) (hLw : fx.L ∉ wr) (hwr : ∀ b ∈ wr, fx.g.get? b = none) (hit : ∀ i h, St' i h → ∀ b ∈ wr, ∃ o, h.get? b = some o ∧ ∀ v, o.data ≠ .cell v) (hfp : ∀ b ∈ fp, b ∈ wr ∨ ∃ o, Kn fx W₀ b o)
    (r : Rl fx fx.fenv W₀ s h N ow ms) (hnw : ∀ q ∈ N, q.1 ∉ wr) (hst : St' 0 h) (hpn : p ≤ nn) (hp : p ≤ W₀.σ.length) {K : Fl → St → Prop} {Q : Flow → Shared → Prop} (hK : forI p k nn (fun d s K => asgK nm 5 target (.d d) s K) (R body) l s K) (hQ : OutF fx p W₀ K Q) {E : Value → Shared → Prop} :
    codeAny (model PR fx.w) fx.A (.forLoop target (.ref I) body [] fx.fenv) (fun r s' => match r with | .ok f => Q f s' | .error e => cameBackBy (model PR fx.w) fx.A fx.fenv E e s') (fx.s h t) := by
  have hHw : ∀ q ∈ W₀.H.l, q.1 ∉ wr := fun q hq => hnw _ (r.cl.1.2 q hq).1
  refine codeAny_forLoop_any
    (fun c s' => ∃ W s h t N ow ms i, s' = fx.s h t ∧ Rl fx fx.fenv W s h N ow ms ∧ ExtP p W₀ W ∧ St' i h ∧ (∀ q ∈ N, q.1 ∉ wr) ∧ forI p k nn (fun d s K => asgK nm 5 target (.d d) s K) (R body) (l.drop i) s K ∧ i ≤ n ∧ c = n + 1 - i) ?_ (n + 1)
    ⟨W₀, s, h, t, N, ow, ms, 0, rfl, r, ExtP.refl hp, hst, hnw, hK, Nat.zero_le _, rfl⟩
  rintro c s' ⟨W, s, h, t, N, ow, ms, i, rfl, r, x, hst, hnw, hK, hi, rfl⟩
  by_cases hlt : i < n
  · have hd : l.drop i = l[i] :: l.drop (i + 1) := List.drop_eq_getElem_cons (by omega)
    rw [hd] at hK
    obtain ⟨W1, s1, ow1, hK1, x1, r1⟩ := canon_ok hK r hpn x.len
    refine T.item i _ _ _ hlt hst fun v h₁ tk₁ hMd hk₁ => ?_
    refine T.go i v _ _ _ hMd fun h₂ hP hst₂ hk₂ => ?_
    have r2 : Rl fx fx.fenv W1 s1 h₂ N ow1 ms := r1.step (fun b o hb e => hk₂ b o hb (hk₁ b o hb e)) hnw hLw hwr
    obtain ⟨σ1, I1, H1⟩ := W1
    have hown := fun q (hq : q ∈ ownOfW wr h₂) => mem_ownW.mp hq
    have r3 := r2.hide (ownOfW wr h₂) (fun q hq => ⟨(hown q hq).2, fun e => hLw (e ▸ (hown q hq).1), hwr _ (hown q hq).1⟩)
      (fun q hq => by
        obtain ⟨o, ho, hc⟩ := hit _ _ hst₂ q.1 (hown q hq).1
        rw [(hown q hq).2] at ho
        cases ho
        exact hc) (fun q hq q' hq' e => hnw q hq (e ▸ (hown q' hq').1))
    have y1 := x.trans x1
    have hH1 : H1 = W₀.H := y1.H
    have fin : ∀ W4 s4 h4 N4 ow4 ms4, ExtP p ⟨σ1, I1, ⟨ownOfW wr h₂ ++ H1.l, H1.pin⟩⟩ W4 → Rl fx fx.fenv W4 s4 h4 N4 ow4 ms4 → St' (i + 1) h4 ∧ ∃ N5, (∀ q ∈ N5, q.1 ∉ wr) ∧ Rl fx fx.fenv ⟨W4.σ, W4.I, H1⟩ s4 h4 N5 ow4 ms4 ∧ ExtP p W₀ ⟨W4.σ, W4.I, H1⟩ := by
      intro W4 s4 h4 N4 ow4 ms4 x4 r4
      obtain ⟨σ4, I4, H4⟩ := W4
      have e4 : H4 = ⟨ownOfW wr h₂ ++ H1.l, H1.pin⟩ := x4.H
      subst e4
      have y4 : ExtP p W₀ ⟨σ4, I4, H1⟩ := ⟨x4.len, fun j hj => (x4.σ j hj).trans (y1.σ j hj), fun q hq => x4.I q (y1.I q hq), hH1⟩
      refine ⟨T.frame _ _ _ hst₂ fun b hb o e => ?_, _, ?_, r4.drop (fun q hq q' hq' e => ?_) (fun q hq e => ?_) Y.hl, y4⟩
      · rcases hfp b hb with hb | ⟨o', hk⟩
        · exact (r4.Ns _ (r4.cl.1.2 (b, o) (List.mem_append_left _ (mem_ownW.mpr ⟨hb, e⟩))).1).1
        · have := r2.get (hk.imp id (y1.I _))
          rw [e] at this
          cases this
          exact r4.get (hk.imp id (y4.I _))
      · intro q hq hb
        obtain ⟨o, ho, _⟩ := hit _ _ hst₂ _ hb
        exact drop_off q hq (q.1, o) (mem_ownW.mpr ⟨hb, ho⟩) rfl
      · rw [hH1] at hq
        exact hHw q hq (e ▸ (hown q' hq').1)
      · rw [Y.hl] at e
        exact hLw (e ▸ (hown q hq).1)
    have hgo : ∀ s4 W4 h4 (t4 : Tok) N4 ow4 ms4, (forI p k nn (fun d s K => asgK nm 5 target (.d d) s K) (R body) (l.drop (i + 1)) s4 K) → ExtP p ⟨σ1, I1, ⟨ownOfW wr h₂ ++ H1.l, H1.pin⟩⟩ W4 → Rl fx fx.fenv W4 s4 h4 N4 ow4 ms4 →
        ∃ m, m < n + 1 - i ∧ ∃ W s h t N ow ms i, fx.s h4 t4 = fx.s h t ∧ Rl fx fx.fenv W s h N ow ms ∧ ExtP p W₀ W ∧ St' i h ∧ (∀ q ∈ N, q.1 ∉ wr) ∧ forI p k nn (fun d s K => asgK nm 5 target (.d d) s K) (R body) (l.drop i) s K ∧ i ≤ n ∧ m = n + 1 - i := by
      intro s4 W4 h4 t4 N4 ow4 ms4 hk4 x4 r4
      obtain ⟨f1, N5, f2, f3, f4⟩ := fin W4 s4 h4 N4 ow4 ms4 x4 r4
      exact ⟨n + 1 - (i + 1), by omega, _, s4, h4, t4, N5, ow4, ms4, i + 1, rfl, f3, f4, f1, f2, hk4, hlt, rfl⟩
    refine wpAny_mono (hA i v l[i] ⟨σ1, I1, ⟨ownOfW wr h₂ ++ H1.l, H1.pin⟩⟩ s1 h₂ tk₁ _ _ ms _ (fun _ s₃ => wpAny (model PR fx.w) fx.A (execs body fx.fenv) _ (fun _ _ => False) s₃) hP (nth_lt (by omega)) (fun q hq => y1.I q hq) r3 hK1 fun s2 s₃ hk2 hr2 => ?_) (fun _ _ x => wpAny_mono x (fun _ _ y => y) fun _ _ e => e.elim) fun _ _ e => e.elim
    obtain ⟨h3, t3, N3, ow3, ms3, rfl, r4⟩ := hr2
    refine J body s2 _ hk2 _ _ _ _ _ _ r4 x1.len _ _ fun fl f W4 s4 s₅ hk4 x4 hf4 hr4 => ?_
    obtain ⟨h4, t4, N4, ow4, ms4, rfl, r5⟩ := hr4
    cases fl with
    | next =>
      obtain rfl := hf4
      exact hgo s4 W4 h4 t4 N4 ow4 ms4 hk4 x4 r5
    | cont =>
      obtain rfl := hf4
      exact hgo s4 W4 h4 t4 N4 ow4 ms4 hk4 x4 r5
    | brk =>
      obtain rfl := hf4
      obtain ⟨_, N5, _, f3, f4⟩ := fin W4 s4 h4 N4 ow4 ms4 x4 r5
      obtain ⟨W6, s6, ow6, hk6, x6, r6⟩ := canon_ok (show canon p k nn s4 _ from hk4) f3 hpn f4.len
      exact hQ .next .next W6 s6 _ hk6 (f4.trans x6) rfl ⟨_, _, _, _, _, rfl, r6⟩
    | ret v =>
      obtain ⟨u, rfl, hv⟩ := hf4
      obtain ⟨_, N5, _, f3, f4⟩ := fin W4 s4 h4 N4 ow4 ms4 x4 r5
      exact hQ (.ret v) (.ret u) _ s4 _ hk4 f4 ⟨u, rfl, VAt.hid hv⟩ ⟨_, _, _, _, _, rfl, f3⟩
  · have hin : i = n := by omega
    subst hin
    rw [List.drop_eq_nil_of_le (by omega)] at hK
    refine T.done _ _ _ hst fun h₁ tk₁ hk₁ => wpAny_execs_nil ?_
    obtain ⟨W1, s1, ow1, hK1, x1, r1⟩ := canon_ok hK r hpn x.len
    exact hQ .next .next W1 s1 _ hK1 (x.trans x1) rfl ⟨_, _, _, _, _, rfl, r1.step hk₁ hnw hLw hwr⟩
end

/-- a thing that is gone over, as it stands when its iterator is asked for -/
inductive ItAt (fx : Fx) (W : Wd) (h : Heap) (N : Ld) : Nat → List D → Value → Prop
  | lst (a : Nat) (o : Obj) (us : List Value) (k : Nat) (l : List D) (kd : Nat) : Kn fx W a o → o.cls = .type "list" → o.data = .seq us.toArray k → DsAt (Kn fx W) l us → ItAt fx W h N kd l (.ref a)
  | tup (a : Nat) (o : Obj) (us : List Value) (k : Nat) (l : List D) : Kn fx W a o → o.cls = .type "tuple" → o.data = .seq us.toArray k → DsAt (Kn fx W) l us → ItAt fx W h N 0 l (.ref a)
  | rng (a : Nat) (x y z : Int) (t u v : Tok) (n : Nat) (kd : Nat) : IsRange h a x y z t u v → Builtin.Range.small x y z = true → Builtin.Range.rangeSize x y z = (n : Int) → n ≤ 1000000 → (kd = 1 ∨ kd = 3 ∧ z = 1) → ItAt fx W h N kd (rangeL x z n) (.ref a)
  | enm (e a : Nat) (o : Obj) (us : List Value) (k : Nat) (l : List D) : Kn fx W a o → o.cls = .type "list" → o.data = .seq us.toArray k → DsAt (Kn fx W) l us → IsEnum h (e + 1) e 0 .none → h.IsListIter e a 0 → (∀ q ∈ N, q.1 < e) → fx.L < e → fx.g.objs.size ≤ e → a < e → ItAt fx W h N 2 (enumL 0 l) (.ref (e + 1))
  | itm (vw d : Nat) (o : Obj) (kvs : List (Int × Value)) (l : List (Int × D)) : (∃ ov, h.get? vw = some ov ∧ ov.cls = .type "dict_items" ∧ ov.data = .fields #[.ref d]) → Kn fx W d o → o.IsDictOf (intKind PR fx.w) kvs → Prs (fun v x => DAt (Kn fx W) x v) kvs l → ItAt fx W h N 2 (l.map fun y => .tup [.int y.1, y.2]) (.ref vw)
theorem fit_out {k : Int} (h : fitB k = true) : -100001 ≤ k ∧ k ≤ 100000 := by
  unfold fitB at h
  split at h
  · rename_i n
    have := Nat.le_of_ble_eq_true h
    constructor
    · show -100001 ≤ ((n : Nat) : Int); omega
    · show ((n : Nat) : Int) ≤ 100000; omega
  · rename_i n
    have := Nat.le_of_ble_eq_true h
    constructor <;> omega
theorem rangeN_up (a b : Int) : rangeN a b 1 = (b - a).toNat := by
  unfold rangeN
  rw [if_pos (by decide), Int.ediv_one]
  congr 1
  omega
theorem rangeN_dn (a b : Int) : rangeN a b (-1) = (a - b).toNat := by
  unfold rangeN
  rw [if_neg (by decide), Int.neg_neg, Int.ediv_one]
  congr 1
  omega
theorem small_up {a b : Int} (ha : fitB a = true) (hb : fitB b = true) : Builtin.Range.small a b 1 = true ∧ Builtin.Range.rangeSize a b 1 = ((rangeN a b 1 : Nat) : Int) ∧ rangeN a b 1 ≤ 1000000 := by
  have := fit_out ha
  have := fit_out hb
  rw [rangeN_up]
  refine ⟨small_one (by omega) (by omega) (by omega) (by omega), ?_, by omega⟩
  rw [rangeSize_one]
  split <;> omega
theorem small_down {a b : Int} (ha : fitB a = true) (hb : fitB b = true) : Builtin.Range.small a b (-1) = true ∧ Builtin.Range.rangeSize a b (-1) = ((rangeN a b (-1) : Nat) : Int) ∧ rangeN a b (-1) ≤ 1000000 := by
  have := fit_out ha
  have := fit_out hb
  have e : Builtin.Range.rangeSize a b (-1) = if b < a then a - b else 0 := by
    show (if (-1 : Int) > 0 then _ else if a > b then (a - b - 1) / (- -1) + 1 else 0) = _
    rw [if_neg (by decide), Int.neg_neg, Int.ediv_one]
    by_cases h : b < a
    · rw [if_pos h, if_pos h]; omega
    · rw [if_neg h, if_neg h]
  have fits : ∀ k : Int, -1000000 ≤ k → k ≤ 1000000 → Builtin.Range.rangeFitsLong k = true := fun k h1 h2 => by
    unfold Builtin.Range.rangeFitsLong
    rw [Bool.and_eq_true, decide_eq_true_eq, decide_eq_true_eq]
    omega
  rw [rangeN_dn, e]
  refine ⟨?_, ?_, by omega⟩
  · unfold Builtin.Range.small
    rw [e, fits a (by omega) (by omega), fits b (by omega) (by omega), fits (-1) (by omega) (by omega), fits _ (by split <;> omega) (by split <;> omega), if_neg (show ¬ ((-1 : Int) > 0) by decide), fits (b + (-1 + 1)) (by omega) (by omega)]
    simp
  · split <;> omega
section
variable {M : Model} {A : Around} {E : Value → Shared → Prop} {s : Shared} {env : Env} {pos : Pos} {args : List PySem.Expr} {Q : Value → Shared → Prop}
theorem with_typ {id : String} (hs : args.all notStar = true) (h : wpAny M A (spliced (backTo pos (starEach args env))) (fun vs s' => wpAny M A (call (.type id) vs) Q E s') E s) :
    wpAny M A (callWith pos (.type id) [] (backTo pos (starEach args env)) []) Q E s :=
  PyProof.Rows.callWith_type (plain_of hs) (evalArgs_any hs h)
end
noncomputable def OutI (fx : Fx) (env : Env) (W : Wd) (kd : Nat) (K : List D → St → Prop) (Q : Value → Shared → Prop) : Prop := ∀ l u W' s h t N ow ms, K l s → Ext W W' → Rl fx env W' s h N ow ms → ItAt fx W' h N kd l u → Q u (fx.s h t)
section
variable {fx : Fx} {env : Env} {W : Wd} {s : St} {h : Heap} {N : Ld} {ow : Nat → Nat} {ms : Str → Option Value} {t : Tok} {Q : Value → Shared → Prop} {E : Value → Shared → Prop}
noncomputable def pickN (c : Bool) (a b : Nat) : Nat := match c with | true => a | false => b
theorem step_of {z : Int} (h : (z == 1 || z == -1) = true) : z = 1 ∨ z = -1 := by simpa using h
theorem range_ok {c3 : Bool} (r : Rl fx env W s h N ow ms) {vs : List V} {us : List Value} {K : List D → St → Prop} (hK : rangeK c3 K vs s) (hv : VsAt fx W vs us) (hQ : OutI fx env W (pickN c3 1 3) K Q) :
    wpAny (model PR fx.w) fx.A (call (.type "range") us) Q E (fx.s h t) := by
  have up : ∀ (x : Obj), Rl fx env W s (h.push x) N ow ms := fun x => r.grow (ow' := ow) (r.F.push _) (r.Ns.grown fun _ _ e => Heap.get?_push_of_some _ e) (fun _ h => h) (fun _ _ => rfl)
  cases vs with
  | nil => exact hK.elim
  | cons a vs => cases vs with
  | nil =>
    obtain ⟨u1, us, rfl, h1, h2⟩ := hv
    obtain rfl : us = [] := h2
    obtain ⟨b, t1, rfl, hK⟩ := optI hK h1
    obtain ⟨hb, hk⟩ := ok_out hK
    obtain ⟨z1, z2, z3⟩ := small_up (a := 0) (b := b) (by rfl) hb
    exact call_range_1 (hQ _ _ W s _ _ N ow ms hk (Ext.refl W) (up _) (.rng _ 0 b 1 _ _ _ _ _ (IsRange.new ..) z1 z2 z3 (by cases c3; exact .inr ⟨rfl, rfl⟩; exact .inl rfl)))
  | cons b vs => cases vs with
  | nil =>
    obtain ⟨u1, us, rfl, h1, u2, us, rfl, h2, h3⟩ := hv
    obtain rfl : us = [] := h3
    obtain ⟨a, t1, rfl, hK⟩ := optI hK h1
    obtain ⟨b, t2, rfl, hK⟩ := optI hK h2
    obtain ⟨hb, hk⟩ := ok_out hK
    rw [Bool.and_eq_true] at hb
    obtain ⟨z1, z2, z3⟩ := small_up hb.1 hb.2
    exact call_range_2 (hQ _ _ W s _ _ N ow ms hk (Ext.refl W) (up _) (.rng _ a b 1 _ _ _ _ _ (IsRange.new ..) z1 z2 z3 (by cases c3; exact .inr ⟨rfl, rfl⟩; exact .inl rfl)))
  | cons c vs => cases vs with
  | cons => exact hK.elim
  | nil =>
    obtain ⟨u1, us, rfl, h1, u2, us, rfl, h2, u3, us, rfl, h3, h4⟩ := hv
    obtain rfl : us = [] := h4
    obtain ⟨a, t1, rfl, hK⟩ := optI hK h1
    obtain ⟨b, t2, rfl, hK⟩ := optI hK h2
    obtain ⟨c, t3, rfl, hK⟩ := optI hK h3
    obtain ⟨hb, hk⟩ := ok_out hK
    rw [Bool.and_eq_true, Bool.and_eq_true, Bool.and_eq_true] at hb
    obtain ⟨hc3, hb⟩ := hb
    rcases step_of hb.2 with rfl | rfl
    · obtain ⟨z1, z2, z3⟩ := small_up hb.1.1 hb.1.2
      exact call_range_3 (by decide) (hQ _ _ W s _ _ N ow ms hk (Ext.refl W) (up _) (.rng _ a b 1 _ _ _ _ _ (IsRange.new ..) z1 z2 z3 (by cases c3; exact .inr ⟨rfl, rfl⟩; exact .inl rfl))) (.inl (PyProof.noPylong_small (by decide)))
    · obtain ⟨z1, z2, z3⟩ := small_down hb.1.1 hb.1.2
      exact call_range_3 (by decide) (hQ _ _ W s _ _ N ow ms hk (Ext.refl W) (up _) (.rng _ a b (-1) _ _ _ _ _ (IsRange.new ..) z1 z2 z3 (by rw [hc3]; exact .inl rfl))) (.inl (PyProof.noPylong_small (by decide)))
theorem enum_ok (r : Rl fx env W s h N ow ms) {vs : List V} {us : List Value} {K : List D → St → Prop} (hK : enumK K vs s) (hv : VsAt fx W vs us) (hQ : OutI fx env W 2 K Q) :
    wpAny (model PR fx.w) fx.A (call (.type "enumerate") us) Q E (fx.s h t) := by
  cases vs with
  | nil => exact hK.elim
  | cons v vs => cases vs with
  | cons => exact hK.elim
  | nil =>
    obtain ⟨⟨d, n'⟩, hd, hk⟩ := opt_out hK
    dsimp only at hk
    split at hk
    · rename_i l
      obtain ⟨u1, us, rfl, h1, h2⟩ := hv
      obtain rfl : us = [] := h2
      obtain ⟨W1, ow1, x1, r1, a, o, vs, k, rfl, g1, g2, g3, g4⟩ := toD_ok hd r h1
      refine call_enumerate_list (r1.lst g1 g2 g3) fun h' hE hI hsz hk' => ?_
      have r2 := r1.grow (h' := h') (ow' := ow1) (r1.F.keeps hk') (r1.Ns.grown hk') (fun _ h => h) (fun _ _ => rfl)
      exact hQ _ _ W1 _ h' _ N ow1 ms hk x1 r2 (.enm h.objs.size a o vs k l g1 g2 g3 g4 hE hI (fun q hq => Heap.lt_size (r1.Ns q hq).1) r1.F.ns.lt (Nat.le_trans r1.F.above (Nat.le_of_lt r1.F.ns.lt)) (Heap.lt_size (r1.get g1)))
    · exact hk.elim
theorem iter_plain {c3 : Bool} {R : PySem.Expr → St → (V → St → Prop) → Prop} (I : EvOk fx env R) {e : PySem.Expr} {K : List D → St → Prop} (hK : R e s fun v s => listK c3 K v s) (r : Rl fx env W s h N ow ms) (hQ : OutI fx env W (pickN c3 0 4) K Q) :
    wpAny (model PR fx.w) fx.A (eval e env) Q E (fx.s h t) := by
  refine I e s _ hK _ _ _ _ _ _ r _ E fun v u W1 s1 s₂ hk x1 hv hr => ?_
  obtain ⟨h1, t1, N1, ow1, ms1, rfl, r1⟩ := hr
  obtain ⟨⟨d, n'⟩, hd, hk⟩ := opt_out hk
  obtain ⟨W2, ow2, x2, r2, d2⟩ := toD_ok hd r1 hv
  dsimp only at hk
  split at hk
  · obtain ⟨a, o, us, k, rfl, g1, g2, g3, g4⟩ := d2
    exact hQ _ _ W2 _ h1 t1 N1 ow2 ms1 hk (x1.trans x2) r2 (.lst a o us k _ _ g1 g2 g3 g4)
  · obtain ⟨hc3, hk⟩ := ok_out hk
    subst hc3
    obtain ⟨a, o, us, k, rfl, g1, g2, g3, g4⟩ := d2
    exact hQ _ _ W2 _ h1 t1 N1 ow2 ms1 hk (x1.trans x2) r2 (.tup a o us k _ g1 g2 g3 g4)
  · exact hk.elim
theorem itKind_is (c3 : Bool) (e : PySem.Expr) : itKind c3 e = pickN c3 1 3 ∨ itKind c3 e = 2 ∨ itKind c3 e = pickN c3 0 4 := by
  cases e with
  | Call f _ _ _ => cases f with
    | Name x p =>
      delta itKind
      dsimp only
      cases x == Str.ofString "range"
      · exact .inr (.inl rfl)
      · exact .inl rfl
    | _ => exact .inr (.inl rfl)
  | _ => exact .inr (.inr rfl)
theorem iter_ok {c3 : Bool} (X : FxOk fx) {R : PySem.Expr → St → (V → St → Prop) → Prop} (I : EvOk fx env R) {e : PySem.Expr} {K : List D → St → Prop} (hK : iterK c3 R e s K) (r : Rl fx env W s h N ow ms) (hQ : OutI fx env W (itKind c3 e) K Q) :
    wpAny (model PR fx.w) fx.A (eval e env) Q E (fx.s h t) := by
  cases e
  case Set => exact hK.elim
  case Call f args kws pos =>
   cases f
   case Name x xp => cases kws with
    | cons => exact hK.elim
    | nil =>
    obtain ⟨hs, hK⟩ := ok_out hK
    refine Call_ (I _ s _ hK _ _ _ _ _ _ r _ E fun f u W1 s1 s₂ hk x1 hv hr => ?_)
    obtain ⟨h1, t1, N1, ow1, ms1, rfl, r1⟩ := hr
    dsimp only at hk
    split at hk
    · rename_i n
      obtain rfl := hv
      split at hk
      · rename_i hx
        split at hk
        · refine with_typ hs (evs_ok I hk r1 fun vs us W2 s2 s₃ hk2 x2 hv2 hr2 => ?_)
          obtain ⟨h2, t2, N2, ow2, ms2, rfl, r2⟩ := hr2
          refine range_ok r2 hk2 hv2 fun l u W3 s3 h3 t3 N3 ow3 ms3 hk3 x3 r3 hi => hQ l u W3 s3 h3 t3 N3 ow3 ms3 hk3 ((x1.trans x2).trans x3) r3 ?_
          have : itKind c3 (.Call (.Name x xp) args [] pos) = pickN c3 1 3 := by show (match x == Str.ofString "range" with | true => (match c3 with | true => 1 | false => 3) | false => 2) = _; rw [hx]; rfl
          rw [this]; exact hi
        · exact hk.elim
      · rename_i hx
        split at hk
        · refine with_typ hs (evs_ok I hk r1 fun vs us W2 s2 s₃ hk2 x2 hv2 hr2 => ?_)
          obtain ⟨h2, t2, N2, ow2, ms2, rfl, r2⟩ := hr2
          refine enum_ok r2 hk2 hv2 fun l u W3 s3 h3 t3 N3 ow3 ms3 hk3 x3 r3 hi => hQ l u W3 s3 h3 t3 N3 ow3 ms3 hk3 ((x1.trans x2).trans x3) r3 ?_
          have : itKind c3 (.Call (.Name x xp) args [] pos) = 2 := by show (match x == Str.ofString "range" with | true => (match c3 with | true => 1 | false => 3) | false => 2) = 2; rw [hx]
          rw [this]; exact hi
        · exact hk.elim
    · exact hk.elim
   case Attribute o x apos => cases args with
    | cons => exact hK.elim
    | nil => cases kws with
    | cons => exact hK.elim
    | nil =>
    obtain ⟨hm, hK2⟩ := ok_out hK
    clear hK
    split at hK2
    · rename_i hx
      obtain rfl := eq_of_beq hx
      refine MethodCall_ (I o s _ hK2 _ _ _ _ _ _ r _ E fun a u W1 s1 s₂ hk x1 hv hr => ?_) (meth_of hm)
      obtain ⟨h1, t1, N1, ow1, ms1, rfl, r1⟩ := hr
      cases a
      case ref i =>
        replace hk : (match (generalizing := false) nth s1.N i with | some (.dictI l) => K (l.map fun y => .tup [.int y.1, y.2]) ⟨s1.m, setN s1.N i (.fdictI l)⟩ | _ => False) := hk
        split at hk
        · rename_i l hl
          obtain ⟨q, hq, rfl⟩ := hv
          obtain ⟨ob, kvs, e1, m1, d1, p1, z1⟩ := r1.obj i _ q hl hq
          refine kdl_method (knd := PySem.intKind PR fx.w) PySem.F.slot_dict_items PySem.F.type_dict_items r1.Ns m1 d1 ?_
          refine with_blt (first := [.ref q]) (args := []) rfl (args_nil ?_)
          refine kta_callItems (knd := PySem.intKind PR fx.w) r1.F r1.Ns m1 d1 z1 fun h' hvw F' N' => ?_
          have r2 := r1.grow (h' := h') (ow' := ow1) F' N' (fun _ h => h) (fun _ _ => rfl)
          obtain ⟨W2, ow2, x2, r3, o2, kvs2, k2, d2, p2, z2⟩ := r2.freezeI hl hq
          exact hQ _ _ W2 _ h' _ N1 ow2 ms1 hk (x1.trans x2) r3 (.itm _ q o2 kvs2 l hvw k2 d2 p2)
        · exact hk.elim
      all_goals exact hk.elim
    · exact hK2.elim
   all_goals exact hK.elim
  all_goals exact iter_plain I hK r hQ
end

section
variable {fx : Fx} {nm : List (Str × NameKind)} {W : Wd} {s : St} {h : Heap} {N : Ld} {ow : Nat → Nat} {ms : Str → Option Value} {t : Tok}
theorem asgs_ok (Y : FenvOk fx nm) (C : CInj fx) {n : Nat} {K : St → Prop} : ∀ {es : List PySem.Expr} {vs : List V} {us : List Value} {s : St} {h : Heap} {t : Tok} {N : Ld} {ow : Nat → Nat} {ms : Str → Option Value} {Q : Unit → Shared → Prop} {E : Value → Shared → Prop}, asgK.asgs (asgK nm n) es vs s K → Rl fx fx.fenv W s h N ow ms → VsAt fx W vs us → OutA fx W K Q →
    es.all okTgt = true → wpAny (model PR fx.w) fx.A (assignInOrder ((assignEach es fx.fenv).map (·.2)) us) Q E (fx.s h t)
  | [], [], us, s, h, t, N, ow, ms, Q, E, hK, r, hv, hQ, _ => assignInOrder_nil (hQ _ _ hK ⟨_, _, _, _, _, rfl, r⟩)
  | [], _ :: _, _, _, _, _, _, _, _, _, _, hK, _, _, _, _ => hK.elim
  | _ :: _, [], _, _, _, _, _, _, _, _, _, hK, _, _, _, _ => hK.elim
  | e :: es, v :: vs, us, s, h, t, N, ow, ms, Q, E, hK, r, hv, hQ, ho => by
    obtain ⟨u, us, rfl, h1, h2⟩ := hv
    rw [List.all_cons, Bool.and_eq_true] at ho
    rw [each_cons ho.1, List.map_cons]
    refine assignInOrder_cons (asgK_ok Y C n (K := fun s => asgK.asgs (asgK nm n) es vs s K) hK r h1 fun s1 s₂ hk hr => ?_)
    obtain ⟨h1, t1, N1, ow1, ms1, rfl, r1⟩ := hr
    exact asgs_ok Y C hk r1 h2 hQ ho.2
/-- a pair that the run itself holds -/
theorem asgT_ok (Y : FenvOk fx nm) (C : CInj fx) {n : Nat} {es : List PySem.Expr} {k : Nat} {p : Pos} {l : List D} {q : Nat} {us : List Value} {K : St → Prop} {Q : Unit → Shared → Prop} {E : Value → Shared → Prop} (hK : asgK nm (n + 1) (.Tuple es k p) (.d (.tup l)) s K) (r : Rl fx fx.fenv W s h N ow ms) (hq : h.IsTuple q us.toArray) (hv : DsAt (Kn fx W) l us) (hQ : OutA fx W K Q) :
    wpAny (model PR fx.w) fx.A (assign (.Tuple es k p) fx.fenv (.ref q)) Q E (fx.s h t) := by
  obtain ⟨hb, hk⟩ := ok_out (show ok _ _ from hK)
  rw [Bool.and_eq_true] at hb
  have hl : es.length = l.length := Nat.eq_of_beq_eq_true hb.1
  refine wpAny_assign_Tuple rfl hq ?_ (each_star hb.2) fun h' he => ?_
  · rw [each_len, hl, List.size_toArray, hv.len]
  · exact asgs_ok Y C hk (r.bump he) (ds_vs hv) hQ hb.2
theorem rangeL_get {a c : Int} : ∀ {n i : Nat} {d : D}, nth (rangeL a c n) i = some d → d = .int (a + i * c)
  | 0, _, _, h => by cases h
  | n + 1, 0, _, h => by cases h; simp
  | n + 1, i + 1, d, h => by
    have e := rangeL_get (a := a + c) (n := n) (i := i) (d := d) h
    rw [e]
    congr 1
    push_cast
    rw [Int.add_mul, Int.one_mul]
    omega
theorem rangeL_len {c : Int} : ∀ {a : Int} {n : Nat}, (rangeL a c n).length = n
  | _, 0 => rfl
  | _, n + 1 => congrArg (· + 1) rangeL_len
theorem enumL_len : ∀ {l : List D} {k : Nat}, (enumL k l).length = l.length
  | [], _ => rfl
  | _ :: r, k => congrArg (· + 1) enumL_len
theorem enumL_get : ∀ {l : List D} {k i : Nat} {d : D}, nth (enumL k l) i = some d → ∃ x, nth l i = some x ∧ d = .tup [.int ((k + i : Nat) : Int), x]
  | [], _, _, _, h => by cases h
  | x :: r, k, 0, d, h => by cases h; exact ⟨x, rfl, rfl⟩
  | x :: r, k, i + 1, d, h => by
    obtain ⟨y, h1, h2⟩ := enumL_get (l := r) (k := k + 1) (i := i) (d := d) h
    exact ⟨y, h1, by rw [h2]; congr 4; omega⟩
theorem prs_get {fx : Fx} {W : Wd} {kvs : List (Int × Value)} {l : List (Int × D)} (hp : Prs (fun v d => DAt (Kn fx W) d v) kvs l) : ∀ {i : Nat} {k : Int} {v : Value}, kvs[i]? = some (k, v) → ∃ x, nth l i = some (k, x) ∧ DAt (Kn fx W) x v := by
  induction hp with
  | nil => intro i k v h; cases h
  | @cons k' v' x' kvs d a _ ih =>
    intro i k v h
    cases i with
    | zero => cases h; exact ⟨x', rfl, a⟩
    | succ i => exact ih h
theorem prs_len {fx : Fx} {W : Wd} {kvs : List (Int × Value)} {l : List (Int × D)} (hp : Prs (fun v d => DAt (Kn fx W) d v) kvs l) : kvs.length = l.length := by
  induction hp with
  | nil => rfl
  | cons _ _ ih => exact congrArg (· + 1) ih
theorem fresh_base (r : Rl fx fx.fenv W s h N ow ms) {b : Nat} (hb : h.objs.size ≤ b) : fx.g.get? b = none := by
  cases e : fx.g.get? b with
  | none => rfl
  | some o => exact absurd (Heap.lt_size (r.F.keep b o e)) (Nat.not_lt.mpr hb)
theorem Rl.push1 (r : Rl fx fx.fenv W s h N ow ms) (x : Obj) : Rl fx fx.fenv W s (h.push x) N ow ms := r.grow (ow' := ow) (r.F.push _) (r.Ns.grown fun _ _ e => Heap.get?_push_of_some _ e) (fun _ h => h) (fun _ _ => rfl)
theorem for_ok (X : FxOk fx) (Y : FenvOk fx nm) (C : CInj fx) {p n : Nat} {R : Rec} (I : RecOk fx R) (J : ExOk fx p R.exs) {tg it : PySem.Expr} {body : List Stmt} {pos : Pos} {K : Fl → St → Prop} (htg : tgtOk tg (itKind true it) = true)
    (hK : iterK true (R.ev nm) it s fun l s => loopI p s.m.length s.N.length (fun d s K => asgK nm 5 tg (.d d) s K) (R.exs body) l s K) (r : Rl fx fx.fenv W s h N ow ms) (hp : p ≤ W.σ.length) {Q : Flow → Shared → Prop} {E : Value → Shared → Prop} (hQ : OutF fx p W K Q) :
    wpAny (model PR fx.w) fx.A (exec (.For tg it body [] pos) fx.fenv) Q E (fx.s h t) := by
  have hset : ∀ x, foldedSetIterable it fx.fenv x = pure x := by
    intro x
    cases it <;> first | rfl | exact hK.elim
  refine wpAny_For (iter_ok X (I.ev _ _ Y.e) hK r fun l u W1 s1 h1 t1 N1 ow1 ms1 hk x1 r1 hi => ?_) hset
  have hk := loop_out hk
  have hpp : p ≤ W1.σ.length := (x1.p hp).len
  have hpn : p ≤ s1.N.length := by rw [← r1.len]; exact hpp
  have hQ1 := hQ.ext (x1.p hp)
  have hlt : ∀ q ∈ N1, q.1 < h1.objs.size := fun q hq => Heap.lt_size (r1.Ns q hq).1
  have hLs : fx.L < h1.objs.size := r1.F.ns.lt
  have hk3 : itKind true it ≠ 3 := by
    rcases itKind_is true it with e | e | e <;> rw [e] <;> decide
  generalize itKind true it = kd at htg hi hk3
  have noc : ∀ {b : Nat} {h : Heap} {o : Obj} {vs : Array Value}, h.get? b = some o → o.data = .fields vs → ∃ o, h.get? b = some o ∧ ∀ v, o.data ≠ .cell v := fun {b h o vs} e d => ⟨o, e, fun v q => by rw [d] at q; cases q⟩
  cases hi with
  | lst a o us k l kd g1 g2 g3 g4 =>
    have hl := r1.lst g1 g2 g3
    have hne : a ≠ h1.objs.size := Nat.ne_of_lt (Heap.lt_size (r1.get g1))
    refine wpAny_pyIter_list hl ?_
    refine for_loop (W₀ := W1) Y (KTurns.ofWalks (Walks.list rfl h1.objs.size a hne us.toArray) fun i v s Q E st q => letGo_listiter st.1 q) J (by rw [List.size_toArray, g4.len]) ?_ ?_ ?_ ?_ ?_ (r1.push1 _) (fun q hq e => ?_) ?_ hpn hpp hk hQ1
    · intro i v d W2 s2 h2 t2 N2 ow2 ms2 K2 Q2 hv hd hI r2 hk2 hq2
      obtain ⟨w, h3, h4⟩ := g4.get hd
      have hv' : us.toArray[i]? = some v := hv
      rw [List.getElem?_toArray, h3] at hv'
      cases hv'
      exact asgK_ok Y C 5 hk2 r2 (DAt.mono (fun _ _ k => k.imp id (hI _)) _ _ h4) hq2
    · intro hm
      exact absurd hLs ((List.mem_singleton.mp hm) ▸ Nat.lt_irrefl _)
    · intro b hb
      rw [List.mem_singleton.mp hb]
      exact fresh_base r1 (Nat.le_refl _)
    · rintro i h ⟨⟨o, ho, _, hd⟩, _⟩ b hb
      rw [List.mem_singleton.mp hb]
      exact noc ho hd
    · intro b hb
      rcases List.mem_cons.mp hb with rfl | hb
      · exact .inl (List.mem_singleton.mpr rfl)
      · rw [List.mem_singleton.mp hb]; exact .inr ⟨o, g1⟩
    · exact absurd (hlt q hq) ((List.mem_singleton.mp e) ▸ Nat.lt_irrefl _)
    · exact ⟨⟨_, Heap.get?_push_size _ rfl, rfl, rfl⟩, hl.push _⟩
  | tup a o us k l g1 g2 g3 g4 =>
    have hl := r1.tup g1 g2 g3
    have hne : a ≠ h1.objs.size := Nat.ne_of_lt (Heap.lt_size (r1.get g1))
    refine wpAny_pyIter_tuple hl ?_
    refine for_loop (W₀ := W1) Y (KTurns.ofWalks (Walks.tuple rfl h1.objs.size a hne us.toArray) fun i v s Q E st q => letGo_tupleiter st.1 q) J (by rw [List.size_toArray, g4.len]) ?_ ?_ ?_ ?_ ?_ (r1.push1 _) (fun q hq e => ?_) ?_ hpn hpp hk hQ1
    · intro i v d W2 s2 h2 t2 N2 ow2 ms2 K2 Q2 hv hd hI r2 hk2 hq2
      obtain ⟨w, h3, h4⟩ := g4.get hd
      have hv' : us.toArray[i]? = some v := hv
      rw [List.getElem?_toArray, h3] at hv'
      cases hv'
      exact asgK_ok Y C 5 hk2 r2 (DAt.mono (fun _ _ k => k.imp id (hI _)) _ _ h4) hq2
    · intro hm
      exact absurd hLs ((List.mem_singleton.mp hm) ▸ Nat.lt_irrefl _)
    · intro b hb
      rw [List.mem_singleton.mp hb]
      exact fresh_base r1 (Nat.le_refl _)
    · rintro i h ⟨⟨o, ho, _, hd⟩, _⟩ b hb
      rw [List.mem_singleton.mp hb]
      exact noc ho hd
    · intro b hb
      rcases List.mem_cons.mp hb with rfl | hb
      · exact .inl (List.mem_singleton.mpr rfl)
      · rw [List.mem_singleton.mp hb]; exact .inr ⟨o, g1⟩
    · exact absurd (hlt q hq) ((List.mem_singleton.mp e) ▸ Nat.lt_irrefl _)
    · exact ⟨⟨_, Heap.get?_push_size _ rfl, rfl, rfl⟩, hl.at fun o e => Heap.get?_push_of_some _ e⟩
  | rng a x y z t2 u2 v2 n2 kd g1 g2 g3 g4 g5 =>
    obtain rfl : kd = 1 := g5.elim id fun g => absurd g.1 hk3
    refine wpAny_pyIter_range g1 g2 ?_
    have htn : ∃ x px, tg = .Name x px := by cases tg <;> first | exact ⟨_, _, rfl⟩ | cases htg
    obtain ⟨nx, px, rfl⟩ := htn
    refine for_loop (W₀ := W1) Y (KTurns.ofWalks (Walks.range rfl h1.objs.size x z n2) fun i v s Q E st q => wpAny_pure q) J rangeL_len ?_ ?_ ?_ ?_ ?_ (r1.push1 _) (fun q hq e => ?_) ?_ hpn hpp hk hQ1
    · intro i v d W2 s2 h2 t2 N2 ow2 ms2 K2 Q2 hv hd hI r2 hk2 hq2
      obtain ⟨t3, rfl⟩ := hv
      obtain rfl := rangeL_get hd
      exact asgK_ok Y C 5 hk2 r2 ⟨_, rfl⟩ hq2
    · intro hm
      exact absurd hLs ((List.mem_singleton.mp hm) ▸ Nat.lt_irrefl _)
    · intro b hb
      rw [List.mem_singleton.mp hb]
      exact fresh_base r1 (Nat.le_refl _)
    · intro i h st b hb
      rw [List.mem_singleton.mp hb]
      exact noc (o := { cls := .type "range_iterator", dict := none, data := .fields _, slots := #[] }) st rfl
    · exact fun b hb => .inl hb
    · exact absurd (hlt q hq) ((List.mem_singleton.mp e) ▸ Nat.lt_irrefl _)
    · show IsRangeIter _ _ _ _ _
      rw [g3]
      simpa using Heap.get?_push_size _ rfl
  | enm e a o us k l g1 g2 g3 g4 hE hI hlE hLE hgE hae =>
    refine wpAny_pyIter_enum hE ?_
    have htn : ∃ es kk pp, tg = .Tuple es kk pp := by cases tg <;> first | exact ⟨_, _, _, rfl⟩ | cases htg
    obtain ⟨es, kk, pp, rfl⟩ := htn
    have hb2 : ∀ {b : Nat}, b ∈ [e + 1, e] → e ≤ b := fun {b} hb => by
      rcases List.mem_cons.mp hb with rfl | hb
      · exact Nat.le_succ _
      · rw [List.mem_singleton.mp hb]; exact Nat.le_refl _
    refine for_loop (W₀ := W1) Y (KTurns.ofWalksU (WalksT.enumerate rfl (e + 1) e a (Nat.succ_ne_self _) (Nat.ne_of_lt (Nat.lt_succ_of_lt hae)) (Nat.ne_of_lt hae) us.toArray).toU) J (by rw [enumL_len, List.size_toArray, g4.len]) ?_ ?_ ?_ ?_ ?_ r1 (fun q hq e' => ?_) ?_ hpn hpp hk hQ1
    · intro i v d W2 s2 h2 t2 N2 ow2 ms2 K2 Q2 hv hd hI r2 hk2 hq2
      obtain ⟨T, vals, rfl, ⟨t3, x, hx, rfl⟩, hT⟩ := hv
      obtain ⟨y, hy, rfl⟩ := enumL_get hd
      obtain ⟨w, h3, h4⟩ := g4.get hy
      rw [List.getElem?_toArray, h3] at hx
      cases hx
      rw [Nat.zero_add] at hk2
      exact asgT_ok Y C (us := [.int (i : Int) t3, x]) hk2 r2 hT ⟨_, _, rfl, ⟨_, rfl⟩, _, _, rfl, DAt.mono (fun _ _ k => k.imp id (hI _)) _ _ h4, rfl⟩ hq2
    · intro hm
      have := hb2 hm
      omega
    · intro b hb
      cases q : fx.g.get? b with
      | none => rfl
      | some o' => exact absurd (Heap.lt_size q) (Nat.not_lt.mpr (Nat.le_trans hgE (hb2 hb)))
    · rintro i h ⟨⟨old, he⟩, ⟨oi, hoi, _, hdi⟩, _⟩ b hb
      rcases List.mem_cons.mp hb with rfl | hb
      · exact noc (show h.get? (e + 1) = some _ from he) rfl
      · rw [List.mem_singleton.mp hb]; exact noc hoi hdi
    · intro b hb
      rcases List.mem_cons.mp hb with rfl | hb
      · exact .inl (.head _)
      · rcases List.mem_cons.mp hb with rfl | hb
        · exact .inl (.tail _ (.head _))
        · rw [List.mem_singleton.mp hb]; exact .inr ⟨o, g1⟩
    · exact absurd (hb2 e') (Nat.not_le.mpr (hlE q hq))
    · exact ⟨⟨_, hE⟩, hI, r1.lst g1 g2 g3⟩
  | itm vw d o kvs l hvw g1 g2 g3 =>
    have hdd : h1.DictOf (intKind PR fx.w) d kvs := Heap.dictOf_iff.mpr ⟨o, r1.get g1, g2⟩
    obtain ⟨ep, hat⟩ := hdd.dictAt
    have htn : ∃ es kk pp, tg = .Tuple es kk pp := by cases tg <;> first | exact ⟨_, _, _, rfl⟩ | cases htg
    obtain ⟨es, kk, pp, rfl⟩ := htn
    have hne : d ≠ h1.objs.size := Nat.ne_of_lt (Heap.lt_size (r1.get g1))
    refine wpAny_pyIter_items hvw hat ?_
    refine for_loop (W₀ := W1) Y (kti_itemsTurns (knd := intKind PR fx.w) rfl h1.objs.size d hne kvs ep) J (by rw [List.length_map]; exact (prs_len g3).symm) ?_ ?_ ?_ ?_ ?_ (r1.push1 _) (fun q hq e => ?_) ?_ hpn hpp hk hQ1
    · intro i v x W2 s2 h2 t2 N2 ow2 ms2 K2 Q2 hv hd hI r2 hk2 hq2
      obtain ⟨T, key, k, w, rfl, hx, hkey, hT⟩ := hv
      obtain ⟨t3, rfl⟩ := Value.isInt_shape hkey
      obtain ⟨y, hy, hw⟩ := prs_get g3 hx
      rw [nth_map, hy] at hd
      cases hd
      exact asgT_ok Y C (us := [.int k t3, w]) hk2 r2 hT ⟨_, _, rfl, ⟨_, rfl⟩, _, _, rfl, DAt.mono (fun _ _ k => k.imp id (hI _)) _ _ hw, rfl⟩ hq2
    · intro hm
      exact absurd hLs ((List.mem_singleton.mp hm) ▸ Nat.lt_irrefl _)
    · intro b hb
      rw [List.mem_singleton.mp hb]
      exact fresh_base r1 (Nat.le_refl _)
    · rintro i h ⟨⟨ok, ov, he⟩, _⟩ b hb
      rw [List.mem_singleton.mp hb]
      exact noc (show h.get? h1.objs.size = some _ from he) rfl
    · intro b hb
      rcases List.mem_cons.mp hb with rfl | hb
      · exact .inl (List.mem_singleton.mpr rfl)
      · rw [List.mem_singleton.mp hb]; exact .inr ⟨o, g1⟩
    · exact absurd (hlt q hq) ((List.mem_singleton.mp e) ▸ Nat.lt_irrefl _)
    · exact ⟨⟨.none, .none, Heap.get?_push_size _ rfl⟩, hat.push _⟩
end

section
variable {fx : Fx} {nm : List (Str × NameKind)} {W : Wd} {s : St} {h : Heap} {N : Ld} {ow : Nat → Nat} {ms : Str → Option Value} {t : Tok}
theorem OutB.exP {p : Nat} {W W' : Wd} {K : Fl → St → Prop} {Q : Flow → Shared → Prop} (x : ExtP p W W') (h : OutF fx p W K Q) : OutF fx p W' K Q := h.ext x
theorem while_ok (X : FxOk fx) (Y : FenvOk fx nm) {p n : Nat} {R : Rec} (I : RecOk fx R) (J : ExOk fx p R.exs) {q : PySem.Expr} {body : List Stmt} {pos : Pos} {K : Fl → St → Prop}
    (hK : whileI p s.m.length s.N.length (R.tr nm q) (R.exs body) n s K) (r : Rl fx fx.fenv W s h N ow ms) (hp : p ≤ W.σ.length) {Q : Flow → Shared → Prop} {E : Value → Shared → Prop} (hQ : OutF fx p W K Q) :
    wpAny (model PR fx.w) fx.A (exec (.While q body [] pos) fx.fenv) Q E (fx.s h t) := by
  have hpn : p ≤ s.N.length := by rw [← r.len]; exact hp
  generalize s.m.length = k at hK
  generalize s.N.length = nn at hK hpn
  refine wpAny_While ?_
  refine codeAny_whileLoop (fun c s' => ∃ W' s h t N ow ms, s' = fx.s h t ∧ Rl fx fx.fenv W' s h N ow ms ∧ ExtP p W W' ∧ whileI p k nn (R.tr nm q) (R.exs body) c s K) ?_ n ⟨W, s, h, t, N, ow, ms, rfl, r, ExtP.refl hp, hK⟩
  rintro c s' ⟨W1, s1, h1, t1, N1, ow1, ms1, rfl, r1, x1, hK1⟩
  cases c with
  | zero => exact hK1.elim
  | succ c =>
    obtain ⟨W2, s2, ow2, hK2, x2, r2⟩ := canon_ok (show canon p k nn s1 _ from hK1) r1 hpn x1.len
    refine (I.tr _ _ Y.e) q s2 _ hK2 _ _ _ _ _ _ r2 _ _ fun b W3 s3 s₄ hk3 x3 hr3 => ?_
    obtain ⟨h3, t3, N3, ow3, ms3, rfl, r3⟩ := hr3
    have x13 := (x1.trans x2).trans (x3.p x2.len)
    obtain ⟨b1, b2⟩ := br_out hk3
    cases b with
    | true =>
      refine J body s3 _ (b1 rfl) _ _ _ _ _ _ r3 x13.len _ _ fun fl f W4 s4 s₅ hk4 x4 hf4 hr4 => ?_
      obtain ⟨h4, t4, N4, ow4, ms4, rfl, r4⟩ := hr4
      cases fl with
      | next =>
        obtain rfl := hf4
        exact ⟨c, Nat.lt_succ_self _, W4, s4, h4, t4, N4, ow4, ms4, rfl, r4, x13.trans x4, hk4⟩
      | cont =>
        obtain rfl := hf4
        exact ⟨c, Nat.lt_succ_self _, W4, s4, h4, t4, N4, ow4, ms4, rfl, r4, x13.trans x4, hk4⟩
      | brk =>
        obtain rfl := hf4
        exact hQ .next .next W4 s4 _ hk4 (x13.trans x4) rfl ⟨_, _, _, _, _, rfl, r4⟩
      | ret v =>
        obtain ⟨u, rfl, hv⟩ := hf4
        exact hQ (.ret v) (.ret u) W4 s4 _ hk4 (x13.trans x4) ⟨u, rfl, hv⟩ ⟨_, _, _, _, _, rfl, r4⟩
    | false =>
      exact wpAny_execs_nil (hQ .next .next W3 s3 _ (b2 rfl) x13 rfl ⟨_, _, _, _, _, rfl, r3⟩)
end

theorem look_lookup {α : Type} : ∀ (l : List (Str × α)) (x : Str), look l x = l.lookup x
  | [], _ => rfl
  | (y, v) :: r, x => by
    show (match x == y with | true => some v | false => look r x) = (match x == y with | true => some v | false => r.lookup x)
    cases x == y with
    | true => rfl
    | false => exact look_lookup r x
noncomputable def clOf (g : Str → Addr) : List (Str × NameKind) → List (Str × Addr) → List (Str × Addr)
  | [], acc => acc
  | (y, k) :: r, acc => clOf g r (if (k == .free) = true then (y, g y) :: acc else acc)
theorem clOf_keep {g : Str → Addr} {y : Str} : ∀ {names : List (Str × NameKind)} {acc : List (Str × Addr)}, acc.lookup y = some (g y) → (clOf g names acc).lookup y = some (g y)
  | [], _, h => h
  | (z, k) :: r, acc, h => by
    unfold clOf
    refine clOf_keep (names := r) ?_
    split
    · rw [List.lookup_cons]
      split
      · rename_i e; rw [eq_of_beq e]
      · exact h
    · exact h
theorem clOf_mem {g : Str → Addr} {y : Str} : ∀ {names : List (Str × NameKind)} {acc : List (Str × Addr)}, (y, NameKind.free) ∈ names → (clOf g names acc).lookup y = some (g y)
  | (z, k) :: r, acc, h => by
    unfold clOf
    rcases List.mem_cons.mp h with e | h
    · cases e
      refine clOf_keep ?_
      rw [if_pos (by rfl), List.lookup_cons, beq_self_eq_true]
    · exact clOf_mem h
abbrev cellAt (env : Env) (y : Str) : Addr := (env.cells.lookup y).getD 0
theorem closure_eq {scope : Scope} {env : Env} (h : ∀ y, (y, NameKind.free) ∈ scope.names → ∃ c, env.cells.lookup y = some c) : closureFor scope env = pure (clOf (cellAt env) scope.names []) := by
  unfold closureFor
  have go : ∀ (names : List (Str × NameKind)) (acc : List (Str × Addr)), (∀ y, (y, NameKind.free) ∈ names → ∃ c, env.cells.lookup y = some c) →
      (forIn names acc (fun x r => if (x.2 == NameKind.free) = true then do let c ← cellOf env x.1; pure (ForInStep.yield ((x.1, c) :: r)) else pure (ForInStep.yield r)) : Sem _) = pure (clOf (cellAt env) names acc) := by
    intro names
    induction names with
    | nil => intro acc _; rfl
    | cons x r ih =>
      obtain ⟨y, k⟩ := x
      intro acc hh
      rw [List.forIn_cons]
      have ih' := fun acc => ih acc fun y hy => hh y (.tail _ hy)
      by_cases hk : (k == NameKind.free) = true
      · rw [if_pos hk]
        have : k = .free := by cases k <;> first | rfl | cases hk
        subst this
        obtain ⟨c, hc⟩ := hh y (.head _)
        unfold clOf
        rw [if_pos (by rfl), ← ih']
        unfold cellOf
        rw [hc]
        show _ = forIn r ((y, (env.cells.lookup y).getD 0) :: acc) _
        rw [hc]
        rfl
      · rw [if_neg hk]
        unfold clOf
        rw [if_neg hk, ← ih']
        rfl
  exact (congrArg (fun t : Sem (List (Str × Addr)) => t >>= fun s => pure s) (go scope.names [] h)).trans rfl
theorem comp_kind {scope : Scope} {env : Env} {cl : List (Str × Addr)} {C : Addr} (y : Str) : (compEnvC scope cl C env).kindOf y = (look scope.names y).map fun k => if (k == .free && env.scope.kind == .function && env.kindOf y == some .cell) = true then .cell else k := by
  show (relabel scope env).names.lookup y = _
  unfold relabel
  show (scope.names.map _).lookup y = _
  generalize scope.names = names
  induction names with
  | nil => rfl
  | cons x r ih =>
    obtain ⟨z, k⟩ := x
    rw [List.map_cons]
    show List.lookup y ((if _ then (z, NameKind.cell) else (z, k)) :: _) = Option.map _ (match y == z with | true => some k | false => look r y)
    by_cases hz : y = z
    · subst hz
      rw [beq_self_eq_true]
      by_cases hc : (k == .free && env.scope.kind == .function && env.kindOf y == some .cell) = true
      · rw [if_pos hc, List.lookup_cons, beq_self_eq_true]
        show some NameKind.cell = some (if _ then _ else _)
        rw [if_pos hc]
      · rw [if_neg hc, List.lookup_cons, beq_self_eq_true]
        show some k = some (if _ then _ else _)
        rw [if_neg hc]
    · rw [beq_eq_false_iff_ne.mpr hz]
      split
      · rw [List.lookup_cons, beq_eq_false_iff_ne.mpr hz]; exact ih
      · rw [List.lookup_cons, beq_eq_false_iff_ne.mpr hz]; exact ih
theorem scOk_at {nm all : List (Str × NameKind)} : ∀ {names : List (Str × NameKind)}, scOk nm all names = true → ∀ y k, (y, k) ∈ names → k = .local ∧ look all y = some .local ∨ k = .free ∧ look nm y = some .cell ∨ k = .globalImplicit
  | [], _, _, _, h => nomatch h
  | (z, k') :: r, h, y, k, hm => by
    unfold scOk at h
    rw [Bool.and_eq_true] at h
    rcases List.mem_cons.mp hm with e | hm
    · cases e
      have h1 := h.1
      split at h1
      · split at h1
        · exact .inl ⟨rfl, by assumption⟩
        · cases h1
      · split at h1
        · exact .inr (.inl ⟨rfl, by assumption⟩)
        · cases h1
      · exact .inr (.inr rfl)
      · cases h1
    · exact scOk_at h.2 y k hm
theorem capM_look {nm : List (Str × NameKind)} : ∀ {m : List (Str × V)} {y : Str} {v : V}, look (capM nm m) y = some v → look m y = some v ∧ look nm y = some .free
  | [], _, _, h => by cases h
  | (z, u) :: r, y, v, h => by
    show (match y == z with | true => some u | false => look r y) = some v ∧ _
    unfold capM at h
    split at h
    · rename_i hz
      have h' : (match y == z with | true => some u | false => look (capM nm r) y) = some v := h
      cases e : y == z with
      | true =>
        rw [e] at h'
        cases h'
        rw [eq_of_beq e]
        exact ⟨rfl, hz⟩
      | false =>
        rw [e] at h'
        exact capM_look h'
    · rename_i hz
      obtain ⟨h1, h2⟩ := capM_look h
      have : (y == z) = false := by
        rw [beq_eq_false_iff_ne]
        rintro rfl
        exact hz h2
      rw [this]
      exact ⟨h1, h2⟩

structure ScOk (nm' : List (Str × NameKind)) (scope : Scope) (x : Str) : Prop where
  fn : scope.kind = .function
  sc : scOk nm' scope.names scope.names = true
  lx : look scope.names x = some .local
  dbg : look scope.names (Str.ofString "__debug__") = none
noncomputable abbrev cEnv (scope : Scope) (C : Addr) (env : Env) : Env := compEnvC scope (clOf (cellAt env) scope.names []) C env
section
variable {fx : Fx} {env : Env} {σ : List Nat} {I : Ld} {H : Hid} {m : List (Str × V)} {Ns : List O} {h : Heap} {news : Ld} {ow : Nat → Nat} {ms : Str → Option Value} {nm nm' : List (Str × NameKind)} {scope : Scope} {x : Str}
theorem ScOk.free (Sc : ScOk nm' scope x) (hfree : ∀ y, look nm' y = some .cell → env.kindOf y = some .cell) {y : Str} (hy : look scope.names y = some .free) : env.kindOf y = some .cell := by
  rcases scOk_at Sc.sc y .free (look_mem hy) with ⟨h, _⟩ | ⟨_, h⟩ | h
  · cases h
  · exact hfree y h
  · cases h
theorem cEnv_ok (Sc : ScOk nm' scope x) (Y : EnvOk env nm) (C : Addr) : EnvOk (cEnv scope C env) scope.names where
  hk := Sc.fn
  hgl := Y.hgl
  hbl := Y.hbl
  glob := fun y hy => by
    rw [comp_kind, hy]
    rfl
  dbg := Sc.dbg
theorem comp_free (Sc : ScOk nm' scope x) (hk : env.scope.kind = .function) (hfree : ∀ y, look nm' y = some .cell → env.kindOf y = some .cell) {C : Addr} {y : Str} (hy : look scope.names y = some .free) : (cEnv scope C env).kindOf y = some .cell := by
  rw [comp_kind, hy]
  show some (if _ then _ else _) = _
  rw [if_pos]
  rw [hk, Sc.free hfree hy]
  rfl
theorem comp_cellI (Sc : ScOk nm' scope x) {C : Addr} {y : Str} (hy : (cEnv scope C env).kindOf y = some .cell) : look scope.names y = some .free ∧ env.kindOf y = some .cell := by
  rw [comp_kind] at hy
  cases hl : look scope.names y with
  | none => rw [hl] at hy; cases hy
  | some k =>
    rw [hl] at hy
    have hy' : (if (k == .free && env.scope.kind == .function && env.kindOf y == some .cell) = true then NameKind.cell else k) = .cell := Option.some.inj hy
    split at hy'
    · rename_i hc
      simp only [Bool.and_eq_true] at hc
      have : k = .free := by
        have := hc.1.1
        cases k <;> first | rfl | cases this
      exact ⟨by rw [this], eq_of_beq hc.2⟩
    · subst hy'
      rcases scOk_at Sc.sc y .cell (look_mem hl) with ⟨h, _⟩ | ⟨h, _⟩ | h <;> cases h
theorem comp_cl {y : Str} {c : Addr} (hy : look scope.names y = some .free) (hc : env.cells.lookup y = some c) : (clOf (cellAt env) scope.names []).lookup y = some c := by
  rw [clOf_mem (look_mem hy)]
  show some ((env.cells.lookup y).getD 0) = _
  rw [hc]; rfl
/-- into a list's own frame -/
theorem comp_in (Sc : ScOk nm' scope x) (hk : env.scope.kind = .function) (hfree : ∀ y, look nm' y = some .cell → env.kindOf y = some .cell) (r : Rl fx env ⟨σ, I, H⟩ ⟨m, Ns⟩ h news ow ms) {Ia C Da : Nat} {oI oC oD : Obj} {m₂ : Str → Option Value} {v : Value} {d : D}
    (hN : News fx.g fx.L h ([(Ia, oI), (C, oC), (Da, oD)] ++ news)) (hoff : ∀ p ∈ news, ∀ q ∈ ([(Ia, oI), (C, oC), (Da, oD)] : Ld), p.1 ≠ q.1) (hC : LCg.NsObj oC m₂) (hx : m₂ x = some v) (hd : DAt (Kn fx ⟨σ, I, H⟩) d v) :
    Rl fx (cEnv scope C env) ⟨σ, I, ⟨[(Ia, oI), (C, oC), (Da, oD)] ++ ((news.filter fun p => ow p.1 == 1) ++ H.l), ms⟩⟩ ⟨(x, .d d) :: capM scope.names m, Ns⟩ h ([(Ia, oI), (C, oC), (Da, oD)] ++ news) (fun b => if (([(Ia, oI), (C, oC), (Da, oD)] : Ld).any fun q => q.1 == b) = true then 1 else ow b) ms := by
  generalize hown : ([(Ia, oI), (C, oC), (Da, oD)] : Ld) = own at hN hoff ⊢
  have hCo : ((C, oC) : Addr × Obj) ∈ own := by rw [← hown]; exact .tail _ (.head _)
  have hCL : C ≠ fx.L := (hN _ (List.mem_append_left _ hCo)).2.1
  have hnot : ∀ b o, ((b, o) : Addr × Obj) ∈ news → ¬ (own.any fun q => q.1 == b) = true := fun b o mm e => by
    obtain ⟨q, hq, e⟩ := List.any_eq_true.mp e
    exact hoff _ mm q hq (eq_of_beq e).symm
  have hin : ∀ q ∈ own, (own.any fun p => p.1 == q.1) = true := fun q hq => List.any_eq_true.mpr ⟨q, hq, beq_self_eq_true _⟩
  refine ⟨r.kbg, r.F, hN, fun p hp => ?_, r.len, fun i o a h1 h2 => (r.obj i o a h1 h2).hid (fun b e ⟨o, mm⟩ => (if_neg (hnot b o mm)).trans e) (fun b o _ mm => List.mem_append_right _ mm), fun y w hy => ?_, ⟨fun y hy => ?_, fun p hp => ?_⟩, fun _ => rfl⟩
  · have := r.sub p hp
    exact ⟨List.mem_append_right _ this.1, (if_neg (hnot p.1 p.2 this.1)).trans this.2⟩
  · have hy' : (match y == x with | true => some (V.d d) | false => look (capM scope.names m) y) = some w := hy
    cases e : y == x with
    | true =>
      rw [e] at hy'
      cases hy'
      obtain rfl := eq_of_beq e
      refine ⟨?_, v, hd, .comp C oC m₂ ?_ rfl (List.mem_append_left _ hCo) hC hx⟩
      · rw [beq_eq_false_iff_ne]
        intro q
        have h1 := Sc.lx
        rw [q] at h1
        have h2 := Sc.dbg
        rw [show Str.ofString "__debug__" = (("__debug__" : Str)) from rfl, h1] at h2
        cases h2
      · rw [comp_kind, Sc.lx]; rfl
    | false =>
      rw [e] at hy'
      obtain ⟨h1, h2⟩ := capM_look hy'
      obtain ⟨hdb, u, hu, hr⟩ := r.nm y w h1
      have hcell := Sc.free hfree h2
      refine ⟨hdb, u, hu.hid, ?_⟩
      cases hr with
      | loc a b c => rw [hcell] at a; cases a
      | comp _ _ _ a b c d e => rw [hcell] at a; cases a
      | cell c o a b mm e d =>
        exact .cell c o (.inl (comp_free Sc hk hfree h2)) (comp_cl h2 b) (List.mem_append_right _ mm) ((if_neg (hnot c o mm)).trans e) d
  · obtain ⟨h1, h2⟩ := comp_cellI Sc hy
    obtain ⟨c, o, w, a, mm, e, d⟩ := r.cl.1.1 y h2
    exact ⟨c, o, w, comp_cl h1 a, List.mem_append_right _ mm, (if_neg (hnot c o mm)).trans e, d⟩
  · rcases List.mem_append.mp hp with hp | hp
    · exact ⟨List.mem_append_left _ hp, if_pos (hin p hp), fun q => absurd q hCL⟩
    · rcases List.mem_append.mp hp with hp | hp
      · obtain ⟨h1, h2⟩ := List.mem_filter.mp hp
        exact ⟨List.mem_append_right _ h1, (if_neg (hnot p.1 p.2 h1)).trans (eq_of_beq h2), fun q => absurd q hCL⟩
      · obtain ⟨h1, h2, _⟩ := r.cl.1.2 p hp
        exact ⟨List.mem_append_right _ h1, (if_neg (hnot p.1 p.2 h1)).trans h2, fun q => absurd q hCL⟩
/-- and out of it -/
theorem comp_out {cenv : Env} (r : Rl fx env ⟨σ, I, H⟩ ⟨m, Ns⟩ h news ow ms) {own : Ld} (hoff : ∀ p ∈ news, ∀ q ∈ own, p.1 ≠ q.1) {W1 : Wd} {m1 : List (Str × V)} {N1 : List O} {h1 : Heap} {N' : Ld} {ow1 : Nat → Nat} {ms1 : Str → Option Value} (r1 : Rl fx cenv W1 ⟨m1, N1⟩ h1 N' ow1 ms1) (hcL : cenv.locals ≠ fx.L)
    (hσ : ∃ t, W1.σ = σ ++ t) (hI : ∀ p ∈ I, p ∈ W1.I) (hH : W1.H = ⟨own ++ ((news.filter fun p => ow p.1 == 1) ++ H.l), ms⟩) (hb : (Nat.ble Ns.length N1.length && below Ns.length (refsN (N1.take Ns.length))) = true) :
    ms1 = ms ∧ (∀ q ∈ own, q ∈ N') ∧ Rl fx env ⟨σ, W1.I, H⟩ ⟨m, N1.take Ns.length⟩ h1 (N'.filter fun p => !(own.any fun q => q.1 == p.1)) ow1 ms := by
  rw [Bool.and_eq_true] at hb
  have hn : Ns.length ≤ N1.length := Nat.le_of_ble_eq_true hb.1
  have hpin : ms1 = ms := by have := r1.cl.2 hcL; rw [hH] at this; exact this
  have hid := r1.cl.1.2
  rw [hH] at hid
  have ho1 : ∀ q ∈ own, ow1 q.1 = 1 := fun q hq => (hid q (List.mem_append_left _ hq)).2.1
  have mem : ∀ b o, ((b, o) : Addr × Obj) ∈ N' → (∀ q ∈ own, b ≠ q.1) → ((b, o) : Addr × Obj) ∈ N'.filter fun p => !(own.any fun q => q.1 == p.1) := fun b o mm hq => by
    refine List.mem_filter.mpr ⟨mm, ?_⟩
    rw [Bool.not_eq_true', Bool.eq_false_iff]
    intro e
    obtain ⟨q, hq', e⟩ := List.any_eq_true.mp e
    exact hq q hq' (eq_of_beq e).symm
  have one : ∀ b o, ((b, o) : Addr × Obj) ∈ news → ow b = 1 → ((b, o) : Addr × Obj) ∈ (N'.filter fun p => !(own.any fun q => q.1 == p.1)) ∧ ow1 b = 1 := fun b o mm e => by
    obtain ⟨h1, h2, _⟩ := hid (b, o) (List.mem_append_right _ (List.mem_append_left _ (List.mem_filter.mpr ⟨mm, by simpa using e⟩)))
    exact ⟨mem b o h1 (hoff (b, o) mm), h2⟩
  have off : ∀ b, ow1 b ≠ 1 → ∀ q ∈ own, b ≠ q.1 := fun b hb q hq e => hb (e ▸ ho1 q hq)
  obtain ⟨t, ht⟩ := hσ
  have hsl : σ.length = Ns.length := r.len
  have htake : W1.σ.take Ns.length = σ := by rw [ht, ← hsl, List.take_left]
  subst hpin
  refine ⟨rfl, fun q hq => (hid q (List.mem_append_left _ hq)).1, r.kbg, r1.F, fun p hp => r1.Ns p (List.mem_filter.mp hp).1, fun p hp => ?_, ?_, fun i o a h1 h2 => ?_, fun y w hy => ?_, ⟨fun y hy => ?_, fun p hp => ?_⟩, r.cl.2⟩
  · have := r1.sub p hp
    exact ⟨mem _ _ this.1 (off _ (by rw [this.2]; omega)), this.2⟩
  · show σ.length = (N1.take Ns.length).length
    rw [List.length_take, hsl]; omega
  · have h2' : nth W1.σ i = some a := by
      rw [ht]
      exact nth_app h2
    have ho := r1.obj i o a (nth_take h1) h2'
    obtain ⟨σ1, I1, H1⟩ := W1
    have ho2 := (ho.cut (n := Ns.length) (below_nth hb.2 h1))
    have hc2 : σ1.take Ns.length = σ := htake
    rw [hc2] at ho2
    exact ho2.hid (fun b e _ => e) (fun b o e mm => mem b o mm (off b (by rw [e]; omega)))
  · obtain ⟨hdb, u, hu, hr⟩ := r.nm y w hy
    refine ⟨hdb, u, VAt.ext (W := ⟨σ, I, H⟩) (W' := ⟨σ, W1.I, H⟩) ⟨⟨[], by simp⟩, hI, rfl⟩ hu, ?_⟩
    cases hr with
    | loc a b c => exact .loc a b c
    | comp C oC m₂ a b c d e => exact .comp C oC m₂ a b c d e
    | cell c o a b mm e d => exact .cell c o a b (one c o mm e).1 (one c o mm e).2 d
  · obtain ⟨c, o, w, a, mm, e, d⟩ := r.cl.1.1 y hy
    exact ⟨c, o, w, a, (one c o mm e).1, (one c o mm e).2, d⟩
  · obtain ⟨mm, e, d⟩ := r.cl.1.2 p hp
    exact ⟨(one p.1 p.2 mm e).1, (one p.1 p.2 mm e).2, d⟩
end

section
variable {fx : Fx} {env : Env} {σ : List Nat} {I₀ : Ld} {H : Hid} {m : List (Str × V)} {ms : Str → Option Value} {nm nm' : List (Str × NameKind)} {scope : Scope} {x : Str} {R : Rec} {l : List D} {n : Nat} {elt ct : PySem.Expr} {hh : Heap} {tt : Tok} {S : Ld → Prop} {P : Nat → Value → Prop} {Fin : List Value → Ld → Prop} {K : List D → List O → Prop}
theorem off_of {Ia C Da : Nat} {oI oC oD : Obj} {news : Ld} (off : LCg.Off3 Ia C Da news) : ∀ p ∈ news, ∀ q ∈ ([(Ia, oI), (C, oC), (Da, oD)] : Ld), p.1 ≠ q.1 := fun p hp q hq => by
  have := off.mem p hp
  rcases List.mem_cons.mp hq with rfl | hq
  · exact this.1
  · rcases List.mem_cons.mp hq with rfl | hq
    · exact this.2.1
    · rw [List.mem_singleton.mp hq]; exact this.2.2
theorem off_to {Ia C Da : Nat} {oI oC oD : Obj} {N' : Ld} : LCg.Off3 Ia C Da (N'.filter fun p => !(([(Ia, oI), (C, oC), (Da, oD)] : Ld).any fun q => q.1 == p.1)) := LCg.Off3.of fun p hp => by
  have := drop_off p hp
  exact ⟨this (Ia, oI) (.head _), this (C, oC) (.tail _ (.head _)), this (Da, oD) (.tail _ (.tail _ (.head _)))⟩
theorem news_to {h1 : Heap} {N' own : Ld} (N1 : News fx.g fx.L h1 N') (ho : ∀ q ∈ own, q ∈ N') : News fx.g fx.L h1 (own ++ N'.filter fun p => !(own.any fun q => q.1 == p.1)) := fun p hp => (List.mem_append.mp hp).elim (fun hp => N1 p (ho p hp)) fun hp => N1 p (List.mem_filter.mp hp).1
/-- what the list's own frame is asked for -/
structure CompA (fx : Fx) (env : Env) (nm' : List (Str × NameKind)) (scope : Scope) (x : Str) (R : Rec) : Prop where
  sc : ScOk nm' scope x
  hk : env.scope.kind = .function
  free : ∀ y, look nm' y = some .cell → env.kindOf y = some .cell
  ev : ∀ C, EvOk fx (cEnv scope C env) (R.ev scope.names)
  tr : ∀ C, TrOk fx (cEnv scope C env) (R.tr scope.names)
theorem restT (X : CompA fx env nm' scope x R) (hP : ∀ i v d, P i v → nth l i = some d → DAt (Kn fx ⟨σ, I₀, H⟩) d v)
    (hS : ∀ I' Ns h news ow, (∀ q ∈ I₀, q ∈ I') → Rl fx env ⟨σ, I', H⟩ ⟨m, Ns⟩ h news ow ms → S news)
    (hF : ∀ ys news I' Ns ow ds h, (∀ q ∈ I₀, q ∈ I') → Rl fx env ⟨σ, I', H⟩ ⟨m, Ns⟩ h news ow ms → DsAt (Kn fx ⟨σ, I', H⟩) ds ys → K ds Ns → Fin ys news) :
    ∀ k i ys news I' Ns ow ds h, i + k = l.length → (∀ q ∈ I₀, q ∈ I') → Rl fx env ⟨σ, I', H⟩ ⟨m, Ns⟩ h news ow ms → DsAt (Kn fx ⟨σ, I', H⟩) ds ys → Ns.length = n → compI n (R.tr scope.names ct) (R.ev scope.names elt) x (capM scope.names m) (l.drop i) Ns ds K →
      LCt.CompRestT PR fx.w fx.A fx.g fx.L ms env ct elt x scope (clOf (cellAt env) scope.names []) (fx.s hh tt) S P Fin k i ys news
  | 0, i, ys, news, I', Ns, ow, ds, h, hk, hI, r, hd, hn, hc => by
    rw [List.drop_eq_nil_of_le (by omega)] at hc
    exact LCt.CompRestT.zero (hF ys news I' Ns ow ds h hI r hd hc)
  | k + 1, i, ys, news, I', Ns, ow, ds, h, hk, hI, r, hd, hn, hc => by
    have hlt : i < l.length := by omega
    rw [List.drop_eq_getElem_cons hlt] at hc
    refine LCt.CompRestT.succ fun v Ia oI C oC Da m₂ h1 tk E' hPv hC hx F N off ne => ?_
    have r0 : Rl fx env ⟨σ, I', H⟩ ⟨m, Ns⟩ h1 news ow ms := r.grow (ow' := ow) F (fun p hp => N p (List.mem_cons_of_mem _ (List.mem_cons_of_mem _ (List.mem_cons_of_mem _ hp)))) (fun _ h => h) (fun _ _ => rfl)
    have hdv := hP i v l[i] hPv (nth_lt hlt)
    have hdv' : DAt (Kn fx ⟨σ, I', H⟩) l[i] v := DAt.mono (fun _ _ k => k.imp id (hI _)) _ _ hdv
    have hoff := off_of (oI := oI) (oC := oC) (oD := LCg.lst ys) off
    have rp := comp_in X.sc X.hk X.free r0 (Ia := Ia) (C := C) (Da := Da) (oI := oI) (oC := oC) (oD := LCg.lst ys) N hoff hC hx hdv'
    have hcL : (cEnv scope C env).locals ≠ fx.L := (N (C, oC) (.tail _ (.head _))).2.1
    have hc' : R.tr scope.names ct ⟨(x, .d l[i]) :: capM scope.names m, Ns⟩ fun c s => br c (R.ev scope.names elt s fun y s => opt (toD s.N y) fun z => ok (Nat.ble n z.2.length && below n (refsN (z.2.take n))) (compI n (R.tr scope.names ct) (R.ev scope.names elt) x (capM scope.names m) (l.drop (i + 1)) (z.2.take n) (ds ++ [z.1]) K)) (ok (Nat.ble n s.N.length && below n (refsN (s.N.take n))) (compI n (R.tr scope.names ct) (R.ev scope.names elt) x (capM scope.names m) (l.drop (i + 1)) (s.N.take n) ds K)) := hc
    refine X.tr C ct _ _ hc' _ _ _ _ _ _ rp _ _ fun c W1 s1 s₂ hk1 x1 hr1 => ?_
    obtain ⟨h2, t2, N2, ow2, ms2, rfl, r2⟩ := hr1
    obtain ⟨b1, b2⟩ := br_out hk1
    cases c with
    | true =>
      rw [if_pos rfl]
      refine X.ev C elt _ _ (b1 rfl) _ _ _ _ _ _ r2 _ _ fun y u W3 s3 s₄ hk3 x3 hv3 hr3 => ?_
      obtain ⟨h3, t3, N3, ow3, ms3, rfl, r3⟩ := hr3
      obtain ⟨⟨z, Nz⟩, hz, hk4⟩ := opt_out hk3
      obtain ⟨hb, hk4⟩ := ok_out hk4
      obtain ⟨W4, ow4, x4, r4, d4⟩ := toD_ok hz r3 hv3
      have x14 := (x1.trans x3).trans x4
      obtain ⟨e1, e2, e3⟩ := comp_out (cenv := cEnv scope C env) r0 hoff r4 hcL x14.σ x14.I x14.H (by rw [hn]; exact hb)
      rw [hn] at e3
      have hI4 : ∀ q ∈ I₀, q ∈ W4.I := fun q hq => x14.I q (hI q hq)
      have hk0 : ∀ a o, Kn fx W4 a o → Kn fx ⟨σ, W4.I, H⟩ a o := fun _ _ k => k
      refine ⟨h3, t3, _, rfl, e1 ▸ r4.F, news_to r4.Ns e2, off_to, hS _ _ _ _ _ hI4 e3, ?_⟩
      refine restT X hP hS hF k (i + 1) (ys ++ [u]) _ W4.I _ ow4 (ds ++ [z]) h3 (by omega) hI4 e3 (DsAt.snoc (DAt.mono hk0 _ _ d4) (DsAt.mono (fun _ _ k => k.imp id (x14.I _)) _ _ hd)) ?_ hk4
      have := e3.len
      have q := r0.len
      rw [← this, q, hn]
    | false =>
      rw [if_neg (by decide)]
      obtain ⟨hb, hk4⟩ := ok_out (b2 rfl)
      obtain ⟨e1, e2, e3⟩ := comp_out (cenv := cEnv scope C env) r0 hoff (m1 := s1.m) (N1 := s1.N) r2 hcL x1.σ x1.I x1.H (by rw [hn]; exact hb)
      rw [hn] at e3
      have hI4 : ∀ q ∈ I₀, q ∈ W1.I := fun q hq => x1.I q (hI q hq)
      refine ⟨h2, t2, _, rfl, e1 ▸ r2.F, news_to r2.Ns e2, off_to, hS _ _ _ _ _ hI4 e3, ?_⟩
      refine restT X hP hS hF k (i + 1) ys _ W1.I _ ow2 ds h2 (by omega) hI4 e3 (DsAt.mono (fun _ _ k => k.imp id (x1.I _)) _ _ hd) ?_ hk4
      have := e3.len
      have q := r0.len
      rw [← this, q, hn]
theorem restU (X : CompA fx env nm' scope x R) (hP : ∀ i v d, P i v → nth l i = some d → DAt (Kn fx ⟨σ, I₀, H⟩) d v)
    (hS : ∀ I' Ns h news ow, (∀ q ∈ I₀, q ∈ I') → Rl fx env ⟨σ, I', H⟩ ⟨m, Ns⟩ h news ow ms → S news)
    (hF : ∀ ys news I' Ns ow ds h, (∀ q ∈ I₀, q ∈ I') → Rl fx env ⟨σ, I', H⟩ ⟨m, Ns⟩ h news ow ms → DsAt (Kn fx ⟨σ, I', H⟩) ds ys → K ds Ns → Fin ys news) :
    ∀ k i ys news I' Ns ow ds h, i + k = l.length → (∀ q ∈ I₀, q ∈ I') → Rl fx env ⟨σ, I', H⟩ ⟨m, Ns⟩ h news ow ms → DsAt (Kn fx ⟨σ, I', H⟩) ds ys → Ns.length = n → compI n (fun s K => K true s) (R.ev scope.names elt) x (capM scope.names m) (l.drop i) Ns ds K →
      LCg.CompRest PR fx.w fx.A fx.g fx.L ms env elt x scope (clOf (cellAt env) scope.names []) (fx.s hh tt) S P Fin k i ys news
  | 0, i, ys, news, I', Ns, ow, ds, h, hk, hI, r, hd, hn, hc => by
    rw [List.drop_eq_nil_of_le (by omega)] at hc
    exact LCg.CompRest.zero (hF ys news I' Ns ow ds h hI r hd hc)
  | k + 1, i, ys, news, I', Ns, ow, ds, h, hk, hI, r, hd, hn, hc => by
    have hlt : i < l.length := by omega
    rw [List.drop_eq_getElem_cons hlt] at hc
    refine LCg.CompRest.succ fun v Ia oI C oC Da m₂ h1 tk E' hPv hC hx F N off ne => ?_
    have r0 : Rl fx env ⟨σ, I', H⟩ ⟨m, Ns⟩ h1 news ow ms := r.grow (ow' := ow) F (fun p hp => N p (List.mem_cons_of_mem _ (List.mem_cons_of_mem _ (List.mem_cons_of_mem _ hp)))) (fun _ h => h) (fun _ _ => rfl)
    have hdv := hP i v l[i] hPv (nth_lt hlt)
    have hdv' : DAt (Kn fx ⟨σ, I', H⟩) l[i] v := DAt.mono (fun _ _ k => k.imp id (hI _)) _ _ hdv
    have hoff := off_of (oI := oI) (oC := oC) (oD := LCg.lst ys) off
    have rp := comp_in X.sc X.hk X.free r0 (Ia := Ia) (C := C) (Da := Da) (oI := oI) (oC := oC) (oD := LCg.lst ys) N hoff hC hx hdv'
    have hcL : (cEnv scope C env).locals ≠ fx.L := (N (C, oC) (.tail _ (.head _))).2.1
    have hc' : R.ev scope.names elt ⟨(x, .d l[i]) :: capM scope.names m, Ns⟩ fun y s => opt (toD s.N y) fun z => ok (Nat.ble n z.2.length && below n (refsN (z.2.take n))) (compI n (fun s K => K true s) (R.ev scope.names elt) x (capM scope.names m) (l.drop (i + 1)) (z.2.take n) (ds ++ [z.1]) K) := hc
    refine X.ev C elt _ _ hc' _ _ _ _ _ _ rp _ _ fun y u W3 s3 s₄ hk3 x3 hv3 hr3 => ?_
    obtain ⟨h3, t3, N3, ow3, ms3, rfl, r3⟩ := hr3
    obtain ⟨⟨z, Nz⟩, hz, hk4⟩ := opt_out hk3
    obtain ⟨hb, hk4⟩ := ok_out hk4
    obtain ⟨W4, ow4, x4, r4, d4⟩ := toD_ok hz r3 hv3
    have x14 := x3.trans x4
    obtain ⟨e1, e2, e3⟩ := comp_out (cenv := cEnv scope C env) r0 hoff r4 hcL x14.σ x14.I x14.H (by rw [hn]; exact hb)
    rw [hn] at e3
    have hI4 : ∀ q ∈ I₀, q ∈ W4.I := fun q hq => x14.I q (hI q hq)
    have hk0 : ∀ a o, Kn fx W4 a o → Kn fx ⟨σ, W4.I, H⟩ a o := fun _ _ k => k
    refine ⟨h3, t3, _, rfl, e1 ▸ r4.F, news_to r4.Ns e2, off_to, hS _ _ _ _ _ hI4 e3, ?_⟩
    refine restU X hP hS hF k (i + 1) (ys ++ [u]) _ W4.I _ ow4 (ds ++ [z]) h3 (by omega) hI4 e3 (DsAt.snoc (DAt.mono hk0 _ _ d4) (DsAt.mono (fun _ _ k => k.imp id (x14.I _)) _ _ hd)) ?_ hk4
    have := e3.len
    have q := r0.len
    rw [← this, q, hn]
end

noncomputable def testsOf (R : Rec) (scope : Scope) (ifs : List PySem.Expr) : St → (Bool → St → Prop) → Prop := match ifs with | [] => fun s K => K true s | [c] => R.tr scope.names c | _ => fun _ _ => False
section
variable {fx : Fx} {env : Env} {W W1 : Wd} {s : St} {h : Heap} {N : Ld} {ow : Nat → Nat} {ms : Str → Option Value} {nm nm' : List (Str × NameKind)} {scope : Scope} {x : Str} {R : Rec} {l : List D} {elt : PySem.Expr} {t : Tok} {E : Value → Shared → Prop}
/-- a list that was made, and the frame that made it -/
noncomputable def CompF (fx : Fx) (env : Env) (W1 : Wd) (m : List (Str × V)) (K : List D → List O → Prop) (RR : Value → Addr → Result → Shared → Prop) : Prop :=
  ∀ (Da C : Nat) h tk (m' ms : Str → Option Value) I' Ns ds ow news ys, (∀ q ∈ W1.I, q ∈ I') → Rl fx env ⟨W1.σ, I', W1.H⟩ ⟨m, Ns⟩ h news ow ms → DsAt (Kn fx ⟨W1.σ, I', W1.H⟩) ds ys → K ds Ns → News fx.g fx.L h ((Da, LCg.lst ys) :: news) → (∀ p ∈ news, p.1 ≠ Da) → h.Ns C m' → fx.g.get? C = none → C ≠ fx.L → C ≠ Da → (∀ p ∈ news, p.1 ≠ C) → RR (.ref Da) C (.ok .next) (fx.s h tk)
theorem comp_blk (X : CompA fx env nm' scope x R) {kd : Nat} (hkd : kd ≠ 0 ∧ kd ≠ 1 ∧ kd ≠ 2) {u : Value} (hi : ItAt fx W1 h N kd l u) (r : Rl fx env W1 s h N ow ms) (hl : l.length ≤ 1000) {ifs : List PySem.Expr} (hifs : ifs.length ≤ 1) {px : Pos} {it : PySem.Expr} {pos : Pos} {K : List D → List O → Prop}
    (hK : compI s.N.length (testsOf R scope ifs) (R.ev scope.names elt) x (capM scope.names s.m) l s.N [] K) {RR : Value → Addr → Result → Shared → Prop} (hR : CompF fx env W1 s.m K RR) :
    wpAny (model PR fx.w) fx.A (pyIter u) (fun it' s₂ => wpAny (model PR fx.w) fx.A (PySem.newList []) (fun acc s₃ => wpAny (model PR fx.w) fx.A (newFunctionEnv scope env.globals (clOf (cellAt env) scope.names []) [] env.qual none .none (some env)) (fun cenv s₄ =>
      codeAny (model PR fx.w) fx.A (.compStart (.ListComp elt [⟨.Name x px, it, ifs, 0⟩] scope pos) 0 it' acc { cenv with scope := relabel scope env }) (RR acc cenv.locals) s₄) E s₃) E s₂) E (fx.s h t) := by
  have hcell : ∀ y ∈ scope.names, y.2 ≠ .cell := fun y hy e => by
    rcases scOk_at X.sc.sc y.1 y.2 hy with ⟨q, _⟩ | ⟨q, _⟩ | q <;> (rw [e] at q; cases q)
  have hxl : scope.names.lookup x = some .local := by rw [← look_lookup]; exact X.sc.lx
  obtain ⟨σ, I, H⟩ := W1
  have blk : ∀ (Ia : Nat) (oI : Obj) {fp : List Addr} {P : Nat → Value → Prop} {St' : Nat → Heap → Prop} (S : Ld → Prop) (Wk : Walks PR fx.w fx.A Ia fp [Ia] l.length P St'), Ia = h.objs.size → (∀ i h, St' i h → ∃ o, h.get? Ia = some o) →
      (∀ i h h' o nw, St' i h → h.get? Ia = some o → h'.get? Ia = some o → (∀ b o, fx.g.get? b = some o → h'.get? b = some o) → News fx.g fx.L h' nw → S nw → St' i h') → St' 0 (h.push oI) → (∀ b ∈ fp, b < (h.push oI).objs.size) →
      (∀ i v d, P i v → nth l i = some d → DAt (Kn fx ⟨σ, I, H⟩) d v) → (∀ I' Ns h news ow ms, (∀ q ∈ I, q ∈ I') → Rl fx env ⟨σ, I', H⟩ ⟨s.m, Ns⟩ h news ow ms → S news) →
      wpAny (model PR fx.w) fx.A (PySem.newList []) (fun acc s₃ => wpAny (model PR fx.w) fx.A (newFunctionEnv scope env.globals (clOf (cellAt env) scope.names []) [] env.qual none .none (some env)) (fun cenv s₄ =>
      codeAny (model PR fx.w) fx.A (.compStart (.ListComp elt [⟨.Name x px, it, ifs, 0⟩] scope pos) 0 (.ref Ia) acc { cenv with scope := relabel scope env }) (RR acc cenv.locals) s₄) E s₃) E (fx.s (h.push oI) t) := by
    intro Ia oI fp P St' S Wk hIa hIo hSt hst hfp hP hS
    have r0 : Rl fx env ⟨σ, I, H⟩ s (h.push oI) N ow ms := r.grow (ow' := ow) (r.F.push _) (r.Ns.grown fun _ _ e => Heap.get?_push_of_some _ e) (fun _ h => h) (fun _ _ => rfl)
    have hsz : l.length ≤ sizeLine := by rw [sizeLine_eq]; omega
    have hIL : fx.L ≠ Ia := by rw [hIa]; exact Nat.ne_of_lt r.F.ns.lt
    have hI0 : fx.g.get? Ia = none := by rw [hIa]; exact next_is_new r.F
    have hoff : ∀ p ∈ N, p.1 ≠ Ia := fun p hp => by rw [hIa]; exact Nat.ne_of_lt (Heap.lt_size (r.Ns p hp).1)
    have fin : ∀ ys news I' Ns ow ds h', (∀ q ∈ I, q ∈ I') → Rl fx env ⟨σ, I', H⟩ ⟨s.m, Ns⟩ h' news ow ms → DsAt (Kn fx ⟨σ, I', H⟩) ds ys → K ds Ns → (fun (ys : List Value) (news : Ld) => ∃ I' Ns ow ds h', (∀ q ∈ I, q ∈ I') ∧ Rl fx env ⟨σ, I', H⟩ ⟨s.m, Ns⟩ h' news ow ms ∧ DsAt (Kn fx ⟨σ, I', H⟩) ds ys ∧ K ds Ns) ys news := fun ys news I' Ns ow ds h' a b c d => ⟨I', Ns, ow, ds, h', a, b, c, d⟩
    have rr : ∀ (D C : Nat) h tk m' ys news', Fr fx.g fx.L h ms → News fx.g fx.L h ((D, LCg.lst ys) :: news') → LCg.Off1 D news' → h.Ns C m' → fx.g.get? C = none → fx.g.get? D = none → C ≠ fx.L → D ≠ fx.L → C ≠ D → (∀ p ∈ news', p.1 ≠ C) → (∃ I' Ns ow ds h', (∀ q ∈ I, q ∈ I') ∧ Rl fx env ⟨σ, I', H⟩ ⟨s.m, Ns⟩ h' news' ow ms ∧ DsAt (Kn fx ⟨σ, I', H⟩) ds ys ∧ K ds Ns) → RR (.ref D) C (.ok .next) (fx.s h tk) := by
      rintro D C h2 tk m' ys news' F2 N2 o1 hn hC0 _ hCL _ hCD oC ⟨I', Ns, ow2, ds, h', a1, a2, a3, a4⟩
      have r2 : Rl fx env ⟨σ, I', H⟩ ⟨s.m, Ns⟩ h2 news' ow2 ms := a2.grow (ow' := ow2) F2 (fun p hp => N2 p (List.mem_cons_of_mem _ hp)) (fun _ h => h) (fun _ _ => rfl)
      have offD : ∀ {l : Ld}, LCg.Off1 D l → ∀ p ∈ l, p.1 ≠ D := by
        intro l
        induction l with
        | nil => intro _ p hp; exact nomatch hp
        | cons q r ih =>
          intro o p hp
          rcases List.mem_cons.mp hp with rfl | hp
          · exact o.1
          · exact ih o.2 p hp
      exact hR D C h2 tk m' ms I' Ns ds ow2 news' ys a1 r2 a3 a4 N2 (offD o1) hn hC0 hCL hCD oC
    match ifs, hifs, hK with
    | [], _, hK =>
      exact LCg.block_U (RR := RR) Wk hsz hIo hSt hcell X.sc.fn hxl hst hfp r0.F r0.Ns hIL hI0 hoff (hS I s.N _ N ow ms (fun _ h => h) r0)
        (restU X hP (fun I' Ns h news ow => hS I' Ns h news ow ms) fin l.length 0 [] N I s.N ow [] _ (by omega) (fun _ h => h) r0 rfl rfl hK) rr
    | [ct], _, hK =>
      exact LCt.block_T (RR := RR) Wk hsz hIo hSt hcell X.sc.fn hxl hst hfp r0.F r0.Ns hIL hI0 hoff (hS I s.N _ N ow ms (fun _ h => h) r0)
        (restT X hP (fun I' Ns h news ow => hS I' Ns h news ow ms) fin l.length 0 [] N I s.N ow [] _ (by omega) (fun _ h => h) r0 rfl rfl hK) rr
  cases hi with
  | lst a o us k l kd g1 g2 g3 g4 =>
    have hlst := r.lst g1 g2 g3
    have hlt : a < h.objs.size := Heap.lt_size (r.get g1)
    refine wpAny_pyIter_list hlst ?_
    have hlen : us.toArray.size = l.length := by rw [List.size_toArray, g4.len]
    refine blk h.objs.size _ (fun nw => LCg.SrcAt fx.g a us.toArray nw) (hlen ▸ Walks.list rfl h.objs.size a (Nat.ne_of_lt hlt) us.toArray) rfl (fun i h st => by obtain ⟨o, e, _⟩ := st.1; exact ⟨o, e⟩) LCg.list_st ⟨⟨_, Heap.get?_push_size _ rfl, rfl, rfl⟩, hlst.push _⟩ (fun b hb => ?_) (fun i v d hv hd => ?_) (fun I' Ns h news ow ms hI r' => ?_)
    · rw [Heap.size_push]
      rcases List.mem_cons.mp hb with rfl | hb
      · exact Nat.lt_succ_self _
      · rw [List.mem_singleton.mp hb]; exact Nat.lt_succ_of_lt hlt
    · obtain ⟨w, h3, h4⟩ := g4.get hd
      have hv' : us.toArray[i]? = some v := hv
      rw [List.getElem?_toArray, h3] at hv'
      cases hv'
      exact h4
    · rcases g1 with g1 | g1
      · exact .inl ⟨o, r'.kbg _ _ g1, g2, k, g3⟩
      · exact .inr ⟨o, (r'.sub _ (hI _ g1)).1, g2, k, g3⟩
  | tup => exact absurd rfl hkd.1
  | enm => exact absurd rfl hkd.2.2
  | itm => exact absurd rfl hkd.2.2
  | rng a y z w t2 u2 v2 n2 kd g1 g2 g3 g4 g5 =>
    obtain rfl : w = 1 := g5.elim (fun q => absurd q hkd.2.1) fun q => q.2
    refine wpAny_pyIter_range g1 g2 ?_
    have hlen : (rangeL y 1 n2).length = n2 := rangeL_len
    refine blk h.objs.size { cls := .type "range_iterator", data := .fields #[rawInt y, rawInt (Builtin.Range.rangeSize y z 1), rawInt 1] } (fun _ => True) (hlen.symm ▸ LCg.range_walks rfl y n2) rfl (fun i h st => ⟨_, st⟩) LCg.range_st (by show IsRangeIter _ _ _ _ _; rw [g3, hlen]; simpa using Heap.get?_push_size _ rfl) (fun b hb => ?_) (fun i v d hv hd => ?_) (fun _ _ _ _ _ _ _ _ => trivial)
    · rw [List.mem_singleton.mp hb, Heap.size_push]
      exact Nat.lt_succ_self _
    · obtain ⟨t3, rfl⟩ := hv
      obtain rfl := rangeL_get hd
      exact ⟨t3, by rw [Int.mul_one]⟩
end

section
variable {fx : Fx} {env : Env} {W : Wd} {s : St} {h : Heap} {N : Ld} {ow : Nat → Nat} {ms : Str → Option Value} {nm nm' : List (Str × NameKind)} {R : Rec} {t : Tok}
theorem itKind_false (it : PySem.Expr) (h : Nat.beq (itKind false it) 2 = false) : itKind false it ≠ 0 ∧ itKind false it ≠ 1 ∧ itKind false it ≠ 2 := by
  rcases itKind_is false it with e | e | e
  · rw [e]; decide
  · rw [e] at h; exact absurd h (by decide)
  · rw [e]; decide
theorem comp_hs {c3 : Bool} {R' : PySem.Expr → St → (V → St → Prop) → Prop} {it : PySem.Expr} {K : List D → St → Prop} {env : Env} (hK : iterK c3 R' it s K) : ∀ x, foldedSetIterable it env x = pure x := by
  intro x
  cases it <;> first | rfl | exact hK.elim
/-- the parts of a list made by a loop -/
theorem compS_out {elt : PySem.Expr} {scope : Scope} {K : V → St → Prop} {gens : List Comprehension} (hK : compS R nm nm' elt scope s K gens) : ∃ x px it ifs, gens = [⟨.Name x px, it, ifs, 0⟩] ∧ ScOk nm' scope x ∧ ifs.length ≤ 1 ∧ (itKind false it ≠ 0 ∧ itKind false it ≠ 1 ∧ itKind false it ≠ 2) ∧
    iterK false (R.ev nm) it s fun l s => ok (Nat.ble l.length 1000) (compI s.N.length (testsOf R scope ifs) (R.ev scope.names elt) x (capM scope.names s.m) l s.N [] fun ys N => K (.ref N.length) ⟨s.m, N ++ [.list ys]⟩) := by
  cases gens with
  | nil => exact False.elim hK
  | cons g gs =>
   obtain ⟨tg, it, ifs, z⟩ := g
   cases tg
   case Name x px => cases gs with
    | cons => exact False.elim hK
    | nil =>
    obtain ⟨hb, hK2⟩ := ok_out hK
    simp only [Bool.and_eq_true, Bool.not_eq_true'] at hb
    obtain ⟨⟨⟨⟨⟨⟨b1, b2⟩, b3⟩, b4⟩, b5⟩, b6⟩, b7⟩ := hb
    obtain rfl := eq_of_beq b2
    refine ⟨x, px, it, ifs, rfl, ⟨?_, b5, ?_, by simpa using b7⟩, Nat.le_of_ble_eq_true b1, itKind_false it b3, hK2⟩
    · unfold scFn at b4
      split at b4
      · assumption
      · cases b4
    · unfold isLoc at b6
      split at b6
      · assumption
      · cases b6
   all_goals exact False.elim hK
theorem comp_nm {scope : Scope} {x : Str} (Sc : ScOk nm' scope x) : ∀ y ∈ scope.names, y.2 = .local → scope.names.lookup y.1 = some .local := fun y hy e => by
  rcases scOk_at Sc.sc y.1 y.2 hy with ⟨_, q⟩ | ⟨q, _⟩ | q
  · rw [← look_lookup]; exact q
  · rw [e] at q; cases q
  · rw [e] at q; cases q
theorem comp_clos {scope : Scope} {x : Str} (Sc : ScOk nm' scope x) (hfree : ∀ y, look nm' y = some .cell → env.kindOf y = some .cell) (r : Rl fx env W s h N ow ms) : closureFor scope env = pure (clOf (cellAt env) scope.names []) := closure_eq fun y hy => by
  rcases scOk_at Sc.sc y .free hy with ⟨q, _⟩ | ⟨_, q⟩ | q
  · cases q
  · obtain ⟨c, o, v, a, _⟩ := r.cl.1.1 y (hfree y q)
    exact ⟨c, a⟩
  · cases q
theorem compOk (Z : FxOk fx) (I : RecOk fx R) : CompOk fx R := by
  intro env nm Y elt gens scope pos s K hK W h t N ow ms r Q E hQ
  obtain ⟨x, px, it, ifs, rfl, Sc, hifs, hkd, hK⟩ := compS_out hK
  have X : CompA fx env [] scope x R := ⟨Sc, Y.hk, (fun y hy => by cases hy), fun C => I.ev _ _ (cEnv_ok Sc Y C), fun C => I.tr _ _ (cEnv_ok Sc Y C)⟩
  rw [eval_ListComp]
  refine wpAny_comprehension_free (use := none) rfl (comp_hs hK) (comp_clos Sc X.free r) Sc.fn (comp_nm Sc) (iter_ok (c3 := false) Z (I.ev _ _ Y) hK r fun l u W1 s1 h1 t1 N1 ow1 ms1 hk x1 r1 hi => ?_)
  obtain ⟨hl, hk⟩ := ok_out hk
  refine comp_blk X hkd hi r1 (Nat.le_of_ble_eq_true hl) hifs hk ?_
  intro Da C h2 tk m' ms2 I' Ns ds ow2 news ys hI r2 hd hk2 hN hoD hn hC0 hCL hCD hoC
  obtain ⟨σ, I1, H⟩ := W1
  refine ⟨m', hn, fun h3 hs => ?_⟩
  have F3 : Fr fx.g fx.L h3 ms2 := r2.F.change hs hCL hC0
  have N3 : News fx.g fx.L h3 ((Da, LCg.lst ys) :: news) := fun p hp => by
    refine ⟨hs.extBut _ _ ?_ (hN p hp).1, (hN p hp).2⟩
    rcases List.mem_cons.mp hp with rfl | hp
    · exact Ne.symm hCD
    · exact hoC p hp
  have r3 := r2.grow (ow' := fun b => if b = Da then Ns.length + 2 else ow2 b) F3 N3 (fun p hp => .tail _ hp) (fun p hp => if_neg (hoD p hp))
  have x0 : Ext (⟨σ, I', H⟩ : Wd) ⟨σ ++ [Da], I', H⟩ := ⟨⟨[Da], rfl⟩, fun p hp => hp, rfl⟩
  obtain ⟨r4, x4, hv⟩ := r3.more (a := Da) (o := .list ds) ⟨ys, ys.length, if_pos rfl, .head _, DsAt.mono (fun _ _ => Kn.ext x0) _ _ hd⟩
  exact hQ _ _ ⟨σ ++ [Da], I', H⟩ _ _ hk2 (x1.trans ⟨⟨[Da], rfl⟩, hI, rfl⟩) hv ⟨_, _, _, _, _, rfl, r4⟩
theorem swap_eq {x : Str} {xp cp : Pos} {scope : Scope} {elt : PySem.Expr} {gens : List Comprehension} {line : Nat} (hk : env.scope.kind = .function) (hx : env.kindOf x = some .local) (h : swapB x xp scope cp = true) : swapsWith (.ListComp elt gens scope cp) (some (.Name x xp)) line env = pure true := by
  unfold swapB at h
  rw [Bool.and_eq_true] at h
  show pure (env.blockKind == .function && env.kindOf x == some .local && xp.line == cp.line && !(scope.names.any fun y => y.1 == x && (y.2 == .local || y.2 == .cell))) = _
  have hb : env.blockKind = .function := by unfold Env.blockKind; rw [hk]; rfl
  rw [hb, hx, h.1, h.2]
  rfl
theorem assign_comp (Z : FxOk fx) (Y : FenvOk fx nm) (C : CInj fx) {p : Nat} (I : RecOk fx R) {x : Str} {xp cp pos : Pos} {elt : PySem.Expr} {gens : List Comprehension} {scope : Scope} {K : Fl → St → Prop} (hsw : swapB x xp scope cp = true) (hx : look nm x = some .local)
    (hK : compS R nm nm elt scope s (fun v s => K .next ⟨putM s.m x v, s.N⟩) gens) (r : Rl fx fx.fenv W s h N ow ms) (hp : p ≤ W.σ.length) {Q : Flow → Shared → Prop} {E : Value → Shared → Prop} (hQ : OutF fx p W K Q) :
    wpAny (model PR fx.w) fx.A (exec (.Assign [.Name x xp] (.ListComp elt gens scope cp) pos) fx.fenv) Q E (fx.s h t) := by
  obtain ⟨z, px, it, ifs, rfl, Sc, hifs, hkd, hK⟩ := compS_out hK
  have X : CompA fx fx.fenv nm scope z R := ⟨Sc, Y.e.hk, Y.cell, fun C => I.ev _ _ (cEnv_ok Sc Y.e C), fun C => I.tr _ _ (cEnv_ok Sc Y.e C)⟩
  have hxl := Y.loc x hx
  rw [exec_Assign_Name_used _ _ _ _ (swap_eq Y.e.hk hxl hsw)]
  refine wpAny_bind (wpAny_standAt (wpAny_bind ?_))
  show wpAny _ fx.A (do let _ ← comprehension (.ListComp elt [⟨.Name z px, it, ifs, 0⟩] scope cp) scope fx.fenv _ (PySem.newList []) false (eval it fx.fenv) (some (assign (.Name x xp) fx.fenv))) _ _ _
  refine wpAny_bind (wpAny_mono (wpAny_comprehension_free (use := some (assign (.Name x xp) fx.fenv)) (Q := fun _ s' => Q .next s') rfl (comp_hs hK) (comp_clos Sc X.free r) Sc.fn (comp_nm Sc)
    (iter_ok (c3 := false) Z (I.ev _ _ Y.e) hK r fun l u W1 s1 h1 t1 N1 ow1 ms1 hk x1 r1 hi => ?_)) (fun _ s' hq => wpAny_pure (wpAny_pure hq)) fun _ _ e => e)
  obtain ⟨hl, hk⟩ := ok_out hk
  refine comp_blk X hkd hi r1 (Nat.le_of_ble_eq_true hl) hifs hk ?_
  intro Da Ca h2 tk m' ms2 I' Ns ds ow2 news ys hI r2 hd hk2 hN hoD hn hC0 hCL hCD hoC
  obtain ⟨σ, I1, H⟩ := W1
  have r3 := r2.grow (ow' := fun b => if b = Da then Ns.length + 2 else ow2 b) r2.F hN (fun p hp => .tail _ hp) (fun p hp => if_neg (hoD p hp))
  have x0 : Ext (⟨σ, I', H⟩ : Wd) ⟨σ ++ [Da], I', H⟩ := ⟨⟨[Da], rfl⟩, fun p hp => hp, rfl⟩
  obtain ⟨r4, x4, hv⟩ := r3.more (a := Da) (o := .list ds) ⟨ys, ys.length, if_pos rfl, .head _, DsAt.mono (fun _ _ => Kn.ext x0) _ _ hd⟩
  obtain ⟨oC, heC, hoCn⟩ := LCg.ns_obj hn
  have hall : ∀ p ∈ ((Da, LCg.lst ys) :: news : Ld), p.1 ≠ Ca := fun p hp => by
    rcases List.mem_cons.mp hp with rfl | hp
    · exact Ne.symm hCD
    · exact hoC p hp
  have r5 := Rl.hide r4 [(Ca, oC)] (fun q hq => by rw [List.mem_singleton.mp hq]; exact ⟨heC, hCL, hC0⟩) (fun q hq v e => by
    rw [List.mem_singleton.mp hq] at e
    obtain ⟨es, ep, hdat, _⟩ := hoCn
    rw [hdat] at e
    cases e) (fun p hp q hq => by rw [List.mem_singleton.mp hq]; exact hall p hp)
  refine wpAny_assign_Name (storeLoc Y r5 hx hv.hid fun s₂ hr => ?_)
  obtain ⟨h3, t3, N3, ow3, ms3, rfl, r6⟩ := hr
  have hC3 : ((Ca, oC) : Addr × Obj) ∈ N3 := (r6.cl.1.2 (Ca, oC) (.head _)).1
  have r7 := r6.drop (own := [(Ca, oC)]) (fun q hq q' hq' e => by
    rw [List.mem_singleton.mp hq'] at e
    exact hall q (r4.cl.1.2 q hq).1 e) (fun q hq e => by
    rw [List.mem_singleton.mp hq, Y.hl] at e
    exact hCL e.symm) Y.hl
  refine ⟨m', hoCn.ns (r6.Ns _ hC3).1, fun h4 hs => ?_⟩
  have r8 := r7.grow (h' := h4) (ow' := ow3) (r7.F.change hs hCL hC0) (fun p hp => ⟨hs.extBut _ _ (drop_off p hp (Ca, oC) (.head _)) (r7.Ns p hp).1, (r7.Ns p hp).2⟩) (fun _ h => h) (fun _ _ => rfl)
  have xx : Ext W ⟨σ ++ [Da], I', H⟩ := x1.trans ⟨⟨[Da], rfl⟩, hI, rfl⟩
  exact hQ .next .next ⟨σ ++ [Da], I', H⟩ _ _ hk2 (xx.p hp) rfl ⟨_, _, _, _, _, rfl, r8⟩
theorem loopOk (Z : FxOk fx) (Y : FenvOk fx nm) (C : CInj fx) {p n : Nat} (I : RecOk fx R) (J : ExOk fx p R.exs) : LoopOk fx p nm R n where
  for_ := fun tg it body pos s K htg hK W h t N ow ms r hp Q E hQ => for_ok Z Y C (n := n) I J htg hK r hp hQ
  while_ := fun q body pos s K hK W h t N ow ms r hp Q E hQ => while_ok Z Y I J hK r hp hQ
  comp := fun x xp elt gens scope cp pos s K hsw hx hK W h t N ow ms r hp Q E hQ => assign_comp Z Y C I hsw hx hK r hp hQ
end

theorem run_ok {fx : Fx} {nm : List (Str × NameKind)} {T : List (Nat × Ct)} {D p : Nat} (Z : FxOk fx) (Y : FenvOk fx nm) (C : CInj fx) (TT : TOk fx.w fx.ns fx.sc D T) (hD : D ≤ fx.D) : ∀ n, RecOk fx (run p nm T n) ∧ ExOk fx p (run p nm T n).exs
  | 0 => ⟨⟨fun _ _ _ _ _ _ hK => hK.elim, fun _ _ _ _ _ _ hK => hK.elim⟩, fun _ _ _ hK => hK.elim⟩
  | n + 1 => by
    obtain ⟨I, J⟩ := run_ok Z Y C TT hD n
    exact ⟨⟨fun env nm Y' => evS_ok Z TT hD I (compOk Z I) Y', fun env nm Y' => trS_ok Z I Y'⟩, exS_ok Z Y C I J (loopOk Z Y C I J)⟩
theorem reach_pre {N : List O} : ∀ (f : Nat) (w acc : List Nat), ∃ t, reach N f w acc = acc ++ t
  | 0, w, acc => ⟨[], by cases w <;> simp [reach]⟩
  | f + 1, [], acc => ⟨[], by simp [reach]⟩
  | f + 1, i :: r, acc => by
    unfold reach
    split
    · exact reach_pre f r acc
    · split
      · rename_i o _
        obtain ⟨t, e⟩ := reach_pre f (refsO o ++ r) (acc ++ [i])
        exact ⟨i :: t, by rw [e, List.append_assoc]; rfl⟩
      · exact reach_pre f r acc
theorem nth_up : ∀ {n k d : Nat}, d < n → nth (upFrom k n) d = some (k + d)
  | n + 1, k, 0, _ => rfl
  | n + 1, k, d + 1, h => by
    show nth (upFrom (k + 1) n) d = _
    rw [nth_up (by omega)]
    congr 1
    omega
theorem up_len : ∀ (n k : Nat), (upFrom k n).length = n
  | 0, _ => rfl
  | n + 1, k => congrArg (· + 1) (up_len n (k + 1))
/-- a value at a def's end, and the objects that it reaches: the caller's own stay where they are -/
theorem end_ok {fx : Fx} {env : Env} {p : Nat} {W : Wd} {s : St} {h : Heap} {N : Ld} {ow : Nat → Nat} {ms : Str → Option Value} {v : V} {u : Value} {K : V → List O → Prop} (hK : endV p v s.N K) (r : Rl fx env W s h N ow ms) (hp : p ≤ W.σ.length) (hv : VAt fx W v u) :
    ∃ σ' v' N' ow', K v' N' ∧ (∀ i, i < p → nth σ' i = nth W.σ i) ∧ p ≤ σ'.length ∧ VAt fx ⟨σ', W.I, W.H⟩ v' u ∧ Rl fx env ⟨σ', W.I, W.H⟩ ⟨[], N'⟩ h N ow' ms ∧ (∀ b, ow b = 1 → ow' b = 1) := by
  have h1 := forceL_ok hK
  have hpre : ∃ t, roots p s.N (refsV v) = upFrom 0 p ++ t := reach_pre 200 _ _
  generalize roots p s.N (refsV v) = π at h1 hpre
  obtain ⟨t, rfl⟩ := hpre
  obtain ⟨v', hv', h2⟩ := opt_out h1
  obtain ⟨N', hN, h3⟩ := opt_out h2
  have rl := (r.noNames).relay (m' := []) rfl hN (.inl rfl)
  have hnth : ∀ i, i < p → nth (somes (upFrom 0 p ++ t)) i = some (some i) := fun i hi => by
    rw [nth_somes, nth_appL (by rw [up_len]; exact hi), nth_up hi, Nat.zero_add]
  refine ⟨_, v', N', _, h3, fun i hi => ?_, ?_, renV_ok (W := W) (W' := ⟨(somes (upFrom 0 p ++ t)).map (slA W.σ), W.I, W.H⟩) (fun i j a => slots_f W.σ i j a) (fun _ h => h) hv' hv, rl, fun b e => by unfold owS; rw [e]⟩
  · rw [nth_map, hnth i hi]
    show some ((nth W.σ i).getD 0) = _
    rw [nth_lt (by omega)]
    rfl
  · rw [List.length_map, somes_len, List.length_append, up_len]
    omega

/-- a def is plain: so many arguments, one after another, its own names -/
noncomputable def defChk (ps : List Str) (scope : Scope) (n : Nat) : Bool := ps.length == n && (ps.all fun x => scope.names.lookup x == some .local || scope.names.lookup x == some .cell) && !scope.isCoroutine && !scope.isGenerator && scFn scope && decide ((cellsFrom 0 scope.names []).map (·.1)).Nodup && (look scope.names (Str.ofString "__debug__")).isNone && decide ps.Nodup && decide (Str.ofString "__debug__" ∉ ps)
structure DefOk {P : Params} {a : Nat} (fd : Fd P a) (n : Nat) : Prop where
  bind : ∀ (s : Shared) (us : List Value), (hd.heap_39 P).In s.heap → us.length = n → BindsTo s (fnOf fd.name fd.qual fd.params fd.body fd.scope fd.dV fd.kV fd.doc fd.pm fd.an fd.cdv fd.ct) ⟨us, []⟩ ((parsOf fd.params.args).zip us)
  chk : defChk (parsOf fd.params.args) fd.scope n = true
structure DefO {P : Params} {a : Nat} (fd : Fd P a) (n : Nat) : Prop where
  bind : ∀ (s : Shared) (us : List Value), (hd.heap_39 P).In s.heap → us.length = n → BindsTo s (fnOf fd.name fd.qual fd.params fd.body fd.scope fd.dV fd.kV fd.doc fd.pm fd.an fd.cdv fd.ct) ⟨us, []⟩ ((parsOf fd.params.args).zip us)
  pn : (parsOf fd.params.args).length = n
  kinds : ((parsOf fd.params.args).all fun x => fd.scope.names.lookup x == some .local || fd.scope.names.lookup x == some .cell) = true
  co : fd.scope.isCoroutine = false
  gen : fd.scope.isGenerator = false
  fn : fd.scope.kind = .function
  nd : ((cellsFrom 0 fd.scope.names []).map (·.1)).Nodup
  dbg : look fd.scope.names (Str.ofString "__debug__") = none
  npd : (parsOf fd.params.args).Nodup
  dbp : Str.ofString "__debug__" ∉ parsOf fd.params.args
theorem DefOk.o {P : Params} {a : Nat} {fd : Fd P a} {n : Nat} (X : DefOk fd n) : DefO fd n := by
  have h := X.chk
  unfold defChk at h
  simp only [Bool.and_eq_true, Bool.not_eq_true', decide_eq_true_eq] at h
  obtain ⟨⟨⟨⟨⟨⟨⟨⟨h1, h2⟩, h3⟩, h4⟩, h5⟩, h6⟩, h7⟩, h8⟩, h9⟩ := h
  refine ⟨X.bind, eq_of_beq h1, h2, h3, h4, ?_, h6, Option.isNone_iff_eq_none.mp h7, h8, h9⟩
  unfold scFn at h5
  split at h5
  · assumption
  · cases h5
section
variable {kindOf : Str → Option NameKind}
theorem bindL_c (n : Str) (v : Value) (r : List (Str × Value)) (m : Str → Option Value) : bindL kindOf ((n, v) :: r) m = bindL kindOf r (if kindOf n = some .local then fun y => if y = n then some v else m y else m) := rfl
theorem bindC_c (n : Str) (v : Value) (r : List (Str × Value)) (m : Str → Option Value) : bindC kindOf ((n, v) :: r) m = bindC kindOf r (if kindOf n = some .local then m else fun y => if y = n then some v else m y) := rfl
theorem bindL_off {x : Str} : ∀ {ps : List Str} {us : List Value} {m : Str → Option Value}, x ∉ ps → bindL kindOf (ps.zip us) m x = m x
  | [], _, _, _ => rfl
  | _ :: _, [], _, _ => rfl
  | p :: ps, u :: us, m, h => by
    rw [List.zip_cons_cons, bindL_c]
    rw [bindL_off (fun q => h (.tail _ q))]
    split
    · exact if_neg fun q => h (by rw [show x = p from q]; exact .head _)
    · rfl
theorem bindC_off {x : Str} : ∀ {ps : List Str} {us : List Value} {m : Str → Option Value}, x ∉ ps → bindC kindOf (ps.zip us) m x = m x
  | [], _, _, _ => rfl
  | _ :: _, [], _, _ => rfl
  | p :: ps, u :: us, m, h => by
    rw [List.zip_cons_cons, bindC_c]
    rw [bindC_off (fun q => h (.tail _ q))]
    split
    · rfl
    · exact if_neg fun q => h (by rw [show x = p from q]; exact .head _)
theorem bind_at {fx : Fx} {W : Wd} {x : Str} {v : V} : ∀ {ps : List Str} {as : List V} {us : List Value} {m : Str → Option Value}, ps.Nodup → look (bindM ps as) x = some v → VsAt fx W as us →
    x ∈ ps ∧ ∃ u, VAt fx W v u ∧ (kindOf x = some .local → bindL kindOf (ps.zip us) m x = some u) ∧ (kindOf x ≠ some .local → bindC kindOf (ps.zip us) m x = some u)
  | [], _, _, _, _, h, _ => by cases h
  | _ :: _, [], _, _, _, h, _ => by cases h
  | p :: ps, a :: as, us, m, nd, h, ⟨u, us', e, h1, h2⟩ => by
    subst e
    rw [List.nodup_cons] at nd
    have h' : (match x == p with | true => some a | false => look (bindM ps as) x) = some v := h
    rw [List.zip_cons_cons, bindL_c, bindC_c]
    cases q : x == p with
    | true =>
      rw [q] at h'
      cases h'
      obtain rfl := eq_of_beq q
      refine ⟨.head _, u, h1, fun k => ?_, fun k => ?_⟩
      · rw [bindL_off nd.1, if_pos k]; exact if_pos rfl
      · rw [bindC_off nd.1, if_neg k]; exact if_pos rfl
    | false =>
      rw [q] at h'
      obtain ⟨g0, w, g1, g2, g3⟩ := bind_at (m := if kindOf p = some .local then fun y => if y = p then some u else m y else m) nd.2 h' h2
      obtain ⟨_, w', k1, k2, k3⟩ := bind_at (m := if kindOf p = some .local then m else fun y => if y = p then some u else m y) nd.2 h' h2
      by_cases hk : kindOf x = some .local
      · exact ⟨.tail _ g0, w, g1, g2, fun q => absurd hk q⟩
      · exact ⟨.tail _ g0, w', k1, fun q => absurd q hk, k3⟩
end
theorem cellsFrom_some {x : Str} : ∀ {names : List (Str × NameKind)} {n : Nat} {acc : List (Str × Addr)}, (∃ c, acc.lookup x = some c) ∨ look names x = some .cell → ∃ c, (cellsFrom n names acc).lookup x = some c
  | [], _, _, h => h.elim id fun q => by cases q
  | (y, k) :: r, n, acc, h => by
    unfold cellsFrom
    rcases h with ⟨c, h⟩ | h
    · split
      · refine cellsFrom_some (.inl ?_)
        rw [List.lookup_cons]
        cases x == y
        · exact ⟨c, h⟩
        · exact ⟨n, rfl⟩
      · exact cellsFrom_some (.inl ⟨c, h⟩)
    · have h' : (match x == y with | true => some k | false => look r x) = some NameKind.cell := h
      cases q : x == y with
      | true =>
        rw [q] at h'
        cases h'
        rw [if_pos (by rfl)]
        refine cellsFrom_some (.inl ⟨n, ?_⟩)
        rw [List.lookup_cons, q]
      | false =>
        rw [q] at h'
        split
        · exact cellsFrom_some (.inr h')
        · exact cellsFrom_some (.inr h')
theorem cellsAre_at {cm : Str → Option Value} {cs : List (Str × Addr)} {cells : Ld} (h : CellsAre cm cs cells) : ∀ {x : Str} {c : Addr}, cs.lookup x = some c → ∃ o, ((c, o) : Addr × Obj) ∈ cells ∧ o.data = .cell (cm x) := by
  induction h with
  | nil => intro x c h; cases h
  | @cons n c' o cs cells d _ ih =>
    intro x c h
    rw [List.lookup_cons] at h
    cases q : x == n with
    | true =>
      rw [q] at h
      cases h
      rw [eq_of_beq q]
      exact ⟨o, .head _, d⟩
    | false =>
      rw [q] at h
      obtain ⟨o, m, d⟩ := ih h
      exact ⟨o, .tail _ m, d⟩
theorem pre_of {α : Type} {l l' : List α} (h : ∀ i, i < l.length → nth l' i = nth l i) (hl : l.length ≤ l'.length) : ∃ t, l' = l ++ t := by
  refine ⟨l'.drop l.length, ?_⟩
  conv => lhs; rw [← List.take_append_drop l.length l']
  congr 1
  refine List.ext_getElem? fun i => ?_
  rw [List.getElem?_take]
  split
  · rename_i hi
    have := h i hi
    rw [nth_get, nth_get] at this
    exact this
  · rename_i hi
    rw [List.getElem?_eq_none (by omega)]
/-- what a def's body must bring, in its own frame -/
noncomputable def BodyOk (w : World) (ns sc : List Int) (D : Nat) {f : Nat} (fd : Fd w.params f) (ct : Ct) : Prop :=
  ∀ (fx : Fx), FxOk fx → FenvOk fx fd.scope.names → CInj fx → fx.w = w → fx.ns = ns → fx.sc = sc → D ≤ fx.D → fx.fenv = envOfC fd.qual fd.scope fx.L f fd.cdv → ∀ (W : Wd) (as : List V) (N0 : List O) (K : V → List O → Prop) h t N ow ms, Rl fx fx.fenv W ⟨bindM (parsOf fd.params.args) as, N0⟩ h N ow ms → ct as N0 K → N0.length = W.σ.length →
    ∀ Q E, OutF fx N0.length W (endK N0.length K) Q → wpAny (model PR fx.w) fx.A (execs fd.body fx.fenv) Q E (fx.s h t)
theorem spec_body {w : World} {ns sc : List Int} {f D n : Nat} {ct : Ct} (fd : Fd w.params f) (X0 : DefOk fd n) (hD : 0 < D) (hlen : ∀ as N0 K, ct as N0 K → as.length = n) (hB : BodyOk w ns sc D fd ct) : SpecI w ns sc f (D + 1) ct := by
  have X := X0.o
  intro fx Z hw hns hsc hDx env W N0 h t N R ow ms as us K Q E r hH hR hv hct hQ
  subst hw hns hsc
  have hul : us.length = n := by rw [VsAt.len hv]; exact hlen _ _ _ hct
  let mt : Ld := N.filter fun p => decide (2 ≤ ow p.1)
  let rest : Ld := N.filter fun p => decide (ow p.1 < 2)
  have hmt : ∀ p, p ∈ mt ↔ p ∈ N ∧ 2 ≤ ow p.1 := fun p => by simp [mt, List.mem_filter]
  have hrs : ∀ p, p ∈ rest ↔ p ∈ N ∧ ow p.1 < 2 := fun p => by simp [rest, List.mem_filter]
  have N1 : News fx.g fx.L h mt := fun p hp => r.Ns p ((hmt p).mp hp).1
  let RR : Result → Shared → Prop := CallR Q E
  show codeAny _ _ _ RR _
  obtain ⟨FG, BG, st, lv⟩ := groundX (R := RR) (A := fx.A) (s := fx.s h t) Z.B r.F N1 rfl Z.hf Z.hk
  have hroom : fx.A.depth < recursionLimit := by show fx.dp < recursionLimit; have := Z.hd; omega
  refine codeAny_call_function hroom ((Z.X.keeps r.F.keep) _ _ fd.ho) rfl X.co X.gen rfl (codeRec_of (Z.X.keeps r.F.keep) fd.hcd) (X.bind _ us (Z.X.keeps r.F.keep) hul _ _ _ _ ?_)
  have hkind : (((parsOf fd.params.args).zip us).all fun y => fd.scope.names.lookup y.1 == some .local || fd.scope.names.lookup y.1 == some .cell) = true := by
    rw [List.all_eq_true]
    intro y hy
    exact List.all_eq_true.mp X.kinds y.1 (List.of_mem_zip hy).1
  refine wpAny_newFunctionEnv_cells X.fn (kindsX hkind _) fun env' he s' x => ?_
  subst he
  refine ⟨(Z.T.nolimit.keeps r.F.keep).keeps x.toInCall.keep, codeAny_func ?_⟩
  obtain ⟨h₁, tk, rfl, _⟩ := x.done
  have hk₁ := x.toInCall.keep
  obtain ⟨cells, NC, Yc⟩ := Cl.news (h₀ := h) (Nat.le_refl _) fun n c hm => ⟨x.cell n c (lookup_of_mem_nodup (cellsFrom_names fd.scope.names 0 (h.objs.size + 1) [] [] rfl ▸ X.nd) hm), x.above n c hm⟩
  have hcn : ∀ b o, h.get? b = some o → ¬ (cells.any fun q => q.1 == b) = true := fun b o e q => by
    obtain ⟨q, hq, e'⟩ := List.any_eq_true.mp q
    have := (NC q hq).2.2
    rw [eq_of_beq e', e] at this
    cases this
  have hcy : ∀ c o, ((c, o) : Addr × Obj) ∈ cells → (cells.any fun q => q.1 == c) = true := fun c o m => List.any_eq_true.mpr ⟨_, m, beq_self_eq_true _⟩
  have hkg : ∀ a o, Kn fx W a o → (hideAll h (mt.map (·.1))).get? a = some o := fun a o k => by
    refine hideAll_get _ (r.get k) fun q => ?_
    obtain ⟨p, hp, rfl⟩ := List.mem_map.mp q
    obtain ⟨m1, m2⟩ := (hmt p).mp hp
    rcases k with k | k
    · have := (r.Ns p m1).2.2
      rw [r.kbg _ _ k] at this
      cases this
    · have := (r.sub _ k).2
      dsimp only at this
      omega
  let fx' : Fx := { w := fx.w, ns := fx.ns, sc := fx.sc, A₀ := fx.A, base := fx.base, g := hideAll h (mt.map (·.1)), L := h.objs.size, fenv := envOfC fd.qual fd.scope h.objs.size f fd.cdv, outer := fx.fenv :: fx.outer, mean := fx.mean, mg := fx.mg, mb := fx.mb, dp := fx.dp + 1, un := fx.un + 3, D := fx.D - 1, gd := fx.gd, gs := fx.gs, dr := fx.dr, os := fx.os, kb := Kn fx W }
  have Z' : FxOk fx' := { B := BG, X := Z.X.keeps st, T := Z.T.keeps st, hf := rfl, hk := X.fn, hgl := rfl, hbl := rfl, hd := by have := Z.hd; show fx.dp + 1 + (fx.D - 1) < recursionLimit; omega, hu := by have := Z.hu; show fx.un + 3 + 8 * (fx.D - 1) < cLine; omega, hD := by show 0 < fx.D - 1; omega, frag := fun a o e => .inl (Z.frag a o e), cut := Z.cut, len := Z.len }
  have Y' : FenvOk fx' fd.scope.names := ⟨⟨X.fn, rfl, rfl, fun y hy => by rw [look_lookup] at hy; exact hy, X.dbg⟩, fun y hy => by rw [look_lookup] at hy; exact hy, fun y hy => by rw [look_lookup] at hy; exact hy, rfl, by show (fd.scope.kind == .module && _) = false; rw [X.fn]; rfl⟩
  have C' : CInj fx' := fun y z c h1 h2 => name_of_addr x.apart (mem_of_lookup h1) (mem_of_lookup h2)
  have hN' : News (hideAll h (mt.map (·.1))) h.objs.size h₁ (cells ++ mt) := fun p hp => by
    rcases List.mem_append.mp hp with hp | hp
    · refine ⟨(NC p hp).1, (NC p hp).2.1, ?_⟩
      cases q : (hideAll h (mt.map (·.1))).get? p.1 with
      | none => rfl
      | some o => have := of_hideAll _ q; rw [(NC p hp).2.2] at this; cases this
    · exact ⟨hk₁ _ _ (N1 p hp).1, Nat.ne_of_lt (Heap.lt_size (N1 p hp).1), hideAll_none _ (List.mem_map_of_mem hp)⟩
  have r' : Rl fx' fx'.fenv ⟨W.σ, [], ⟨[], fun _ => none⟩⟩ ⟨bindM (parsOf fd.params.args) as, N0⟩ h₁ (cells ++ mt) (fun b => if (cells.any fun q => q.1 == b) = true then 1 else ow b) (bindL fx'.fenv.kindOf ((parsOf fd.params.args).zip us) fun _ => none) := by
    refine ⟨hkg, ⟨x.toInCall.ns, fun b o e => hk₁ b o (of_hideAll _ e), Nat.le_of_eq (hideAll_size _ _)⟩, hN', (fun p hp => nomatch hp), r.len, fun i o a h1 h2 => ?_, fun y v hy => ?_, ⟨fun y hy => ?_, (fun p hp => nomatch hp)⟩, fun q => absurd rfl q⟩
    · refine (r.obj i o a h1 h2).mv (fx := fx) (fx' := fx') (W := W) (W' := ⟨W.σ, [], ⟨[], fun _ => none⟩⟩) rfl rfl rfl (fun _ _ e => e) (fun _ _ k => .inl k) (fun b e ⟨o, m⟩ => (if_neg (hcn b o (r.Ns _ m).1)).trans e) (fun b o e m => List.mem_append_right _ ((hmt _).mpr ⟨m, by show 2 ≤ ow b; omega⟩))
    · obtain ⟨hxp, u, hu, h1, h2⟩ := bind_at (kindOf := fx'.fenv.kindOf) (m := fun _ => none) X.npd hy hv
      refine ⟨beq_eq_false_iff_ne.mpr fun q => X.dbp (q ▸ hxp), u, VAt.mv (fx := fx) (fx' := fx') (W := W) (W' := ⟨W.σ, [], ⟨[], fun _ => none⟩⟩) rfl rfl rfl (fun _ _ e => e) (fun _ _ k => .inl k) hu, ?_⟩
      have hkd := List.all_eq_true.mp X.kinds y hxp
      rw [Bool.or_eq_true] at hkd
      rcases hkd with hkd | hkd
      · have hkl : fd.scope.names.lookup y = some .local := by simpa using hkd
        exact .loc hkl rfl (h1 hkl)
      · have hkc : fd.scope.names.lookup y = some .cell := by simpa using hkd
        obtain ⟨c, hc⟩ := cellsFrom_some (n := h.objs.size + 1) (acc := []) (.inr ((look_lookup _ _).trans hkc))
        obtain ⟨o, m, d⟩ := cellsAre_at Yc hc
        exact .cell c o (.inl hkc) hc (List.mem_append_left _ m) (if_pos (hcy c o m)) (by rw [d]; congr 1; exact h2 (by show fd.scope.names.lookup y ≠ _; rw [hkc]; simp))
    · obtain ⟨c, hc⟩ := cellsFrom_some (n := h.objs.size + 1) (acc := []) (.inr ((look_lookup _ _).trans (show fd.scope.names.lookup y = some .cell from hy)))
      obtain ⟨o, m, d⟩ := cellsAre_at Yc hc
      exact ⟨c, o, _, hc, List.mem_append_left _ m, if_pos (hcy c o m), d⟩
  have hpl : N0.length = W.σ.length := r.len.symm
  have hrest : ∀ p ∈ rest, (hideAll h (mt.map (·.1))).get? p.1 = some p.2 := fun p hp => by
    refine hideAll_get _ (r.Ns p ((hrs p).mp hp).1).1 fun q => ?_
    obtain ⟨p', hp', e⟩ := List.mem_map.mp q
    have h1 := ((hmt p').mp hp').2
    have h2 := ((hrs p).mp hp).2
    rw [e] at h1
    omega
  have J := hB fx' Z' Y' C' rfl rfl rfl (by show D ≤ fx.D - 1; omega) rfl _ as N0 K _ tk _ _ _ r' hct hpl (fun fl s' => RR (.ok (.ret (retV fl))) s') (fun _ _ => False)
  refine wpAny_mono (J fun fl fo W1 s1 s₂ hk1 x1 hf1 hr1 => ?_) (fun fl s' hl => ?_) fun _ _ y => y.elim
  · obtain ⟨h2, t2, N2, ow2, ms2, rfl, r2⟩ := hr1
    have fin : ∀ v u, endV N0.length v s1.N K → VAt fx' W1 v u → RR (.ok (.ret u)) (fx'.s h2 t2) := by
      intro v u hk2 hv2
      obtain ⟨σ', v', N1', ow3, hk3, hσ3, hp3, hv3, r3, _⟩ := end_ok hk2 r2 x1.len hv2
      refine lv u _ ⟨h.objs.size, ms2, N2, r3.F, r3.Ns, fun kF kN => ?_⟩
      have hne : ∀ b o, ((b, o) : Addr × Obj) ∈ N2 → ¬ (rest.any fun q => q.1 == b) = true := fun b o m q => by
        obtain ⟨q, hq, e⟩ := List.any_eq_true.mp q
        have h1 := (r3.Ns _ m).2.2
        have h3 := hrest q hq
        rw [eq_of_beq e] at h3
        have h1' : (hideAll h (mt.map (·.1))).get? b = none := h1
        rw [h3] at h1'
        cases h1'
      have hin : ∀ b o, ((b, o) : Addr × Obj) ∈ rest → (rest.any fun q => q.1 == b) = true := fun b o m => List.any_eq_true.mpr ⟨_, m, beq_self_eq_true _⟩
      have hkk : ∀ a o, Kn fx' ⟨σ', W1.I, W1.H⟩ a o → Kn fx ⟨σ', W.I ++ W1.I, W.H⟩ a o := fun a o k => by
        rcases k with k | k
        · exact k.imp id (List.mem_append_left _)
        · exact .inr (List.mem_append_right _ k)
      have zero : ∀ p ∈ N, ow p.1 = 0 → p ∈ rest := fun p m e => (hrs p).mpr ⟨m, by omega⟩
      have one : ∀ p ∈ N, ow p.1 = 1 → p ∈ rest := fun p m e => (hrs p).mpr ⟨m, by omega⟩
      have hnew : ∀ b o k, ((b, o) : Addr × Obj) ∈ N2 → ow3 b = k → k ≠ 1 → (if (rest.any fun q => q.1 == b) = true then ow b else match ow3 b with | 1 => 0 | n => n) = k := fun b o k m e hk1 => by
        rw [if_neg (hne b o m), e]
        split
        · exact absurd rfl hk1
        · rfl
      refine hQ v' u ⟨σ', W.I ++ W1.I, W.H⟩ N1' h2 t2 (rest ++ N2) (fun b => if (rest.any fun q => q.1 == b) = true then ow b else match ow3 b with | 1 => 0 | n => n) hk3 ⟨pre_of (fun i hi => ?_) ?_, fun p hp => List.mem_append_left _ hp, rfl⟩ (VAt.mv (fx := fx') (fx' := fx) (W := ⟨σ', W1.I, W1.H⟩) (W' := ⟨σ', W.I ++ W1.I, W.H⟩) rfl rfl rfl (fun _ _ e => e) hkk hv3)
        ⟨r.kbg, kF, fun p hp => ?_, fun p hp => ?_, r3.len, fun i o a h1 h3 => ?_, fun y w hy => (by cases hy), r.cl.keep (fun b e ⟨o, m⟩ => (if_pos (hin b o (one _ m e))).trans e) (fun b o e m => List.mem_append_left _ (one _ m e))⟩ (fun p hp => ?_) fun p hp => ?_
      · rw [hσ3 i (by omega), x1.σ i (by omega)]
      · rw [← hpl]; exact hp3
      · rcases List.mem_append.mp hp with hp | hp
        · exact ⟨r3.F.keep _ _ (hrest p hp), (r.Ns p ((hrs p).mp hp).1).2⟩
        · exact kN p hp
      · rcases List.mem_append.mp hp with hp | hp
        · have := r.sub p hp
          have m := zero p this.1 this.2
          exact ⟨List.mem_append_left _ m, (if_pos (hin p.1 p.2 m)).trans this.2⟩
        · have := r3.sub p hp
          exact ⟨List.mem_append_right _ this.1, hnew p.1 p.2 0 this.1 this.2 (by decide)⟩
      · exact (r3.obj i o a h1 h3).mv (fx := fx') (fx' := fx) (W := ⟨σ', W1.I, W1.H⟩) (W' := ⟨σ', W.I ++ W1.I, W.H⟩) rfl rfl rfl (fun _ _ e => e) hkk (fun b e ⟨o, m⟩ => hnew b o _ m e (by omega)) (fun b o e m => List.mem_append_right _ m)
      · have := hR p hp
        have m := zero p this.1 this.2
        exact ⟨List.mem_append_left _ m, (if_pos (hin p.1 p.2 m)).trans this.2⟩
      · rcases List.mem_append.mp hp with hp | hp
        · exact .inl hp
        · refine .inr fun q hq e => ?_
          have := hR q hq
          have m := zero q this.1 this.2
          have m2 := (r3.sub p hp).1
          exact hne p.1 p.2 m2 (List.any_eq_true.mpr ⟨q, m, by rw [e]; exact beq_self_eq_true _⟩)
    cases fl with
    | next => obtain rfl := hf1; exact fin _ _ hk1 rfl
    | ret v => obtain ⟨u, rfl, hv1⟩ := hf1; exact fin _ _ hk1 hv1
    | brk => exact hk1.elim
    | cont => exact hk1.elim
  · cases fl <;> exact hl
theorem spec_def {w : World} {ns sc : List Int} {f D n : Nat} {ct : Ct} {T : List (Nat × Ct)} (fd : Fd w.params f) (X : DefOk fd n) (TT : TOk w ns sc D T) (hD : 0 < D) (hlen : ∀ as N0 K, ct as N0 K → as.length = n) (hK : Kept fd T ct) : SpecI w ns sc f (D + 1) ct :=
  spec_body fd X hD hlen fun fx Z Y C hw hns hsc hDx _ W as N0 K h t N ow ms r hct hl Q E hQ => by
    subst hw hns hsc
    exact (run_ok (p := N0.length) Z Y C TT hDx 100).2 fd.body _ _ (hK as N0 K hct) _ _ t _ _ _ r (Nat.le_of_eq hl) Q E hQ

theorem Rl.fx {fx fx' : Fx} {env : Env} {W : Wd} {s : St} {h : Heap} {N : Ld} {ow : Nat → Nat} {ms : Str → Option Value} (hw : fx'.w = fx.w) (hn : fx'.ns = fx.ns) (hs : fx'.sc = fx.sc) (hg : fx'.g = fx.g) (hL : fx'.L = fx.L) (hkb : fx'.kb = fx.kb) (r : Rl fx env W s h N ow ms) : Rl fx' env W s h N ow ms := by
  have hk : ∀ a o, Kn fx W a o → Kn fx' W a o := fun a o k => k.imp (fun q => by rw [hkb]; exact q) id
  refine ⟨fun a o k => ?_, ?_, ?_, r.sub, r.len, fun i o a h1 h2 => (r.obj i o a h1 h2).mv hw hn hs (fun _ _ e => e) hk (fun b e _ => e) (fun b o _ m => m), fun x v hx => ?_, ?_⟩
  · rw [hg]; rw [hkb] at k; exact r.kbg a o k
  · rw [hg, hL]; exact r.F
  · rw [hg, hL]; exact r.Ns
  · obtain ⟨hd, u, hu, hr⟩ := r.nm x v hx
    exact ⟨hd, u, hu.mv hw hn hs (fun _ _ e => e) hk, by rw [hL]; exact hr⟩
  · rw [hL]; exact r.cl
/-- a class: its thing is made, and its __init__ called -/
theorem spec_class {w : World} {ns sc : List Int} {C fI D : Nat} {ct ct' : Ct} (hm : makesIn (hd.heap_39 w.params) C = true) (hi : findIn (hd.heap_39 w.params) (.ref C) "__init__" = some (some (.ref fI))) (hf : typeIn (hd.heap_39 w.params) (.ref fI) = some (.type "function")) (S : SpecI w ns sc fI D ct')
    (hct : ∀ as N0 K, ct as N0 K → ct' (.ref N0.length :: as) (N0 ++ [.inst C []]) fun v N1 => v = .d .none ∧ K (.ref N0.length) N1) : SpecI w ns sc C (D + 3) ct := by
  intro fx Z hw hns hsc hDx env W N0 h t N R ow ms as us K Q E r hH hR hv hk hQ
  subst hw hns hsc
  refine make_K r.F r.Ns (Z.X.keeps r.F.keep) hm hi hf fun x dx h' F' N' hl hdx => ?_
  have hlx : ∀ p ∈ N, (fun b : Nat => if b = x ∨ b = dx then N0.length + 2 else ow b) p.1 = ow p.1 := fun p hp => if_neg fun q => q.elim (Nat.ne_of_lt (Nat.lt_trans (hl p hp) hdx)) (Nat.ne_of_lt (hl p hp))
  have r1 := r.grow (ow' := fun b => if b = x ∨ b = dx then N0.length + 2 else ow b) F' N' (fun p hp => .tail _ (.tail _ hp)) hlx
  obtain ⟨r2, x2, hv2⟩ := r1.more (a := x) (o := .inst C []) ⟨dx, [], 0, if_pos (.inl rfl), if_pos (.inr rfl), .head _, .tail _ (.head _), rfl⟩
  let A₂ := fx.A.under (.builtin "type.__call__" ⟨.ref C :: us, []⟩)
  let fx₂ : Fx := { fx with dp := A₂.depth, un := A₂.units, gd := A₂.guards, D := fx.D - 2 }
  have hA : fx₂.A = A₂ := rfl
  have hdep : A₂.depth = fx.dp + 1 := rfl
  have hun : A₂.units = fx.un + 1 := rfl
  have Z₂ : FxOk fx₂ := { B := Z.B, X := Z.X, T := Z.T, hf := Z.hf, hk := Z.hk, hgl := Z.hgl, hbl := Z.hbl, hd := by have := Z.hd; show A₂.depth + (fx.D - 2) < recursionLimit; omega, hu := by have := Z.hu; show A₂.units + 8 * (fx.D - 2) < cLine; omega, hD := by show 0 < fx.D - 2; omega, frag := Z.frag, cut := Z.cut, len := Z.len }
  have r3 : Rl fx₂ env ⟨W.σ ++ [x], W.I, W.H⟩ ⟨[], N0 ++ [.inst C []]⟩ h' _ _ ms := r2.fx (fx := fx) (fx' := fx₂) rfl rfl rfl rfl rfl rfl
  have vs : VsAt fx₂ ⟨W.σ ++ [x], W.I, W.H⟩ (.ref N0.length :: as) (.ref x :: us) := (VsAt.cons hv2 (VsAt.ext x2 hv)).mv (fx := fx) (fx' := fx₂) rfl rfl rfl (fun _ _ e => e) fun _ _ k => k
  refine codeAny_mono (R := CallR (fun u s' => u = .none ∧ Q (.ref x) s') E) (S fx₂ Z₂ rfl rfl rfl (by show D ≤ fx.D - 2; omega) env ⟨W.σ ++ [x], W.I, W.H⟩ (N0 ++ [.inst C []]) h' t _ R _ ms _ _ _ _ E r3 hH (fun p hp => ?_) vs (hct _ _ _ hk) fun v u W' N1 h2 t2 N2 ow2 hk2 y hu r4 hR2 hI2 => ?_) fun rr s' hr => ?_
  · have := hR p hp
    exact ⟨.tail _ (.tail _ this.1), (hlx p this.1).trans this.2⟩
  · obtain ⟨rfl, hk2⟩ := hk2
    refine ⟨hu, hQ (.ref N0.length) (.ref x) W' N1 h2 t2 N2 ow2 hk2 (x2.trans y) (VAt.ext y hv2) (r4.fx (fx := fx₂) (fx' := fx) rfl rfl rfl rfl rfl rfl) hR2 hI2⟩
  · unfold InitBack
    cases rr with
    | error e => exact hr
    | ok f => cases f <;> first | exact hr.elim | exact hr

/-- an entry of the run's pile -/
inductive Ent where
  | for_ (x : Str) (place : Int) | whil (place : Int)
  deriving DecidableEq
noncomputable def entD : Ent → D
  | .for_ x p => .tup [.str (Str.ofString "FOR"), .str x, .int p, .int 2, .int 1]
  | .whil p => .tup [.str (Str.ofString "WHILE"), .int p]
noncomputable def stk : List Ent → List D
  | [] => []
  | e :: r => stk r ++ [entD e]
theorem stk_len : ∀ es, (stk es).length = es.length
  | [] => rfl
  | e :: r => by rw [stk, List.length_append, stk_len r]; rfl
theorem stk_get (e : Ent) (r : List Ent) : ∀ pre, (stk (pre ++ e :: r))[r.length]? = some (entD e)
  | [] => by
    show (stk r ++ [entD e])[r.length]? = _
    rw [← stk_len r]; simp
  | p :: pre => by
    show (stk (pre ++ e :: r) ++ [entD p])[r.length]? = _
    rw [List.getElem?_append_left (by rw [stk_len]; simp; omega)]
    exact stk_get e r pre
noncomputable def foundF (y : Str) : List Ent → Int
  | [] => -1
  | .for_ x _ :: r => if Str.ofString "" == y || x == y then r.length else foundF y r
  | .whil _ :: r => foundF y r
noncomputable def foundW (q : Int) : List Ent → Int
  | [] => -1
  | .whil p :: r => if p == q then r.length else foundW q r
  | .for_ _ _ :: r => foundW q r
theorem len_dn {α : Type} (e : α) (l : List α) : ((e :: l).length : Int) - 1 + -1 = (l.length : Int) - 1 := by simp; omega
theorem len_up {α : Type} (e : α) (l : List α) : ((e :: l).length : Int) - 1 = ((l.length : Nat) : Int) := by simp
theorem foundF_yes {y x : Str} {p : Int} {r : List Ent} (h : (Str.ofString "" == y || (x == y || false)) = true) : foundF y (.for_ x p :: r) = ((Ent.for_ x p :: r).length : Int) - 1 := by
  rw [Bool.or_false] at h
  show (if (Str.ofString "" == y || x == y) = true then _ else _) = _
  rw [if_pos h, len_up]
theorem foundF_no {y x : Str} {p : Int} {r : List Ent} (h : (Str.ofString "" == y || (x == y || false)) = false) : foundF y (.for_ x p :: r) = foundF y r := by
  rw [Bool.or_false] at h
  show (if (Str.ofString "" == y || x == y) = true then _ else _) = _
  rw [if_neg (by rw [h]; decide)]
theorem foundW_yes {q p : Int} {r : List Ent} (h : (p == q || false) = true) : foundW q (.whil p :: r) = ((Ent.whil p :: r).length : Int) - 1 := by
  rw [Bool.or_false] at h
  show (if (p == q) = true then _ else _) = _
  rw [if_pos h, len_up]
theorem foundW_no {q p : Int} {r : List Ent} (h : (p == q || false) = false) : foundW q (.whil p :: r) = foundW q r := by
  rw [Bool.or_false] at h
  show (if (p == q) = true then _ else _) = _
  rw [if_neg (by rw [h]; decide)]
theorem stk_item {e : Ent} {es' pre : List Ent} {es : List Ent} (he : es = pre ++ e :: es') : item (stk es) (((e :: es').length : Int) - 1) = some (entD e) := item_nat (n := es'.length) (len_up _ _) (he ▸ stk_get e es' pre)
theorem stk_fit {e : Ent} {es' pre : List Ent} {es : List Ent} (he : es = pre ++ e :: es') (hl : es.length ≤ 20) : fitB (((e :: es').length : Int) - 1) = true := by
  rw [he] at hl
  simp at hl
  rw [len_up]
  exact fit_of (by omega) (by omega)

/-! the plain law: names as codes. 0: no name; 1, 2, 3: I, J, K; 4, 5, 6: P, Q, R -/
abbrev Nm := Fin 7
noncomputable def nmL : List Str := [Str.ofString "", Str.ofString "I", Str.ofString "J", Str.ofString "K", Str.ofString "P", Str.ofString "Q", Str.ofString "R"]
noncomputable def nmS (i : Nm) : Str := match nth nmL i.val with | some x => x | none => Str.ofString ""
theorem nmS_inj : ∀ i j : Nm, nmS i = nmS j → i = j := by decide +kernel
theorem nmS_beq (i j : Nm) : (nmS i == nmS j) = (i == j) := by
  rw [Bool.eq_iff_iff, beq_iff_eq, beq_iff_eq]
  exact ⟨nmS_inj i j, fun h => h ▸ rfl⟩
theorem nmS_dec (i j : Nm) : decide (nmS i = nmS j) = decide (i = j) := nmS_beq i j
inductive RowN where
  | set (x : Nm) | less (x : Nm) | whil (x : Nm) | wend | for_ (x : Nm) | next1 (x : Nm) | next0 | next2 (x y : Nm)
noncomputable def sD (x : String) : D := .str (Str.ofString x)
noncomputable def rowD : RowN → D
  | .set x => .tup [sD "LET", .tup [sD "name", .str (nmS x)], .tup [sD "set", .int 2]]
  | .less x => .tup [sD "LET", .tup [sD "name", .str (nmS x)], .tup [sD "less", .str (nmS x)]]
  | .whil x => .tup [sD "WHILE", .tup [sD "some", .str (nmS x)]]
  | .wend => .tup [sD "WEND"]
  | .for_ x => .tup [sD "FOR", .str (nmS x), .tup [sD "set", .int 1], .tup [sD "set", .int 2], .none]
  | .next1 x => .tup [sD "NEXT", .fl [.str (nmS x)]]
  | .next0 => .tup [sD "NEXT", .fl []]
  | .next2 x y => .tup [sD "NEXT", .fl [.str (nmS x), .str (nmS y)]]
noncomputable def wordD : RowN → D
  | .set _ => .tup [sD "LET", .fl []]
  | .less _ => .tup [sD "LET", .fl []]
  | .whil _ => .tup [sD "WHILE", .fl []]
  | .wend => .tup [sD "WEND", .fl []]
  | .for_ x => .tup [sD "FOR", .fl [.str (nmS x)]]
  | .next1 x => .tup [sD "NEXT", .fl [.str (nmS x)]]
  | .next0 => .tup [sD "NEXT", .fl []]
  | .next2 x y => .tup [sD "NEXT", .fl [.str (nmS x), .str (nmS y)]]
inductive EntN where
  | for_ (x : Nm) (place : Int) | whil (place : Int)
  deriving DecidableEq
noncomputable def EntN.up : EntN → Ent
  | .for_ x p => .for_ (nmS x) p
  | .whil p => .whil p
noncomputable def EntN.is (x : Nm) : EntN → Bool
  | .for_ y _ => y == x
  | .whil _ => false
noncomputable def EntN.place : EntN → Int
  | .for_ _ p => p - 1
  | .whil p => p
noncomputable def upV : List (Nm × Int) → List (Str × D)
  | [] => []
  | (x, v) :: r => (nmS x, .int v) :: upV r
theorem lookup_up (x : Nm) : ∀ vs : List (Nm × Int), (upV vs).lookup (nmS x) = (vs.lookup x).map .int
  | [] => rfl
  | (y, v) :: vs => by
    rw [upV, List.lookup_cons, List.lookup_cons, nmS_beq, lookup_up x vs]
    cases x == y <;> rfl
theorem upV_len : ∀ vs : List (Nm × Int), (upV vs).length = vs.length
  | [] => rfl
  | _ :: vs => congrArg (· + 1) (upV_len vs)
theorem any_up (x : Nm) : ∀ vs : List (Nm × Int), ((upV vs).any fun p => decide (p.1 = nmS x)) = vs.any fun p => decide (p.1 = x)
  | [] => rfl
  | (y, v) :: vs => by rw [upV, List.any_cons, List.any_cons, any_up x vs, nmS_dec]
theorem map_up (x : Nm) (v : Int) : ∀ vs : List (Nm × Int), ((upV vs).map fun p => if p.1 = nmS x then (p.1, .int v) else p) = upV (vs.map fun p => if p.1 = x then (p.1, v) else p)
  | [] => rfl
  | (y, u) :: vs => by
    rw [upV, List.map_cons, List.map_cons, map_up x v vs]
    by_cases h : y = x
    · subst h; rw [if_pos rfl, if_pos rfl]; rfl
    · rw [if_neg (fun q => h (nmS_inj _ _ q)), if_neg h]; rfl
theorem snoc_up (x : Nm) (v : Int) : ∀ vs : List (Nm × Int), upV vs ++ [(nmS x, .int v)] = upV (vs ++ [(x, v)])
  | [] => rfl
  | (y, u) :: vs => congrArg ((nmS y, D.int u) :: ·) (snoc_up x v vs)
theorem put_up (x : Nm) (v : Int) (vs : List (Nm × Int)) : putK (upV vs) (nmS x) (.int v) = upV (putK vs x v) := by
  unfold putK
  rw [any_up]
  split
  · exact map_up x v vs
  · exact snoc_up x v vs
abbrev ON := Int × List EntN × List (Nm × Int)
/-- NEXT: the names left -/
noncomputable def nxN (at' : Int) : List Nm → List EntN → List (Nm × Int) → Option ON
  | [], p, vs => some (at' + 1, p, vs)
  | n :: ns, p, vs => match p with
    | .for_ x pl :: p' => if n = 0 ∨ n = x then (if vs.lookup x = some 1 then some (pl, .for_ x pl :: p', putK vs x 2) else if vs.lookup x = some 2 then nxN at' ns p' (putK vs x 3) else none) else none
    | _ => none
noncomputable def isI (o : Option D) (y : Int) : Bool := match o with | some (.int x) => decide (x = y) | _ => false
theorem isI_eq {o : Option D} {y : Int} (h : isI o y = true) : o = some (.int y) := by
  unfold isI at h
  split at h
  · rw [of_decide_eq_true h]
  · cases h
noncomputable def flowN (pairs : List (Int × D)) (at' : Int) (r : RowN) (es : List EntN) (vals : List (Nm × Int)) : Option ON := match r with
  | .set _ => none
  | .less _ => none
  | .whil x => match vals.lookup x with
    | none => none
    | some v => if 0 < v then
        (match es with
        | [] => some (at' + 1, [.whil at'], vals)
        | e :: es' => if es'.all (fun e => e ≠ .whil at') = true then (if e = .whil at' then some (at' + 1, e :: es', vals) else some (at' + 1, .whil at' :: e :: es', vals)) else none)
      else if v = 0 then
        (match es with
        | [] => none
        | e :: es' => if es'.all (fun e => e ≠ .whil at') = true then (if e = .whil at' then (match pairs.lookup at' with | some (.int q) => some (q + 1, es', vals) | _ => none) else none) else none)
      else none
  | .wend => match es with
    | .whil q :: es' => if isI (pairs.lookup at') q = true then some (q, .whil q :: es', vals) else none
    | _ => none
  | .for_ x => if x = 0 then none else if es.all (fun e => e.is x == false) = true then some (at' + 1, .for_ x (at' + 1) :: es, putK vals x 1) else none
  | .next0 => nxN at' [0] es vals
  | .next1 x => nxN at' [x] es vals
  | .next2 x y => nxN at' [x, y] es vals
noncomputable def isEndN : RowN → Bool
  | .set _ => false
  | .less _ => false
  | .whil _ => false
  | .for_ _ => false
  | _ => true
noncomputable def runStep (rows : List RowN) (due pairs : List (Int × D)) (go : Int → List EntN → List (Nm × Int) → Bool) (i : Nat) (at' : Int) (es : List EntN) (vals : List (Nm × Int)) : Bool :=
  (decide (0 ≤ at') && (decide (es.length ≤ 8) && decide (vals.length ≤ 16))) &&
    if at' = (rows.length : Int) then (es.isEmpty && decide (8 < i)) else
    match rows[at'.toNat]? with
    | none => false
    | some (.set x) => go (at' + 1) es (putK vals x 2)
    | some (.less x) => (match vals.lookup x with
      | none => false
      | some v => go (at' + 1) es (putK vals x (v - 1)))
    | some r => (match isEndN r with
      | false => true
      | true => (match es with
        | [] => false
        | e :: _ => isI (due.lookup e.place) at')) &&
      (match flowN pairs at' r es vals with
      | none => false
      | some o => go o.1 o.2.1 o.2.2)
noncomputable def runN (rows : List RowN) (due pairs : List (Int × D)) : Nat → Nat → Int → List EntN → List (Nm × Int) → Bool
  | 0, _, _, _, _ => false
  | k + 1, i, at', es, vals => runStep rows due pairs (runN rows due pairs k (i + 1)) i at' es vals
/-- the loops' ends -/
abbrev LN := List (Int × D) × List (Bool × Nm × Int)
noncomputable def leEndN (kind : Bool) (name : Nm) (at' : Int) (s : LN) : Option LN := match s.2 with
  | [] => none
  | e :: ps => if e.1 = kind ∧ (name = 0 ∨ name = e.2.1) then some (putK s.1 e.2.2 (.int at'), ps) else none
noncomputable def leEndsN (at' : Int) : List Nm → LN → Option LN
  | [], s => some s
  | n :: ns, s => (leEndN true n at' s).bind (leEndsN at' ns)
noncomputable def leStepN (at' : Int) (r : RowN) (s : LN) : Option LN := match r with
  | .for_ x => some (s.1, (true, x, at') :: s.2)
  | .whil _ => some (s.1, (false, 0, at') :: s.2)
  | .wend => leEndN false 0 at' s
  | .set _ => some s
  | .less _ => some s
  | .next0 => leEndsN at' [0] s
  | .next1 x => leEndsN at' [x] s
  | .next2 x y => leEndsN at' [x, y] s
noncomputable def leN : Nat → List RowN → LN → Option LN
  | _, [], s => some s
  | i, r :: rs, s => (leStepN (i : Int) r s).bind (leN (i + 1) rs)
/-- what gather brings: whiles, pairs, fors, loops -/
structure GN where
  w : List Int
  pr : List (Int × D)
  f : List Int
  lp : List (Int × D)
noncomputable def gaPop (at' j : Int) (s : GN) : Option GN := match s.f with
  | [] => none
  | x :: f => some ⟨s.w, s.pr, f, putK s.lp x (.tup [.int at', .int j])⟩
noncomputable def gaStepN (at' : Int) (r : RowN) (s : GN) : Option GN := match r with
  | .set _ => some s
  | .less _ => some s
  | .whil _ => some ⟨at' :: s.w, s.pr, s.f, s.lp⟩
  | .wend => (match s.w with
    | [] => none
    | b :: w => some ⟨w, putK (putK s.pr b (.int at')) at' (.int b), s.f, s.lp⟩)
  | .for_ _ => some ⟨s.w, s.pr, at' :: s.f, s.lp⟩
  | .next0 => gaPop at' 0 s
  | .next1 _ => gaPop at' 0 s
  | .next2 _ _ => (gaPop at' 0 s).bind (gaPop at' 1)
noncomputable def gaN : Nat → List RowN → GN → Option GN
  | _, [], s => some s
  | i, r :: rs, s => (gaStepN (i : Int) r s).bind (gaN (i + 1) rs)
structure BN where
  many : Nat
  rows : List RowN
  st : List (Int × Nm)
  due : List (Int × D)
noncomputable def cW : Nat → Nm
  | 0 => 4
  | 1 => 5
  | _ => 6
noncomputable def cF : Nat → Nm
  | 0 => 1
  | 1 => 2
  | _ => 3
noncomputable def openW (b : BN) : BN := ⟨b.many + 1, b.rows ++ [.set (cW b.st.length), .whil (cW b.st.length), .less (cW b.st.length)], ((b.rows.length + 1 : Nat), 0) :: b.st, b.due⟩
noncomputable def openF (b : BN) : BN := ⟨b.many + 1, b.rows ++ [.for_ (cF b.st.length)], ((b.rows.length : Nat), cF b.st.length) :: b.st, b.due⟩
noncomputable def openN (b : BN) : List BN := [openW b, openF b]
noncomputable def closeN (many : Nat) (rows : List RowN) (e : Int × Nm) (st : List (Int × Nm)) (due : List (Int × D)) : List BN :=
  if e.2 = 0 then [⟨many, rows ++ [.wend], st, putK due e.1 (.int (rows.length : Int))⟩] else
  [⟨many, rows ++ [.next0], st, putK due e.1 (.int (rows.length : Int))⟩, ⟨many, rows ++ [.next1 e.2], st, putK due e.1 (.int (rows.length : Int))⟩] ++
  match st with
  | [] => []
  | e' :: st' => if e'.2 = 0 then [] else [⟨many, rows ++ [.next2 e.2 e'.2], st', putK (putK due e.1 (.int (rows.length : Int))) e'.1 (.int (rows.length : Int))⟩]
noncomputable def shutN (b : BN) : List BN := match b.st with
  | [] => [b]
  | e :: st => closeN b.many b.rows e st b.due
noncomputable def turnN (b : BN) : List BN :=
  if b.many < 4 then (match b.st with
    | [] => openN b
    | _ :: _ => if b.st.length < 3 then openN b ++ shutN b else shutN b) else shutN b
noncomputable def allN (P : BN → Bool) : Nat → BN → Bool
  | 0, c => P c
  | k + 1, c => (turnN c).all (allN P k)
noncomputable def endB (fin : GN) (rows : List RowN) (p : Int × D) : Bool := decide (0 ≤ p.1) && match rows[p.1.toNat]?, p.2 with
  | some (.for_ _), .int e => (match fin.lp.lookup p.1 with | some (.tup [.int x, _]) => decide (x = e) | _ => false)
  | some (.whil _), .int e => isI (fin.pr.lookup p.1) e
  | _, _ => false
noncomputable def okN (c : BN) : Bool := c.st.isEmpty && (decide (c.rows.length ≤ 40) && (decide (0 < c.rows.length) && (decide (c.due.length ≤ 100) &&
  ((match leN 0 c.rows ([], []) with
    | none => false
    | some s1 => Nat.beq s1.1.length c.due.length && sameI s1.1 c.due) &&
   (match gaN 0 c.rows ⟨[], [], [], []⟩ with
    | none => false
    | some fin => (c.due.all fun p => endB fin c.rows p) && runN c.rows c.due fin.pr 300 0 0 [] [])))))
noncomputable def start : BN := ⟨0, [], [], []⟩

@[irreducible] noncomputable def ct_floor : Ct := fun args N Q => ∃ es, args = [.ref 0] ∧ N = [.list (stk es)] ∧ es.length ≤ 20 ∧ Q (.d (.int 0)) [.list (stk es)]
theorem floor_in (es : List Ent) {Q : V → List O → Prop} (h : es.length ≤ 20) (k : Q (.d (.int 0)) [.list (stk es)]) : ct_floor [.ref 0] [.list (stk es)] Q := by delta ct_floor; exact ⟨es, rfl, rfl, h, k⟩
theorem range_down (n : Nat) : rangeN (n : Int) 0 (-1) = n := by
  unfold rangeN
  rw [if_neg (by decide), Int.neg_neg, Int.ediv_one]
  omega
theorem range_down1 (n : Nat) : rangeN ((n : Int) - 1) (0 - 1) (-1) = n := by
  unfold rangeN
  rw [if_neg (by decide), Int.neg_neg, Int.ediv_one]
  omega
noncomputable def fd142 (P : Params) : Fd P 142 := by
  refine' mkFd ?a ?b
  case a => k_is
  case b => k_is


theorem floor_kept (P : Params) : Kept (fd142 P) [] ct_floor := by
  intro args N Q h
  delta ct_floor at h
  obtain ⟨es, rfl, rfl, hlen, hQ⟩ := h
  have hl := stk_len es
  refine ok_in ?_ ?_
  · exact ble_of (by omega)
  refine ok_in ?_ ?_
  · exact Bool.and_eq_true_iff.mpr ⟨rfl, Bool.and_eq_true_iff.mpr ⟨Bool.and_eq_true_iff.mpr ⟨fit_of (by omega) (by omega), rfl⟩, rfl⟩⟩
  refine' for_in ?e ?_
  case e => exact congrArg (rangeL _ _) (range_down _)
  rw [hl]
  refine' for_inv (fun rem s => s = ⟨[(Str.ofString "pile", .ref 0)], [.list (stk es)]⟩ ∧ ∃ pre es', es = pre ++ es' ∧ rem = rangeL (es'.length : Int) (-1) es'.length) ?t ?d _ _ ⟨[(Str.ofString "pile", .ref 0)], [.list (stk es)]⟩ ?c ⟨rfl, [], es, rfl, rfl⟩
  case c =>
    constructor
    intro K h
    exact h
  case t =>
    rintro x r s ⟨rfl, pre, es', he, hr⟩ K' hN hR
    cases es' with
    | nil => cases hr
    | cons e es' =>
    obtain ⟨rfl, rfl⟩ := List.cons.inj hr
    have hi : item (stk es) ((e :: es').length - 1 : Int) = some (entD e) := item_nat (n := es'.length) (by simp) (he ▸ stk_get e es' pre)
    have hlt : es'.length < 20 := by rw [he] at hlen; simp at hlen; omega
    refine ok_in ?_ ?_
    · exact fit_of (by simp) (by simp; omega)
    refine opt_in _ hi ?_
    cases e with
    | for_ x p =>
      refine hN _ _ _ rfl (by constructor; intro K h; exact h) ⟨rfl, pre ++ [.for_ x p], es', by simp [he], ?_⟩
      rw [show ((List.length (_ :: es') : Nat) : Int) + -1 = (es'.length : Int) by simp; omega]
    | whil p =>
      refine hN _ _ _ rfl (by constructor; intro K h; exact h) ⟨rfl, pre ++ [.whil p], es', by simp [he], ?_⟩
      rw [show ((List.length (_ :: es') : Nat) : Int) + -1 = (es'.length : Int) by simp; omega]
  case d =>
    rintro s ⟨rfl, _⟩
    exact hQ

noncomputable def fd149 (P : Params) : Fd P 149 := by
  refine' mkFd ?a ?b
  case a => k_is
  case b => k_is
@[irreducible] noncomputable def ct_found : Ct := fun args N Q => ∃ es, N = [.list (stk es)] ∧ es.length ≤ 20 ∧ ((∃ y, args = [.ref 0, .d (.str (Str.ofString "FOR")), .d (.str y)] ∧ Q (.d (.int (foundF y es))) N) ∨ (∃ q, args = [.ref 0, .d (.str (Str.ofString "WHILE")), .d (.int q)] ∧ Q (.d (.int (foundW q es))) N))
theorem foundF_in (es : List Ent) (y : Str) {Q : V → List O → Prop} (h : es.length ≤ 20) (k : Q (.d (.int (foundF y es))) [.list (stk es)]) : ct_found [.ref 0, .d (.str (Str.ofString "FOR")), .d (.str y)] [.list (stk es)] Q := by delta ct_found; exact ⟨es, rfl, h, .inl ⟨y, rfl, k⟩⟩
theorem foundW_in (es : List Ent) (q : Int) {Q : V → List O → Prop} (h : es.length ≤ 20) (k : Q (.d (.int (foundW q es))) [.list (stk es)]) : ct_found [.ref 0, .d (.str (Str.ofString "WHILE")), .d (.int q)] [.list (stk es)] Q := by delta ct_found; exact ⟨es, rfl, h, .inr ⟨q, rfl, k⟩⟩
noncomputable def foundS (kind : Str) (nm : D) (es : List Ent) : St := ⟨[(Str.ofString "pile", .ref 0), (Str.ofString "kind", .d (.str kind)), (Str.ofString "name", .d nm)], [.list (stk es)]⟩
theorem found_kept (P : Params) : Kept (fd149 P) [(142, ct_floor)] ct_found := by
  intro args N Q h
  delta ct_found at h
  obtain ⟨es, rfl, hlen, h⟩ := h
  have hl := stk_len es
  rcases h with ⟨y, rfl, hQ⟩ | ⟨q, rfl, hQ⟩
  · refine ok_in ?_ ?_
    · exact ble_of (by omega)
    refine floor_in es hlen ?_
    refine ok_in ?_ ?_
    · exact Bool.and_eq_true_iff.mpr ⟨rfl, Bool.and_eq_true_iff.mpr ⟨Bool.and_eq_true_iff.mpr ⟨fit_of (by omega) (by omega), rfl⟩, rfl⟩⟩
    refine' for_in (p := 1) (k := 3) (n := 1) ?e ?_
    case e => exact congrArg (rangeL _ _) (range_down1 _)
    rw [hl]
    refine' for_inv (fun rem s => s = foundS (Str.ofString "FOR") (.str y) es ∧ ∃ pre es', es = pre ++ es' ∧ rem = rangeL ((es'.length : Int) - 1) (-1) es'.length ∧ foundF y es' = foundF y es) ?t ?d _ _ (foundS (Str.ofString "FOR") (.str y) es) ⟨fun K h => h⟩ ⟨rfl, [], es, rfl, rfl, rfl⟩
    case t =>
      rintro x r s ⟨rfl, pre, es', he, hr, hf⟩ K' hN hR
      cases es' with
      | nil => cases hr
      | cons e es' =>
      obtain ⟨rfl, rfl⟩ := List.cons.inj hr
      refine ok_in (stk_fit he hlen) ?_
      refine opt_in _ (stk_item he) ?_
      cases e with
      | for_ x p =>
        refine ok_in (stk_fit he hlen) ?_
        refine opt_in _ (stk_item he) ?_
        refine br_in ?_ ?_
        · intro hc
          refine hR _ _ ?_
          rw [← hf, foundF_yes hc] at hQ
          exact hQ
        · intro hc
          exact hN _ _ _ rfl ⟨fun K h => h⟩ ⟨rfl, pre ++ [.for_ x p], es', by rw [he, List.append_assoc]; rfl, by rw [len_dn], (foundF_no hc).symm.trans hf⟩
      | whil p =>
        exact hN _ _ _ rfl ⟨fun K h => h⟩ ⟨rfl, pre ++ [.whil p], es', by rw [he, List.append_assoc]; rfl, by rw [len_dn], hf⟩
    case d =>
      rintro s ⟨rfl, pre, es', _, hr, hf⟩
      cases es' with
      | cons e es' => cases hr
      | nil =>
        rw [← hf] at hQ
        exact hQ
  · refine ok_in ?_ ?_
    · exact ble_of (by omega)
    refine floor_in es hlen ?_
    refine ok_in ?_ ?_
    · exact Bool.and_eq_true_iff.mpr ⟨rfl, Bool.and_eq_true_iff.mpr ⟨Bool.and_eq_true_iff.mpr ⟨fit_of (by omega) (by omega), rfl⟩, rfl⟩⟩
    refine' for_in (p := 1) (k := 3) (n := 1) ?e2 ?_
    case e2 => exact congrArg (rangeL _ _) (range_down1 _)
    rw [hl]
    refine' for_inv (fun rem s => s = foundS (Str.ofString "WHILE") (.int q) es ∧ ∃ pre es', es = pre ++ es' ∧ rem = rangeL ((es'.length : Int) - 1) (-1) es'.length ∧ foundW q es' = foundW q es) ?t2 ?d2 _ _ (foundS (Str.ofString "WHILE") (.int q) es) ⟨fun K h => h⟩ ⟨rfl, [], es, rfl, rfl, rfl⟩
    case t2 =>
      rintro x r s ⟨rfl, pre, es', he, hr, hf⟩ K' hN hR
      cases es' with
      | nil => cases hr
      | cons e es' =>
      obtain ⟨rfl, rfl⟩ := List.cons.inj hr
      refine ok_in (stk_fit he hlen) ?_
      refine opt_in _ (stk_item he) ?_
      cases e with
      | for_ x p =>
        exact hN _ _ _ rfl ⟨fun K h => h⟩ ⟨rfl, pre ++ [.for_ x p], es', by rw [he, List.append_assoc]; rfl, by rw [len_dn], hf⟩
      | whil p =>
        refine ok_in (stk_fit he hlen) ?_
        refine opt_in _ (stk_item he) ?_
        refine br_in ?_ ?_
        · intro hc
          refine hR _ _ ?_
          rw [← hf, foundW_yes hc] at hQ
          exact hQ
        · intro hc
          exact hN _ _ _ rfl ⟨fun K h => h⟩ ⟨rfl, pre ++ [.whil p], es', by rw [he, List.append_assoc]; rfl, by rw [len_dn], (foundW_no hc).symm.trans hf⟩
    case d2 =>
      rintro s ⟨rfl, pre, es', _, hr, hf⟩
      cases es' with
      | cons e es' => cases hr
      | nil =>
        rw [← hf] at hQ
        exact hQ

theorem SpecI.le {w : World} {ns sc : List Int} {f D D' : Nat} {ct : Ct} (S : SpecI w ns sc f D ct) (h : D ≤ D') : SpecI w ns sc f D' ct := fun fx Z hw hn hs hD => S fx Z hw hn hs (Nat.le_trans h hD)
theorem TOk.nil {w : World} {ns sc : List Int} {D : Nat} : TOk w ns sc D [] := ⟨fun _ _ h => (by cases h), fun _ _ h => (by cases h)⟩
theorem TOk.cons {w : World} {ns sc : List Int} {D f D' : Nat} {ct : Ct} {T : List (Nat × Ct)} (S : SpecI w ns sc f D' ct) (hD : D' ≤ D) (hk : keepIn (hd.heap_39 w.params) (.ref f) = true) (X : TOk w ns sc D T) : TOk w ns sc D ((f, ct) :: T) := by
  have at' : ∀ a ct', lookN ((f, ct) :: T) a = some ct' → a = f ∧ ct' = ct ∨ lookN T a = some ct' := fun a ct' h => by
    have h' : (match Nat.beq a f with | true => some ct | false => lookN T a) = some ct' := h
    cases q : Nat.beq a f with
    | true => rw [q] at h'; cases h'; exact .inl ⟨Nat.eq_of_beq_eq_true q, rfl⟩
    | false => rw [q] at h'; exact .inr h'
  refine ⟨fun a ct' h => ?_, fun a ct' h => ?_⟩
  · rcases at' a ct' h with ⟨rfl, rfl⟩ | h
    · exact hk
    · exact X.keep a ct' h
  · rcases at' a ct' h with ⟨rfl, rfl⟩ | h
    · exact S.le hD
    · exact X.spec a ct' h
theorem len0 {α : Type} : ∀ {l : List α}, l.length = 0 → l = []
  | [], _ => rfl
theorem lenS {α : Type} {n : Nat} : ∀ {l : List α}, l.length = n + 1 → ∃ a r, l = a :: r ∧ r.length = n
  | a :: r, h => ⟨a, r, rfl, Nat.succ.inj h⟩
theorem len1 {α : Type} {l : List α} (h : l.length = 1) : ∃ a, l = [a] := by
  obtain ⟨a, r, rfl, h2⟩ := lenS h
  exact ⟨a, by rw [len0 h2]⟩
theorem len2 {α : Type} {l : List α} (h : l.length = 2) : ∃ a b, l = [a, b] := by
  obtain ⟨a, r, rfl, h2⟩ := lenS h
  obtain ⟨b, rfl⟩ := len1 h2
  exact ⟨a, b, rfl⟩
theorem len3 {α : Type} {l : List α} (h : l.length = 3) : ∃ a b c, l = [a, b, c] := by
  obtain ⟨a, r, rfl, h2⟩ := lenS h
  obtain ⟨b, c, rfl⟩ := len2 h2
  exact ⟨a, b, c, rfl⟩
theorem len4 {α : Type} {l : List α} (h : l.length = 4) : ∃ a b c d, l = [a, b, c, d] := by
  obtain ⟨a, r, rfl, h2⟩ := lenS h
  obtain ⟨b, c, d, rfl⟩ := len3 h2
  exact ⟨a, b, c, d, rfl⟩
theorem len5 {α : Type} {l : List α} (h : l.length = 5) : ∃ a b c d e, l = [a, b, c, d, e] := by
  obtain ⟨a, r, rfl, h2⟩ := lenS h
  obtain ⟨b, c, d, e, rfl⟩ := len4 h2
  exact ⟨a, b, c, d, e, rfl⟩
theorem ok142 (P : Params) : DefOk (fd142 P) 1 := ⟨fun s us _ h => by obtain ⟨a, rfl⟩ := len1 h; exact BindsTo.of_eq rfl, rfl⟩
theorem ok149 (P : Params) : DefOk (fd149 P) 3 := ⟨fun s us _ h => by obtain ⟨a, b, c, rfl⟩ := len3 h; exact BindsTo.of_eq rfl, rfl⟩
theorem spec_floor (w : World) (ns sc : List Int) : SpecI w ns sc 142 2 ct_floor := spec_def (fd142 w.params) (ok142 _) (T := []) TOk.nil (by decide) (by intro as N0 K h; delta ct_floor at h; obtain ⟨es, rfl, _⟩ := h; rfl) (floor_kept _)
theorem spec_found (w : World) (ns sc : List Int) : SpecI w ns sc 149 3 ct_found := spec_def (fd149 w.params) (ok149 _) (TOk.cons (spec_floor w ns sc) (by decide) (by kernel_rfl!) TOk.nil) (by decide) (by intro as N0 K h; delta ct_found at h; rcases h with ⟨es, _, _, ⟨_, rfl, _⟩ | ⟨_, rfl, _⟩⟩ <;> rfl) (found_kept _)

noncomputable def ctlO (i : Nat) : O := .inst 124 [(Str.ofString "pile", .ref i), (Str.ofString "most", .d (.int 20)), (Str.ofString "failed_at", .d (.int (-1)))]
noncomputable def fd156 (P : Params) : Fd P 156 := by
  refine' mkFd ?a ?b
  case a => k_is
  case b => k_is
@[irreducible] noncomputable def ct_cut : Ct := fun args N Q => ∃ (n : Nat) (l : List D), args = [.ref 0, .d (.int n)] ∧ N = [ctlO 1, .list l] ∧ l.length ≤ 1000 ∧ Q (.d .none) [ctlO 2, .list l, .list (l.take n)]
theorem cut_in (n : Nat) (l : List D) {Q : V → List O → Prop} (h : l.length ≤ 1000) (k : Q (.d .none) [ctlO 2, .list l, .list (l.take n)]) : ct_cut [.ref 0, .d (.int n)] [ctlO 1, .list l] Q := by delta ct_cut; exact ⟨n, l, rfl, rfl, h, k⟩
theorem cut_kept (P : Params) : Kept (fd156 P) [] ct_cut := by
  intro args N Q h
  delta ct_cut at h
  obtain ⟨n, l, rfl, rfl, hl, hQ⟩ := h
  refine ok_in ?_ ?_
  · exact ble_of hl
  exact hQ
noncomputable def fd135 (P : Params) : Fd P 135 := by
  refine' mkFd ?a ?b
  case a => k_is
  case b => k_is
@[irreducible] noncomputable def ct_put : Ct := fun args N Q => ∃ (e : Ent) (es : List Ent), args = [.ref 0, .tup (match e with | .for_ x p => [.d (.str (Str.ofString "FOR")), .d (.str x), .d (.int p), .d (.int 2), .d (.int 1)] | .whil p => [.d (.str (Str.ofString "WHILE")), .d (.int p)])] ∧ N = [ctlO 1, .list (stk es)] ∧ es.length < 20 ∧ Q (.d .none) [ctlO 1, .list (stk (e :: es))]
theorem putF_in (x : Str) (p : Int) (es : List Ent) {Q : V → List O → Prop} (h : es.length < 20) (k : Q (.d .none) [ctlO 1, .list (stk (.for_ x p :: es))]) : ct_put [.ref 0, .tup [.d (.str (Str.ofString "FOR")), .d (.str x), .d (.int p), .d (.int 2), .d (.int 1)]] [ctlO 1, .list (stk es)] Q := by delta ct_put; exact ⟨.for_ x p, es, rfl, rfl, h, k⟩
theorem putW_in (p : Int) (es : List Ent) {Q : V → List O → Prop} (h : es.length < 20) (k : Q (.d .none) [ctlO 1, .list (stk (.whil p :: es))]) : ct_put [.ref 0, .tup [.d (.str (Str.ofString "WHILE")), .d (.int p)]] [ctlO 1, .list (stk es)] Q := by delta ct_put; exact ⟨.whil p, es, rfl, rfl, h, k⟩
theorem put_kept (P : Params) : Kept (fd135 P) [] ct_put := by
  intro args N Q h
  delta ct_put at h
  obtain ⟨e, es, rfl, rfl, hl, hQ⟩ := h
  have hs := stk_len es
  refine ok_in ?_ ?_
  · exact ble_of (by omega)
  refine br_f ?_ ?_
  · exact decide_eq_false (by omega)
  cases e with
  | for_ x p =>
    refine ok_in ?_ ?_
    · exact ble_of (by omega)
    exact hQ
  | whil p =>
    refine ok_in ?_ ?_
    · exact ble_of (by omega)
    exact hQ
theorem ok156 (P : Params) : DefOk (fd156 P) 2 := ⟨fun s us _ h => by obtain ⟨a, b, rfl⟩ := len2 h; exact BindsTo.of_eq rfl, rfl⟩
theorem ok135 (P : Params) : DefOk (fd135 P) 2 := ⟨fun s us _ h => by obtain ⟨a, b, rfl⟩ := len2 h; exact BindsTo.of_eq rfl, rfl⟩
theorem spec_cut (w : World) (ns sc : List Int) : SpecI w ns sc 156 2 ct_cut := spec_def (fd156 w.params) (ok156 _) (T := []) TOk.nil (by decide) (by intro as N0 K h; delta ct_cut at h; obtain ⟨n, l, rfl, _⟩ := h; rfl) (cut_kept _)
theorem spec_put (w : World) (ns sc : List Int) : SpecI w ns sc 135 2 ct_put := spec_def (fd135 w.params) (ok135 _) (T := []) TOk.nil (by decide) (by intro as N0 K h; delta ct_put at h; obtain ⟨e, es, rfl, _⟩ := h; rfl) (put_kept _)

noncomputable def fd177 (P : Params) : Fd P 177 := by
  refine' mkFd ?a ?b
  case a => k_is
  case b => k_is
@[irreducible] noncomputable def ct_name : Ct := fun args N Q => ∃ (y x : Str) (p : Int) (pre r : List Ent), args = [.ref 0, .d (.str y)] ∧ N = [ctlO 1, .list (stk (pre ++ .for_ x p :: r))] ∧ (pre ++ .for_ x p :: r).length ≤ 20 ∧ foundF y (pre ++ .for_ x p :: r) = (r.length : Int) ∧ Q (.d (.str x)) N
theorem name_at_in (y x : Str) (p : Int) (r : List Ent) {Q : V → List O → Prop} (h : (Ent.for_ x p :: r).length ≤ 20) (hf : foundF y (.for_ x p :: r) = (r.length : Int)) (k : Q (.d (.str x)) [ctlO 1, .list (stk (.for_ x p :: r))]) : ct_name [.ref 0, .d (.str y)] [ctlO 1, .list (stk (.for_ x p :: r))] Q := by delta ct_name; exact ⟨y, x, p, [], r, rfl, rfl, h, hf, k⟩
theorem name_kept (P : Params) : Kept (fd177 P) [(149, ct_found)] ct_name := by
  intro args N Q h
  delta ct_name at h
  obtain ⟨y, x, p, pre, r, rfl, rfl, hl, hf, hQ⟩ := h
  refine foundF_in (pre ++ .for_ x p :: r) y hl ?_
  rw [hf]
  refine ok_in ?_ ?_
  · exact fit_of (by omega) (by rw [List.length_append, List.length_cons] at hl; omega)
  refine opt_in (entD (.for_ x p)) ?_ ?_
  · exact item_nat rfl (stk_get _ _ _)
  exact hQ
theorem ok177 (P : Params) : DefOk (fd177 P) 2 := ⟨fun s us _ h => by obtain ⟨a, b, rfl⟩ := len2 h; exact BindsTo.of_eq rfl, rfl⟩
theorem spec_name (w : World) (ns sc : List Int) : SpecI w ns sc 177 4 ct_name := spec_def (fd177 w.params) (ok177 _) (TOk.cons (spec_found w ns sc) (by decide) (by kernel_rfl!) TOk.nil) (by decide) (by intro as N0 K h; delta ct_name at h; obtain ⟨y, x, p, pre, r, rfl, _⟩ := h; rfl) (name_kept _)

noncomputable def fd413 (P : Params) : Fd P 413 := by
  refine' mkFd ?a ?b
  case a => k_is
  case b => k_is
noncomputable def fd107 (P : Params) : Fd P 107 := by
  refine' mkFd ?a ?b
  case a => k_is
  case b => k_is
noncomputable def fd476 (P : Params) : Fd P 476 := by
  refine' mkFd ?a ?b
  case a => k_is
  case b => k_is
@[irreducible] noncomputable def ct_whole : Ct := fun args N Q => ∃ a : Int, args = [.d (.int a)] ∧ N = [] ∧ Q (.d (.bool true)) []
theorem whole_in (a : Int) {Q : V → List O → Prop} (k : Q (.d (.bool true)) []) : ct_whole [.d (.int a)] [] Q := by delta ct_whole; exact ⟨a, rfl, rfl, k⟩
noncomputable def ordF (a b : Int) : Int := (if decide (b < a) = true then 1 else 0) - (if decide (a < b) = true then 1 else 0)
@[irreducible] noncomputable def ct_sign : Ct := fun args N Q => ∃ a : Int, args = [.d (.int a)] ∧ N = [] ∧ Q (.d (.int (ordF a 0))) []
theorem sign_in (a : Int) {Q : V → List O → Prop} (k : Q (.d (.int (ordF a 0))) []) : ct_sign [.d (.int a)] [] Q := by delta ct_sign; exact ⟨a, rfl, rfl, k⟩
@[irreducible] noncomputable def ct_order : Ct := fun args N Q => ∃ a b : Int, args = [.d (.int a), .d (.int b)] ∧ N = [] ∧ Q (.d (.int (ordF a b))) []
theorem order_in (a b : Int) {Q : V → List O → Prop} (k : Q (.d (.int (ordF a b))) []) : ct_order [.d (.int a), .d (.int b)] [] Q := by delta ct_order; exact ⟨a, b, rfl, rfl, k⟩
theorem whole_kept (P : Params) : Kept (fd413 P) [] ct_whole := by
  intro args N Q h
  delta ct_whole at h
  obtain ⟨a, rfl, rfl, hQ⟩ := h
  exact hQ
theorem sign_kept (P : Params) : Kept (fd107 P) [] ct_sign := by
  intro args N Q h
  delta ct_sign at h
  obtain ⟨a, rfl, rfl, hQ⟩ := h
  exact hQ
theorem order_kept (P : Params) : Kept (fd476 P) [(413, ct_whole)] ct_order := by
  intro args N Q h
  delta ct_order at h
  obtain ⟨a, b, rfl, rfl, hQ⟩ := h
  refine whole_in a ?_
  refine whole_in b ?_
  exact hQ
theorem ok413 (P : Params) : DefOk (fd413 P) 1 := ⟨fun s us _ h => by obtain ⟨a, rfl⟩ := len1 h; exact BindsTo.of_eq rfl, rfl⟩
theorem ok107 (P : Params) : DefOk (fd107 P) 1 := ⟨fun s us _ h => by obtain ⟨a, rfl⟩ := len1 h; exact BindsTo.of_eq rfl, rfl⟩
theorem ok476 (P : Params) : DefOk (fd476 P) 2 := ⟨fun s us _ h => by obtain ⟨a, b, rfl⟩ := len2 h; exact BindsTo.of_eq rfl, rfl⟩
theorem spec_whole (w : World) (ns sc : List Int) : SpecI w ns sc 413 2 ct_whole := spec_def (fd413 w.params) (ok413 _) (T := []) TOk.nil (by decide) (by intro as N0 K h; delta ct_whole at h; obtain ⟨a, rfl, _⟩ := h; rfl) (whole_kept _)
theorem spec_sign (w : World) (ns sc : List Int) : SpecI w ns sc 107 2 ct_sign := spec_def (fd107 w.params) (ok107 _) (T := []) TOk.nil (by decide) (by intro as N0 K h; delta ct_sign at h; obtain ⟨a, rfl, _⟩ := h; rfl) (sign_kept _)
theorem spec_order (w : World) (ns sc : List Int) : SpecI w ns sc 476 3 ct_order := spec_def (fd476 w.params) (ok476 _) (TOk.cons (spec_whole w ns sc) (by decide) (by kernel_rfl!) TOk.nil) (by decide) (by intro as N0 K h; delta ct_order at h; obtain ⟨a, b, rfl, _⟩ := h; rfl) (order_kept _)

noncomputable def fd163 (P : Params) : Fd P 163 := by
  refine' mkFd ?a ?b
  case a => k_is
  case b => k_is
noncomputable def fd93 (P : Params) : Fd P 93 := by
  refine' mkFd ?a ?b
  case a => k_is
  case b => k_is
noncomputable def fd100 (P : Params) : Fd P 100 := by
  refine' mkFd ?a ?b
  case a => k_is
  case b => k_is
@[irreducible] noncomputable def ct_past : Ct := fun args N Q => ∃ v l : Int, args = [.d (.int v), .d (.int l), .d (.int 1), .own 476] ∧ N = [] ∧ Q (.d (.bool (decide (ordF l v < 0)))) []
theorem past_in (v l : Int) {Q : V → List O → Prop} (k : Q (.d (.bool (decide (ordF l v < 0)))) []) : ct_past [.d (.int v), .d (.int l), .d (.int 1), .own 476] [] Q := by delta ct_past; exact ⟨v, l, rfl, rfl, k⟩
theorem past_kept (P : Params) : Kept (fd163 P) [(476, ct_order), (107, ct_sign)] ct_past := by
  intro args N Q h
  delta ct_past at h
  obtain ⟨v, l, rfl, rfl, hQ⟩ := h
  refine sign_in 1 ?_
  refine order_in l v ?_
  exact hQ
@[irreducible] noncomputable def ct_nought : Ct := fun args N Q => ∃ a : Int, args = [.d (.int a)] ∧ N = [] ∧ Q (.d (.bool (a == 0))) []
theorem nought_in (a : Int) {Q : V → List O → Prop} (k : Q (.d (.bool (a == 0))) []) : ct_nought [.d (.int a)] [] Q := by delta ct_nought; exact ⟨a, rfl, rfl, k⟩
theorem nought_kept (P : Params) : Kept (fd93 P) [] ct_nought := by
  intro args N Q h
  delta ct_nought at h
  obtain ⟨a, rfl, rfl, hQ⟩ := h
  exact hQ
@[irreducible] noncomputable def ct_true : Ct := fun args N Q => ∃ a : Int, args = [.d (.int a)] ∧ N = [] ∧ Q (.d (.bool (!(a == 0)))) []
theorem true_in (a : Int) {Q : V → List O → Prop} (k : Q (.d (.bool (!(a == 0)))) []) : ct_true [.d (.int a)] [] Q := by delta ct_true; exact ⟨a, rfl, rfl, k⟩
theorem true_kept (P : Params) : Kept (fd100 P) [(93, ct_nought)] ct_true := by
  intro args N Q h
  delta ct_true at h
  obtain ⟨a, rfl, rfl, hQ⟩ := h
  refine nought_in a ?_
  exact hQ
theorem ok163 (P : Params) : DefOk (fd163 P) 4 := ⟨fun s us _ h => by obtain ⟨a, b, c, d, rfl⟩ := len4 h; exact BindsTo.of_eq rfl, rfl⟩
theorem ok93 (P : Params) : DefOk (fd93 P) 1 := ⟨fun s us _ h => by obtain ⟨a, rfl⟩ := len1 h; exact BindsTo.of_eq rfl, rfl⟩
theorem ok100 (P : Params) : DefOk (fd100 P) 1 := ⟨fun s us _ h => by obtain ⟨a, rfl⟩ := len1 h; exact BindsTo.of_eq rfl, rfl⟩
theorem spec_past (w : World) (ns sc : List Int) : SpecI w ns sc 163 4 ct_past := spec_def (fd163 w.params) (ok163 _) (TOk.cons (spec_order w ns sc) (by decide) (by kernel_rfl!) (TOk.cons (spec_sign w ns sc) (by decide) (by kernel_rfl!) TOk.nil)) (by decide) (by intro as N0 K h; delta ct_past at h; obtain ⟨v, l, rfl, _⟩ := h; rfl) (past_kept _)
theorem spec_nought (w : World) (ns sc : List Int) : SpecI w ns sc 93 2 ct_nought := spec_def (fd93 w.params) (ok93 _) (T := []) TOk.nil (by decide) (by intro as N0 K h; delta ct_nought at h; obtain ⟨a, rfl, _⟩ := h; rfl) (nought_kept _)
theorem spec_true (w : World) (ns sc : List Int) : SpecI w ns sc 100 3 ct_true := spec_def (fd100 w.params) (ok100 _) (TOk.cons (spec_nought w ns sc) (by decide) (by kernel_rfl!) TOk.nil) (by decide) (by intro as N0 K h; delta ct_true at h; obtain ⟨a, rfl, _⟩ := h; rfl) (true_kept _)

theorem stk_cut (r : List Ent) : ∀ pre, (stk (pre ++ r)).take r.length = stk r
  | [] => by rw [← stk_len r]; exact List.take_length
  | p :: pre => by
    show (stk (pre ++ r) ++ [entD p]).take r.length = _
    rw [List.take_append_of_le_length (by rw [stk_len, List.length_append]; omega)]
    exact stk_cut r pre
noncomputable def fd170 (P : Params) : Fd P 170 := by
  refine' mkFd ?a ?b
  case a => k_is
  case b => k_is
@[irreducible] noncomputable def ct_begin : Ct := fun args N Q => ∃ (y : Str) (p : Int) (es : List Ent), args = [.ref 0, .d (.str y), .d (.int p), .d (.int 2), .d (.int 1)] ∧ N = [ctlO 1, .list (stk es)] ∧ es.length < 20 ∧
  ((foundF y es = -1 ∧ Q (.d .none) [ctlO 1, .list (stk (.for_ y p :: es))]) ∨ ∃ (pre r : List Ent) (x : Str) (p' : Int), es = pre ++ .for_ x p' :: r ∧ foundF y es = (r.length : Int) ∧ Q (.d .none) [ctlO 2, .list (stk es), .list (stk (.for_ y p :: r))])
theorem begin_in (y : Str) (p : Int) (es : List Ent) {Q : V → List O → Prop} (h : es.length < 20) (hf : foundF y es = -1) (k : Q (.d .none) [ctlO 1, .list (stk (.for_ y p :: es))]) : ct_begin [.ref 0, .d (.str y), .d (.int p), .d (.int 2), .d (.int 1)] [ctlO 1, .list (stk es)] Q := by delta ct_begin; exact ⟨y, p, es, rfl, rfl, h, .inl ⟨hf, k⟩⟩
theorem begin_kept (P : Params) : Kept (fd170 P) [(149, ct_found), (156, ct_cut), (135, ct_put)] ct_begin := by
  intro args N Q h
  delta ct_begin at h
  obtain ⟨y, p, es, rfl, rfl, hl, h⟩ := h
  refine foundF_in es y (Nat.le_of_lt hl) ?_
  rcases h with ⟨hf, hQ⟩ | ⟨pre, r, x, p', rfl, hf, hQ⟩
  · rw [hf]
    refine putF_in y p es hl ?_
    exact hQ
  · rw [hf]
    rw [List.length_append, List.length_cons] at hl
    refine cut_in r.length (stk (pre ++ .for_ x p' :: r)) ?_ ?_
    · rw [stk_len, List.length_append, List.length_cons]; omega
    rw [show (stk (pre ++ .for_ x p' :: r)).take r.length = stk r by
      rw [show pre ++ .for_ x p' :: r = (pre ++ [.for_ x p']) ++ r by rw [List.append_assoc]; rfl]
      exact stk_cut r _]
    refine putF_in y p r ?_ ?_
    · omega
    exact hQ
theorem ok170 (P : Params) : DefOk (fd170 P) 5 := ⟨fun s us _ h => by obtain ⟨a, b, c, d, e, rfl⟩ := len5 h; exact BindsTo.of_eq rfl, rfl⟩
theorem spec_begin (w : World) (ns sc : List Int) : SpecI w ns sc 170 4 ct_begin := spec_def (fd170 w.params) (ok170 _) (TOk.cons (spec_found w ns sc) (by decide) (by kernel_rfl!) (TOk.cons (spec_cut w ns sc) (by decide) (by kernel_rfl!) (TOk.cons (spec_put w ns sc) (by decide) (by kernel_rfl!) TOk.nil))) (by decide) (by intro as N0 K h; delta ct_begin at h; obtain ⟨y, p, es, rfl, _⟩ := h; rfl) (begin_kept _)

noncomputable def fd202 (P : Params) : Fd P 202 := by
  refine' mkFd ?a ?b
  case a => k_is
  case b => k_is
@[irreducible] noncomputable def ct_wend : Ct := fun args N Q => ∃ (q : Int) (pre r : List Ent), args = [.ref 0, .d (.int q)] ∧ N = [ctlO 1, .list (stk (pre ++ .whil q :: r))] ∧ (pre ++ .whil q :: r).length ≤ 20 ∧ foundW q (pre ++ .whil q :: r) = (r.length : Int) ∧ Q (.d (.int q)) [ctlO 2, .list (stk (pre ++ .whil q :: r)), .list (stk (.whil q :: r))]
theorem wend_in (q : Int) (r : List Ent) {Q : V → List O → Prop} (h : (Ent.whil q :: r).length ≤ 20) (hf : foundW q (.whil q :: r) = (r.length : Int)) (k : Q (.d (.int q)) [ctlO 2, .list (stk (.whil q :: r)), .list (stk (.whil q :: r))]) : ct_wend [.ref 0, .d (.int q)] [ctlO 1, .list (stk (.whil q :: r))] Q := by delta ct_wend; exact ⟨q, [], r, rfl, rfl, h, hf, k⟩
theorem wend_kept (P : Params) : Kept (fd202 P) [(149, ct_found), (156, ct_cut)] ct_wend := by
  intro args N Q h
  delta ct_wend at h
  obtain ⟨q, pre, r, rfl, rfl, hl, hf, hQ⟩ := h
  refine foundW_in (pre ++ .whil q :: r) q hl ?_
  rw [hf]
  rw [List.length_append, List.length_cons] at hl
  refine cut_in (r.length + 1) (stk (pre ++ .whil q :: r)) ?_ ?_
  · rw [stk_len, List.length_append, List.length_cons]; omega
  rw [show (stk (pre ++ .whil q :: r)).take (r.length + 1) = stk (.whil q :: r) from stk_cut (.whil q :: r) pre]
  refine ok_in ?_ ?_
  · exact fit_of (by omega) (by omega)
  refine opt_in (entD (.whil q)) ?_ ?_
  · exact item_nat rfl (stk_get (.whil q) r [])
  exact hQ
theorem ok202 (P : Params) : DefOk (fd202 P) 2 := ⟨fun s us hIn h => by obtain ⟨a, b, rfl⟩ := len2 h; exact BindsTo.of_defaults (T := 195) rfl (hIn 195 _ (by rfl)) rfl rfl rfl, rfl⟩
theorem spec_wend (w : World) (ns sc : List Int) : SpecI w ns sc 202 4 ct_wend := spec_def (fd202 w.params) (ok202 _) (TOk.cons (spec_found w ns sc) (by decide) (by kernel_rfl!) (TOk.cons (spec_cut w ns sc) (by decide) (by kernel_rfl!) TOk.nil)) (by decide) (by intro as N0 K h; delta ct_wend at h; obtain ⟨q, pre, r, rfl, _⟩ := h; rfl) (wend_kept _)

noncomputable def fd72 (P : Params) : Fd P 72 := by
  refine' mkFd ?a ?b
  case a => k_is
  case b => k_is
@[irreducible] noncomputable def ct_fits : Ct := fun args N Q => ∃ a : Int, args = [.d (.int a), .d (.int 16)] ∧ N = [] ∧ -32768 ≤ a ∧ a < 32768 ∧ Q (.d (.bool true)) []
theorem fits_in (a : Int) {Q : V → List O → Prop} (h1 : -32768 ≤ a) (h2 : a < 32768) (k : Q (.d (.bool true)) []) : ct_fits [.d (.int a), .d (.int 16)] [] Q := by delta ct_fits; exact ⟨a, rfl, rfl, h1, h2, k⟩
theorem fits_kept (P : Params) : Kept (fd72 P) [] ct_fits := by
  intro args N Q h
  delta ct_fits at h
  obtain ⟨a, rfl, rfl, h1, h2, hQ⟩ := h
  refine br_t (decide_eq_true h1) ?_
  rw [show (true : Bool) = decide (a < 32768) from (decide_eq_true h2).symm] at hQ
  exact hQ
theorem ok72 (P : Params) : DefOk (fd72 P) 2 := ⟨fun s us _ h => by obtain ⟨a, b, rfl⟩ := len2 h; exact BindsTo.of_eq rfl, rfl⟩
theorem spec_fits (w : World) (ns sc : List Int) : SpecI w ns sc 72 2 ct_fits := spec_def (fd72 w.params) (ok72 _) (T := []) TOk.nil (by decide) (by intro as N0 K h; delta ct_fits at h; obtain ⟨a, rfl, _⟩ := h; rfl) (fits_kept _)

noncomputable def fd420 (P : Params) : Fd P 420 := by
  refine' mkFd ?a ?b
  case a => k_is
  case b => k_is
noncomputable def fd427 (P : Params) : Fd P 427 := by
  refine' mkFd ?a ?b
  case a => k_is
  case b => k_is
@[irreducible] noncomputable def ct_settled : Ct := fun args N Q => ∃ a : Int, args = [.d (.int a), .d (.int 16), .d (.int 9)] ∧ N = [] ∧ -32768 ≤ a ∧ a < 32768 ∧ Q (.d (.int a)) []
theorem settled_in (a : Int) {Q : V → List O → Prop} (h1 : -32768 ≤ a) (h2 : a < 32768) (k : Q (.d (.int a)) []) : ct_settled [.d (.int a), .d (.int 16), .d (.int 9)] [] Q := by delta ct_settled; exact ⟨a, rfl, rfl, h1, h2, k⟩
theorem settled_kept (P : Params) : Kept (fd420 P) [(72, ct_fits)] ct_settled := by
  intro args N Q h
  delta ct_settled at h
  obtain ⟨a, rfl, rfl, h1, h2, hQ⟩ := h
  refine fits_in a h1 h2 ?_
  exact hQ
@[irreducible] noncomputable def ct_reck : Ct := fun args N Q => ∃ a b : Int, args = [.d (.str (Str.ofString "+")), .d (.int a), .d (.int b), .d (.int 16), .d (.int 9)] ∧ N = [] ∧ -32768 ≤ a + b ∧ a + b < 32768 ∧ Q (.d (.int (a + b))) []
theorem reck_in (a b : Int) {Q : V → List O → Prop} (h1 : -32768 ≤ a + b) (h2 : a + b < 32768) (k : Q (.d (.int (a + b))) []) : ct_reck [.d (.str (Str.ofString "+")), .d (.int a), .d (.int b), .d (.int 16), .d (.int 9)] [] Q := by delta ct_reck; exact ⟨a, b, rfl, rfl, h1, h2, k⟩
theorem wreck_kept (P : Params) : Kept (fd427 P) [(420, ct_settled)] ct_reck := by
  intro args N Q h
  delta ct_reck at h
  obtain ⟨a, b, rfl, rfl, h1, h2, hQ⟩ := h
  refine settled_in (a + b) h1 h2 ?_
  exact hQ
theorem ok420 (P : Params) : DefOk (fd420 P) 3 := ⟨fun s us _ h => by obtain ⟨a, b, c, rfl⟩ := len3 h; exact BindsTo.of_eq rfl, rfl⟩
theorem ok427 (P : Params) : DefOk (fd427 P) 5 := ⟨fun s us _ h => by obtain ⟨a, b, c, d, e, rfl⟩ := len5 h; exact BindsTo.of_eq rfl, rfl⟩
theorem spec_settled (w : World) (ns sc : List Int) : SpecI w ns sc 420 3 ct_settled := spec_def (fd420 w.params) (ok420 _) (TOk.cons (spec_fits w ns sc) (by decide) (by kernel_rfl!) TOk.nil) (by decide) (by intro as N0 K h; delta ct_settled at h; obtain ⟨a, rfl, _⟩ := h; rfl) (settled_kept _)
theorem spec_wreck (w : World) (ns sc : List Int) : SpecI w ns sc 427 4 ct_reck := spec_def (fd427 w.params) (ok427 _) (TOk.cons (spec_settled w ns sc) (by decide) (by kernel_rfl!) TOk.nil) (by decide) (by intro as N0 K h; delta ct_reck at h; obtain ⟨a, b, rfl, _⟩ := h; rfl) (wreck_kept _)

noncomputable def fd469 (P : Params) : Fd P 469 := by
  refine' mkFd ?a ?b
  case a => k_is
  case b => k_is
theorem reck_kept (P : Params) : Kept (fd469 P) [(413, ct_whole), (427, ct_reck)] ct_reck := by
  intro args N Q h
  delta ct_reck at h
  obtain ⟨a, b, rfl, rfl, h1, h2, hQ⟩ := h
  refine whole_in a ?_
  refine whole_in b ?_
  refine reck_in a b h1 h2 ?_
  exact hQ
theorem ok469 (P : Params) : DefOk (fd469 P) 5 := ⟨fun s us _ h => by obtain ⟨a, b, c, d, e, rfl⟩ := len5 h; exact BindsTo.of_eq rfl, rfl⟩
theorem spec_reck (w : World) (ns sc : List Int) : SpecI w ns sc 469 5 ct_reck := spec_def (fd469 w.params) (ok469 _) (TOk.cons (spec_whole w ns sc) (by decide) (by kernel_rfl!) (TOk.cons (spec_wreck w ns sc) (by decide) (by kernel_rfl!) TOk.nil)) (by decide) (by intro as N0 K h; delta ct_reck at h; obtain ⟨a, b, rfl, _⟩ := h; rfl) (reck_kept _)

noncomputable def fd121 (P : Params) : Fd P 121 := by
  refine' mkFd ?a ?b
  case a => k_is
  case b => k_is
noncomputable def fd251 (P : Params) : Fd P 251 := by
  refine' mkFd ?a ?b
  case a => k_is
  case b => k_is
@[irreducible] noncomputable def ct_cini : Ct := fun args N Q => args = [.ref 0, .d (.int 20)] ∧ N = [.inst 124 []] ∧ Q (.d .none) [ctlO 1, .list []]
theorem cini_kept (P : Params) : Kept (fd121 P) [] ct_cini := by
  intro args N Q h
  delta ct_cini at h
  obtain ⟨rfl, rfl, hQ⟩ := h
  exact hQ
noncomputable def flatO : O := .inst 254 [(Str.ofString "rows", .ref 1), (Str.ofString "places", .ref 2), (Str.ofString "data", .ref 3), (Str.ofString "pairs", .ref 4), (Str.ofString "loops", .ref 5), (Str.ofString "fns", .ref 6)]
@[irreducible] noncomputable def ct_fini : Ct := fun args N Q => args = [.ref 0] ∧ N = [.inst 254 []] ∧ Q (.d .none) [flatO, .list [], .dictI [], .list [], .dictI [], .dictI [], .dictI []]
theorem fini_kept (P : Params) : Kept (fd251 P) [] ct_fini := by
  intro args N Q h
  delta ct_fini at h
  obtain ⟨rfl, rfl, hQ⟩ := h
  exact hQ
theorem ok121 (P : Params) : DefOk (fd121 P) 2 := ⟨fun s us _ h => by obtain ⟨a, b, rfl⟩ := len2 h; exact BindsTo.of_eq rfl, rfl⟩
theorem ok251 (P : Params) : DefOk (fd251 P) 1 := ⟨fun s us _ h => by obtain ⟨a, rfl⟩ := len1 h; exact BindsTo.of_eq rfl, rfl⟩
@[irreducible] noncomputable def ct_ctl : Ct := fun args N Q => args = [.d (.int 20)] ∧ N = [] ∧ Q (.ref 0) [ctlO 1, .list []]
theorem ctl_in {Q : V → List O → Prop} (k : Q (.ref 0) [ctlO 1, .list []]) : ct_ctl [.d (.int 20)] [] Q := by delta ct_ctl; exact ⟨rfl, rfl, k⟩
@[irreducible] noncomputable def ct_flat : Ct := fun args N Q => args = [] ∧ N = [] ∧ Q (.ref 0) [flatO, .list [], .dictI [], .list [], .dictI [], .dictI [], .dictI []]
theorem flat_in {Q : V → List O → Prop} (k : Q (.ref 0) [flatO, .list [], .dictI [], .list [], .dictI [], .dictI [], .dictI []]) : ct_flat [] [] Q := by delta ct_flat; exact ⟨rfl, rfl, k⟩
theorem spec_ctl (w : World) (ns sc : List Int) : SpecI w ns sc 124 5 ct_ctl :=
  spec_class (by kernel_rfl!) (by kernel_rfl!) (by kernel_rfl!) (spec_def (fd121 w.params) (ok121 _) (T := []) TOk.nil (by decide) (by intro as N0 K h; delta ct_cini at h; obtain ⟨rfl, _⟩ := h; rfl) (cini_kept _)) (by intro as N0 K h; delta ct_ctl at h; obtain ⟨rfl, rfl, h⟩ := h; delta ct_cini; exact ⟨rfl, rfl, rfl, h⟩)
theorem spec_flat (w : World) (ns sc : List Int) : SpecI w ns sc 254 5 ct_flat :=
  spec_class (by kernel_rfl!) (by kernel_rfl!) (by kernel_rfl!) (spec_def (fd251 w.params) (ok251 _) (T := []) TOk.nil (by decide) (by intro as N0 K h; delta ct_fini at h; obtain ⟨rfl, _⟩ := h; rfl) (fini_kept _)) (by intro as N0 K h; delta ct_flat at h; obtain ⟨rfl, rfl, h⟩ := h; delta ct_fini; exact ⟨rfl, rfl, rfl, h⟩)

noncomputable def fd293 (P : Params) : Fd P 293 := by
  refine' mkFd ?a ?b
  case a => k_is
  case b => k_is
noncomputable def fd265 (P : Params) : Fd P 265 := by
  refine' mkFd ?a ?b
  case a => k_is
  case b => k_is
theorem ok293 (P : Params) : DefOk (fd293 P) 3 := ⟨fun s us _ h => by obtain ⟨a, b, c, rfl⟩ := len3 h; exact BindsTo.of_eq rfl, rfl⟩
theorem ok265 (P : Params) : DefOk (fd265 P) 3 := ⟨fun s us _ h => by obtain ⟨a, b, c, rfl⟩ := len3 h; exact BindsTo.of_eq rfl, rfl⟩
/-- the flat program's own: row list, then its dicts -/
@[irreducible] noncomputable def ct_row : Ct := fun args N Q => ∃ (n : Int) (d : D) (l : List D) (pl : List (Int × D)) (dt : List D) (pr lp fn : List (Int × D)), args = [.ref 0, .d (.int n), .d d] ∧ N = [flatO, .list l, .dictI pl, .list dt, .dictI pr, .dictI lp, .dictI fn] ∧ l.length < 1000 ∧
  Q (.d (.int l.length)) [flatO, .list (l ++ [.tup [.int n, d]]), .dictI pl, .list dt, .dictI pr, .dictI lp, .dictI fn]
theorem row_in (n : Int) (d : D) (l : List D) (pl : List (Int × D)) (dt : List D) (pr lp fn : List (Int × D)) {Q : V → List O → Prop} (h : l.length < 1000) (k : Q (.d (.int l.length)) [flatO, .list (l ++ [.tup [.int n, d]]), .dictI pl, .list dt, .dictI pr, .dictI lp, .dictI fn]) : ct_row [.ref 0, .d (.int n), .d d] [flatO, .list l, .dictI pl, .list dt, .dictI pr, .dictI lp, .dictI fn] Q := by delta ct_row; exact ⟨n, d, l, pl, dt, pr, lp, fn, rfl, rfl, h, k⟩
theorem row_kept (P : Params) : Kept (fd265 P) [] ct_row := by
  intro args N Q h
  delta ct_row at h
  obtain ⟨n, d, l, pl, dt, pr, lp, fn, rfl, rfl, hl, hQ⟩ := h
  refine ok_in ?_ ?_
  · exact ble_of (by omega)
  refine ok_in ?_ ?_
  · exact ble_of (by rw [List.length_append]; simp; omega)
  rw [show ((l.length : Nat) : Int) = ((l ++ [D.tup [.int n, d]]).length : Int) - 1 by simp] at hQ
  exact hQ
theorem spec_row (w : World) (ns sc : List Int) : SpecI w ns sc 265 2 ct_row := spec_def (fd265 w.params) (ok265 _) (T := []) TOk.nil (by decide) (by intro as N0 K h; delta ct_row at h; obtain ⟨n, d, l, pl, dt, pr, lp, fn, rfl, _⟩ := h; rfl) (row_kept _)

noncomputable def fd300 (P : Params) : Fd P 300 := by
  refine' mkFd ?a ?b
  case a => k_is
  case b => k_is
noncomputable def stkI : List Int → List D
  | [] => []
  | b :: r => stkI r ++ [.int b]
theorem stkI_len : ∀ l, (stkI l).length = l.length
  | [] => rfl
  | _ :: r => by rw [stkI, List.length_append, stkI_len r]; rfl
structure FB where
  l : List D
  pl : List (Int × D)
  dt : List D
  fn : List (Int × D)
/-- the flat program and its own, the rows gone over -/
noncomputable def flB (b : FB) (pr lp : List (Int × D)) : List O := [flatO, .flist b.l, .dictI b.pl, .list b.dt, .dictI pr, .dictI lp, .dictI b.fn]
theorem putK_ble {K α : Type} [DecidableEq K] {d : List (K × α)} {k : K} {x : α} {n : Nat} (h : d.length ≤ n) (hn : n < 1000) : Nat.ble (putK d k x).length 1000 = true := ble_of (Nat.le_trans (putK_le d k x) (Nat.le_trans (Nat.succ_le_succ h) hn))
theorem ble_lt {a n : Nat} (h : a ≤ n) (hn : n ≤ 1000) : Nat.ble a 1000 = true := ble_of (Nat.le_trans h hn)
theorem stkI_ble {l : List Int} {n : Nat} (h : l.length ≤ n) (hn : n ≤ 1000) : Nat.ble (stkI l).length 1000 = true := ble_of (by rw [stkI_len]; exact Nat.le_trans h hn)
@[irreducible] noncomputable def ct_join : Ct := fun args N Q => ∃ (b : FB) (at' q : Int) (w : List Int) (pr lp : List (Int × D)), args = [.ref 0, .ref 7, .d (.int at')] ∧ N = flB b pr lp ++ [.list (stkI (q :: w))] ∧ w.length ≤ 900 ∧ pr.length ≤ 900 ∧
  Q (.d .none) (flB b (putK (putK pr q (.int at')) at' (.int q)) lp ++ [.list (stkI w)])
theorem join_in (b : FB) (at' q : Int) (w : List Int) (pr lp : List (Int × D)) {Q : V → List O → Prop} (hw : w.length ≤ 900) (hp : pr.length ≤ 900) (k : Q (.d .none) (flB b (putK (putK pr q (.int at')) at' (.int q)) lp ++ [.list (stkI w)])) : ct_join [.ref 0, .ref 7, .d (.int at')] (flB b pr lp ++ [.list (stkI (q :: w))]) Q := by delta ct_join; exact ⟨b, at', q, w, pr, lp, rfl, rfl, hw, hp, k⟩
theorem join_kept (P : Params) : Kept (fd293 P) [] ct_join := by
  intro args N Q h
  delta ct_join at h
  obtain ⟨b, at', q, w, pr, lp, rfl, rfl, hw, hp, hQ⟩ := h
  have hl : (q :: w).length ≤ 901 := Nat.succ_le_succ hw
  refine ok_in ?_ ?_
  · exact stkI_ble hl (by decide)
  refine br_t ?_ ?_
  · exact decide_eq_true (by rw [stkI_len]; exact Int.ofNat_lt.mpr (Nat.zero_lt_succ _))
  refine ok_in ?_ ?_
  · exact stkI_ble hl (by decide)
  refine opt_in _ (unsnoc_snoc (stkI w) (.int q)) ?_
  refine ok_in ?_ ?_
  · exact ble_lt hp (by decide)
  refine ok_in ?_ ?_
  · exact putK_ble hp (by decide)
  exact hQ
@[irreducible] noncomputable def ct_loops : Ct := fun args N Q => ∃ (b : FB) (at' : Int) (pr lp : List (Int × D)) (f : List Int), f.length ≤ 900 ∧ lp.length ≤ 900 ∧ ((∃ x, args = [.ref 0, .ref 7, .d (.int at'), .d (.int 1)] ∧ N = flB b pr lp ++ [.list (stkI (x :: f))] ∧ Q (.d .none) (flB b pr (putK lp x (.tup [.int at', .int 0])) ++ [.list (stkI f)])) ∨
  (∃ x y, args = [.ref 0, .ref 7, .d (.int at'), .d (.int 2)] ∧ N = flB b pr lp ++ [.list (stkI (x :: y :: f))] ∧ Q (.d .none) (flB b pr (putK (putK lp x (.tup [.int at', .int 0])) y (.tup [.int at', .int 1])) ++ [.list (stkI f)])))
theorem loops1_in (b : FB) (at' : Int) (pr lp : List (Int × D)) (f : List Int) (x : Int) {Q : V → List O → Prop} (hf : f.length ≤ 900) (hp : lp.length ≤ 900) (k : Q (.d .none) (flB b pr (putK lp x (.tup [.int at', .int 0])) ++ [.list (stkI f)])) : ct_loops [.ref 0, .ref 7, .d (.int at'), .d (.int 1)] (flB b pr lp ++ [.list (stkI (x :: f))]) Q := by delta ct_loops; exact ⟨b, at', pr, lp, f, hf, hp, .inl ⟨x, rfl, rfl, k⟩⟩
theorem loops2_in (b : FB) (at' : Int) (pr lp : List (Int × D)) (f : List Int) (x y : Int) {Q : V → List O → Prop} (hf : f.length ≤ 900) (hp : lp.length ≤ 900) (k : Q (.d .none) (flB b pr (putK (putK lp x (.tup [.int at', .int 0])) y (.tup [.int at', .int 1])) ++ [.list (stkI f)])) : ct_loops [.ref 0, .ref 7, .d (.int at'), .d (.int 2)] (flB b pr lp ++ [.list (stkI (x :: y :: f))]) Q := by delta ct_loops; exact ⟨b, at', pr, lp, f, hf, hp, .inr ⟨x, y, rfl, rfl, k⟩⟩
theorem loops_kept (P : Params) : Kept (fd300 P) [] ct_loops := by
  intro args N Q h
  delta ct_loops at h
  obtain ⟨b, at', pr, lp, f, hf, hp, ⟨x, rfl, rfl, hQ⟩ | ⟨x, y, rfl, rfl, hQ⟩⟩ := h
  · have hl : (x :: f).length ≤ 901 := Nat.succ_le_succ hf
    refine loop_in ?_
    refine ok_in ?_ ?_
    · exact stkI_ble hl (by decide)
    refine br_t ?_ ?_
    · exact decide_eq_true (by rw [stkI_len]; exact Int.ofNat_lt.mpr (Nat.zero_lt_succ _))
    refine ok_in ?_ ?_
    · exact stkI_ble hl (by decide)
    refine opt_in _ (unsnoc_snoc (stkI f) (.int x)) ?_
    refine ok_in ?_ ?_
    · exact ble_lt hp (by decide)
    exact hQ
  · have hl : (y :: f).length ≤ 901 := Nat.succ_le_succ hf
    have hl2 : (x :: y :: f).length ≤ 902 := Nat.succ_le_succ hl
    refine loop_in ?_
    refine ok_in ?_ ?_
    · exact stkI_ble hl2 (by decide)
    refine br_t ?_ ?_
    · exact decide_eq_true (by rw [stkI_len]; exact Int.ofNat_lt.mpr (Nat.zero_lt_succ _))
    refine ok_in ?_ ?_
    · exact stkI_ble hl2 (by decide)
    refine opt_in _ (unsnoc_snoc (stkI (y :: f)) (.int x)) ?_
    refine ok_in ?_ ?_
    · exact ble_lt hp (by decide)
    refine ok_in ?_ ?_
    · exact stkI_ble hl (by decide)
    refine br_t ?_ ?_
    · exact decide_eq_true (by rw [stkI_len]; exact Int.ofNat_lt.mpr (Nat.zero_lt_succ _))
    refine ok_in ?_ ?_
    · exact stkI_ble hl (by decide)
    refine opt_in _ (unsnoc_snoc (stkI f) (.int y)) ?_
    refine ok_in ?_ ?_
    · exact putK_ble hp (by decide)
    exact hQ
theorem ok300 (P : Params) : DefOk (fd300 P) 4 := ⟨fun s us _ h => by obtain ⟨a, b, c, d, rfl⟩ := len4 h; exact BindsTo.of_eq rfl, rfl⟩
theorem spec_join (w : World) (ns sc : List Int) : SpecI w ns sc 293 2 ct_join := spec_def (fd293 w.params) (ok293 _) (T := []) TOk.nil (by decide) (by intro as N0 K h; delta ct_join at h; obtain ⟨b, at', q, w, pr, lp, rfl, _⟩ := h; rfl) (join_kept _)
theorem spec_loops (w : World) (ns sc : List Int) : SpecI w ns sc 300 2 ct_loops := spec_def (fd300 w.params) (ok300 _) (T := []) TOk.nil (by decide) (by intro as N0 K h; delta ct_loops at h; rcases h with ⟨b, at', pr, lp, f, _, _, ⟨x, rfl, _⟩ | ⟨x, y, rfl, _⟩⟩ <;> rfl) (loops_kept _)

noncomputable def fd279 (P : Params) : Fd P 279 := by
  refine' mkFd ?a ?b
  case a => k_is
  case b => k_is
noncomputable def rowsD : List RowN → List D
  | [] => []
  | r :: rs => rowD r :: rowsD rs
noncomputable def lineD (d : D) : D := .tup [.int 10, d]
noncomputable def linesD : List D → List D
  | [] => []
  | r :: rs => lineD r :: linesD rs
theorem linesD_len : ∀ l, (linesD l).length = l.length
  | [] => rfl
  | _ :: r => congrArg (· + 1) (linesD_len r)
theorem rowsD_len : ∀ l, (rowsD l).length = l.length
  | [] => rfl
  | _ :: r => congrArg (· + 1) (rowsD_len r)
noncomputable def NoIf (d : D) : Prop := ∃ w rest, d = .tup (.str w :: rest) ∧ (w == Str.ofString "IF") = false
theorem rowD_noif (r : RowN) : NoIf (rowD r) := by cases r <;> exact ⟨_, _, rfl, rfl⟩
theorem rowsD_noif : ∀ rs : List RowN, ∀ d ∈ rowsD rs, NoIf d
  | r :: rs, _, .head _ => rowD_noif r
  | r :: rs, d, .tail _ h => rowsD_noif rs d h
/-- the flat program while its rows are put -/
noncomputable def flP (l : List D) (pl : List (Int × D)) (dt : List D) (pr lp fn : List (Int × D)) : List O := [flatO, .list l, .dictI pl, .list dt, .dictI pr, .dictI lp, .dictI fn]
@[irreducible] noncomputable def ct_putall : Ct := fun args N Q => ∃ (ds l : List D) (pl : List (Int × D)) (dt : List D) (pr lp fn : List (Int × D)), args = [.ref 0, .d (.int 10), .d (.fl ds)] ∧ N = flP l pl dt pr lp fn ∧ l.length + ds.length ≤ 900 ∧ (∀ d ∈ ds, NoIf d) ∧
  Q (.d .none) (flP (l ++ linesD ds) pl dt pr lp fn)
theorem putall_in (ds l : List D) (pl : List (Int × D)) (dt : List D) (pr lp fn : List (Int × D)) {Q : V → List O → Prop} (h : l.length + ds.length ≤ 900) (hd : ∀ d ∈ ds, NoIf d) (k : Q (.d .none) (flP (l ++ linesD ds) pl dt pr lp fn)) : ct_putall [.ref 0, .d (.int 10), .d (.fl ds)] (flP l pl dt pr lp fn) Q := by delta ct_putall; exact ⟨ds, l, pl, dt, pr, lp, fn, rfl, rfl, h, hd, k⟩
noncomputable def putS (ds l : List D) (pl : List (Int × D)) (dt : List D) (pr lp fn : List (Int × D)) : St := ⟨[(Str.ofString "flat", .ref 0), (Str.ofString "line", .d (.int 10)), (Str.ofString "statements", .d (.fl ds))], flP l pl dt pr lp fn⟩
theorem putall_kept (P : Params) : Kept (fd279 P) [(265, ct_row)] ct_putall := by
  intro args N Q h
  delta ct_putall at h
  obtain ⟨ds, l, pl, dt, pr, lp, fn, rfl, rfl, hl, hd, hQ⟩ := h
  refine' for_in (p := 7) (k := 3) (n := 7) ?e ?_
  case e => rfl
  refine' for_inv (fun rem s => ∃ l', s = putS ds l' pl dt pr lp fn ∧ l'.length + rem.length ≤ 900 ∧ (∀ d ∈ rem, NoIf d) ∧ l' ++ linesD rem = l ++ linesD ds) ?t ?d _ _ (putS ds l pl dt pr lp fn) ⟨fun K h => h⟩ ⟨l, rfl, hl, hd, rfl⟩
  case t =>
    rintro x r s ⟨l', rfl, hl', hd', he⟩ K' hN hR
    obtain ⟨w, rest, rfl, hw⟩ := hd' x (.head _)
    rw [List.length_cons] at hl'
    refine br_f ?_ ?_
    · exact hw
    refine row_in 10 (.tup (.str w :: rest)) l' pl dt pr lp fn ?_ ?_
    · omega
    refine hN _ _ _ rfl ⟨fun K h => h⟩ ⟨_, rfl, ?_, fun d h => hd' d (.tail _ h), ?_⟩
    · rw [List.length_append]; show l'.length + 1 + r.length ≤ 900; omega
    · rw [List.append_assoc]; exact he
  case d =>
    rintro s ⟨l', rfl, _, _, he⟩
    rw [show linesD [] = [] from rfl, List.append_nil] at he
    subst he
    exact hQ
theorem ok279 (P : Params) : DefOk (fd279 P) 3 := ⟨fun s us _ h => by obtain ⟨a, b, c, rfl⟩ := len3 h; exact BindsTo.of_eq rfl, rfl⟩
theorem spec_putall (w : World) (ns sc : List Int) : SpecI w ns sc 279 3 ct_putall := spec_def (fd279 w.params) (ok279 _) (TOk.cons (spec_row w ns sc) (by decide) (by kernel_rfl!) TOk.nil) (by decide) (by intro as N0 K h; delta ct_putall at h; obtain ⟨ds, l, pl, dt, pr, lp, fn, rfl, _⟩ := h; rfl) (putall_kept _)

noncomputable def fd286 (P : Params) : Fd P 286 := by
  refine' mkFd ?a ?b
  case a => k_is
  case b => k_is
structure GB (g : GN) (i : Nat) : Prop where
  w : g.w.length ≤ i
  pr : g.pr.length ≤ i + i
  f : g.f.length ≤ i
  lp : g.lp.length ≤ i + i
theorem gaPop_at {at' j : Int} {g g' : GN} (h : gaPop at' j g = some g') : ∃ x f, g.f = x :: f ∧ g' = ⟨g.w, g.pr, f, putK g.lp x (.tup [.int at', .int j])⟩ := by
  obtain ⟨w, pr, f, lp⟩ := g
  cases f with
  | nil => cases h
  | cons x f => cases h; exact ⟨x, f, rfl, rfl⟩
theorem putK_up {K α : Type} [DecidableEq K] {d : List (K × α)} {k : K} {x : α} {n : Nat} (h : d.length ≤ n) : (putK d k x).length ≤ n + 1 := Nat.le_trans (putK_le d k x) (Nat.succ_le_succ h)
theorem GB.pop {g : GN} {i : Nat} {x at' j : Int} {f : List Int} (h : GB g i) (e : g.f = x :: f) : f.length ≤ i ∧ (putK g.lp x (.tup [.int at', .int j])).length ≤ i + i + 1 :=
  ⟨Nat.le_trans (by rw [e]; exact Nat.le_succ _) h.f, putK_up h.lp⟩
theorem dbl (i : Nat) : i + i + 1 + 1 = (i + 1) + (i + 1) := by omega
theorem dbl_le (i : Nat) : i + i ≤ (i + 1) + (i + 1) := by omega
theorem dbl_le1 (i : Nat) : i + i + 1 ≤ (i + 1) + (i + 1) := by omega
theorem gaB {at' : Int} {r : RowN} {g g' : GN} {i : Nat} (h : gaStepN at' r g = some g') (B : GB g i) : GB g' (i + 1) := by
  have B1 : GB g (i + 1) := ⟨Nat.le_succ_of_le B.w, Nat.le_trans B.pr (dbl_le i), Nat.le_succ_of_le B.f, Nat.le_trans B.lp (dbl_le i)⟩
  have pop : ∀ j, gaPop at' j g = some g' → GB g' (i + 1) := fun j h => by
    obtain ⟨x, f, e, rfl⟩ := gaPop_at h
    have := B.pop (at' := at') (j := j) e
    exact ⟨B1.w, B1.pr, Nat.le_succ_of_le this.1, Nat.le_trans this.2 (dbl_le1 i)⟩
  cases r with
  | set x => cases h; exact B1
  | less x => cases h; exact B1
  | whil x => cases h; exact ⟨Nat.succ_le_succ B.w, B1.pr, B1.f, B1.lp⟩
  | for_ x => cases h; exact ⟨B1.w, B1.pr, Nat.succ_le_succ B.f, B1.lp⟩
  | next0 => exact pop 0 h
  | next1 x => exact pop 0 h
  | next2 x y =>
    obtain ⟨g1, h1, h2⟩ := Option.bind_eq_some_iff.mp h
    obtain ⟨x, f, e, rfl⟩ := gaPop_at h1
    obtain ⟨x2, f2, e2, rfl⟩ := gaPop_at h2
    have := B.pop (at' := at') (j := 0) e
    have e2 : f = x2 :: f2 := e2
    subst e2
    exact ⟨B1.w, B1.pr, Nat.le_trans (Nat.le_of_succ_le this.1) (Nat.le_succ i), dbl i ▸ putK_up this.2⟩
  | wend =>
    obtain ⟨w, pr, f, lp⟩ := g
    cases w with
    | nil => cases h
    | cons b w => cases h; exact ⟨Nat.le_trans (Nat.le_of_succ_le B.w) (Nat.le_succ i), dbl i ▸ putK_up (putK_up B.pr), B1.f, B1.lp⟩
noncomputable def gaS (b : FB) (g : GN) : St := ⟨[(Str.ofString "flat", .ref 0), (Str.ofString "heads", .ref 9), (Str.ofString "fors", .ref 8), (Str.ofString "whiles", .ref 7)], flB b g.pr g.lp ++ [.list (stkI g.w), .list (stkI g.f), .list []]⟩
@[irreducible] noncomputable def ct_gather : Ct := fun args N Q => ∃ (rs : List RowN) (pl : List (Int × D)) (dt : List D) (fn : List (Int × D)) (fin : GN), args = [.ref 0] ∧ N = flP (linesD (rowsD rs)) pl dt [] [] fn ∧ rs.length ≤ 40 ∧ gaN 0 rs ⟨[], [], [], []⟩ = some fin ∧
  Q (.d .none) (flB ⟨linesD (rowsD rs), pl, dt, fn⟩ fin.pr fin.lp)
theorem gather_in (rs : List RowN) (pl : List (Int × D)) (dt : List D) (fn : List (Int × D)) (fin : GN) {Q : V → List O → Prop} (h : rs.length ≤ 40) (hg : gaN 0 rs ⟨[], [], [], []⟩ = some fin) (k : Q (.d .none) (flB ⟨linesD (rowsD rs), pl, dt, fn⟩ fin.pr fin.lp)) : ct_gather [.ref 0] (flP (linesD (rowsD rs)) pl dt [] [] fn) Q := by delta ct_gather; exact ⟨rs, pl, dt, fn, fin, rfl, rfl, h, hg, k⟩
theorem le900 {a b i n : Nat} (h : a ≤ b) (hb : b ≤ i + i) (hi : i + n ≤ 40) : a ≤ 900 := by omega
theorem gather_kept (P : Params) : Kept (fd286 P) [(293, ct_join), (300, ct_loops)] ct_gather := by
  intro args N Q h
  delta ct_gather at h
  obtain ⟨rs0, pl, dt, fn, fin, rfl, rfl, hl, hg0, hQ⟩ := h
  refine' for_in (p := 7) (k := 4) (n := 10) ?e ?_
  case e => rfl
  refine' for_inv (fun rem s => ∃ rs i g, s = gaS ⟨linesD (rowsD rs0), pl, dt, fn⟩ g ∧ rem = enumL i (linesD (rowsD rs)) ∧ gaN i rs g = some fin ∧ GB g i ∧ i + rs.length ≤ 40) ?t ?d _ _ (gaS ⟨linesD (rowsD rs0), pl, dt, fn⟩ ⟨[], [], [], []⟩) ⟨fun K h => h⟩
    ⟨rs0, 0, ⟨[], [], [], []⟩, rfl, rfl, hg0, ⟨Nat.le_refl _, Nat.le_refl _, Nat.le_refl _, Nat.le_refl _⟩, (Nat.zero_add _).symm ▸ hl⟩
  case t =>
    rintro x r s ⟨rs, i, g, rfl, hr, hg, B, hi⟩ K' hN hR
    cases rs with
    | nil => cases hr
    | cons r0 rs =>
    obtain ⟨rfl, rfl⟩ := List.cons.inj hr
    obtain ⟨g', h1, h2⟩ := Option.bind_eq_some_iff.mp hg
    have B' := gaB h1 B
    rw [List.length_cons] at hi
    have hi' : i + 1 + rs.length ≤ 40 := by omega
    have go : ∀ s', Can 7 4 10 s' (gaS ⟨linesD (rowsD rs0), pl, dt, fn⟩ g') → K' .next s' := fun s' c => hN _ _ _ rfl c ⟨rs, i + 1, g', rfl, rfl, h2, B', hi'⟩
    have hw : g.w.length ≤ 900 := le900 B.w (Nat.le_add_left _ _) hi
    have hf : g.f.length ≤ 900 := le900 B.f (Nat.le_add_left _ _) hi
    have hp : g.pr.length ≤ 900 := le900 B.pr (Nat.le_refl _) hi
    have hlp : g.lp.length ≤ 900 := le900 B.lp (Nat.le_refl _) hi
    obtain ⟨w, pr, f, lp⟩ := g
    cases r0 with
    | set x => cases h1; exact go _ ⟨fun K h => h⟩
    | less x => cases h1; exact go _ ⟨fun K h => h⟩
    | whil x =>
      cases h1
      refine ok_in ?_ ?_
      · exact stkI_ble hw (by decide)
      exact go _ ⟨fun K h => h⟩
    | for_ x =>
      cases h1
      refine ok_in ?_ ?_
      · exact stkI_ble hf (by decide)
      exact go _ ⟨fun K h => h⟩
    | wend =>
      cases w with
      | nil => cases h1
      | cons q w =>
        cases h1
        refine join_in ⟨linesD (rowsD rs0), pl, dt, fn⟩ i q w pr lp (Nat.le_of_succ_le hw) hp ?_
        exact go _ ⟨fun K h => h⟩
    | next0 =>
      obtain ⟨x, f', e, rfl⟩ := gaPop_at h1
      obtain rfl : f = x :: f' := e
      refine loops1_in ⟨linesD (rowsD rs0), pl, dt, fn⟩ i pr lp f' x (Nat.le_of_succ_le hf) hlp ?_
      exact go _ ⟨fun K h => h⟩
    | next1 y =>
      obtain ⟨x, f', e, rfl⟩ := gaPop_at h1
      obtain rfl : f = x :: f' := e
      refine loops1_in ⟨linesD (rowsD rs0), pl, dt, fn⟩ i pr lp f' x (Nat.le_of_succ_le hf) hlp ?_
      exact go _ ⟨fun K h => h⟩
    | next2 y z =>
      obtain ⟨g1, h11, h12⟩ := Option.bind_eq_some_iff.mp h1
      obtain ⟨x, f', e, rfl⟩ := gaPop_at h11
      obtain ⟨x2, f2, e2, rfl⟩ := gaPop_at h12
      obtain rfl : f = x :: f' := e
      obtain rfl : f' = x2 :: f2 := e2
      refine loops2_in ⟨linesD (rowsD rs0), pl, dt, fn⟩ i pr lp f2 x x2 (Nat.le_of_succ_le (Nat.le_of_succ_le hf)) hlp ?_
      exact go _ ⟨fun K h => h⟩
  case d =>
    rintro s ⟨rs, i, g, rfl, hr, hg, _, _⟩
    cases rs with
    | cons r0 rs => cases hr
    | nil =>
      cases hg
      exact hQ
theorem ok286 (P : Params) : DefOk (fd286 P) 1 := ⟨fun s us _ h => by obtain ⟨a, rfl⟩ := len1 h; exact BindsTo.of_eq rfl, rfl⟩
theorem spec_gather (w : World) (ns sc : List Int) : SpecI w ns sc 286 3 ct_gather := spec_def (fd286 w.params) (ok286 _) (TOk.cons (spec_join w ns sc) (by decide) (by kernel_rfl!) (TOk.cons (spec_loops w ns sc) (by decide) (by kernel_rfl!) TOk.nil)) (by decide) (by intro as N0 K h; delta ct_gather at h; obtain ⟨rs, pl, dt, fn, fin, rfl, _⟩ := h; rfl) (gather_kept _)

noncomputable def fd307 (P : Params) : Fd P 307 := by
  refine' mkFd ?a ?b
  case a => k_is
  case b => k_is
noncomputable def flatO1 : O := .inst 254 [(Str.ofString "rows", .ref 2), (Str.ofString "places", .ref 3), (Str.ofString "data", .ref 4), (Str.ofString "pairs", .ref 5), (Str.ofString "loops", .ref 6), (Str.ofString "fns", .ref 7)]
@[irreducible] noncomputable def ct_flatten : Ct := fun args N Q => ∃ (rs : List RowN) (fin : GN), args = [.ref 0] ∧ N = [.list [.tup [.int 10, .fl (rowsD rs)]]] ∧ rs.length ≤ 40 ∧ 0 < rs.length ∧ gaN 0 rs ⟨[], [], [], []⟩ = some fin ∧
  Q (.ref 1) [.flist [.tup [.int 10, .fl (rowsD rs)]], flatO1, .flist (linesD (rowsD rs)), .dictI [(10, .int 0)], .list [], .dictI fin.pr, .dictI fin.lp, .dictI []]
theorem flatten_in (rs : List RowN) (fin : GN) {Q : V → List O → Prop} (h : rs.length ≤ 40) (h0 : 0 < rs.length) (hg : gaN 0 rs ⟨[], [], [], []⟩ = some fin) (k : Q (.ref 1) [.flist [.tup [.int 10, .fl (rowsD rs)]], flatO1, .flist (linesD (rowsD rs)), .dictI [(10, .int 0)], .list [], .dictI fin.pr, .dictI fin.lp, .dictI []]) : ct_flatten [.ref 0] [.list [.tup [.int 10, .fl (rowsD rs)]]] Q := by delta ct_flatten; exact ⟨rs, fin, rfl, rfl, h, h0, hg, k⟩
theorem flatten_kept (P : Params) : Kept (fd307 P) [(254, ct_flat), (279, ct_putall), (265, ct_row), (286, ct_gather)] ct_flatten := by
  intro args N Q h
  delta ct_flatten at h
  obtain ⟨rs, fin, rfl, rfl, hl, hpos, hg, hQ⟩ := h
  refine flat_in ?_
  refine loop_in ?_
  refine putall_in (rowsD rs) [] [(10, .int 0)] [] [] [] [] ?_ (rowsD_noif rs) ?_
  · rw [rowsD_len]; exact Nat.le_trans (Nat.le_of_eq (Nat.zero_add _)) (Nat.le_trans hl (by decide))
  refine ok_in ?_ ?_
  · exact ble_of (by rw [List.nil_append, linesD_len, rowsD_len]; exact Nat.le_trans hl (by decide))
  refine br_f ?_ ?_
  · exact beq_eq_false_iff_ne.mpr fun q => by
      rw [List.nil_append, linesD_len, rowsD_len] at q
      exact absurd (Int.ofNat.inj q) (Nat.ne_of_lt hpos)
  refine gather_in rs [(10, .int 0)] [] [] fin hl hg ?_
  exact hQ
theorem ok307 (P : Params) : DefOk (fd307 P) 1 := ⟨fun s us _ h => by obtain ⟨a, rfl⟩ := len1 h; exact BindsTo.of_eq rfl, rfl⟩
theorem spec_flatten (w : World) (ns sc : List Int) : SpecI w ns sc 307 6 ct_flatten := spec_def (fd307 w.params) (ok307 _) (TOk.cons (spec_flat w ns sc) (by decide) (by kernel_rfl!) (TOk.cons (spec_putall w ns sc) (by decide) (by kernel_rfl!) (TOk.cons (spec_row w ns sc) (by decide) (by kernel_rfl!) (TOk.cons (spec_gather w ns sc) (by decide) (by kernel_rfl!) TOk.nil)))) (by decide) (by intro as N0 K h; delta ct_flatten at h; obtain ⟨rs, fin, rfl, _⟩ := h; rfl) (flatten_kept _)

noncomputable def fd617 (P : Params) : Fd P 617 := by
  refine' mkFd ?a ?b
  case a => k_is
  case b => k_is
noncomputable def fd216 (P : Params) : Fd P 216 := by
  refine' mkFd ?a ?b
  case a => k_is
  case b => k_is
noncomputable def fd209 (P : Params) : Fd P 209 := by
  refine' mkFd ?a ?b
  case a => k_is
  case b => k_is
noncomputable def wordV : RowN → V × List O
  | .set _ => (.tup [.d (sD "LET"), .ref 0], [.list []])
  | .less _ => (.tup [.d (sD "LET"), .ref 0], [.list []])
  | .whil _ => (.tup [.d (sD "WHILE"), .ref 0], [.list []])
  | .wend => (.tup [.d (sD "WEND"), .ref 0], [.list []])
  | .for_ x => (.tup [.d (sD "FOR"), .ref 0], [.list [.str (nmS x)]])
  | .next1 x => (.tup [.d (sD "NEXT"), .d (.fl [.str (nmS x)])], [])
  | .next0 => (.tup [.d (sD "NEXT"), .d (.fl [])], [])
  | .next2 x y => (.tup [.d (sD "NEXT"), .d (.fl [.str (nmS x), .str (nmS y)])], [])
@[irreducible] noncomputable def ct_word : Ct := fun args N Q => ∃ r, args = [.d (rowD r)] ∧ N = [] ∧ Q (wordV r).1 (wordV r).2
theorem word_in (r : RowN) {Q : V → List O → Prop} (k : Q (wordV r).1 (wordV r).2) : ct_word [.d (rowD r)] [] Q := by delta ct_word; exact ⟨r, rfl, rfl, k⟩
theorem word_kept (P : Params) : Kept (fd617 P) [] ct_word := by
  intro args N Q h
  delta ct_word at h
  obtain ⟨r, rfl, rfl, hQ⟩ := h
  cases r <;> exact hQ
theorem ok617 (P : Params) : DefOk (fd617 P) 1 := ⟨fun s us _ h => by obtain ⟨a, rfl⟩ := len1 h; exact BindsTo.of_eq rfl, rfl⟩
theorem spec_word (w : World) (ns sc : List Int) : SpecI w ns sc 617 2 ct_word := spec_def (fd617 w.params) (ok617 _) (T := []) TOk.nil (by decide) (by intro as N0 K h; delta ct_word at h; obtain ⟨r, rfl, _⟩ := h; rfl) (word_kept _)
noncomputable def kS : Bool → Str
  | true => Str.ofString "FOR"
  | false => Str.ofString "WHILE"
noncomputable def pileD (e : Bool × Nm × Int) : D := .tup [.str (kS e.1), .str (nmS e.2.1), .int e.2.2]
noncomputable def stkP : List (Bool × Nm × Int) → List D
  | [] => []
  | e :: r => stkP r ++ [pileD e]
theorem stkP_len : ∀ l, (stkP l).length = l.length
  | [] => rfl
  | _ :: r => by rw [stkP, List.length_append, stkP_len r]; rfl
theorem stkP_ble {l : List (Bool × Nm × Int)} {n : Nat} (h : l.length ≤ n) (hn : n ≤ 1000) : Nat.ble (stkP l).length 1000 = true := ble_of (by rw [stkP_len]; exact Nat.le_trans h hn)
@[irreducible] noncomputable def ct_endloop : Ct := fun args N Q => ∃ (kind : Bool) (n x : Nm) (q at' : Int) (ps : List (Bool × Nm × Int)) (f : List (Int × D)), args = [.ref 0, .ref 1, .d (.str (kS kind)), .d (.str (nmS n)), .d (.int at')] ∧ N = [.dictI f, .list (stkP ((kind, x, q) :: ps))] ∧
  (n = 0 ∨ n = x) ∧ ps.length ≤ 900 ∧ f.length ≤ 900 ∧ Q (.d .none) [.dictI (putK f q (.int at')), .list (stkP ps)]
theorem endloop_in (kind : Bool) (n x : Nm) (q at' : Int) (ps : List (Bool × Nm × Int)) (f : List (Int × D)) {Q : V → List O → Prop} (hn : n = 0 ∨ n = x) (hp : ps.length ≤ 900) (hf : f.length ≤ 900) (k : Q (.d .none) [.dictI (putK f q (.int at')), .list (stkP ps)]) : ct_endloop [.ref 0, .ref 1, .d (.str (kS kind)), .d (.str (nmS n)), .d (.int at')] [.dictI f, .list (stkP ((kind, x, q) :: ps))] Q := by delta ct_endloop; exact ⟨kind, n, x, q, at', ps, f, rfl, rfl, hn, hp, hf, k⟩
theorem name_in {n x : Nm} (h : n = 0 ∨ n = x) : (Str.ofString "" == nmS n || (nmS x == nmS n || false)) = true := by
  rcases h with rfl | rfl
  · rfl
  · rw [beq_self_eq_true, Bool.true_or, Bool.or_true]
theorem stkP_item (e : Bool × Nm × Int) (ps : List (Bool × Nm × Int)) : item (stkP (e :: ps)) (ps.length : Int) = some (pileD e) := item_nat (n := ps.length) rfl (by
  show (stkP ps ++ [pileD e])[ps.length]? = _
  rw [← stkP_len ps]; simp)
theorem fit_len {n : Nat} (h : n ≤ 900) : fitB (n : Int) = true := ble_of (Nat.le_trans h (by decide))
theorem range_one (n : Nat) : rangeL (((n + 1 : Nat) : Int) - 1) (-1) (rangeN (((n + 1 : Nat) : Int) - 1) (-1) (-1)) = .int n :: rangeL ((n : Int) + -1) (-1) n := by
  rw [show rangeN (((n + 1 : Nat) : Int) - 1) (-1) (-1) = n + 1 from range_down1 (n + 1), show ((n + 1 : Nat) : Int) - 1 = n by omega]
  rfl
theorem endloop_kept (P : Params) : Kept (fd216 P) [] ct_endloop := by
  intro args N Q h
  delta ct_endloop at h
  obtain ⟨kind, n, x, q, at', ps, f, rfl, rfl, hn, hp, hf, hQ⟩ := h
  have hl : ((kind, x, q) :: ps).length ≤ 901 := Nat.succ_le_succ hp
  have e : (stkP ((kind, x, q) :: ps)).length = ps.length + 1 := stkP_len _
  refine ok_in ?_ ?_
  · exact stkP_ble hl (by decide)
  refine ok_in ?_ ?_
  · rw [e]; exact Bool.and_eq_true_iff.mpr ⟨rfl, Bool.and_eq_true_iff.mpr ⟨Bool.and_eq_true_iff.mpr ⟨fit_of (by omega) (by omega), rfl⟩, rfl⟩⟩
  refine' for_in (p := 2) (k := 5) (n := 2) ?e ?_
  case e => exact (congrArg (fun n : Nat => rangeL ((n : Int) - 1) (-1) (rangeN ((n : Int) - 1) (-1) (-1))) e).trans (range_one _)
  refine ok_in (fit_len hp) ?_
  refine opt_in _ (stkP_item _ _) ?_
  refine br_t (beq_self_eq_true (kS kind)) ?_
  refine ok_in (fit_len hp) ?_
  refine opt_in _ (stkP_item _ _) ?_
  refine br_t (name_in hn) ?_
  refine ok_in (fit_len hp) ?_
  refine opt_in _ (stkP_item _ _) ?_
  refine ok_in (ble_lt hf (by decide)) ?_
  refine ok_in (stkP_ble hl (by decide)) ?_
  refine br_t (decide_eq_true (by rw [e]; exact Int.ofNat_lt.mpr (Nat.lt_succ_self _))) ?_
  refine ok_in (stkP_ble hl (by decide)) ?_
  refine opt_in _ (unsnoc_snoc (stkP ps) _) ?_
  refine ok_in (stkP_ble hp (by decide)) ?_
  refine br_f (decide_eq_false (by rw [stkP_len]; exact Int.lt_irrefl _)) ?_
  exact hQ
theorem ok216 (P : Params) : DefOk (fd216 P) 5 := ⟨fun s us _ h => by obtain ⟨a, b, c, d, e, rfl⟩ := len5 h; exact BindsTo.of_eq rfl, rfl⟩
theorem spec_endloop (w : World) (ns sc : List Int) : SpecI w ns sc 216 2 ct_endloop := spec_def (fd216 w.params) (ok216 _) (T := []) TOk.nil (by decide) (by intro as N0 K h; delta ct_endloop at h; obtain ⟨kind, n, x, q, at', ps, f, rfl, _⟩ := h; rfl) (endloop_kept _)

noncomputable def wordsD : List RowN → List D
  | [] => []
  | r :: rs => wordD r :: wordsD rs
structure LB (g : LN) (i : Nat) : Prop where
  f : g.1.length ≤ i + i
  p : g.2.length ≤ i
theorem leEnd_at {kind : Bool} {n : Nm} {at' : Int} {g g' : LN} (h : leEndN kind n at' g = some g') : ∃ x q ps, g.2 = (kind, x, q) :: ps ∧ (n = 0 ∨ n = x) ∧ g' = (putK g.1 q (.int at'), ps) := by
  obtain ⟨f, ps⟩ := g
  cases ps with
  | nil => cases h
  | cons e ps =>
    obtain ⟨k, x, q⟩ := e
    have h : (if k = kind ∧ (n = 0 ∨ n = x) then some (putK f q (.int at'), ps) else none) = some g' := h
    split at h
    · rename_i hc
      cases h
      obtain ⟨rfl, hc⟩ := hc
      exact ⟨x, q, ps, rfl, hc, rfl⟩
    · cases h
theorem LB.up {g : LN} {i : Nat} (B : LB g i) : LB g (i + 1) := ⟨Nat.le_trans B.f (dbl_le i), Nat.le_succ_of_le B.p⟩
theorem LB.one {g : LN} {i : Nat} {q at' : Int} {e} {ps : List (Bool × Nm × Int)} (B : LB g i) (h : g.2 = e :: ps) : (putK g.1 q (.int at')).length ≤ i + i + 1 ∧ ps.length ≤ i := ⟨putK_up B.f, Nat.le_trans (by rw [h]; exact Nat.le_succ _) B.p⟩
theorem leB1 {kind : Bool} {n : Nm} {at' : Int} {g g' : LN} {i : Nat} (h : leEndN kind n at' g = some g') (B : LB g i) : LB g' (i + 1) := by
  obtain ⟨x, q, ps, e, _, rfl⟩ := leEnd_at h
  have := B.one (q := q) (at' := at') e
  exact ⟨Nat.le_trans this.1 (dbl_le1 i), Nat.le_succ_of_le this.2⟩
theorem leEnds1 {n : Nm} {at' : Int} {g g' : LN} (h : leEndsN at' [n] g = some g') : leEndN true n at' g = some g' := by
  obtain ⟨g1, h1, h2⟩ := Option.bind_eq_some_iff.mp h
  cases h2
  exact h1
theorem leB {at' : Int} {r : RowN} {g g' : LN} {i : Nat} (h : leStepN at' r g = some g') (B : LB g i) : LB g' (i + 1) := by
  cases r with
  | set x => cases h; exact B.up
  | less x => cases h; exact B.up
  | whil x => cases h; exact ⟨B.up.f, Nat.succ_le_succ B.p⟩
  | for_ x => cases h; exact ⟨B.up.f, Nat.succ_le_succ B.p⟩
  | next0 => exact leB1 (leEnds1 h) B
  | next1 x => exact leB1 (leEnds1 h) B
  | wend => exact leB1 h B
  | next2 x y =>
    obtain ⟨g1, h1, h2⟩ := Option.bind_eq_some_iff.mp h
    obtain ⟨x, q, ps, e, _, rfl⟩ := leEnd_at h1
    obtain ⟨x2, q2, ps2, e2, _, rfl⟩ := leEnd_at (leEnds1 h2)
    have := B.one (q := q) (at' := at') e
    have e2 : ps = _ :: ps2 := e2
    subst e2
    exact ⟨dbl i ▸ putK_up this.1, Nat.le_trans (Nat.le_of_succ_le this.2) (Nat.le_succ i)⟩
noncomputable def leS (rs0 : List RowN) (g : LN) : St := ⟨[(Str.ofString "rows", .ref 0), (Str.ofString "pile", .ref 2), (Str.ofString "found", .ref 1)], [.flist (wordsD rs0), .dictI g.1, .list (stkP g.2)]⟩
@[irreducible] noncomputable def ct_lends : Ct := fun args N Q => ∃ (rs : List RowN) (fin : LN), args = [.ref 0] ∧ N = [.list (wordsD rs)] ∧ rs.length ≤ 40 ∧ leN 0 rs ([], []) = some fin ∧ Q (.ref 1) [.flist (wordsD rs), .dictI fin.1]
theorem lends_in (rs : List RowN) (fin : LN) {Q : V → List O → Prop} (h : rs.length ≤ 40) (hg : leN 0 rs ([], []) = some fin) (k : Q (.ref 1) [.flist (wordsD rs), .dictI fin.1]) : ct_lends [.ref 0] [.list (wordsD rs)] Q := by delta ct_lends; exact ⟨rs, fin, rfl, rfl, h, hg, k⟩
theorem lends_kept (P : Params) : Kept (fd209 P) [(216, ct_endloop)] ct_lends := by
  intro args N Q h
  delta ct_lends at h
  obtain ⟨rs0, fin, rfl, rfl, hl, hg0, hQ⟩ := h
  refine' for_in (p := 1) (k := 3) (n := 3) ?e ?_
  case e => rfl
  refine' for_inv (fun rem s => ∃ rs i g, s = leS rs0 g ∧ rem = enumL i (wordsD rs) ∧ leN i rs g = some fin ∧ LB g i ∧ i + rs.length ≤ 40) ?t ?d _ _ (leS rs0 ([], [])) ⟨fun K h => h⟩
    ⟨rs0, 0, ([], []), rfl, rfl, hg0, ⟨Nat.le_refl _, Nat.le_refl _⟩, (Nat.zero_add _).symm ▸ hl⟩
  case t =>
    rintro x r s ⟨rs, i, g, rfl, hr, hg, B, hi⟩ K' hN hR
    cases rs with
    | nil => cases hr
    | cons r0 rs =>
    obtain ⟨rfl, rfl⟩ := List.cons.inj hr
    obtain ⟨g', h1, h2⟩ := Option.bind_eq_some_iff.mp hg
    have B' := leB h1 B
    rw [List.length_cons] at hi
    have hi' : i + 1 + rs.length ≤ 40 := by omega
    have go : ∀ s', Can 1 3 3 s' (leS rs0 g') → K' .next s' := fun s' c => hN _ _ _ rfl c ⟨rs, i + 1, g', rfl, rfl, h2, B', hi'⟩
    have hf : g.1.length ≤ 900 := le900 B.f (Nat.le_refl _) hi
    have hp : g.2.length ≤ 900 := le900 B.p (Nat.le_add_left _ _) hi
    obtain ⟨f, ps⟩ := g
    cases r0 with
    | set x => cases h1; exact go _ ⟨fun K h => h⟩
    | less x => cases h1; exact go _ ⟨fun K h => h⟩
    | whil x =>
      cases h1
      refine ok_in (stkP_ble hp (by decide)) ?_
      exact go _ ⟨fun K h => h⟩
    | for_ x =>
      cases h1
      refine ok_in (stkP_ble hp (by decide)) ?_
      exact go _ ⟨fun K h => h⟩
    | wend =>
      obtain ⟨x, q, ps', e, hn, rfl⟩ := leEnd_at h1
      obtain rfl : ps = _ :: ps' := e
      refine endloop_in false 0 x q i ps' f hn (Nat.le_of_succ_le hp) hf ?_
      exact go _ ⟨fun K h => h⟩
    | next0 =>
      obtain ⟨x, q, ps', e, hn, rfl⟩ := leEnd_at (leEnds1 h1)
      obtain rfl : ps = _ :: ps' := e
      refine loop_in ?_
      refine endloop_in true 0 x q i ps' f hn (Nat.le_of_succ_le hp) hf ?_
      exact go _ ⟨fun K h => h⟩
    | next1 y =>
      obtain ⟨x, q, ps', e, hn, rfl⟩ := leEnd_at (leEnds1 h1)
      obtain rfl : ps = _ :: ps' := e
      refine loop_in ?_
      refine endloop_in true y x q i ps' f hn (Nat.le_of_succ_le hp) hf ?_
      exact go _ ⟨fun K h => h⟩
    | next2 y z =>
      obtain ⟨g1, h11, h12⟩ := Option.bind_eq_some_iff.mp h1
      obtain ⟨x, q, ps', e, hn, rfl⟩ := leEnd_at h11
      obtain ⟨x2, q2, ps2, e2, hn2, rfl⟩ := leEnd_at (leEnds1 h12)
      obtain rfl : ps = _ :: ps' := e
      obtain rfl : ps' = _ :: ps2 := e2
      refine loop_in ?_
      refine endloop_in true y x q i _ f hn (Nat.le_of_succ_le hp) hf ?_
      refine endloop_in true z x2 q2 i ps2 (putK f q (.int i)) hn2 (Nat.le_of_succ_le (Nat.le_of_succ_le hp)) ?_ ?_
      · exact Nat.le_trans (putK_up B.f) (by show i + i + 1 ≤ 900; omega)
      exact go _ ⟨fun K h => h⟩
  case d =>
    rintro s ⟨rs, i, g, rfl, hr, hg, _, _⟩
    cases rs with
    | cons r0 rs => cases hr
    | nil =>
      cases hg
      exact hQ
theorem ok209 (P : Params) : DefOk (fd209 P) 1 := ⟨fun s us _ h => by obtain ⟨a, rfl⟩ := len1 h; exact BindsTo.of_eq rfl, rfl⟩
theorem spec_lends (w : World) (ns sc : List Int) : SpecI w ns sc 209 3 ct_lends := spec_def (fd209 w.params) (ok209 _) (TOk.cons (spec_endloop w ns sc) (by decide) (by kernel_rfl!) TOk.nil) (by decide) (by intro as N0 K h; delta ct_lends at h; obtain ⟨rs, fin, rfl, _⟩ := h; rfl) (lends_kept _)

noncomputable def fd328 (P : Params) : Fd P 328 := by
  refine' mkFd ?a ?b
  case a => k_is
  case b => k_is
noncomputable def fd589 (P : Params) : Fd P 589 := by
  refine' mkFd ?a ?b
  case a => k_is
  case b => k_is
noncomputable def fd526 (P : Params) : Fd P 526 := by
  refine' mkFd ?a ?b
  case a => k_is
  case b => k_is
@[irreducible] noncomputable def ct_eow : Ct := fun args N Q => ∃ (b : FB) (pr lp : List (Int × D)) (row q : Int), args = [.ref 0, .d (.int row)] ∧ N = flB b pr lp ∧ pr.lookup row = some (.int q) ∧ Q (.d (.int q)) N
theorem eow_in (b : FB) (pr lp : List (Int × D)) (row q : Int) {Q : V → List O → Prop} (h : pr.lookup row = some (.int q)) (k : Q (.d (.int q)) (flB b pr lp)) : ct_eow [.ref 0, .d (.int row)] (flB b pr lp) Q := by delta ct_eow; exact ⟨b, pr, lp, row, q, rfl, rfl, h, k⟩
theorem eow_kept (P : Params) : Kept (fd328 P) [] ct_eow := by
  intro args N Q h
  delta ct_eow at h
  obtain ⟨b, pr, lp, row, q, rfl, rfl, hl, hQ⟩ := h
  refine opt_in _ hl ?_
  refine opt_in _ hl ?_
  exact hQ
theorem ok328 (P : Params) : DefOk (fd328 P) 2 := ⟨fun s us _ h => by obtain ⟨a, b, rfl⟩ := len2 h; exact BindsTo.of_eq rfl, rfl⟩
theorem spec_eow (w : World) (ns sc : List Int) : SpecI w ns sc 328 2 ct_eow := spec_def (fd328 w.params) (ok328 _) (T := []) TOk.nil (by decide) (by intro as N0 K h; delta ct_eow at h; obtain ⟨b, pr, lp, row, q, rfl, _⟩ := h; rfl) (eow_kept _)
inductive TreeV (vals : List (Nm × Int)) : D → Int → Prop where
  | set (n : Int) : TreeV vals (.tup [sD "set", .int n]) n
  | less (x : Nm) (v : Int) (h : vals.lookup x = some v) : TreeV vals (.tup [sD "less", .str (nmS x)]) (v - 1)
  | some (x : Nm) (v : Int) (h : vals.lookup x = some v) : TreeV vals (.tup [sD "some", .str (nmS x)]) (0 - (if decide (0 < v) = true then 1 else 0))
@[irreducible] noncomputable def ct_worth : Ct := fun args N Q => ∃ (tree : D) (vals : List (Nm × Int)) (v : Int), args = [.d tree, .ref 0] ∧ N = [.dictS (upV vals)] ∧ TreeV vals tree v ∧ Q (.d (.int v)) N
theorem worth_in {tree : D} {vals : List (Nm × Int)} {v : Int} {Q : V → List O → Prop} (h : TreeV vals tree v) (k : Q (.d (.int v)) [.dictS (upV vals)]) : ct_worth [.d tree, .ref 0] [.dictS (upV vals)] Q := by delta ct_worth; exact ⟨tree, vals, v, rfl, rfl, h, k⟩
theorem up_at {x : Nm} {vals : List (Nm × Int)} {v : Int} (h : vals.lookup x = some v) : (upV vals).lookup (nmS x) = some (.int v) := by rw [lookup_up, h]; rfl
theorem worth_kept (P : Params) : Kept (fd589 P) [] ct_worth := by
  intro args N Q h
  delta ct_worth at h
  obtain ⟨tree, vals, v, rfl, rfl, ht, hQ⟩ := h
  cases ht with
  | set n => exact hQ
  | less x v h =>
    refine opt_in _ (up_at h) ?_
    exact hQ
  | some x v h =>
    refine opt_in _ (up_at h) ?_
    exact hQ
theorem ok589 (P : Params) : DefOk (fd589 P) 2 := ⟨fun s us _ h => by obtain ⟨a, b, rfl⟩ := len2 h; exact BindsTo.of_eq rfl, rfl⟩
theorem spec_worth (w : World) (ns sc : List Int) : SpecI w ns sc 589 2 ct_worth := spec_def (fd589 w.params) (ok589 _) (T := []) TOk.nil (by decide) (by intro as N0 K h; delta ct_worth at h; obtain ⟨tree, vals, v, rfl, _⟩ := h; rfl) (worth_kept _)
noncomputable def runAt (i j k l : Nat) : O := .inst 571 [(Str.ofString "flat", .ref i), (Str.ofString "values", .ref j), (Str.ofString "worth_of", .own 589), (Str.ofString "bits", .d (.int 16)), (Str.ofString "digits", .d (.int 9)), (Str.ofString "control", .ref k), (Str.ofString "notes", .ref l)]
@[irreducible] noncomputable def ct_rini : Ct := fun args N Q => ∃ (b : FB) (pr lp : List (Int × D)), args = [.ref 8, .ref 0, .ref 7, .own 589, .d (.int 16), .d (.int 9)] ∧ N = flB b pr lp ++ [.dictS [], .inst 571 []] ∧ Q (.d .none) (flB b pr lp ++ [.dictS [], runAt 0 7 9 11, ctlO 10, .list [], .list []])
theorem rini_kept (P : Params) : Kept (fd526 P) [(124, ct_ctl)] ct_rini := by
  intro args N Q h
  delta ct_rini at h
  obtain ⟨b, pr, lp, rfl, rfl, hQ⟩ := h
  refine ctl_in ?_
  exact hQ
theorem len6 {α : Type} {l : List α} (h : l.length = 6) : ∃ a b c d e f, l = [a, b, c, d, e, f] := by
  obtain ⟨a, r, rfl, h2⟩ := lenS h
  obtain ⟨b, c, d, e, f, rfl⟩ := len5 h2
  exact ⟨a, b, c, d, e, f, rfl⟩
theorem ok526 (P : Params) : DefOk (fd526 P) 6 := ⟨fun s us _ h => by obtain ⟨a, b, c, d, e, f, rfl⟩ := len6 h; exact BindsTo.of_eq rfl, rfl⟩
@[irreducible] noncomputable def ct_run : Ct := fun args N Q => ∃ (b : FB) (pr lp : List (Int × D)), args = [.ref 0, .ref 7, .own 589, .d (.int 16), .d (.int 9)] ∧ N = flB b pr lp ++ [.dictS []] ∧ Q (.ref 8) (flB b pr lp ++ [.dictS [], runAt 0 7 9 11, ctlO 10, .list [], .list []])
theorem run_in (b : FB) (pr lp : List (Int × D)) {Q : V → List O → Prop} (k : Q (.ref 8) (flB b pr lp ++ [.dictS [], runAt 0 7 9 11, ctlO 10, .list [], .list []])) : ct_run [.ref 0, .ref 7, .own 589, .d (.int 16), .d (.int 9)] (flB b pr lp ++ [.dictS []]) Q := by delta ct_run; exact ⟨b, pr, lp, rfl, rfl, k⟩
theorem spec_run (w : World) (ns sc : List Int) : SpecI w ns sc 571 9 ct_run :=
  spec_class (by kernel_rfl!) (by kernel_rfl!) (by kernel_rfl!) (spec_def (fd526 w.params) (ok526 _) (TOk.cons (spec_ctl w ns sc) (by decide) (by kernel_rfl!) TOk.nil) (by decide) (by intro as N0 K h; delta ct_rini at h; obtain ⟨b, pr, lp, rfl, _⟩ := h; rfl) (rini_kept _)) (by intro as N0 K h; delta ct_run at h; obtain ⟨b, pr, lp, rfl, rfl, h⟩ := h; delta ct_rini; exact ⟨b, pr, lp, rfl, rfl, rfl, h⟩)

noncomputable def fd533 (P : Params) : Fd P 533 := by
  refine' mkFd ?a ?b
  case a => k_is
  case b => k_is
noncomputable def fd547 (P : Params) : Fd P 547 := by
  refine' mkFd ?a ?b
  case a => k_is
  case b => k_is
noncomputable def fd554 (P : Params) : Fd P 554 := by
  refine' mkFd ?a ?b
  case a => k_is
  case b => k_is
noncomputable def fd561 (P : Params) : Fd P 561 := by
  refine' mkFd ?a ?b
  case a => k_is
  case b => k_is
/-- a run that stays as it is: its flat program -/
structure RB where
  b : FB
  pr : List (Int × D)
  lp : List (Int × D)
noncomputable def runL (c : RB) (vals : List (Nm × Int)) (i : Nat) (l : List D) : List O := [runAt 1 8 9 11, flatO1, .flist c.b.l, .dictI c.b.pl, .list c.b.dt, .dictI c.pr, .dictI c.lp, .dictI c.b.fn, .dictS (upV vals), ctlO i, .list l, .list []]
noncomputable def runB (c : RB) (vals : List (Nm × Int)) (es : List Ent) : List O := runL c vals 10 (stk es)
@[irreducible] noncomputable def ct_rworth : Ct := fun args N Q => ∃ (tree : D) (v : Int) (c : RB) (vals : List (Nm × Int)) (l : List D), args = [.ref 0, .d tree] ∧ N = runL c vals 10 l ∧ TreeV vals tree v ∧ Q (.d (.int v)) N
theorem rworth_in {tree : D} {v : Int} (c : RB) {vals : List (Nm × Int)} (l : List D) {Q : V → List O → Prop} (h : TreeV vals tree v) (k : Q (.d (.int v)) (runL c vals 10 l)) : ct_rworth [.ref 0, .d tree] (runL c vals 10 l) Q := by delta ct_rworth; exact ⟨tree, v, c, vals, l, rfl, rfl, h, k⟩
theorem rworth_kept (P : Params) : Kept (fd533 P) [(589, ct_worth)] ct_rworth := by
  intro args N Q h
  delta ct_rworth at h
  obtain ⟨tree, v, c, vals, l, rfl, rfl, ht, hQ⟩ := h
  refine worth_in ht ?_
  exact hQ
@[irreducible] noncomputable def ct_fval : Ct := fun args N Q => ∃ (x : Nm) (v : Int) (c : RB) (vals : List (Nm × Int)) (l : List D), args = [.ref 0, .d (.str (nmS x))] ∧ N = runL c vals 10 l ∧ vals.lookup x = some v ∧ Q (.d (.int v)) N
theorem fval_in (x : Nm) (v : Int) (c : RB) (vals : List (Nm × Int)) (l : List D) {Q : V → List O → Prop} (h : vals.lookup x = some v) (k : Q (.d (.int v)) (runL c vals 10 l)) : ct_fval [.ref 0, .d (.str (nmS x))] (runL c vals 10 l) Q := by delta ct_fval; exact ⟨x, v, c, vals, l, rfl, rfl, h, k⟩
theorem fval_kept (P : Params) : Kept (fd547 P) [] ct_fval := by
  intro args N Q h
  delta ct_fval at h
  obtain ⟨x, v, c, vals, l, rfl, rfl, hv, hQ⟩ := h
  refine opt_in _ (up_at hv) ?_
  exact hQ
@[irreducible] noncomputable def ct_store : Ct := fun args N Q => ∃ (x : Nm) (v : Int) (c : RB) (vals : List (Nm × Int)) (l : List D), args = [.ref 0, .d (.str (nmS x)), .d (.int v)] ∧ N = runL c vals 10 l ∧ vals.length ≤ 900 ∧ Q (.d .none) (runL c (putK vals x v) 10 l)
theorem store_in (x : Nm) (v : Int) (c : RB) (vals : List (Nm × Int)) (l : List D) {Q : V → List O → Prop} (h : vals.length ≤ 900) (k : Q (.d .none) (runL c (putK vals x v) 10 l)) : ct_store [.ref 0, .d (.str (nmS x)), .d (.int v)] (runL c vals 10 l) Q := by delta ct_store; exact ⟨x, v, c, vals, l, rfl, rfl, h, k⟩
theorem upV_ble {vals : List (Nm × Int)} (h : vals.length ≤ 900) : Nat.ble (upV vals).length 1000 = true := ble_of (by rw [upV_len]; exact Nat.le_trans h (by decide))
theorem store_kept (P : Params) : Kept (fd554 P) [] ct_store := by
  intro args N Q h
  delta ct_store at h
  obtain ⟨x, v, c, vals, l, rfl, rfl, hl, hQ⟩ := h
  refine ok_in (upV_ble hl) ?_
  unfold runL at hQ
  rw [← put_up] at hQ
  exact hQ
@[irreducible] noncomputable def ct_plus : Ct := fun args N Q => ∃ (x y : Int) (c : RB) (vals : List (Nm × Int)) (l : List D), args = [.ref 0, .d (.int x), .d (.int y)] ∧ N = runL c vals 10 l ∧ -32768 ≤ x + y ∧ x + y < 32768 ∧ Q (.d (.int (x + y))) N
theorem plus_in (x y : Int) (c : RB) (vals : List (Nm × Int)) (l : List D) {Q : V → List O → Prop} (h1 : -32768 ≤ x + y) (h2 : x + y < 32768) (k : Q (.d (.int (x + y))) (runL c vals 10 l)) : ct_plus [.ref 0, .d (.int x), .d (.int y)] (runL c vals 10 l) Q := by delta ct_plus; exact ⟨x, y, c, vals, l, rfl, rfl, h1, h2, k⟩
theorem plus_kept (P : Params) : Kept (fd561 P) [(469, ct_reck)] ct_plus := by
  intro args N Q h
  delta ct_plus at h
  obtain ⟨x, y, c, vals, l, rfl, rfl, h1, h2, hQ⟩ := h
  refine reck_in x y h1 h2 ?_
  exact hQ
theorem ok533 (P : Params) : DefOk (fd533 P) 2 := ⟨fun s us _ h => by obtain ⟨a, b, rfl⟩ := len2 h; exact BindsTo.of_eq rfl, rfl⟩
theorem ok547 (P : Params) : DefOk (fd547 P) 2 := ⟨fun s us _ h => by obtain ⟨a, b, rfl⟩ := len2 h; exact BindsTo.of_eq rfl, rfl⟩
theorem ok554 (P : Params) : DefOk (fd554 P) 3 := ⟨fun s us _ h => by obtain ⟨a, b, c, rfl⟩ := len3 h; exact BindsTo.of_eq rfl, rfl⟩
theorem ok561 (P : Params) : DefOk (fd561 P) 3 := ⟨fun s us _ h => by obtain ⟨a, b, c, rfl⟩ := len3 h; exact BindsTo.of_eq rfl, rfl⟩
theorem spec_rworth (w : World) (ns sc : List Int) : SpecI w ns sc 533 3 ct_rworth := spec_def (fd533 w.params) (ok533 _) (TOk.cons (spec_worth w ns sc) (by decide) (by kernel_rfl!) TOk.nil) (by decide) (by intro as N0 K h; delta ct_rworth at h; obtain ⟨tree, v, c, vals, l, rfl, _⟩ := h; rfl) (rworth_kept _)
theorem spec_fval (w : World) (ns sc : List Int) : SpecI w ns sc 547 2 ct_fval := spec_def (fd547 w.params) (ok547 _) (T := []) TOk.nil (by decide) (by intro as N0 K h; delta ct_fval at h; obtain ⟨x, v, c, vals, l, rfl, _⟩ := h; rfl) (fval_kept _)
theorem spec_store (w : World) (ns sc : List Int) : SpecI w ns sc 554 2 ct_store := spec_def (fd554 w.params) (ok554 _) (T := []) TOk.nil (by decide) (by intro as N0 K h; delta ct_store at h; obtain ⟨x, v, c, vals, l, rfl, _⟩ := h; rfl) (store_kept _)
theorem spec_plus (w : World) (ns sc : List Int) : SpecI w ns sc 561 6 ct_plus := spec_def (fd561 w.params) (ok561 _) (TOk.cons (spec_reck w ns sc) (by decide) (by kernel_rfl!) TOk.nil) (by decide) (by intro as N0 K h; delta ct_plus at h; obtain ⟨x, y, c, vals, l, rfl, _⟩ := h; rfl) (plus_kept _)

noncomputable def fd184 (P : Params) : Fd P 184 := by
  refine' mkFd ?a ?b
  case a => k_is
  case b => k_is
noncomputable def flatO2 : O := .inst 254 [(Str.ofString "rows", .ref 4), (Str.ofString "places", .ref 5), (Str.ofString "data", .ref 6), (Str.ofString "pairs", .ref 7), (Str.ofString "loops", .ref 8), (Str.ofString "fns", .ref 9)]
/-- the run, seen from its control -/
noncomputable def nextL (c : RB) (vals : List (Nm × Int)) (i : Nat) (l : List D) : List O := [ctlO i, .list l, runAt 3 10 0 11, flatO2, .flist c.b.l, .dictI c.b.pl, .list c.b.dt, .dictI c.pr, .dictI c.lp, .dictI c.b.fn, .dictS (upV vals), .list []]
@[irreducible] noncomputable def ct_fornext : Ct := fun args N Q => ∃ (x : Nm) (p v : Int) (r : List Ent) (c : RB) (vals : List (Nm × Int)), args = [.ref 0, .d (.str (nmS x)), .d (.int v), .bm 2 561, .own 476] ∧ N = nextL c vals 1 (stk (.for_ (nmS x) p :: r)) ∧ r.length < 20 ∧
  ((v = 1 ∧ Q (.tup [.d (.int 2), .d (.int p)]) (nextL c vals 12 (stk (.for_ (nmS x) p :: r)) ++ [.list (stk (.for_ (nmS x) p :: r))])) ∨
   (v = 2 ∧ Q (.tup [.d (.int 3), .d .none]) (nextL c vals 12 (stk (.for_ (nmS x) p :: r)) ++ [.list (stk r)])))
theorem fornext1_in (x : Nm) (p : Int) (r : List Ent) (c : RB) (vals : List (Nm × Int)) {Q : V → List O → Prop} (h : r.length < 20) (k : Q (.tup [.d (.int 2), .d (.int p)]) (nextL c vals 12 (stk (.for_ (nmS x) p :: r)) ++ [.list (stk (.for_ (nmS x) p :: r))])) : ct_fornext [.ref 0, .d (.str (nmS x)), .d (.int 1), .bm 2 561, .own 476] (nextL c vals 1 (stk (.for_ (nmS x) p :: r))) Q := by delta ct_fornext; exact ⟨x, p, 1, r, c, vals, rfl, rfl, h, .inl ⟨rfl, k⟩⟩
theorem fornext2_in (x : Nm) (p : Int) (r : List Ent) (c : RB) (vals : List (Nm × Int)) {Q : V → List O → Prop} (h : r.length < 20) (k : Q (.tup [.d (.int 3), .d .none]) (nextL c vals 12 (stk (.for_ (nmS x) p :: r)) ++ [.list (stk r)])) : ct_fornext [.ref 0, .d (.str (nmS x)), .d (.int 2), .bm 2 561, .own 476] (nextL c vals 1 (stk (.for_ (nmS x) p :: r))) Q := by delta ct_fornext; exact ⟨x, p, 2, r, c, vals, rfl, rfl, h, .inr ⟨rfl, k⟩⟩
theorem found_top {n x : Nm} {p : Int} {r : List Ent} (h : n = 0 ∨ n = x) : foundF (nmS n) (.for_ (nmS x) p :: r) = (r.length : Int) := (foundF_yes (name_in h)).trans (len_up _ _)
theorem fornext_kept (P : Params) : Kept (fd184 P) [(149, ct_found), (561, ct_plus), (163, ct_past), (156, ct_cut)] ct_fornext := by
  intro args N Q h
  delta ct_fornext at h
  obtain ⟨x, p, v, r, c, vals, rfl, rfl, hl, h⟩ := h
  refine foundF_in (.for_ (nmS x) p :: r) (nmS x) hl ?_
  rw [found_top (.inr rfl)]
  refine ok_in (fit_len (Nat.le_trans (Nat.le_of_lt hl) (by decide))) ?_
  refine opt_in _ (item_nat rfl (stk_get (.for_ (nmS x) p) r [])) ?_
  have hb : (stk (.for_ (nmS x) p :: r)).length ≤ 1000 := by rw [stk_len]; exact Nat.le_trans hl (by decide)
  rcases h with ⟨rfl, hQ⟩ | ⟨rfl, hQ⟩
  · refine plus_in 1 1 c vals _ (by decide) (by decide) ?_
    refine past_in 2 2 ?_
    refine cut_in (r.length + 1) _ hb ?_
    rw [show (stk (.for_ (nmS x) p :: r)).take (r.length + 1) = stk (.for_ (nmS x) p :: r) from stk_cut (.for_ (nmS x) p :: r) []]
    exact hQ
  · refine plus_in 2 1 c vals _ (by decide) (by decide) ?_
    refine past_in 3 2 ?_
    refine cut_in r.length _ hb ?_
    rw [show (stk (.for_ (nmS x) p :: r)).take r.length = stk r from stk_cut r [.for_ (nmS x) p]]
    exact hQ
theorem ok184 (P : Params) : DefOk (fd184 P) 5 := ⟨fun s us _ h => by obtain ⟨a, b, c, d, e, rfl⟩ := len5 h; exact BindsTo.of_eq rfl, rfl⟩
theorem spec_fornext (w : World) (ns sc : List Int) : SpecI w ns sc 184 7 ct_fornext := spec_def (fd184 w.params) (ok184 _) (TOk.cons (spec_found w ns sc) (by decide) (by kernel_rfl!) (TOk.cons (spec_plus w ns sc) (by decide) (by kernel_rfl!) (TOk.cons (spec_past w ns sc) (by decide) (by kernel_rfl!) (TOk.cons (spec_cut w ns sc) (by decide) (by kernel_rfl!) TOk.nil)))) (by decide) (by intro as N0 K h; delta ct_fornext at h; obtain ⟨x, p, v, r, c, vals, rfl, _⟩ := h; rfl) (fornext_kept _)

noncomputable def fd189 (P : Params) : Fd P 189 := by
  refine' mkFd ?a ?b
  case a => k_is
  case b => k_is
noncomputable def fd194 (P : Params) : Fd P 194 := by
  refine' mkFd ?a ?b
  case a => k_is
  case b => k_is
noncomputable def isW (q : Int) : Ent → Bool
  | .whil p => (p == q && true)
  | .for_ _ _ => false
/-- where the loop stands in the pile -/
noncomputable def spotsOf (q : Int) : Nat → List Ent → List D
  | _, [] => []
  | i, e :: r => match isW q e with | true => .int i :: spotsOf q (i + 1) r | false => spotsOf q (i + 1) r
theorem compI_in {n : Nat} {tests : St → (Bool → St → Prop) → Prop} {elt : St → (V → St → Prop) → Prop} {x : Str} {m : List (Str × V)} {l l' : List D} {N : List O} {ys : List D} {K : List D → List O → Prop} (e : l = l') (h : compI n tests elt x m l' N ys K) : compI n tests elt x m l N ys K := e ▸ h
theorem comp_spots {n : Nat} {tests : St → (Bool → St → Prop) → Prop} {elt : St → (V → St → Prop) → Prop} {x : Str} {m : List (Str × V)} {N : List O} {K : List D → List O → Prop} {q : Int} {es : List Ent}
    (ht : ∀ (i : Nat) (e : Ent), (stk es)[i]? = some (entD e) → ∀ K' : Bool → St → Prop, K' (isW q e) ⟨(x, .d (.int i)) :: m, N⟩ → tests ⟨(x, .d (.int i)) :: m, N⟩ K')
    (he : ∀ v K', K' (.d v) ⟨(x, .d v) :: m, N⟩ → elt ⟨(x, .d v) :: m, N⟩ K') (hb : (Nat.ble n N.length && below n (refsN (N.take n))) = true) (hN : N.take n = N) :
    ∀ (rem done : List Ent) (ys : List D), es = rem.reverse ++ done → K (ys ++ spotsOf q done.length rem) N → compI n tests elt x m (rangeL (done.length : Int) 1 rem.length) N ys K
  | [], done, ys, e, h => by
    have h : K (ys ++ []) N := h
    rw [List.append_nil] at h
    exact h
  | e :: r, done, ys, hes, h => by
    rw [List.reverse_cons, List.append_assoc] at hes
    refine ht done.length e (hes ▸ stk_get e done r.reverse) _ ?_
    have go : ∀ ys', K (ys' ++ spotsOf q (done.length + 1) r) N → compI n tests elt x m (rangeL ((done.length : Int) + 1) 1 r.length) (N.take n) ys' K := fun ys' h' => by
      rw [hN]
      exact comp_spots ht he hb hN r (e :: done) ys' hes h'
    have h' : K (ys ++ match isW q e with | true => .int done.length :: spotsOf q (done.length + 1) r | false => spotsOf q (done.length + 1) r) N := h
    cases hw : isW q e with
    | true =>
      rw [hw] at h'
      refine he _ _ ?_
      refine ok_in hb ?_
      refine go _ ?_
      rw [List.append_assoc]
      exact h'
    | false =>
      rw [hw] at h'
      refine ok_in hb ?_
      exact go _ h'
theorem spots_none {q : Int} : ∀ {l : List Ent} {i : Nat}, (∀ e ∈ l, isW q e = false) → spotsOf q i l = []
  | [], _, _ => rfl
  | e :: r, i, h => by
    show (match isW q e with | true => _ | false => _) = _
    rw [h e (.head _)]
    exact spots_none fun e h' => h e (.tail _ h')
theorem spots_app {q : Int} {e : Ent} : ∀ {l : List Ent} {i : Nat}, (∀ e ∈ l, isW q e = false) → spotsOf q i (l ++ [e]) = spotsOf q (i + l.length) [e]
  | [], _, _ => rfl
  | e' :: r, i, h => by
    show (match isW q e' with | true => _ | false => _) = _
    rw [h e' (.head _), List.length_cons, Nat.add_comm r.length 1, ← Nat.add_assoc]
    exact spots_app fun e h' => h e (.tail _ h')
theorem spots_top {q : Int} {e : Ent} {r : List Ent} (h : ∀ e ∈ r, isW q e = false) : spotsOf q 0 (e :: r).reverse = spotsOf q r.length [e] := by
  rw [List.reverse_cons, spots_app (fun e h' => h e (List.mem_reverse.mp h')), List.length_reverse, Nat.zero_add]
theorem range_up (n : Nat) : rangeN 0 (n : Int) 1 = n := by
  unfold rangeN
  rw [if_pos (by decide), Int.ediv_one]
  omega
noncomputable def NoW (q : Int) (r : List Ent) : Prop := ∀ e ∈ r, isW q e = false
@[irreducible] noncomputable def ct_wb : Ct := fun args N Q => ∃ (q : Int) (es : List Ent), args = [.ref 0, .d (.int q)] ∧ N = [ctlO 1, .list (stk es)] ∧ es.length < 20 ∧
  ((NoW q es ∧ Q (.d .none) [ctlO 1, .list (stk (.whil q :: es))]) ∨ (∃ r, es = .whil q :: r ∧ NoW q r ∧ Q (.d .none) [ctlO 2, .list (stk es), .list (stk es)]))
theorem wb0_in (q : Int) (es : List Ent) {Q : V → List O → Prop} (h : es.length < 20) (hn : NoW q es) (k : Q (.d .none) [ctlO 1, .list (stk (.whil q :: es))]) : ct_wb [.ref 0, .d (.int q)] [ctlO 1, .list (stk es)] Q := by delta ct_wb; exact ⟨q, es, rfl, rfl, h, .inl ⟨hn, k⟩⟩
theorem wb1_in (q : Int) (r : List Ent) {Q : V → List O → Prop} (h : (Ent.whil q :: r).length < 20) (hn : NoW q r) (k : Q (.d .none) [ctlO 2, .list (stk (.whil q :: r)), .list (stk (.whil q :: r))]) : ct_wb [.ref 0, .d (.int q)] [ctlO 1, .list (stk (.whil q :: r))] Q := by delta ct_wb; exact ⟨q, _, rfl, rfl, h, .inr ⟨r, rfl, hn, k⟩⟩
theorem wb_kept (P : Params) : Kept (fd189 P) [(142, ct_floor), (156, ct_cut), (135, ct_put)] ct_wb := by
  intro args N Q h
  delta ct_wb at h
  obtain ⟨q, es, rfl, rfl, hl, h⟩ := h
  have hb : (stk es).length ≤ 20 := by rw [stk_len]; exact Nat.le_of_lt hl
  have e1 : rangeL 0 1 (rangeN 0 ((stk es).length : Int) 1) = rangeL (([] : List Ent).length : Int) 1 es.reverse.length := by rw [range_up, stk_len, List.length_reverse]; rfl
  refine floor_in es (Nat.le_of_lt hl) ?_
  refine ok_in (ble_lt hb (by decide)) ?_
  refine ok_in (Bool.and_eq_true_iff.mpr ⟨rfl, fit_len (Nat.le_trans hb (by decide))⟩) ?_
  refine ok_in (by rw [range_up, rangeL_len]; exact ble_lt hb (by decide)) ?_
  refine' compI_in (n := 2) e1 ?_
  refine' comp_spots (q := q) (es := es) ?t ?l rfl rfl es.reverse [] [] (by rw [List.reverse_reverse, List.append_nil]) ?_
  case t =>
    intro i e hi K' hK
    have hi2 : i ≤ 20 := Nat.le_trans (Nat.le_of_lt (List.getElem?_eq_some_iff.mp hi).1) hb
    refine ok_in (fit_len (Nat.le_trans hi2 (by decide))) ?_
    refine opt_in _ (item_nat rfl hi) ?_
    cases e <;> exact hK
  case l =>
    intro v K' hK
    exact hK
  rw [List.nil_append]
  rcases h with ⟨hn, hQ⟩ | ⟨r, rfl, hn, hQ⟩
  · rw [show spotsOf q ([] : List Ent).length es.reverse = [] from spots_none fun e h => hn e (List.mem_reverse.mp h)]
    refine putW_in q es hl ?_
    exact hQ
  · rw [show spotsOf q ([] : List Ent).length (Ent.whil q :: r).reverse = [.int r.length] from (spots_top hn).trans (by show (match (q == q && true) with | true => _ | false => _) = _; rw [beq_self_eq_true]; rfl)]
    refine cut_in (r.length + 1) (stk (.whil q :: r)) (Nat.le_trans hb (by decide)) ?_
    rw [show (stk (.whil q :: r)).take (r.length + 1) = stk (.whil q :: r) from stk_cut (.whil q :: r) []]
    exact hQ

@[irreducible] noncomputable def ct_we : Ct := fun args N Q => ∃ (q : Int) (r : List Ent), args = [.ref 0, .d (.int q)] ∧ N = [ctlO 1, .list (stk (.whil q :: r))] ∧ r.length < 20 ∧ NoW q r ∧ Q (.d .none) [ctlO 2, .list (stk (.whil q :: r)), .list (stk r)]
theorem we_in (q : Int) (r : List Ent) {Q : V → List O → Prop} (h : r.length < 20) (hn : NoW q r) (k : Q (.d .none) [ctlO 2, .list (stk (.whil q :: r)), .list (stk r)]) : ct_we [.ref 0, .d (.int q)] [ctlO 1, .list (stk (.whil q :: r))] Q := by delta ct_we; exact ⟨q, r, rfl, rfl, h, hn, k⟩
theorem we_kept (P : Params) : Kept (fd194 P) [(142, ct_floor), (156, ct_cut)] ct_we := by
  intro args N Q h
  delta ct_we at h
  obtain ⟨q, r, rfl, rfl, hl, hn, hQ⟩ := h
  have hb : (stk (.whil q :: r)).length ≤ 20 := by rw [stk_len]; exact hl
  have e1 : rangeL 0 1 (rangeN 0 ((stk (.whil q :: r)).length : Int) 1) = rangeL (([] : List Ent).length : Int) 1 (Ent.whil q :: r).reverse.length := by rw [range_up, stk_len, List.length_reverse]; rfl
  refine floor_in _ hl ?_
  refine ok_in (ble_lt hb (by decide)) ?_
  refine ok_in (Bool.and_eq_true_iff.mpr ⟨rfl, fit_len (Nat.le_trans hb (by decide))⟩) ?_
  refine ok_in (by rw [range_up, rangeL_len]; exact ble_lt hb (by decide)) ?_
  refine' compI_in (n := 2) e1 ?_
  refine' comp_spots (q := q) (es := .whil q :: r) ?t ?l rfl rfl (Ent.whil q :: r).reverse [] [] (by rw [List.reverse_reverse, List.append_nil]) ?_
  case t =>
    intro i e hi K' hK
    have hi2 : i ≤ 20 := Nat.le_trans (Nat.le_of_lt (List.getElem?_eq_some_iff.mp hi).1) hb
    refine ok_in (fit_len (Nat.le_trans hi2 (by decide))) ?_
    refine opt_in _ (item_nat rfl hi) ?_
    cases e <;> exact hK
  case l =>
    intro v K' hK
    exact hK
  rw [List.nil_append]
  rw [show spotsOf q ([] : List Ent).length (Ent.whil q :: r).reverse = [.int r.length] from (spots_top hn).trans (by show (match (q == q && true) with | true => _ | false => _) = _; rw [beq_self_eq_true]; rfl)]
  refine cut_in r.length (stk (.whil q :: r)) (Nat.le_trans hb (by decide)) ?_
  rw [show (stk (.whil q :: r)).take r.length = stk r from stk_cut r [.whil q]]
  exact hQ
theorem ok189 (P : Params) : DefOk (fd189 P) 2 := ⟨fun s us _ h => by obtain ⟨a, b, rfl⟩ := len2 h; exact BindsTo.of_eq rfl, rfl⟩
theorem ok194 (P : Params) : DefOk (fd194 P) 2 := ⟨fun s us _ h => by obtain ⟨a, b, rfl⟩ := len2 h; exact BindsTo.of_eq rfl, rfl⟩
theorem spec_wb (w : World) (ns sc : List Int) : SpecI w ns sc 189 3 ct_wb := spec_def (fd189 w.params) (ok189 _) (TOk.cons (spec_floor w ns sc) (by decide) (by kernel_rfl!) (TOk.cons (spec_cut w ns sc) (by decide) (by kernel_rfl!) (TOk.cons (spec_put w ns sc) (by decide) (by kernel_rfl!) TOk.nil))) (by decide) (by intro as N0 K h; delta ct_wb at h; obtain ⟨q, es, rfl, _⟩ := h; rfl) (wb_kept _)
theorem spec_we (w : World) (ns sc : List Int) : SpecI w ns sc 194 3 ct_we := spec_def (fd194 w.params) (ok194 _) (TOk.cons (spec_floor w ns sc) (by decide) (by kernel_rfl!) (TOk.cons (spec_cut w ns sc) (by decide) (by kernel_rfl!) TOk.nil)) (by decide) (by intro as N0 K h; delta ct_we at h; obtain ⟨q, r, rfl, _⟩ := h; rfl) (we_kept _)

noncomputable def fd512 (P : Params) : Fd P 512 := by
  refine' mkFd ?a ?b
  case a => k_is
  case b => k_is
noncomputable def upE : List EntN → List Ent
  | [] => []
  | e :: r => e.up :: upE r
theorem upE_len : ∀ l, (upE l).length = l.length
  | [] => rfl
  | _ :: r => congrArg (· + 1) (upE_len r)
/-- what a step of the run leaves: the pile of old stays in its slot, a new one comes behind -/
noncomputable def outL (c : RB) (o : ON) (es : List EntN) (k : Nat) (xs : List O) : List O := runL c o.2.2 k (stk (upE es)) ++ xs ++ [.list (stk (upE o.2.1))]
noncomputable def strsD : List Nm → List D
  | [] => []
  | x :: r => .str (nmS x) :: strsD r
@[irreducible] noncomputable def ct_nextfrom : Ct := fun args N Q => ∃ (ns : List Nm) (at' : Int) (c : RB) (vals : List (Nm × Int)) (es : List EntN) (o : ON), nxN at' ns es vals = some o ∧ es.length ≤ 8 ∧ vals.length ≤ 16 ∧
  (((∃ n, ns = [n]) ∨ (∃ n n2, ns = [n, n2])) ∧ args = [.ref 0, .d (.int at'), .d (.fl (strsD ns))] ∧ N = runB c vals (upE es) ∧ Q (.d (.int o.1)) (outL c o es 12 []) ∨
   ns = [0] ∧ args = [.ref 0, .d (.int at'), .ref 12] ∧ N = runB c vals (upE es) ++ [.list [.str (nmS 0)]] ∧ Q (.d (.int o.1)) (outL c o es 13 [.flist [.str (nmS 0)]]))
theorem nextfrom_in (ns : List Nm) (at' : Int) (c : RB) (vals : List (Nm × Int)) (es : List EntN) (o : ON) {Q : V → List O → Prop} (h : nxN at' ns es vals = some o) (hl : es.length ≤ 8) (hv : vals.length ≤ 16) (hn : (∃ n, ns = [n]) ∨ (∃ n n2, ns = [n, n2])) (k : Q (.d (.int o.1)) (outL c o es 12 [])) : ct_nextfrom [.ref 0, .d (.int at'), .d (.fl (strsD ns))] (runB c vals (upE es)) Q := by delta ct_nextfrom; exact ⟨ns, at', c, vals, es, o, h, hl, hv, .inl ⟨hn, rfl, rfl, k⟩⟩
theorem nextfrom0_in (at' : Int) (c : RB) (vals : List (Nm × Int)) (es : List EntN) (o : ON) {Q : V → List O → Prop} (h : nxN at' [0] es vals = some o) (hl : es.length ≤ 8) (hv : vals.length ≤ 16) (k : Q (.d (.int o.1)) (outL c o es 13 [.flist [.str (nmS 0)]])) : ct_nextfrom [.ref 0, .d (.int at'), .ref 12] (runB c vals (upE es) ++ [.list [.str (nmS 0)]]) Q := by delta ct_nextfrom; exact ⟨[0], at', c, vals, es, o, h, hl, hv, .inr ⟨rfl, rfl, rfl, k⟩⟩
theorem nx_at {at' : Int} {n : Nm} {ns : List Nm} {es : List EntN} {vals : List (Nm × Int)} {o : ON} (h : nxN at' (n :: ns) es vals = some o) :
    ∃ x p r, es = .for_ x p :: r ∧ (n = 0 ∨ n = x) ∧ ((vals.lookup x = some 1 ∧ o = (p, .for_ x p :: r, putK vals x 2)) ∨ (vals.lookup x = some 2 ∧ nxN at' ns r (putK vals x 3) = some o)) := by
  cases es with
  | nil => cases h
  | cons e r =>
    cases e with
    | whil q => cases h
    | for_ x p =>
      have h : (if n = 0 ∨ n = x then (if vals.lookup x = some 1 then some (p, EntN.for_ x p :: r, putK vals x 2) else if vals.lookup x = some 2 then nxN at' ns r (putK vals x 3) else none) else none) = some o := h
      split at h
      · rename_i hn
        refine ⟨x, p, r, rfl, hn, ?_⟩
        split at h
        · rename_i h1; cases h; exact .inl ⟨h1, rfl⟩
        · split at h
          · rename_i h2; exact .inr ⟨h2, h⟩
          · cases h
      · cases h
theorem nextfrom_kept (P : Params) : Kept (fd512 P) [(177, ct_name), (547, ct_fval), (184, ct_fornext), (554, ct_store)] ct_nextfrom := by
  intro args N Q h
  delta ct_nextfrom at h
  obtain ⟨ns, at', c, vals, es, o, hx, hl, hv, h⟩ := h
  have hv9 : vals.length ≤ 900 := Nat.le_trans hv (by decide)
  rcases h with ⟨hns, rfl, rfl, hQ⟩ | ⟨rfl, rfl, rfl, hQ⟩
  · rcases hns with ⟨n, rfl⟩ | ⟨n, n2, rfl⟩
    · obtain ⟨x, p, r, rfl, hn, hc⟩ := nx_at hx
      have hr : (upE r).length < 20 := by rw [upE_len]; exact Nat.lt_of_lt_of_le (Nat.lt_of_succ_le hl) (by decide)
      refine loop_in ?_
      refine name_at_in (nmS n) (nmS x) p (upE r) (Nat.succ_le_of_lt hr) (found_top hn) ?_
      rcases hc with ⟨h1, rfl⟩ | ⟨h2, hx2⟩
      · refine fval_in x 1 c vals _ h1 ?_
        refine fornext1_in x p (upE r) c vals hr ?_
        refine store_in x 2 c vals _ hv9 ?_
        set_option smartUnfolding false in exact hQ
      · refine fval_in x 2 c vals _ h2 ?_
        refine fornext2_in x p (upE r) c vals hr ?_
        refine store_in x 3 c vals _ hv9 ?_
        cases hx2
        set_option smartUnfolding false in exact hQ
    · obtain ⟨x, p, r, rfl, hn, hc⟩ := nx_at hx
      have hr8 : (upE r).length < 8 := by rw [upE_len]; exact Nat.lt_of_succ_le hl
      have hr : (upE r).length < 20 := Nat.lt_of_lt_of_le hr8 (by decide)
      refine loop_in ?_
      refine name_at_in (nmS n) (nmS x) p (upE r) (Nat.succ_le_of_lt hr) (found_top hn) ?_
      rcases hc with ⟨h1, rfl⟩ | ⟨h2, hx2⟩
      · refine fval_in x 1 c vals _ h1 ?_
        refine fornext1_in x p (upE r) c vals hr ?_
        refine store_in x 2 c vals _ hv9 ?_
        set_option smartUnfolding false in exact hQ
      · refine fval_in x 2 c vals _ h2 ?_
        refine fornext2_in x p (upE r) c vals hr ?_
        refine store_in x 3 c vals _ hv9 ?_
        obtain ⟨x2, p2, r2, rfl, hn2, hc⟩ := nx_at hx2
        have hr2 : (upE r2).length < 20 := Nat.lt_of_lt_of_le (Nat.lt_of_succ_lt hr8) (by decide)
        have hv9' : (putK vals x 3).length ≤ 900 := Nat.le_trans (putK_le _ _ _) (Nat.le_trans (Nat.succ_le_succ hv) (by decide))
        refine name_at_in (nmS n2) (nmS x2) p2 (upE r2) (Nat.succ_le_of_lt hr2) (found_top hn2) ?_
        rcases hc with ⟨h1, rfl⟩ | ⟨h2, hx2⟩
        · refine fval_in x2 1 c _ _ h1 ?_
          refine fornext1_in x2 p2 (upE r2) c _ hr2 ?_
          refine store_in x2 2 c _ _ hv9' ?_
          set_option smartUnfolding false in exact hQ
        · refine fval_in x2 2 c _ _ h2 ?_
          refine fornext2_in x2 p2 (upE r2) c _ hr2 ?_
          refine store_in x2 3 c _ _ hv9' ?_
          cases hx2
          set_option smartUnfolding false in exact hQ
  · obtain ⟨x, p, r, rfl, hn, hc⟩ := nx_at hx
    have hr : (upE r).length < 20 := by rw [upE_len]; exact Nat.lt_of_lt_of_le (Nat.lt_of_succ_le hl) (by decide)
    refine loop_in ?_
    refine name_at_in (nmS 0) (nmS x) p (upE r) (Nat.succ_le_of_lt hr) (found_top hn) ?_
    rcases hc with ⟨h1, rfl⟩ | ⟨h2, hx2⟩
    · refine fval_in x 1 c vals _ h1 ?_
      refine fornext1_in x p (upE r) c vals hr ?_
      refine store_in x 2 c vals _ hv9 ?_
      set_option smartUnfolding false in exact hQ
    · refine fval_in x 2 c vals _ h2 ?_
      refine fornext2_in x p (upE r) c vals hr ?_
      refine store_in x 3 c vals _ hv9 ?_
      cases hx2
      set_option smartUnfolding false in exact hQ
theorem ok512 (P : Params) : DefOk (fd512 P) 3 := ⟨fun s us _ h => by obtain ⟨a, b, c, rfl⟩ := len3 h; exact BindsTo.of_eq rfl, rfl⟩
theorem spec_nextfrom (w : World) (ns sc : List Int) : SpecI w ns sc 512 8 ct_nextfrom := spec_def (fd512 w.params) (ok512 _) (TOk.cons (spec_name w ns sc) (by decide) (by kernel_rfl!) (TOk.cons (spec_fval w ns sc) (by decide) (by kernel_rfl!) (TOk.cons (spec_fornext w ns sc) (by decide) (by kernel_rfl!) (TOk.cons (spec_store w ns sc) (by decide) (by kernel_rfl!) TOk.nil)))) (by decide) (by intro as N0 K h; delta ct_nextfrom at h; rcases h with ⟨ns, at', c, vals, es, o, _, _, _, ⟨_, rfl, _⟩ | ⟨_, rfl, _⟩⟩ <;> rfl) (nextfrom_kept _)

noncomputable def fd505 (P : Params) : Fd P 505 := by
  refine' mkFd ?a ?b
  case a => k_is
  case b => k_is
theorem map_get {K α : Type} [DecidableEq K] {k : K} {v : α} : ∀ d : List (K × α), (d.any fun p => decide (p.1 = k)) = true → (d.map fun p => if p.1 = k then (p.1, v) else p).lookup k = some v
  | [], h => by cases h
  | (y, u) :: r, h => by
    rw [List.map_cons]
    by_cases e : y = k
    · rw [if_pos e, List.lookup_cons, show (k == y) = true from beq_iff_eq.mpr e.symm]
    · rw [if_neg e, List.lookup_cons, show (k == y) = false from beq_eq_false_iff_ne.mpr (Ne.symm e)]
      rw [List.any_cons, show decide (y = k) = false from decide_eq_false e, Bool.false_or] at h
      exact map_get r h
theorem app_get {K α : Type} [DecidableEq K] {k : K} {v : α} : ∀ d : List (K × α), (d.any fun p => decide (p.1 = k)) = false → (d ++ [(k, v)]).lookup k = some v
  | [], _ => by rw [List.nil_append, List.lookup_cons, show (k == k) = true from beq_iff_eq.mpr rfl]
  | (y, u) :: r, h => by
    rw [List.any_cons, Bool.or_eq_false_iff] at h
    rw [List.cons_append, List.lookup_cons, show (k == y) = false from beq_eq_false_iff_ne.mpr (Ne.symm (of_decide_eq_false h.1))]
    exact app_get r h.2
theorem putK_get {K α : Type} [DecidableEq K] (d : List (K × α)) (k : K) (v : α) : (putK d k v).lookup k = some v := by
  unfold putK
  split
  · rename_i h; exact map_get d h
  · rename_i h; exact app_get d (Bool.eq_false_iff.mpr h)
theorem found_none {x : Nm} (h0 : x ≠ 0) : ∀ es : List EntN, es.all (fun e => e.is x == false) = true → foundF (nmS x) (upE es) = -1
  | [], _ => rfl
  | .whil q :: r, h => by
    rw [List.all_cons, Bool.and_eq_true] at h
    exact found_none h0 r h.2
  | .for_ y p :: r, h => by
    rw [List.all_cons, Bool.and_eq_true] at h
    have hy : (y == x) = false := eq_of_beq h.1
    refine (foundF_no (y := nmS x) ?_).trans (found_none h0 r h.2)
    have e0 : (Str.ofString "" == nmS x) = false := by
      rw [show Str.ofString "" = nmS 0 from rfl, nmS_beq]
      exact beq_eq_false_iff_ne.mpr (Ne.symm h0)
    rw [e0, nmS_beq, hy]
    rfl
@[irreducible] noncomputable def ct_dofor : Ct := fun args N Q => ∃ (x : Nm) (at' : Int) (c : RB) (vals : List (Nm × Int)) (es : List EntN), args = [.ref 0, .d (.int at'), .d (rowD (.for_ x))] ∧ N = runB c vals (upE es) ∧ x ≠ 0 ∧ es.all (fun e => e.is x == false) = true ∧ es.length ≤ 8 ∧ vals.length ≤ 16 ∧
  Q (.d (.int (at' + 1))) (runB c (putK vals x 1) (upE (.for_ x (at' + 1) :: es)))
theorem dofor_in (x : Nm) (at' : Int) (c : RB) (vals : List (Nm × Int)) (es : List EntN) {Q : V → List O → Prop} (h0 : x ≠ 0) (ha : es.all (fun e => e.is x == false) = true) (hl : es.length ≤ 8) (hv : vals.length ≤ 16) (k : Q (.d (.int (at' + 1))) (runB c (putK vals x 1) (upE (.for_ x (at' + 1) :: es)))) : ct_dofor [.ref 0, .d (.int at'), .d (rowD (.for_ x))] (runB c vals (upE es)) Q := by delta ct_dofor; exact ⟨x, at', c, vals, es, rfl, rfl, h0, ha, hl, hv, k⟩
set_option smartUnfolding false in
theorem dofor_kept (P : Params) : Kept (fd505 P) [(533, ct_rworth), (554, ct_store), (547, ct_fval), (163, ct_past), (170, ct_begin)] ct_dofor := by
  intro args N Q h
  delta ct_dofor at h
  obtain ⟨x, at', c, vals, es, rfl, rfl, h0, ha, hl, hv, hQ⟩ := h
  refine rworth_in c _ (.set 1) ?_
  refine rworth_in c _ (.set 2) ?_
  refine loop_in ?_
  refine store_in x 1 c vals _ (Nat.le_trans hv (by decide)) ?_
  refine fval_in x 1 c _ _ (putK_get _ _ _) ?_
  refine past_in 1 2 ?_
  refine begin_in (nmS x) (at' + 1) (upE es) (by rw [upE_len]; exact Nat.lt_of_le_of_lt hl (by decide)) (found_none h0 es ha) ?_
  exact hQ
theorem ok505 (P : Params) : DefOk (fd505 P) 3 := ⟨fun s us _ h => by obtain ⟨a, b, c, rfl⟩ := len3 h; exact BindsTo.of_eq rfl, rfl⟩
theorem spec_dofor (w : World) (ns sc : List Int) : SpecI w ns sc 505 5 ct_dofor := spec_def (fd505 w.params) (ok505 _) (TOk.cons (spec_rworth w ns sc) (by decide) (by kernel_rfl!) (TOk.cons (spec_store w ns sc) (by decide) (by kernel_rfl!) (TOk.cons (spec_fval w ns sc) (by decide) (by kernel_rfl!) (TOk.cons (spec_past w ns sc) (by decide) (by kernel_rfl!) (TOk.cons (spec_begin w ns sc) (by decide) (by kernel_rfl!) TOk.nil))))) (by decide) (by intro as N0 K h; delta ct_dofor at h; obtain ⟨x, at', c, vals, es, rfl, _⟩ := h; rfl) (dofor_kept _)

noncomputable def fd498 (P : Params) : Fd P 498 := by
  refine' mkFd ?a ?b
  case a => k_is
  case b => k_is
noncomputable def fd484 (P : Params) : Fd P 484 := by
  refine' mkFd ?a ?b
  case a => k_is
  case b => k_is
/-- the store after a step of the run -/
inductive OutN (c : RB) (o : ON) (es : List EntN) : List O → Prop where
  | same : OutN c o es (runB c o.2.2 (upE o.2.1))
  | new : OutN c o es (outL c o es 12 [])
@[irreducible] noncomputable def ct_doflow : Ct := fun args N Q => ∃ (r : RowN) (at' : Int) (c : RB) (vals : List (Nm × Int)) (es : List EntN) (o : ON), args = [.ref 0, .d (.int at'), .d (rowD r)] ∧ N = runB c vals (upE es) ∧ flowN c.pr at' r es vals = some o ∧ es.length ≤ 8 ∧ vals.length ≤ 16 ∧
  ∀ N', OutN c o es N' → Q (.d (.int o.1)) N'
theorem doflow_in (r : RowN) (at' : Int) (c : RB) (vals : List (Nm × Int)) (es : List EntN) (o : ON) {d : D} {Q : V → List O → Prop} (e : rowD r = d) (hf : flowN c.pr at' r es vals = some o) (hl : es.length ≤ 8) (hv : vals.length ≤ 16) (k : ∀ N', OutN c o es N' → Q (.d (.int o.1)) N') : ct_doflow [.ref 0, .d (.int at'), .d d] (runB c vals (upE es)) Q := by subst e; delta ct_doflow; exact ⟨r, at', c, vals, es, o, rfl, rfl, hf, hl, hv, k⟩
theorem all_now {q : Int} : ∀ {es : List EntN}, es.all (fun e => e ≠ .whil q) = true → NoW q (upE es)
  | [], _ => fun _ h => nomatch h
  | e :: r, h => fun e' h' => by
    rw [List.all_cons, Bool.and_eq_true] at h
    rcases List.mem_cons.mp h' with rfl | h'
    · cases e with
      | for_ x p => rfl
      | whil p =>
        have : EntN.whil p ≠ .whil q := of_decide_eq_true h.1
        show (p == q && true) = false
        rw [Bool.and_true]
        exact beq_eq_false_iff_ne.mpr fun e => this (e ▸ rfl)
    · exact all_now h.2 e' h'
theorem now_cons {q : Int} {e : EntN} {r : List Ent} (h : e ≠ .whil q) (hr : NoW q r) : NoW q (e.up :: r) := fun e' h' => by
  rcases List.mem_cons.mp h' with rfl | h'
  · cases e with
    | for_ x p => rfl
    | whil p =>
      show (p == q && true) = false
      rw [Bool.and_true]
      exact beq_eq_false_iff_ne.mpr fun e => h (e ▸ rfl)
  · exact hr e' h'
/-- WHILE: the test holds, and the loop is new or stands on top; or it does not, and the loop on top ends -/
theorem whil_at {pr : List (Int × D)} {at' : Int} {x : Nm} {es : List EntN} {vals : List (Nm × Int)} {o : ON} (h : flowN pr at' (.whil x) es vals = some o) : ∃ v, vals.lookup x = some v ∧
    ((0 < v ∧ ((NoW at' (upE es) ∧ o = (at' + 1, .whil at' :: es, vals)) ∨ (∃ r, es = .whil at' :: r ∧ NoW at' (upE r) ∧ o = (at' + 1, es, vals)))) ∨
     (v = 0 ∧ ∃ r q, es = .whil at' :: r ∧ NoW at' (upE r) ∧ pr.lookup at' = some (.int q) ∧ o = (q + 1, r, vals))) := by
  dsimp only [flowN] at h
  split at h
  · cases h
  · rename_i v hv
    refine ⟨v, hv, ?_⟩
    split at h
    · rename_i h0
      refine .inl ⟨h0, ?_⟩
      split at h
      · cases h; exact .inl ⟨(fun e q => nomatch q), rfl⟩
      · rename_i e r
        split at h
        · rename_i ha
          split at h
          · rename_i he
            cases h; subst he
            exact .inr ⟨r, rfl, all_now ha, rfl⟩
          · rename_i he
            cases h
            exact .inl ⟨now_cons he (all_now ha), rfl⟩
        · cases h
    · split at h
      · rename_i h0
        refine .inr ⟨h0, ?_⟩
        split at h
        · cases h
        · rename_i e r
          split at h
          · rename_i ha
            split at h
            · rename_i he
              split at h
              · rename_i q hq
                cases h; subst he
                exact ⟨r, q, rfl, all_now ha, hq, rfl⟩
              · cases h
            · cases h
          · cases h
      · cases h
theorem wend_at {pr : List (Int × D)} {at' : Int} {es : List EntN} {vals : List (Nm × Int)} {o : ON} (h : flowN pr at' .wend es vals = some o) : ∃ q r, es = .whil q :: r ∧ pr.lookup at' = some (.int q) ∧ o = (q, es, vals) := by
  dsimp only [flowN] at h
  split at h
  · rename_i q r
    split at h
    · rename_i hi
      cases h
      exact ⟨q, r, rfl, isI_eq hi, rfl⟩
    · cases h
  · cases h
theorem for_at {pr : List (Int × D)} {at' : Int} {x : Nm} {es : List EntN} {vals : List (Nm × Int)} {o : ON} (h : flowN pr at' (.for_ x) es vals = some o) : x ≠ 0 ∧ es.all (fun e => e.is x == false) = true ∧ o = (at' + 1, .for_ x (at' + 1) :: es, putK vals x 1) := by
  dsimp only [flowN] at h
  split at h
  · cases h
  · rename_i h0
    split at h
    · rename_i ha
      cases h
      exact ⟨h0, ha, rfl⟩
    · cases h
theorem up20 {es : List EntN} (h : es.length ≤ 8) : (upE es).length < 20 := by rw [upE_len]; exact Nat.lt_of_le_of_lt h (by decide)
theorem up20c {e : EntN} {es : List EntN} (h : (e :: es).length ≤ 8) : (upE es).length < 20 := up20 (Nat.le_of_succ_le h)
set_option smartUnfolding false in
theorem doloop_kept (P : Params) : Kept (fd498 P) [(505, ct_dofor), (512, ct_nextfrom), (328, ct_eow), (202, ct_wend), (533, ct_rworth), (100, ct_true), (189, ct_wb), (194, ct_we)] ct_doflow := by
  intro args N Q h
  delta ct_doflow at h
  obtain ⟨r, at', c, vals, es, o, rfl, rfl, hf, hl, hv, hQ⟩ := h
  cases r with
  | set x => cases hf
  | less x => cases hf
  | for_ x =>
    obtain ⟨h0, ha, rfl⟩ := for_at hf
    refine dofor_in x at' c vals es h0 ha hl hv ?_
    exact hQ _ .same
  | next1 x =>
    refine nextfrom_in [x] at' c vals es o hf hl hv (.inl ⟨x, rfl⟩) ?_
    exact hQ _ .new
  | next2 x y =>
    refine nextfrom_in [x, y] at' c vals es o hf hl hv (.inr ⟨x, y, rfl⟩) ?_
    exact hQ _ .new
  | next0 =>
    refine nextfrom0_in at' c vals es o hf hl hv ?_
    exact hQ _ .new
  | wend =>
    obtain ⟨q, r, rfl, hp, rfl⟩ := wend_at hf
    refine eow_in c.b c.pr c.lp at' q hp ?_
    refine wend_in q (upE r) (Nat.le_of_lt (up20 hl)) ((foundW_yes (by rw [beq_self_eq_true]; rfl)).trans (len_up _ _)) ?_
    exact hQ _ .new
  | whil x =>
    obtain ⟨v, hvx, h⟩ := whil_at hf
    refine rworth_in c _ (.some x v hvx) ?_
    refine true_in _ ?_
    rcases h with ⟨h0, h⟩ | ⟨h0, r, q, rfl, hn, hp, rfl⟩
    · rw [show decide (0 < v) = true from decide_eq_true h0]
      rcases h with ⟨hn, rfl⟩ | ⟨r, rfl, hn, rfl⟩
      · refine wb0_in at' (upE es) (up20 hl) hn ?_
        exact hQ _ .same
      · refine wb1_in at' (upE r) (up20 hl) hn ?_
        exact hQ _ .new
    · rw [show decide (0 < v) = false from decide_eq_false (by rw [h0]; decide)]
      refine we_in at' (upE r) (up20c hl) hn ?_
      refine eow_in c.b c.pr c.lp at' q hp ?_
      exact hQ _ .new
noncomputable def jumpsL : List D := [sD "IFNOT", sD "JUMP", sD "GOTO", sD "GOSUB", sD "ONGO", sD "RETURN"]
theorem rowD_jump (r : RowN) : ∃ w rest, rowD r = .tup (.str w :: rest) ∧ inD (.str w) jumpsL = some false := by cases r <;> exact ⟨_, _, rfl, rfl⟩
set_option smartUnfolding false in
theorem doflow_kept (P : Params) : Kept (fd484 P) [(498, ct_doflow)] ct_doflow := by
  intro args N Q h
  delta ct_doflow at h
  obtain ⟨r, at', c, vals, es, o, rfl, rfl, hf, hl, hv, hQ⟩ := h
  obtain ⟨w, rest, e, hw⟩ := rowD_jump r
  rw [e]
  refine opt_in false hw ?_
  refine doflow_in r at' c vals es o e hf hl hv fun N' hN => ?_
  cases hN
  · exact hQ _ .same
  · exact hQ _ .new
theorem ok498 (P : Params) : DefOk (fd498 P) 3 := ⟨fun s us _ h => by obtain ⟨a, b, c, rfl⟩ := len3 h; exact BindsTo.of_eq rfl, rfl⟩
theorem ok484 (P : Params) : DefOk (fd484 P) 3 := ⟨fun s us _ h => by obtain ⟨a, b, c, rfl⟩ := len3 h; exact BindsTo.of_eq rfl, rfl⟩
theorem spec_doloop (w : World) (ns sc : List Int) : SpecI w ns sc 498 9 ct_doflow := spec_def (fd498 w.params) (ok498 _) (TOk.cons (spec_dofor w ns sc) (by decide) (by kernel_rfl!) (TOk.cons (spec_nextfrom w ns sc) (by decide) (by kernel_rfl!) (TOk.cons (spec_eow w ns sc) (by decide) (by kernel_rfl!) (TOk.cons (spec_wend w ns sc) (by decide) (by kernel_rfl!) (TOk.cons (spec_rworth w ns sc) (by decide) (by kernel_rfl!) (TOk.cons (spec_true w ns sc) (by decide) (by kernel_rfl!) (TOk.cons (spec_wb w ns sc) (by decide) (by kernel_rfl!) (TOk.cons (spec_we w ns sc) (by decide) (by kernel_rfl!) TOk.nil)))))))) (by decide) (by intro as N0 K h; delta ct_doflow at h; obtain ⟨r, at', c, vals, es, o, rfl, _⟩ := h; rfl) (doloop_kept _)
theorem spec_doflow (w : World) (ns sc : List Int) : SpecI w ns sc 484 10 ct_doflow := spec_def (fd484 w.params) (ok484 _) (TOk.cons (spec_doloop w ns sc) (by decide) (by kernel_rfl!) TOk.nil) (by decide) (by intro as N0 K h; delta ct_doflow at h; obtain ⟨r, at', c, vals, es, o, rfl, _⟩ := h; rfl) (doflow_kept _)

noncomputable def fd596 (P : Params) : Fd P 596 := by
  refine' mkFd ?a ?b
  case a => k_is
  case b => k_is
noncomputable def fd603 (P : Params) : Fd P 603 := by
  refine' mkFd ?a ?b
  case a => k_is
  case b => k_is
@[irreducible] noncomputable def ct_draw : Ct := fun args N Q => ∃ (spot : Nat) (below : Int), args = [.ref 0, .d (.int below)] ∧ N = [.bag spot] ∧ spot ≤ 1000 ∧ 2 ≤ below ∧ below ≤ 3 ∧ ∀ k : Int, 0 ≤ k → k < below → Q (.d (.int k)) [.bag (spot + 1)]
theorem draw_in (spot : Nat) (below : Int) {Q : V → List O → Prop} (hs : spot ≤ 1000) (h2 : 2 ≤ below) (h3 : below ≤ 3) (k : ∀ k : Int, 0 ≤ k → k < below → Q (.d (.int k)) [.bag (spot + 1)]) : ct_draw [.ref 0, .d (.int below)] [.bag spot] Q := by delta ct_draw; exact ⟨spot, below, rfl, rfl, hs, h2, h3, k⟩
theorem rowsD_app : ∀ a b : List RowN, rowsD (a ++ b) = rowsD a ++ rowsD b
  | [], _ => rfl
  | x :: r, b => congrArg (rowD x :: ·) (rowsD_app r b)
theorem pqr : ∀ d : Nat, d < 3 → Txt.item (Str.ofString "PQR") (d : Int) = nmS (cW d)
  | 0, _ => by decide +kernel
  | 1, _ => by decide +kernel
  | 2, _ => by decide +kernel
theorem ijk : ∀ d : Nat, d < 3 → Txt.item (Str.ofString "IJK") (d : Int) = nmS (cF d)
  | 0, _ => by decide +kernel
  | 1, _ => by decide +kernel
  | 2, _ => by decide +kernel
@[irreducible] noncomputable def ct_open : Ct := fun args N Q => ∃ (spot d : Nat) (rows : List RowN), args = [.ref 0, .ref 1, .d (.int d)] ∧ N = [.bag spot, .list (rowsD rows)] ∧ spot ≤ 1000 ∧ rows.length ≤ 900 ∧ d < 3 ∧
  Q (.tup [.d (.int (rows.length + 1 : Nat)), .d (.str (nmS 0))]) [.bag (spot + 1), .list (rowsD (rows ++ [.set (cW d), .whil (cW d), .less (cW d)]))] ∧
  Q (.tup [.d (.int rows.length), .d (.str (nmS (cF d)))]) [.bag (spot + 1), .list (rowsD (rows ++ [.for_ (cF d)]))]
theorem open_in (spot d : Nat) (rows : List RowN) {Q : V → List O → Prop} (hs : spot ≤ 1000) (hr : rows.length ≤ 900) (hd : d < 3)
    (k1 : Q (.tup [.d (.int (rows.length + 1 : Nat)), .d (.str (nmS 0))]) [.bag (spot + 1), .list (rowsD (rows ++ [.set (cW d), .whil (cW d), .less (cW d)]))]) (k2 : Q (.tup [.d (.int rows.length), .d (.str (nmS (cF d)))]) [.bag (spot + 1), .list (rowsD (rows ++ [.for_ (cF d)]))]) : ct_open [.ref 0, .ref 1, .d (.int d)] [.bag spot, .list (rowsD rows)] Q := by delta ct_open; exact ⟨spot, d, rows, rfl, rfl, hs, hr, hd, k1, k2⟩
theorem open_kept (P : Params) : Kept (fd596 P) [(582, ct_draw)] ct_open := by
  intro args N Q h
  delta ct_open at h
  obtain ⟨spot, d, rows, rfl, rfl, hs, hr, hd, hQ1, hQ2⟩ := h
  have hd3 : (Nat.blt d 3 && Nat.ble d 1000) = true := Bool.and_eq_true_iff.mpr ⟨Nat.ble_eq_true_of_le hd, ble_of (Nat.le_trans (Nat.le_of_lt hd) (by decide))⟩
  rw [rowsD_app] at hQ1 hQ2
  refine draw_in spot 3 hs (by decide) (by decide) fun k h0 h1 => ?_
  refine br_in ?_ ?_
  · intro _
    refine ok_in hd3 ?_
    rw [pqr d hd]
    refine ok_in (Bool.and_eq_true_iff.mpr ⟨ble_of (by rw [rowsD_len]; exact Nat.le_trans (Nat.add_le_add_right hr 3) (by decide)), rfl⟩) ?_
    refine ok_in (ble_of (by rw [List.length_append, rowsD_len]; exact Nat.le_trans (Nat.add_le_add_right hr 3) (by decide))) ?_
    rw [show ((rows.length + 1 : Nat) : Int) = ((rowsD rows ++ rowsD [.set (cW d), .whil (cW d), .less (cW d)]).length : Int) - 2 by rw [List.length_append, rowsD_len]; show _ = ((rows.length + 3 : Nat) : Int) - 2; omega] at hQ1
    exact hQ1
  · intro _
    refine ok_in hd3 ?_
    rw [ijk d hd]
    refine ok_in (ble_of (by rw [rowsD_len]; exact Nat.le_trans hr (by decide))) ?_
    refine ok_in (ble_of (by rw [List.length_append, rowsD_len]; exact Nat.le_trans (Nat.add_le_add_right hr 1) (by decide))) ?_
    refine ok_in hd3 ?_
    rw [ijk d hd]
    rw [show ((rows.length : Nat) : Int) = ((rowsD rows ++ rowsD [.for_ (cF d)]).length : Int) - 1 by rw [List.length_append, rowsD_len]; show _ = ((rows.length + 1 : Nat) : Int) - 1; omega] at hQ2
    exact hQ2
theorem ok596 (P : Params) : DefOk (fd596 P) 3 := ⟨fun s us _ h => by obtain ⟨a, b, c, rfl⟩ := len3 h; exact BindsTo.of_eq rfl, rfl⟩

noncomputable def stkN : List (Int × Nm) → List D
  | [] => []
  | e :: r => stkN r ++ [.tup [.int e.1, .str (nmS e.2)]]
theorem stkN_len : ∀ l, (stkN l).length = l.length
  | [] => rfl
  | _ :: r => by rw [stkN, List.length_append, stkN_len r]; rfl
theorem stkN_ble {l : List (Int × Nm)} (h : l.length ≤ 900) : Nat.ble (stkN l).length 1000 = true := ble_of (by rw [stkN_len]; exact Nat.le_trans h (by decide))
noncomputable def bN (spot : Nat) (b : BN) : List O := [.bag spot, .list (rowsD b.rows), .list (stkN b.st), .dictI b.due]
theorem nm_0 {n : Nm} (h : (nmS n == Str.ofString "") = true) : n = 0 := eq_of_beq ((nmS_beq n 0).symm.trans h)
theorem nm_1 {n : Nm} (h : (nmS n == Str.ofString "") = false) : n ≠ 0 := fun e => by subst e; cases h
section
variable {many : Nat} {rows : List RowN} {e e' : Int × Nm} {st : List (Int × Nm)} {due : List (Int × D)}
theorem mem_wend (h : e.2 = 0) : (⟨many, rows ++ [.wend], st, putK due e.1 (.int (rows.length : Int))⟩ : BN) ∈ closeN many rows e st due := by
  unfold closeN; rw [if_pos h]; exact .head _
theorem mem_next0 (h : e.2 ≠ 0) : (⟨many, rows ++ [.next0], st, putK due e.1 (.int (rows.length : Int))⟩ : BN) ∈ closeN many rows e st due := by
  unfold closeN; rw [if_neg h]; exact .head _
theorem mem_next1 (h : e.2 ≠ 0) : (⟨many, rows ++ [.next1 e.2], st, putK due e.1 (.int (rows.length : Int))⟩ : BN) ∈ closeN many rows e st due := by
  unfold closeN; rw [if_neg h]; exact .tail _ (.head _)
theorem mem_next2 (h : e.2 ≠ 0) (h' : e'.2 ≠ 0) : (⟨many, rows ++ [.next2 e.2 e'.2], st, putK (putK due e.1 (.int (rows.length : Int))) e'.1 (.int (rows.length : Int))⟩ : BN) ∈ closeN many rows e (e' :: st) due := by
  unfold closeN; rw [if_neg h]; exact .tail _ (.tail _ (by dsimp only; rw [if_neg h']; exact .head _))
end
theorem two_of {k : Int} (h0 : 0 ≤ k) (h1 : k < 2) : k = 0 ∨ k = 1 := by omega
@[irreducible] noncomputable def ct_close : Ct := fun args N Q => ∃ (spot many : Nat) (rows : List RowN) (e : Int × Nm) (st : List (Int × Nm)) (due : List (Int × D)), args = [.ref 0, .ref 1, .ref 2, .ref 3] ∧ N = [.bag spot, .list (rowsD rows), .list (stkN (e :: st)), .dictI due] ∧ spot ≤ 900 ∧ rows.length ≤ 900 ∧ st.length ≤ 800 ∧ due.length ≤ 900 ∧
  ∀ b ∈ closeN many rows e st due, ∀ s', s' ≤ spot + 2 → Q (.d .none) (bN s' b)
theorem close_in (spot many : Nat) (rows : List RowN) (e : Int × Nm) (st : List (Int × Nm)) (due : List (Int × D)) {Q : V → List O → Prop} (hs : spot ≤ 900) (hr : rows.length ≤ 900) (ht : st.length ≤ 800) (hd : due.length ≤ 900) (k : ∀ b ∈ closeN many rows e st due, ∀ s', s' ≤ spot + 2 → Q (.d .none) (bN s' b)) : ct_close [.ref 0, .ref 1, .ref 2, .ref 3] [.bag spot, .list (rowsD rows), .list (stkN (e :: st)), .dictI due] Q := by delta ct_close; exact ⟨spot, many, rows, e, st, due, rfl, rfl, hs, hr, ht, hd, k⟩
theorem close_kept (P : Params) : Kept (fd603 P) [(582, ct_draw)] ct_close := by
  intro args N Q h
  delta ct_close at h
  obtain ⟨spot, many, rows, e, st, due, rfl, rfl, hs, hr, hst, hd, hQ⟩ := h
  have br : Nat.ble (rowsD rows).length 1000 = true := ble_of (by rw [rowsD_len]; exact Nat.le_trans hr (by decide))
  have hQ' : ∀ b ∈ closeN many rows e st due, ∀ s', s' ≤ spot + 2 → Q (.d .none) [.bag s', .list (rowsD b.rows), .list (stkN b.st), .dictI b.due] := hQ
  have hlen : ((rowsD rows).length : Int) = (rows.length : Int) := congrArg _ (rowsD_len rows)
  refine ok_in (stkN_ble (Nat.le_trans (Nat.succ_le_succ hst) (by decide))) ?_
  refine opt_in _ (unsnoc_snoc (stkN st) _) ?_
  refine ok_in br ?_
  rw [hlen]
  refine ok_in (ble_lt hd (by decide)) ?_
  refine br_in ?_ ?_
  · intro h0
    refine ok_in br ?_
    have q := hQ' _ (mem_wend (nm_0 h0)) spot (Nat.le_add_right _ _)
    rw [rowsD_app] at q
    exact q
  intro h0
  have q0 := hQ' _ (mem_next0 (nm_1 h0))
  have q1 := hQ' _ (mem_next1 (nm_1 h0))
  rw [rowsD_app] at q0 q1
  cases st with
  | nil =>
    refine draw_in (spot) 2 (Nat.le_trans hs (by decide)) (by decide) (by decide) fun k k0 k1 => ?_
    rcases two_of k0 k1 with rfl | rfl
    · refine ok_in br ?_
      exact q0 _ (Nat.le_succ _)
    · refine ok_in br ?_
      exact q1 _ (Nat.le_succ _)
  | cons e' st =>
    refine br_t (by rw [stkN, empty_snoc]; rfl) ?_
    refine opt_in _ (item_last (stkN st) _) ?_
    refine br_in ?_ ?_
    · intro h1
      have h1 : e'.2 ≠ 0 := nm_1 (by simpa using h1)
      refine draw_in (spot) 3 (Nat.le_trans hs (by decide)) (by decide) (by decide) fun k k0 k1 => ?_
      refine br_in ?_ ?_
      · intro _
        have q := hQ' _ (mem_next2 (nm_1 h0) h1) (spot + 1) (Nat.le_succ _)
        rw [rowsD_app] at q
        refine ok_in br ?_
        rw [hlen]
        refine opt_in _ (item_last (stkN st) _) ?_
        refine ok_in (putK_ble hd (by decide)) ?_
        refine ok_in (stkN_ble (Nat.le_trans hst (by decide))) ?_
        refine opt_in _ (unsnoc_snoc (stkN st) _) ?_
        refine ok_in br ?_
        exact q
      · intro _
        refine draw_in (spot + 1) 2 (Nat.le_trans (Nat.succ_le_succ hs) (by decide)) (by decide) (by decide) fun k k0 k1 => ?_
        rcases two_of k0 k1 with rfl | rfl
        · refine ok_in br ?_
          exact q0 _ (Nat.le_refl _)
        · refine ok_in br ?_
          exact q1 _ (Nat.le_refl _)
    · intro _
      refine draw_in (spot) 2 (Nat.le_trans hs (by decide)) (by decide) (by decide) fun k k0 k1 => ?_
      rcases two_of k0 k1 with rfl | rfl
      · refine ok_in br ?_
        exact q0 _ (Nat.le_succ _)
      · refine ok_in br ?_
        exact q1 _ (Nat.le_succ _)
theorem ok603 (P : Params) : DefOk (fd603 P) 4 := ⟨fun s us _ h => by obtain ⟨a, b, c, d, rfl⟩ := len4 h; exact BindsTo.of_eq rfl, rfl⟩

noncomputable def fd610 (P : Params) : Fd P 610 := by
  refine' mkFd ?a ?b
  case a => k_is
  case b => k_is
structure BB (b : BN) (k : Nat) : Prop where
  rows : b.rows.length ≤ 3 * k
  st : b.st.length ≤ k
  due : b.due.length ≤ 2 * k
theorem BB.up {b : BN} {k : Nat} (B : BB b k) : BB b (k + 1) := ⟨Nat.le_trans B.rows (by omega), Nat.le_succ_of_le B.st, Nat.le_trans B.due (by omega)⟩
theorem BB.open_ {b b' : BN} {k : Nat} (B : BB b k) (h : b' ∈ openN b) : BB b' (k + 1) := by
  have h1 := B.rows
  rcases List.mem_cons.mp h with rfl | h
  · exact ⟨by show (b.rows ++ _).length ≤ _; rw [List.length_append]; show b.rows.length + 3 ≤ _; omega, Nat.succ_le_succ B.st, B.up.due⟩
  · rcases List.mem_cons.mp h with rfl | h
    · exact ⟨by show (b.rows ++ _).length ≤ _; rw [List.length_append]; show b.rows.length + 1 ≤ _; omega, Nat.succ_le_succ B.st, B.up.due⟩
    · cases h
theorem BB.close {many : Nat} {rows : List RowN} {e : Int × Nm} {st : List (Int × Nm)} {due : List (Int × D)} {b' : BN} {k : Nat} (B : BB ⟨many, rows, e :: st, due⟩ k) (h : b' ∈ closeN many rows e st due) : BB b' (k + 1) := by
  have h1 : rows.length ≤ 3 * k := B.rows
  have h2 : st.length + 1 ≤ k := B.st
  have h3 : due.length ≤ 2 * k := B.due
  have one : ∀ r : RowN, (rows ++ [r]).length ≤ 3 * (k + 1) := fun r => by rw [List.length_append]; show rows.length + 1 ≤ _; omega
  have du : ∀ (i : Int) (d : D), (putK due i d).length ≤ 2 * k + 1 := fun i d => putK_up h3
  have all : ∀ r : RowN, BB ⟨many, rows ++ [r], st, putK due e.1 (.int (rows.length : Int))⟩ (k + 1) := fun r => ⟨one r, by show st.length ≤ _; omega, Nat.le_trans (du _ _) (by omega)⟩
  unfold closeN at h
  split at h
  · rcases List.mem_cons.mp h with rfl | h
    · exact all _
    · cases h
  · rcases List.mem_cons.mp h with rfl | h
    · exact all _
    rcases List.mem_cons.mp h with rfl | h
    · exact all _
    have h : b' ∈ (match st with
      | [] => []
      | e' :: st' => if e'.2 = 0 then [] else [(⟨many, rows ++ [RowN.next2 e.2 e'.2], st', putK (putK due e.1 (D.int (rows.length : Int))) e'.1 (D.int (rows.length : Int))⟩ : BN)]) := h
    cases st with
    | nil => cases h
    | cons e' st' =>
      dsimp only at h
      split at h
      · cases h
      · rcases List.mem_cons.mp h with rfl | h
        · exact ⟨one _, by rw [List.length_cons] at h2; show st'.length ≤ _; omega, Nat.le_trans (putK_up (du _ _)) (by omega)⟩
        · cases h
theorem closeN_many {many : Nat} {rows : List RowN} {e : Int × Nm} {st : List (Int × Nm)} {due : List (Int × D)} {b' : BN} (h : b' ∈ closeN many rows e st due) : many = b'.many := by
  unfold closeN at h
  split at h
  · rcases List.mem_cons.mp h with rfl | h
    · rfl
    · cases h
  · rcases List.mem_cons.mp h with rfl | h
    · rfl
    rcases List.mem_cons.mp h with rfl | h
    · rfl
    split at h
    · cases h
    · split at h
      · cases h
      · rcases List.mem_cons.mp h with rfl | h
        · rfl
        · cases h
noncomputable def brS (spot : Nat) (b : BN) : St := ⟨[(Str.ofString "bag", .ref 0), (Str.ofString "rows", .ref 1), (Str.ofString "pile", .ref 2), (Str.ofString "due", .ref 3), (Str.ofString "many", .d (.int b.many))], bN spot b⟩
@[irreducible] noncomputable def ct_rows : Ct := fun args N Q => args = [.ref 0] ∧ N = [.bag 0] ∧ allN okN 9 start = true ∧ ∀ b spot, okN b = true → Q (.tup [.ref 1, .ref 2]) [.bag spot, .list (rowsD b.rows), .dictI b.due]
theorem rows_in {Q : V → List O → Prop} (h9 : allN okN 9 start = true) (k : ∀ b spot, okN b = true → Q (.tup [.ref 1, .ref 2]) [.bag spot, .list (rowsD b.rows), .dictI b.due]) : ct_rows [.ref 0] [.bag 0] Q := by delta ct_rows; exact ⟨rfl, rfl, h9, k⟩
theorem okN_st {b : BN} (h : okN b = true) : b.st = [] := by
  unfold okN at h
  rw [Bool.and_eq_true] at h
  exact List.isEmpty_iff.mp h.1
theorem rows_kept (P : Params) : Kept (fd610 P) [(596, ct_open), (603, ct_close), (582, ct_draw)] ct_rows := by
  intro args N Q h
  delta ct_rows at h
  obtain ⟨rfl, rfl, h9, hQ⟩ := h
  refine' for_in (p := 1) (k := 5) (n := 4) (l' := rangeL 0 1 9) ?e ?_
  case e => rfl
  refine' for_inv (fun rem s => ∃ b spot k, s = brS spot b ∧ allN okN rem.length b = true ∧ spot ≤ 3 * k ∧ BB b k ∧ k + rem.length = 9) ?t ?d _ _ (brS 0 start) ⟨fun K h => h⟩ ⟨start, 0, 0, rfl, h9, Nat.le_refl _, ⟨Nat.le_refl _, Nat.le_refl _, Nat.le_refl _⟩, rfl⟩
  case t =>
    rintro x r s ⟨b, spot, k, rfl, ha, hs, B, hk⟩ K' hN hR
    have ha' : ∀ b' ∈ turnN b, allN okN r.length b' = true := List.all_eq_true.mp ha
    rw [List.length_cons] at hk
    have go : ∀ b' spot' s', Can 1 5 4 s' (brS spot' b') → b' ∈ turnN b → spot' ≤ spot + 3 → BB b' (k + 1) → K' .next s' := fun b' spot' s' c m h B' => hN _ _ _ rfl c ⟨b', spot', k + 1, rfl, ha' _ m, by omega, B', by omega⟩
    have hs9 : spot ≤ 800 := by omega
    obtain ⟨many, rows, st, due⟩ := b
    have hr : rows.length ≤ 900 := Nat.le_trans B.rows (by omega)
    have hst : st.length ≤ 800 := Nat.le_trans B.st (by omega)
    have hst' : st.length ≤ 900 := Nat.le_trans hst (by decide)
    have hd : due.length ≤ 900 := Nat.le_trans B.due (by omega)
    have hlen : ((stkN st).length : Int) = (st.length : Int) := congrArg _ (stkN_len st)
    refine br_in ?_ ?_
    · intro hm
      have hm4 : many < 4 := Int.ofNat_lt.mp (of_decide_eq_true hm : (many : Int) < ((4 : Nat) : Int))
      cases st with
      | nil =>
        have hT : ∀ b' ∈ openN ⟨many, rows, [], due⟩, b' ∈ turnN ⟨many, rows, [], due⟩ := fun b' h => by unfold turnN; rw [if_pos hm4]; exact h
        refine open_in spot 0 rows (Nat.le_trans hs9 (by decide)) hr (by decide) ?_ ?_
        · exact go (openW ⟨many, rows, [], due⟩) (spot + 1) _ ⟨fun K h => h⟩ (hT _ (.head _)) (by omega) (B.open_ (.head _))
        · exact go (openF ⟨many, rows, [], due⟩) (spot + 1) _ ⟨fun K h => h⟩ (hT _ (.tail _ (.head _))) (by omega) (B.open_ (.tail _ (.head _)))
      | cons e st =>
        refine br_f (by rw [stkN, empty_snoc]) ?_
        refine ok_in (stkN_ble hst') ?_
        rw [hlen]
        refine br_in ?_ ?_
        · intro h3
          have h33 : (e :: st).length < 3 := Int.ofNat_lt.mp (of_decide_eq_true h3)
          have hT : ∀ b' ∈ openN ⟨many, rows, e :: st, due⟩ ++ closeN many rows e st due, b' ∈ turnN ⟨many, rows, e :: st, due⟩ := fun b' h => by unfold turnN; rw [if_pos hm4]; show b' ∈ if (e :: st).length < 3 then _ else _; rw [if_pos h33]; exact h
          refine draw_in spot 2 (Nat.le_trans hs9 (by decide)) (by decide) (by decide) fun q q0 q1 => ?_
          refine br_in ?_ ?_
          · intro _
            refine ok_in (stkN_ble hst') ?_
            rw [hlen]
            refine open_in (spot + 1) (e :: st).length rows (Nat.le_trans (Nat.succ_le_succ hs9) (by decide)) hr h33 ?_ ?_
            · refine ok_in (stkN_ble hst') ?_
              exact go (openW ⟨many, rows, e :: st, due⟩) (spot + 2) _ ⟨fun K h => h⟩ (hT _ (List.mem_append_left _ (.head _))) (by omega) (B.open_ (.head _))
            · refine ok_in (stkN_ble hst') ?_
              exact go (openF ⟨many, rows, e :: st, due⟩) (spot + 2) _ ⟨fun K h => h⟩ (hT _ (List.mem_append_left _ (.tail _ (.head _)))) (by omega) (B.open_ (.tail _ (.head _)))
          · intro _
            refine br_t (by rw [stkN, empty_snoc]; rfl) ?_
            refine close_in (spot + 1) many rows e st due (Nat.le_trans (Nat.succ_le_succ hs9) (by decide)) hr (Nat.le_of_succ_le hst) hd fun b' hb s' hs' => ?_
            have hmm := closeN_many hb
            subst hmm
            exact go b' s' _ ⟨fun K h => h⟩ (hT _ (List.mem_append_right _ hb)) hs' (B.close hb)
        · intro h3
          have h33 : ¬ (e :: st).length < 3 := fun q => of_decide_eq_false h3 (Int.ofNat_lt.mpr q)
          refine br_t (by rw [stkN, empty_snoc]; rfl) ?_
          refine close_in (spot) many rows e st due (Nat.le_trans hs9 (by decide)) hr (Nat.le_of_succ_le hst) hd fun b' hb s' hs' => ?_
          have hmm := closeN_many hb
          subst hmm
          exact go b' s' _ ⟨fun K h => h⟩ (by unfold turnN; rw [if_pos hm4]; show b' ∈ if (e :: st).length < 3 then _ else _; rw [if_neg h33]; exact hb) (by omega) (B.close hb)
    · intro hm
      have hm4 : ¬ many < 4 := fun q => (of_decide_eq_false hm : ¬ (many : Int) < ((4 : Nat) : Int)) (Int.ofNat_lt.mpr q)
      cases st with
      | nil => exact go ⟨many, rows, [], due⟩ spot _ ⟨fun K h => h⟩ (by unfold turnN; rw [if_neg hm4]; exact .head _) (by omega) B.up
      | cons e st =>
        refine br_t (by rw [stkN, empty_snoc]; rfl) ?_
        refine close_in (spot) many rows e st due (Nat.le_trans hs9 (by decide)) hr (Nat.le_of_succ_le hst) hd fun b' hb s' hs' => ?_
        have hmm := closeN_many hb
        subst hmm
        exact go b' s' _ ⟨fun K h => h⟩ (by unfold turnN; rw [if_neg hm4]; exact hb) (by omega) (B.close hb)
  case d =>
    rintro s ⟨b, spot, k, rfl, ha, _, _, _⟩
    have q := hQ b spot ha
    have e := okN_st ha
    obtain ⟨many, rows, st, due⟩ := b
    obtain rfl : st = [] := e
    exact q
theorem ok610 (P : Params) : DefOk (fd610 P) 1 := ⟨fun s us _ h => by obtain ⟨a, rfl⟩ := len1 h; exact BindsTo.of_eq rfl, rfl⟩

theorem code_intro {w : World} {f : Addr} {vs : List Value} {bag : Nat} {o0 : Obj} {PC : (Heap → Value → Obj → Prop) → Prop} (mono : ∀ C C', (∀ h' v o', C h' v o' → C' h' v o') → PC C → PC C')
    {name qual : Str} {params : Arguments} {body : List Stmt} {scope : Scope} {dV kV doc pm cdv ct oc : Value} {an od : Option Addr} {osl : Array (Option Value)} (binds : List (Str × Value))
    (ho : (hd.heap_39 w.params).lookup f = some ⟨oc, od, .func (fnOf name qual params body scope dV kV doc pm an cdv ct), osl⟩) (hcd : codeIn (hd.heap_39 w.params) cdv qual = true)
    (hbind : ∀ s, BindsTo s (fnOf name qual params body scope dV kV doc pm an cdv ct) ⟨vs, []⟩ binds) (hloc : ∀ y ∈ binds, scope.names.lookup y.1 = some .local)
    (hco : scope.isCoroutine = false) (hgen : scope.isGenerator = false) (hk : scope.kind = .function) (hcell : ∀ x ∈ scope.names, x.2 ≠ .cell)
    {mean : ExcName → Option Value} {mg mb : Str → Option Value} {dp un : Nat} {gd : Option (List Code)} {env : Env} {outer : List Env} {A₀ : Around} {base h₀ : Heap} {L₀ : Addr} {m : Str → Option Value} {s : Shared} {Q E : Value → Shared → Prop}
    (B : Below A₀ base outer h₀) (F : Fr h₀ L₀ s.heap m) (X : (hd.heap_39 w.params).In h₀) (T : Top hd.view_39 LO mean mg mb h₀) (hf : env.frame = some L₀) (hke : env.scope.kind = .function) (N1 : News h₀ L₀ s.heap [(bag, o0)]) (hdp : dp < recursionLimit)
    (hret : PC fun h' v o' => ∀ tk', Fr h₀ L₀ h' m → Step [bag] s.heap h' → News h₀ L₀ h' [(bag, o')] → Q v { s with heap := h', toks := tk' })
    (h : ∀ g L h₁ tk (QQ : Flow → Shared → Prop), (PC fun h' v o' => ∀ fl m' tk', retV fl = v → Fr g L h' m' → News g L h' [(bag, o')] → QQ fl { s with heap := h', toks := tk' }) → Fr g L h₁ (fun y => binds.reverse.lookup y) → News g L h₁ [(bag, o0)] → Below (Ar dp un gd env outer) base (env :: outer) g → (hd.heap_39 w.params).In g → Top hd.view_39 LO mean mg mb g →
      Step [bag] s.heap g → L = s.heap.objs.size →
      wpAny (model PR w) (Ar (dp + 1) (un + 3) gd (envOf qual scope L f cdv) (env :: outer)) (execs body (envOf qual scope L f cdv))
        QQ (fun _ _ => False) { s with heap := h₁, toks := tk }) : codeAny (model PR w) (Ar dp un gd env outer) (.call (.ref f) ⟨vs, []⟩) (CallR Q E) s := by
  obtain ⟨FG, BG, st, lv⟩ := groundX (R := CallR Q E) (A := Ar dp un gd env outer) B F N1 rfl hf hke
  have hst : Step [bag] s.heap (hideAll s.heap [bag]) := fun b o e n => hideAll_get _ e n
  refine codeAny_call_def (fd := fnOf name qual params body scope dV kV doc pm an cdv ct) (body := body) (binds := binds) (by show dp < recursionLimit; exact hdp) ((X.keeps F.keep) _ _ ho) rfl (T.nolimit.keeps F.keep) (codeRec_of (X.keeps F.keep) hcd) rfl (hbind s) hcell hloc (fun h₁ hns hk₁ => ?_) hco hgen hk
  refine wpAny_mono (h _ s.heap.objs.size h₁ _ (fun fl s' => ∃ m' h' tk' o', s' = { s with heap := h', toks := tk' } ∧ Fr (hideAll s.heap [bag]) s.heap.objs.size h' m' ∧ News (hideAll s.heap [bag]) s.heap.objs.size h' [(bag, o')] ∧ ∀ tk', Fr h₀ L₀ h' m → Step [bag] s.heap h' → News h₀ L₀ h' [(bag, o')] → Q (retV fl) { s with heap := h', toks := tk' })
    (mono _ _ (fun h' v o' c fl m' tk' e F N => ⟨m', h', tk', o', rfl, F, N, e ▸ c⟩) hret) ⟨hns, fun b o e => hk₁ b o (of_hideAll _ e), Nat.le_of_eq (hideAll_size _ _)⟩
    (fun p hp => ⟨hk₁ _ _ (N1 p hp).1, Nat.ne_of_lt (Heap.lt_size (N1 p hp).1), hideAll_none _ (List.mem_map_of_mem (f := (·.1)) hp)⟩) BG (X.keeps st) (T.keeps st) hst rfl) (fun fl s' hl => ?_) fun _ _ y => y.elim
  obtain ⟨m', h', tk', o', rfl, F', N', hp⟩ := hl
  exact lv _ _ ⟨_, m', [(bag, o')], F', N', fun kF kN => hp tk' kF (fun b o e n => F'.keep b o (hst b o e n)) kN⟩
theorem fmod_lo {a b : Int} (h : 2 ≤ b) : 0 ≤ a.fmod b := Int.fmod_nonneg_of_pos _ (Int.lt_of_lt_of_le (by decide) h)
theorem fmod_hi {a b : Int} (h : 2 ≤ b) : a.fmod b < b := Int.fmod_lt_of_pos _ (Int.lt_of_lt_of_le (by decide) h)
theorem draw_code {w : World} {bag sl : Addr} {vs : List Value} {ns : List Int} {spot n : Nat} {tk : Tok} {below : Int} {tb : Tok} (hlen : ns.length ≤ 24) (hspot : spot ≤ 1000) (hb : 2 ≤ below) (hb' : below ≤ 3) (hi : IntsAre vs ns) (hne : sl ≠ bag)
    {mean : ExcName → Option Value} {mg mb : Str → Option Value} {dp un : Nat} {gd : Option (List Code)} {env : Env} {outer : List Env} {A₀ : Around} {base h₀ : Heap} {L₀ : Addr} {m : Str → Option Value} {s : Shared} {Q E : Value → Shared → Prop}
    (B : Below A₀ base outer h₀) (F : Fr h₀ L₀ s.heap m) (X : (hd.heap_39 w.params).In h₀) (T : Top hd.view_39 LO mean mg mb h₀) (hf : env.frame = some L₀) (hke : env.scope.kind = .function) (N1 : News h₀ L₀ s.heap [(bag, listOf #[.ref sl, .int spot tk] n)]) (hdp : dp + 2 < recursionLimit) (hu : un + 16 < cLine)
    (hpre : s.heap.IsList sl vs.toArray)
    (hret : ∀ (k : Int) t t' h', 0 ≤ k → k < below → ∀ tk', Fr h₀ L₀ h' m → Step [bag] s.heap h' → News h₀ L₀ h' [(bag, listOf #[.ref sl, .int ((spot + 1 : Nat) : Int) t'] n)] → Q (.int k t) { s with heap := h', toks := tk' }) :
    codeAny (model PR w) (Ar dp un gd env outer) (.call (.ref 582) ⟨[.ref bag, .int below tb], []⟩) (CallR Q E) s := by
  refine' code_intro (PC := fun C => ∀ (k : Int) t t' h', 0 ≤ k → k < below → C h' (.int k t) (listOf #[.ref sl, .int ((spot + 1 : Nat) : Int) t'] n)) (fun _ _ hC p k t t' h' a b => hC _ _ _ (p k t t' h' a b)) [(Str.ofString "bag", .ref bag), (Str.ofString "below", .int below tb)] ?k1 ?k2 ?k3 ?k4 ?k5 ?k6 ?k7 ?k8 B F X T hf hke N1 (by omega) hret ?_
  case k1 => k_is
  case k2 => k_is
  case k3 => exact fun _ => BindsTo.of_eq rfl
  case k4 => exact locs rfl
  case k5 => exact rfl
  case k6 => exact rfl
  case k7 => exact rfl
  case k8 => decide
  clear B F X T N1 hret Q E
  intro g L h₁ tk₁ QQ hQ F N B X T hst hL
  have hl : g.IsList sl vs.toArray := list_step hpre hst (by simpa using hne)
  clear hpre
  (try dsimp only)
  (try k_fold)
  k_steps
  · exact hQ _ _ _ _ (fmod_lo hb) (fmod_hi hb) (.ret _) _ _ rfl (by assumption) (by assumption)
  · exact hQ _ _ _ _ (fmod_lo hb) (fmod_hi hb) (.ret _) _ _ rfl (by assumption) (by assumption)
theorem spec_draw (w : World) (ns sc : List Int) : SpecI w ns sc 582 2 ct_draw := by
  intro fx Z hw hns hsc hD env W N0 h t N R ow ms as us K Q E r hH hR hv hct hQ
  subst hw hns hsc
  delta ct_draw at hct
  obtain ⟨spot, below, rfl, rfl, hs, h2, h3, hK⟩ := hct
  obtain ⟨_, _, rfl, ⟨bag, hb, rfl⟩, _, us', rfl, ⟨tb, rfl⟩, hu'⟩ := hv
  obtain rfl : us' = [] := hu'
  obtain ⟨sl, tk, n, how, hm, hcut⟩ := r.obj 0 _ bag rfl hb
  have hcut' := hcut
  obtain ⟨sl', o, vs, k, e, hkn, hc, hd', hi⟩ := hcut'
  cases e
  have hne : sl ≠ bag := fun e => by
    rcases hkn with q | q
    · have h1 := r.kbg _ _ q
      have h2 := (r.Ns _ hm).2.2
      dsimp only at h2
      rw [e, h2] at h1
      cases h1
    · have h1 := (r.sub _ q).2
      dsimp only at h1
      rw [e, how] at h1
      cases h1
  have hdp := Z.hd
  have hun := Z.hu
  refine draw_code (n := n) (tk := tk) (by rw [Z.cut, List.length_take]; exact Nat.min_le_left _ _) hs h2 h3 hi hne Z.B r.F Z.X Z.T Z.hf Z.hk (fun p hp => r.Ns p (by rw [List.mem_singleton.mp hp]; exact hm)) (by omega) (by omega) ⟨o, r.get hkn, hc, k, hd'⟩
    fun q t1 t2 h' q0 q1 tk' F' st N' => ?_
  have Ns' : News fx.g fx.L h' (rep N bag (listOf #[.ref sl, .int ((spot + 1 : Nat) : Int) t2] n)) := fun p hp => by
    rcases List.mem_cons.mp hp with rfl | hp
    · exact N' _ (.head _)
    · obtain ⟨hp, hne'⟩ := List.mem_filter.mp hp
      exact ⟨st _ _ (r.Ns p hp).1 (by simpa using hne'), (r.Ns p hp).2⟩
  have r' := r.put (i := 0) (b := bag) (o := .bag (spot + 1)) how F' Ns' fun a' ha' => by
    rw [hb] at ha'
    cases ha'
    exact ⟨sl, t2, n, how, .head _, hcut⟩
  exact hQ _ _ W _ h' tk' _ ow (hK q q0 q1) (Ext.refl W) ⟨t1, rfl⟩ r' (fun p hp => ⟨rep_mem (fun e => by have := (hR p hp).2; rw [e, how] at this; cases this) (hR p hp).1, (hR p hp).2⟩) fun p hp => .inl hp
theorem spec_open (w : World) (ns sc : List Int) : SpecI w ns sc 596 3 ct_open := spec_def (fd596 w.params) (ok596 _) (TOk.cons (spec_draw w ns sc) (by decide) (by kernel_rfl!) TOk.nil) (by decide) (by intro as N0 K h; delta ct_open at h; obtain ⟨spot, d, rows, rfl, _⟩ := h; rfl) (open_kept _)
theorem spec_close (w : World) (ns sc : List Int) : SpecI w ns sc 603 3 ct_close := spec_def (fd603 w.params) (ok603 _) (TOk.cons (spec_draw w ns sc) (by decide) (by kernel_rfl!) TOk.nil) (by decide) (by intro as N0 K h; delta ct_close at h; obtain ⟨spot, many, rows, e, st, due, rfl, _⟩ := h; rfl) (close_kept _)
theorem spec_rows (w : World) (ns sc : List Int) : SpecI w ns sc 610 4 ct_rows := spec_def (fd610 w.params) (ok610 _) (TOk.cons (spec_open w ns sc) (by decide) (by kernel_rfl!) (TOk.cons (spec_close w ns sc) (by decide) (by kernel_rfl!) (TOk.cons (spec_draw w ns sc) (by decide) (by kernel_rfl!) TOk.nil))) (by decide) (by intro as N0 K h; delta ct_rows at h; obtain ⟨rfl, _⟩ := h; rfl) (rows_kept _)

noncomputable def fd622 (P : Params) : Fd P 622 := by
  refine' mkFd ?a ?b
  case a => k_is
  case b => k_is
theorem comp_words {n : Nat} {tests : St → (Bool → St → Prop) → Prop} {elt : St → (V → St → Prop) → Prop} {x : Str} {m : List (Str × V)} {N : List O} {K : List D → List O → Prop}
    (ht : ∀ s K', K' true s → tests s K')
    (he : ∀ (r : RowN) (G : D → List O → Prop), G (wordD r) N → elt ⟨(x, .d (rowD r)) :: m, N⟩ fun y s => opt (toD s.N y) fun z => ok (Nat.ble n z.2.length && below n (refsN (z.2.take n))) (G z.1 (z.2.take n))) :
    ∀ (rs : List RowN) (ys : List D), K (ys ++ wordsD rs) N → compI n tests elt x m (rowsD rs) N ys K
  | [], ys, h => by
    rw [show wordsD [] = [] from rfl, List.append_nil] at h
    exact h
  | r :: rs, ys, h => by
    refine ht _ _ ?_
    refine he r (fun d N' => compI n tests elt x m (rowsD rs) N' (ys ++ [d]) K) ?_
    refine comp_words ht he rs (ys ++ [wordD r]) ?_
    rw [List.append_assoc]
    exact h
noncomputable def dueD : List (Int × D) → List D
  | [] => []
  | p :: r => .tup [.int p.1, p.2] :: dueD r
theorem dueD_eq : ∀ l : List (Int × D), l.map (fun y => D.tup [.int y.1, y.2]) = dueD l
  | [] => rfl
  | p :: r => congrArg (D.tup [.int p.1, p.2] :: ·) (dueD_eq r)
noncomputable def flL (rows : List RowN) (fin : GN) : List O := [.inst 254 [(Str.ofString "rows", .ref 7), (Str.ofString "places", .ref 8), (Str.ofString "data", .ref 9), (Str.ofString "pairs", .ref 10), (Str.ofString "loops", .ref 11), (Str.ofString "fns", .ref 12)], .flist (linesD (rowsD rows)), .dictI [(10, .int 0)], .list [], .dictI fin.pr, .dictI fin.lp, .dictI []]
noncomputable def dueS (b : BN) (fin : GN) : St := ⟨[(Str.ofString "script", .scr), (Str.ofString "rows", .ref 1), (Str.ofString "due", .ref 2), (Str.ofString "flat", .ref 6)], [.dead, .flist (rowsD b.rows), .fdictI b.due, .dead, .dead, .dead] ++ flL b.rows fin⟩
noncomputable def ct_law : Ct := fun args N Q => args = [.scr] ∧ N = [] ∧ allN okN 9 start = true ∧ Q (.d (.bool true)) []
structure OkN (b : BN) (fin : GN) : Prop where
  len : b.rows.length ≤ 40
  pos : 0 < b.rows.length
  due : b.due.length ≤ 100
  le : ∃ s1, leN 0 b.rows ([], []) = some s1 ∧ (Nat.beq s1.1.length b.due.length && sameI s1.1 b.due) = true
  ga : gaN 0 b.rows ⟨[], [], [], []⟩ = some fin
  ends : ∀ p ∈ b.due, endB fin b.rows p = true
  run : runN b.rows b.due fin.pr 300 0 0 [] [] = true
theorem okN_out {b : BN} (h : okN b = true) : ∃ fin, OkN b fin := by
  unfold okN at h
  rw [Bool.and_eq_true, Bool.and_eq_true, Bool.and_eq_true, Bool.and_eq_true, Bool.and_eq_true] at h
  obtain ⟨_, h1, h2, h3, h4, h5⟩ := h
  cases hg : gaN 0 b.rows ⟨[], [], [], []⟩ with
  | none => rw [hg] at h5; cases h5
  | some fin =>
    rw [hg] at h5
    have h5 := Bool.and_eq_true_iff.mp h5
    refine ⟨fin, of_decide_eq_true h1, of_decide_eq_true h2, of_decide_eq_true h3, ?_, hg, fun p hp => List.all_eq_true.mp h5.1 p hp, h5.2⟩
    cases hs : leN 0 b.rows ([], []) with
    | none => rw [hs] at h4; cases h4
    | some s1 => rw [hs] at h4; exact ⟨s1, rfl, h4⟩
theorem rows_at : ∀ {rs : List RowN} {n : Nat} {r : RowN}, rs[n]? = some r → (rowsD rs)[n]? = some (rowD r)
  | x :: rs, 0, r, h => by cases h; rfl
  | x :: rs, n + 1, r, h => rows_at (rs := rs) h
theorem endB_at {fin : GN} {rows : List RowN} {p : Int × D} (h : endB fin rows p = true) : ∃ (n : Nat) (e : Int), p = ((n : Int), .int e) ∧ n < rows.length ∧
    ((∃ x d, rows[n]? = some (.for_ x) ∧ fin.lp.lookup (n : Int) = some (.tup [.int e, d])) ∨ (∃ x, rows[n]? = some (.whil x) ∧ fin.pr.lookup (n : Int) = some (.int e))) := by
  obtain ⟨i, d⟩ := p
  unfold endB at h
  rw [Bool.and_eq_true] at h
  obtain ⟨h0, h1⟩ := h
  obtain ⟨n, rfl⟩ := Int.eq_ofNat_of_zero_le (of_decide_eq_true h0)
  dsimp only [Int.toNat_natCast] at h1
  split at h1
  · rename_i x e hx
    refine ⟨n, e, rfl, (List.getElem?_eq_some_iff.mp hx).1, .inl ?_⟩
    split at h1
    · rename_i y d' hy
      exact ⟨x, d', hx, by rw [hy, of_decide_eq_true h1]⟩
    · cases h1
  · rename_i x e hx
    exact ⟨n, e, rfl, (List.getElem?_eq_some_iff.mp hx).1, .inr ⟨x, hx, isI_eq h1⟩⟩
  · cases h1
/-- a step of the law's run -/
theorem runN_at {rows : List RowN} {due pairs : List (Int × D)} {k i : Nat} {at' : Int} {es : List EntN} {vals : List (Nm × Int)} (h : runN rows due pairs (k + 1) i at' es vals = true) : es.length ≤ 8 ∧ vals.length ≤ 16 ∧
    ((at' = (rows.length : Int) ∧ es = [] ∧ 8 < i) ∨ (at' ≠ (rows.length : Int) ∧ ∃ (n : Nat) (r : RowN), at' = (n : Int) ∧ rows[n]? = some r ∧
      ((∃ x, r = .set x ∧ runN rows due pairs k (i + 1) (at' + 1) es (putK vals x 2) = true) ∨
       (∃ x v, r = .less x ∧ vals.lookup x = some v ∧ runN rows due pairs k (i + 1) (at' + 1) es (putK vals x (v - 1)) = true) ∨
       (∃ w rest, rowD r = .tup (.str w :: rest) ∧ (w == Str.ofString "LET") = false ∧ inD (.str w) [sD "NEXT", sD "WEND"] = some (isEndN r) ∧ (isEndN r = true → ∃ e es', es = e :: es' ∧ due.lookup e.place = some (.int at')) ∧
         ∃ o, flowN pairs at' r es vals = some o ∧ runN rows due pairs k (i + 1) o.1 o.2.1 o.2.2 = true)))) := by
  have h : runStep rows due pairs (runN rows due pairs k (i + 1)) i at' es vals = true := h
  generalize runN rows due pairs k (i + 1) = go at h ⊢
  delta runStep at h
  rw [Bool.and_eq_true, Bool.and_eq_true, Bool.and_eq_true] at h
  obtain ⟨⟨h0, h8, h16⟩, h⟩ := h
  refine ⟨of_decide_eq_true h8, of_decide_eq_true h16, ?_⟩
  split at h
  · rename_i he
    rw [Bool.and_eq_true] at h
    exact .inl ⟨he, List.isEmpty_iff.mp h.1, of_decide_eq_true h.2⟩
  · rename_i he
    refine .inr ⟨he, ?_⟩
    obtain ⟨n, rfl⟩ := Int.eq_ofNat_of_zero_le (of_decide_eq_true h0)
    rw [Int.toNat_natCast] at h
    cases hr : rows[n]? with
    | none => rw [hr] at h; cases h
    | some r =>
      rw [hr] at h
      refine ⟨n, r, rfl, hr, ?_⟩
      have ends : ∀ {d : Bool}, ((match (generalizing := false) es with | [] => false | e :: _ => isI (due.lookup e.place) n) && d) = true → (∃ e es', es = e :: es' ∧ due.lookup e.place = some (.int n)) ∧ d = true := fun {d} h => by
        rw [Bool.and_eq_true] at h
        refine ⟨?_, h.2⟩
        cases es with
        | nil => cases h.1
        | cons e es' => exact ⟨e, es', rfl, isI_eq h.1⟩
      have flow : ∀ r, (match (generalizing := false) flowN pairs n r es vals with | none => false | some o => go o.1 o.2.1 o.2.2) = true → ∃ o, flowN pairs n r es vals = some o ∧ go o.1 o.2.1 o.2.2 = true := fun r h => by
        cases hf : flowN pairs n r es vals with
        | none => rw [hf] at h; cases h
        | some o => rw [hf] at h; exact ⟨o, rfl, h⟩
      cases r with
      | set x => exact .inl ⟨x, rfl, h⟩
      | less x =>
        refine .inr (.inl ?_)
        have h : (match (generalizing := false) vals.lookup x with | none => false | some v => go (n + 1) es (putK vals x (v - 1))) = true := h
        cases hv : vals.lookup x with
        | none => rw [hv] at h; cases h
        | some v =>
          rw [hv] at h
          exact ⟨x, v, rfl, hv, h⟩
      | whil x => exact .inr (.inr ⟨_, _, rfl, rfl, rfl, (fun q => by cases q), flow _ h⟩)
      | for_ x => exact .inr (.inr ⟨_, _, rfl, rfl, rfl, (fun q => by cases q), flow _ h⟩)
      | wend => exact .inr (.inr ⟨_, _, rfl, rfl, rfl, (fun _ => (ends h).1), flow _ (ends h).2⟩)
      | next0 => exact .inr (.inr ⟨_, _, rfl, rfl, rfl, (fun _ => (ends h).1), flow _ (ends h).2⟩)
      | next1 x => exact .inr (.inr ⟨_, _, rfl, rfl, rfl, (fun _ => (ends h).1), flow _ (ends h).2⟩)
      | next2 x y => exact .inr (.inr ⟨_, _, rfl, rfl, rfl, (fun _ => (ends h).1), flow _ (ends h).2⟩)
noncomputable def lawS (b : BN) (fin : GN) (at' : Int) (vs : List (Str × D)) (es : List EntN) : St := ⟨[(Str.ofString "script", .scr), (Str.ofString "rows", .ref 1), (Str.ofString "due", .ref 2), (Str.ofString "flat", .ref 6), (Str.ofString "at", .d (.int at')), (Str.ofString "run", .ref 14)], [.dead, .flist (rowsD b.rows), .fdictI b.due, .dead, .dead, .dead] ++ flL b.rows fin ++ [.dictS vs, runAt 6 13 15 17, ctlO 16, .list (stk (upE es)), .list []]⟩

theorem law_kept (P : Params) : Kept (fd622 P) [(610, ct_rows), (617, ct_word), (209, ct_lends), (307, ct_flatten), (571, ct_run), (589, ct_worth), (484, ct_doflow)] ct_law := by
  intro args N Q h
  obtain ⟨rfl, rfl, h9, hQ⟩ := h
  refine rows_in h9 fun b spot hb => ?_
  obtain ⟨fin, hok⟩ := okN_out hb
  obtain ⟨s1, hle, hsame⟩ := hok.le
  have hlen : Nat.ble (rowsD b.rows).length 1000 = true := ble_of (by rw [rowsD_len]; exact Nat.le_trans hok.len (by decide))
  refine ok_in hlen ?_
  refine' comp_words (n := 3) (x := Str.ofString "statement") ?t ?l b.rows [] ?_
  case t => exact fun _ _ h => h
  case l =>
    intro r G hG
    refine word_in r ?_
    cases r <;> exact hG
  refine lends_in b.rows s1 hok.len hle ?_
  refine ok_in hsame ?_
  refine flatten_in b.rows fin hok.len hok.pos hok.ga ?_
  refine' for_in (p := 0) (k := 4) (n := 13) (dueD_eq b.due) ?_
  refine' for_inv (fun rem s => s = dueS b fin ∧ ∃ l, rem = dueD l ∧ ∀ p ∈ l, p ∈ b.due) ?t ?d _ _ (dueS b fin) ⟨fun K h => h⟩ ⟨rfl, b.due, rfl, fun _ h => h⟩
  case t =>
    rintro x r s ⟨rfl, l, hr, hl⟩ K' hN hR
    cases l with
    | nil => cases hr
    | cons p l =>
    obtain ⟨rfl, rfl⟩ := List.cons.inj hr
    obtain ⟨n, e, rfl, hn, h⟩ := endB_at (hok.ends p (hl p (.head _)))
    have go : ∀ s', Can 0 4 13 s' (dueS b fin) → K' .next s' := fun s' c => hN _ _ _ rfl c ⟨rfl, l, rfl, fun q h => hl q (.tail _ h)⟩
    refine ok_in (fit_len (Nat.le_trans (Nat.le_of_lt hn) (Nat.le_trans hok.len (by decide)))) ?_
    rcases h with ⟨y, d, h1, h2⟩ | ⟨y, h1, h2⟩
    · refine opt_in _ (item_nat rfl (rows_at h1)) ?_
      refine opt_in _ h2 ?_
      refine br_f (by show (e != e) = false; rw [bne_self_eq_false]) ?_
      exact go _ ⟨fun K h => h⟩
    · refine opt_in _ (item_nat rfl (rows_at h1)) ?_
      refine opt_in _ h2 ?_
      refine br_f (by show (e != e) = false; rw [bne_self_eq_false]) ?_
      exact go _ ⟨fun K h => h⟩
  case d =>
    rintro s ⟨rfl, _⟩
    refine run_in ⟨linesD (rowsD b.rows), [(10, .int 0)], [], []⟩ fin.pr fin.lp ?_
    refine' for_in (p := 0) (k := 6) (n := 18) (l' := rangeL 0 1 300) ?e ?_
    case e => rfl
    refine' for_inv (fun rem s => ∃ i at' es vals, rem = rangeL ((i : Nat) : Int) 1 rem.length ∧ runN b.rows b.due fin.pr rem.length i at' es vals = true ∧ s = lawS b fin at' (upV vals) es) ?t ?d _ _ (lawS b fin 0 [] []) ⟨fun K h => h⟩ ⟨0, 0, [], [], by rw [rangeL_len]; rfl, by rw [rangeL_len]; exact hok.run, rfl⟩
    case t =>
      rintro x r s ⟨i, at', es, vals, hr, hrun, rfl⟩ K' hN hR
      rw [List.length_cons] at hr hrun
      obtain ⟨rfl, hr2⟩ := List.cons.inj hr
      obtain ⟨hl, hv, h⟩ := runN_at hrun
      have go : ∀ f s' at2 es2 vals2 vs2, goesOn f = true → vs2 = upV vals2 → Can 0 6 18 s' (lawS b fin at2 vs2 es2) → runN b.rows b.due fin.pr r.length (i + 1) at2 es2 vals2 = true → K' f s' := fun f s' at2 es2 vals2 vs2 g e c q => hN f _ _ g c ⟨i + 1, at2, es2, vals2, hr2, q, by rw [e]⟩
      have hlen : ((rowsD b.rows).length : Int) = (b.rows.length : Int) := congrArg _ (rowsD_len b.rows)
      have hb : Nat.ble (rowsD b.rows).length 1000 = true := ble_of (by rw [rowsD_len]; exact Nat.le_trans hok.len (by decide))
      refine ok_in hb ?_
      rw [hlen]
      rcases h with ⟨rfl, rfl, h8⟩ | ⟨hne, n, r0, rfl, hat, h⟩
      · refine br_t (beq_self_eq_true _) ?_
        refine hR _ _ ?_
        rw [show true = decide ((8 : Int) < (i : Int)) from (decide_eq_true (Int.ofNat_lt.mpr h8)).symm] at hQ
        exact hQ
      refine br_f (beq_eq_false_iff_ne.mpr hne) ?_
      have hn : n ≤ 900 := Nat.le_trans (Nat.le_of_lt (List.getElem?_eq_some_iff.mp hat).1) (Nat.le_trans hok.len (by decide))
      refine ok_in (fit_len hn) ?_
      refine opt_in _ (item_nat rfl (rows_at hat)) ?_
      have hv9 : vals.length ≤ 900 := Nat.le_trans hv (by decide)
      rcases h with ⟨x, rfl, h⟩ | ⟨x, v, rfl, hx, h⟩ | ⟨w, rest, e, hw, hin, hend, o, hf, h⟩
      · refine worth_in (.set 2) ?_
        refine ok_in (upV_ble hv9) ?_
        set_option smartUnfolding false in exact go .cont _ _ _ _ _ rfl (put_up x 2 vals) ⟨fun K h => h⟩ h
      · refine worth_in (.less x v hx) ?_
        refine ok_in (upV_ble hv9) ?_
        set_option smartUnfolding false in exact go .cont _ _ _ _ _ rfl (put_up x (v - 1) vals) ⟨fun K h => h⟩ h
      rw [e]
      refine br_f hw ?_
      refine opt_in _ hin ?_
      refine br_in ?_ ?_
      · intro hE
        obtain ⟨e1, es', rfl, hdue⟩ := hend hE
        cases e1 with
        | for_ y q =>
          refine opt_in _ (item_last (stk (upE es')) _) ?_
          refine opt_in _ hdue ?_
          refine br_f (by show ((n : Int) != (n : Int)) = false; rw [bne_self_eq_false]) ?_
          refine doflow_in r0 n ⟨⟨linesD (rowsD b.rows), [(10, .int 0)], [], []⟩, fin.pr, fin.lp⟩ vals _ o e hf hl hv fun N' hN' => ?_
          cases hN'
          · set_option smartUnfolding false in exact go .next _ o.1 o.2.1 o.2.2 _ rfl rfl ⟨fun K h => h⟩ h
          · set_option smartUnfolding false in exact go .next _ o.1 o.2.1 o.2.2 _ rfl rfl ⟨fun K h => h⟩ h
        | whil q =>
          refine opt_in _ (item_last (stk (upE es')) _) ?_
          refine opt_in _ hdue ?_
          refine br_f (by show ((n : Int) != (n : Int)) = false; rw [bne_self_eq_false]) ?_
          refine doflow_in r0 n ⟨⟨linesD (rowsD b.rows), [(10, .int 0)], [], []⟩, fin.pr, fin.lp⟩ vals _ o e hf hl hv fun N' hN' => ?_
          cases hN'
          · set_option smartUnfolding false in exact go .next _ o.1 o.2.1 o.2.2 _ rfl rfl ⟨fun K h => h⟩ h
          · set_option smartUnfolding false in exact go .next _ o.1 o.2.1 o.2.2 _ rfl rfl ⟨fun K h => h⟩ h
      · intro _
        refine doflow_in r0 n ⟨⟨linesD (rowsD b.rows), [(10, .int 0)], [], []⟩, fin.pr, fin.lp⟩ vals _ o e hf hl hv fun N' hN' => ?_
        cases hN'
        · set_option smartUnfolding false in exact go .next _ o.1 o.2.1 o.2.2 _ rfl rfl ⟨fun K h => h⟩ h
        · set_option smartUnfolding false in exact go .next _ o.1 o.2.1 o.2.2 _ rfl rfl ⟨fun K h => h⟩ h
    case d =>
      rintro s ⟨i, at', es, vals, _, h, _⟩
      cases h

theorem law_body (w : World) {name qual : Str} {params : Arguments} {body : List Stmt} {scope : Scope} {dV kV doc pm cdv ct oc : Value} {an od : Option Addr} {osl : Array (Option Value)}
    (ho : (hd.heap_39 w.params).lookup 622 = some ⟨oc, od, .func (fnOf name qual params body scope dV kV doc pm an cdv ct), osl⟩) (h9 : allN okN 9 start = true)
    (fa : Addr) (cdw : Value) (sl0 : Nat) (vs0 : List Value) (ns0 : List Int) (hI : IntsAre vs0 ns0) (hns : ns0.length ≤ 63)
    (mean : ExcName → Option Value) (mg mb : Str → Option Value) (dp un : Nat) (gd : Option (List Code)) (outer : List Env) (A₀ : Around) (base g : Heap) (L : Addr) (s : Shared) (h₁ : Heap) (tk₁ : Nat)
    (F : Fr g L h₁ (fun y => [(Str.ofString "script", Value.ref sl0)].reverse.lookup y)) (B : Below A₀ base outer g) (X : (hd.heap_39 w.params).In g) (T : Top hd.view_39 LO mean mg mb g) (hl : Heap.IsList g sl0 vs0.toArray) (hdp : dp + 60 < recursionLimit) (hu : un + 600 < cLine) :
    wpAny (model PR w) (Ar dp un gd (envOf qual scope L fa cdw) outer) (execs body (envOf qual scope L fa cdw))
      (fun fl s' => ∃ m' mt' h' tk', s' = { s with heap := h', toks := tk' } ∧ Fr g L h' m' ∧ News g L h' mt' ∧ retV fl = .bool true) (fun _ _ => False) { s with heap := h₁, toks := tk₁ } := by
  have e := (fd622 w.params).ho.symm.trans ho
  cases e
  let fx : Fx := { w := w, ns := ns0.take 24, sc := ns0, A₀ := A₀, base := base, g := g, L := L, fenv := envOf (fd622 w.params).qual (fd622 w.params).scope L fa cdw, outer := outer, mean := mean, mg := mg, mb := mb, dp := dp, un := un, D := 10, gd := gd, gs := s.gens, dr := s.drawn, os := s.os, kb := fun a o => g.get? a = some o }
  have Z : FxOk fx := { B := B, X := X, T := T, hf := rfl, hk := rfl, hgl := rfl, hbl := rfl, hd := by show dp + 10 < recursionLimit; omega, hu := by show un + 8 * 10 < cLine; omega, hD := by show 0 < 10; decide, frag := fun a o e => X a o e, cut := rfl, len := hns }
  have Y : FenvOk fx (fd622 w.params).scope.names := ⟨⟨rfl, rfl, rfl, fun y hy => by rw [look_lookup] at hy; exact hy, rfl⟩, fun y hy => by rw [look_lookup] at hy; exact hy, fun y hy => by rw [look_lookup] at hy; exact hy, rfl, rfl⟩
  have C : CInj fx := fun y z c h1 h2 => by cases h1
  have TT : TOk fx.w fx.ns fx.sc 10 [(610, ct_rows), (617, ct_word), (209, ct_lends), (307, ct_flatten), (571, ct_run), (589, ct_worth), (484, ct_doflow)] :=
    TOk.cons (spec_rows w _ _) (by decide) (by kernel_rfl!) (TOk.cons (spec_word w _ _) (by decide) (by kernel_rfl!) (TOk.cons (spec_lends w _ _) (by decide) (by kernel_rfl!) (TOk.cons (spec_flatten w _ _) (by decide) (by kernel_rfl!) (TOk.cons (spec_run w _ _) (by decide) (by kernel_rfl!) (TOk.cons (spec_worth w _ _) (by decide) (by kernel_rfl!) (TOk.cons (spec_doflow w _ _) (by decide) (by kernel_rfl!) TOk.nil))))))
  obtain ⟨o, ho', hc, k, hdat⟩ := hl
  have nocell : ∀ y, (fd622 w.params).scope.names.lookup y ≠ some .cell := by
    have : ((fd622 w.params).scope.names.all fun y => y.2 != .cell) = true := rfl
    intro y hy
    have hm := List.all_eq_true.mp this _ (mem_of_lookup hy)
    cases hm
  have r : Rl fx fx.fenv ⟨[], [], ⟨[], fun _ => none⟩⟩ ⟨[(Str.ofString "script", .scr)], []⟩ h₁ [] (fun _ => 0) (fun y => [(Str.ofString "script", Value.ref sl0)].reverse.lookup y) := by
    refine ⟨fun _ _ e => e, F, (fun p hp => nomatch hp), (fun p hp => nomatch hp), rfl, fun i o a h1 h2 => (by cases h1), fun y v hy => ?_, ⟨⟨fun y hy => absurd hy (nocell y), fun p hp => nomatch hp⟩, fun q => absurd rfl q⟩⟩
    have hy' : (match y == Str.ofString "script" with | true => some V.scr | false => none) = some v := hy
    cases q : y == Str.ofString "script" with
    | false => rw [q] at hy'; cases hy'
    | true =>
      rw [q] at hy'
      cases hy'
      obtain rfl := eq_of_beq q
      exact ⟨rfl, .ref sl0, ⟨sl0, o, vs0, k, rfl, .inl ho', hc, hdat, hI⟩, .loc rfl rfl rfl⟩
  have hk : Walk (fd622 w.params) _ [.scr] [] (fun v _ => v = .d (.bool true)) := law_kept w.params _ _ _ ⟨rfl, rfl, h9, rfl⟩
  refine wpAny_mono ((run_ok (p := 0) Z Y C TT (Nat.le_refl _) 100).2 _ _ _ hk _ _ tk₁ _ _ _ r (Nat.le_refl _) (fun fl s' => ∃ m' mt' h' tk', s' = { s with heap := h', toks := tk' } ∧ Fr g L h' m' ∧ News g L h' mt' ∧ retV fl = .bool true) (fun _ _ => False) (fun fl fo W1 s1 s₂ hk1 x1 hf1 hr1 => ?_)) (fun _ _ h => h) fun _ _ h => h
  obtain ⟨h2, t2, N2, ow2, ms2, rfl, r2⟩ := hr1
  have fin : ∀ v u, endV 0 v s1.N (fun v _ => v = V.d (.bool true)) → VAt fx W1 v u → u = .bool true := by
    intro v u hk2 hv2
    obtain ⟨σ', v', N1', ow3, hk3, hσ3, hp3, hv3, r3, _⟩ := end_ok hk2 r2 x1.len hv2
    rw [hk3] at hv3
    exact hv3
  cases fl with
  | next => obtain rfl := hf1; exact ⟨ms2, N2, h2, t2, rfl, r2.F, r2.Ns, fin _ _ hk1 rfl⟩
  | ret v => obtain ⟨u, rfl, hv1⟩ := hf1; exact ⟨ms2, N2, h2, t2, rfl, r2.F, r2.Ns, fin _ _ hk1 hv1⟩
  | brk => exact hk1.elim
  | cont => exact hk1.elim

noncomputable def lvl : Nat → BN → List BN
  | 0, c => [c]
  | k + 1, c => (turnN c).flatMap (lvl k)
theorem allN_lvl (P : BN → Bool) (m : Nat) : ∀ (k : Nat) (c : BN), (lvl k c).all (allN P m) = allN P (m + k) c
  | 0, c => by show (allN P m c && true) = _; rw [Bool.and_true]; rfl
  | k + 1, c => by
    show ((turnN c).flatMap (lvl k)).all (allN P m) = (turnN c).all (allN P (m + k))
    rw [List.all_flatMap]
    exact congrArg _ (funext fun x => allN_lvl P m k x)
noncomputable def at3 (i : Nat) : BN := match nth (lvl 3 start) i with | some c => c | none => start
theorem ok3_0 : allN okN 6 (at3 0) = true := by decide +kernel
theorem ok3_1 : allN okN 6 (at3 1) = true := by decide +kernel
theorem ok3_2 : allN okN 6 (at3 2) = true := by decide +kernel
theorem ok3_3 : allN okN 6 (at3 3) = true := by decide +kernel
theorem ok3_4 : allN okN 6 (at3 4) = true := by decide +kernel
theorem ok3_5 : allN okN 6 (at3 5) = true := by decide +kernel
theorem ok3_6 : allN okN 6 (at3 6) = true := by decide +kernel
theorem ok3_7 : allN okN 6 (at3 7) = true := by decide +kernel
theorem ok3_8 : allN okN 6 (at3 8) = true := by decide +kernel
theorem ok3_9 : allN okN 6 (at3 9) = true := by decide +kernel
theorem ok3_10 : allN okN 6 (at3 10) = true := by decide +kernel
theorem ok3_11 : allN okN 6 (at3 11) = true := by decide +kernel
theorem ok3_12 : allN okN 6 (at3 12) = true := by decide +kernel
theorem ok3_13 : allN okN 6 (at3 13) = true := by decide +kernel
theorem ok3_14 : allN okN 6 (at3 14) = true := by decide +kernel
theorem ok3_15 : allN okN 6 (at3 15) = true := by decide +kernel
theorem ok3_16 : allN okN 6 (at3 16) = true := by decide +kernel
theorem ok3_17 : allN okN 6 (at3 17) = true := by decide +kernel
theorem ok3_18 : allN okN 6 (at3 18) = true := by decide +kernel
theorem ok3_19 : allN okN 6 (at3 19) = true := by decide +kernel
theorem ok3_20 : allN okN 6 (at3 20) = true := by decide +kernel
theorem lvl3 : lvl 3 start = [at3 0, at3 1, at3 2, at3 3, at3 4, at3 5, at3 6, at3 7, at3 8, at3 9, at3 10, at3 11, at3 12, at3 13, at3 14, at3 15, at3 16, at3 17, at3 18, at3 19, at3 20] := by kernel_rfl!
theorem all_ok : allN okN 9 start = true := by
  rw [← allN_lvl okN 6 3 start, lvl3]
  simp only [List.all_cons, List.all_nil, ok3_0, ok3_1, ok3_2, ok3_3, ok3_4, ok3_5, ok3_6, ok3_7, ok3_8, ok3_9, ok3_10, ok3_11, ok3_12, ok3_13, ok3_14, ok3_15, ok3_16, ok3_17, ok3_18, ok3_19, ok3_20, Bool.and_self]

theorem law_top (h9 : allN okN 9 start = true) : PySem.Challenge.rw_xm0056_01.Holds := hd (by
  k_fill
  intro w s₀ s₁ mg mb G Y fa o pm cd doc dV kV ho hd hcd hD hmg hg args vals as hpre hlay hrd hwl hlo
  have KX := kIn_of Y
  have X := (Ground.X G).1
  have V := (Ground.X G).2
  refine Ground.open G ?_
  intro T B D TE TW
  refine guard_noD D (by decide +kernel) ?_
  clear D
  obtain ⟨_, _, he, B0⟩ := based_of_top T rfl hmg ho hd
  obtain rfl : cd = _ := he
  wrow_args hpre hlay hrd hwl hlo
  refine enter_call ?_
  w_top on
  refine codeAny_mono ?_ (fun _ _ g => GoodW.toG g)
  have K0 := below_caller (Top.heap T)
  w_call any ho hd hcd hD T F
  (all_goals try k_fold)
  rename IntsAre _ _ => hI
  rename Below callerA _ [] _ => hB
  rename Fr _ _ _ _ => hF
  rename Frag.In _ _ => hX
  rename Top _ _ _ _ _ _ => hT
  rename Heap.IsList _ _ _ => hl
  refine wpAny_mono (law_body _ (by rfl) h9 _ _ _ _ _ hI (by omega) _ _ _ _ _ _ [] callerA _ _ _ _ _ _ hF hB hX hT hl (by decide) (by decide)) ?_ (fun _ _ q => q.elim)
  intro fl s' hdn
  obtain ⟨m', mt', h', tk', rfl, F', N', hv⟩ := hdn
  clear hF
  cases fl with
  | ret v =>
    have hv' : v = Value.bool true := hv
    subst hv'
    (try dsimp only)
    k_steps
  | next => exact absurd (show Value.none = Value.bool true from hv) (fun q => by cases q)
  | brk => exact absurd (show Value.none = Value.bool true from hv) (fun q => by cases q)
  | cont => exact absurd (show Value.none = Value.bool true from hv) (fun q => by cases q))

end Mine
theorem PySem.Challenge.cw_xm0056_01_holds : PySem.Challenge.rw_xm0056_01.Holds := by
  exact Mine.law_top Mine.all_ok
