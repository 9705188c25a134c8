import PyProof.Rows.All
import Wide.All
import OpenK.AllK
import Wide.FinOn
import Lean
import PySem.Challenge.RW_rh0164_01
open PySem PySem.W PyProof.Rows PySem.Calls
set_option Elab.async false
set_option rowWalk.seconds 0
set_option maxRecDepth 100000
set_option maxHeartbeats 0
set_option linter.all false
set_option compiler.extract_closed false
namespace Mine
noncomputable abbrev pg : Program := PySem.Challenge.pw_rh0164_01
noncomputable def nth (l : List Stmt) : Nat → Stmt := @List.rec Stmt (fun _ => Nat → Stmt) (fun _ => .Pass ⟨0, 0, 0, 0⟩) (fun a _ ih n => @Nat.rec (fun _ => Stmt) a (fun m _ => ih m) n) l
noncomputable def sB : Stmt → List Stmt
  | .FunctionDef _ _ b .. => b
  | .ClassDef _ _ _ b .. => b
  | _ => []
noncomputable def sA : Stmt → Arguments
  | .FunctionDef _ a .. => a
  | _ => ⟨[], [], none, [], [], none, []⟩
noncomputable def sS : Stmt → Scope
  | .FunctionDef _ _ _ _ _ _ s .. => s
  | _ => ⟨.function, [], false, false, []⟩
noncomputable def st (i : Nat) : Stmt := nth pg.main.body i
noncomputable def sm (i j : Nat) : Stmt := nth (sB (st i)) j
noncomputable def de (P : Params) (x : Str) (t : Nat) (v : Value) : DictEntry := ⟨PyData.keyHash P x, .str x t, v⟩
noncomputable def o2 (P : Params) : Obj := ⟨.none, none, (.dict ⟨[de P (.ofString "type.__subclasses__.Exception.0") 354 (.int 116 0), de P (.ofString "type.__subclasses__.Exception.n") 355 (.int 2 0), de P (.ofString "type.__subclasses__.Exception.1") 383 (.int 136 0)]⟩ 3), ⟨[]⟩⟩
noncomputable def o3 (P : Params) : Obj := ⟨(.type "dict"), none, (.dict ⟨(de P (.ofString "__name__") 165 (.str (.ofString "law_rh0164_01") 990) :: de P (.ofString "__doc__") 166 .none :: de P (.ofString "__package__") 167 .none :: de P (.ofString "__loader__") 168 (.builtin "__main__.__loader__#opaque") :: de P (.ofString "__spec__") 169 .none :: de P (.ofString "__annotations__") 170 (.ref 6) :: de P (.ofString "__builtins__") 171 (.ref 4) :: de P (.ofString "__file__") 173 (.str (.ofString "/claim/cut.py") 172) :: de P (.ofString "__cached__") 174 .none :: de P (.ofString "_wall") 193 (.ref 21) :: de P (.ofString "A_AT") 197 (.int 6 196) :: de P (.ofString "C_AT") 199 (.int 14 198) :: de P (.ofString "B_AT") 201 (.int 23 200) :: de P (.ofString "A_MASK") 203 (.int 255 202) :: de P (.ofString "C_MASK") 205 (.int 511 204) :: de P (.ofString "JUMP_ZERO") 207 (.int 131071 206) :: de P (.ofString "CONSTANT_BIT") 209 (.int 256 208) :: de P (.ofString "op_of") 216 (.ref 28) :: de P (.ofString "a_of") 223 (.ref 35) :: de P (.ofString "b_of") 230 (.ref 42) :: de P (.ofString "c_of") 237 (.ref 49) :: de P (.ofString "wide_of") 244 (.ref 56) :: de P (.ofString "jump_of") 251 (.ref 63) :: de P (.ofString "BLANKS") 255 (.bytes ⟨[32, 9, 10, 11, 12, 13]⟩ 254) :: de P (.ofString "Limits") 326 (.ref 95) :: de P (.ofString "LuaError") 357 (.ref 116) :: de P (.ofString "ApiError") 386 (.ref 136) :: de P (.ofString "is_number") 393 (.ref 146) :: de P (.ofString "is_false") 400 (.ref 153) :: de P (.ofString "wrap") 409 (.ref 160) :: de P (.ofString "divide") 418 (.ref 167) :: de P (.ofString "power") 429 (.ref 174) :: de P (.ofString "arith") 440 (.ref 181) :: de P (.ofString "is_blank") 447 (.ref 188) :: de P (.ofString "digit_of") 454 (.ref 195) :: de P (.ofString "read_digits") 467 (.ref 202) :: de P (.ofString "skip_blanks") 475 (.ref 209) :: de P (.ofString "str_to_number") 483 (.ref 216) :: de P (.ofString "text_in_base") 497 (.ref 223) :: de P (.ofString "to_number") 505 (.ref 230) :: de P (.ofString "number_text") 514 (.ref 237) :: de P (.ofString "to_text") 521 (.ref 244) :: de P (.ofString "byte_float") 529 (.ref 251) :: de P (.ofString "MADE") 533 (.int 0 532) :: de P (.ofString "NO_TEXTS") 535 (.int 1 534) :: de P (.ofString "TOO_LONG") 537 (.int 2 536) :: de P (.ofString "texts_below") 549 (.ref 258) :: de P (.ofString "join_below") 555 (.ref 263) :: de P (.ofString "loop_numbers") 563 (.ref 268) :: de P (.ofString "wrong_place") 572 (.ref 275) :: de P (.ofString "before_first") 581 (.ref 282) :: de P (.ofString "goes_on") 590 (.ref 289) :: de P (.ofString "next_number") 601 (.ref 296) :: de P (.ofString "load") 616 (.ref 303) :: de P (.ofString "operand") 626 (.ref 310) :: de P (.ofString "two_operands") 637 (.ref 317) :: de P (.ofString "is_compared") 645 (.ref 324) :: de P (.ofString "is_tested") 653 (.ref 331) :: de P (.ofString "place_behind") 662 (.ref 338) :: de P (.ofString "table_room") 669 (.ref 345) :: de P (.ofString "list_block") 682 (.ref 352) :: de P (.ofString "round_begun") 693 (.ref 359) :: de P (.ofString "round_wrong") 699 (.ref 364) :: de P (.ofString "round_gone") 709 (.ref 371) :: de P (.ofString "round_asked") 718 (.ref 378) :: de P (.ofString "round_told") 726 (.ref 385) :: de P (.ofString "RECKONINGS") 736 (.ref 386) :: de P (.ofString "DIVIDING") 738 (.int 3 737) :: de P (.ofString "RESTING") 740 (.int 4 739) :: de P (.ofString "RAISING") 742 (.int 5 741) :: de P (.ofString "DONE") 744 (.int 0 743) :: de P (.ofString "NO_NUMBERS") 746 (.int 1 745) :: de P (.ofString "BY_ZERO") 748 (.int 2 747) :: de P (.ofString "has_no_result") 757 (.ref 393) :: de P (.ofString "reckon") 769 (.ref 400) :: de P (.ofString "BACK") 773 (.str (.ofString "back") 772) :: de P (.ofString "STOPPED") 775 (.str (.ofString "stopped") 774) :: de P (.ofString "STEPS") 777 (.str (.ofString "steps") 776) :: de P (.ofString "Works") 816 (.ref 417) :: de P (.ofString "Stepper") 989 (.ref 508) :: de P (.ofString "_law_next") 1000 (.ref 519) :: de P (.ofString "_law_word") 1010 (.ref 526) :: de P (.ofString "_law_put") 1021 (.ref 533) :: de P (.ofString "_law_loop_right") 1027 (.ref 538) :: de P (.ofString "law") 1033 (.ref 543) :: [])⟩ 85), ⟨[]⟩⟩
noncomputable def o11 (P : Params) : Obj := ⟨(.type "tuple"), none, (.seq ⟨[]⟩ 0), ⟨[]⟩⟩
noncomputable def o12 (P : Params) : Obj := ⟨.none, none, (.fields ⟨((.int 1 0) :: (.int 0 0) :: (.ref 20) :: (.int 12 0) :: (.int 0 0) :: (.ref 27) :: (.int 14 0) :: (.int 0 0) :: (.ref 34) :: (.int 16 0) :: (.int 0 0) :: (.ref 41) :: (.int 18 0) :: (.int 0 0) :: (.ref 48) :: (.int 20 0) :: (.int 0 0) :: (.ref 55) :: (.int 22 0) :: (.int 0 0) :: (.ref 62) :: (.int 26 0) :: (.int 0 0) :: (.ref 69) :: (.int 45 0) :: (.int 0 0) :: (.ref 105) :: (.int 51 0) :: (.int 0 0) :: (.ref 125) :: (.int 55 0) :: (.int 0 0) :: (.ref 145) :: (.int 57 0) :: (.int 0 0) :: (.ref 152) :: (.int 61 0) :: (.int 0 0) :: (.ref 159) :: (.int 66 0) :: (.int 0 0) :: (.ref 166) :: (.int 69 0) :: (.int 0 0) :: (.ref 173) :: (.int 83 0) :: (.int 0 0) :: (.ref 180) :: (.int 102 0) :: (.int 0 0) :: (.ref 187) :: (.int 104 0) :: (.int 0 0) :: (.ref 194) :: (.int 112 0) :: (.int 0 0) :: (.ref 201) :: (.int 121 0) :: (.int 0 0) :: (.ref 208) :: (.int 125 0) :: (.int 0 0) :: (.ref 215) :: (.int 127 0) :: (.int 0 0) :: (.ref 222) :: (.int 139 0) :: (.int 0 0) :: (.ref 229) :: (.int 145 0) :: (.int 0 0) :: (.ref 236) :: (.int 155 0) :: (.int 0 0) :: (.ref 243) :: (.int 161 0) :: (.int 0 0) :: (.ref 250) :: (.int 170 0) :: (.int 0 0) :: (.ref 257) :: (.int 178 0) :: (.int 0 0) :: (.ref 262) :: (.int 189 0) :: (.int 0 0) :: (.ref 267) :: (.int 191 0) :: (.int 0 0) :: (.ref 274) :: (.int 196 0) :: (.int 0 0) :: (.ref 281) :: (.int 198 0) :: (.int 0 0) :: (.ref 288) :: (.int 202 0) :: (.int 0 0) :: (.ref 295) :: (.int 206 0) :: (.int 0 0) :: (.ref 302) :: (.int 219 0) :: (.int 0 0) :: (.ref 309) :: (.int 223 0) :: (.int 0 0) :: (.ref 316) :: (.int 226 0) :: (.int 0 0) :: (.ref 323) :: (.int 228 0) :: (.int 0 0) :: (.ref 330) :: (.int 230 0) :: (.int 0 0) :: (.ref 337) :: (.int 232 0) :: (.int 0 0) :: (.ref 344) :: (.int 234 0) :: (.int 0 0) :: (.ref 351) :: (.int 241 0) :: (.int 0 0) :: (.ref 358) :: (.int 249 0) :: (.int 0 0) :: (.ref 363) :: (.int 251 0) :: (.int 0 0) :: (.ref 370) :: (.int 258 0) :: (.int 0 0) :: (.ref 377) :: (.int 262 0) :: (.int 0 0) :: (.ref 384) :: (.int 275 0) :: (.int 0 0) :: (.ref 392) :: (.int 279 0) :: (.int 0 0) :: (.ref 399) :: (.int 290 0) :: (.int 0 0) :: (.ref 406) :: (.int 299 0) :: (.int 0 0) :: (.ref 427) :: (.int 457 0) :: (.int 0 0) :: (.ref 518) :: (.int 461 0) :: (.int 0 0) :: (.ref 525) :: (.int 463 0) :: (.int 0 0) :: (.ref 532) :: (.int 469 0) :: (.int 0 0) :: (.ref 537) :: (.int 479 0) :: (.int 0 0) :: (.ref 542) :: [])⟩), ⟨[]⟩⟩
noncomputable def o13 (P : Params) : Obj := ⟨(.type "code"), none, (.fields ⟨[(.str (.ofString "<module>") 182), (.str (.ofString "<module>") 183), (.str (.ofString "/claim/cut.py") 184), (.int 1 0), (.int 0 0), (.int 0 0), (.int 0 0), (.int 0 0), (.ref 11), (.bool false), (.int 181 0), (.ref 12), .none, .none, .none, .none, (.int 185 0), (.int 1 0), (.str (.ofString "/claim/cut.py") 186)]⟩), ⟨[]⟩⟩
noncomputable def o14 (P : Params) : Obj := ⟨(.type "frame"), none, .plain, ⟨[(some (.ref 13)), (some (.ref 3)), (some (.ref 3)), none, (some (.str (.ofString "__main__") 164)), none, (some (.ref 0))]⟩⟩
noncomputable def o15 (P : Params) : Obj := ⟨(.type "tuple"), none, (.seq ⟨[]⟩ 0), ⟨[]⟩⟩
noncomputable def o16 (P : Params) : Obj := ⟨.none, none, (.fields ⟨[]⟩), ⟨[]⟩⟩
noncomputable def o17 (P : Params) : Obj := ⟨(.type "tuple"), none, (.seq ⟨[(.str (.ofString "k") 190)]⟩ 0), ⟨[]⟩⟩
noncomputable def o18 (P : Params) : Obj := ⟨(.type "tuple"), none, (.seq ⟨[]⟩ 0), ⟨[]⟩⟩
noncomputable def o19 (P : Params) : Obj := ⟨.none, none, .func ⟨(.ofString "_wall"), (.ofString "_wall"), (sA (st 0)), .stmts (sB (st 0)), (sS (st 0)), 0, [], .none, .none, .none, .none, none, .none, .none, 0⟩, ⟨[]⟩⟩
noncomputable def o20 (P : Params) : Obj := ⟨(.type "code"), none, (.fields ⟨[(.str (.ofString "_wall") 187), (.str (.ofString "_wall") 188), (.str (.ofString "/claim/cut.py") 189), (.int 1 0), (.int 1 0), (.int 0 0), (.int 0 0), (.int 3 0), (.ref 15), (.bool true), (.int 181 0), (.ref 16), .none, (.ref 17), (.ref 18), (.ref 19), (.int 191 0), (.int 1 0), (.str (.ofString "/claim/cut.py") 192)]⟩), ⟨[]⟩⟩
noncomputable def o21 (P : Params) : Obj := by
  refine' (fun (b : List Stmt) (_ : b = sB (st 0)) (a : Arguments) (_ : a = sA (st 0)) (c : Scope) (_ : c = sS (st 0)) => (⟨(.type "function"), none, .func ⟨(.ofString "_wall"), (.ofString "_wall"), a, .stmts b, c, 3, [], .none, .none, .none, (.str (.ofString "__main__") 164), none, (.ref 20), .none, 0⟩, ⟨[]⟩⟩ : Obj)) _ ?h9 _ ?h8 _ ?h7
  case h9 => ((conv => rhs; whnf) <;> exact rfl)
  case h8 => ((conv => rhs; whnf) <;> exact rfl)
  case h7 => ((conv => rhs; whnf) <;> exact rfl)
noncomputable def o22 (P : Params) : Obj := ⟨(.type "tuple"), none, (.seq ⟨[]⟩ 0), ⟨[]⟩⟩
noncomputable def o23 (P : Params) : Obj := ⟨.none, none, (.fields ⟨[]⟩), ⟨[]⟩⟩
noncomputable def o24 (P : Params) : Obj := ⟨(.type "tuple"), none, (.seq ⟨[(.str (.ofString "instruction") 213)]⟩ 0), ⟨[]⟩⟩
noncomputable def o25 (P : Params) : Obj := ⟨(.type "tuple"), none, (.seq ⟨[]⟩ 0), ⟨[]⟩⟩
noncomputable def o26 (P : Params) : Obj := ⟨.none, none, .func ⟨(.ofString "op_of"), (.ofString "op_of"), (sA (st 9)), .stmts (sB (st 9)), (sS (st 9)), 0, [], .none, .none, .none, .none, none, .none, .none, 0⟩, ⟨[]⟩⟩
noncomputable def o27 (P : Params) : Obj := ⟨(.type "code"), none, (.fields ⟨[(.str (.ofString "op_of") 210), (.str (.ofString "op_of") 211), (.str (.ofString "/claim/cut.py") 212), (.int 12 0), (.int 1 0), (.int 0 0), (.int 0 0), (.int 3 0), (.ref 22), (.bool true), (.int 181 0), (.ref 23), .none, (.ref 24), (.ref 25), (.ref 26), (.int 214 0), (.int 12 0), (.str (.ofString "/claim/cut.py") 215)]⟩), ⟨[]⟩⟩
noncomputable def o28 (P : Params) : Obj := by
  refine' (fun (b : List Stmt) (_ : b = sB (st 9)) (a : Arguments) (_ : a = sA (st 9)) (c : Scope) (_ : c = sS (st 9)) => (⟨(.type "function"), none, .func ⟨(.ofString "op_of"), (.ofString "op_of"), a, .stmts b, c, 3, [], .none, .none, .none, (.str (.ofString "lua.fields") 194), none, (.ref 27), .none, 0⟩, ⟨[]⟩⟩ : Obj)) _ ?h9 _ ?h8 _ ?h7
  case h9 => ((conv => rhs; whnf) <;> exact rfl)
  case h8 => ((conv => rhs; whnf) <;> exact rfl)
  case h7 => ((conv => rhs; whnf) <;> exact rfl)
noncomputable def o29 (P : Params) : Obj := ⟨(.type "tuple"), none, (.seq ⟨[]⟩ 0), ⟨[]⟩⟩
noncomputable def o30 (P : Params) : Obj := ⟨.none, none, (.fields ⟨[]⟩), ⟨[]⟩⟩
noncomputable def o31 (P : Params) : Obj := ⟨(.type "tuple"), none, (.seq ⟨[(.str (.ofString "instruction") 220)]⟩ 0), ⟨[]⟩⟩
noncomputable def o32 (P : Params) : Obj := ⟨(.type "tuple"), none, (.seq ⟨[]⟩ 0), ⟨[]⟩⟩
noncomputable def o33 (P : Params) : Obj := ⟨.none, none, .func ⟨(.ofString "a_of"), (.ofString "a_of"), (sA (st 10)), .stmts (sB (st 10)), (sS (st 10)), 0, [], .none, .none, .none, .none, none, .none, .none, 0⟩, ⟨[]⟩⟩
noncomputable def o34 (P : Params) : Obj := ⟨(.type "code"), none, (.fields ⟨[(.str (.ofString "a_of") 217), (.str (.ofString "a_of") 218), (.str (.ofString "/claim/cut.py") 219), (.int 14 0), (.int 1 0), (.int 0 0), (.int 0 0), (.int 3 0), (.ref 29), (.bool true), (.int 181 0), (.ref 30), .none, (.ref 31), (.ref 32), (.ref 33), (.int 221 0), (.int 14 0), (.str (.ofString "/claim/cut.py") 222)]⟩), ⟨[]⟩⟩
noncomputable def o35 (P : Params) : Obj := by
  refine' (fun (b : List Stmt) (_ : b = sB (st 10)) (a : Arguments) (_ : a = sA (st 10)) (c : Scope) (_ : c = sS (st 10)) => (⟨(.type "function"), none, .func ⟨(.ofString "a_of"), (.ofString "a_of"), a, .stmts b, c, 3, [], .none, .none, .none, (.str (.ofString "lua.fields") 194), none, (.ref 34), .none, 0⟩, ⟨[]⟩⟩ : Obj)) _ ?h9 _ ?h8 _ ?h7
  case h9 => ((conv => rhs; whnf) <;> exact rfl)
  case h8 => ((conv => rhs; whnf) <;> exact rfl)
  case h7 => ((conv => rhs; whnf) <;> exact rfl)
noncomputable def o36 (P : Params) : Obj := ⟨(.type "tuple"), none, (.seq ⟨[]⟩ 0), ⟨[]⟩⟩
noncomputable def o37 (P : Params) : Obj := ⟨.none, none, (.fields ⟨[]⟩), ⟨[]⟩⟩
noncomputable def o38 (P : Params) : Obj := ⟨(.type "tuple"), none, (.seq ⟨[(.str (.ofString "instruction") 227)]⟩ 0), ⟨[]⟩⟩
noncomputable def o39 (P : Params) : Obj := ⟨(.type "tuple"), none, (.seq ⟨[]⟩ 0), ⟨[]⟩⟩
noncomputable def o40 (P : Params) : Obj := ⟨.none, none, .func ⟨(.ofString "b_of"), (.ofString "b_of"), (sA (st 11)), .stmts (sB (st 11)), (sS (st 11)), 0, [], .none, .none, .none, .none, none, .none, .none, 0⟩, ⟨[]⟩⟩
noncomputable def o41 (P : Params) : Obj := ⟨(.type "code"), none, (.fields ⟨[(.str (.ofString "b_of") 224), (.str (.ofString "b_of") 225), (.str (.ofString "/claim/cut.py") 226), (.int 16 0), (.int 1 0), (.int 0 0), (.int 0 0), (.int 3 0), (.ref 36), (.bool true), (.int 181 0), (.ref 37), .none, (.ref 38), (.ref 39), (.ref 40), (.int 228 0), (.int 16 0), (.str (.ofString "/claim/cut.py") 229)]⟩), ⟨[]⟩⟩
noncomputable def o42 (P : Params) : Obj := by
  refine' (fun (b : List Stmt) (_ : b = sB (st 11)) (a : Arguments) (_ : a = sA (st 11)) (c : Scope) (_ : c = sS (st 11)) => (⟨(.type "function"), none, .func ⟨(.ofString "b_of"), (.ofString "b_of"), a, .stmts b, c, 3, [], .none, .none, .none, (.str (.ofString "lua.fields") 194), none, (.ref 41), .none, 0⟩, ⟨[]⟩⟩ : Obj)) _ ?h9 _ ?h8 _ ?h7
  case h9 => ((conv => rhs; whnf) <;> exact rfl)
  case h8 => ((conv => rhs; whnf) <;> exact rfl)
  case h7 => ((conv => rhs; whnf) <;> exact rfl)
noncomputable def o43 (P : Params) : Obj := ⟨(.type "tuple"), none, (.seq ⟨[]⟩ 0), ⟨[]⟩⟩
noncomputable def o44 (P : Params) : Obj := ⟨.none, none, (.fields ⟨[]⟩), ⟨[]⟩⟩
noncomputable def o45 (P : Params) : Obj := ⟨(.type "tuple"), none, (.seq ⟨[(.str (.ofString "instruction") 234)]⟩ 0), ⟨[]⟩⟩
noncomputable def o46 (P : Params) : Obj := ⟨(.type "tuple"), none, (.seq ⟨[]⟩ 0), ⟨[]⟩⟩
noncomputable def o47 (P : Params) : Obj := ⟨.none, none, .func ⟨(.ofString "c_of"), (.ofString "c_of"), (sA (st 12)), .stmts (sB (st 12)), (sS (st 12)), 0, [], .none, .none, .none, .none, none, .none, .none, 0⟩, ⟨[]⟩⟩
noncomputable def o48 (P : Params) : Obj := ⟨(.type "code"), none, (.fields ⟨[(.str (.ofString "c_of") 231), (.str (.ofString "c_of") 232), (.str (.ofString "/claim/cut.py") 233), (.int 18 0), (.int 1 0), (.int 0 0), (.int 0 0), (.int 3 0), (.ref 43), (.bool true), (.int 181 0), (.ref 44), .none, (.ref 45), (.ref 46), (.ref 47), (.int 235 0), (.int 18 0), (.str (.ofString "/claim/cut.py") 236)]⟩), ⟨[]⟩⟩
noncomputable def o49 (P : Params) : Obj := by
  refine' (fun (b : List Stmt) (_ : b = sB (st 12)) (a : Arguments) (_ : a = sA (st 12)) (c : Scope) (_ : c = sS (st 12)) => (⟨(.type "function"), none, .func ⟨(.ofString "c_of"), (.ofString "c_of"), a, .stmts b, c, 3, [], .none, .none, .none, (.str (.ofString "lua.fields") 194), none, (.ref 48), .none, 0⟩, ⟨[]⟩⟩ : Obj)) _ ?h9 _ ?h8 _ ?h7
  case h9 => ((conv => rhs; whnf) <;> exact rfl)
  case h8 => ((conv => rhs; whnf) <;> exact rfl)
  case h7 => ((conv => rhs; whnf) <;> exact rfl)
noncomputable def o50 (P : Params) : Obj := ⟨(.type "tuple"), none, (.seq ⟨[]⟩ 0), ⟨[]⟩⟩
noncomputable def o51 (P : Params) : Obj := ⟨.none, none, (.fields ⟨[]⟩), ⟨[]⟩⟩
noncomputable def o52 (P : Params) : Obj := ⟨(.type "tuple"), none, (.seq ⟨[(.str (.ofString "instruction") 241)]⟩ 0), ⟨[]⟩⟩
noncomputable def o53 (P : Params) : Obj := ⟨(.type "tuple"), none, (.seq ⟨[]⟩ 0), ⟨[]⟩⟩
noncomputable def o54 (P : Params) : Obj := ⟨.none, none, .func ⟨(.ofString "wide_of"), (.ofString "wide_of"), (sA (st 13)), .stmts (sB (st 13)), (sS (st 13)), 0, [], .none, .none, .none, .none, none, .none, .none, 0⟩, ⟨[]⟩⟩
noncomputable def o55 (P : Params) : Obj := ⟨(.type "code"), none, (.fields ⟨[(.str (.ofString "wide_of") 238), (.str (.ofString "wide_of") 239), (.str (.ofString "/claim/cut.py") 240), (.int 20 0), (.int 1 0), (.int 0 0), (.int 0 0), (.int 3 0), (.ref 50), (.bool true), (.int 181 0), (.ref 51), .none, (.ref 52), (.ref 53), (.ref 54), (.int 242 0), (.int 20 0), (.str (.ofString "/claim/cut.py") 243)]⟩), ⟨[]⟩⟩
noncomputable def o56 (P : Params) : Obj := by
  refine' (fun (b : List Stmt) (_ : b = sB (st 13)) (a : Arguments) (_ : a = sA (st 13)) (c : Scope) (_ : c = sS (st 13)) => (⟨(.type "function"), none, .func ⟨(.ofString "wide_of"), (.ofString "wide_of"), a, .stmts b, c, 3, [], .none, .none, .none, (.str (.ofString "lua.fields") 194), none, (.ref 55), .none, 0⟩, ⟨[]⟩⟩ : Obj)) _ ?h9 _ ?h8 _ ?h7
  case h9 => ((conv => rhs; whnf) <;> exact rfl)
  case h8 => ((conv => rhs; whnf) <;> exact rfl)
  case h7 => ((conv => rhs; whnf) <;> exact rfl)
noncomputable def o57 (P : Params) : Obj := ⟨(.type "tuple"), none, (.seq ⟨[]⟩ 0), ⟨[]⟩⟩
noncomputable def o58 (P : Params) : Obj := ⟨.none, none, (.fields ⟨[]⟩), ⟨[]⟩⟩
noncomputable def o59 (P : Params) : Obj := ⟨(.type "tuple"), none, (.seq ⟨[(.str (.ofString "instruction") 248)]⟩ 0), ⟨[]⟩⟩
noncomputable def o60 (P : Params) : Obj := ⟨(.type "tuple"), none, (.seq ⟨[]⟩ 0), ⟨[]⟩⟩
noncomputable def o61 (P : Params) : Obj := ⟨.none, none, .func ⟨(.ofString "jump_of"), (.ofString "jump_of"), (sA (st 14)), .stmts (sB (st 14)), (sS (st 14)), 0, [], .none, .none, .none, .none, none, .none, .none, 0⟩, ⟨[]⟩⟩
noncomputable def o62 (P : Params) : Obj := ⟨(.type "code"), none, (.fields ⟨[(.str (.ofString "jump_of") 245), (.str (.ofString "jump_of") 246), (.str (.ofString "/claim/cut.py") 247), (.int 22 0), (.int 1 0), (.int 0 0), (.int 0 0), (.int 3 0), (.ref 57), (.bool true), (.int 181 0), (.ref 58), .none, (.ref 59), (.ref 60), (.ref 61), (.int 249 0), (.int 22 0), (.str (.ofString "/claim/cut.py") 250)]⟩), ⟨[]⟩⟩
noncomputable def o63 (P : Params) : Obj := by
  refine' (fun (b : List Stmt) (_ : b = sB (st 14)) (a : Arguments) (_ : a = sA (st 14)) (c : Scope) (_ : c = sS (st 14)) => (⟨(.type "function"), none, .func ⟨(.ofString "jump_of"), (.ofString "jump_of"), a, .stmts b, c, 3, [], .none, .none, .none, (.str (.ofString "lua.fields") 194), none, (.ref 62), .none, 0⟩, ⟨[]⟩⟩ : Obj)) _ ?h9 _ ?h8 _ ?h7
  case h9 => ((conv => rhs; whnf) <;> exact rfl)
  case h8 => ((conv => rhs; whnf) <;> exact rfl)
  case h7 => ((conv => rhs; whnf) <;> exact rfl)
noncomputable def o64 (P : Params) : Obj := ⟨(.type "tuple"), none, (.seq ⟨[]⟩ 0), ⟨[]⟩⟩
noncomputable def o65 (P : Params) : Obj := ⟨(.type "builtin_function_or_method"), none, (.fields ⟨[(.builtin "type.__prepare__"), (.type "type")]⟩), ⟨[]⟩⟩
noncomputable def o66 (P : Params) : Obj := ⟨(.type "dict"), none, (.dict ⟨[de P (.ofString "__module__") 263 (.str (.ofString "lua.values") 252), de P (.ofString "__qualname__") 265 (.str (.ofString "Limits") 264), de P (.ofString "__firstlineno__") 267 (.int 26 266), de P (.ofString "__init__") 294 (.ref 78), de P (.ofString "greatest") 301 (.ref 85), de P (.ofString "least") 308 (.ref 92), de P (.ofString "__static_attributes__") 319 (.ref 93)]⟩ 7), ⟨[]⟩⟩
noncomputable def o67 (P : Params) : Obj := ⟨(.type "tuple"), none, (.seq ⟨[]⟩ 0), ⟨[]⟩⟩
noncomputable def o68 (P : Params) : Obj := ⟨.none, none, (.fields ⟨[(.int 28 0), (.int 4 0), (.ref 77), (.int 40 0), (.int 4 0), (.ref 84), (.int 43 0), (.int 4 0), (.ref 91)]⟩), ⟨[]⟩⟩
noncomputable def o69 (P : Params) : Obj := ⟨(.type "code"), none, (.fields ⟨[(.str (.ofString "Limits") 258), (.str (.ofString "Limits") 259), (.str (.ofString "/claim/cut.py") 260), (.int 26 0), (.int 0 0), (.int 0 0), (.int 0 0), (.int 0 0), (.ref 67), (.bool false), (.int 181 0), (.ref 68), .none, .none, .none, .none, (.int 261 0), (.int 26 0), (.str (.ofString "/claim/cut.py") 262)]⟩), ⟨[]⟩⟩
noncomputable def o70 (P : Params) : Obj := ⟨(.type "frame"), none, .plain, ⟨[(some (.ref 69)), (some (.ref 3)), (some (.ref 66)), none, (some (.str (.ofString "lua.values") 252)), none, (some (.ref 0))]⟩⟩
noncomputable def o71 (P : Params) : Obj := ⟨(.type "tuple"), none, (.seq ⟨[(.int 64 268), (.int 250 269), (.int 60 270), (.int 200 271), (.int 40 272), (.int 200 273), (.int 2000 274), (.int 50 275), (.int 1000000000 276), (.int 1000000 277)]⟩ 0), ⟨[]⟩⟩
noncomputable def o72 (P : Params) : Obj := ⟨(.type "tuple"), none, (.seq ⟨[]⟩ 0), ⟨[]⟩⟩
noncomputable def o73 (P : Params) : Obj := ⟨.none, none, (.fields ⟨[]⟩), ⟨[]⟩⟩
noncomputable def o74 (P : Params) : Obj := ⟨(.type "tuple"), none, (.seq ⟨[(.str (.ofString "self") 281), (.str (.ofString "width") 282), (.str (.ofString "registers") 283), (.str (.ofString "upvalues") 284), (.str (.ofString "local_names") 285), (.str (.ofString "ccalls") 286), (.str (.ofString "frames") 287), (.str (.ofString "stack") 288), (.str (.ofString "flush") 289), (.str (.ofString "steps") 290), (.str (.ofString "text") 291)]⟩ 0), ⟨[]⟩⟩
noncomputable def o75 (P : Params) : Obj := ⟨(.type "tuple"), none, (.seq ⟨[]⟩ 0), ⟨[]⟩⟩
noncomputable def o76 (P : Params) : Obj := ⟨.none, none, .func ⟨(.ofString "__init__"), (.ofString "Limits.__init__"), (sA (sm 17 0)), .stmts (sB (sm 17 0)), (sS (sm 17 0)), 0, [], .none, .none, .none, .none, none, .none, .none, 0⟩, ⟨[]⟩⟩
noncomputable def o77 (P : Params) : Obj := ⟨(.type "code"), none, (.fields ⟨[(.str (.ofString "__init__") 278), (.str (.ofString "Limits.__init__") 279), (.str (.ofString "/claim/cut.py") 280), (.int 28 0), (.int 11 0), (.int 0 0), (.int 0 0), (.int 3 0), (.ref 72), (.bool true), (.int 181 0), (.ref 73), .none, (.ref 74), (.ref 75), (.ref 76), (.int 292 0), (.int 28 0), (.str (.ofString "/claim/cut.py") 293)]⟩), ⟨[]⟩⟩
noncomputable def o78 (P : Params) : Obj := by
  refine' (fun (b : List Stmt) (_ : b = sB (sm 17 0)) (a : Arguments) (_ : a = sA (sm 17 0)) (c : Scope) (_ : c = sS (sm 17 0)) => (⟨(.type "function"), none, .func ⟨(.ofString "__init__"), (.ofString "Limits.__init__"), a, .stmts b, c, 3, [], (.ref 71), .none, .none, (.str (.ofString "lua.values") 252), none, (.ref 77), .none, 0⟩, ⟨[]⟩⟩ : Obj)) _ ?h9 _ ?h8 _ ?h7
  case h9 => ((conv => rhs; whnf) <;> exact rfl)
  case h8 => ((conv => rhs; whnf) <;> exact rfl)
  case h7 => ((conv => rhs; whnf) <;> exact rfl)
noncomputable def o79 (P : Params) : Obj := ⟨(.type "tuple"), none, (.seq ⟨[]⟩ 0), ⟨[]⟩⟩
noncomputable def o80 (P : Params) : Obj := ⟨.none, none, (.fields ⟨[]⟩), ⟨[]⟩⟩
noncomputable def o81 (P : Params) : Obj := ⟨(.type "tuple"), none, (.seq ⟨[(.str (.ofString "self") 298)]⟩ 0), ⟨[]⟩⟩
noncomputable def o82 (P : Params) : Obj := ⟨(.type "tuple"), none, (.seq ⟨[]⟩ 0), ⟨[]⟩⟩
noncomputable def o83 (P : Params) : Obj := ⟨.none, none, .func ⟨(.ofString "greatest"), (.ofString "Limits.greatest"), (sA (sm 17 1)), .stmts (sB (sm 17 1)), (sS (sm 17 1)), 0, [], .none, .none, .none, .none, none, .none, .none, 0⟩, ⟨[]⟩⟩
noncomputable def o84 (P : Params) : Obj := ⟨(.type "code"), none, (.fields ⟨[(.str (.ofString "greatest") 295), (.str (.ofString "Limits.greatest") 296), (.str (.ofString "/claim/cut.py") 297), (.int 40 0), (.int 1 0), (.int 0 0), (.int 0 0), (.int 3 0), (.ref 79), (.bool true), (.int 181 0), (.ref 80), .none, (.ref 81), (.ref 82), (.ref 83), (.int 299 0), (.int 40 0), (.str (.ofString "/claim/cut.py") 300)]⟩), ⟨[]⟩⟩
noncomputable def o85 (P : Params) : Obj := by
  refine' (fun (b : List Stmt) (_ : b = sB (sm 17 1)) (a : Arguments) (_ : a = sA (sm 17 1)) (c : Scope) (_ : c = sS (sm 17 1)) => (⟨(.type "function"), none, .func ⟨(.ofString "greatest"), (.ofString "Limits.greatest"), a, .stmts b, c, 3, [], .none, .none, .none, (.str (.ofString "lua.values") 252), none, (.ref 84), .none, 0⟩, ⟨[]⟩⟩ : Obj)) _ ?h9 _ ?h8 _ ?h7
  case h9 => ((conv => rhs; whnf) <;> exact rfl)
  case h8 => ((conv => rhs; whnf) <;> exact rfl)
  case h7 => ((conv => rhs; whnf) <;> exact rfl)
noncomputable def o86 (P : Params) : Obj := ⟨(.type "tuple"), none, (.seq ⟨[]⟩ 0), ⟨[]⟩⟩
noncomputable def o87 (P : Params) : Obj := ⟨.none, none, (.fields ⟨[]⟩), ⟨[]⟩⟩
noncomputable def o88 (P : Params) : Obj := ⟨(.type "tuple"), none, (.seq ⟨[(.str (.ofString "self") 305)]⟩ 0), ⟨[]⟩⟩
noncomputable def o89 (P : Params) : Obj := ⟨(.type "tuple"), none, (.seq ⟨[]⟩ 0), ⟨[]⟩⟩
noncomputable def o90 (P : Params) : Obj := ⟨.none, none, .func ⟨(.ofString "least"), (.ofString "Limits.least"), (sA (sm 17 2)), .stmts (sB (sm 17 2)), (sS (sm 17 2)), 0, [], .none, .none, .none, .none, none, .none, .none, 0⟩, ⟨[]⟩⟩
noncomputable def o91 (P : Params) : Obj := ⟨(.type "code"), none, (.fields ⟨[(.str (.ofString "least") 302), (.str (.ofString "Limits.least") 303), (.str (.ofString "/claim/cut.py") 304), (.int 43 0), (.int 1 0), (.int 0 0), (.int 0 0), (.int 3 0), (.ref 86), (.bool true), (.int 181 0), (.ref 87), .none, (.ref 88), (.ref 89), (.ref 90), (.int 306 0), (.int 43 0), (.str (.ofString "/claim/cut.py") 307)]⟩), ⟨[]⟩⟩
noncomputable def o92 (P : Params) : Obj := by
  refine' (fun (b : List Stmt) (_ : b = sB (sm 17 2)) (a : Arguments) (_ : a = sA (sm 17 2)) (c : Scope) (_ : c = sS (sm 17 2)) => (⟨(.type "function"), none, .func ⟨(.ofString "least"), (.ofString "Limits.least"), a, .stmts b, c, 3, [], .none, .none, .none, (.str (.ofString "lua.values") 252), none, (.ref 91), .none, 0⟩, ⟨[]⟩⟩ : Obj)) _ ?h9 _ ?h8 _ ?h7
  case h9 => ((conv => rhs; whnf) <;> exact rfl)
  case h8 => ((conv => rhs; whnf) <;> exact rfl)
  case h7 => ((conv => rhs; whnf) <;> exact rfl)
noncomputable def o93 (P : Params) : Obj := ⟨(.type "tuple"), none, (.seq ⟨[(.str (.ofString "ccalls") 309), (.str (.ofString "flush") 310), (.str (.ofString "frames") 311), (.str (.ofString "local_names") 312), (.str (.ofString "registers") 313), (.str (.ofString "stack") 314), (.str (.ofString "steps") 315), (.str (.ofString "text") 316), (.str (.ofString "upvalues") 317), (.str (.ofString "width") 318)]⟩ 0), ⟨[]⟩⟩
noncomputable def o94 (P : Params) : Obj := ⟨(.type "dict"), none, (.dict ⟨[de P (.ofString "__module__") 263 (.str (.ofString "lua.values") 252), de P (.ofString "__firstlineno__") 267 (.int 26 266), de P (.ofString "__init__") 294 (.ref 78), de P (.ofString "greatest") 301 (.ref 85), de P (.ofString "least") 308 (.ref 92), de P (.ofString "__static_attributes__") 319 (.ref 93), de P (.ofString "__dict__") 321 (.ref 96), de P (.ofString "__weakref__") 323 (.ref 97), de P (.ofString "__doc__") 324 .none]⟩ 4), ⟨[]⟩⟩
noncomputable def o95 (P : Params) : Obj := ⟨(.type "type"), none, (.cls ⟨(.ofString "Limits"), [(.type "object")], [(.ref 95), (.type "object")], 94, (.ofString "Limits"), true, [], [], false, none, false⟩), ⟨[none, none, (some (.str (.ofString "Limits") 256)), (some (.str (.ofString "Limits") 264)), (some (.builtin "object.__new__")), (some (.bool true))]⟩⟩
noncomputable def o96 (P : Params) : Obj := ⟨(.type "getset_descriptor"), none, (.fields ⟨[(.str (.ofString "__dict__") 320), (.ref 95), (.builtin "function.__dict__"), (.builtin "function.__dict__#set")]⟩), ⟨[]⟩⟩
noncomputable def o97 (P : Params) : Obj := ⟨(.type "getset_descriptor"), none, (.fields ⟨[(.str (.ofString "__weakref__") 322), (.ref 95), (.builtin "ExceptionGroup.__weakref__"), .none]⟩), ⟨[]⟩⟩
noncomputable def o98 (P : Params) : Obj := ⟨(.type "super"), none, (.fields ⟨[(.ref 95), (.ref 95), (.ref 95)]⟩), ⟨[]⟩⟩
noncomputable def o99 (P : Params) : Obj := ⟨(.type "builtin_function_or_method"), none, (.fields ⟨[(.builtin "object.__init_subclass__"), (.ref 95)]⟩), ⟨[]⟩⟩
noncomputable def o100 (P : Params) : Obj := ⟨(.type "tuple"), none, (.seq ⟨[(.type "Exception")]⟩ 0), ⟨[]⟩⟩
noncomputable def o101 (P : Params) : Obj := ⟨(.type "builtin_function_or_method"), none, (.fields ⟨[(.builtin "type.__prepare__"), (.type "type")]⟩), ⟨[]⟩⟩
noncomputable def o102 (P : Params) : Obj := ⟨(.type "dict"), none, (.dict ⟨[de P (.ofString "__module__") 334 (.str (.ofString "lua.values") 252), de P (.ofString "__qualname__") 336 (.str (.ofString "LuaError") 335), de P (.ofString "__firstlineno__") 338 (.int 45 337), de P (.ofString "__init__") 346 (.ref 113), de P (.ofString "__static_attributes__") 350 (.ref 114)]⟩ 5), ⟨[]⟩⟩
noncomputable def o103 (P : Params) : Obj := ⟨(.type "tuple"), none, (.seq ⟨[]⟩ 0), ⟨[]⟩⟩
noncomputable def o104 (P : Params) : Obj := ⟨.none, none, (.fields ⟨[(.int 47 0), (.int 4 0), (.ref 112)]⟩), ⟨[]⟩⟩
noncomputable def o105 (P : Params) : Obj := ⟨(.type "code"), none, (.fields ⟨[(.str (.ofString "LuaError") 329), (.str (.ofString "LuaError") 330), (.str (.ofString "/claim/cut.py") 331), (.int 45 0), (.int 0 0), (.int 0 0), (.int 0 0), (.int 0 0), (.ref 103), (.bool false), (.int 181 0), (.ref 104), .none, .none, .none, .none, (.int 332 0), (.int 45 0), (.str (.ofString "/claim/cut.py") 333)]⟩), ⟨[]⟩⟩
noncomputable def o106 (P : Params) : Obj := ⟨(.type "frame"), none, .plain, ⟨[(some (.ref 105)), (some (.ref 3)), (some (.ref 102)), none, (some (.str (.ofString "lua.values") 252)), none, (some (.ref 0))]⟩⟩
noncomputable def o107 (P : Params) : Obj := ⟨(.type "tuple"), none, (.seq ⟨[]⟩ 0), ⟨[]⟩⟩
noncomputable def o108 (P : Params) : Obj := ⟨.none, none, (.fields ⟨[]⟩), ⟨[]⟩⟩
noncomputable def o109 (P : Params) : Obj := ⟨(.type "tuple"), none, (.seq ⟨[(.str (.ofString "self") 342), (.str (.ofString "value") 343)]⟩ 0), ⟨[]⟩⟩
noncomputable def o110 (P : Params) : Obj := ⟨(.type "tuple"), none, (.seq ⟨[]⟩ 0), ⟨[]⟩⟩
noncomputable def o111 (P : Params) : Obj := ⟨.none, none, .func ⟨(.ofString "__init__"), (.ofString "LuaError.__init__"), (sA (sm 18 0)), .stmts (sB (sm 18 0)), (sS (sm 18 0)), 0, [], .none, .none, .none, .none, none, .none, .none, 0⟩, ⟨[]⟩⟩
noncomputable def o112 (P : Params) : Obj := ⟨(.type "code"), none, (.fields ⟨[(.str (.ofString "__init__") 339), (.str (.ofString "LuaError.__init__") 340), (.str (.ofString "/claim/cut.py") 341), (.int 47 0), (.int 2 0), (.int 0 0), (.int 0 0), (.int 3 0), (.ref 107), (.bool true), (.int 181 0), (.ref 108), .none, (.ref 109), (.ref 110), (.ref 111), (.int 344 0), (.int 47 0), (.str (.ofString "/claim/cut.py") 345)]⟩), ⟨[]⟩⟩
noncomputable def o113 (P : Params) : Obj := by
  refine' (fun (b : List Stmt) (_ : b = sB (sm 18 0)) (a : Arguments) (_ : a = sA (sm 18 0)) (c : Scope) (_ : c = sS (sm 18 0)) => (⟨(.type "function"), none, .func ⟨(.ofString "__init__"), (.ofString "LuaError.__init__"), a, .stmts b, c, 3, [], .none, .none, .none, (.str (.ofString "lua.values") 252), none, (.ref 112), .none, 0⟩, ⟨[]⟩⟩ : Obj)) _ ?h9 _ ?h8 _ ?h7
  case h9 => ((conv => rhs; whnf) <;> exact rfl)
  case h8 => ((conv => rhs; whnf) <;> exact rfl)
  case h7 => ((conv => rhs; whnf) <;> exact rfl)
noncomputable def o114 (P : Params) : Obj := ⟨(.type "tuple"), none, (.seq ⟨[(.str (.ofString "is_in_handler") 347), (.str (.ofString "trace") 348), (.str (.ofString "value") 349)]⟩ 0), ⟨[]⟩⟩
noncomputable def o115 (P : Params) : Obj := ⟨(.type "dict"), none, (.dict ⟨[de P (.ofString "__module__") 334 (.str (.ofString "lua.values") 252), de P (.ofString "__firstlineno__") 338 (.int 45 337), de P (.ofString "__init__") 346 (.ref 113), de P (.ofString "__static_attributes__") 350 (.ref 114), de P (.ofString "__weakref__") 352 (.ref 117), de P (.ofString "__doc__") 353 .none]⟩ 3), ⟨[]⟩⟩
noncomputable def o116 (P : Params) : Obj := ⟨(.type "type"), none, (.cls ⟨(.ofString "LuaError"), [(.type "Exception")], [(.ref 116), (.type "Exception"), (.type "BaseException"), (.type "object")], 115, (.ofString "LuaError"), true, [], [], false, none, false⟩), ⟨[(some (.ref 100)), none, (some (.str (.ofString "LuaError") 327)), (some (.str (.ofString "LuaError") 335)), (some (.builtin "Exception.__new__")), (some (.bool true))]⟩⟩
noncomputable def o117 (P : Params) : Obj := ⟨(.type "getset_descriptor"), none, (.fields ⟨[(.str (.ofString "__weakref__") 351), (.ref 116), (.builtin "ExceptionGroup.__weakref__"), .none]⟩), ⟨[]⟩⟩
noncomputable def o118 (P : Params) : Obj := ⟨(.type "super"), none, (.fields ⟨[(.ref 116), (.ref 116), (.ref 116)]⟩), ⟨[]⟩⟩
noncomputable def o119 (P : Params) : Obj := ⟨(.type "builtin_function_or_method"), none, (.fields ⟨[(.builtin "object.__init_subclass__"), (.ref 116)]⟩), ⟨[]⟩⟩
noncomputable def o120 (P : Params) : Obj := ⟨(.type "tuple"), none, (.seq ⟨[(.type "Exception")]⟩ 0), ⟨[]⟩⟩
noncomputable def o121 (P : Params) : Obj := ⟨(.type "builtin_function_or_method"), none, (.fields ⟨[(.builtin "type.__prepare__"), (.type "type")]⟩), ⟨[]⟩⟩
noncomputable def o122 (P : Params) : Obj := ⟨(.type "dict"), none, (.dict ⟨[de P (.ofString "__module__") 365 (.str (.ofString "lua.values") 252), de P (.ofString "__qualname__") 367 (.str (.ofString "ApiError") 366), de P (.ofString "__firstlineno__") 369 (.int 51 368), de P (.ofString "__init__") 377 (.ref 133), de P (.ofString "__static_attributes__") 379 (.ref 134)]⟩ 5), ⟨[]⟩⟩
noncomputable def o123 (P : Params) : Obj := ⟨(.type "tuple"), none, (.seq ⟨[]⟩ 0), ⟨[]⟩⟩
noncomputable def o124 (P : Params) : Obj := ⟨.none, none, (.fields ⟨[(.int 53 0), (.int 4 0), (.ref 132)]⟩), ⟨[]⟩⟩
noncomputable def o125 (P : Params) : Obj := ⟨(.type "code"), none, (.fields ⟨[(.str (.ofString "ApiError") 360), (.str (.ofString "ApiError") 361), (.str (.ofString "/claim/cut.py") 362), (.int 51 0), (.int 0 0), (.int 0 0), (.int 0 0), (.int 0 0), (.ref 123), (.bool false), (.int 181 0), (.ref 124), .none, .none, .none, .none, (.int 363 0), (.int 51 0), (.str (.ofString "/claim/cut.py") 364)]⟩), ⟨[]⟩⟩
noncomputable def o126 (P : Params) : Obj := ⟨(.type "frame"), none, .plain, ⟨[(some (.ref 125)), (some (.ref 3)), (some (.ref 122)), none, (some (.str (.ofString "lua.values") 252)), none, (some (.ref 0))]⟩⟩
noncomputable def o127 (P : Params) : Obj := ⟨(.type "tuple"), none, (.seq ⟨[]⟩ 0), ⟨[]⟩⟩
noncomputable def o128 (P : Params) : Obj := ⟨.none, none, (.fields ⟨[]⟩), ⟨[]⟩⟩
noncomputable def o129 (P : Params) : Obj := ⟨(.type "tuple"), none, (.seq ⟨[(.str (.ofString "self") 373), (.str (.ofString "text") 374)]⟩ 0), ⟨[]⟩⟩
noncomputable def o130 (P : Params) : Obj := ⟨(.type "tuple"), none, (.seq ⟨[]⟩ 0), ⟨[]⟩⟩
noncomputable def o131 (P : Params) : Obj := ⟨.none, none, .func ⟨(.ofString "__init__"), (.ofString "ApiError.__init__"), (sA (sm 19 0)), .stmts (sB (sm 19 0)), (sS (sm 19 0)), 0, [], .none, .none, .none, .none, none, .none, .none, 0⟩, ⟨[]⟩⟩
noncomputable def o132 (P : Params) : Obj := ⟨(.type "code"), none, (.fields ⟨[(.str (.ofString "__init__") 370), (.str (.ofString "ApiError.__init__") 371), (.str (.ofString "/claim/cut.py") 372), (.int 53 0), (.int 2 0), (.int 0 0), (.int 0 0), (.int 3 0), (.ref 127), (.bool true), (.int 181 0), (.ref 128), .none, (.ref 129), (.ref 130), (.ref 131), (.int 375 0), (.int 53 0), (.str (.ofString "/claim/cut.py") 376)]⟩), ⟨[]⟩⟩
noncomputable def o133 (P : Params) : Obj := by
  refine' (fun (b : List Stmt) (_ : b = sB (sm 19 0)) (a : Arguments) (_ : a = sA (sm 19 0)) (c : Scope) (_ : c = sS (sm 19 0)) => (⟨(.type "function"), none, .func ⟨(.ofString "__init__"), (.ofString "ApiError.__init__"), a, .stmts b, c, 3, [], .none, .none, .none, (.str (.ofString "lua.values") 252), none, (.ref 132), .none, 0⟩, ⟨[]⟩⟩ : Obj)) _ ?h9 _ ?h8 _ ?h7
  case h9 => ((conv => rhs; whnf) <;> exact rfl)
  case h8 => ((conv => rhs; whnf) <;> exact rfl)
  case h7 => ((conv => rhs; whnf) <;> exact rfl)
noncomputable def o134 (P : Params) : Obj := ⟨(.type "tuple"), none, (.seq ⟨[(.str (.ofString "text") 378)]⟩ 0), ⟨[]⟩⟩
noncomputable def o135 (P : Params) : Obj := ⟨(.type "dict"), none, (.dict ⟨[de P (.ofString "__module__") 365 (.str (.ofString "lua.values") 252), de P (.ofString "__firstlineno__") 369 (.int 51 368), de P (.ofString "__init__") 377 (.ref 133), de P (.ofString "__static_attributes__") 379 (.ref 134), de P (.ofString "__weakref__") 381 (.ref 137), de P (.ofString "__doc__") 382 .none]⟩ 3), ⟨[]⟩⟩
noncomputable def o136 (P : Params) : Obj := ⟨(.type "type"), none, (.cls ⟨(.ofString "ApiError"), [(.type "Exception")], [(.ref 136), (.type "Exception"), (.type "BaseException"), (.type "object")], 135, (.ofString "ApiError"), true, [], [], false, none, false⟩), ⟨[(some (.ref 120)), none, (some (.str (.ofString "ApiError") 358)), (some (.str (.ofString "ApiError") 366)), (some (.builtin "Exception.__new__")), (some (.bool true))]⟩⟩
noncomputable def o137 (P : Params) : Obj := ⟨(.type "getset_descriptor"), none, (.fields ⟨[(.str (.ofString "__weakref__") 380), (.ref 136), (.builtin "ExceptionGroup.__weakref__"), .none]⟩), ⟨[]⟩⟩
noncomputable def o138 (P : Params) : Obj := ⟨(.type "super"), none, (.fields ⟨[(.ref 136), (.ref 136), (.ref 136)]⟩), ⟨[]⟩⟩
noncomputable def o139 (P : Params) : Obj := ⟨(.type "builtin_function_or_method"), none, (.fields ⟨[(.builtin "object.__init_subclass__"), (.ref 136)]⟩), ⟨[]⟩⟩
noncomputable def o140 (P : Params) : Obj := ⟨(.type "tuple"), none, (.seq ⟨[]⟩ 0), ⟨[]⟩⟩
noncomputable def o141 (P : Params) : Obj := ⟨.none, none, (.fields ⟨[]⟩), ⟨[]⟩⟩
noncomputable def o142 (P : Params) : Obj := ⟨(.type "tuple"), none, (.seq ⟨[(.str (.ofString "value") 390)]⟩ 0), ⟨[]⟩⟩
noncomputable def o143 (P : Params) : Obj := ⟨(.type "tuple"), none, (.seq ⟨[]⟩ 0), ⟨[]⟩⟩
noncomputable def o144 (P : Params) : Obj := ⟨.none, none, .func ⟨(.ofString "is_number"), (.ofString "is_number"), (sA (st 20)), .stmts (sB (st 20)), (sS (st 20)), 0, [], .none, .none, .none, .none, none, .none, .none, 0⟩, ⟨[]⟩⟩
noncomputable def o145 (P : Params) : Obj := ⟨(.type "code"), none, (.fields ⟨[(.str (.ofString "is_number") 387), (.str (.ofString "is_number") 388), (.str (.ofString "/claim/cut.py") 389), (.int 55 0), (.int 1 0), (.int 0 0), (.int 0 0), (.int 3 0), (.ref 140), (.bool true), (.int 181 0), (.ref 141), .none, (.ref 142), (.ref 143), (.ref 144), (.int 391 0), (.int 55 0), (.str (.ofString "/claim/cut.py") 392)]⟩), ⟨[]⟩⟩
noncomputable def o146 (P : Params) : Obj := by
  refine' (fun (b : List Stmt) (_ : b = sB (st 20)) (a : Arguments) (_ : a = sA (st 20)) (c : Scope) (_ : c = sS (st 20)) => (⟨(.type "function"), none, .func ⟨(.ofString "is_number"), (.ofString "is_number"), a, .stmts b, c, 3, [], .none, .none, .none, (.str (.ofString "lua.values") 252), none, (.ref 145), .none, 0⟩, ⟨[]⟩⟩ : Obj)) _ ?h9 _ ?h8 _ ?h7
  case h9 => ((conv => rhs; whnf) <;> exact rfl)
  case h8 => ((conv => rhs; whnf) <;> exact rfl)
  case h7 => ((conv => rhs; whnf) <;> exact rfl)
noncomputable def o147 (P : Params) : Obj := ⟨(.type "tuple"), none, (.seq ⟨[]⟩ 0), ⟨[]⟩⟩
noncomputable def o148 (P : Params) : Obj := ⟨.none, none, (.fields ⟨[]⟩), ⟨[]⟩⟩
noncomputable def o149 (P : Params) : Obj := ⟨(.type "tuple"), none, (.seq ⟨[(.str (.ofString "value") 397)]⟩ 0), ⟨[]⟩⟩
noncomputable def o150 (P : Params) : Obj := ⟨(.type "tuple"), none, (.seq ⟨[]⟩ 0), ⟨[]⟩⟩
noncomputable def o151 (P : Params) : Obj := ⟨.none, none, .func ⟨(.ofString "is_false"), (.ofString "is_false"), (sA (st 21)), .stmts (sB (st 21)), (sS (st 21)), 0, [], .none, .none, .none, .none, none, .none, .none, 0⟩, ⟨[]⟩⟩
noncomputable def o152 (P : Params) : Obj := ⟨(.type "code"), none, (.fields ⟨[(.str (.ofString "is_false") 394), (.str (.ofString "is_false") 395), (.str (.ofString "/claim/cut.py") 396), (.int 57 0), (.int 1 0), (.int 0 0), (.int 0 0), (.int 3 0), (.ref 147), (.bool true), (.int 181 0), (.ref 148), .none, (.ref 149), (.ref 150), (.ref 151), (.int 398 0), (.int 57 0), (.str (.ofString "/claim/cut.py") 399)]⟩), ⟨[]⟩⟩
noncomputable def o153 (P : Params) : Obj := by
  refine' (fun (b : List Stmt) (_ : b = sB (st 21)) (a : Arguments) (_ : a = sA (st 21)) (c : Scope) (_ : c = sS (st 21)) => (⟨(.type "function"), none, .func ⟨(.ofString "is_false"), (.ofString "is_false"), a, .stmts b, c, 3, [], .none, .none, .none, (.str (.ofString "lua.values") 252), none, (.ref 152), .none, 0⟩, ⟨[]⟩⟩ : Obj)) _ ?h9 _ ?h8 _ ?h7
  case h9 => ((conv => rhs; whnf) <;> exact rfl)
  case h8 => ((conv => rhs; whnf) <;> exact rfl)
  case h7 => ((conv => rhs; whnf) <;> exact rfl)
noncomputable def o154 (P : Params) : Obj := ⟨(.type "tuple"), none, (.seq ⟨[]⟩ 0), ⟨[]⟩⟩
noncomputable def o155 (P : Params) : Obj := ⟨.none, none, (.fields ⟨[]⟩), ⟨[]⟩⟩
noncomputable def o156 (P : Params) : Obj := ⟨(.type "tuple"), none, (.seq ⟨[(.str (.ofString "n") 404), (.str (.ofString "width") 405), (.str (.ofString "low") 406)]⟩ 0), ⟨[]⟩⟩
noncomputable def o157 (P : Params) : Obj := ⟨(.type "tuple"), none, (.seq ⟨[]⟩ 0), ⟨[]⟩⟩
noncomputable def o158 (P : Params) : Obj := ⟨.none, none, .func ⟨(.ofString "wrap"), (.ofString "wrap"), (sA (st 22)), .stmts (sB (st 22)), (sS (st 22)), 0, [], .none, .none, .none, .none, none, .none, .none, 0⟩, ⟨[]⟩⟩
noncomputable def o159 (P : Params) : Obj := ⟨(.type "code"), none, (.fields ⟨[(.str (.ofString "wrap") 401), (.str (.ofString "wrap") 402), (.str (.ofString "/claim/cut.py") 403), (.int 61 0), (.int 2 0), (.int 0 0), (.int 0 0), (.int 3 0), (.ref 154), (.bool true), (.int 181 0), (.ref 155), .none, (.ref 156), (.ref 157), (.ref 158), (.int 407 0), (.int 61 0), (.str (.ofString "/claim/cut.py") 408)]⟩), ⟨[]⟩⟩
noncomputable def o160 (P : Params) : Obj := by
  refine' (fun (b : List Stmt) (_ : b = sB (st 22)) (a : Arguments) (_ : a = sA (st 22)) (c : Scope) (_ : c = sS (st 22)) => (⟨(.type "function"), none, .func ⟨(.ofString "wrap"), (.ofString "wrap"), a, .stmts b, c, 3, [], .none, .none, .none, (.str (.ofString "lua.values") 252), none, (.ref 159), .none, 0⟩, ⟨[]⟩⟩ : Obj)) _ ?h9 _ ?h8 _ ?h7
  case h9 => ((conv => rhs; whnf) <;> exact rfl)
  case h8 => ((conv => rhs; whnf) <;> exact rfl)
  case h7 => ((conv => rhs; whnf) <;> exact rfl)
noncomputable def o161 (P : Params) : Obj := ⟨(.type "tuple"), none, (.seq ⟨[]⟩ 0), ⟨[]⟩⟩
noncomputable def o162 (P : Params) : Obj := ⟨.none, none, (.fields ⟨[]⟩), ⟨[]⟩⟩
noncomputable def o163 (P : Params) : Obj := ⟨(.type "tuple"), none, (.seq ⟨[(.str (.ofString "a") 413), (.str (.ofString "b") 414), (.str (.ofString "found") 415)]⟩ 0), ⟨[]⟩⟩
noncomputable def o164 (P : Params) : Obj := ⟨(.type "tuple"), none, (.seq ⟨[]⟩ 0), ⟨[]⟩⟩
noncomputable def o165 (P : Params) : Obj := ⟨.none, none, .func ⟨(.ofString "divide"), (.ofString "divide"), (sA (st 23)), .stmts (sB (st 23)), (sS (st 23)), 0, [], .none, .none, .none, .none, none, .none, .none, 0⟩, ⟨[]⟩⟩
noncomputable def o166 (P : Params) : Obj := ⟨(.type "code"), none, (.fields ⟨[(.str (.ofString "divide") 410), (.str (.ofString "divide") 411), (.str (.ofString "/claim/cut.py") 412), (.int 66 0), (.int 2 0), (.int 0 0), (.int 0 0), (.int 3 0), (.ref 161), (.bool true), (.int 181 0), (.ref 162), .none, (.ref 163), (.ref 164), (.ref 165), (.int 416 0), (.int 66 0), (.str (.ofString "/claim/cut.py") 417)]⟩), ⟨[]⟩⟩
noncomputable def o167 (P : Params) : Obj := by
  refine' (fun (b : List Stmt) (_ : b = sB (st 23)) (a : Arguments) (_ : a = sA (st 23)) (c : Scope) (_ : c = sS (st 23)) => (⟨(.type "function"), none, .func ⟨(.ofString "divide"), (.ofString "divide"), a, .stmts b, c, 3, [], .none, .none, .none, (.str (.ofString "lua.values") 252), none, (.ref 166), .none, 0⟩, ⟨[]⟩⟩ : Obj)) _ ?h9 _ ?h8 _ ?h7
  case h9 => ((conv => rhs; whnf) <;> exact rfl)
  case h8 => ((conv => rhs; whnf) <;> exact rfl)
  case h7 => ((conv => rhs; whnf) <;> exact rfl)
noncomputable def o168 (P : Params) : Obj := ⟨(.type "tuple"), none, (.seq ⟨[]⟩ 0), ⟨[]⟩⟩
noncomputable def o169 (P : Params) : Obj := ⟨.none, none, (.fields ⟨[]⟩), ⟨[]⟩⟩
noncomputable def o170 (P : Params) : Obj := ⟨(.type "tuple"), none, (.seq ⟨[(.str (.ofString "a") 422), (.str (.ofString "b") 423), (.str (.ofString "width") 424), (.str (.ofString "found") 425), (.str (.ofString "base") 426)]⟩ 0), ⟨[]⟩⟩
noncomputable def o171 (P : Params) : Obj := ⟨(.type "tuple"), none, (.seq ⟨[]⟩ 0), ⟨[]⟩⟩
noncomputable def o172 (P : Params) : Obj := ⟨.none, none, .func ⟨(.ofString "power"), (.ofString "power"), (sA (st 24)), .stmts (sB (st 24)), (sS (st 24)), 0, [], .none, .none, .none, .none, none, .none, .none, 0⟩, ⟨[]⟩⟩
noncomputable def o173 (P : Params) : Obj := ⟨(.type "code"), none, (.fields ⟨[(.str (.ofString "power") 419), (.str (.ofString "power") 420), (.str (.ofString "/claim/cut.py") 421), (.int 69 0), (.int 3 0), (.int 0 0), (.int 0 0), (.int 3 0), (.ref 168), (.bool true), (.int 181 0), (.ref 169), .none, (.ref 170), (.ref 171), (.ref 172), (.int 427 0), (.int 69 0), (.str (.ofString "/claim/cut.py") 428)]⟩), ⟨[]⟩⟩
noncomputable def o174 (P : Params) : Obj := by
  refine' (fun (b : List Stmt) (_ : b = sB (st 24)) (a : Arguments) (_ : a = sA (st 24)) (c : Scope) (_ : c = sS (st 24)) => (⟨(.type "function"), none, .func ⟨(.ofString "power"), (.ofString "power"), a, .stmts b, c, 3, [], .none, .none, .none, (.str (.ofString "lua.values") 252), none, (.ref 173), .none, 0⟩, ⟨[]⟩⟩ : Obj)) _ ?h9 _ ?h8 _ ?h7
  case h9 => ((conv => rhs; whnf) <;> exact rfl)
  case h8 => ((conv => rhs; whnf) <;> exact rfl)
  case h7 => ((conv => rhs; whnf) <;> exact rfl)
noncomputable def o175 (P : Params) : Obj := ⟨(.type "tuple"), none, (.seq ⟨[]⟩ 0), ⟨[]⟩⟩
noncomputable def o176 (P : Params) : Obj := ⟨.none, none, (.fields ⟨[]⟩), ⟨[]⟩⟩
noncomputable def o177 (P : Params) : Obj := ⟨(.type "tuple"), none, (.seq ⟨[(.str (.ofString "op") 433), (.str (.ofString "a") 434), (.str (.ofString "b") 435), (.str (.ofString "limits") 436), (.str (.ofString "width") 437)]⟩ 0), ⟨[]⟩⟩
noncomputable def o178 (P : Params) : Obj := ⟨(.type "tuple"), none, (.seq ⟨[]⟩ 0), ⟨[]⟩⟩
noncomputable def o179 (P : Params) : Obj := ⟨.none, none, .func ⟨(.ofString "arith"), (.ofString "arith"), (sA (st 25)), .stmts (sB (st 25)), (sS (st 25)), 0, [], .none, .none, .none, .none, none, .none, .none, 0⟩, ⟨[]⟩⟩
noncomputable def o180 (P : Params) : Obj := ⟨(.type "code"), none, (.fields ⟨[(.str (.ofString "arith") 430), (.str (.ofString "arith") 431), (.str (.ofString "/claim/cut.py") 432), (.int 83 0), (.int 4 0), (.int 0 0), (.int 0 0), (.int 3 0), (.ref 175), (.bool true), (.int 181 0), (.ref 176), .none, (.ref 177), (.ref 178), (.ref 179), (.int 438 0), (.int 83 0), (.str (.ofString "/claim/cut.py") 439)]⟩), ⟨[]⟩⟩
noncomputable def o181 (P : Params) : Obj := by
  refine' (fun (b : List Stmt) (_ : b = sB (st 25)) (a : Arguments) (_ : a = sA (st 25)) (c : Scope) (_ : c = sS (st 25)) => (⟨(.type "function"), none, .func ⟨(.ofString "arith"), (.ofString "arith"), a, .stmts b, c, 3, [], .none, .none, .none, (.str (.ofString "lua.values") 252), none, (.ref 180), .none, 0⟩, ⟨[]⟩⟩ : Obj)) _ ?h9 _ ?h8 _ ?h7
  case h9 => ((conv => rhs; whnf) <;> exact rfl)
  case h8 => ((conv => rhs; whnf) <;> exact rfl)
  case h7 => ((conv => rhs; whnf) <;> exact rfl)
noncomputable def o182 (P : Params) : Obj := ⟨(.type "tuple"), none, (.seq ⟨[]⟩ 0), ⟨[]⟩⟩
noncomputable def o183 (P : Params) : Obj := ⟨.none, none, (.fields ⟨[]⟩), ⟨[]⟩⟩
noncomputable def o184 (P : Params) : Obj := ⟨(.type "tuple"), none, (.seq ⟨[(.str (.ofString "octet") 444)]⟩ 0), ⟨[]⟩⟩
noncomputable def o185 (P : Params) : Obj := ⟨(.type "tuple"), none, (.seq ⟨[]⟩ 0), ⟨[]⟩⟩
noncomputable def o186 (P : Params) : Obj := ⟨.none, none, .func ⟨(.ofString "is_blank"), (.ofString "is_blank"), (sA (st 26)), .stmts (sB (st 26)), (sS (st 26)), 0, [], .none, .none, .none, .none, none, .none, .none, 0⟩, ⟨[]⟩⟩
noncomputable def o187 (P : Params) : Obj := ⟨(.type "code"), none, (.fields ⟨[(.str (.ofString "is_blank") 441), (.str (.ofString "is_blank") 442), (.str (.ofString "/claim/cut.py") 443), (.int 102 0), (.int 1 0), (.int 0 0), (.int 0 0), (.int 3 0), (.ref 182), (.bool true), (.int 181 0), (.ref 183), .none, (.ref 184), (.ref 185), (.ref 186), (.int 445 0), (.int 102 0), (.str (.ofString "/claim/cut.py") 446)]⟩), ⟨[]⟩⟩
noncomputable def o188 (P : Params) : Obj := by
  refine' (fun (b : List Stmt) (_ : b = sB (st 26)) (a : Arguments) (_ : a = sA (st 26)) (c : Scope) (_ : c = sS (st 26)) => (⟨(.type "function"), none, .func ⟨(.ofString "is_blank"), (.ofString "is_blank"), a, .stmts b, c, 3, [], .none, .none, .none, (.str (.ofString "lua.values") 252), none, (.ref 187), .none, 0⟩, ⟨[]⟩⟩ : Obj)) _ ?h9 _ ?h8 _ ?h7
  case h9 => ((conv => rhs; whnf) <;> exact rfl)
  case h8 => ((conv => rhs; whnf) <;> exact rfl)
  case h7 => ((conv => rhs; whnf) <;> exact rfl)
noncomputable def o189 (P : Params) : Obj := ⟨(.type "tuple"), none, (.seq ⟨[]⟩ 0), ⟨[]⟩⟩
noncomputable def o190 (P : Params) : Obj := ⟨.none, none, (.fields ⟨[]⟩), ⟨[]⟩⟩
noncomputable def o191 (P : Params) : Obj := ⟨(.type "tuple"), none, (.seq ⟨[(.str (.ofString "octet") 451)]⟩ 0), ⟨[]⟩⟩
noncomputable def o192 (P : Params) : Obj := ⟨(.type "tuple"), none, (.seq ⟨[]⟩ 0), ⟨[]⟩⟩
noncomputable def o193 (P : Params) : Obj := ⟨.none, none, .func ⟨(.ofString "digit_of"), (.ofString "digit_of"), (sA (st 27)), .stmts (sB (st 27)), (sS (st 27)), 0, [], .none, .none, .none, .none, none, .none, .none, 0⟩, ⟨[]⟩⟩
noncomputable def o194 (P : Params) : Obj := ⟨(.type "code"), none, (.fields ⟨[(.str (.ofString "digit_of") 448), (.str (.ofString "digit_of") 449), (.str (.ofString "/claim/cut.py") 450), (.int 104 0), (.int 1 0), (.int 0 0), (.int 0 0), (.int 3 0), (.ref 189), (.bool true), (.int 181 0), (.ref 190), .none, (.ref 191), (.ref 192), (.ref 193), (.int 452 0), (.int 104 0), (.str (.ofString "/claim/cut.py") 453)]⟩), ⟨[]⟩⟩
noncomputable def o195 (P : Params) : Obj := by
  refine' (fun (b : List Stmt) (_ : b = sB (st 27)) (a : Arguments) (_ : a = sA (st 27)) (c : Scope) (_ : c = sS (st 27)) => (⟨(.type "function"), none, .func ⟨(.ofString "digit_of"), (.ofString "digit_of"), a, .stmts b, c, 3, [], .none, .none, .none, (.str (.ofString "lua.values") 252), none, (.ref 194), .none, 0⟩, ⟨[]⟩⟩ : Obj)) _ ?h9 _ ?h8 _ ?h7
  case h9 => ((conv => rhs; whnf) <;> exact rfl)
  case h8 => ((conv => rhs; whnf) <;> exact rfl)
  case h7 => ((conv => rhs; whnf) <;> exact rfl)
noncomputable def o196 (P : Params) : Obj := ⟨(.type "tuple"), none, (.seq ⟨[]⟩ 0), ⟨[]⟩⟩
noncomputable def o197 (P : Params) : Obj := ⟨.none, none, (.fields ⟨[]⟩), ⟨[]⟩⟩
noncomputable def o198 (P : Params) : Obj := ⟨(.type "tuple"), none, (.seq ⟨[(.str (.ofString "text") 458), (.str (.ofString "at") 459), (.str (.ofString "base") 460), (.str (.ofString "width") 461), (.str (.ofString "found") 462), (.str (.ofString "most") 463), (.str (.ofString "digit") 464)]⟩ 0), ⟨[]⟩⟩
noncomputable def o199 (P : Params) : Obj := ⟨(.type "tuple"), none, (.seq ⟨[]⟩ 0), ⟨[]⟩⟩
noncomputable def o200 (P : Params) : Obj := ⟨.none, none, .func ⟨(.ofString "read_digits"), (.ofString "read_digits"), (sA (st 28)), .stmts (sB (st 28)), (sS (st 28)), 0, [], .none, .none, .none, .none, none, .none, .none, 0⟩, ⟨[]⟩⟩
noncomputable def o201 (P : Params) : Obj := ⟨(.type "code"), none, (.fields ⟨[(.str (.ofString "read_digits") 455), (.str (.ofString "read_digits") 456), (.str (.ofString "/claim/cut.py") 457), (.int 112 0), (.int 4 0), (.int 0 0), (.int 0 0), (.int 3 0), (.ref 196), (.bool true), (.int 181 0), (.ref 197), .none, (.ref 198), (.ref 199), (.ref 200), (.int 465 0), (.int 112 0), (.str (.ofString "/claim/cut.py") 466)]⟩), ⟨[]⟩⟩
noncomputable def o202 (P : Params) : Obj := by
  refine' (fun (b : List Stmt) (_ : b = sB (st 28)) (a : Arguments) (_ : a = sA (st 28)) (c : Scope) (_ : c = sS (st 28)) => (⟨(.type "function"), none, .func ⟨(.ofString "read_digits"), (.ofString "read_digits"), a, .stmts b, c, 3, [], .none, .none, .none, (.str (.ofString "lua.values") 252), none, (.ref 201), .none, 0⟩, ⟨[]⟩⟩ : Obj)) _ ?h9 _ ?h8 _ ?h7
  case h9 => ((conv => rhs; whnf) <;> exact rfl)
  case h8 => ((conv => rhs; whnf) <;> exact rfl)
  case h7 => ((conv => rhs; whnf) <;> exact rfl)
noncomputable def o203 (P : Params) : Obj := ⟨(.type "tuple"), none, (.seq ⟨[]⟩ 0), ⟨[]⟩⟩
noncomputable def o204 (P : Params) : Obj := ⟨.none, none, (.fields ⟨[]⟩), ⟨[]⟩⟩
noncomputable def o205 (P : Params) : Obj := ⟨(.type "tuple"), none, (.seq ⟨[(.str (.ofString "text") 471), (.str (.ofString "at") 472)]⟩ 0), ⟨[]⟩⟩
noncomputable def o206 (P : Params) : Obj := ⟨(.type "tuple"), none, (.seq ⟨[]⟩ 0), ⟨[]⟩⟩
noncomputable def o207 (P : Params) : Obj := ⟨.none, none, .func ⟨(.ofString "skip_blanks"), (.ofString "skip_blanks"), (sA (st 29)), .stmts (sB (st 29)), (sS (st 29)), 0, [], .none, .none, .none, .none, none, .none, .none, 0⟩, ⟨[]⟩⟩
noncomputable def o208 (P : Params) : Obj := ⟨(.type "code"), none, (.fields ⟨[(.str (.ofString "skip_blanks") 468), (.str (.ofString "skip_blanks") 469), (.str (.ofString "/claim/cut.py") 470), (.int 121 0), (.int 2 0), (.int 0 0), (.int 0 0), (.int 3 0), (.ref 203), (.bool true), (.int 181 0), (.ref 204), .none, (.ref 205), (.ref 206), (.ref 207), (.int 473 0), (.int 121 0), (.str (.ofString "/claim/cut.py") 474)]⟩), ⟨[]⟩⟩
noncomputable def o209 (P : Params) : Obj := by
  refine' (fun (b : List Stmt) (_ : b = sB (st 29)) (a : Arguments) (_ : a = sA (st 29)) (c : Scope) (_ : c = sS (st 29)) => (⟨(.type "function"), none, .func ⟨(.ofString "skip_blanks"), (.ofString "skip_blanks"), a, .stmts b, c, 3, [], .none, .none, .none, (.str (.ofString "lua.values") 252), none, (.ref 208), .none, 0⟩, ⟨[]⟩⟩ : Obj)) _ ?h9 _ ?h8 _ ?h7
  case h9 => ((conv => rhs; whnf) <;> exact rfl)
  case h8 => ((conv => rhs; whnf) <;> exact rfl)
  case h7 => ((conv => rhs; whnf) <;> exact rfl)
noncomputable def o210 (P : Params) : Obj := ⟨(.type "tuple"), none, (.seq ⟨[]⟩ 0), ⟨[]⟩⟩
noncomputable def o211 (P : Params) : Obj := ⟨.none, none, (.fields ⟨[]⟩), ⟨[]⟩⟩
noncomputable def o212 (P : Params) : Obj := ⟨(.type "tuple"), none, (.seq ⟨[(.str (.ofString "text") 479), (.str (.ofString "limits") 480)]⟩ 0), ⟨[]⟩⟩
noncomputable def o213 (P : Params) : Obj := ⟨(.type "tuple"), none, (.seq ⟨[]⟩ 0), ⟨[]⟩⟩
noncomputable def o214 (P : Params) : Obj := ⟨.none, none, .func ⟨(.ofString "str_to_number"), (.ofString "str_to_number"), (sA (st 30)), .stmts (sB (st 30)), (sS (st 30)), 0, [], .none, .none, .none, .none, none, .none, .none, 0⟩, ⟨[]⟩⟩
noncomputable def o215 (P : Params) : Obj := ⟨(.type "code"), none, (.fields ⟨[(.str (.ofString "str_to_number") 476), (.str (.ofString "str_to_number") 477), (.str (.ofString "/claim/cut.py") 478), (.int 125 0), (.int 2 0), (.int 0 0), (.int 0 0), (.int 3 0), (.ref 210), (.bool true), (.int 181 0), (.ref 211), .none, (.ref 212), (.ref 213), (.ref 214), (.int 481 0), (.int 125 0), (.str (.ofString "/claim/cut.py") 482)]⟩), ⟨[]⟩⟩
noncomputable def o216 (P : Params) : Obj := by
  refine' (fun (b : List Stmt) (_ : b = sB (st 30)) (a : Arguments) (_ : a = sA (st 30)) (c : Scope) (_ : c = sS (st 30)) => (⟨(.type "function"), none, .func ⟨(.ofString "str_to_number"), (.ofString "str_to_number"), a, .stmts b, c, 3, [], .none, .none, .none, (.str (.ofString "lua.values") 252), none, (.ref 215), .none, 0⟩, ⟨[]⟩⟩ : Obj)) _ ?h9 _ ?h8 _ ?h7
  case h9 => ((conv => rhs; whnf) <;> exact rfl)
  case h8 => ((conv => rhs; whnf) <;> exact rfl)
  case h7 => ((conv => rhs; whnf) <;> exact rfl)
noncomputable def o217 (P : Params) : Obj := ⟨(.type "tuple"), none, (.seq ⟨[]⟩ 0), ⟨[]⟩⟩
noncomputable def o218 (P : Params) : Obj := ⟨.none, none, (.fields ⟨[]⟩), ⟨[]⟩⟩
noncomputable def o219 (P : Params) : Obj := ⟨(.type "tuple"), none, (.seq ⟨[(.str (.ofString "text") 487), (.str (.ofString "base") 488), (.str (.ofString "limits") 489), (.str (.ofString "at") 490), (.str (.ofString "is_below") 491), (.str (.ofString "is_marked") 492), (.str (.ofString "found") 493), (.str (.ofString "end") 494)]⟩ 0), ⟨[]⟩⟩
noncomputable def o220 (P : Params) : Obj := ⟨(.type "tuple"), none, (.seq ⟨[]⟩ 0), ⟨[]⟩⟩
noncomputable def o221 (P : Params) : Obj := ⟨.none, none, .func ⟨(.ofString "text_in_base"), (.ofString "text_in_base"), (sA (st 31)), .stmts (sB (st 31)), (sS (st 31)), 0, [], .none, .none, .none, .none, none, .none, .none, 0⟩, ⟨[]⟩⟩
noncomputable def o222 (P : Params) : Obj := ⟨(.type "code"), none, (.fields ⟨[(.str (.ofString "text_in_base") 484), (.str (.ofString "text_in_base") 485), (.str (.ofString "/claim/cut.py") 486), (.int 127 0), (.int 3 0), (.int 0 0), (.int 0 0), (.int 3 0), (.ref 217), (.bool true), (.int 181 0), (.ref 218), .none, (.ref 219), (.ref 220), (.ref 221), (.int 495 0), (.int 127 0), (.str (.ofString "/claim/cut.py") 496)]⟩), ⟨[]⟩⟩
noncomputable def o223 (P : Params) : Obj := by
  refine' (fun (b : List Stmt) (_ : b = sB (st 31)) (a : Arguments) (_ : a = sA (st 31)) (c : Scope) (_ : c = sS (st 31)) => (⟨(.type "function"), none, .func ⟨(.ofString "text_in_base"), (.ofString "text_in_base"), a, .stmts b, c, 3, [], .none, .none, .none, (.str (.ofString "lua.values") 252), none, (.ref 222), .none, 0⟩, ⟨[]⟩⟩ : Obj)) _ ?h9 _ ?h8 _ ?h7
  case h9 => ((conv => rhs; whnf) <;> exact rfl)
  case h8 => ((conv => rhs; whnf) <;> exact rfl)
  case h7 => ((conv => rhs; whnf) <;> exact rfl)
noncomputable def o224 (P : Params) : Obj := ⟨(.type "tuple"), none, (.seq ⟨[]⟩ 0), ⟨[]⟩⟩
noncomputable def o225 (P : Params) : Obj := ⟨.none, none, (.fields ⟨[]⟩), ⟨[]⟩⟩
noncomputable def o226 (P : Params) : Obj := ⟨(.type "tuple"), none, (.seq ⟨[(.str (.ofString "value") 501), (.str (.ofString "limits") 502)]⟩ 0), ⟨[]⟩⟩
noncomputable def o227 (P : Params) : Obj := ⟨(.type "tuple"), none, (.seq ⟨[]⟩ 0), ⟨[]⟩⟩
noncomputable def o228 (P : Params) : Obj := ⟨.none, none, .func ⟨(.ofString "to_number"), (.ofString "to_number"), (sA (st 32)), .stmts (sB (st 32)), (sS (st 32)), 0, [], .none, .none, .none, .none, none, .none, .none, 0⟩, ⟨[]⟩⟩
noncomputable def o229 (P : Params) : Obj := ⟨(.type "code"), none, (.fields ⟨[(.str (.ofString "to_number") 498), (.str (.ofString "to_number") 499), (.str (.ofString "/claim/cut.py") 500), (.int 139 0), (.int 2 0), (.int 0 0), (.int 0 0), (.int 3 0), (.ref 224), (.bool true), (.int 181 0), (.ref 225), .none, (.ref 226), (.ref 227), (.ref 228), (.int 503 0), (.int 139 0), (.str (.ofString "/claim/cut.py") 504)]⟩), ⟨[]⟩⟩
noncomputable def o230 (P : Params) : Obj := by
  refine' (fun (b : List Stmt) (_ : b = sB (st 32)) (a : Arguments) (_ : a = sA (st 32)) (c : Scope) (_ : c = sS (st 32)) => (⟨(.type "function"), none, .func ⟨(.ofString "to_number"), (.ofString "to_number"), a, .stmts b, c, 3, [], .none, .none, .none, (.str (.ofString "lua.values") 252), none, (.ref 229), .none, 0⟩, ⟨[]⟩⟩ : Obj)) _ ?h9 _ ?h8 _ ?h7
  case h9 => ((conv => rhs; whnf) <;> exact rfl)
  case h8 => ((conv => rhs; whnf) <;> exact rfl)
  case h7 => ((conv => rhs; whnf) <;> exact rfl)
noncomputable def o231 (P : Params) : Obj := ⟨(.type "tuple"), none, (.seq ⟨[]⟩ 0), ⟨[]⟩⟩
noncomputable def o232 (P : Params) : Obj := ⟨.none, none, (.fields ⟨[]⟩), ⟨[]⟩⟩
noncomputable def o233 (P : Params) : Obj := ⟨(.type "tuple"), none, (.seq ⟨[(.str (.ofString "n") 509), (.str (.ofString "left") 510), (.str (.ofString "found") 511)]⟩ 0), ⟨[]⟩⟩
noncomputable def o234 (P : Params) : Obj := ⟨(.type "tuple"), none, (.seq ⟨[]⟩ 0), ⟨[]⟩⟩
noncomputable def o235 (P : Params) : Obj := ⟨.none, none, .func ⟨(.ofString "number_text"), (.ofString "number_text"), (sA (st 33)), .stmts (sB (st 33)), (sS (st 33)), 0, [], .none, .none, .none, .none, none, .none, .none, 0⟩, ⟨[]⟩⟩
noncomputable def o236 (P : Params) : Obj := ⟨(.type "code"), none, (.fields ⟨[(.str (.ofString "number_text") 506), (.str (.ofString "number_text") 507), (.str (.ofString "/claim/cut.py") 508), (.int 145 0), (.int 1 0), (.int 0 0), (.int 0 0), (.int 3 0), (.ref 231), (.bool true), (.int 181 0), (.ref 232), .none, (.ref 233), (.ref 234), (.ref 235), (.int 512 0), (.int 145 0), (.str (.ofString "/claim/cut.py") 513)]⟩), ⟨[]⟩⟩
noncomputable def o237 (P : Params) : Obj := by
  refine' (fun (b : List Stmt) (_ : b = sB (st 33)) (a : Arguments) (_ : a = sA (st 33)) (c : Scope) (_ : c = sS (st 33)) => (⟨(.type "function"), none, .func ⟨(.ofString "number_text"), (.ofString "number_text"), a, .stmts b, c, 3, [], .none, .none, .none, (.str (.ofString "lua.values") 252), none, (.ref 236), .none, 0⟩, ⟨[]⟩⟩ : Obj)) _ ?h9 _ ?h8 _ ?h7
  case h9 => ((conv => rhs; whnf) <;> exact rfl)
  case h8 => ((conv => rhs; whnf) <;> exact rfl)
  case h7 => ((conv => rhs; whnf) <;> exact rfl)
noncomputable def o238 (P : Params) : Obj := ⟨(.type "tuple"), none, (.seq ⟨[]⟩ 0), ⟨[]⟩⟩
noncomputable def o239 (P : Params) : Obj := ⟨.none, none, (.fields ⟨[]⟩), ⟨[]⟩⟩
noncomputable def o240 (P : Params) : Obj := ⟨(.type "tuple"), none, (.seq ⟨[(.str (.ofString "value") 518)]⟩ 0), ⟨[]⟩⟩
noncomputable def o241 (P : Params) : Obj := ⟨(.type "tuple"), none, (.seq ⟨[]⟩ 0), ⟨[]⟩⟩
noncomputable def o242 (P : Params) : Obj := ⟨.none, none, .func ⟨(.ofString "to_text"), (.ofString "to_text"), (sA (st 34)), .stmts (sB (st 34)), (sS (st 34)), 0, [], .none, .none, .none, .none, none, .none, .none, 0⟩, ⟨[]⟩⟩
noncomputable def o243 (P : Params) : Obj := ⟨(.type "code"), none, (.fields ⟨[(.str (.ofString "to_text") 515), (.str (.ofString "to_text") 516), (.str (.ofString "/claim/cut.py") 517), (.int 155 0), (.int 1 0), (.int 0 0), (.int 0 0), (.int 3 0), (.ref 238), (.bool true), (.int 181 0), (.ref 239), .none, (.ref 240), (.ref 241), (.ref 242), (.int 519 0), (.int 155 0), (.str (.ofString "/claim/cut.py") 520)]⟩), ⟨[]⟩⟩
noncomputable def o244 (P : Params) : Obj := by
  refine' (fun (b : List Stmt) (_ : b = sB (st 34)) (a : Arguments) (_ : a = sA (st 34)) (c : Scope) (_ : c = sS (st 34)) => (⟨(.type "function"), none, .func ⟨(.ofString "to_text"), (.ofString "to_text"), a, .stmts b, c, 3, [], .none, .none, .none, (.str (.ofString "lua.values") 252), none, (.ref 243), .none, 0⟩, ⟨[]⟩⟩ : Obj)) _ ?h9 _ ?h8 _ ?h7
  case h9 => ((conv => rhs; whnf) <;> exact rfl)
  case h8 => ((conv => rhs; whnf) <;> exact rfl)
  case h7 => ((conv => rhs; whnf) <;> exact rfl)
noncomputable def o245 (P : Params) : Obj := ⟨(.type "tuple"), none, (.seq ⟨[]⟩ 0), ⟨[]⟩⟩
noncomputable def o246 (P : Params) : Obj := ⟨.none, none, (.fields ⟨[]⟩), ⟨[]⟩⟩
noncomputable def o247 (P : Params) : Obj := ⟨(.type "tuple"), none, (.seq ⟨[(.str (.ofString "x") 525), (.str (.ofString "shift") 526)]⟩ 0), ⟨[]⟩⟩
noncomputable def o248 (P : Params) : Obj := ⟨(.type "tuple"), none, (.seq ⟨[]⟩ 0), ⟨[]⟩⟩
noncomputable def o249 (P : Params) : Obj := ⟨.none, none, .func ⟨(.ofString "byte_float"), (.ofString "byte_float"), (sA (st 35)), .stmts (sB (st 35)), (sS (st 35)), 0, [], .none, .none, .none, .none, none, .none, .none, 0⟩, ⟨[]⟩⟩
noncomputable def o250 (P : Params) : Obj := ⟨(.type "code"), none, (.fields ⟨[(.str (.ofString "byte_float") 522), (.str (.ofString "byte_float") 523), (.str (.ofString "/claim/cut.py") 524), (.int 161 0), (.int 1 0), (.int 0 0), (.int 0 0), (.int 3 0), (.ref 245), (.bool true), (.int 181 0), (.ref 246), .none, (.ref 247), (.ref 248), (.ref 249), (.int 527 0), (.int 161 0), (.str (.ofString "/claim/cut.py") 528)]⟩), ⟨[]⟩⟩
noncomputable def o251 (P : Params) : Obj := by
  refine' (fun (b : List Stmt) (_ : b = sB (st 35)) (a : Arguments) (_ : a = sA (st 35)) (c : Scope) (_ : c = sS (st 35)) => (⟨(.type "function"), none, .func ⟨(.ofString "byte_float"), (.ofString "byte_float"), a, .stmts b, c, 3, [], .none, .none, .none, (.str (.ofString "lua.values") 252), none, (.ref 250), .none, 0⟩, ⟨[]⟩⟩ : Obj)) _ ?h9 _ ?h8 _ ?h7
  case h9 => ((conv => rhs; whnf) <;> exact rfl)
  case h8 => ((conv => rhs; whnf) <;> exact rfl)
  case h7 => ((conv => rhs; whnf) <;> exact rfl)
noncomputable def o252 (P : Params) : Obj := ⟨(.type "tuple"), none, (.seq ⟨[]⟩ 0), ⟨[]⟩⟩
noncomputable def o253 (P : Params) : Obj := ⟨.none, none, (.fields ⟨[]⟩), ⟨[]⟩⟩
noncomputable def o254 (P : Params) : Obj := ⟨(.type "tuple"), none, (.seq ⟨[(.str (.ofString "values") 541), (.str (.ofString "top") 542), (.str (.ofString "most") 543), (.str (.ofString "found") 544), (.str (.ofString "turn") 545), (.str (.ofString "text") 546)]⟩ 0), ⟨[]⟩⟩
noncomputable def o255 (P : Params) : Obj := ⟨(.type "tuple"), none, (.seq ⟨[]⟩ 0), ⟨[]⟩⟩
noncomputable def o256 (P : Params) : Obj := ⟨.none, none, .func ⟨(.ofString "texts_below"), (.ofString "texts_below"), (sA (st 40)), .stmts (sB (st 40)), (sS (st 40)), 0, [], .none, .none, .none, .none, none, .none, .none, 0⟩, ⟨[]⟩⟩
noncomputable def o257 (P : Params) : Obj := ⟨(.type "code"), none, (.fields ⟨[(.str (.ofString "texts_below") 538), (.str (.ofString "texts_below") 539), (.str (.ofString "/claim/cut.py") 540), (.int 170 0), (.int 3 0), (.int 0 0), (.int 0 0), (.int 3 0), (.ref 252), (.bool true), (.int 181 0), (.ref 253), .none, (.ref 254), (.ref 255), (.ref 256), (.int 547 0), (.int 170 0), (.str (.ofString "/claim/cut.py") 548)]⟩), ⟨[]⟩⟩
noncomputable def o258 (P : Params) : Obj := by
  refine' (fun (b : List Stmt) (_ : b = sB (st 40)) (a : Arguments) (_ : a = sA (st 40)) (c : Scope) (_ : c = sS (st 40)) => (⟨(.type "function"), none, .func ⟨(.ofString "texts_below"), (.ofString "texts_below"), a, .stmts b, c, 3, [], .none, .none, .none, (.str (.ofString "lua.joins") 530), none, (.ref 257), .none, 0⟩, ⟨[]⟩⟩ : Obj)) _ ?h9 _ ?h8 _ ?h7
  case h9 => ((conv => rhs; whnf) <;> exact rfl)
  case h8 => ((conv => rhs; whnf) <;> exact rfl)
  case h7 => ((conv => rhs; whnf) <;> exact rfl)
noncomputable def o259 (P : Params) : Obj := ⟨(.type "tuple"), none, (.seq ⟨[]⟩ 0), ⟨[]⟩⟩
noncomputable def o260 (P : Params) : Obj := ⟨.none, none, (.fields ⟨[]⟩), ⟨[]⟩⟩
noncomputable def o261 (P : Params) : Obj := ⟨.none, none, .func ⟨(.ofString "join_below"), (.ofString "join_below"), (sA (st 41)), .stmts (sB (st 41)), (sS (st 41)), 0, [], .none, .none, .none, .none, none, .none, .none, 0⟩, ⟨[]⟩⟩
noncomputable def o262 (P : Params) : Obj := ⟨(.type "code"), none, (.fields ⟨[(.str (.ofString "join_below") 550), (.str (.ofString "join_below") 551), (.str (.ofString "/claim/cut.py") 552), (.int 178 0), (.int 4 0), (.int 0 0), (.int 0 0), (.int 3 0), (.ref 259), (.bool true), (.int 181 0), (.ref 260), .none, .none, .none, (.ref 261), (.int 553 0), (.int 178 0), (.str (.ofString "/claim/cut.py") 554)]⟩), ⟨[]⟩⟩
noncomputable def o263 (P : Params) : Obj := by
  refine' (fun (b : List Stmt) (_ : b = sB (st 41)) (a : Arguments) (_ : a = sA (st 41)) (c : Scope) (_ : c = sS (st 41)) => (⟨(.type "function"), none, .func ⟨(.ofString "join_below"), (.ofString "join_below"), a, .stmts b, c, 3, [], .none, .none, .none, (.str (.ofString "lua.joins") 530), none, (.ref 262), .none, 0⟩, ⟨[]⟩⟩ : Obj)) _ ?h9 _ ?h8 _ ?h7
  case h9 => ((conv => rhs; whnf) <;> exact rfl)
  case h8 => ((conv => rhs; whnf) <;> exact rfl)
  case h7 => ((conv => rhs; whnf) <;> exact rfl)
noncomputable def o264 (P : Params) : Obj := ⟨(.type "tuple"), none, (.seq ⟨[]⟩ 0), ⟨[]⟩⟩
noncomputable def o265 (P : Params) : Obj := ⟨.none, none, (.fields ⟨[]⟩), ⟨[]⟩⟩
noncomputable def o266 (P : Params) : Obj := ⟨.none, none, .func ⟨(.ofString "loop_numbers"), (.ofString "loop_numbers"), (sA (st 43)), .stmts (sB (st 43)), (sS (st 43)), 0, [], .none, .none, .none, .none, none, .none, .none, 0⟩, ⟨[]⟩⟩
noncomputable def o267 (P : Params) : Obj := ⟨(.type "code"), none, (.fields ⟨[(.str (.ofString "loop_numbers") 558), (.str (.ofString "loop_numbers") 559), (.str (.ofString "/claim/cut.py") 560), (.int 189 0), (.int 2 0), (.int 0 0), (.int 0 0), (.int 3 0), (.ref 264), (.bool true), (.int 181 0), (.ref 265), .none, .none, .none, (.ref 266), (.int 561 0), (.int 189 0), (.str (.ofString "/claim/cut.py") 562)]⟩), ⟨[]⟩⟩
noncomputable def o268 (P : Params) : Obj := by
  refine' (fun (b : List Stmt) (_ : b = sB (st 43)) (a : Arguments) (_ : a = sA (st 43)) (c : Scope) (_ : c = sS (st 43)) => (⟨(.type "function"), none, .func ⟨(.ofString "loop_numbers"), (.ofString "loop_numbers"), a, .stmts b, c, 3, [], .none, .none, .none, (.str (.ofString "lua.loops") 556), none, (.ref 267), .none, 0⟩, ⟨[]⟩⟩ : Obj)) _ ?h9 _ ?h8 _ ?h7
  case h9 => ((conv => rhs; whnf) <;> exact rfl)
  case h8 => ((conv => rhs; whnf) <;> exact rfl)
  case h7 => ((conv => rhs; whnf) <;> exact rfl)
noncomputable def o269 (P : Params) : Obj := ⟨(.type "tuple"), none, (.seq ⟨[]⟩ 0), ⟨[]⟩⟩
noncomputable def o270 (P : Params) : Obj := ⟨.none, none, (.fields ⟨[]⟩), ⟨[]⟩⟩
noncomputable def o271 (P : Params) : Obj := ⟨(.type "tuple"), none, (.seq ⟨[(.str (.ofString "numbers") 567), (.str (.ofString "at") 568), (.str (.ofString "number") 569)]⟩ 0), ⟨[]⟩⟩
noncomputable def o272 (P : Params) : Obj := ⟨(.type "tuple"), none, (.seq ⟨[]⟩ 0), ⟨[]⟩⟩
noncomputable def o273 (P : Params) : Obj := ⟨.none, none, .func ⟨(.ofString "wrong_place"), (.ofString "wrong_place"), (sA (st 44)), .stmts (sB (st 44)), (sS (st 44)), 0, [], .none, .none, .none, .none, none, .none, .none, 0⟩, ⟨[]⟩⟩
noncomputable def o274 (P : Params) : Obj := ⟨(.type "code"), none, (.fields ⟨[(.str (.ofString "wrong_place") 564), (.str (.ofString "wrong_place") 565), (.str (.ofString "/claim/cut.py") 566), (.int 191 0), (.int 1 0), (.int 0 0), (.int 0 0), (.int 3 0), (.ref 269), (.bool true), (.int 181 0), (.ref 270), .none, (.ref 271), (.ref 272), (.ref 273), (.int 570 0), (.int 191 0), (.str (.ofString "/claim/cut.py") 571)]⟩), ⟨[]⟩⟩
noncomputable def o275 (P : Params) : Obj := by
  refine' (fun (b : List Stmt) (_ : b = sB (st 44)) (a : Arguments) (_ : a = sA (st 44)) (c : Scope) (_ : c = sS (st 44)) => (⟨(.type "function"), none, .func ⟨(.ofString "wrong_place"), (.ofString "wrong_place"), a, .stmts b, c, 3, [], .none, .none, .none, (.str (.ofString "lua.loops") 556), none, (.ref 274), .none, 0⟩, ⟨[]⟩⟩ : Obj)) _ ?h9 _ ?h8 _ ?h7
  case h9 => ((conv => rhs; whnf) <;> exact rfl)
  case h8 => ((conv => rhs; whnf) <;> exact rfl)
  case h7 => ((conv => rhs; whnf) <;> exact rfl)
noncomputable def o276 (P : Params) : Obj := ⟨(.type "tuple"), none, (.seq ⟨[]⟩ 0), ⟨[]⟩⟩
noncomputable def o277 (P : Params) : Obj := ⟨.none, none, (.fields ⟨[]⟩), ⟨[]⟩⟩
noncomputable def o278 (P : Params) : Obj := ⟨(.type "tuple"), none, (.seq ⟨[(.str (.ofString "first") 576), (.str (.ofString "step") 577), (.str (.ofString "width") 578)]⟩ 0), ⟨[]⟩⟩
noncomputable def o279 (P : Params) : Obj := ⟨(.type "tuple"), none, (.seq ⟨[]⟩ 0), ⟨[]⟩⟩
noncomputable def o280 (P : Params) : Obj := ⟨.none, none, .func ⟨(.ofString "before_first"), (.ofString "before_first"), (sA (st 45)), .stmts (sB (st 45)), (sS (st 45)), 0, [], .none, .none, .none, .none, none, .none, .none, 0⟩, ⟨[]⟩⟩
noncomputable def o281 (P : Params) : Obj := ⟨(.type "code"), none, (.fields ⟨[(.str (.ofString "before_first") 573), (.str (.ofString "before_first") 574), (.str (.ofString "/claim/cut.py") 575), (.int 196 0), (.int 3 0), (.int 0 0), (.int 0 0), (.int 3 0), (.ref 276), (.bool true), (.int 181 0), (.ref 277), .none, (.ref 278), (.ref 279), (.ref 280), (.int 579 0), (.int 196 0), (.str (.ofString "/claim/cut.py") 580)]⟩), ⟨[]⟩⟩
noncomputable def o282 (P : Params) : Obj := by
  refine' (fun (b : List Stmt) (_ : b = sB (st 45)) (a : Arguments) (_ : a = sA (st 45)) (c : Scope) (_ : c = sS (st 45)) => (⟨(.type "function"), none, .func ⟨(.ofString "before_first"), (.ofString "before_first"), a, .stmts b, c, 3, [], .none, .none, .none, (.str (.ofString "lua.loops") 556), none, (.ref 281), .none, 0⟩, ⟨[]⟩⟩ : Obj)) _ ?h9 _ ?h8 _ ?h7
  case h9 => ((conv => rhs; whnf) <;> exact rfl)
  case h8 => ((conv => rhs; whnf) <;> exact rfl)
  case h7 => ((conv => rhs; whnf) <;> exact rfl)
noncomputable def o283 (P : Params) : Obj := ⟨(.type "tuple"), none, (.seq ⟨[]⟩ 0), ⟨[]⟩⟩
noncomputable def o284 (P : Params) : Obj := ⟨.none, none, (.fields ⟨[]⟩), ⟨[]⟩⟩
noncomputable def o285 (P : Params) : Obj := ⟨(.type "tuple"), none, (.seq ⟨[(.str (.ofString "number") 585), (.str (.ofString "limit") 586), (.str (.ofString "step") 587)]⟩ 0), ⟨[]⟩⟩
noncomputable def o286 (P : Params) : Obj := ⟨(.type "tuple"), none, (.seq ⟨[]⟩ 0), ⟨[]⟩⟩
noncomputable def o287 (P : Params) : Obj := ⟨.none, none, .func ⟨(.ofString "goes_on"), (.ofString "goes_on"), (sA (st 46)), .stmts (sB (st 46)), (sS (st 46)), 0, [], .none, .none, .none, .none, none, .none, .none, 0⟩, ⟨[]⟩⟩
noncomputable def o288 (P : Params) : Obj := ⟨(.type "code"), none, (.fields ⟨[(.str (.ofString "goes_on") 582), (.str (.ofString "goes_on") 583), (.str (.ofString "/claim/cut.py") 584), (.int 198 0), (.int 3 0), (.int 0 0), (.int 0 0), (.int 3 0), (.ref 283), (.bool true), (.int 181 0), (.ref 284), .none, (.ref 285), (.ref 286), (.ref 287), (.int 588 0), (.int 198 0), (.str (.ofString "/claim/cut.py") 589)]⟩), ⟨[]⟩⟩
noncomputable def o289 (P : Params) : Obj := by
  refine' (fun (b : List Stmt) (_ : b = sB (st 46)) (a : Arguments) (_ : a = sA (st 46)) (c : Scope) (_ : c = sS (st 46)) => (⟨(.type "function"), none, .func ⟨(.ofString "goes_on"), (.ofString "goes_on"), a, .stmts b, c, 3, [], .none, .none, .none, (.str (.ofString "lua.loops") 556), none, (.ref 288), .none, 0⟩, ⟨[]⟩⟩ : Obj)) _ ?h9 _ ?h8 _ ?h7
  case h9 => ((conv => rhs; whnf) <;> exact rfl)
  case h8 => ((conv => rhs; whnf) <;> exact rfl)
  case h7 => ((conv => rhs; whnf) <;> exact rfl)
noncomputable def o290 (P : Params) : Obj := ⟨(.type "tuple"), none, (.seq ⟨[]⟩ 0), ⟨[]⟩⟩
noncomputable def o291 (P : Params) : Obj := ⟨.none, none, (.fields ⟨[]⟩), ⟨[]⟩⟩
noncomputable def o292 (P : Params) : Obj := ⟨(.type "tuple"), none, (.seq ⟨[(.str (.ofString "number") 594), (.str (.ofString "limit") 595), (.str (.ofString "step") 596), (.str (.ofString "width") 597), (.str (.ofString "later") 598)]⟩ 0), ⟨[]⟩⟩
noncomputable def o293 (P : Params) : Obj := ⟨(.type "tuple"), none, (.seq ⟨[]⟩ 0), ⟨[]⟩⟩
noncomputable def o294 (P : Params) : Obj := ⟨.none, none, .func ⟨(.ofString "next_number"), (.ofString "next_number"), (sA (st 47)), .stmts (sB (st 47)), (sS (st 47)), 0, [], .none, .none, .none, .none, none, .none, .none, 0⟩, ⟨[]⟩⟩
noncomputable def o295 (P : Params) : Obj := ⟨(.type "code"), none, (.fields ⟨[(.str (.ofString "next_number") 591), (.str (.ofString "next_number") 592), (.str (.ofString "/claim/cut.py") 593), (.int 202 0), (.int 4 0), (.int 0 0), (.int 0 0), (.int 3 0), (.ref 290), (.bool true), (.int 181 0), (.ref 291), .none, (.ref 292), (.ref 293), (.ref 294), (.int 599 0), (.int 202 0), (.str (.ofString "/claim/cut.py") 600)]⟩), ⟨[]⟩⟩
noncomputable def o296 (P : Params) : Obj := by
  refine' (fun (b : List Stmt) (_ : b = sB (st 47)) (a : Arguments) (_ : a = sA (st 47)) (c : Scope) (_ : c = sS (st 47)) => (⟨(.type "function"), none, .func ⟨(.ofString "next_number"), (.ofString "next_number"), a, .stmts b, c, 3, [], .none, .none, .none, (.str (.ofString "lua.loops") 556), none, (.ref 295), .none, 0⟩, ⟨[]⟩⟩ : Obj)) _ ?h9 _ ?h8 _ ?h7
  case h9 => ((conv => rhs; whnf) <;> exact rfl)
  case h8 => ((conv => rhs; whnf) <;> exact rfl)
  case h7 => ((conv => rhs; whnf) <;> exact rfl)
noncomputable def o297 (P : Params) : Obj := ⟨(.type "tuple"), none, (.seq ⟨[]⟩ 0), ⟨[]⟩⟩
noncomputable def o298 (P : Params) : Obj := ⟨.none, none, (.fields ⟨[]⟩), ⟨[]⟩⟩
noncomputable def o299 (P : Params) : Obj := ⟨(.type "tuple"), none, (.seq ⟨[(.str (.ofString "op") 607), (.str (.ofString "instruction") 608), (.str (.ofString "stack") 609), (.str (.ofString "base") 610), (.str (.ofString "constants") 611), (.str (.ofString "target") 612), (.str (.ofString "at") 613)]⟩ 0), ⟨[]⟩⟩
noncomputable def o300 (P : Params) : Obj := ⟨(.type "tuple"), none, (.seq ⟨[]⟩ 0), ⟨[]⟩⟩
noncomputable def o301 (P : Params) : Obj := ⟨.none, none, .func ⟨(.ofString "load"), (.ofString "load"), (sA (st 49)), .stmts (sB (st 49)), (sS (st 49)), 0, [], .none, .none, .none, .none, none, .none, .none, 0⟩, ⟨[]⟩⟩
noncomputable def o302 (P : Params) : Obj := ⟨(.type "code"), none, (.fields ⟨[(.str (.ofString "load") 604), (.str (.ofString "load") 605), (.str (.ofString "/claim/cut.py") 606), (.int 206 0), (.int 5 0), (.int 0 0), (.int 0 0), (.int 3 0), (.ref 297), (.bool true), (.int 181 0), (.ref 298), .none, (.ref 299), (.ref 300), (.ref 301), (.int 614 0), (.int 206 0), (.str (.ofString "/claim/cut.py") 615)]⟩), ⟨[]⟩⟩
noncomputable def o303 (P : Params) : Obj := by
  refine' (fun (b : List Stmt) (_ : b = sB (st 49)) (a : Arguments) (_ : a = sA (st 49)) (c : Scope) (_ : c = sS (st 49)) => (⟨(.type "function"), none, .func ⟨(.ofString "load"), (.ofString "load"), a, .stmts b, c, 3, [], .none, .none, .none, (.str (.ofString "lua.orders") 602), none, (.ref 302), .none, 0⟩, ⟨[]⟩⟩ : Obj)) _ ?h9 _ ?h8 _ ?h7
  case h9 => ((conv => rhs; whnf) <;> exact rfl)
  case h8 => ((conv => rhs; whnf) <;> exact rfl)
  case h7 => ((conv => rhs; whnf) <;> exact rfl)
noncomputable def o304 (P : Params) : Obj := ⟨(.type "tuple"), none, (.seq ⟨[]⟩ 0), ⟨[]⟩⟩
noncomputable def o305 (P : Params) : Obj := ⟨.none, none, (.fields ⟨[]⟩), ⟨[]⟩⟩
noncomputable def o306 (P : Params) : Obj := ⟨(.type "tuple"), none, (.seq ⟨[(.str (.ofString "stack") 620), (.str (.ofString "base") 621), (.str (.ofString "constants") 622), (.str (.ofString "place") 623)]⟩ 0), ⟨[]⟩⟩
noncomputable def o307 (P : Params) : Obj := ⟨(.type "tuple"), none, (.seq ⟨[]⟩ 0), ⟨[]⟩⟩
noncomputable def o308 (P : Params) : Obj := ⟨.none, none, .func ⟨(.ofString "operand"), (.ofString "operand"), (sA (st 50)), .stmts (sB (st 50)), (sS (st 50)), 0, [], .none, .none, .none, .none, none, .none, .none, 0⟩, ⟨[]⟩⟩
noncomputable def o309 (P : Params) : Obj := ⟨(.type "code"), none, (.fields ⟨[(.str (.ofString "operand") 617), (.str (.ofString "operand") 618), (.str (.ofString "/claim/cut.py") 619), (.int 219 0), (.int 4 0), (.int 0 0), (.int 0 0), (.int 3 0), (.ref 304), (.bool true), (.int 181 0), (.ref 305), .none, (.ref 306), (.ref 307), (.ref 308), (.int 624 0), (.int 219 0), (.str (.ofString "/claim/cut.py") 625)]⟩), ⟨[]⟩⟩
noncomputable def o310 (P : Params) : Obj := by
  refine' (fun (b : List Stmt) (_ : b = sB (st 50)) (a : Arguments) (_ : a = sA (st 50)) (c : Scope) (_ : c = sS (st 50)) => (⟨(.type "function"), none, .func ⟨(.ofString "operand"), (.ofString "operand"), a, .stmts b, c, 3, [], .none, .none, .none, (.str (.ofString "lua.orders") 602), none, (.ref 309), .none, 0⟩, ⟨[]⟩⟩ : Obj)) _ ?h9 _ ?h8 _ ?h7
  case h9 => ((conv => rhs; whnf) <;> exact rfl)
  case h8 => ((conv => rhs; whnf) <;> exact rfl)
  case h7 => ((conv => rhs; whnf) <;> exact rfl)
noncomputable def o311 (P : Params) : Obj := ⟨(.type "tuple"), none, (.seq ⟨[]⟩ 0), ⟨[]⟩⟩
noncomputable def o312 (P : Params) : Obj := ⟨.none, none, (.fields ⟨[]⟩), ⟨[]⟩⟩
noncomputable def o313 (P : Params) : Obj := ⟨(.type "tuple"), none, (.seq ⟨[(.str (.ofString "instruction") 630), (.str (.ofString "stack") 631), (.str (.ofString "base") 632), (.str (.ofString "constants") 633), (.str (.ofString "left") 634)]⟩ 0), ⟨[]⟩⟩
noncomputable def o314 (P : Params) : Obj := ⟨(.type "tuple"), none, (.seq ⟨[]⟩ 0), ⟨[]⟩⟩
noncomputable def o315 (P : Params) : Obj := ⟨.none, none, .func ⟨(.ofString "two_operands"), (.ofString "two_operands"), (sA (st 51)), .stmts (sB (st 51)), (sS (st 51)), 0, [], .none, .none, .none, .none, none, .none, .none, 0⟩, ⟨[]⟩⟩
noncomputable def o316 (P : Params) : Obj := ⟨(.type "code"), none, (.fields ⟨[(.str (.ofString "two_operands") 627), (.str (.ofString "two_operands") 628), (.str (.ofString "/claim/cut.py") 629), (.int 223 0), (.int 4 0), (.int 0 0), (.int 0 0), (.int 3 0), (.ref 311), (.bool true), (.int 181 0), (.ref 312), .none, (.ref 313), (.ref 314), (.ref 315), (.int 635 0), (.int 223 0), (.str (.ofString "/claim/cut.py") 636)]⟩), ⟨[]⟩⟩
noncomputable def o317 (P : Params) : Obj := by
  refine' (fun (b : List Stmt) (_ : b = sB (st 51)) (a : Arguments) (_ : a = sA (st 51)) (c : Scope) (_ : c = sS (st 51)) => (⟨(.type "function"), none, .func ⟨(.ofString "two_operands"), (.ofString "two_operands"), a, .stmts b, c, 3, [], .none, .none, .none, (.str (.ofString "lua.orders") 602), none, (.ref 316), .none, 0⟩, ⟨[]⟩⟩ : Obj)) _ ?h9 _ ?h8 _ ?h7
  case h9 => ((conv => rhs; whnf) <;> exact rfl)
  case h8 => ((conv => rhs; whnf) <;> exact rfl)
  case h7 => ((conv => rhs; whnf) <;> exact rfl)
noncomputable def o318 (P : Params) : Obj := ⟨(.type "tuple"), none, (.seq ⟨[]⟩ 0), ⟨[]⟩⟩
noncomputable def o319 (P : Params) : Obj := ⟨.none, none, (.fields ⟨[]⟩), ⟨[]⟩⟩
noncomputable def o320 (P : Params) : Obj := ⟨(.type "tuple"), none, (.seq ⟨[(.str (.ofString "instruction") 641), (.str (.ofString "found") 642)]⟩ 0), ⟨[]⟩⟩
noncomputable def o321 (P : Params) : Obj := ⟨(.type "tuple"), none, (.seq ⟨[]⟩ 0), ⟨[]⟩⟩
noncomputable def o322 (P : Params) : Obj := ⟨.none, none, .func ⟨(.ofString "is_compared"), (.ofString "is_compared"), (sA (st 52)), .stmts (sB (st 52)), (sS (st 52)), 0, [], .none, .none, .none, .none, none, .none, .none, 0⟩, ⟨[]⟩⟩
noncomputable def o323 (P : Params) : Obj := ⟨(.type "code"), none, (.fields ⟨[(.str (.ofString "is_compared") 638), (.str (.ofString "is_compared") 639), (.str (.ofString "/claim/cut.py") 640), (.int 226 0), (.int 2 0), (.int 0 0), (.int 0 0), (.int 3 0), (.ref 318), (.bool true), (.int 181 0), (.ref 319), .none, (.ref 320), (.ref 321), (.ref 322), (.int 643 0), (.int 226 0), (.str (.ofString "/claim/cut.py") 644)]⟩), ⟨[]⟩⟩
noncomputable def o324 (P : Params) : Obj := by
  refine' (fun (b : List Stmt) (_ : b = sB (st 52)) (a : Arguments) (_ : a = sA (st 52)) (c : Scope) (_ : c = sS (st 52)) => (⟨(.type "function"), none, .func ⟨(.ofString "is_compared"), (.ofString "is_compared"), a, .stmts b, c, 3, [], .none, .none, .none, (.str (.ofString "lua.orders") 602), none, (.ref 323), .none, 0⟩, ⟨[]⟩⟩ : Obj)) _ ?h9 _ ?h8 _ ?h7
  case h9 => ((conv => rhs; whnf) <;> exact rfl)
  case h8 => ((conv => rhs; whnf) <;> exact rfl)
  case h7 => ((conv => rhs; whnf) <;> exact rfl)
noncomputable def o325 (P : Params) : Obj := ⟨(.type "tuple"), none, (.seq ⟨[]⟩ 0), ⟨[]⟩⟩
noncomputable def o326 (P : Params) : Obj := ⟨.none, none, (.fields ⟨[]⟩), ⟨[]⟩⟩
noncomputable def o327 (P : Params) : Obj := ⟨(.type "tuple"), none, (.seq ⟨[(.str (.ofString "instruction") 649), (.str (.ofString "value") 650)]⟩ 0), ⟨[]⟩⟩
noncomputable def o328 (P : Params) : Obj := ⟨(.type "tuple"), none, (.seq ⟨[]⟩ 0), ⟨[]⟩⟩
noncomputable def o329 (P : Params) : Obj := ⟨.none, none, .func ⟨(.ofString "is_tested"), (.ofString "is_tested"), (sA (st 53)), .stmts (sB (st 53)), (sS (st 53)), 0, [], .none, .none, .none, .none, none, .none, .none, 0⟩, ⟨[]⟩⟩
noncomputable def o330 (P : Params) : Obj := ⟨(.type "code"), none, (.fields ⟨[(.str (.ofString "is_tested") 646), (.str (.ofString "is_tested") 647), (.str (.ofString "/claim/cut.py") 648), (.int 228 0), (.int 2 0), (.int 0 0), (.int 0 0), (.int 3 0), (.ref 325), (.bool true), (.int 181 0), (.ref 326), .none, (.ref 327), (.ref 328), (.ref 329), (.int 651 0), (.int 228 0), (.str (.ofString "/claim/cut.py") 652)]⟩), ⟨[]⟩⟩
noncomputable def o331 (P : Params) : Obj := by
  refine' (fun (b : List Stmt) (_ : b = sB (st 53)) (a : Arguments) (_ : a = sA (st 53)) (c : Scope) (_ : c = sS (st 53)) => (⟨(.type "function"), none, .func ⟨(.ofString "is_tested"), (.ofString "is_tested"), a, .stmts b, c, 3, [], .none, .none, .none, (.str (.ofString "lua.orders") 602), none, (.ref 330), .none, 0⟩, ⟨[]⟩⟩ : Obj)) _ ?h9 _ ?h8 _ ?h7
  case h9 => ((conv => rhs; whnf) <;> exact rfl)
  case h8 => ((conv => rhs; whnf) <;> exact rfl)
  case h7 => ((conv => rhs; whnf) <;> exact rfl)
noncomputable def o332 (P : Params) : Obj := ⟨(.type "tuple"), none, (.seq ⟨[]⟩ 0), ⟨[]⟩⟩
noncomputable def o333 (P : Params) : Obj := ⟨.none, none, (.fields ⟨[]⟩), ⟨[]⟩⟩
noncomputable def o334 (P : Params) : Obj := ⟨(.type "tuple"), none, (.seq ⟨[(.str (.ofString "code") 657), (.str (.ofString "pc") 658), (.str (.ofString "goes") 659)]⟩ 0), ⟨[]⟩⟩
noncomputable def o335 (P : Params) : Obj := ⟨(.type "tuple"), none, (.seq ⟨[]⟩ 0), ⟨[]⟩⟩
noncomputable def o336 (P : Params) : Obj := ⟨.none, none, .func ⟨(.ofString "place_behind"), (.ofString "place_behind"), (sA (st 54)), .stmts (sB (st 54)), (sS (st 54)), 0, [], .none, .none, .none, .none, none, .none, .none, 0⟩, ⟨[]⟩⟩
noncomputable def o337 (P : Params) : Obj := ⟨(.type "code"), none, (.fields ⟨[(.str (.ofString "place_behind") 654), (.str (.ofString "place_behind") 655), (.str (.ofString "/claim/cut.py") 656), (.int 230 0), (.int 3 0), (.int 0 0), (.int 0 0), (.int 3 0), (.ref 332), (.bool true), (.int 181 0), (.ref 333), .none, (.ref 334), (.ref 335), (.ref 336), (.int 660 0), (.int 230 0), (.str (.ofString "/claim/cut.py") 661)]⟩), ⟨[]⟩⟩
noncomputable def o338 (P : Params) : Obj := by
  refine' (fun (b : List Stmt) (_ : b = sB (st 54)) (a : Arguments) (_ : a = sA (st 54)) (c : Scope) (_ : c = sS (st 54)) => (⟨(.type "function"), none, .func ⟨(.ofString "place_behind"), (.ofString "place_behind"), a, .stmts b, c, 3, [], .none, .none, .none, (.str (.ofString "lua.orders") 602), none, (.ref 337), .none, 0⟩, ⟨[]⟩⟩ : Obj)) _ ?h9 _ ?h8 _ ?h7
  case h9 => ((conv => rhs; whnf) <;> exact rfl)
  case h8 => ((conv => rhs; whnf) <;> exact rfl)
  case h7 => ((conv => rhs; whnf) <;> exact rfl)
noncomputable def o339 (P : Params) : Obj := ⟨(.type "tuple"), none, (.seq ⟨[]⟩ 0), ⟨[]⟩⟩
noncomputable def o340 (P : Params) : Obj := ⟨.none, none, (.fields ⟨[]⟩), ⟨[]⟩⟩
noncomputable def o341 (P : Params) : Obj := ⟨(.type "tuple"), none, (.seq ⟨[(.str (.ofString "instruction") 666)]⟩ 0), ⟨[]⟩⟩
noncomputable def o342 (P : Params) : Obj := ⟨(.type "tuple"), none, (.seq ⟨[]⟩ 0), ⟨[]⟩⟩
noncomputable def o343 (P : Params) : Obj := ⟨.none, none, .func ⟨(.ofString "table_room"), (.ofString "table_room"), (sA (st 55)), .stmts (sB (st 55)), (sS (st 55)), 0, [], .none, .none, .none, .none, none, .none, .none, 0⟩, ⟨[]⟩⟩
noncomputable def o344 (P : Params) : Obj := ⟨(.type "code"), none, (.fields ⟨[(.str (.ofString "table_room") 663), (.str (.ofString "table_room") 664), (.str (.ofString "/claim/cut.py") 665), (.int 232 0), (.int 1 0), (.int 0 0), (.int 0 0), (.int 3 0), (.ref 339), (.bool true), (.int 181 0), (.ref 340), .none, (.ref 341), (.ref 342), (.ref 343), (.int 667 0), (.int 232 0), (.str (.ofString "/claim/cut.py") 668)]⟩), ⟨[]⟩⟩
noncomputable def o345 (P : Params) : Obj := by
  refine' (fun (b : List Stmt) (_ : b = sB (st 55)) (a : Arguments) (_ : a = sA (st 55)) (c : Scope) (_ : c = sS (st 55)) => (⟨(.type "function"), none, .func ⟨(.ofString "table_room"), (.ofString "table_room"), a, .stmts b, c, 3, [], .none, .none, .none, (.str (.ofString "lua.orders") 602), none, (.ref 344), .none, 0⟩, ⟨[]⟩⟩ : Obj)) _ ?h9 _ ?h8 _ ?h7
  case h9 => ((conv => rhs; whnf) <;> exact rfl)
  case h8 => ((conv => rhs; whnf) <;> exact rfl)
  case h7 => ((conv => rhs; whnf) <;> exact rfl)
noncomputable def o346 (P : Params) : Obj := ⟨(.type "tuple"), none, (.seq ⟨[]⟩ 0), ⟨[]⟩⟩
noncomputable def o347 (P : Params) : Obj := ⟨.none, none, (.fields ⟨[]⟩), ⟨[]⟩⟩
noncomputable def o348 (P : Params) : Obj := ⟨(.type "tuple"), none, (.seq ⟨[(.str (.ofString "instruction") 673), (.str (.ofString "code") 674), (.str (.ofString "pc") 675), (.str (.ofString "held") 676), (.str (.ofString "flush") 677), (.str (.ofString "many") 678), (.str (.ofString "block") 679)]⟩ 0), ⟨[]⟩⟩
noncomputable def o349 (P : Params) : Obj := ⟨(.type "tuple"), none, (.seq ⟨[]⟩ 0), ⟨[]⟩⟩
noncomputable def o350 (P : Params) : Obj := ⟨.none, none, .func ⟨(.ofString "list_block"), (.ofString "list_block"), (sA (st 56)), .stmts (sB (st 56)), (sS (st 56)), 0, [], .none, .none, .none, .none, none, .none, .none, 0⟩, ⟨[]⟩⟩
noncomputable def o351 (P : Params) : Obj := ⟨(.type "code"), none, (.fields ⟨[(.str (.ofString "list_block") 670), (.str (.ofString "list_block") 671), (.str (.ofString "/claim/cut.py") 672), (.int 234 0), (.int 5 0), (.int 0 0), (.int 0 0), (.int 3 0), (.ref 346), (.bool true), (.int 181 0), (.ref 347), .none, (.ref 348), (.ref 349), (.ref 350), (.int 680 0), (.int 234 0), (.str (.ofString "/claim/cut.py") 681)]⟩), ⟨[]⟩⟩
noncomputable def o352 (P : Params) : Obj := by
  refine' (fun (b : List Stmt) (_ : b = sB (st 56)) (a : Arguments) (_ : a = sA (st 56)) (c : Scope) (_ : c = sS (st 56)) => (⟨(.type "function"), none, .func ⟨(.ofString "list_block"), (.ofString "list_block"), a, .stmts b, c, 3, [], .none, .none, .none, (.str (.ofString "lua.orders") 602), none, (.ref 351), .none, 0⟩, ⟨[]⟩⟩ : Obj)) _ ?h9 _ ?h8 _ ?h7
  case h9 => ((conv => rhs; whnf) <;> exact rfl)
  case h8 => ((conv => rhs; whnf) <;> exact rfl)
  case h7 => ((conv => rhs; whnf) <;> exact rfl)
noncomputable def o353 (P : Params) : Obj := ⟨(.type "tuple"), none, (.seq ⟨[]⟩ 0), ⟨[]⟩⟩
noncomputable def o354 (P : Params) : Obj := ⟨.none, none, (.fields ⟨[]⟩), ⟨[]⟩⟩
noncomputable def o355 (P : Params) : Obj := ⟨(.type "tuple"), none, (.seq ⟨[(.str (.ofString "stack") 686), (.str (.ofString "target") 687), (.str (.ofString "limits") 688), (.str (.ofString "numbers") 689), (.str (.ofString "wrong") 690)]⟩ 0), ⟨[]⟩⟩
noncomputable def o356 (P : Params) : Obj := ⟨(.type "tuple"), none, (.seq ⟨[]⟩ 0), ⟨[]⟩⟩
noncomputable def o357 (P : Params) : Obj := ⟨.none, none, .func ⟨(.ofString "round_begun"), (.ofString "round_begun"), (sA (st 57)), .stmts (sB (st 57)), (sS (st 57)), 0, [], .none, .none, .none, .none, none, .none, .none, 0⟩, ⟨[]⟩⟩
noncomputable def o358 (P : Params) : Obj := ⟨(.type "code"), none, (.fields ⟨[(.str (.ofString "round_begun") 683), (.str (.ofString "round_begun") 684), (.str (.ofString "/claim/cut.py") 685), (.int 241 0), (.int 3 0), (.int 0 0), (.int 0 0), (.int 3 0), (.ref 353), (.bool true), (.int 181 0), (.ref 354), .none, (.ref 355), (.ref 356), (.ref 357), (.int 691 0), (.int 241 0), (.str (.ofString "/claim/cut.py") 692)]⟩), ⟨[]⟩⟩
noncomputable def o359 (P : Params) : Obj := by
  refine' (fun (b : List Stmt) (_ : b = sB (st 57)) (a : Arguments) (_ : a = sA (st 57)) (c : Scope) (_ : c = sS (st 57)) => (⟨(.type "function"), none, .func ⟨(.ofString "round_begun"), (.ofString "round_begun"), a, .stmts b, c, 3, [], .none, .none, .none, (.str (.ofString "lua.orders") 602), none, (.ref 358), .none, 0⟩, ⟨[]⟩⟩ : Obj)) _ ?h9 _ ?h8 _ ?h7
  case h9 => ((conv => rhs; whnf) <;> exact rfl)
  case h8 => ((conv => rhs; whnf) <;> exact rfl)
  case h7 => ((conv => rhs; whnf) <;> exact rfl)
noncomputable def o360 (P : Params) : Obj := ⟨(.type "tuple"), none, (.seq ⟨[]⟩ 0), ⟨[]⟩⟩
noncomputable def o361 (P : Params) : Obj := ⟨.none, none, (.fields ⟨[]⟩), ⟨[]⟩⟩
noncomputable def o362 (P : Params) : Obj := ⟨.none, none, .func ⟨(.ofString "round_wrong"), (.ofString "round_wrong"), (sA (st 58)), .stmts (sB (st 58)), (sS (st 58)), 0, [], .none, .none, .none, .none, none, .none, .none, 0⟩, ⟨[]⟩⟩
noncomputable def o363 (P : Params) : Obj := ⟨(.type "code"), none, (.fields ⟨[(.str (.ofString "round_wrong") 694), (.str (.ofString "round_wrong") 695), (.str (.ofString "/claim/cut.py") 696), (.int 249 0), (.int 2 0), (.int 0 0), (.int 0 0), (.int 3 0), (.ref 360), (.bool true), (.int 181 0), (.ref 361), .none, .none, .none, (.ref 362), (.int 697 0), (.int 249 0), (.str (.ofString "/claim/cut.py") 698)]⟩), ⟨[]⟩⟩
noncomputable def o364 (P : Params) : Obj := by
  refine' (fun (b : List Stmt) (_ : b = sB (st 58)) (a : Arguments) (_ : a = sA (st 58)) (c : Scope) (_ : c = sS (st 58)) => (⟨(.type "function"), none, .func ⟨(.ofString "round_wrong"), (.ofString "round_wrong"), a, .stmts b, c, 3, [], .none, .none, .none, (.str (.ofString "lua.orders") 602), none, (.ref 363), .none, 0⟩, ⟨[]⟩⟩ : Obj)) _ ?h9 _ ?h8 _ ?h7
  case h9 => ((conv => rhs; whnf) <;> exact rfl)
  case h8 => ((conv => rhs; whnf) <;> exact rfl)
  case h7 => ((conv => rhs; whnf) <;> exact rfl)
noncomputable def o365 (P : Params) : Obj := ⟨(.type "tuple"), none, (.seq ⟨[]⟩ 0), ⟨[]⟩⟩
noncomputable def o366 (P : Params) : Obj := ⟨.none, none, (.fields ⟨[]⟩), ⟨[]⟩⟩
noncomputable def o367 (P : Params) : Obj := ⟨(.type "tuple"), none, (.seq ⟨[(.str (.ofString "stack") 703), (.str (.ofString "target") 704), (.str (.ofString "limits") 705), (.str (.ofString "found") 706)]⟩ 0), ⟨[]⟩⟩
noncomputable def o368 (P : Params) : Obj := ⟨(.type "tuple"), none, (.seq ⟨[]⟩ 0), ⟨[]⟩⟩
noncomputable def o369 (P : Params) : Obj := ⟨.none, none, .func ⟨(.ofString "round_gone"), (.ofString "round_gone"), (sA (st 59)), .stmts (sB (st 59)), (sS (st 59)), 0, [], .none, .none, .none, .none, none, .none, .none, 0⟩, ⟨[]⟩⟩
noncomputable def o370 (P : Params) : Obj := ⟨(.type "code"), none, (.fields ⟨[(.str (.ofString "round_gone") 700), (.str (.ofString "round_gone") 701), (.str (.ofString "/claim/cut.py") 702), (.int 251 0), (.int 3 0), (.int 0 0), (.int 0 0), (.int 3 0), (.ref 365), (.bool true), (.int 181 0), (.ref 366), .none, (.ref 367), (.ref 368), (.ref 369), (.int 707 0), (.int 251 0), (.str (.ofString "/claim/cut.py") 708)]⟩), ⟨[]⟩⟩
noncomputable def o371 (P : Params) : Obj := by
  refine' (fun (b : List Stmt) (_ : b = sB (st 59)) (a : Arguments) (_ : a = sA (st 59)) (c : Scope) (_ : c = sS (st 59)) => (⟨(.type "function"), none, .func ⟨(.ofString "round_gone"), (.ofString "round_gone"), a, .stmts b, c, 3, [], .none, .none, .none, (.str (.ofString "lua.orders") 602), none, (.ref 370), .none, 0⟩, ⟨[]⟩⟩ : Obj)) _ ?h9 _ ?h8 _ ?h7
  case h9 => ((conv => rhs; whnf) <;> exact rfl)
  case h8 => ((conv => rhs; whnf) <;> exact rfl)
  case h7 => ((conv => rhs; whnf) <;> exact rfl)
noncomputable def o372 (P : Params) : Obj := ⟨(.type "tuple"), none, (.seq ⟨[]⟩ 0), ⟨[]⟩⟩
noncomputable def o373 (P : Params) : Obj := ⟨.none, none, (.fields ⟨[]⟩), ⟨[]⟩⟩
noncomputable def o374 (P : Params) : Obj := ⟨(.type "tuple"), none, (.seq ⟨[(.str (.ofString "stack") 713), (.str (.ofString "target") 714), (.str (.ofString "at") 715)]⟩ 0), ⟨[]⟩⟩
noncomputable def o375 (P : Params) : Obj := ⟨(.type "tuple"), none, (.seq ⟨[]⟩ 0), ⟨[]⟩⟩
noncomputable def o376 (P : Params) : Obj := ⟨.none, none, .func ⟨(.ofString "round_asked"), (.ofString "round_asked"), (sA (st 60)), .stmts (sB (st 60)), (sS (st 60)), 0, [], .none, .none, .none, .none, none, .none, .none, 0⟩, ⟨[]⟩⟩
noncomputable def o377 (P : Params) : Obj := ⟨(.type "code"), none, (.fields ⟨[(.str (.ofString "round_asked") 710), (.str (.ofString "round_asked") 711), (.str (.ofString "/claim/cut.py") 712), (.int 258 0), (.int 2 0), (.int 0 0), (.int 0 0), (.int 3 0), (.ref 372), (.bool true), (.int 181 0), (.ref 373), .none, (.ref 374), (.ref 375), (.ref 376), (.int 716 0), (.int 258 0), (.str (.ofString "/claim/cut.py") 717)]⟩), ⟨[]⟩⟩
noncomputable def o378 (P : Params) : Obj := by
  refine' (fun (b : List Stmt) (_ : b = sB (st 60)) (a : Arguments) (_ : a = sA (st 60)) (c : Scope) (_ : c = sS (st 60)) => (⟨(.type "function"), none, .func ⟨(.ofString "round_asked"), (.ofString "round_asked"), a, .stmts b, c, 3, [], .none, .none, .none, (.str (.ofString "lua.orders") 602), none, (.ref 377), .none, 0⟩, ⟨[]⟩⟩ : Obj)) _ ?h9 _ ?h8 _ ?h7
  case h9 => ((conv => rhs; whnf) <;> exact rfl)
  case h8 => ((conv => rhs; whnf) <;> exact rfl)
  case h7 => ((conv => rhs; whnf) <;> exact rfl)
noncomputable def o379 (P : Params) : Obj := ⟨(.type "tuple"), none, (.seq ⟨[]⟩ 0), ⟨[]⟩⟩
noncomputable def o380 (P : Params) : Obj := ⟨.none, none, (.fields ⟨[]⟩), ⟨[]⟩⟩
noncomputable def o381 (P : Params) : Obj := ⟨(.type "tuple"), none, (.seq ⟨[(.str (.ofString "stack") 722), (.str (.ofString "target") 723)]⟩ 0), ⟨[]⟩⟩
noncomputable def o382 (P : Params) : Obj := ⟨(.type "tuple"), none, (.seq ⟨[]⟩ 0), ⟨[]⟩⟩
noncomputable def o383 (P : Params) : Obj := ⟨.none, none, .func ⟨(.ofString "round_told"), (.ofString "round_told"), (sA (st 61)), .stmts (sB (st 61)), (sS (st 61)), 0, [], .none, .none, .none, .none, none, .none, .none, 0⟩, ⟨[]⟩⟩
noncomputable def o384 (P : Params) : Obj := ⟨(.type "code"), none, (.fields ⟨[(.str (.ofString "round_told") 719), (.str (.ofString "round_told") 720), (.str (.ofString "/claim/cut.py") 721), (.int 262 0), (.int 2 0), (.int 0 0), (.int 0 0), (.int 3 0), (.ref 379), (.bool true), (.int 181 0), (.ref 380), .none, (.ref 381), (.ref 382), (.ref 383), (.int 724 0), (.int 262 0), (.str (.ofString "/claim/cut.py") 725)]⟩), ⟨[]⟩⟩
noncomputable def o385 (P : Params) : Obj := by
  refine' (fun (b : List Stmt) (_ : b = sB (st 61)) (a : Arguments) (_ : a = sA (st 61)) (c : Scope) (_ : c = sS (st 61)) => (⟨(.type "function"), none, .func ⟨(.ofString "round_told"), (.ofString "round_told"), a, .stmts b, c, 3, [], .none, .none, .none, (.str (.ofString "lua.orders") 602), none, (.ref 384), .none, 0⟩, ⟨[]⟩⟩ : Obj)) _ ?h9 _ ?h8 _ ?h7
  case h9 => ((conv => rhs; whnf) <;> exact rfl)
  case h8 => ((conv => rhs; whnf) <;> exact rfl)
  case h7 => ((conv => rhs; whnf) <;> exact rfl)
noncomputable def o386 (P : Params) : Obj := ⟨(.type "list"), none, (.seq ⟨[(.bytes ⟨[97, 100, 100]⟩ 729), (.bytes ⟨[115, 117, 98]⟩ 730), (.bytes ⟨[109, 117, 108]⟩ 731), (.bytes ⟨[100, 105, 118]⟩ 732), (.bytes ⟨[109, 111, 100]⟩ 733), (.bytes ⟨[112, 111, 119]⟩ 734), (.bytes ⟨[117, 110, 109]⟩ 735)]⟩ 0), ⟨[]⟩⟩
noncomputable def o387 (P : Params) : Obj := ⟨(.type "tuple"), none, (.seq ⟨[]⟩ 0), ⟨[]⟩⟩
noncomputable def o388 (P : Params) : Obj := ⟨.none, none, (.fields ⟨[]⟩), ⟨[]⟩⟩
noncomputable def o389 (P : Params) : Obj := ⟨(.type "tuple"), none, (.seq ⟨[(.str (.ofString "place") 752), (.str (.ofString "one") 753), (.str (.ofString "other") 754)]⟩ 0), ⟨[]⟩⟩
noncomputable def o390 (P : Params) : Obj := ⟨(.type "tuple"), none, (.seq ⟨[]⟩ 0), ⟨[]⟩⟩
noncomputable def o391 (P : Params) : Obj := ⟨.none, none, .func ⟨(.ofString "has_no_result"), (.ofString "has_no_result"), (sA (st 70)), .stmts (sB (st 70)), (sS (st 70)), 0, [], .none, .none, .none, .none, none, .none, .none, 0⟩, ⟨[]⟩⟩
noncomputable def o392 (P : Params) : Obj := ⟨(.type "code"), none, (.fields ⟨[(.str (.ofString "has_no_result") 749), (.str (.ofString "has_no_result") 750), (.str (.ofString "/claim/cut.py") 751), (.int 275 0), (.int 3 0), (.int 0 0), (.int 0 0), (.int 3 0), (.ref 387), (.bool true), (.int 181 0), (.ref 388), .none, (.ref 389), (.ref 390), (.ref 391), (.int 755 0), (.int 275 0), (.str (.ofString "/claim/cut.py") 756)]⟩), ⟨[]⟩⟩
noncomputable def o393 (P : Params) : Obj := by
  refine' (fun (b : List Stmt) (_ : b = sB (st 70)) (a : Arguments) (_ : a = sA (st 70)) (c : Scope) (_ : c = sS (st 70)) => (⟨(.type "function"), none, .func ⟨(.ofString "has_no_result"), (.ofString "has_no_result"), a, .stmts b, c, 3, [], .none, .none, .none, (.str (.ofString "lua.reckon") 727), none, (.ref 392), .none, 0⟩, ⟨[]⟩⟩ : Obj)) _ ?h9 _ ?h8 _ ?h7
  case h9 => ((conv => rhs; whnf) <;> exact rfl)
  case h8 => ((conv => rhs; whnf) <;> exact rfl)
  case h7 => ((conv => rhs; whnf) <;> exact rfl)
noncomputable def o394 (P : Params) : Obj := ⟨(.type "tuple"), none, (.seq ⟨[]⟩ 0), ⟨[]⟩⟩
noncomputable def o395 (P : Params) : Obj := ⟨.none, none, (.fields ⟨[]⟩), ⟨[]⟩⟩
noncomputable def o396 (P : Params) : Obj := ⟨(.type "tuple"), none, (.seq ⟨[(.str (.ofString "place") 761), (.str (.ofString "left") 762), (.str (.ofString "right") 763), (.str (.ofString "limits") 764), (.str (.ofString "one") 765), (.str (.ofString "other") 766)]⟩ 0), ⟨[]⟩⟩
noncomputable def o397 (P : Params) : Obj := ⟨(.type "tuple"), none, (.seq ⟨[]⟩ 0), ⟨[]⟩⟩
noncomputable def o398 (P : Params) : Obj := ⟨.none, none, .func ⟨(.ofString "reckon"), (.ofString "reckon"), (sA (st 71)), .stmts (sB (st 71)), (sS (st 71)), 0, [], .none, .none, .none, .none, none, .none, .none, 0⟩, ⟨[]⟩⟩
noncomputable def o399 (P : Params) : Obj := ⟨(.type "code"), none, (.fields ⟨[(.str (.ofString "reckon") 758), (.str (.ofString "reckon") 759), (.str (.ofString "/claim/cut.py") 760), (.int 279 0), (.int 4 0), (.int 0 0), (.int 0 0), (.int 3 0), (.ref 394), (.bool true), (.int 181 0), (.ref 395), .none, (.ref 396), (.ref 397), (.ref 398), (.int 767 0), (.int 279 0), (.str (.ofString "/claim/cut.py") 768)]⟩), ⟨[]⟩⟩
noncomputable def o400 (P : Params) : Obj := by
  refine' (fun (b : List Stmt) (_ : b = sB (st 71)) (a : Arguments) (_ : a = sA (st 71)) (c : Scope) (_ : c = sS (st 71)) => (⟨(.type "function"), none, .func ⟨(.ofString "reckon"), (.ofString "reckon"), a, .stmts b, c, 3, [], .none, .none, .none, (.str (.ofString "lua.reckon") 727), none, (.ref 399), .none, 0⟩, ⟨[]⟩⟩ : Obj)) _ ?h9 _ ?h8 _ ?h7
  case h9 => ((conv => rhs; whnf) <;> exact rfl)
  case h8 => ((conv => rhs; whnf) <;> exact rfl)
  case h7 => ((conv => rhs; whnf) <;> exact rfl)
noncomputable def o401 (P : Params) : Obj := ⟨(.type "tuple"), none, (.seq ⟨[]⟩ 0), ⟨[]⟩⟩
noncomputable def o402 (P : Params) : Obj := ⟨(.type "builtin_function_or_method"), none, (.fields ⟨[(.builtin "type.__prepare__"), (.type "type")]⟩), ⟨[]⟩⟩
noncomputable def o403 (P : Params) : Obj := ⟨(.type "dict"), none, (.dict ⟨[de P (.ofString "__module__") 785 (.str (.ofString "lua.stepper") 770), de P (.ofString "__qualname__") 787 (.str (.ofString "Works") 786), de P (.ofString "__firstlineno__") 789 (.int 290 788), de P (.ofString "__init__") 802 (.ref 414), de P (.ofString "__static_attributes__") 809 (.ref 415)]⟩ 5), ⟨[]⟩⟩
noncomputable def o404 (P : Params) : Obj := ⟨(.type "tuple"), none, (.seq ⟨[]⟩ 0), ⟨[]⟩⟩
noncomputable def o405 (P : Params) : Obj := ⟨.none, none, (.fields ⟨[(.int 292 0), (.int 4 0), (.ref 413)]⟩), ⟨[]⟩⟩
noncomputable def o406 (P : Params) : Obj := ⟨(.type "code"), none, (.fields ⟨[(.str (.ofString "Works") 780), (.str (.ofString "Works") 781), (.str (.ofString "/claim/cut.py") 782), (.int 290 0), (.int 0 0), (.int 0 0), (.int 0 0), (.int 0 0), (.ref 404), (.bool false), (.int 181 0), (.ref 405), .none, .none, .none, .none, (.int 783 0), (.int 290 0), (.str (.ofString "/claim/cut.py") 784)]⟩), ⟨[]⟩⟩
noncomputable def o407 (P : Params) : Obj := ⟨(.type "frame"), none, .plain, ⟨[(some (.ref 406)), (some (.ref 3)), (some (.ref 403)), none, (some (.str (.ofString "lua.stepper") 770)), none, (some (.ref 0))]⟩⟩
noncomputable def o408 (P : Params) : Obj := ⟨(.type "tuple"), none, (.seq ⟨[]⟩ 0), ⟨[]⟩⟩
noncomputable def o409 (P : Params) : Obj := ⟨.none, none, (.fields ⟨[]⟩), ⟨[]⟩⟩
noncomputable def o410 (P : Params) : Obj := ⟨(.type "tuple"), none, (.seq ⟨[(.str (.ofString "self") 793), (.str (.ofString "new_table") 794), (.str (.ofString "index") 795), (.str (.ofString "put") 796), (.str (.ofString "length") 797), (.str (.ofString "compared") 798), (.str (.ofString "called") 799)]⟩ 0), ⟨[]⟩⟩
noncomputable def o411 (P : Params) : Obj := ⟨(.type "tuple"), none, (.seq ⟨[]⟩ 0), ⟨[]⟩⟩
noncomputable def o412 (P : Params) : Obj := ⟨.none, none, .func ⟨(.ofString "__init__"), (.ofString "Works.__init__"), (sA (sm 76 0)), .stmts (sB (sm 76 0)), (sS (sm 76 0)), 0, [], .none, .none, .none, .none, none, .none, .none, 0⟩, ⟨[]⟩⟩
noncomputable def o413 (P : Params) : Obj := ⟨(.type "code"), none, (.fields ⟨[(.str (.ofString "__init__") 790), (.str (.ofString "Works.__init__") 791), (.str (.ofString "/claim/cut.py") 792), (.int 292 0), (.int 7 0), (.int 0 0), (.int 0 0), (.int 3 0), (.ref 408), (.bool true), (.int 181 0), (.ref 409), .none, (.ref 410), (.ref 411), (.ref 412), (.int 800 0), (.int 292 0), (.str (.ofString "/claim/cut.py") 801)]⟩), ⟨[]⟩⟩
noncomputable def o414 (P : Params) : Obj := by
  refine' (fun (b : List Stmt) (_ : b = sB (sm 76 0)) (a : Arguments) (_ : a = sA (sm 76 0)) (c : Scope) (_ : c = sS (sm 76 0)) => (⟨(.type "function"), none, .func ⟨(.ofString "__init__"), (.ofString "Works.__init__"), a, .stmts b, c, 3, [], .none, .none, .none, (.str (.ofString "lua.stepper") 770), none, (.ref 413), .none, 0⟩, ⟨[]⟩⟩ : Obj)) _ ?h9 _ ?h8 _ ?h7
  case h9 => ((conv => rhs; whnf) <;> exact rfl)
  case h8 => ((conv => rhs; whnf) <;> exact rfl)
  case h7 => ((conv => rhs; whnf) <;> exact rfl)
noncomputable def o415 (P : Params) : Obj := ⟨(.type "tuple"), none, (.seq ⟨[(.str (.ofString "called") 803), (.str (.ofString "compared") 804), (.str (.ofString "index") 805), (.str (.ofString "length") 806), (.str (.ofString "new_table") 807), (.str (.ofString "put") 808)]⟩ 0), ⟨[]⟩⟩
noncomputable def o416 (P : Params) : Obj := ⟨(.type "dict"), none, (.dict ⟨[de P (.ofString "__module__") 785 (.str (.ofString "lua.stepper") 770), de P (.ofString "__firstlineno__") 789 (.int 290 788), de P (.ofString "__init__") 802 (.ref 414), de P (.ofString "__static_attributes__") 809 (.ref 415), de P (.ofString "__dict__") 811 (.ref 418), de P (.ofString "__weakref__") 813 (.ref 419), de P (.ofString "__doc__") 814 .none]⟩ 4), ⟨[]⟩⟩
noncomputable def o417 (P : Params) : Obj := ⟨(.type "type"), none, (.cls ⟨(.ofString "Works"), [(.type "object")], [(.ref 417), (.type "object")], 416, (.ofString "Works"), true, [], [], false, none, false⟩), ⟨[none, none, (some (.str (.ofString "Works") 778)), (some (.str (.ofString "Works") 786)), (some (.builtin "object.__new__")), (some (.bool true))]⟩⟩
noncomputable def o418 (P : Params) : Obj := ⟨(.type "getset_descriptor"), none, (.fields ⟨[(.str (.ofString "__dict__") 810), (.ref 417), (.builtin "function.__dict__"), (.builtin "function.__dict__#set")]⟩), ⟨[]⟩⟩
noncomputable def o419 (P : Params) : Obj := ⟨(.type "getset_descriptor"), none, (.fields ⟨[(.str (.ofString "__weakref__") 812), (.ref 417), (.builtin "ExceptionGroup.__weakref__"), .none]⟩), ⟨[]⟩⟩
noncomputable def o420 (P : Params) : Obj := ⟨(.type "super"), none, (.fields ⟨[(.ref 417), (.ref 417), (.ref 417)]⟩), ⟨[]⟩⟩
noncomputable def o421 (P : Params) : Obj := ⟨(.type "builtin_function_or_method"), none, (.fields ⟨[(.builtin "object.__init_subclass__"), (.ref 417)]⟩), ⟨[]⟩⟩
noncomputable def o422 (P : Params) : Obj := ⟨(.type "tuple"), none, (.seq ⟨[]⟩ 0), ⟨[]⟩⟩
noncomputable def o423 (P : Params) : Obj := ⟨(.type "builtin_function_or_method"), none, (.fields ⟨[(.builtin "type.__prepare__"), (.type "type")]⟩), ⟨[]⟩⟩
noncomputable def o424 (P : Params) : Obj := ⟨(.type "dict"), none, (.dict ⟨[de P (.ofString "__module__") 824 (.str (.ofString "lua.stepper") 770), de P (.ofString "__qualname__") 826 (.str (.ofString "Stepper") 825), de P (.ofString "__firstlineno__") 828 (.int 299 827), de P (.ofString "__init__") 840 (.ref 435), de P (.ofString "run") 851 (.ref 442), de P (.ofString "done") 860 (.ref 449), de P (.ofString "done_table") 878 (.ref 456), de P (.ofString "done_reckoning") 894 (.ref 463), de P (.ofString "done_join") 907 (.ref 470), de P (.ofString "done_jump") 922 (.ref 477), de P (.ofString "done_other") 934 (.ref 484), de P (.ofString "call_at") 948 (.ref 491), de P (.ofString "done_call") 958 (.ref 498), de P (.ofString "done_list") 972 (.ref 505), de P (.ofString "__static_attributes__") 982 (.ref 506)]⟩ 15), ⟨[]⟩⟩
noncomputable def o425 (P : Params) : Obj := ⟨(.type "tuple"), none, (.seq ⟨[]⟩ 0), ⟨[]⟩⟩
noncomputable def o426 (P : Params) : Obj := ⟨.none, none, (.fields ⟨[(.int 301 0), (.int 4 0), (.ref 434), (.int 312 0), (.int 4 0), (.ref 441), (.int 323 0), (.int 4 0), (.ref 448), (.int 337 0), (.int 4 0), (.ref 455), (.int 357 0), (.int 4 0), (.ref 462), (.int 375 0), (.int 4 0), (.ref 469), (.int 386 0), (.int 4 0), (.ref 476), (.int 405 0), (.int 4 0), (.ref 483), (.int 430 0), (.int 4 0), (.ref 490), (.int 440 0), (.int 4 0), (.ref 497), (.int 446 0), (.int 4 0), (.ref 504)]⟩), ⟨[]⟩⟩
noncomputable def o427 (P : Params) : Obj := ⟨(.type "code"), none, (.fields ⟨[(.str (.ofString "Stepper") 819), (.str (.ofString "Stepper") 820), (.str (.ofString "/claim/cut.py") 821), (.int 299 0), (.int 0 0), (.int 0 0), (.int 0 0), (.int 0 0), (.ref 425), (.bool false), (.int 181 0), (.ref 426), .none, .none, .none, .none, (.int 822 0), (.int 299 0), (.str (.ofString "/claim/cut.py") 823)]⟩), ⟨[]⟩⟩
noncomputable def o428 (P : Params) : Obj := ⟨(.type "frame"), none, .plain, ⟨[(some (.ref 427)), (some (.ref 3)), (some (.ref 424)), none, (some (.str (.ofString "lua.stepper") 770)), none, (some (.ref 0))]⟩⟩
noncomputable def o429 (P : Params) : Obj := ⟨(.type "tuple"), none, (.seq ⟨[]⟩ 0), ⟨[]⟩⟩
noncomputable def o430 (P : Params) : Obj := ⟨.none, none, (.fields ⟨[]⟩), ⟨[]⟩⟩
noncomputable def o431 (P : Params) : Obj := ⟨(.type "tuple"), none, (.seq ⟨[(.str (.ofString "self") 832), (.str (.ofString "code") 833), (.str (.ofString "constants") 834), (.str (.ofString "registers") 835), (.str (.ofString "limits") 836), (.str (.ofString "works") 837)]⟩ 0), ⟨[]⟩⟩
noncomputable def o432 (P : Params) : Obj := ⟨(.type "tuple"), none, (.seq ⟨[]⟩ 0), ⟨[]⟩⟩
noncomputable def o433 (P : Params) : Obj := ⟨.none, none, .func ⟨(.ofString "__init__"), (.ofString "Stepper.__init__"), (sA (sm 77 0)), .stmts (sB (sm 77 0)), (sS (sm 77 0)), 0, [], .none, .none, .none, .none, none, .none, .none, 0⟩, ⟨[]⟩⟩
noncomputable def o434 (P : Params) : Obj := ⟨(.type "code"), none, (.fields ⟨[(.str (.ofString "__init__") 829), (.str (.ofString "Stepper.__init__") 830), (.str (.ofString "/claim/cut.py") 831), (.int 301 0), (.int 6 0), (.int 0 0), (.int 0 0), (.int 3 0), (.ref 429), (.bool true), (.int 181 0), (.ref 430), .none, (.ref 431), (.ref 432), (.ref 433), (.int 838 0), (.int 301 0), (.str (.ofString "/claim/cut.py") 839)]⟩), ⟨[]⟩⟩
noncomputable def o435 (P : Params) : Obj := by
  refine' (fun (b : List Stmt) (_ : b = sB (sm 77 0)) (a : Arguments) (_ : a = sA (sm 77 0)) (c : Scope) (_ : c = sS (sm 77 0)) => (⟨(.type "function"), none, .func ⟨(.ofString "__init__"), (.ofString "Stepper.__init__"), a, .stmts b, c, 3, [], .none, .none, .none, (.str (.ofString "lua.stepper") 770), none, (.ref 434), .none, 0⟩, ⟨[]⟩⟩ : Obj)) _ ?h9 _ ?h8 _ ?h7
  case h9 => ((conv => rhs; whnf) <;> exact rfl)
  case h8 => ((conv => rhs; whnf) <;> exact rfl)
  case h7 => ((conv => rhs; whnf) <;> exact rfl)
noncomputable def o436 (P : Params) : Obj := ⟨(.type "tuple"), none, (.seq ⟨[]⟩ 0), ⟨[]⟩⟩
noncomputable def o437 (P : Params) : Obj := ⟨.none, none, (.fields ⟨[]⟩), ⟨[]⟩⟩
noncomputable def o438 (P : Params) : Obj := ⟨(.type "tuple"), none, (.seq ⟨[(.str (.ofString "self") 844), (.str (.ofString "most") 845), (.str (.ofString "turn") 846), (.str (.ofString "place") 847), (.str (.ofString "instruction") 848)]⟩ 0), ⟨[]⟩⟩
noncomputable def o439 (P : Params) : Obj := ⟨(.type "tuple"), none, (.seq ⟨[]⟩ 0), ⟨[]⟩⟩
noncomputable def o440 (P : Params) : Obj := ⟨.none, none, .func ⟨(.ofString "run"), (.ofString "Stepper.run"), (sA (sm 77 1)), .stmts (sB (sm 77 1)), (sS (sm 77 1)), 0, [], .none, .none, .none, .none, none, .none, .none, 0⟩, ⟨[]⟩⟩
noncomputable def o441 (P : Params) : Obj := ⟨(.type "code"), none, (.fields ⟨[(.str (.ofString "run") 841), (.str (.ofString "Stepper.run") 842), (.str (.ofString "/claim/cut.py") 843), (.int 312 0), (.int 2 0), (.int 0 0), (.int 0 0), (.int 3 0), (.ref 436), (.bool true), (.int 181 0), (.ref 437), .none, (.ref 438), (.ref 439), (.ref 440), (.int 849 0), (.int 312 0), (.str (.ofString "/claim/cut.py") 850)]⟩), ⟨[]⟩⟩
noncomputable def o442 (P : Params) : Obj := by
  refine' (fun (b : List Stmt) (_ : b = sB (sm 77 1)) (a : Arguments) (_ : a = sA (sm 77 1)) (c : Scope) (_ : c = sS (sm 77 1)) => (⟨(.type "function"), none, .func ⟨(.ofString "run"), (.ofString "Stepper.run"), a, .stmts b, c, 3, [], .none, .none, .none, (.str (.ofString "lua.stepper") 770), none, (.ref 441), .none, 0⟩, ⟨[]⟩⟩ : Obj)) _ ?h9 _ ?h8 _ ?h7
  case h9 => ((conv => rhs; whnf) <;> exact rfl)
  case h8 => ((conv => rhs; whnf) <;> exact rfl)
  case h7 => ((conv => rhs; whnf) <;> exact rfl)
noncomputable def o443 (P : Params) : Obj := ⟨(.type "tuple"), none, (.seq ⟨[]⟩ 0), ⟨[]⟩⟩
noncomputable def o444 (P : Params) : Obj := ⟨.none, none, (.fields ⟨[]⟩), ⟨[]⟩⟩
noncomputable def o445 (P : Params) : Obj := ⟨(.type "tuple"), none, (.seq ⟨[(.str (.ofString "self") 855), (.str (.ofString "op") 856), (.str (.ofString "instruction") 857)]⟩ 0), ⟨[]⟩⟩
noncomputable def o446 (P : Params) : Obj := ⟨(.type "tuple"), none, (.seq ⟨[]⟩ 0), ⟨[]⟩⟩
noncomputable def o447 (P : Params) : Obj := ⟨.none, none, .func ⟨(.ofString "done"), (.ofString "Stepper.done"), (sA (sm 77 2)), .stmts (sB (sm 77 2)), (sS (sm 77 2)), 0, [], .none, .none, .none, .none, none, .none, .none, 0⟩, ⟨[]⟩⟩
noncomputable def o448 (P : Params) : Obj := ⟨(.type "code"), none, (.fields ⟨[(.str (.ofString "done") 852), (.str (.ofString "Stepper.done") 853), (.str (.ofString "/claim/cut.py") 854), (.int 323 0), (.int 3 0), (.int 0 0), (.int 0 0), (.int 3 0), (.ref 443), (.bool true), (.int 181 0), (.ref 444), .none, (.ref 445), (.ref 446), (.ref 447), (.int 858 0), (.int 323 0), (.str (.ofString "/claim/cut.py") 859)]⟩), ⟨[]⟩⟩
noncomputable def o449 (P : Params) : Obj := by
  refine' (fun (b : List Stmt) (_ : b = sB (sm 77 2)) (a : Arguments) (_ : a = sA (sm 77 2)) (c : Scope) (_ : c = sS (sm 77 2)) => (⟨(.type "function"), none, .func ⟨(.ofString "done"), (.ofString "Stepper.done"), a, .stmts b, c, 3, [], .none, .none, .none, (.str (.ofString "lua.stepper") 770), none, (.ref 448), .none, 0⟩, ⟨[]⟩⟩ : Obj)) _ ?h9 _ ?h8 _ ?h7
  case h9 => ((conv => rhs; whnf) <;> exact rfl)
  case h8 => ((conv => rhs; whnf) <;> exact rfl)
  case h7 => ((conv => rhs; whnf) <;> exact rfl)
noncomputable def o450 (P : Params) : Obj := ⟨(.type "tuple"), none, (.seq ⟨[]⟩ 0), ⟨[]⟩⟩
noncomputable def o451 (P : Params) : Obj := ⟨.none, none, (.fields ⟨[]⟩), ⟨[]⟩⟩
noncomputable def o452 (P : Params) : Obj := ⟨(.type "tuple"), none, (.seq ⟨[(.str (.ofString "self") 864), (.str (.ofString "op") 865), (.str (.ofString "instruction") 866), (.str (.ofString "works") 867), (.str (.ofString "stack") 868), (.str (.ofString "target") 869), (.str (.ofString "work") 870), (.str (.ofString "array") 871), (.str (.ofString "others") 872), (.str (.ofString "key") 873), (.str (.ofString "value") 874), (.str (.ofString "obj") 875)]⟩ 0), ⟨[]⟩⟩
noncomputable def o453 (P : Params) : Obj := ⟨(.type "tuple"), none, (.seq ⟨[]⟩ 0), ⟨[]⟩⟩
noncomputable def o454 (P : Params) : Obj := ⟨.none, none, .func ⟨(.ofString "done_table"), (.ofString "Stepper.done_table"), (sA (sm 77 3)), .stmts (sB (sm 77 3)), (sS (sm 77 3)), 0, [], .none, .none, .none, .none, none, .none, .none, 0⟩, ⟨[]⟩⟩
noncomputable def o455 (P : Params) : Obj := ⟨(.type "code"), none, (.fields ⟨[(.str (.ofString "done_table") 861), (.str (.ofString "Stepper.done_table") 862), (.str (.ofString "/claim/cut.py") 863), (.int 337 0), (.int 3 0), (.int 0 0), (.int 0 0), (.int 3 0), (.ref 450), (.bool true), (.int 181 0), (.ref 451), .none, (.ref 452), (.ref 453), (.ref 454), (.int 876 0), (.int 337 0), (.str (.ofString "/claim/cut.py") 877)]⟩), ⟨[]⟩⟩
noncomputable def o456 (P : Params) : Obj := by
  refine' (fun (b : List Stmt) (_ : b = sB (sm 77 3)) (a : Arguments) (_ : a = sA (sm 77 3)) (c : Scope) (_ : c = sS (sm 77 3)) => (⟨(.type "function"), none, .func ⟨(.ofString "done_table"), (.ofString "Stepper.done_table"), a, .stmts b, c, 3, [], .none, .none, .none, (.str (.ofString "lua.stepper") 770), none, (.ref 455), .none, 0⟩, ⟨[]⟩⟩ : Obj)) _ ?h9 _ ?h8 _ ?h7
  case h9 => ((conv => rhs; whnf) <;> exact rfl)
  case h8 => ((conv => rhs; whnf) <;> exact rfl)
  case h7 => ((conv => rhs; whnf) <;> exact rfl)
noncomputable def o457 (P : Params) : Obj := ⟨(.type "tuple"), none, (.seq ⟨[]⟩ 0), ⟨[]⟩⟩
noncomputable def o458 (P : Params) : Obj := ⟨.none, none, (.fields ⟨[]⟩), ⟨[]⟩⟩
noncomputable def o459 (P : Params) : Obj := ⟨(.type "tuple"), none, (.seq ⟨[(.str (.ofString "self") 882), (.str (.ofString "op") 883), (.str (.ofString "instruction") 884), (.str (.ofString "stack") 885), (.str (.ofString "target") 886), (.str (.ofString "left") 887), (.str (.ofString "right") 888), (.str (.ofString "work") 889), (.str (.ofString "outcome") 890), (.str (.ofString "found") 891)]⟩ 0), ⟨[]⟩⟩
noncomputable def o460 (P : Params) : Obj := ⟨(.type "tuple"), none, (.seq ⟨[]⟩ 0), ⟨[]⟩⟩
noncomputable def o461 (P : Params) : Obj := ⟨.none, none, .func ⟨(.ofString "done_reckoning"), (.ofString "Stepper.done_reckoning"), (sA (sm 77 4)), .stmts (sB (sm 77 4)), (sS (sm 77 4)), 0, [], .none, .none, .none, .none, none, .none, .none, 0⟩, ⟨[]⟩⟩
noncomputable def o462 (P : Params) : Obj := ⟨(.type "code"), none, (.fields ⟨[(.str (.ofString "done_reckoning") 879), (.str (.ofString "Stepper.done_reckoning") 880), (.str (.ofString "/claim/cut.py") 881), (.int 357 0), (.int 3 0), (.int 0 0), (.int 0 0), (.int 3 0), (.ref 457), (.bool true), (.int 181 0), (.ref 458), .none, (.ref 459), (.ref 460), (.ref 461), (.int 892 0), (.int 357 0), (.str (.ofString "/claim/cut.py") 893)]⟩), ⟨[]⟩⟩
noncomputable def o463 (P : Params) : Obj := by
  refine' (fun (b : List Stmt) (_ : b = sB (sm 77 4)) (a : Arguments) (_ : a = sA (sm 77 4)) (c : Scope) (_ : c = sS (sm 77 4)) => (⟨(.type "function"), none, .func ⟨(.ofString "done_reckoning"), (.ofString "Stepper.done_reckoning"), a, .stmts b, c, 3, [], .none, .none, .none, (.str (.ofString "lua.stepper") 770), none, (.ref 462), .none, 0⟩, ⟨[]⟩⟩ : Obj)) _ ?h9 _ ?h8 _ ?h7
  case h9 => ((conv => rhs; whnf) <;> exact rfl)
  case h8 => ((conv => rhs; whnf) <;> exact rfl)
  case h7 => ((conv => rhs; whnf) <;> exact rfl)
noncomputable def o464 (P : Params) : Obj := ⟨(.type "tuple"), none, (.seq ⟨[]⟩ 0), ⟨[]⟩⟩
noncomputable def o465 (P : Params) : Obj := ⟨.none, none, (.fields ⟨[]⟩), ⟨[]⟩⟩
noncomputable def o466 (P : Params) : Obj := ⟨(.type "tuple"), none, (.seq ⟨[(.str (.ofString "self") 898), (.str (.ofString "instruction") 899), (.str (.ofString "first") 900), (.str (.ofString "last") 901), (.str (.ofString "outcome") 902), (.str (.ofString "taken") 903), (.str (.ofString "found") 904)]⟩ 0), ⟨[]⟩⟩
noncomputable def o467 (P : Params) : Obj := ⟨(.type "tuple"), none, (.seq ⟨[]⟩ 0), ⟨[]⟩⟩
noncomputable def o468 (P : Params) : Obj := ⟨.none, none, .func ⟨(.ofString "done_join"), (.ofString "Stepper.done_join"), (sA (sm 77 5)), .stmts (sB (sm 77 5)), (sS (sm 77 5)), 0, [], .none, .none, .none, .none, none, .none, .none, 0⟩, ⟨[]⟩⟩
noncomputable def o469 (P : Params) : Obj := ⟨(.type "code"), none, (.fields ⟨[(.str (.ofString "done_join") 895), (.str (.ofString "Stepper.done_join") 896), (.str (.ofString "/claim/cut.py") 897), (.int 375 0), (.int 2 0), (.int 0 0), (.int 0 0), (.int 3 0), (.ref 464), (.bool true), (.int 181 0), (.ref 465), .none, (.ref 466), (.ref 467), (.ref 468), (.int 905 0), (.int 375 0), (.str (.ofString "/claim/cut.py") 906)]⟩), ⟨[]⟩⟩
noncomputable def o470 (P : Params) : Obj := by
  refine' (fun (b : List Stmt) (_ : b = sB (sm 77 5)) (a : Arguments) (_ : a = sA (sm 77 5)) (c : Scope) (_ : c = sS (sm 77 5)) => (⟨(.type "function"), none, .func ⟨(.ofString "done_join"), (.ofString "Stepper.done_join"), a, .stmts b, c, 3, [], .none, .none, .none, (.str (.ofString "lua.stepper") 770), none, (.ref 469), .none, 0⟩, ⟨[]⟩⟩ : Obj)) _ ?h9 _ ?h8 _ ?h7
  case h9 => ((conv => rhs; whnf) <;> exact rfl)
  case h8 => ((conv => rhs; whnf) <;> exact rfl)
  case h7 => ((conv => rhs; whnf) <;> exact rfl)
noncomputable def o471 (P : Params) : Obj := ⟨(.type "tuple"), none, (.seq ⟨[]⟩ 0), ⟨[]⟩⟩
noncomputable def o472 (P : Params) : Obj := ⟨.none, none, (.fields ⟨[]⟩), ⟨[]⟩⟩
noncomputable def o473 (P : Params) : Obj := ⟨(.type "tuple"), none, (.seq ⟨[(.str (.ofString "self") 911), (.str (.ofString "op") 912), (.str (.ofString "instruction") 913), (.str (.ofString "left") 914), (.str (.ofString "right") 915), (.str (.ofString "work") 916), (.str (.ofString "found") 917), (.str (.ofString "goes") 918), (.str (.ofString "value") 919)]⟩ 0), ⟨[]⟩⟩
noncomputable def o474 (P : Params) : Obj := ⟨(.type "tuple"), none, (.seq ⟨[]⟩ 0), ⟨[]⟩⟩
noncomputable def o475 (P : Params) : Obj := ⟨.none, none, .func ⟨(.ofString "done_jump"), (.ofString "Stepper.done_jump"), (sA (sm 77 6)), .stmts (sB (sm 77 6)), (sS (sm 77 6)), 0, [], .none, .none, .none, .none, none, .none, .none, 0⟩, ⟨[]⟩⟩
noncomputable def o476 (P : Params) : Obj := ⟨(.type "code"), none, (.fields ⟨[(.str (.ofString "done_jump") 908), (.str (.ofString "Stepper.done_jump") 909), (.str (.ofString "/claim/cut.py") 910), (.int 386 0), (.int 3 0), (.int 0 0), (.int 0 0), (.int 3 0), (.ref 471), (.bool true), (.int 181 0), (.ref 472), .none, (.ref 473), (.ref 474), (.ref 475), (.int 920 0), (.int 386 0), (.str (.ofString "/claim/cut.py") 921)]⟩), ⟨[]⟩⟩
noncomputable def o477 (P : Params) : Obj := by
  refine' (fun (b : List Stmt) (_ : b = sB (sm 77 6)) (a : Arguments) (_ : a = sA (sm 77 6)) (c : Scope) (_ : c = sS (sm 77 6)) => (⟨(.type "function"), none, .func ⟨(.ofString "done_jump"), (.ofString "Stepper.done_jump"), a, .stmts b, c, 3, [], .none, .none, .none, (.str (.ofString "lua.stepper") 770), none, (.ref 476), .none, 0⟩, ⟨[]⟩⟩ : Obj)) _ ?h9 _ ?h8 _ ?h7
  case h9 => ((conv => rhs; whnf) <;> exact rfl)
  case h8 => ((conv => rhs; whnf) <;> exact rfl)
  case h7 => ((conv => rhs; whnf) <;> exact rfl)
noncomputable def o478 (P : Params) : Obj := ⟨(.type "tuple"), none, (.seq ⟨[]⟩ 0), ⟨[]⟩⟩
noncomputable def o479 (P : Params) : Obj := ⟨.none, none, (.fields ⟨[]⟩), ⟨[]⟩⟩
noncomputable def o480 (P : Params) : Obj := ⟨(.type "tuple"), none, (.seq ⟨[(.str (.ofString "self") 926), (.str (.ofString "op") 927), (.str (.ofString "instruction") 928), (.str (.ofString "target") 929), (.str (.ofString "many") 930), (.str (.ofString "func") 931)]⟩ 0), ⟨[]⟩⟩
noncomputable def o481 (P : Params) : Obj := ⟨(.type "tuple"), none, (.seq ⟨[]⟩ 0), ⟨[]⟩⟩
noncomputable def o482 (P : Params) : Obj := ⟨.none, none, .func ⟨(.ofString "done_other"), (.ofString "Stepper.done_other"), (sA (sm 77 7)), .stmts (sB (sm 77 7)), (sS (sm 77 7)), 0, [], .none, .none, .none, .none, none, .none, .none, 0⟩, ⟨[]⟩⟩
noncomputable def o483 (P : Params) : Obj := ⟨(.type "code"), none, (.fields ⟨[(.str (.ofString "done_other") 923), (.str (.ofString "Stepper.done_other") 924), (.str (.ofString "/claim/cut.py") 925), (.int 405 0), (.int 3 0), (.int 0 0), (.int 0 0), (.int 3 0), (.ref 478), (.bool true), (.int 181 0), (.ref 479), .none, (.ref 480), (.ref 481), (.ref 482), (.int 932 0), (.int 405 0), (.str (.ofString "/claim/cut.py") 933)]⟩), ⟨[]⟩⟩
noncomputable def o484 (P : Params) : Obj := by
  refine' (fun (b : List Stmt) (_ : b = sB (sm 77 7)) (a : Arguments) (_ : a = sA (sm 77 7)) (c : Scope) (_ : c = sS (sm 77 7)) => (⟨(.type "function"), none, .func ⟨(.ofString "done_other"), (.ofString "Stepper.done_other"), a, .stmts b, c, 3, [], .none, .none, .none, (.str (.ofString "lua.stepper") 770), none, (.ref 483), .none, 0⟩, ⟨[]⟩⟩ : Obj)) _ ?h9 _ ?h8 _ ?h7
  case h9 => ((conv => rhs; whnf) <;> exact rfl)
  case h8 => ((conv => rhs; whnf) <;> exact rfl)
  case h7 => ((conv => rhs; whnf) <;> exact rfl)
noncomputable def o485 (P : Params) : Obj := ⟨(.type "tuple"), none, (.seq ⟨[]⟩ 0), ⟨[]⟩⟩
noncomputable def o486 (P : Params) : Obj := ⟨.none, none, (.fields ⟨[]⟩), ⟨[]⟩⟩
noncomputable def o487 (P : Params) : Obj := ⟨(.type "tuple"), none, (.seq ⟨[(.str (.ofString "self") 938), (.str (.ofString "func") 939), (.str (.ofString "many") 940), (.str (.ofString "wanted") 941), (.str (.ofString "work") 942), (.str (.ofString "found") 943), (.str (.ofString "at") 944), (.str (.ofString "value") 945)]⟩ 0), ⟨[]⟩⟩
noncomputable def o488 (P : Params) : Obj := ⟨(.type "tuple"), none, (.seq ⟨[]⟩ 0), ⟨[]⟩⟩
noncomputable def o489 (P : Params) : Obj := ⟨.none, none, .func ⟨(.ofString "call_at"), (.ofString "Stepper.call_at"), (sA (sm 77 8)), .stmts (sB (sm 77 8)), (sS (sm 77 8)), 0, [], .none, .none, .none, .none, none, .none, .none, 0⟩, ⟨[]⟩⟩
noncomputable def o490 (P : Params) : Obj := ⟨(.type "code"), none, (.fields ⟨[(.str (.ofString "call_at") 935), (.str (.ofString "Stepper.call_at") 936), (.str (.ofString "/claim/cut.py") 937), (.int 430 0), (.int 4 0), (.int 0 0), (.int 0 0), (.int 3 0), (.ref 485), (.bool true), (.int 181 0), (.ref 486), .none, (.ref 487), (.ref 488), (.ref 489), (.int 946 0), (.int 430 0), (.str (.ofString "/claim/cut.py") 947)]⟩), ⟨[]⟩⟩
noncomputable def o491 (P : Params) : Obj := by
  refine' (fun (b : List Stmt) (_ : b = sB (sm 77 8)) (a : Arguments) (_ : a = sA (sm 77 8)) (c : Scope) (_ : c = sS (sm 77 8)) => (⟨(.type "function"), none, .func ⟨(.ofString "call_at"), (.ofString "Stepper.call_at"), a, .stmts b, c, 3, [], .none, .none, .none, (.str (.ofString "lua.stepper") 770), none, (.ref 490), .none, 0⟩, ⟨[]⟩⟩ : Obj)) _ ?h9 _ ?h8 _ ?h7
  case h9 => ((conv => rhs; whnf) <;> exact rfl)
  case h8 => ((conv => rhs; whnf) <;> exact rfl)
  case h7 => ((conv => rhs; whnf) <;> exact rfl)
noncomputable def o492 (P : Params) : Obj := ⟨(.type "tuple"), none, (.seq ⟨[]⟩ 0), ⟨[]⟩⟩
noncomputable def o493 (P : Params) : Obj := ⟨.none, none, (.fields ⟨[]⟩), ⟨[]⟩⟩
noncomputable def o494 (P : Params) : Obj := ⟨(.type "tuple"), none, (.seq ⟨[(.str (.ofString "self") 952), (.str (.ofString "instruction") 953), (.str (.ofString "func") 954), (.str (.ofString "many") 955)]⟩ 0), ⟨[]⟩⟩
noncomputable def o495 (P : Params) : Obj := ⟨(.type "tuple"), none, (.seq ⟨[]⟩ 0), ⟨[]⟩⟩
noncomputable def o496 (P : Params) : Obj := ⟨.none, none, .func ⟨(.ofString "done_call"), (.ofString "Stepper.done_call"), (sA (sm 77 9)), .stmts (sB (sm 77 9)), (sS (sm 77 9)), 0, [], .none, .none, .none, .none, none, .none, .none, 0⟩, ⟨[]⟩⟩
noncomputable def o497 (P : Params) : Obj := ⟨(.type "code"), none, (.fields ⟨[(.str (.ofString "done_call") 949), (.str (.ofString "Stepper.done_call") 950), (.str (.ofString "/claim/cut.py") 951), (.int 440 0), (.int 2 0), (.int 0 0), (.int 0 0), (.int 3 0), (.ref 492), (.bool true), (.int 181 0), (.ref 493), .none, (.ref 494), (.ref 495), (.ref 496), (.int 956 0), (.int 440 0), (.str (.ofString "/claim/cut.py") 957)]⟩), ⟨[]⟩⟩
noncomputable def o498 (P : Params) : Obj := by
  refine' (fun (b : List Stmt) (_ : b = sB (sm 77 9)) (a : Arguments) (_ : a = sA (sm 77 9)) (c : Scope) (_ : c = sS (sm 77 9)) => (⟨(.type "function"), none, .func ⟨(.ofString "done_call"), (.ofString "Stepper.done_call"), a, .stmts b, c, 3, [], .none, .none, .none, (.str (.ofString "lua.stepper") 770), none, (.ref 497), .none, 0⟩, ⟨[]⟩⟩ : Obj)) _ ?h9 _ ?h8 _ ?h7
  case h9 => ((conv => rhs; whnf) <;> exact rfl)
  case h8 => ((conv => rhs; whnf) <;> exact rfl)
  case h7 => ((conv => rhs; whnf) <;> exact rfl)
noncomputable def o499 (P : Params) : Obj := ⟨(.type "tuple"), none, (.seq ⟨[]⟩ 0), ⟨[]⟩⟩
noncomputable def o500 (P : Params) : Obj := ⟨.none, none, (.fields ⟨[]⟩), ⟨[]⟩⟩
noncomputable def o501 (P : Params) : Obj := ⟨(.type "tuple"), none, (.seq ⟨[(.str (.ofString "self") 962), (.str (.ofString "instruction") 963), (.str (.ofString "target") 964), (.str (.ofString "held") 965), (.str (.ofString "ahead") 966), (.str (.ofString "many") 967), (.str (.ofString "work") 968), (.str (.ofString "at") 969)]⟩ 0), ⟨[]⟩⟩
noncomputable def o502 (P : Params) : Obj := ⟨(.type "tuple"), none, (.seq ⟨[]⟩ 0), ⟨[]⟩⟩
noncomputable def o503 (P : Params) : Obj := ⟨.none, none, .func ⟨(.ofString "done_list"), (.ofString "Stepper.done_list"), (sA (sm 77 10)), .stmts (sB (sm 77 10)), (sS (sm 77 10)), 0, [], .none, .none, .none, .none, none, .none, .none, 0⟩, ⟨[]⟩⟩
noncomputable def o504 (P : Params) : Obj := ⟨(.type "code"), none, (.fields ⟨[(.str (.ofString "done_list") 959), (.str (.ofString "Stepper.done_list") 960), (.str (.ofString "/claim/cut.py") 961), (.int 446 0), (.int 2 0), (.int 0 0), (.int 0 0), (.int 3 0), (.ref 499), (.bool true), (.int 181 0), (.ref 500), .none, (.ref 501), (.ref 502), (.ref 503), (.int 970 0), (.int 446 0), (.str (.ofString "/claim/cut.py") 971)]⟩), ⟨[]⟩⟩
noncomputable def o505 (P : Params) : Obj := by
  refine' (fun (b : List Stmt) (_ : b = sB (sm 77 10)) (a : Arguments) (_ : a = sA (sm 77 10)) (c : Scope) (_ : c = sS (sm 77 10)) => (⟨(.type "function"), none, .func ⟨(.ofString "done_list"), (.ofString "Stepper.done_list"), a, .stmts b, c, 3, [], .none, .none, .none, (.str (.ofString "lua.stepper") 770), none, (.ref 504), .none, 0⟩, ⟨[]⟩⟩ : Obj)) _ ?h9 _ ?h8 _ ?h7
  case h9 => ((conv => rhs; whnf) <;> exact rfl)
  case h8 => ((conv => rhs; whnf) <;> exact rfl)
  case h7 => ((conv => rhs; whnf) <;> exact rfl)
noncomputable def o506 (P : Params) : Obj := ⟨(.type "tuple"), none, (.seq ⟨[(.str (.ofString "code") 973), (.str (.ofString "constants") 974), (.str (.ofString "limits") 975), (.str (.ofString "pc") 976), (.str (.ofString "result") 977), (.str (.ofString "room") 978), (.str (.ofString "stack") 979), (.str (.ofString "top") 980), (.str (.ofString "works") 981)]⟩ 0), ⟨[]⟩⟩
noncomputable def o507 (P : Params) : Obj := ⟨(.type "dict"), none, (.dict ⟨[de P (.ofString "__module__") 824 (.str (.ofString "lua.stepper") 770), de P (.ofString "__firstlineno__") 828 (.int 299 827), de P (.ofString "__init__") 840 (.ref 435), de P (.ofString "run") 851 (.ref 442), de P (.ofString "done") 860 (.ref 449), de P (.ofString "done_table") 878 (.ref 456), de P (.ofString "done_reckoning") 894 (.ref 463), de P (.ofString "done_join") 907 (.ref 470), de P (.ofString "done_jump") 922 (.ref 477), de P (.ofString "done_other") 934 (.ref 484), de P (.ofString "call_at") 948 (.ref 491), de P (.ofString "done_call") 958 (.ref 498), de P (.ofString "done_list") 972 (.ref 505), de P (.ofString "__static_attributes__") 982 (.ref 506), de P (.ofString "__dict__") 984 (.ref 509), de P (.ofString "__weakref__") 986 (.ref 510), de P (.ofString "__doc__") 987 .none]⟩ 4), ⟨[]⟩⟩
noncomputable def o508 (P : Params) : Obj := ⟨(.type "type"), none, (.cls ⟨(.ofString "Stepper"), [(.type "object")], [(.ref 508), (.type "object")], 507, (.ofString "Stepper"), true, [], [], false, none, false⟩), ⟨[none, none, (some (.str (.ofString "Stepper") 817)), (some (.str (.ofString "Stepper") 825)), (some (.builtin "object.__new__")), (some (.bool true))]⟩⟩
noncomputable def o509 (P : Params) : Obj := ⟨(.type "getset_descriptor"), none, (.fields ⟨[(.str (.ofString "__dict__") 983), (.ref 508), (.builtin "function.__dict__"), (.builtin "function.__dict__#set")]⟩), ⟨[]⟩⟩
noncomputable def o510 (P : Params) : Obj := ⟨(.type "getset_descriptor"), none, (.fields ⟨[(.str (.ofString "__weakref__") 985), (.ref 508), (.builtin "ExceptionGroup.__weakref__"), .none]⟩), ⟨[]⟩⟩
noncomputable def o511 (P : Params) : Obj := ⟨(.type "super"), none, (.fields ⟨[(.ref 508), (.ref 508), (.ref 508)]⟩), ⟨[]⟩⟩
noncomputable def o512 (P : Params) : Obj := ⟨(.type "builtin_function_or_method"), none, (.fields ⟨[(.builtin "object.__init_subclass__"), (.ref 508)]⟩), ⟨[]⟩⟩
noncomputable def o513 (P : Params) : Obj := ⟨(.type "tuple"), none, (.seq ⟨[]⟩ 0), ⟨[]⟩⟩
noncomputable def o514 (P : Params) : Obj := ⟨.none, none, (.fields ⟨[]⟩), ⟨[]⟩⟩
noncomputable def o515 (P : Params) : Obj := ⟨(.type "tuple"), none, (.seq ⟨[(.str (.ofString "rope") 995), (.str (.ofString "many") 996), (.str (.ofString "turn") 997)]⟩ 0), ⟨[]⟩⟩
noncomputable def o516 (P : Params) : Obj := ⟨(.type "tuple"), none, (.seq ⟨[]⟩ 0), ⟨[]⟩⟩
noncomputable def o517 (P : Params) : Obj := ⟨.none, none, .func ⟨(.ofString "_law_next"), (.ofString "_law_next"), (sA (st 79)), .stmts (sB (st 79)), (sS (st 79)), 0, [], .none, .none, .none, .none, none, .none, .none, 0⟩, ⟨[]⟩⟩
noncomputable def o518 (P : Params) : Obj := ⟨(.type "code"), none, (.fields ⟨[(.str (.ofString "_law_next") 992), (.str (.ofString "_law_next") 993), (.str (.ofString "/claim/cut.py") 994), (.int 457 0), (.int 2 0), (.int 0 0), (.int 0 0), (.int 3 0), (.ref 513), (.bool true), (.int 181 0), (.ref 514), .none, (.ref 515), (.ref 516), (.ref 517), (.int 998 0), (.int 457 0), (.str (.ofString "/claim/cut.py") 999)]⟩), ⟨[]⟩⟩
noncomputable def o519 (P : Params) : Obj := by
  refine' (fun (b : List Stmt) (_ : b = sB (st 79)) (a : Arguments) (_ : a = sA (st 79)) (c : Scope) (_ : c = sS (st 79)) => (⟨(.type "function"), none, .func ⟨(.ofString "_law_next"), (.ofString "_law_next"), a, .stmts b, c, 3, [], .none, .none, .none, (.str (.ofString "law_rh0164_01") 990), none, (.ref 518), .none, 0⟩, ⟨[]⟩⟩ : Obj)) _ ?h9 _ ?h8 _ ?h7
  case h9 => ((conv => rhs; whnf) <;> exact rfl)
  case h8 => ((conv => rhs; whnf) <;> exact rfl)
  case h7 => ((conv => rhs; whnf) <;> exact rfl)
noncomputable def o520 (P : Params) : Obj := ⟨(.type "tuple"), none, (.seq ⟨[]⟩ 0), ⟨[]⟩⟩
noncomputable def o521 (P : Params) : Obj := ⟨.none, none, (.fields ⟨[]⟩), ⟨[]⟩⟩
noncomputable def o522 (P : Params) : Obj := ⟨(.type "tuple"), none, (.seq ⟨[(.str (.ofString "op") 1004), (.str (.ofString "a") 1005), (.str (.ofString "b") 1006), (.str (.ofString "c") 1007)]⟩ 0), ⟨[]⟩⟩
noncomputable def o523 (P : Params) : Obj := ⟨(.type "tuple"), none, (.seq ⟨[]⟩ 0), ⟨[]⟩⟩
noncomputable def o524 (P : Params) : Obj := ⟨.none, none, .func ⟨(.ofString "_law_word"), (.ofString "_law_word"), (sA (st 80)), .stmts (sB (st 80)), (sS (st 80)), 0, [], .none, .none, .none, .none, none, .none, .none, 0⟩, ⟨[]⟩⟩
noncomputable def o525 (P : Params) : Obj := ⟨(.type "code"), none, (.fields ⟨[(.str (.ofString "_law_word") 1001), (.str (.ofString "_law_word") 1002), (.str (.ofString "/claim/cut.py") 1003), (.int 461 0), (.int 4 0), (.int 0 0), (.int 0 0), (.int 3 0), (.ref 520), (.bool true), (.int 181 0), (.ref 521), .none, (.ref 522), (.ref 523), (.ref 524), (.int 1008 0), (.int 461 0), (.str (.ofString "/claim/cut.py") 1009)]⟩), ⟨[]⟩⟩
noncomputable def o526 (P : Params) : Obj := by
  refine' (fun (b : List Stmt) (_ : b = sB (st 80)) (a : Arguments) (_ : a = sA (st 80)) (c : Scope) (_ : c = sS (st 80)) => (⟨(.type "function"), none, .func ⟨(.ofString "_law_word"), (.ofString "_law_word"), a, .stmts b, c, 3, [], .none, .none, .none, (.str (.ofString "law_rh0164_01") 990), none, (.ref 525), .none, 0⟩, ⟨[]⟩⟩ : Obj)) _ ?h9 _ ?h8 _ ?h7
  case h9 => ((conv => rhs; whnf) <;> exact rfl)
  case h8 => ((conv => rhs; whnf) <;> exact rfl)
  case h7 => ((conv => rhs; whnf) <;> exact rfl)
noncomputable def o527 (P : Params) : Obj := ⟨(.type "tuple"), none, (.seq ⟨[]⟩ 0), ⟨[]⟩⟩
noncomputable def o528 (P : Params) : Obj := ⟨.none, none, (.fields ⟨[]⟩), ⟨[]⟩⟩
noncomputable def o529 (P : Params) : Obj := ⟨(.type "tuple"), none, (.seq ⟨[(.str (.ofString "asked") 1014), (.str (.ofString "number") 1015), (.str (.ofString "put") 1016)]⟩ 0), ⟨[]⟩⟩
noncomputable def o530 (P : Params) : Obj := ⟨(.type "tuple"), none, (.seq ⟨[(.str (.ofString "asked") 1017), (.str (.ofString "number") 1018)]⟩ 0), ⟨[]⟩⟩
noncomputable def o531 (P : Params) : Obj := ⟨.none, none, .func ⟨(.ofString "_law_put"), (.ofString "_law_put"), (sA (st 81)), .stmts (sB (st 81)), (sS (st 81)), 0, [], .none, .none, .none, .none, none, .none, .none, 0⟩, ⟨[]⟩⟩
noncomputable def o532 (P : Params) : Obj := ⟨(.type "code"), none, (.fields ⟨[(.str (.ofString "_law_put") 1011), (.str (.ofString "_law_put") 1012), (.str (.ofString "/claim/cut.py") 1013), (.int 463 0), (.int 2 0), (.int 0 0), (.int 0 0), (.int 3 0), (.ref 527), (.bool true), (.int 181 0), (.ref 528), .none, (.ref 529), (.ref 530), (.ref 531), (.int 1019 0), (.int 463 0), (.str (.ofString "/claim/cut.py") 1020)]⟩), ⟨[]⟩⟩
noncomputable def o533 (P : Params) : Obj := by
  refine' (fun (b : List Stmt) (_ : b = sB (st 81)) (a : Arguments) (_ : a = sA (st 81)) (c : Scope) (_ : c = sS (st 81)) => (⟨(.type "function"), none, .func ⟨(.ofString "_law_put"), (.ofString "_law_put"), a, .stmts b, c, 3, [], .none, .none, .none, (.str (.ofString "law_rh0164_01") 990), none, (.ref 532), .none, 0⟩, ⟨[]⟩⟩ : Obj)) _ ?h9 _ ?h8 _ ?h7
  case h9 => ((conv => rhs; whnf) <;> exact rfl)
  case h8 => ((conv => rhs; whnf) <;> exact rfl)
  case h7 => ((conv => rhs; whnf) <;> exact rfl)
noncomputable def o534 (P : Params) : Obj := ⟨(.type "tuple"), none, (.seq ⟨[]⟩ 0), ⟨[]⟩⟩
noncomputable def o535 (P : Params) : Obj := ⟨.none, none, (.fields ⟨[]⟩), ⟨[]⟩⟩
noncomputable def o536 (P : Params) : Obj := ⟨.none, none, .func ⟨(.ofString "_law_loop_right"), (.ofString "_law_loop_right"), (sA (st 82)), .stmts (sB (st 82)), (sS (st 82)), 0, [], .none, .none, .none, .none, none, .none, .none, 0⟩, ⟨[]⟩⟩
noncomputable def o537 (P : Params) : Obj := ⟨(.type "code"), none, (.fields ⟨[(.str (.ofString "_law_loop_right") 1022), (.str (.ofString "_law_loop_right") 1023), (.str (.ofString "/claim/cut.py") 1024), (.int 469 0), (.int 1 0), (.int 0 0), (.int 0 0), (.int 3 0), (.ref 534), (.bool true), (.int 181 0), (.ref 535), .none, .none, .none, (.ref 536), (.int 1025 0), (.int 469 0), (.str (.ofString "/claim/cut.py") 1026)]⟩), ⟨[]⟩⟩
noncomputable def o538 (P : Params) : Obj := by
  refine' (fun (b : List Stmt) (_ : b = sB (st 82)) (a : Arguments) (_ : a = sA (st 82)) (c : Scope) (_ : c = sS (st 82)) => (⟨(.type "function"), none, .func ⟨(.ofString "_law_loop_right"), (.ofString "_law_loop_right"), a, .stmts b, c, 3, [], .none, .none, .none, (.str (.ofString "law_rh0164_01") 990), none, (.ref 537), .none, 0⟩, ⟨[]⟩⟩ : Obj)) _ ?h9 _ ?h8 _ ?h7
  case h9 => ((conv => rhs; whnf) <;> exact rfl)
  case h8 => ((conv => rhs; whnf) <;> exact rfl)
  case h7 => ((conv => rhs; whnf) <;> exact rfl)
noncomputable def o539 (P : Params) : Obj := ⟨(.type "tuple"), none, (.seq ⟨[]⟩ 0), ⟨[]⟩⟩
noncomputable def o540 (P : Params) : Obj := ⟨.none, none, (.fields ⟨[]⟩), ⟨[]⟩⟩
noncomputable def o541 (P : Params) : Obj := ⟨.none, none, .func ⟨(.ofString "law"), (.ofString "law"), (sA (st 83)), .stmts (sB (st 83)), (sS (st 83)), 0, [], .none, .none, .none, .none, none, .none, .none, 0⟩, ⟨[]⟩⟩
noncomputable def o542 (P : Params) : Obj := ⟨(.type "code"), none, (.fields ⟨[(.str (.ofString "law") 1028), (.str (.ofString "law") 1029), (.str (.ofString "/claim/cut.py") 1030), (.int 479 0), (.int 1 0), (.int 0 0), (.int 0 0), (.int 3 0), (.ref 539), (.bool true), (.int 181 0), (.ref 540), .none, .none, .none, (.ref 541), (.int 1031 0), (.int 479 0), (.str (.ofString "/claim/cut.py") 1032)]⟩), ⟨[]⟩⟩
noncomputable def o543 (P : Params) : Obj := by
  refine' (fun (b : List Stmt) (_ : b = sB (st 83)) (a : Arguments) (_ : a = sA (st 83)) (c : Scope) (_ : c = sS (st 83)) => (⟨(.type "function"), none, .func ⟨(.ofString "law"), (.ofString "law"), a, .stmts b, c, 3, [], .none, .none, .none, (.str (.ofString "law_rh0164_01") 990), none, (.ref 542), .none, 0⟩, ⟨[]⟩⟩ : Obj)) _ ?h9 _ ?h8 _ ?h7
  case h9 => ((conv => rhs; whnf) <;> exact rfl)
  case h8 => ((conv => rhs; whnf) <;> exact rfl)
  case h7 => ((conv => rhs; whnf) <;> exact rfl)
noncomputable def o12A (P : Params) : Obj := ⟨.none, none, (.fields ⟨[]⟩), ⟨[]⟩⟩
noncomputable def TA (P : Params) : BT := (.node (boot_o_0 P) (.node (boot_o_1 P) (.node (boot_o_3 P) (.node (boot_o_7 P) .nil .nil) (.node (o11 P) .nil .nil)) (.node (boot_o_5 P) (.node (boot_o_9 P) .nil .nil) (.node (o13 P) .nil .nil))) (.node (boot_o_2 P) (.node (boot_o_4 P) (.node (boot_o_8 P) .nil .nil) (.node (o12A P) .nil .nil)) (.node (boot_o_6 P) (.node (boot_o_10 P) .nil .nil) (.node (o14 P) .nil .nil))))
noncomputable def o3B17 (P : Params) : Obj := ⟨(.type "dict"), none, (.dict ⟨[de P (.ofString "__name__") 165 (.str (.ofString "lua.values") 252), de P (.ofString "__doc__") 166 .none, de P (.ofString "__package__") 167 .none, de P (.ofString "__loader__") 168 (.builtin "__main__.__loader__#opaque"), de P (.ofString "__spec__") 169 .none, de P (.ofString "__annotations__") 170 (.ref 6), de P (.ofString "__builtins__") 171 (.ref 4), de P (.ofString "__file__") 173 (.str (.ofString "/claim/cut.py") 172), de P (.ofString "__cached__") 174 .none, de P (.ofString "_wall") 193 (.ref 21), de P (.ofString "A_AT") 197 (.int 6 196), de P (.ofString "C_AT") 199 (.int 14 198), de P (.ofString "B_AT") 201 (.int 23 200), de P (.ofString "A_MASK") 203 (.int 255 202), de P (.ofString "C_MASK") 205 (.int 511 204), de P (.ofString "JUMP_ZERO") 207 (.int 131071 206), de P (.ofString "CONSTANT_BIT") 209 (.int 256 208), de P (.ofString "op_of") 216 (.ref 28), de P (.ofString "a_of") 223 (.ref 35), de P (.ofString "b_of") 230 (.ref 42), de P (.ofString "c_of") 237 (.ref 49), de P (.ofString "wide_of") 244 (.ref 56), de P (.ofString "jump_of") 251 (.ref 63), de P (.ofString "BLANKS") 255 (.bytes ⟨[32, 9, 10, 11, 12, 13]⟩ 254)]⟩ 24), ⟨[]⟩⟩
noncomputable def o12B17 (P : Params) : Obj := ⟨.none, none, (.fields ⟨[(.int 1 0), (.int 0 0), (.ref 20), (.int 12 0), (.int 0 0), (.ref 27), (.int 14 0), (.int 0 0), (.ref 34), (.int 16 0), (.int 0 0), (.ref 41), (.int 18 0), (.int 0 0), (.ref 48), (.int 20 0), (.int 0 0), (.ref 55), (.int 22 0), (.int 0 0), (.ref 62)]⟩), ⟨[]⟩⟩
noncomputable def TB17 (P : Params) : BT := (.node (boot_o_0 P) (.node (boot_o_1 P) (.node (o3B17 P) (.node (boot_o_7 P) (.node (o15 P) (.node (o31 P) (.node (o63 P) .nil .nil) .nil) (.node (o47 P) .nil .nil)) (.node (o23 P) (.node (o39 P) .nil .nil) (.node (o55 P) .nil .nil))) (.node (o11 P) (.node (o19 P) (.node (o35 P) .nil .nil) (.node (o51 P) .nil .nil)) (.node (o27 P) (.node (o43 P) .nil .nil) (.node (o59 P) .nil .nil)))) (.node (boot_o_5 P) (.node (boot_o_9 P) (.node (o17 P) (.node (o33 P) .nil .nil) (.node (o49 P) .nil .nil)) (.node (o25 P) (.node (o41 P) .nil .nil) (.node (o57 P) .nil .nil))) (.node (o13 P) (.node (o21 P) (.node (o37 P) .nil .nil) (.node (o53 P) .nil .nil)) (.node (o29 P) (.node (o45 P) .nil .nil) (.node (o61 P) .nil .nil))))) (.node (boot_o_2 P) (.node (boot_o_4 P) (.node (boot_o_8 P) (.node (o16 P) (.node (o32 P) .nil .nil) (.node (o48 P) .nil .nil)) (.node (o24 P) (.node (o40 P) .nil .nil) (.node (o56 P) .nil .nil))) (.node (o12B17 P) (.node (o20 P) (.node (o36 P) .nil .nil) (.node (o52 P) .nil .nil)) (.node (o28 P) (.node (o44 P) .nil .nil) (.node (o60 P) .nil .nil)))) (.node (boot_o_6 P) (.node (boot_o_10 P) (.node (o18 P) (.node (o34 P) .nil .nil) (.node (o50 P) .nil .nil)) (.node (o26 P) (.node (o42 P) .nil .nil) (.node (o58 P) .nil .nil))) (.node (o14 P) (.node (o22 P) (.node (o38 P) .nil .nil) (.node (o54 P) .nil .nil)) (.node (o30 P) (.node (o46 P) .nil .nil) (.node (o62 P) .nil .nil))))))
noncomputable def o2B19 (P : Params) : Obj := ⟨.none, none, (.dict ⟨[de P (.ofString "type.__subclasses__.Exception.0") 354 (.int 116 0), de P (.ofString "type.__subclasses__.Exception.n") 355 (.int 1 0)]⟩ 2), ⟨[]⟩⟩
noncomputable def o3B19 (P : Params) : Obj := ⟨(.type "dict"), none, (.dict ⟨[de P (.ofString "__name__") 165 (.str (.ofString "lua.values") 252), de P (.ofString "__doc__") 166 .none, de P (.ofString "__package__") 167 .none, de P (.ofString "__loader__") 168 (.builtin "__main__.__loader__#opaque"), de P (.ofString "__spec__") 169 .none, de P (.ofString "__annotations__") 170 (.ref 6), de P (.ofString "__builtins__") 171 (.ref 4), de P (.ofString "__file__") 173 (.str (.ofString "/claim/cut.py") 172), de P (.ofString "__cached__") 174 .none, de P (.ofString "_wall") 193 (.ref 21), de P (.ofString "A_AT") 197 (.int 6 196), de P (.ofString "C_AT") 199 (.int 14 198), de P (.ofString "B_AT") 201 (.int 23 200), de P (.ofString "A_MASK") 203 (.int 255 202), de P (.ofString "C_MASK") 205 (.int 511 204), de P (.ofString "JUMP_ZERO") 207 (.int 131071 206), de P (.ofString "CONSTANT_BIT") 209 (.int 256 208), de P (.ofString "op_of") 216 (.ref 28), de P (.ofString "a_of") 223 (.ref 35), de P (.ofString "b_of") 230 (.ref 42), de P (.ofString "c_of") 237 (.ref 49), de P (.ofString "wide_of") 244 (.ref 56), de P (.ofString "jump_of") 251 (.ref 63), de P (.ofString "BLANKS") 255 (.bytes ⟨[32, 9, 10, 11, 12, 13]⟩ 254), de P (.ofString "Limits") 326 (.ref 95), de P (.ofString "LuaError") 357 (.ref 116)]⟩ 26), ⟨[]⟩⟩
noncomputable def o12B19 (P : Params) : Obj := ⟨.none, none, (.fields ⟨[(.int 1 0), (.int 0 0), (.ref 20), (.int 12 0), (.int 0 0), (.ref 27), (.int 14 0), (.int 0 0), (.ref 34), (.int 16 0), (.int 0 0), (.ref 41), (.int 18 0), (.int 0 0), (.ref 48), (.int 20 0), (.int 0 0), (.ref 55), (.int 22 0), (.int 0 0), (.ref 62), (.int 26 0), (.int 0 0), (.ref 69), (.int 45 0), (.int 0 0), (.ref 105)]⟩), ⟨[]⟩⟩
noncomputable def TB19 (P : Params) : BT := (.node (boot_o_0 P) (.node (boot_o_1 P) (.node (o3B19 P) (.node (boot_o_7 P) (.node (o15 P) (.node (o31 P) (.node (o63 P) .nil .nil) (.node (o95 P) .nil .nil)) (.node (o47 P) (.node (o79 P) .nil .nil) (.node (o111 P) .nil .nil))) (.node (o23 P) (.node (o39 P) (.node (o71 P) .nil .nil) (.node (o103 P) .nil .nil)) (.node (o55 P) (.node (o87 P) .nil .nil) (.node (o119 P) .nil .nil)))) (.node (o11 P) (.node (o19 P) (.node (o35 P) (.node (o67 P) .nil .nil) (.node (o99 P) .nil .nil)) (.node (o51 P) (.node (o83 P) .nil .nil) (.node (o115 P) .nil .nil))) (.node (o27 P) (.node (o43 P) (.node (o75 P) .nil .nil) (.node (o107 P) .nil .nil)) (.node (o59 P) (.node (o91 P) .nil .nil) .nil)))) (.node (boot_o_5 P) (.node (boot_o_9 P) (.node (o17 P) (.node (o33 P) (.node (o65 P) .nil .nil) (.node (o97 P) .nil .nil)) (.node (o49 P) (.node (o81 P) .nil .nil) (.node (o113 P) .nil .nil))) (.node (o25 P) (.node (o41 P) (.node (o73 P) .nil .nil) (.node (o105 P) .nil .nil)) (.node (o57 P) (.node (o89 P) .nil .nil) .nil))) (.node (o13 P) (.node (o21 P) (.node (o37 P) (.node (o69 P) .nil .nil) (.node (o101 P) .nil .nil)) (.node (o53 P) (.node (o85 P) .nil .nil) (.node (o117 P) .nil .nil))) (.node (o29 P) (.node (o45 P) (.node (o77 P) .nil .nil) (.node (o109 P) .nil .nil)) (.node (o61 P) (.node (o93 P) .nil .nil) .nil))))) (.node (o2B19 P) (.node (boot_o_4 P) (.node (boot_o_8 P) (.node (o16 P) (.node (o32 P) (.node (o64 P) .nil .nil) (.node (o96 P) .nil .nil)) (.node (o48 P) (.node (o80 P) .nil .nil) (.node (o112 P) .nil .nil))) (.node (o24 P) (.node (o40 P) (.node (o72 P) .nil .nil) (.node (o104 P) .nil .nil)) (.node (o56 P) (.node (o88 P) .nil .nil) .nil))) (.node (o12B19 P) (.node (o20 P) (.node (o36 P) (.node (o68 P) .nil .nil) (.node (o100 P) .nil .nil)) (.node (o52 P) (.node (o84 P) .nil .nil) (.node (o116 P) .nil .nil))) (.node (o28 P) (.node (o44 P) (.node (o76 P) .nil .nil) (.node (o108 P) .nil .nil)) (.node (o60 P) (.node (o92 P) .nil .nil) .nil)))) (.node (boot_o_6 P) (.node (boot_o_10 P) (.node (o18 P) (.node (o34 P) (.node (o66 P) .nil .nil) (.node (o98 P) .nil .nil)) (.node (o50 P) (.node (o82 P) .nil .nil) (.node (o114 P) .nil .nil))) (.node (o26 P) (.node (o42 P) (.node (o74 P) .nil .nil) (.node (o106 P) .nil .nil)) (.node (o58 P) (.node (o90 P) .nil .nil) .nil))) (.node (o14 P) (.node (o22 P) (.node (o38 P) (.node (o70 P) .nil .nil) (.node (o102 P) .nil .nil)) (.node (o54 P) (.node (o86 P) .nil .nil) (.node (o118 P) .nil .nil))) (.node (o30 P) (.node (o46 P) (.node (o78 P) .nil .nil) (.node (o110 P) .nil .nil)) (.node (o62 P) (.node (o94 P) .nil .nil) .nil))))))
noncomputable def o3B40 (P : Params) : Obj := ⟨(.type "dict"), none, (.dict ⟨(de P (.ofString "__name__") 165 (.str (.ofString "lua.joins") 530) :: de P (.ofString "__doc__") 166 .none :: de P (.ofString "__package__") 167 .none :: de P (.ofString "__loader__") 168 (.builtin "__main__.__loader__#opaque") :: de P (.ofString "__spec__") 169 .none :: de P (.ofString "__annotations__") 170 (.ref 6) :: de P (.ofString "__builtins__") 171 (.ref 4) :: de P (.ofString "__file__") 173 (.str (.ofString "/claim/cut.py") 172) :: de P (.ofString "__cached__") 174 .none :: de P (.ofString "_wall") 193 (.ref 21) :: de P (.ofString "A_AT") 197 (.int 6 196) :: de P (.ofString "C_AT") 199 (.int 14 198) :: de P (.ofString "B_AT") 201 (.int 23 200) :: de P (.ofString "A_MASK") 203 (.int 255 202) :: de P (.ofString "C_MASK") 205 (.int 511 204) :: de P (.ofString "JUMP_ZERO") 207 (.int 131071 206) :: de P (.ofString "CONSTANT_BIT") 209 (.int 256 208) :: de P (.ofString "op_of") 216 (.ref 28) :: de P (.ofString "a_of") 223 (.ref 35) :: de P (.ofString "b_of") 230 (.ref 42) :: de P (.ofString "c_of") 237 (.ref 49) :: de P (.ofString "wide_of") 244 (.ref 56) :: de P (.ofString "jump_of") 251 (.ref 63) :: de P (.ofString "BLANKS") 255 (.bytes ⟨[32, 9, 10, 11, 12, 13]⟩ 254) :: de P (.ofString "Limits") 326 (.ref 95) :: de P (.ofString "LuaError") 357 (.ref 116) :: de P (.ofString "ApiError") 386 (.ref 136) :: de P (.ofString "is_number") 393 (.ref 146) :: de P (.ofString "is_false") 400 (.ref 153) :: de P (.ofString "wrap") 409 (.ref 160) :: de P (.ofString "divide") 418 (.ref 167) :: de P (.ofString "power") 429 (.ref 174) :: de P (.ofString "arith") 440 (.ref 181) :: de P (.ofString "is_blank") 447 (.ref 188) :: de P (.ofString "digit_of") 454 (.ref 195) :: de P (.ofString "read_digits") 467 (.ref 202) :: de P (.ofString "skip_blanks") 475 (.ref 209) :: de P (.ofString "str_to_number") 483 (.ref 216) :: de P (.ofString "text_in_base") 497 (.ref 223) :: de P (.ofString "to_number") 505 (.ref 230) :: de P (.ofString "number_text") 514 (.ref 237) :: de P (.ofString "to_text") 521 (.ref 244) :: de P (.ofString "byte_float") 529 (.ref 251) :: de P (.ofString "MADE") 533 (.int 0 532) :: de P (.ofString "NO_TEXTS") 535 (.int 1 534) :: de P (.ofString "TOO_LONG") 537 (.int 2 536) :: [])⟩ 46), ⟨[]⟩⟩
noncomputable def o12B40 (P : Params) : Obj := ⟨.none, none, (.fields ⟨((.int 1 0) :: (.int 0 0) :: (.ref 20) :: (.int 12 0) :: (.int 0 0) :: (.ref 27) :: (.int 14 0) :: (.int 0 0) :: (.ref 34) :: (.int 16 0) :: (.int 0 0) :: (.ref 41) :: (.int 18 0) :: (.int 0 0) :: (.ref 48) :: (.int 20 0) :: (.int 0 0) :: (.ref 55) :: (.int 22 0) :: (.int 0 0) :: (.ref 62) :: (.int 26 0) :: (.int 0 0) :: (.ref 69) :: (.int 45 0) :: (.int 0 0) :: (.ref 105) :: (.int 51 0) :: (.int 0 0) :: (.ref 125) :: (.int 55 0) :: (.int 0 0) :: (.ref 145) :: (.int 57 0) :: (.int 0 0) :: (.ref 152) :: (.int 61 0) :: (.int 0 0) :: (.ref 159) :: (.int 66 0) :: (.int 0 0) :: (.ref 166) :: (.int 69 0) :: (.int 0 0) :: (.ref 173) :: (.int 83 0) :: (.int 0 0) :: (.ref 180) :: (.int 102 0) :: (.int 0 0) :: (.ref 187) :: (.int 104 0) :: (.int 0 0) :: (.ref 194) :: (.int 112 0) :: (.int 0 0) :: (.ref 201) :: (.int 121 0) :: (.int 0 0) :: (.ref 208) :: (.int 125 0) :: (.int 0 0) :: (.ref 215) :: (.int 127 0) :: (.int 0 0) :: (.ref 222) :: (.int 139 0) :: (.int 0 0) :: (.ref 229) :: (.int 145 0) :: (.int 0 0) :: (.ref 236) :: (.int 155 0) :: (.int 0 0) :: (.ref 243) :: (.int 161 0) :: (.int 0 0) :: (.ref 250) :: [])⟩), ⟨[]⟩⟩
noncomputable def TB40 (P : Params) : BT := (.node (boot_o_0 P) (.node (boot_o_1 P) (.node (o3B40 P) (.node (boot_o_7 P) (.node (o15 P) (.node (o31 P) (.node (o63 P) (.node (o127 P) .nil .nil) (.node (o191 P) .nil .nil)) (.node (o95 P) (.node (o159 P) .nil .nil) (.node (o223 P) .nil .nil))) (.node (o47 P) (.node (o79 P) (.node (o143 P) .nil .nil) (.node (o207 P) .nil .nil)) (.node (o111 P) (.node (o175 P) .nil .nil) (.node (o239 P) .nil .nil)))) (.node (o23 P) (.node (o39 P) (.node (o71 P) (.node (o135 P) .nil .nil) (.node (o199 P) .nil .nil)) (.node (o103 P) (.node (o167 P) .nil .nil) (.node (o231 P) .nil .nil))) (.node (o55 P) (.node (o87 P) (.node (o151 P) .nil .nil) (.node (o215 P) .nil .nil)) (.node (o119 P) (.node (o183 P) .nil .nil) (.node (o247 P) .nil .nil))))) (.node (o11 P) (.node (o19 P) (.node (o35 P) (.node (o67 P) (.node (o131 P) .nil .nil) (.node (o195 P) .nil .nil)) (.node (o99 P) (.node (o163 P) .nil .nil) (.node (o227 P) .nil .nil))) (.node (o51 P) (.node (o83 P) (.node (o147 P) .nil .nil) (.node (o211 P) .nil .nil)) (.node (o115 P) (.node (o179 P) .nil .nil) (.node (o243 P) .nil .nil)))) (.node (o27 P) (.node (o43 P) (.node (o75 P) (.node (o139 P) .nil .nil) (.node (o203 P) .nil .nil)) (.node (o107 P) (.node (o171 P) .nil .nil) (.node (o235 P) .nil .nil))) (.node (o59 P) (.node (o91 P) (.node (o155 P) .nil .nil) (.node (o219 P) .nil .nil)) (.node (o123 P) (.node (o187 P) .nil .nil) (.node (o251 P) .nil .nil)))))) (.node (boot_o_5 P) (.node (boot_o_9 P) (.node (o17 P) (.node (o33 P) (.node (o65 P) (.node (o129 P) .nil .nil) (.node (o193 P) .nil .nil)) (.node (o97 P) (.node (o161 P) .nil .nil) (.node (o225 P) .nil .nil))) (.node (o49 P) (.node (o81 P) (.node (o145 P) .nil .nil) (.node (o209 P) .nil .nil)) (.node (o113 P) (.node (o177 P) .nil .nil) (.node (o241 P) .nil .nil)))) (.node (o25 P) (.node (o41 P) (.node (o73 P) (.node (o137 P) .nil .nil) (.node (o201 P) .nil .nil)) (.node (o105 P) (.node (o169 P) .nil .nil) (.node (o233 P) .nil .nil))) (.node (o57 P) (.node (o89 P) (.node (o153 P) .nil .nil) (.node (o217 P) .nil .nil)) (.node (o121 P) (.node (o185 P) .nil .nil) (.node (o249 P) .nil .nil))))) (.node (o13 P) (.node (o21 P) (.node (o37 P) (.node (o69 P) (.node (o133 P) .nil .nil) (.node (o197 P) .nil .nil)) (.node (o101 P) (.node (o165 P) .nil .nil) (.node (o229 P) .nil .nil))) (.node (o53 P) (.node (o85 P) (.node (o149 P) .nil .nil) (.node (o213 P) .nil .nil)) (.node (o117 P) (.node (o181 P) .nil .nil) (.node (o245 P) .nil .nil)))) (.node (o29 P) (.node (o45 P) (.node (o77 P) (.node (o141 P) .nil .nil) (.node (o205 P) .nil .nil)) (.node (o109 P) (.node (o173 P) .nil .nil) (.node (o237 P) .nil .nil))) (.node (o61 P) (.node (o93 P) (.node (o157 P) .nil .nil) (.node (o221 P) .nil .nil)) (.node (o125 P) (.node (o189 P) .nil .nil) .nil)))))) (.node (o2 P) (.node (boot_o_4 P) (.node (boot_o_8 P) (.node (o16 P) (.node (o32 P) (.node (o64 P) (.node (o128 P) .nil .nil) (.node (o192 P) .nil .nil)) (.node (o96 P) (.node (o160 P) .nil .nil) (.node (o224 P) .nil .nil))) (.node (o48 P) (.node (o80 P) (.node (o144 P) .nil .nil) (.node (o208 P) .nil .nil)) (.node (o112 P) (.node (o176 P) .nil .nil) (.node (o240 P) .nil .nil)))) (.node (o24 P) (.node (o40 P) (.node (o72 P) (.node (o136 P) .nil .nil) (.node (o200 P) .nil .nil)) (.node (o104 P) (.node (o168 P) .nil .nil) (.node (o232 P) .nil .nil))) (.node (o56 P) (.node (o88 P) (.node (o152 P) .nil .nil) (.node (o216 P) .nil .nil)) (.node (o120 P) (.node (o184 P) .nil .nil) (.node (o248 P) .nil .nil))))) (.node (o12B40 P) (.node (o20 P) (.node (o36 P) (.node (o68 P) (.node (o132 P) .nil .nil) (.node (o196 P) .nil .nil)) (.node (o100 P) (.node (o164 P) .nil .nil) (.node (o228 P) .nil .nil))) (.node (o52 P) (.node (o84 P) (.node (o148 P) .nil .nil) (.node (o212 P) .nil .nil)) (.node (o116 P) (.node (o180 P) .nil .nil) (.node (o244 P) .nil .nil)))) (.node (o28 P) (.node (o44 P) (.node (o76 P) (.node (o140 P) .nil .nil) (.node (o204 P) .nil .nil)) (.node (o108 P) (.node (o172 P) .nil .nil) (.node (o236 P) .nil .nil))) (.node (o60 P) (.node (o92 P) (.node (o156 P) .nil .nil) (.node (o220 P) .nil .nil)) (.node (o124 P) (.node (o188 P) .nil .nil) .nil))))) (.node (boot_o_6 P) (.node (boot_o_10 P) (.node (o18 P) (.node (o34 P) (.node (o66 P) (.node (o130 P) .nil .nil) (.node (o194 P) .nil .nil)) (.node (o98 P) (.node (o162 P) .nil .nil) (.node (o226 P) .nil .nil))) (.node (o50 P) (.node (o82 P) (.node (o146 P) .nil .nil) (.node (o210 P) .nil .nil)) (.node (o114 P) (.node (o178 P) .nil .nil) (.node (o242 P) .nil .nil)))) (.node (o26 P) (.node (o42 P) (.node (o74 P) (.node (o138 P) .nil .nil) (.node (o202 P) .nil .nil)) (.node (o106 P) (.node (o170 P) .nil .nil) (.node (o234 P) .nil .nil))) (.node (o58 P) (.node (o90 P) (.node (o154 P) .nil .nil) (.node (o218 P) .nil .nil)) (.node (o122 P) (.node (o186 P) .nil .nil) (.node (o250 P) .nil .nil))))) (.node (o14 P) (.node (o22 P) (.node (o38 P) (.node (o70 P) (.node (o134 P) .nil .nil) (.node (o198 P) .nil .nil)) (.node (o102 P) (.node (o166 P) .nil .nil) (.node (o230 P) .nil .nil))) (.node (o54 P) (.node (o86 P) (.node (o150 P) .nil .nil) (.node (o214 P) .nil .nil)) (.node (o118 P) (.node (o182 P) .nil .nil) (.node (o246 P) .nil .nil)))) (.node (o30 P) (.node (o46 P) (.node (o78 P) (.node (o142 P) .nil .nil) (.node (o206 P) .nil .nil)) (.node (o110 P) (.node (o174 P) .nil .nil) (.node (o238 P) .nil .nil))) (.node (o62 P) (.node (o94 P) (.node (o158 P) .nil .nil) (.node (o222 P) .nil .nil)) (.node (o126 P) (.node (o190 P) .nil .nil) .nil)))))))
noncomputable def o3B66 (P : Params) : Obj := ⟨(.type "dict"), none, (.dict ⟨(de P (.ofString "__name__") 165 (.str (.ofString "lua.reckon") 727) :: de P (.ofString "__doc__") 166 .none :: de P (.ofString "__package__") 167 .none :: de P (.ofString "__loader__") 168 (.builtin "__main__.__loader__#opaque") :: de P (.ofString "__spec__") 169 .none :: de P (.ofString "__annotations__") 170 (.ref 6) :: de P (.ofString "__builtins__") 171 (.ref 4) :: de P (.ofString "__file__") 173 (.str (.ofString "/claim/cut.py") 172) :: de P (.ofString "__cached__") 174 .none :: de P (.ofString "_wall") 193 (.ref 21) :: de P (.ofString "A_AT") 197 (.int 6 196) :: de P (.ofString "C_AT") 199 (.int 14 198) :: de P (.ofString "B_AT") 201 (.int 23 200) :: de P (.ofString "A_MASK") 203 (.int 255 202) :: de P (.ofString "C_MASK") 205 (.int 511 204) :: de P (.ofString "JUMP_ZERO") 207 (.int 131071 206) :: de P (.ofString "CONSTANT_BIT") 209 (.int 256 208) :: de P (.ofString "op_of") 216 (.ref 28) :: de P (.ofString "a_of") 223 (.ref 35) :: de P (.ofString "b_of") 230 (.ref 42) :: de P (.ofString "c_of") 237 (.ref 49) :: de P (.ofString "wide_of") 244 (.ref 56) :: de P (.ofString "jump_of") 251 (.ref 63) :: de P (.ofString "BLANKS") 255 (.bytes ⟨[32, 9, 10, 11, 12, 13]⟩ 254) :: de P (.ofString "Limits") 326 (.ref 95) :: de P (.ofString "LuaError") 357 (.ref 116) :: de P (.ofString "ApiError") 386 (.ref 136) :: de P (.ofString "is_number") 393 (.ref 146) :: de P (.ofString "is_false") 400 (.ref 153) :: de P (.ofString "wrap") 409 (.ref 160) :: de P (.ofString "divide") 418 (.ref 167) :: de P (.ofString "power") 429 (.ref 174) :: de P (.ofString "arith") 440 (.ref 181) :: de P (.ofString "is_blank") 447 (.ref 188) :: de P (.ofString "digit_of") 454 (.ref 195) :: de P (.ofString "read_digits") 467 (.ref 202) :: de P (.ofString "skip_blanks") 475 (.ref 209) :: de P (.ofString "str_to_number") 483 (.ref 216) :: de P (.ofString "text_in_base") 497 (.ref 223) :: de P (.ofString "to_number") 505 (.ref 230) :: de P (.ofString "number_text") 514 (.ref 237) :: de P (.ofString "to_text") 521 (.ref 244) :: de P (.ofString "byte_float") 529 (.ref 251) :: de P (.ofString "MADE") 533 (.int 0 532) :: de P (.ofString "NO_TEXTS") 535 (.int 1 534) :: de P (.ofString "TOO_LONG") 537 (.int 2 536) :: de P (.ofString "texts_below") 549 (.ref 258) :: de P (.ofString "join_below") 555 (.ref 263) :: de P (.ofString "loop_numbers") 563 (.ref 268) :: de P (.ofString "wrong_place") 572 (.ref 275) :: de P (.ofString "before_first") 581 (.ref 282) :: de P (.ofString "goes_on") 590 (.ref 289) :: de P (.ofString "next_number") 601 (.ref 296) :: de P (.ofString "load") 616 (.ref 303) :: de P (.ofString "operand") 626 (.ref 310) :: de P (.ofString "two_operands") 637 (.ref 317) :: de P (.ofString "is_compared") 645 (.ref 324) :: de P (.ofString "is_tested") 653 (.ref 331) :: de P (.ofString "place_behind") 662 (.ref 338) :: de P (.ofString "table_room") 669 (.ref 345) :: de P (.ofString "list_block") 682 (.ref 352) :: de P (.ofString "round_begun") 693 (.ref 359) :: de P (.ofString "round_wrong") 699 (.ref 364) :: de P (.ofString "round_gone") 709 (.ref 371) :: de P (.ofString "round_asked") 718 (.ref 378) :: de P (.ofString "round_told") 726 (.ref 385) :: de P (.ofString "RECKONINGS") 736 (.ref 386) :: de P (.ofString "DIVIDING") 738 (.int 3 737) :: de P (.ofString "RESTING") 740 (.int 4 739) :: [])⟩ 69), ⟨[]⟩⟩
noncomputable def o12B66 (P : Params) : Obj := ⟨.none, none, (.fields ⟨((.int 1 0) :: (.int 0 0) :: (.ref 20) :: (.int 12 0) :: (.int 0 0) :: (.ref 27) :: (.int 14 0) :: (.int 0 0) :: (.ref 34) :: (.int 16 0) :: (.int 0 0) :: (.ref 41) :: (.int 18 0) :: (.int 0 0) :: (.ref 48) :: (.int 20 0) :: (.int 0 0) :: (.ref 55) :: (.int 22 0) :: (.int 0 0) :: (.ref 62) :: (.int 26 0) :: (.int 0 0) :: (.ref 69) :: (.int 45 0) :: (.int 0 0) :: (.ref 105) :: (.int 51 0) :: (.int 0 0) :: (.ref 125) :: (.int 55 0) :: (.int 0 0) :: (.ref 145) :: (.int 57 0) :: (.int 0 0) :: (.ref 152) :: (.int 61 0) :: (.int 0 0) :: (.ref 159) :: (.int 66 0) :: (.int 0 0) :: (.ref 166) :: (.int 69 0) :: (.int 0 0) :: (.ref 173) :: (.int 83 0) :: (.int 0 0) :: (.ref 180) :: (.int 102 0) :: (.int 0 0) :: (.ref 187) :: (.int 104 0) :: (.int 0 0) :: (.ref 194) :: (.int 112 0) :: (.int 0 0) :: (.ref 201) :: (.int 121 0) :: (.int 0 0) :: (.ref 208) :: (.int 125 0) :: (.int 0 0) :: (.ref 215) :: (.int 127 0) :: (.int 0 0) :: (.ref 222) :: (.int 139 0) :: (.int 0 0) :: (.ref 229) :: (.int 145 0) :: (.int 0 0) :: (.ref 236) :: (.int 155 0) :: (.int 0 0) :: (.ref 243) :: (.int 161 0) :: (.int 0 0) :: (.ref 250) :: (.int 170 0) :: (.int 0 0) :: (.ref 257) :: (.int 178 0) :: (.int 0 0) :: (.ref 262) :: (.int 189 0) :: (.int 0 0) :: (.ref 267) :: (.int 191 0) :: (.int 0 0) :: (.ref 274) :: (.int 196 0) :: (.int 0 0) :: (.ref 281) :: (.int 198 0) :: (.int 0 0) :: (.ref 288) :: (.int 202 0) :: (.int 0 0) :: (.ref 295) :: (.int 206 0) :: (.int 0 0) :: (.ref 302) :: (.int 219 0) :: (.int 0 0) :: (.ref 309) :: (.int 223 0) :: (.int 0 0) :: (.ref 316) :: (.int 226 0) :: (.int 0 0) :: (.ref 323) :: (.int 228 0) :: (.int 0 0) :: (.ref 330) :: (.int 230 0) :: (.int 0 0) :: (.ref 337) :: (.int 232 0) :: (.int 0 0) :: (.ref 344) :: (.int 234 0) :: (.int 0 0) :: (.ref 351) :: (.int 241 0) :: (.int 0 0) :: (.ref 358) :: (.int 249 0) :: (.int 0 0) :: (.ref 363) :: (.int 251 0) :: (.int 0 0) :: (.ref 370) :: (.int 258 0) :: (.int 0 0) :: (.ref 377) :: (.int 262 0) :: (.int 0 0) :: (.ref 384) :: [])⟩), ⟨[]⟩⟩
noncomputable def TB66 (P : Params) : BT := (.node (boot_o_0 P) (.node (boot_o_1 P) (.node (o3B66 P) (.node (boot_o_7 P) (.node (o15 P) (.node (o31 P) (.node (o63 P) (.node (o127 P) (.node (o255 P) .nil .nil) (.node (o383 P) .nil .nil)) (.node (o191 P) (.node (o319 P) .nil .nil) .nil)) (.node (o95 P) (.node (o159 P) (.node (o287 P) .nil .nil) .nil) (.node (o223 P) (.node (o351 P) .nil .nil) .nil))) (.node (o47 P) (.node (o79 P) (.node (o143 P) (.node (o271 P) .nil .nil) .nil) (.node (o207 P) (.node (o335 P) .nil .nil) .nil)) (.node (o111 P) (.node (o175 P) (.node (o303 P) .nil .nil) .nil) (.node (o239 P) (.node (o367 P) .nil .nil) .nil)))) (.node (o23 P) (.node (o39 P) (.node (o71 P) (.node (o135 P) (.node (o263 P) .nil .nil) .nil) (.node (o199 P) (.node (o327 P) .nil .nil) .nil)) (.node (o103 P) (.node (o167 P) (.node (o295 P) .nil .nil) .nil) (.node (o231 P) (.node (o359 P) .nil .nil) .nil))) (.node (o55 P) (.node (o87 P) (.node (o151 P) (.node (o279 P) .nil .nil) .nil) (.node (o215 P) (.node (o343 P) .nil .nil) .nil)) (.node (o119 P) (.node (o183 P) (.node (o311 P) .nil .nil) .nil) (.node (o247 P) (.node (o375 P) .nil .nil) .nil))))) (.node (o11 P) (.node (o19 P) (.node (o35 P) (.node (o67 P) (.node (o131 P) (.node (o259 P) .nil .nil) .nil) (.node (o195 P) (.node (o323 P) .nil .nil) .nil)) (.node (o99 P) (.node (o163 P) (.node (o291 P) .nil .nil) .nil) (.node (o227 P) (.node (o355 P) .nil .nil) .nil))) (.node (o51 P) (.node (o83 P) (.node (o147 P) (.node (o275 P) .nil .nil) .nil) (.node (o211 P) (.node (o339 P) .nil .nil) .nil)) (.node (o115 P) (.node (o179 P) (.node (o307 P) .nil .nil) .nil) (.node (o243 P) (.node (o371 P) .nil .nil) .nil)))) (.node (o27 P) (.node (o43 P) (.node (o75 P) (.node (o139 P) (.node (o267 P) .nil .nil) .nil) (.node (o203 P) (.node (o331 P) .nil .nil) .nil)) (.node (o107 P) (.node (o171 P) (.node (o299 P) .nil .nil) .nil) (.node (o235 P) (.node (o363 P) .nil .nil) .nil))) (.node (o59 P) (.node (o91 P) (.node (o155 P) (.node (o283 P) .nil .nil) .nil) (.node (o219 P) (.node (o347 P) .nil .nil) .nil)) (.node (o123 P) (.node (o187 P) (.node (o315 P) .nil .nil) .nil) (.node (o251 P) (.node (o379 P) .nil .nil) .nil)))))) (.node (boot_o_5 P) (.node (boot_o_9 P) (.node (o17 P) (.node (o33 P) (.node (o65 P) (.node (o129 P) (.node (o257 P) .nil .nil) (.node (o385 P) .nil .nil)) (.node (o193 P) (.node (o321 P) .nil .nil) .nil)) (.node (o97 P) (.node (o161 P) (.node (o289 P) .nil .nil) .nil) (.node (o225 P) (.node (o353 P) .nil .nil) .nil))) (.node (o49 P) (.node (o81 P) (.node (o145 P) (.node (o273 P) .nil .nil) .nil) (.node (o209 P) (.node (o337 P) .nil .nil) .nil)) (.node (o113 P) (.node (o177 P) (.node (o305 P) .nil .nil) .nil) (.node (o241 P) (.node (o369 P) .nil .nil) .nil)))) (.node (o25 P) (.node (o41 P) (.node (o73 P) (.node (o137 P) (.node (o265 P) .nil .nil) .nil) (.node (o201 P) (.node (o329 P) .nil .nil) .nil)) (.node (o105 P) (.node (o169 P) (.node (o297 P) .nil .nil) .nil) (.node (o233 P) (.node (o361 P) .nil .nil) .nil))) (.node (o57 P) (.node (o89 P) (.node (o153 P) (.node (o281 P) .nil .nil) .nil) (.node (o217 P) (.node (o345 P) .nil .nil) .nil)) (.node (o121 P) (.node (o185 P) (.node (o313 P) .nil .nil) .nil) (.node (o249 P) (.node (o377 P) .nil .nil) .nil))))) (.node (o13 P) (.node (o21 P) (.node (o37 P) (.node (o69 P) (.node (o133 P) (.node (o261 P) .nil .nil) .nil) (.node (o197 P) (.node (o325 P) .nil .nil) .nil)) (.node (o101 P) (.node (o165 P) (.node (o293 P) .nil .nil) .nil) (.node (o229 P) (.node (o357 P) .nil .nil) .nil))) (.node (o53 P) (.node (o85 P) (.node (o149 P) (.node (o277 P) .nil .nil) .nil) (.node (o213 P) (.node (o341 P) .nil .nil) .nil)) (.node (o117 P) (.node (o181 P) (.node (o309 P) .nil .nil) .nil) (.node (o245 P) (.node (o373 P) .nil .nil) .nil)))) (.node (o29 P) (.node (o45 P) (.node (o77 P) (.node (o141 P) (.node (o269 P) .nil .nil) .nil) (.node (o205 P) (.node (o333 P) .nil .nil) .nil)) (.node (o109 P) (.node (o173 P) (.node (o301 P) .nil .nil) .nil) (.node (o237 P) (.node (o365 P) .nil .nil) .nil))) (.node (o61 P) (.node (o93 P) (.node (o157 P) (.node (o285 P) .nil .nil) .nil) (.node (o221 P) (.node (o349 P) .nil .nil) .nil)) (.node (o125 P) (.node (o189 P) (.node (o317 P) .nil .nil) .nil) (.node (o253 P) (.node (o381 P) .nil .nil) .nil))))))) (.node (o2 P) (.node (boot_o_4 P) (.node (boot_o_8 P) (.node (o16 P) (.node (o32 P) (.node (o64 P) (.node (o128 P) (.node (o256 P) .nil .nil) (.node (o384 P) .nil .nil)) (.node (o192 P) (.node (o320 P) .nil .nil) .nil)) (.node (o96 P) (.node (o160 P) (.node (o288 P) .nil .nil) .nil) (.node (o224 P) (.node (o352 P) .nil .nil) .nil))) (.node (o48 P) (.node (o80 P) (.node (o144 P) (.node (o272 P) .nil .nil) .nil) (.node (o208 P) (.node (o336 P) .nil .nil) .nil)) (.node (o112 P) (.node (o176 P) (.node (o304 P) .nil .nil) .nil) (.node (o240 P) (.node (o368 P) .nil .nil) .nil)))) (.node (o24 P) (.node (o40 P) (.node (o72 P) (.node (o136 P) (.node (o264 P) .nil .nil) .nil) (.node (o200 P) (.node (o328 P) .nil .nil) .nil)) (.node (o104 P) (.node (o168 P) (.node (o296 P) .nil .nil) .nil) (.node (o232 P) (.node (o360 P) .nil .nil) .nil))) (.node (o56 P) (.node (o88 P) (.node (o152 P) (.node (o280 P) .nil .nil) .nil) (.node (o216 P) (.node (o344 P) .nil .nil) .nil)) (.node (o120 P) (.node (o184 P) (.node (o312 P) .nil .nil) .nil) (.node (o248 P) (.node (o376 P) .nil .nil) .nil))))) (.node (o12B66 P) (.node (o20 P) (.node (o36 P) (.node (o68 P) (.node (o132 P) (.node (o260 P) .nil .nil) .nil) (.node (o196 P) (.node (o324 P) .nil .nil) .nil)) (.node (o100 P) (.node (o164 P) (.node (o292 P) .nil .nil) .nil) (.node (o228 P) (.node (o356 P) .nil .nil) .nil))) (.node (o52 P) (.node (o84 P) (.node (o148 P) (.node (o276 P) .nil .nil) .nil) (.node (o212 P) (.node (o340 P) .nil .nil) .nil)) (.node (o116 P) (.node (o180 P) (.node (o308 P) .nil .nil) .nil) (.node (o244 P) (.node (o372 P) .nil .nil) .nil)))) (.node (o28 P) (.node (o44 P) (.node (o76 P) (.node (o140 P) (.node (o268 P) .nil .nil) .nil) (.node (o204 P) (.node (o332 P) .nil .nil) .nil)) (.node (o108 P) (.node (o172 P) (.node (o300 P) .nil .nil) .nil) (.node (o236 P) (.node (o364 P) .nil .nil) .nil))) (.node (o60 P) (.node (o92 P) (.node (o156 P) (.node (o284 P) .nil .nil) .nil) (.node (o220 P) (.node (o348 P) .nil .nil) .nil)) (.node (o124 P) (.node (o188 P) (.node (o316 P) .nil .nil) .nil) (.node (o252 P) (.node (o380 P) .nil .nil) .nil)))))) (.node (boot_o_6 P) (.node (boot_o_10 P) (.node (o18 P) (.node (o34 P) (.node (o66 P) (.node (o130 P) (.node (o258 P) .nil .nil) (.node (o386 P) .nil .nil)) (.node (o194 P) (.node (o322 P) .nil .nil) .nil)) (.node (o98 P) (.node (o162 P) (.node (o290 P) .nil .nil) .nil) (.node (o226 P) (.node (o354 P) .nil .nil) .nil))) (.node (o50 P) (.node (o82 P) (.node (o146 P) (.node (o274 P) .nil .nil) .nil) (.node (o210 P) (.node (o338 P) .nil .nil) .nil)) (.node (o114 P) (.node (o178 P) (.node (o306 P) .nil .nil) .nil) (.node (o242 P) (.node (o370 P) .nil .nil) .nil)))) (.node (o26 P) (.node (o42 P) (.node (o74 P) (.node (o138 P) (.node (o266 P) .nil .nil) .nil) (.node (o202 P) (.node (o330 P) .nil .nil) .nil)) (.node (o106 P) (.node (o170 P) (.node (o298 P) .nil .nil) .nil) (.node (o234 P) (.node (o362 P) .nil .nil) .nil))) (.node (o58 P) (.node (o90 P) (.node (o154 P) (.node (o282 P) .nil .nil) .nil) (.node (o218 P) (.node (o346 P) .nil .nil) .nil)) (.node (o122 P) (.node (o186 P) (.node (o314 P) .nil .nil) .nil) (.node (o250 P) (.node (o378 P) .nil .nil) .nil))))) (.node (o14 P) (.node (o22 P) (.node (o38 P) (.node (o70 P) (.node (o134 P) (.node (o262 P) .nil .nil) .nil) (.node (o198 P) (.node (o326 P) .nil .nil) .nil)) (.node (o102 P) (.node (o166 P) (.node (o294 P) .nil .nil) .nil) (.node (o230 P) (.node (o358 P) .nil .nil) .nil))) (.node (o54 P) (.node (o86 P) (.node (o150 P) (.node (o278 P) .nil .nil) .nil) (.node (o214 P) (.node (o342 P) .nil .nil) .nil)) (.node (o118 P) (.node (o182 P) (.node (o310 P) .nil .nil) .nil) (.node (o246 P) (.node (o374 P) .nil .nil) .nil)))) (.node (o30 P) (.node (o46 P) (.node (o78 P) (.node (o142 P) (.node (o270 P) .nil .nil) .nil) (.node (o206 P) (.node (o334 P) .nil .nil) .nil)) (.node (o110 P) (.node (o174 P) (.node (o302 P) .nil .nil) .nil) (.node (o238 P) (.node (o366 P) .nil .nil) .nil))) (.node (o62 P) (.node (o94 P) (.node (o158 P) (.node (o286 P) .nil .nil) .nil) (.node (o222 P) (.node (o350 P) .nil .nil) .nil)) (.node (o126 P) (.node (o190 P) (.node (o318 P) .nil .nil) .nil) (.node (o254 P) (.node (o382 P) .nil .nil) .nil))))))))
noncomputable def o3B77 (P : Params) : Obj := ⟨(.type "dict"), none, (.dict ⟨(de P (.ofString "__name__") 165 (.str (.ofString "lua.stepper") 770) :: de P (.ofString "__doc__") 166 .none :: de P (.ofString "__package__") 167 .none :: de P (.ofString "__loader__") 168 (.builtin "__main__.__loader__#opaque") :: de P (.ofString "__spec__") 169 .none :: de P (.ofString "__annotations__") 170 (.ref 6) :: de P (.ofString "__builtins__") 171 (.ref 4) :: de P (.ofString "__file__") 173 (.str (.ofString "/claim/cut.py") 172) :: de P (.ofString "__cached__") 174 .none :: de P (.ofString "_wall") 193 (.ref 21) :: de P (.ofString "A_AT") 197 (.int 6 196) :: de P (.ofString "C_AT") 199 (.int 14 198) :: de P (.ofString "B_AT") 201 (.int 23 200) :: de P (.ofString "A_MASK") 203 (.int 255 202) :: de P (.ofString "C_MASK") 205 (.int 511 204) :: de P (.ofString "JUMP_ZERO") 207 (.int 131071 206) :: de P (.ofString "CONSTANT_BIT") 209 (.int 256 208) :: de P (.ofString "op_of") 216 (.ref 28) :: de P (.ofString "a_of") 223 (.ref 35) :: de P (.ofString "b_of") 230 (.ref 42) :: de P (.ofString "c_of") 237 (.ref 49) :: de P (.ofString "wide_of") 244 (.ref 56) :: de P (.ofString "jump_of") 251 (.ref 63) :: de P (.ofString "BLANKS") 255 (.bytes ⟨[32, 9, 10, 11, 12, 13]⟩ 254) :: de P (.ofString "Limits") 326 (.ref 95) :: de P (.ofString "LuaError") 357 (.ref 116) :: de P (.ofString "ApiError") 386 (.ref 136) :: de P (.ofString "is_number") 393 (.ref 146) :: de P (.ofString "is_false") 400 (.ref 153) :: de P (.ofString "wrap") 409 (.ref 160) :: de P (.ofString "divide") 418 (.ref 167) :: de P (.ofString "power") 429 (.ref 174) :: de P (.ofString "arith") 440 (.ref 181) :: de P (.ofString "is_blank") 447 (.ref 188) :: de P (.ofString "digit_of") 454 (.ref 195) :: de P (.ofString "read_digits") 467 (.ref 202) :: de P (.ofString "skip_blanks") 475 (.ref 209) :: de P (.ofString "str_to_number") 483 (.ref 216) :: de P (.ofString "text_in_base") 497 (.ref 223) :: de P (.ofString "to_number") 505 (.ref 230) :: de P (.ofString "number_text") 514 (.ref 237) :: de P (.ofString "to_text") 521 (.ref 244) :: de P (.ofString "byte_float") 529 (.ref 251) :: de P (.ofString "MADE") 533 (.int 0 532) :: de P (.ofString "NO_TEXTS") 535 (.int 1 534) :: de P (.ofString "TOO_LONG") 537 (.int 2 536) :: de P (.ofString "texts_below") 549 (.ref 258) :: de P (.ofString "join_below") 555 (.ref 263) :: de P (.ofString "loop_numbers") 563 (.ref 268) :: de P (.ofString "wrong_place") 572 (.ref 275) :: de P (.ofString "before_first") 581 (.ref 282) :: de P (.ofString "goes_on") 590 (.ref 289) :: de P (.ofString "next_number") 601 (.ref 296) :: de P (.ofString "load") 616 (.ref 303) :: de P (.ofString "operand") 626 (.ref 310) :: de P (.ofString "two_operands") 637 (.ref 317) :: de P (.ofString "is_compared") 645 (.ref 324) :: de P (.ofString "is_tested") 653 (.ref 331) :: de P (.ofString "place_behind") 662 (.ref 338) :: de P (.ofString "table_room") 669 (.ref 345) :: de P (.ofString "list_block") 682 (.ref 352) :: de P (.ofString "round_begun") 693 (.ref 359) :: de P (.ofString "round_wrong") 699 (.ref 364) :: de P (.ofString "round_gone") 709 (.ref 371) :: de P (.ofString "round_asked") 718 (.ref 378) :: de P (.ofString "round_told") 726 (.ref 385) :: de P (.ofString "RECKONINGS") 736 (.ref 386) :: de P (.ofString "DIVIDING") 738 (.int 3 737) :: de P (.ofString "RESTING") 740 (.int 4 739) :: de P (.ofString "RAISING") 742 (.int 5 741) :: de P (.ofString "DONE") 744 (.int 0 743) :: de P (.ofString "NO_NUMBERS") 746 (.int 1 745) :: de P (.ofString "BY_ZERO") 748 (.int 2 747) :: de P (.ofString "has_no_result") 757 (.ref 393) :: de P (.ofString "reckon") 769 (.ref 400) :: de P (.ofString "BACK") 773 (.str (.ofString "back") 772) :: de P (.ofString "STOPPED") 775 (.str (.ofString "stopped") 774) :: de P (.ofString "STEPS") 777 (.str (.ofString "steps") 776) :: de P (.ofString "Works") 816 (.ref 417) :: [])⟩ 79), ⟨[]⟩⟩
noncomputable def o12B77 (P : Params) : Obj := ⟨.none, none, (.fields ⟨((.int 1 0) :: (.int 0 0) :: (.ref 20) :: (.int 12 0) :: (.int 0 0) :: (.ref 27) :: (.int 14 0) :: (.int 0 0) :: (.ref 34) :: (.int 16 0) :: (.int 0 0) :: (.ref 41) :: (.int 18 0) :: (.int 0 0) :: (.ref 48) :: (.int 20 0) :: (.int 0 0) :: (.ref 55) :: (.int 22 0) :: (.int 0 0) :: (.ref 62) :: (.int 26 0) :: (.int 0 0) :: (.ref 69) :: (.int 45 0) :: (.int 0 0) :: (.ref 105) :: (.int 51 0) :: (.int 0 0) :: (.ref 125) :: (.int 55 0) :: (.int 0 0) :: (.ref 145) :: (.int 57 0) :: (.int 0 0) :: (.ref 152) :: (.int 61 0) :: (.int 0 0) :: (.ref 159) :: (.int 66 0) :: (.int 0 0) :: (.ref 166) :: (.int 69 0) :: (.int 0 0) :: (.ref 173) :: (.int 83 0) :: (.int 0 0) :: (.ref 180) :: (.int 102 0) :: (.int 0 0) :: (.ref 187) :: (.int 104 0) :: (.int 0 0) :: (.ref 194) :: (.int 112 0) :: (.int 0 0) :: (.ref 201) :: (.int 121 0) :: (.int 0 0) :: (.ref 208) :: (.int 125 0) :: (.int 0 0) :: (.ref 215) :: (.int 127 0) :: (.int 0 0) :: (.ref 222) :: (.int 139 0) :: (.int 0 0) :: (.ref 229) :: (.int 145 0) :: (.int 0 0) :: (.ref 236) :: (.int 155 0) :: (.int 0 0) :: (.ref 243) :: (.int 161 0) :: (.int 0 0) :: (.ref 250) :: (.int 170 0) :: (.int 0 0) :: (.ref 257) :: (.int 178 0) :: (.int 0 0) :: (.ref 262) :: (.int 189 0) :: (.int 0 0) :: (.ref 267) :: (.int 191 0) :: (.int 0 0) :: (.ref 274) :: (.int 196 0) :: (.int 0 0) :: (.ref 281) :: (.int 198 0) :: (.int 0 0) :: (.ref 288) :: (.int 202 0) :: (.int 0 0) :: (.ref 295) :: (.int 206 0) :: (.int 0 0) :: (.ref 302) :: (.int 219 0) :: (.int 0 0) :: (.ref 309) :: (.int 223 0) :: (.int 0 0) :: (.ref 316) :: (.int 226 0) :: (.int 0 0) :: (.ref 323) :: (.int 228 0) :: (.int 0 0) :: (.ref 330) :: (.int 230 0) :: (.int 0 0) :: (.ref 337) :: (.int 232 0) :: (.int 0 0) :: (.ref 344) :: (.int 234 0) :: (.int 0 0) :: (.ref 351) :: (.int 241 0) :: (.int 0 0) :: (.ref 358) :: (.int 249 0) :: (.int 0 0) :: (.ref 363) :: (.int 251 0) :: (.int 0 0) :: (.ref 370) :: (.int 258 0) :: (.int 0 0) :: (.ref 377) :: (.int 262 0) :: (.int 0 0) :: (.ref 384) :: (.int 275 0) :: (.int 0 0) :: (.ref 392) :: (.int 279 0) :: (.int 0 0) :: (.ref 399) :: (.int 290 0) :: (.int 0 0) :: (.ref 406) :: [])⟩), ⟨[]⟩⟩
noncomputable def TB77 (P : Params) : BT := (.node (boot_o_0 P) (.node (boot_o_1 P) (.node (o3B77 P) (.node (boot_o_7 P) (.node (o15 P) (.node (o31 P) (.node (o63 P) (.node (o127 P) (.node (o255 P) .nil .nil) (.node (o383 P) .nil .nil)) (.node (o191 P) (.node (o319 P) .nil .nil) .nil)) (.node (o95 P) (.node (o159 P) (.node (o287 P) .nil .nil) (.node (o415 P) .nil .nil)) (.node (o223 P) (.node (o351 P) .nil .nil) .nil))) (.node (o47 P) (.node (o79 P) (.node (o143 P) (.node (o271 P) .nil .nil) (.node (o399 P) .nil .nil)) (.node (o207 P) (.node (o335 P) .nil .nil) .nil)) (.node (o111 P) (.node (o175 P) (.node (o303 P) .nil .nil) .nil) (.node (o239 P) (.node (o367 P) .nil .nil) .nil)))) (.node (o23 P) (.node (o39 P) (.node (o71 P) (.node (o135 P) (.node (o263 P) .nil .nil) (.node (o391 P) .nil .nil)) (.node (o199 P) (.node (o327 P) .nil .nil) .nil)) (.node (o103 P) (.node (o167 P) (.node (o295 P) .nil .nil) .nil) (.node (o231 P) (.node (o359 P) .nil .nil) .nil))) (.node (o55 P) (.node (o87 P) (.node (o151 P) (.node (o279 P) .nil .nil) (.node (o407 P) .nil .nil)) (.node (o215 P) (.node (o343 P) .nil .nil) .nil)) (.node (o119 P) (.node (o183 P) (.node (o311 P) .nil .nil) .nil) (.node (o247 P) (.node (o375 P) .nil .nil) .nil))))) (.node (o11 P) (.node (o19 P) (.node (o35 P) (.node (o67 P) (.node (o131 P) (.node (o259 P) .nil .nil) (.node (o387 P) .nil .nil)) (.node (o195 P) (.node (o323 P) .nil .nil) .nil)) (.node (o99 P) (.node (o163 P) (.node (o291 P) .nil .nil) (.node (o419 P) .nil .nil)) (.node (o227 P) (.node (o355 P) .nil .nil) .nil))) (.node (o51 P) (.node (o83 P) (.node (o147 P) (.node (o275 P) .nil .nil) (.node (o403 P) .nil .nil)) (.node (o211 P) (.node (o339 P) .nil .nil) .nil)) (.node (o115 P) (.node (o179 P) (.node (o307 P) .nil .nil) .nil) (.node (o243 P) (.node (o371 P) .nil .nil) .nil)))) (.node (o27 P) (.node (o43 P) (.node (o75 P) (.node (o139 P) (.node (o267 P) .nil .nil) (.node (o395 P) .nil .nil)) (.node (o203 P) (.node (o331 P) .nil .nil) .nil)) (.node (o107 P) (.node (o171 P) (.node (o299 P) .nil .nil) .nil) (.node (o235 P) (.node (o363 P) .nil .nil) .nil))) (.node (o59 P) (.node (o91 P) (.node (o155 P) (.node (o283 P) .nil .nil) (.node (o411 P) .nil .nil)) (.node (o219 P) (.node (o347 P) .nil .nil) .nil)) (.node (o123 P) (.node (o187 P) (.node (o315 P) .nil .nil) .nil) (.node (o251 P) (.node (o379 P) .nil .nil) .nil)))))) (.node (boot_o_5 P) (.node (boot_o_9 P) (.node (o17 P) (.node (o33 P) (.node (o65 P) (.node (o129 P) (.node (o257 P) .nil .nil) (.node (o385 P) .nil .nil)) (.node (o193 P) (.node (o321 P) .nil .nil) .nil)) (.node (o97 P) (.node (o161 P) (.node (o289 P) .nil .nil) (.node (o417 P) .nil .nil)) (.node (o225 P) (.node (o353 P) .nil .nil) .nil))) (.node (o49 P) (.node (o81 P) (.node (o145 P) (.node (o273 P) .nil .nil) (.node (o401 P) .nil .nil)) (.node (o209 P) (.node (o337 P) .nil .nil) .nil)) (.node (o113 P) (.node (o177 P) (.node (o305 P) .nil .nil) .nil) (.node (o241 P) (.node (o369 P) .nil .nil) .nil)))) (.node (o25 P) (.node (o41 P) (.node (o73 P) (.node (o137 P) (.node (o265 P) .nil .nil) (.node (o393 P) .nil .nil)) (.node (o201 P) (.node (o329 P) .nil .nil) .nil)) (.node (o105 P) (.node (o169 P) (.node (o297 P) .nil .nil) .nil) (.node (o233 P) (.node (o361 P) .nil .nil) .nil))) (.node (o57 P) (.node (o89 P) (.node (o153 P) (.node (o281 P) .nil .nil) (.node (o409 P) .nil .nil)) (.node (o217 P) (.node (o345 P) .nil .nil) .nil)) (.node (o121 P) (.node (o185 P) (.node (o313 P) .nil .nil) .nil) (.node (o249 P) (.node (o377 P) .nil .nil) .nil))))) (.node (o13 P) (.node (o21 P) (.node (o37 P) (.node (o69 P) (.node (o133 P) (.node (o261 P) .nil .nil) (.node (o389 P) .nil .nil)) (.node (o197 P) (.node (o325 P) .nil .nil) .nil)) (.node (o101 P) (.node (o165 P) (.node (o293 P) .nil .nil) (.node (o421 P) .nil .nil)) (.node (o229 P) (.node (o357 P) .nil .nil) .nil))) (.node (o53 P) (.node (o85 P) (.node (o149 P) (.node (o277 P) .nil .nil) (.node (o405 P) .nil .nil)) (.node (o213 P) (.node (o341 P) .nil .nil) .nil)) (.node (o117 P) (.node (o181 P) (.node (o309 P) .nil .nil) .nil) (.node (o245 P) (.node (o373 P) .nil .nil) .nil)))) (.node (o29 P) (.node (o45 P) (.node (o77 P) (.node (o141 P) (.node (o269 P) .nil .nil) (.node (o397 P) .nil .nil)) (.node (o205 P) (.node (o333 P) .nil .nil) .nil)) (.node (o109 P) (.node (o173 P) (.node (o301 P) .nil .nil) .nil) (.node (o237 P) (.node (o365 P) .nil .nil) .nil))) (.node (o61 P) (.node (o93 P) (.node (o157 P) (.node (o285 P) .nil .nil) (.node (o413 P) .nil .nil)) (.node (o221 P) (.node (o349 P) .nil .nil) .nil)) (.node (o125 P) (.node (o189 P) (.node (o317 P) .nil .nil) .nil) (.node (o253 P) (.node (o381 P) .nil .nil) .nil))))))) (.node (o2 P) (.node (boot_o_4 P) (.node (boot_o_8 P) (.node (o16 P) (.node (o32 P) (.node (o64 P) (.node (o128 P) (.node (o256 P) .nil .nil) (.node (o384 P) .nil .nil)) (.node (o192 P) (.node (o320 P) .nil .nil) .nil)) (.node (o96 P) (.node (o160 P) (.node (o288 P) .nil .nil) (.node (o416 P) .nil .nil)) (.node (o224 P) (.node (o352 P) .nil .nil) .nil))) (.node (o48 P) (.node (o80 P) (.node (o144 P) (.node (o272 P) .nil .nil) (.node (o400 P) .nil .nil)) (.node (o208 P) (.node (o336 P) .nil .nil) .nil)) (.node (o112 P) (.node (o176 P) (.node (o304 P) .nil .nil) .nil) (.node (o240 P) (.node (o368 P) .nil .nil) .nil)))) (.node (o24 P) (.node (o40 P) (.node (o72 P) (.node (o136 P) (.node (o264 P) .nil .nil) (.node (o392 P) .nil .nil)) (.node (o200 P) (.node (o328 P) .nil .nil) .nil)) (.node (o104 P) (.node (o168 P) (.node (o296 P) .nil .nil) .nil) (.node (o232 P) (.node (o360 P) .nil .nil) .nil))) (.node (o56 P) (.node (o88 P) (.node (o152 P) (.node (o280 P) .nil .nil) (.node (o408 P) .nil .nil)) (.node (o216 P) (.node (o344 P) .nil .nil) .nil)) (.node (o120 P) (.node (o184 P) (.node (o312 P) .nil .nil) .nil) (.node (o248 P) (.node (o376 P) .nil .nil) .nil))))) (.node (o12B77 P) (.node (o20 P) (.node (o36 P) (.node (o68 P) (.node (o132 P) (.node (o260 P) .nil .nil) (.node (o388 P) .nil .nil)) (.node (o196 P) (.node (o324 P) .nil .nil) .nil)) (.node (o100 P) (.node (o164 P) (.node (o292 P) .nil .nil) (.node (o420 P) .nil .nil)) (.node (o228 P) (.node (o356 P) .nil .nil) .nil))) (.node (o52 P) (.node (o84 P) (.node (o148 P) (.node (o276 P) .nil .nil) (.node (o404 P) .nil .nil)) (.node (o212 P) (.node (o340 P) .nil .nil) .nil)) (.node (o116 P) (.node (o180 P) (.node (o308 P) .nil .nil) .nil) (.node (o244 P) (.node (o372 P) .nil .nil) .nil)))) (.node (o28 P) (.node (o44 P) (.node (o76 P) (.node (o140 P) (.node (o268 P) .nil .nil) (.node (o396 P) .nil .nil)) (.node (o204 P) (.node (o332 P) .nil .nil) .nil)) (.node (o108 P) (.node (o172 P) (.node (o300 P) .nil .nil) .nil) (.node (o236 P) (.node (o364 P) .nil .nil) .nil))) (.node (o60 P) (.node (o92 P) (.node (o156 P) (.node (o284 P) .nil .nil) (.node (o412 P) .nil .nil)) (.node (o220 P) (.node (o348 P) .nil .nil) .nil)) (.node (o124 P) (.node (o188 P) (.node (o316 P) .nil .nil) .nil) (.node (o252 P) (.node (o380 P) .nil .nil) .nil)))))) (.node (boot_o_6 P) (.node (boot_o_10 P) (.node (o18 P) (.node (o34 P) (.node (o66 P) (.node (o130 P) (.node (o258 P) .nil .nil) (.node (o386 P) .nil .nil)) (.node (o194 P) (.node (o322 P) .nil .nil) .nil)) (.node (o98 P) (.node (o162 P) (.node (o290 P) .nil .nil) (.node (o418 P) .nil .nil)) (.node (o226 P) (.node (o354 P) .nil .nil) .nil))) (.node (o50 P) (.node (o82 P) (.node (o146 P) (.node (o274 P) .nil .nil) (.node (o402 P) .nil .nil)) (.node (o210 P) (.node (o338 P) .nil .nil) .nil)) (.node (o114 P) (.node (o178 P) (.node (o306 P) .nil .nil) .nil) (.node (o242 P) (.node (o370 P) .nil .nil) .nil)))) (.node (o26 P) (.node (o42 P) (.node (o74 P) (.node (o138 P) (.node (o266 P) .nil .nil) (.node (o394 P) .nil .nil)) (.node (o202 P) (.node (o330 P) .nil .nil) .nil)) (.node (o106 P) (.node (o170 P) (.node (o298 P) .nil .nil) .nil) (.node (o234 P) (.node (o362 P) .nil .nil) .nil))) (.node (o58 P) (.node (o90 P) (.node (o154 P) (.node (o282 P) .nil .nil) (.node (o410 P) .nil .nil)) (.node (o218 P) (.node (o346 P) .nil .nil) .nil)) (.node (o122 P) (.node (o186 P) (.node (o314 P) .nil .nil) .nil) (.node (o250 P) (.node (o378 P) .nil .nil) .nil))))) (.node (o14 P) (.node (o22 P) (.node (o38 P) (.node (o70 P) (.node (o134 P) (.node (o262 P) .nil .nil) (.node (o390 P) .nil .nil)) (.node (o198 P) (.node (o326 P) .nil .nil) .nil)) (.node (o102 P) (.node (o166 P) (.node (o294 P) .nil .nil) .nil) (.node (o230 P) (.node (o358 P) .nil .nil) .nil))) (.node (o54 P) (.node (o86 P) (.node (o150 P) (.node (o278 P) .nil .nil) (.node (o406 P) .nil .nil)) (.node (o214 P) (.node (o342 P) .nil .nil) .nil)) (.node (o118 P) (.node (o182 P) (.node (o310 P) .nil .nil) .nil) (.node (o246 P) (.node (o374 P) .nil .nil) .nil)))) (.node (o30 P) (.node (o46 P) (.node (o78 P) (.node (o142 P) (.node (o270 P) .nil .nil) (.node (o398 P) .nil .nil)) (.node (o206 P) (.node (o334 P) .nil .nil) .nil)) (.node (o110 P) (.node (o174 P) (.node (o302 P) .nil .nil) .nil) (.node (o238 P) (.node (o366 P) .nil .nil) .nil))) (.node (o62 P) (.node (o94 P) (.node (o158 P) (.node (o286 P) .nil .nil) (.node (o414 P) .nil .nil)) (.node (o222 P) (.node (o350 P) .nil .nil) .nil)) (.node (o126 P) (.node (o190 P) (.node (o318 P) .nil .nil) .nil) (.node (o254 P) (.node (o382 P) .nil .nil) .nil))))))))
noncomputable def TZ (P : Params) : BT := (.node (boot_o_0 P) (.node (boot_o_1 P) (.node (o3 P) (.node (boot_o_7 P) (.node (o15 P) (.node (o31 P) (.node (o63 P) (.node (o127 P) (.node (o255 P) (.node (o511 P) .nil .nil) .nil) (.node (o383 P) .nil .nil)) (.node (o191 P) (.node (o319 P) .nil .nil) (.node (o447 P) .nil .nil))) (.node (o95 P) (.node (o159 P) (.node (o287 P) (.node (o543 P) .nil .nil) .nil) (.node (o415 P) .nil .nil)) (.node (o223 P) (.node (o351 P) .nil .nil) (.node (o479 P) .nil .nil)))) (.node (o47 P) (.node (o79 P) (.node (o143 P) (.node (o271 P) (.node (o527 P) .nil .nil) .nil) (.node (o399 P) .nil .nil)) (.node (o207 P) (.node (o335 P) .nil .nil) (.node (o463 P) .nil .nil))) (.node (o111 P) (.node (o175 P) (.node (o303 P) .nil .nil) (.node (o431 P) .nil .nil)) (.node (o239 P) (.node (o367 P) .nil .nil) (.node (o495 P) .nil .nil))))) (.node (o23 P) (.node (o39 P) (.node (o71 P) (.node (o135 P) (.node (o263 P) (.node (o519 P) .nil .nil) .nil) (.node (o391 P) .nil .nil)) (.node (o199 P) (.node (o327 P) .nil .nil) (.node (o455 P) .nil .nil))) (.node (o103 P) (.node (o167 P) (.node (o295 P) .nil .nil) (.node (o423 P) .nil .nil)) (.node (o231 P) (.node (o359 P) .nil .nil) (.node (o487 P) .nil .nil)))) (.node (o55 P) (.node (o87 P) (.node (o151 P) (.node (o279 P) (.node (o535 P) .nil .nil) .nil) (.node (o407 P) .nil .nil)) (.node (o215 P) (.node (o343 P) .nil .nil) (.node (o471 P) .nil .nil))) (.node (o119 P) (.node (o183 P) (.node (o311 P) .nil .nil) (.node (o439 P) .nil .nil)) (.node (o247 P) (.node (o375 P) .nil .nil) (.node (o503 P) .nil .nil)))))) (.node (o11 P) (.node (o19 P) (.node (o35 P) (.node (o67 P) (.node (o131 P) (.node (o259 P) (.node (o515 P) .nil .nil) .nil) (.node (o387 P) .nil .nil)) (.node (o195 P) (.node (o323 P) .nil .nil) (.node (o451 P) .nil .nil))) (.node (o99 P) (.node (o163 P) (.node (o291 P) .nil .nil) (.node (o419 P) .nil .nil)) (.node (o227 P) (.node (o355 P) .nil .nil) (.node (o483 P) .nil .nil)))) (.node (o51 P) (.node (o83 P) (.node (o147 P) (.node (o275 P) (.node (o531 P) .nil .nil) .nil) (.node (o403 P) .nil .nil)) (.node (o211 P) (.node (o339 P) .nil .nil) (.node (o467 P) .nil .nil))) (.node (o115 P) (.node (o179 P) (.node (o307 P) .nil .nil) (.node (o435 P) .nil .nil)) (.node (o243 P) (.node (o371 P) .nil .nil) (.node (o499 P) .nil .nil))))) (.node (o27 P) (.node (o43 P) (.node (o75 P) (.node (o139 P) (.node (o267 P) (.node (o523 P) .nil .nil) .nil) (.node (o395 P) .nil .nil)) (.node (o203 P) (.node (o331 P) .nil .nil) (.node (o459 P) .nil .nil))) (.node (o107 P) (.node (o171 P) (.node (o299 P) .nil .nil) (.node (o427 P) .nil .nil)) (.node (o235 P) (.node (o363 P) .nil .nil) (.node (o491 P) .nil .nil)))) (.node (o59 P) (.node (o91 P) (.node (o155 P) (.node (o283 P) (.node (o539 P) .nil .nil) .nil) (.node (o411 P) .nil .nil)) (.node (o219 P) (.node (o347 P) .nil .nil) (.node (o475 P) .nil .nil))) (.node (o123 P) (.node (o187 P) (.node (o315 P) .nil .nil) (.node (o443 P) .nil .nil)) (.node (o251 P) (.node (o379 P) .nil .nil) (.node (o507 P) .nil .nil))))))) (.node (boot_o_5 P) (.node (boot_o_9 P) (.node (o17 P) (.node (o33 P) (.node (o65 P) (.node (o129 P) (.node (o257 P) (.node (o513 P) .nil .nil) .nil) (.node (o385 P) .nil .nil)) (.node (o193 P) (.node (o321 P) .nil .nil) (.node (o449 P) .nil .nil))) (.node (o97 P) (.node (o161 P) (.node (o289 P) .nil .nil) (.node (o417 P) .nil .nil)) (.node (o225 P) (.node (o353 P) .nil .nil) (.node (o481 P) .nil .nil)))) (.node (o49 P) (.node (o81 P) (.node (o145 P) (.node (o273 P) (.node (o529 P) .nil .nil) .nil) (.node (o401 P) .nil .nil)) (.node (o209 P) (.node (o337 P) .nil .nil) (.node (o465 P) .nil .nil))) (.node (o113 P) (.node (o177 P) (.node (o305 P) .nil .nil) (.node (o433 P) .nil .nil)) (.node (o241 P) (.node (o369 P) .nil .nil) (.node (o497 P) .nil .nil))))) (.node (o25 P) (.node (o41 P) (.node (o73 P) (.node (o137 P) (.node (o265 P) (.node (o521 P) .nil .nil) .nil) (.node (o393 P) .nil .nil)) (.node (o201 P) (.node (o329 P) .nil .nil) (.node (o457 P) .nil .nil))) (.node (o105 P) (.node (o169 P) (.node (o297 P) .nil .nil) (.node (o425 P) .nil .nil)) (.node (o233 P) (.node (o361 P) .nil .nil) (.node (o489 P) .nil .nil)))) (.node (o57 P) (.node (o89 P) (.node (o153 P) (.node (o281 P) (.node (o537 P) .nil .nil) .nil) (.node (o409 P) .nil .nil)) (.node (o217 P) (.node (o345 P) .nil .nil) (.node (o473 P) .nil .nil))) (.node (o121 P) (.node (o185 P) (.node (o313 P) .nil .nil) (.node (o441 P) .nil .nil)) (.node (o249 P) (.node (o377 P) .nil .nil) (.node (o505 P) .nil .nil)))))) (.node (o13 P) (.node (o21 P) (.node (o37 P) (.node (o69 P) (.node (o133 P) (.node (o261 P) (.node (o517 P) .nil .nil) .nil) (.node (o389 P) .nil .nil)) (.node (o197 P) (.node (o325 P) .nil .nil) (.node (o453 P) .nil .nil))) (.node (o101 P) (.node (o165 P) (.node (o293 P) .nil .nil) (.node (o421 P) .nil .nil)) (.node (o229 P) (.node (o357 P) .nil .nil) (.node (o485 P) .nil .nil)))) (.node (o53 P) (.node (o85 P) (.node (o149 P) (.node (o277 P) (.node (o533 P) .nil .nil) .nil) (.node (o405 P) .nil .nil)) (.node (o213 P) (.node (o341 P) .nil .nil) (.node (o469 P) .nil .nil))) (.node (o117 P) (.node (o181 P) (.node (o309 P) .nil .nil) (.node (o437 P) .nil .nil)) (.node (o245 P) (.node (o373 P) .nil .nil) (.node (o501 P) .nil .nil))))) (.node (o29 P) (.node (o45 P) (.node (o77 P) (.node (o141 P) (.node (o269 P) (.node (o525 P) .nil .nil) .nil) (.node (o397 P) .nil .nil)) (.node (o205 P) (.node (o333 P) .nil .nil) (.node (o461 P) .nil .nil))) (.node (o109 P) (.node (o173 P) (.node (o301 P) .nil .nil) (.node (o429 P) .nil .nil)) (.node (o237 P) (.node (o365 P) .nil .nil) (.node (o493 P) .nil .nil)))) (.node (o61 P) (.node (o93 P) (.node (o157 P) (.node (o285 P) (.node (o541 P) .nil .nil) .nil) (.node (o413 P) .nil .nil)) (.node (o221 P) (.node (o349 P) .nil .nil) (.node (o477 P) .nil .nil))) (.node (o125 P) (.node (o189 P) (.node (o317 P) .nil .nil) (.node (o445 P) .nil .nil)) (.node (o253 P) (.node (o381 P) .nil .nil) (.node (o509 P) .nil .nil)))))))) (.node (o2 P) (.node (boot_o_4 P) (.node (boot_o_8 P) (.node (o16 P) (.node (o32 P) (.node (o64 P) (.node (o128 P) (.node (o256 P) (.node (o512 P) .nil .nil) .nil) (.node (o384 P) .nil .nil)) (.node (o192 P) (.node (o320 P) .nil .nil) (.node (o448 P) .nil .nil))) (.node (o96 P) (.node (o160 P) (.node (o288 P) .nil .nil) (.node (o416 P) .nil .nil)) (.node (o224 P) (.node (o352 P) .nil .nil) (.node (o480 P) .nil .nil)))) (.node (o48 P) (.node (o80 P) (.node (o144 P) (.node (o272 P) (.node (o528 P) .nil .nil) .nil) (.node (o400 P) .nil .nil)) (.node (o208 P) (.node (o336 P) .nil .nil) (.node (o464 P) .nil .nil))) (.node (o112 P) (.node (o176 P) (.node (o304 P) .nil .nil) (.node (o432 P) .nil .nil)) (.node (o240 P) (.node (o368 P) .nil .nil) (.node (o496 P) .nil .nil))))) (.node (o24 P) (.node (o40 P) (.node (o72 P) (.node (o136 P) (.node (o264 P) (.node (o520 P) .nil .nil) .nil) (.node (o392 P) .nil .nil)) (.node (o200 P) (.node (o328 P) .nil .nil) (.node (o456 P) .nil .nil))) (.node (o104 P) (.node (o168 P) (.node (o296 P) .nil .nil) (.node (o424 P) .nil .nil)) (.node (o232 P) (.node (o360 P) .nil .nil) (.node (o488 P) .nil .nil)))) (.node (o56 P) (.node (o88 P) (.node (o152 P) (.node (o280 P) (.node (o536 P) .nil .nil) .nil) (.node (o408 P) .nil .nil)) (.node (o216 P) (.node (o344 P) .nil .nil) (.node (o472 P) .nil .nil))) (.node (o120 P) (.node (o184 P) (.node (o312 P) .nil .nil) (.node (o440 P) .nil .nil)) (.node (o248 P) (.node (o376 P) .nil .nil) (.node (o504 P) .nil .nil)))))) (.node (o12 P) (.node (o20 P) (.node (o36 P) (.node (o68 P) (.node (o132 P) (.node (o260 P) (.node (o516 P) .nil .nil) .nil) (.node (o388 P) .nil .nil)) (.node (o196 P) (.node (o324 P) .nil .nil) (.node (o452 P) .nil .nil))) (.node (o100 P) (.node (o164 P) (.node (o292 P) .nil .nil) (.node (o420 P) .nil .nil)) (.node (o228 P) (.node (o356 P) .nil .nil) (.node (o484 P) .nil .nil)))) (.node (o52 P) (.node (o84 P) (.node (o148 P) (.node (o276 P) (.node (o532 P) .nil .nil) .nil) (.node (o404 P) .nil .nil)) (.node (o212 P) (.node (o340 P) .nil .nil) (.node (o468 P) .nil .nil))) (.node (o116 P) (.node (o180 P) (.node (o308 P) .nil .nil) (.node (o436 P) .nil .nil)) (.node (o244 P) (.node (o372 P) .nil .nil) (.node (o500 P) .nil .nil))))) (.node (o28 P) (.node (o44 P) (.node (o76 P) (.node (o140 P) (.node (o268 P) (.node (o524 P) .nil .nil) .nil) (.node (o396 P) .nil .nil)) (.node (o204 P) (.node (o332 P) .nil .nil) (.node (o460 P) .nil .nil))) (.node (o108 P) (.node (o172 P) (.node (o300 P) .nil .nil) (.node (o428 P) .nil .nil)) (.node (o236 P) (.node (o364 P) .nil .nil) (.node (o492 P) .nil .nil)))) (.node (o60 P) (.node (o92 P) (.node (o156 P) (.node (o284 P) (.node (o540 P) .nil .nil) .nil) (.node (o412 P) .nil .nil)) (.node (o220 P) (.node (o348 P) .nil .nil) (.node (o476 P) .nil .nil))) (.node (o124 P) (.node (o188 P) (.node (o316 P) .nil .nil) (.node (o444 P) .nil .nil)) (.node (o252 P) (.node (o380 P) .nil .nil) (.node (o508 P) .nil .nil))))))) (.node (boot_o_6 P) (.node (boot_o_10 P) (.node (o18 P) (.node (o34 P) (.node (o66 P) (.node (o130 P) (.node (o258 P) (.node (o514 P) .nil .nil) .nil) (.node (o386 P) .nil .nil)) (.node (o194 P) (.node (o322 P) .nil .nil) (.node (o450 P) .nil .nil))) (.node (o98 P) (.node (o162 P) (.node (o290 P) .nil .nil) (.node (o418 P) .nil .nil)) (.node (o226 P) (.node (o354 P) .nil .nil) (.node (o482 P) .nil .nil)))) (.node (o50 P) (.node (o82 P) (.node (o146 P) (.node (o274 P) (.node (o530 P) .nil .nil) .nil) (.node (o402 P) .nil .nil)) (.node (o210 P) (.node (o338 P) .nil .nil) (.node (o466 P) .nil .nil))) (.node (o114 P) (.node (o178 P) (.node (o306 P) .nil .nil) (.node (o434 P) .nil .nil)) (.node (o242 P) (.node (o370 P) .nil .nil) (.node (o498 P) .nil .nil))))) (.node (o26 P) (.node (o42 P) (.node (o74 P) (.node (o138 P) (.node (o266 P) (.node (o522 P) .nil .nil) .nil) (.node (o394 P) .nil .nil)) (.node (o202 P) (.node (o330 P) .nil .nil) (.node (o458 P) .nil .nil))) (.node (o106 P) (.node (o170 P) (.node (o298 P) .nil .nil) (.node (o426 P) .nil .nil)) (.node (o234 P) (.node (o362 P) .nil .nil) (.node (o490 P) .nil .nil)))) (.node (o58 P) (.node (o90 P) (.node (o154 P) (.node (o282 P) (.node (o538 P) .nil .nil) .nil) (.node (o410 P) .nil .nil)) (.node (o218 P) (.node (o346 P) .nil .nil) (.node (o474 P) .nil .nil))) (.node (o122 P) (.node (o186 P) (.node (o314 P) .nil .nil) (.node (o442 P) .nil .nil)) (.node (o250 P) (.node (o378 P) .nil .nil) (.node (o506 P) .nil .nil)))))) (.node (o14 P) (.node (o22 P) (.node (o38 P) (.node (o70 P) (.node (o134 P) (.node (o262 P) (.node (o518 P) .nil .nil) .nil) (.node (o390 P) .nil .nil)) (.node (o198 P) (.node (o326 P) .nil .nil) (.node (o454 P) .nil .nil))) (.node (o102 P) (.node (o166 P) (.node (o294 P) .nil .nil) (.node (o422 P) .nil .nil)) (.node (o230 P) (.node (o358 P) .nil .nil) (.node (o486 P) .nil .nil)))) (.node (o54 P) (.node (o86 P) (.node (o150 P) (.node (o278 P) (.node (o534 P) .nil .nil) .nil) (.node (o406 P) .nil .nil)) (.node (o214 P) (.node (o342 P) .nil .nil) (.node (o470 P) .nil .nil))) (.node (o118 P) (.node (o182 P) (.node (o310 P) .nil .nil) (.node (o438 P) .nil .nil)) (.node (o246 P) (.node (o374 P) .nil .nil) (.node (o502 P) .nil .nil))))) (.node (o30 P) (.node (o46 P) (.node (o78 P) (.node (o142 P) (.node (o270 P) (.node (o526 P) .nil .nil) .nil) (.node (o398 P) .nil .nil)) (.node (o206 P) (.node (o334 P) .nil .nil) (.node (o462 P) .nil .nil))) (.node (o110 P) (.node (o174 P) (.node (o302 P) .nil .nil) (.node (o430 P) .nil .nil)) (.node (o238 P) (.node (o366 P) .nil .nil) (.node (o494 P) .nil .nil)))) (.node (o62 P) (.node (o94 P) (.node (o158 P) (.node (o286 P) (.node (o542 P) .nil .nil) .nil) (.node (o414 P) .nil .nil)) (.node (o222 P) (.node (o350 P) .nil .nil) (.node (o478 P) .nil .nil))) (.node (o126 P) (.node (o190 P) (.node (o318 P) .nil .nil) (.node (o446 P) .nil .nil)) (.node (o254 P) (.node (o382 P) .nil .nil) (.node (o510 P) .nil .nil)))))))))
noncomputable def Hf (P : Params) : Heap := ⟨⟨boot_o_0 P :: boot_o_1 P :: o2 P :: o3 P :: boot_o_4 P :: boot_o_5 P :: boot_o_6 P :: boot_o_7 P :: boot_o_8 P :: boot_o_9 P :: boot_o_10 P :: o11 P :: o12 P :: o13 P :: o14 P :: o15 P :: o16 P :: o17 P :: o18 P :: o19 P :: o20 P :: o21 P :: o22 P :: o23 P :: o24 P :: o25 P :: o26 P :: o27 P :: o28 P :: o29 P :: o30 P :: o31 P :: o32 P :: o33 P :: o34 P :: o35 P :: o36 P :: o37 P :: o38 P :: o39 P :: o40 P :: o41 P :: o42 P :: o43 P :: o44 P :: o45 P :: o46 P :: o47 P :: o48 P :: o49 P :: o50 P :: o51 P :: o52 P :: o53 P :: o54 P :: o55 P :: o56 P :: o57 P :: o58 P :: o59 P :: o60 P :: o61 P :: o62 P :: o63 P :: o64 P :: o65 P :: o66 P :: o67 P :: o68 P :: o69 P :: o70 P :: o71 P :: o72 P :: o73 P :: o74 P :: o75 P :: o76 P :: o77 P :: o78 P :: o79 P :: o80 P :: o81 P :: o82 P :: o83 P :: o84 P :: o85 P :: o86 P :: o87 P :: o88 P :: o89 P :: o90 P :: o91 P :: o92 P :: o93 P :: o94 P :: o95 P :: o96 P :: o97 P :: o98 P :: o99 P :: o100 P :: o101 P :: o102 P :: o103 P :: o104 P :: o105 P :: o106 P :: o107 P :: o108 P :: o109 P :: o110 P :: o111 P :: o112 P :: o113 P :: o114 P :: o115 P :: o116 P :: o117 P :: o118 P :: o119 P :: o120 P :: o121 P :: o122 P :: o123 P :: o124 P :: o125 P :: o126 P :: o127 P :: o128 P :: o129 P :: o130 P :: o131 P :: o132 P :: o133 P :: o134 P :: o135 P :: o136 P :: o137 P :: o138 P :: o139 P :: o140 P :: o141 P :: o142 P :: o143 P :: o144 P :: o145 P :: o146 P :: o147 P :: o148 P :: o149 P :: o150 P :: o151 P :: o152 P :: o153 P :: o154 P :: o155 P :: o156 P :: o157 P :: o158 P :: o159 P :: o160 P :: o161 P :: o162 P :: o163 P :: o164 P :: o165 P :: o166 P :: o167 P :: o168 P :: o169 P :: o170 P :: o171 P :: o172 P :: o173 P :: o174 P :: o175 P :: o176 P :: o177 P :: o178 P :: o179 P :: o180 P :: o181 P :: o182 P :: o183 P :: o184 P :: o185 P :: o186 P :: o187 P :: o188 P :: o189 P :: o190 P :: o191 P :: o192 P :: o193 P :: o194 P :: o195 P :: o196 P :: o197 P :: o198 P :: o199 P :: o200 P :: o201 P :: o202 P :: o203 P :: o204 P :: o205 P :: o206 P :: o207 P :: o208 P :: o209 P :: o210 P :: o211 P :: o212 P :: o213 P :: o214 P :: o215 P :: o216 P :: o217 P :: o218 P :: o219 P :: o220 P :: o221 P :: o222 P :: o223 P :: o224 P :: o225 P :: o226 P :: o227 P :: o228 P :: o229 P :: o230 P :: o231 P :: o232 P :: o233 P :: o234 P :: o235 P :: o236 P :: o237 P :: o238 P :: o239 P :: o240 P :: o241 P :: o242 P :: o243 P :: o244 P :: o245 P :: o246 P :: o247 P :: o248 P :: o249 P :: o250 P :: o251 P :: o252 P :: o253 P :: o254 P :: o255 P :: o256 P :: o257 P :: o258 P :: o259 P :: o260 P :: o261 P :: o262 P :: o263 P :: o264 P :: o265 P :: o266 P :: o267 P :: o268 P :: o269 P :: o270 P :: o271 P :: o272 P :: o273 P :: o274 P :: o275 P :: o276 P :: o277 P :: o278 P :: o279 P :: o280 P :: o281 P :: o282 P :: o283 P :: o284 P :: o285 P :: o286 P :: o287 P :: o288 P :: o289 P :: o290 P :: o291 P :: o292 P :: o293 P :: o294 P :: o295 P :: o296 P :: o297 P :: o298 P :: o299 P :: o300 P :: o301 P :: o302 P :: o303 P :: o304 P :: o305 P :: o306 P :: o307 P :: o308 P :: o309 P :: o310 P :: o311 P :: o312 P :: o313 P :: o314 P :: o315 P :: o316 P :: o317 P :: o318 P :: o319 P :: o320 P :: o321 P :: o322 P :: o323 P :: o324 P :: o325 P :: o326 P :: o327 P :: o328 P :: o329 P :: o330 P :: o331 P :: o332 P :: o333 P :: o334 P :: o335 P :: o336 P :: o337 P :: o338 P :: o339 P :: o340 P :: o341 P :: o342 P :: o343 P :: o344 P :: o345 P :: o346 P :: o347 P :: o348 P :: o349 P :: o350 P :: o351 P :: o352 P :: o353 P :: o354 P :: o355 P :: o356 P :: o357 P :: o358 P :: o359 P :: o360 P :: o361 P :: o362 P :: o363 P :: o364 P :: o365 P :: o366 P :: o367 P :: o368 P :: o369 P :: o370 P :: o371 P :: o372 P :: o373 P :: o374 P :: o375 P :: o376 P :: o377 P :: o378 P :: o379 P :: o380 P :: o381 P :: o382 P :: o383 P :: o384 P :: o385 P :: o386 P :: o387 P :: o388 P :: o389 P :: o390 P :: o391 P :: o392 P :: o393 P :: o394 P :: o395 P :: o396 P :: o397 P :: o398 P :: o399 P :: o400 P :: o401 P :: o402 P :: o403 P :: o404 P :: o405 P :: o406 P :: o407 P :: o408 P :: o409 P :: o410 P :: o411 P :: o412 P :: o413 P :: o414 P :: o415 P :: o416 P :: o417 P :: o418 P :: o419 P :: o420 P :: o421 P :: o422 P :: o423 P :: o424 P :: o425 P :: o426 P :: o427 P :: o428 P :: o429 P :: o430 P :: o431 P :: o432 P :: o433 P :: o434 P :: o435 P :: o436 P :: o437 P :: o438 P :: o439 P :: o440 P :: o441 P :: o442 P :: o443 P :: o444 P :: o445 P :: o446 P :: o447 P :: o448 P :: o449 P :: o450 P :: o451 P :: o452 P :: o453 P :: o454 P :: o455 P :: o456 P :: o457 P :: o458 P :: o459 P :: o460 P :: o461 P :: o462 P :: o463 P :: o464 P :: o465 P :: o466 P :: o467 P :: o468 P :: o469 P :: o470 P :: o471 P :: o472 P :: o473 P :: o474 P :: o475 P :: o476 P :: o477 P :: o478 P :: o479 P :: o480 P :: o481 P :: o482 P :: o483 P :: o484 P :: o485 P :: o486 P :: o487 P :: o488 P :: o489 P :: o490 P :: o491 P :: o492 P :: o493 P :: o494 P :: o495 P :: o496 P :: o497 P :: o498 P :: o499 P :: o500 P :: o501 P :: o502 P :: o503 P :: o504 P :: o505 P :: o506 P :: o507 P :: o508 P :: o509 P :: o510 P :: o511 P :: o512 P :: o513 P :: o514 P :: o515 P :: o516 P :: o517 P :: o518 P :: o519 P :: o520 P :: o521 P :: o522 P :: o523 P :: o524 P :: o525 P :: o526 P :: o527 P :: o528 P :: o529 P :: o530 P :: o531 P :: o532 P :: o533 P :: o534 P :: o535 P :: o536 P :: o537 P :: o538 P :: o539 P :: o540 P :: o541 P :: o542 P :: o543 P :: []⟩, {}⟩
noncomputable def lB17 : List Stmt := [st 0, st 1, st 2, st 3, st 4, st 5, st 6, st 7, st 8, st 9, st 10, st 11, st 12, st 13, st 14, st 15, st 16]
noncomputable def lB19 : List Stmt := [st 17, st 18]
noncomputable def lB40 : List Stmt := [st 19, st 20, st 21, st 22, st 23, st 24, st 25, st 26, st 27, st 28, st 29, st 30, st 31, st 32, st 33, st 34, st 35, st 36, st 37, st 38, st 39]
noncomputable def lB66 : List Stmt := [st 40, st 41, st 42, st 43, st 44, st 45, st 46, st 47, st 48, st 49, st 50, st 51, st 52, st 53, st 54, st 55, st 56, st 57, st 58, st 59, st 60, st 61, st 62, st 63, st 64, st 65]
noncomputable def lB77 : List Stmt := [st 66, st 67, st 68, st 69, st 70, st 71, st 72, st 73, st 74, st 75, st 76]
noncomputable def lZ : List Stmt := [st 77, st 78, st 79, st 80, st 81, st 82, st 83]
noncomputable def bE : List Stmt := lB17 ++ (lB19 ++ (lB40 ++ (lB66 ++ (lB77 ++ (lZ ++ [])))))
noncomputable def env : Env := { scope := pg.main.scope, locals := mainNs, globals := mainNs, cells := [], code := .ref 13, frame := some 14 }
noncomputable def cE : Code := .body bE env
noncomputable def stB : List Frame := [topFrame ⟨0, 0, 0, 0⟩]
noncomputable def xS (T : Params → BT) (n k : Nat) (w : World) (os : OsState) : SharedT := ⟨T w.params, n, {}, ⟨[]⟩, {}, k, os⟩
noncomputable abbrev TT := PySem.W.Fast.tw14364793385576792824
theorem tt : treeTable = TT := PySem.W.Fast.te14364793385576792824
theorem preA (w : World) (os : OsState) : topGo treeTable pg w 11 (some (.ref 6)) 12 (⟨boot_heap w.params, ⟨[]⟩, boot_drawn, boot_toks, os⟩ : Shared) (topStub pg) = some (SharedT.abs (xS TA 15 187 w os), ⟨denote treeTable cE, cE, ⟨0, 0, 0, 0⟩, stB⟩) := by kernel_rfl
theorem blkA (w : World) (os : OsState) : segRun treeTable pg w 11 (some (.ref 6)) 1 1 (SharedT.abs (xS TA 15 187 w os)) (blockOf bE env cE ⟨0, 0, 0, 0⟩ stB) = some (.next, SharedT.abs (xS TA 15 187 w os), cE, ⟨0, 0, 0, 0⟩) := by kernel_rfl
theorem kB17 (w : World) (os : OsState) : PySem.W.Fast.tw10110043849684766642 TT pg w 11 (some (.ref 6)) 1 294 (xS TA 15 187 w os) (piecesOf lB17 env cE ⟨0, 0, 0, 0⟩ stB) = some (.next, (xS TB17 64 256 w os), cE, ⟨25, 0, 25, 6⟩) := by kernel_rfl
theorem sB17 (w : World) (os : OsState) : segRun treeTable pg w 11 (some (.ref 6)) 1 294 (SharedT.abs (xS TA 15 187 w os)) (piecesOf lB17 env cE ⟨0, 0, 0, 0⟩ stB) = some (.next, SharedT.abs (xS TB17 64 256 w os), cE, ⟨25, 0, 25, 6⟩) := segRun_of (by rw [tt, PySem.W.Fast.te10110043849684766642]; exact kB17 w os)
theorem kB19 (w : World) (os : OsState) : PySem.W.Fast.tw10110043849684766642 TT pg w 11 (some (.ref 6)) 1 544 (xS TB17 64 256 w os) (piecesOf lB19 env cE ⟨25, 0, 25, 6⟩ stB) = some (.next, (xS TB19 120 358 w os), cE, ⟨45, 0, 50, 34⟩) := by kernel_rfl
theorem sB19 (w : World) (os : OsState) : segRun treeTable pg w 11 (some (.ref 6)) 1 544 (SharedT.abs (xS TB17 64 256 w os)) (piecesOf lB19 env cE ⟨25, 0, 25, 6⟩ stB) = some (.next, SharedT.abs (xS TB19 120 358 w os), cE, ⟨45, 0, 50, 34⟩) := segRun_of (by rw [tt, PySem.W.Fast.te10110043849684766642]; exact kB19 w os)
theorem kB40 (w : World) (os : OsState) : PySem.W.Fast.tw10110043849684766642 TT pg w 11 (some (.ref 6)) 1 760 (xS TB19 120 358 w os) (piecesOf lB40 env cE ⟨45, 0, 50, 34⟩ stB) = some (.next, (xS TB40 252 538 w os), cE, ⟨169, 0, 169, 8⟩) := by kernel_rfl
theorem sB40 (w : World) (os : OsState) : segRun treeTable pg w 11 (some (.ref 6)) 1 760 (SharedT.abs (xS TB19 120 358 w os)) (piecesOf lB40 env cE ⟨45, 0, 50, 34⟩ stB) = some (.next, SharedT.abs (xS TB40 252 538 w os), cE, ⟨169, 0, 169, 8⟩) := segRun_of (by rw [tt, PySem.W.Fast.te10110043849684766642]; exact kB40 w os)
theorem kB66 (w : World) (os : OsState) : PySem.W.Fast.tw10110043849684766642 TT pg w 11 (some (.ref 6)) 1 682 (xS TB40 252 538 w os) (piecesOf lB66 env cE ⟨169, 0, 169, 8⟩ stB) = some (.next, (xS TB66 387 741 w os), cE, ⟨270, 0, 270, 7⟩) := by kernel_rfl
theorem sB66 (w : World) (os : OsState) : segRun treeTable pg w 11 (some (.ref 6)) 1 682 (SharedT.abs (xS TB40 252 538 w os)) (piecesOf lB66 env cE ⟨169, 0, 169, 8⟩ stB) = some (.next, SharedT.abs (xS TB66 387 741 w os), cE, ⟨270, 0, 270, 7⟩) := segRun_of (by rw [tt, PySem.W.Fast.te10110043849684766642]; exact kB66 w os)
theorem kB77 (w : World) (os : OsState) : PySem.W.Fast.tw10110043849684766642 TT pg w 11 (some (.ref 6)) 1 370 (xS TB66 387 741 w os) (piecesOf lB77 env cE ⟨270, 0, 270, 7⟩ stB) = some (.next, (xS TB77 422 817 w os), cE, ⟨290, 0, 298, 28⟩) := by kernel_rfl
theorem sB77 (w : World) (os : OsState) : segRun treeTable pg w 11 (some (.ref 6)) 1 370 (SharedT.abs (xS TB66 387 741 w os)) (piecesOf lB77 env cE ⟨270, 0, 270, 7⟩ stB) = some (.next, SharedT.abs (xS TB77 422 817 w os), cE, ⟨290, 0, 298, 28⟩) := segRun_of (by rw [tt, PySem.W.Fast.te10110043849684766642]; exact kB77 w os)
theorem kZ (w : World) (os : OsState) : PySem.W.Fast.tw10110043849684766642 TT pg w 11 (some (.ref 6)) 1 764 (xS TB77 422 817 w os) (piecesOf lZ env cE ⟨290, 0, 298, 28⟩ stB) = some (.next, (xS TZ 544 1034 w os), cE, ⟨479, 0, 496, 58⟩) := by kernel_rfl
theorem sZ (w : World) (os : OsState) : segRun treeTable pg w 11 (some (.ref 6)) 1 764 (SharedT.abs (xS TB77 422 817 w os)) (piecesOf lZ env cE ⟨290, 0, 298, 28⟩ stB) = some (.next, SharedT.abs (xS TZ 544 1034 w os), cE, ⟨479, 0, 496, 58⟩) := segRun_of (by rw [tt, PySem.W.Fast.te10110043849684766642]; exact kZ w os)
theorem finA (w : World) (os : OsState) : topRun treeTable pg w 11 (some (.ref 6)) 2 (SharedT.abs (xS TZ 544 1034 w os)) ⟨doneF .next, cE, ⟨479, 0, 496, 58⟩, stB⟩ = some (⟨Hf w.params, ⟨[]⟩, {}, 1034, os⟩ : Shared) := by kernel_rfl
theorem runA (w : World) (os : OsState) : topRun treeTable pg w 11 (some (.ref 6)) (12 + (1 + (294 + (544 + (760 + (682 + (370 + (764 + 2)))))))) (⟨boot_heap w.params, ⟨[]⟩, boot_drawn, boot_toks, os⟩ : Shared) (topStub pg) = some (⟨Hf w.params, ⟨[]⟩, {}, 1034, os⟩ : Shared) := go_top (preA w os) (piece_block (blkA w os) (piece_app (sB17 w os) (piece_app (sB19 w os) (piece_app (sB40 w os) (piece_app (sB66 w os) (piece_app (sB77 w os) (piece_app (sZ w os) (piece_nil (finA w os)))))))))
noncomputable def vw : Program := { pg with main := { pg.main with body := st 0 :: st 2 :: st 3 :: st 4 :: st 5 :: st 6 :: st 7 :: st 8 :: st 9 :: st 10 :: st 11 :: st 12 :: st 13 :: st 14 :: st 16 :: st 17 :: st 18 :: st 19 :: st 20 :: st 21 :: st 22 :: st 23 :: st 24 :: st 25 :: st 26 :: st 27 :: st 28 :: st 29 :: st 30 :: st 31 :: st 32 :: st 33 :: st 34 :: st 35 :: st 37 :: st 38 :: st 39 :: st 40 :: st 41 :: st 43 :: st 44 :: st 45 :: st 46 :: st 47 :: st 49 :: st 50 :: st 51 :: st 52 :: st 53 :: st 54 :: st 55 :: st 56 :: st 57 :: st 58 :: st 59 :: st 60 :: st 61 :: st 63 :: st 64 :: st 65 :: st 66 :: st 67 :: st 68 :: st 69 :: st 70 :: st 71 :: st 73 :: st 74 :: st 75 :: st 76 :: st 77 :: st 79 :: st 80 :: st 81 :: st 82 :: st 83 :: [] } }
noncomputable def heap (P : Params) : Frag := (nat_lit 2, o2 P) :: (nat_lit 3, o3 P) :: (nat_lit 15, o15 P) :: (nat_lit 17, o17 P) :: (nat_lit 18, o18 P) :: (nat_lit 20, o20 P) :: (nat_lit 21, o21 P) :: (nat_lit 22, o22 P) :: (nat_lit 24, o24 P) :: (nat_lit 25, o25 P) :: (nat_lit 27, o27 P) :: (nat_lit 28, o28 P) :: (nat_lit 29, o29 P) :: (nat_lit 31, o31 P) :: (nat_lit 32, o32 P) :: (nat_lit 34, o34 P) :: (nat_lit 35, o35 P) :: (nat_lit 36, o36 P) :: (nat_lit 38, o38 P) :: (nat_lit 39, o39 P) :: (nat_lit 41, o41 P) :: (nat_lit 42, o42 P) :: (nat_lit 43, o43 P) :: (nat_lit 45, o45 P) :: (nat_lit 46, o46 P) :: (nat_lit 48, o48 P) :: (nat_lit 49, o49 P) :: (nat_lit 50, o50 P) :: (nat_lit 52, o52 P) :: (nat_lit 53, o53 P) :: (nat_lit 55, o55 P) :: (nat_lit 56, o56 P) :: (nat_lit 57, o57 P) :: (nat_lit 59, o59 P) :: (nat_lit 60, o60 P) :: (nat_lit 62, o62 P) :: (nat_lit 63, o63 P) :: (nat_lit 71, o71 P) :: (nat_lit 72, o72 P) :: (nat_lit 74, o74 P) :: (nat_lit 75, o75 P) :: (nat_lit 77, o77 P) :: (nat_lit 78, o78 P) :: (nat_lit 79, o79 P) :: (nat_lit 81, o81 P) :: (nat_lit 82, o82 P) :: (nat_lit 84, o84 P) :: (nat_lit 85, o85 P) :: (nat_lit 86, o86 P) :: (nat_lit 88, o88 P) :: (nat_lit 89, o89 P) :: (nat_lit 91, o91 P) :: (nat_lit 92, o92 P) :: (nat_lit 93, o93 P) :: (nat_lit 94, o94 P) :: (nat_lit 95, o95 P) :: (nat_lit 96, o96 P) :: (nat_lit 97, o97 P) :: (nat_lit 100, o100 P) :: (nat_lit 107, o107 P) :: (nat_lit 109, o109 P) :: (nat_lit 110, o110 P) :: (nat_lit 112, o112 P) :: (nat_lit 113, o113 P) :: (nat_lit 114, o114 P) :: (nat_lit 115, o115 P) :: (nat_lit 116, o116 P) :: (nat_lit 117, o117 P) :: (nat_lit 120, o120 P) :: (nat_lit 127, o127 P) :: (nat_lit 129, o129 P) :: (nat_lit 130, o130 P) :: (nat_lit 132, o132 P) :: (nat_lit 133, o133 P) :: (nat_lit 134, o134 P) :: (nat_lit 135, o135 P) :: (nat_lit 136, o136 P) :: (nat_lit 137, o137 P) :: (nat_lit 140, o140 P) :: (nat_lit 142, o142 P) :: (nat_lit 143, o143 P) :: (nat_lit 145, o145 P) :: (nat_lit 146, o146 P) :: (nat_lit 147, o147 P) :: (nat_lit 149, o149 P) :: (nat_lit 150, o150 P) :: (nat_lit 152, o152 P) :: (nat_lit 153, o153 P) :: (nat_lit 154, o154 P) :: (nat_lit 156, o156 P) :: (nat_lit 157, o157 P) :: (nat_lit 159, o159 P) :: (nat_lit 160, o160 P) :: (nat_lit 161, o161 P) :: (nat_lit 163, o163 P) :: (nat_lit 164, o164 P) :: (nat_lit 166, o166 P) :: (nat_lit 167, o167 P) :: (nat_lit 168, o168 P) :: (nat_lit 170, o170 P) :: (nat_lit 171, o171 P) :: (nat_lit 173, o173 P) :: (nat_lit 174, o174 P) :: (nat_lit 175, o175 P) :: (nat_lit 177, o177 P) :: (nat_lit 178, o178 P) :: (nat_lit 180, o180 P) :: (nat_lit 181, o181 P) :: (nat_lit 182, o182 P) :: (nat_lit 184, o184 P) :: (nat_lit 185, o185 P) :: (nat_lit 187, o187 P) :: (nat_lit 188, o188 P) :: (nat_lit 189, o189 P) :: (nat_lit 191, o191 P) :: (nat_lit 192, o192 P) :: (nat_lit 194, o194 P) :: (nat_lit 195, o195 P) :: (nat_lit 196, o196 P) :: (nat_lit 198, o198 P) :: (nat_lit 199, o199 P) :: (nat_lit 201, o201 P) :: (nat_lit 202, o202 P) :: (nat_lit 203, o203 P) :: (nat_lit 205, o205 P) :: (nat_lit 206, o206 P) :: (nat_lit 208, o208 P) :: (nat_lit 209, o209 P) :: (nat_lit 210, o210 P) :: (nat_lit 212, o212 P) :: (nat_lit 213, o213 P) :: (nat_lit 215, o215 P) :: (nat_lit 216, o216 P) :: (nat_lit 217, o217 P) :: (nat_lit 219, o219 P) :: (nat_lit 220, o220 P) :: (nat_lit 222, o222 P) :: (nat_lit 223, o223 P) :: (nat_lit 224, o224 P) :: (nat_lit 226, o226 P) :: (nat_lit 227, o227 P) :: (nat_lit 229, o229 P) :: (nat_lit 230, o230 P) :: (nat_lit 231, o231 P) :: (nat_lit 233, o233 P) :: (nat_lit 234, o234 P) :: (nat_lit 236, o236 P) :: (nat_lit 237, o237 P) :: (nat_lit 238, o238 P) :: (nat_lit 240, o240 P) :: (nat_lit 241, o241 P) :: (nat_lit 243, o243 P) :: (nat_lit 244, o244 P) :: (nat_lit 245, o245 P) :: (nat_lit 247, o247 P) :: (nat_lit 248, o248 P) :: (nat_lit 250, o250 P) :: (nat_lit 251, o251 P) :: (nat_lit 252, o252 P) :: (nat_lit 254, o254 P) :: (nat_lit 255, o255 P) :: (nat_lit 257, o257 P) :: (nat_lit 258, o258 P) :: (nat_lit 259, o259 P) :: (nat_lit 262, o262 P) :: (nat_lit 263, o263 P) :: (nat_lit 264, o264 P) :: (nat_lit 267, o267 P) :: (nat_lit 268, o268 P) :: (nat_lit 269, o269 P) :: (nat_lit 271, o271 P) :: (nat_lit 272, o272 P) :: (nat_lit 274, o274 P) :: (nat_lit 275, o275 P) :: (nat_lit 276, o276 P) :: (nat_lit 278, o278 P) :: (nat_lit 279, o279 P) :: (nat_lit 281, o281 P) :: (nat_lit 282, o282 P) :: (nat_lit 283, o283 P) :: (nat_lit 285, o285 P) :: (nat_lit 286, o286 P) :: (nat_lit 288, o288 P) :: (nat_lit 289, o289 P) :: (nat_lit 290, o290 P) :: (nat_lit 292, o292 P) :: (nat_lit 293, o293 P) :: (nat_lit 295, o295 P) :: (nat_lit 296, o296 P) :: (nat_lit 297, o297 P) :: (nat_lit 299, o299 P) :: (nat_lit 300, o300 P) :: (nat_lit 302, o302 P) :: (nat_lit 303, o303 P) :: (nat_lit 304, o304 P) :: (nat_lit 306, o306 P) :: (nat_lit 307, o307 P) :: (nat_lit 309, o309 P) :: (nat_lit 310, o310 P) :: (nat_lit 311, o311 P) :: (nat_lit 313, o313 P) :: (nat_lit 314, o314 P) :: (nat_lit 316, o316 P) :: (nat_lit 317, o317 P) :: (nat_lit 318, o318 P) :: (nat_lit 320, o320 P) :: (nat_lit 321, o321 P) :: (nat_lit 323, o323 P) :: (nat_lit 324, o324 P) :: (nat_lit 325, o325 P) :: (nat_lit 327, o327 P) :: (nat_lit 328, o328 P) :: (nat_lit 330, o330 P) :: (nat_lit 331, o331 P) :: (nat_lit 332, o332 P) :: (nat_lit 334, o334 P) :: (nat_lit 335, o335 P) :: (nat_lit 337, o337 P) :: (nat_lit 338, o338 P) :: (nat_lit 339, o339 P) :: (nat_lit 341, o341 P) :: (nat_lit 342, o342 P) :: (nat_lit 344, o344 P) :: (nat_lit 345, o345 P) :: (nat_lit 346, o346 P) :: (nat_lit 348, o348 P) :: (nat_lit 349, o349 P) :: (nat_lit 351, o351 P) :: (nat_lit 352, o352 P) :: (nat_lit 353, o353 P) :: (nat_lit 355, o355 P) :: (nat_lit 356, o356 P) :: (nat_lit 358, o358 P) :: (nat_lit 359, o359 P) :: (nat_lit 360, o360 P) :: (nat_lit 363, o363 P) :: (nat_lit 364, o364 P) :: (nat_lit 365, o365 P) :: (nat_lit 367, o367 P) :: (nat_lit 368, o368 P) :: (nat_lit 370, o370 P) :: (nat_lit 371, o371 P) :: (nat_lit 372, o372 P) :: (nat_lit 374, o374 P) :: (nat_lit 375, o375 P) :: (nat_lit 377, o377 P) :: (nat_lit 378, o378 P) :: (nat_lit 379, o379 P) :: (nat_lit 381, o381 P) :: (nat_lit 382, o382 P) :: (nat_lit 384, o384 P) :: (nat_lit 385, o385 P) :: (nat_lit 386, o386 P) :: (nat_lit 387, o387 P) :: (nat_lit 389, o389 P) :: (nat_lit 390, o390 P) :: (nat_lit 392, o392 P) :: (nat_lit 393, o393 P) :: (nat_lit 394, o394 P) :: (nat_lit 396, o396 P) :: (nat_lit 397, o397 P) :: (nat_lit 399, o399 P) :: (nat_lit 400, o400 P) :: (nat_lit 408, o408 P) :: (nat_lit 410, o410 P) :: (nat_lit 411, o411 P) :: (nat_lit 413, o413 P) :: (nat_lit 414, o414 P) :: (nat_lit 415, o415 P) :: (nat_lit 416, o416 P) :: (nat_lit 417, o417 P) :: (nat_lit 418, o418 P) :: (nat_lit 419, o419 P) :: (nat_lit 429, o429 P) :: (nat_lit 431, o431 P) :: (nat_lit 432, o432 P) :: (nat_lit 434, o434 P) :: (nat_lit 435, o435 P) :: (nat_lit 436, o436 P) :: (nat_lit 438, o438 P) :: (nat_lit 439, o439 P) :: (nat_lit 441, o441 P) :: (nat_lit 442, o442 P) :: (nat_lit 443, o443 P) :: (nat_lit 445, o445 P) :: (nat_lit 446, o446 P) :: (nat_lit 448, o448 P) :: (nat_lit 449, o449 P) :: (nat_lit 450, o450 P) :: (nat_lit 452, o452 P) :: (nat_lit 453, o453 P) :: (nat_lit 455, o455 P) :: (nat_lit 456, o456 P) :: (nat_lit 457, o457 P) :: (nat_lit 459, o459 P) :: (nat_lit 460, o460 P) :: (nat_lit 462, o462 P) :: (nat_lit 463, o463 P) :: (nat_lit 464, o464 P) :: (nat_lit 466, o466 P) :: (nat_lit 467, o467 P) :: (nat_lit 469, o469 P) :: (nat_lit 470, o470 P) :: (nat_lit 471, o471 P) :: (nat_lit 473, o473 P) :: (nat_lit 474, o474 P) :: (nat_lit 476, o476 P) :: (nat_lit 477, o477 P) :: (nat_lit 478, o478 P) :: (nat_lit 480, o480 P) :: (nat_lit 481, o481 P) :: (nat_lit 483, o483 P) :: (nat_lit 484, o484 P) :: (nat_lit 485, o485 P) :: (nat_lit 487, o487 P) :: (nat_lit 488, o488 P) :: (nat_lit 490, o490 P) :: (nat_lit 491, o491 P) :: (nat_lit 492, o492 P) :: (nat_lit 494, o494 P) :: (nat_lit 495, o495 P) :: (nat_lit 497, o497 P) :: (nat_lit 498, o498 P) :: (nat_lit 499, o499 P) :: (nat_lit 501, o501 P) :: (nat_lit 502, o502 P) :: (nat_lit 504, o504 P) :: (nat_lit 505, o505 P) :: (nat_lit 506, o506 P) :: (nat_lit 507, o507 P) :: (nat_lit 508, o508 P) :: (nat_lit 509, o509 P) :: (nat_lit 510, o510 P) :: (nat_lit 513, o513 P) :: (nat_lit 515, o515 P) :: (nat_lit 516, o516 P) :: (nat_lit 518, o518 P) :: (nat_lit 519, o519 P) :: (nat_lit 520, o520 P) :: (nat_lit 522, o522 P) :: (nat_lit 523, o523 P) :: (nat_lit 525, o525 P) :: (nat_lit 526, o526 P) :: (nat_lit 527, o527 P) :: (nat_lit 529, o529 P) :: (nat_lit 530, o530 P) :: (nat_lit 532, o532 P) :: (nat_lit 533, o533 P) :: (nat_lit 534, o534 P) :: (nat_lit 537, o537 P) :: (nat_lit 538, o538 P) :: (nat_lit 539, o539 P) :: (nat_lit 542, o542 P) :: (nat_lit 543, o543 P) :: []
def addrs : List Addr := 2 :: 3 :: 15 :: 17 :: 18 :: 20 :: 21 :: 22 :: 24 :: 25 :: 27 :: 28 :: 29 :: 31 :: 32 :: 34 :: 35 :: 36 :: 38 :: 39 :: 41 :: 42 :: 43 :: 45 :: 46 :: 48 :: 49 :: 50 :: 52 :: 53 :: 55 :: 56 :: 57 :: 59 :: 60 :: 62 :: 63 :: 71 :: 72 :: 74 :: 75 :: 77 :: 78 :: 79 :: 81 :: 82 :: 84 :: 85 :: 86 :: 88 :: 89 :: 91 :: 92 :: 93 :: 94 :: 95 :: 96 :: 97 :: 100 :: 107 :: 109 :: 110 :: 112 :: 113 :: 114 :: 115 :: 116 :: 117 :: 120 :: 127 :: 129 :: 130 :: 132 :: 133 :: 134 :: 135 :: 136 :: 137 :: 140 :: 142 :: 143 :: 145 :: 146 :: 147 :: 149 :: 150 :: 152 :: 153 :: 154 :: 156 :: 157 :: 159 :: 160 :: 161 :: 163 :: 164 :: 166 :: 167 :: 168 :: 170 :: 171 :: 173 :: 174 :: 175 :: 177 :: 178 :: 180 :: 181 :: 182 :: 184 :: 185 :: 187 :: 188 :: 189 :: 191 :: 192 :: 194 :: 195 :: 196 :: 198 :: 199 :: 201 :: 202 :: 203 :: 205 :: 206 :: 208 :: 209 :: 210 :: 212 :: 213 :: 215 :: 216 :: 217 :: 219 :: 220 :: 222 :: 223 :: 224 :: 226 :: 227 :: 229 :: 230 :: 231 :: 233 :: 234 :: 236 :: 237 :: 238 :: 240 :: 241 :: 243 :: 244 :: 245 :: 247 :: 248 :: 250 :: 251 :: 252 :: 254 :: 255 :: 257 :: 258 :: 259 :: 262 :: 263 :: 264 :: 267 :: 268 :: 269 :: 271 :: 272 :: 274 :: 275 :: 276 :: 278 :: 279 :: 281 :: 282 :: 283 :: 285 :: 286 :: 288 :: 289 :: 290 :: 292 :: 293 :: 295 :: 296 :: 297 :: 299 :: 300 :: 302 :: 303 :: 304 :: 306 :: 307 :: 309 :: 310 :: 311 :: 313 :: 314 :: 316 :: 317 :: 318 :: 320 :: 321 :: 323 :: 324 :: 325 :: 327 :: 328 :: 330 :: 331 :: 332 :: 334 :: 335 :: 337 :: 338 :: 339 :: 341 :: 342 :: 344 :: 345 :: 346 :: 348 :: 349 :: 351 :: 352 :: 353 :: 355 :: 356 :: 358 :: 359 :: 360 :: 363 :: 364 :: 365 :: 367 :: 368 :: 370 :: 371 :: 372 :: 374 :: 375 :: 377 :: 378 :: 379 :: 381 :: 382 :: 384 :: 385 :: 386 :: 387 :: 389 :: 390 :: 392 :: 393 :: 394 :: 396 :: 397 :: 399 :: 400 :: 408 :: 410 :: 411 :: 413 :: 414 :: 415 :: 416 :: 417 :: 418 :: 419 :: 429 :: 431 :: 432 :: 434 :: 435 :: 436 :: 438 :: 439 :: 441 :: 442 :: 443 :: 445 :: 446 :: 448 :: 449 :: 450 :: 452 :: 453 :: 455 :: 456 :: 457 :: 459 :: 460 :: 462 :: 463 :: 464 :: 466 :: 467 :: 469 :: 470 :: 471 :: 473 :: 474 :: 476 :: 477 :: 478 :: 480 :: 481 :: 483 :: 484 :: 485 :: 487 :: 488 :: 490 :: 491 :: 492 :: 494 :: 495 :: 497 :: 498 :: 499 :: 501 :: 502 :: 504 :: 505 :: 506 :: 507 :: 508 :: 509 :: 510 :: 513 :: 515 :: 516 :: 518 :: 519 :: 520 :: 522 :: 523 :: 525 :: 526 :: 527 :: 529 :: 530 :: 532 :: 533 :: 534 :: 537 :: 538 :: 539 :: 542 :: 543 :: []
theorem heap_addrs (P : Params) : addrs = (heap P).map (·.1) := by kernel_rfl
@[reducible] noncomputable def hook : Hook := kmHook heap addrs heap_addrs [528]
theorem op_e : opening pg = plainProg pg.main.scope.names := by kernel_rfl
theorem op_f (s : Shared) : fenceModules? pg s = some s := by kernel_rfl
theorem op_n : Nat.ble 600 6942 = true := by kernel_rfl
theorem sizeA (w : World) : ((boot_heap w.params).isNs mainGlobals && (Array.mk [] : Array GenState).size == 0, (boot_heap w.params).objs.size, (boot_heap w.params).nsMap mainGlobals "__annotations__") = (true, 11, (some (.ref 6))) := by kernel_rfl
theorem leA : Nat.ble (12 + (1 + (294 + (544 + (760 + (682 + (370 + (764 + 2)))))))) 6942 = true := by kernel_rfl
noncomputable def xt (s : Shared) : Bool := xlAt vw [] s && recOk (RowW.records (OpenRow.toRowW PySem.Challenge.rw_rh0164_01.row)) s
theorem lookA (w : World) (os : OsState) : (staticsOk (importedModules pg.main.body) (boot_heap w.params) (Hf w.params) && namesBound pg (Hf w.params) && gensDone (⟨Hf w.params, ⟨[]⟩, {}, 1034, os⟩ : Shared) && laidKept (boot_heap w.params) (Hf w.params)) = true := by kernel_rfl
theorem lookB (w : World) (os : OsState) : openSeen vw [Str.ofString "RECKONINGS"] (importedModules pg.main.body) xt true (⟨Hf w.params, ⟨[]⟩, {}, 1034, os⟩ : Shared) = openGood vw [Str.ofString "RECKONINGS"] := by
  rw [PySem.W.Fast.te4187177175401517315]; kernel_rfl
theorem lookC (w : World) (os : OsState) : Hook.obs hook (⟨Hf w.params, ⟨[]⟩, {}, 1034, os⟩ : Shared) = Hook.val hook w := by kernel_rfl
theorem hl : LeftO pg vw [Str.ofString "RECKONINGS"] xt (Hook.obs hook) (Hook.val hook) 6942 :=
  LeftO.of_pieces (H₀ := boot_heap) (H₁ := Hf) (gs₀ := ⟨[]⟩) (gs₁ := ⟨[]⟩) (d₀ := boot_drawn) (d₁ := {}) (k₀ := boot_toks) (k₁ := 1034) (m₀ := 11) (ann := (some (.ref 6))) (M := (12 + (1 + (294 + (544 + (760 + (682 + (370 + (764 + 2)))))))))
    (boot_open op_e op_n op_f) sizeA runA leA (fun w => funext fun os => looks_pair (lookA w os) (looks_pair (lookB w os) (lookC w os)))
theorem wsd : PySem.Challenge.rw_rh0164_01.wellSaid = true := by rw [PySem.W.Fast.te9446332074065402090]; kernel_rfl
theorem hd {d : DefRec} {kwd : List (Str × Expr)} (h1 : defOf vw PySem.Challenge.rw_rh0164_01.row.name = some (d, kwd)) (h2 : PySem.Challenge.rw_rh0164_01.row.prog.theDef PySem.Challenge.rw_rh0164_01.row.name = some (d.params, d.body, d.scope)) (h3 : kwWritten? d.params.kwonlyargs d.params.kw_defaults = some kwd)
    (hc : WalkO vw [Str.ofString "RECKONINGS"] (XL vw []) (Hook.says (kmHook heap addrs heap_addrs [528])) (OpenRow.toRowW PySem.Challenge.rw_rh0164_01.row) d kwd fun f vs => PySem.call f vs) : PySem.Challenge.rw_rh0164_01.Holds := by
  w_on
  refine holds_law wsd fun said => ?_
  refine W.holds_open (q := vw) (loose := [Str.ofString "RECKONINGS"]) (Xt := xt) (XP := XL vw []) (Yf := Hook.obs (kmHook heap addrs heap_addrs [528])) (Ya := Hook.val (kmHook heap addrs heap_addrs [528])) (YP := Hook.says (kmHook heap addrs heap_addrs [528])) (N := 6942) hl (Hook.of (kmHook heap addrs heap_addrs [528])) (Hook.keeps (kmHook heap addrs heap_addrs [528])) (fun s e => xl_of s (Bool.and_eq_true_iff.mp e).1) XL.keeps h1 h2 h3 (fun s e => recFacts_of (Bool.and_eq_true_iff.mp e).2) (by kernel_rfl) said (by decide +kernel) ⟨rfl, rfl, rfl, rfl, rfl, by decide +kernel⟩ ?hw hc
  case hw => w_witness2
theorem ne_lt {azq bzq : Nat} (hzq : @LT.lt Nat _ azq bzq) : @Ne Nat azq bzq := Nat.ne_of_lt hzq
theorem ne_gt {azq bzq : Nat} (hzq : @LT.lt Nat _ bzq azq) : @Ne Nat azq bzq := (Nat.ne_of_lt hzq).symm
theorem ne_sy {azq bzq : Nat} (hzq : @Ne Nat bzq azq) : @Ne Nat azq bzq := hzq.symm
theorem ltr {azq bzq czq : Nat} (hzq : @LT.lt Nat _ bzq czq) (kzq : @LT.lt Nat _ azq bzq) : @LT.lt Nat _ azq czq := Nat.lt_trans kzq hzq
theorem lt0 {azq : Nat} : @LT.lt Nat _ azq (azq + 1) := Nat.lt_succ_self azq
theorem ltk {azq bzq kzq : Nat} (hzq : @LT.lt Nat _ azq bzq) : @LT.lt Nat _ azq (bzq + kzq) := Nat.lt_of_lt_of_le hzq (Nat.le_add_right bzq kzq)
theorem lt_all {d : Addr} {l : List (Addr × Obj)} (h : AllLt d l) : ∀ p ∈ l, p.1 < d := by
  induction l with
  | nil => intro p hp; cases hp
  | cons q r ih =>
    intro p hp
    rcases List.mem_cons.mp hp with e | e
    · rw [e]; exact h.1
    · exact ih h.2 p e
inductive Has (aq0 : Addr) : List (Addr × Obj) → Prop
  | h0 {ozq : Obj} {lzq : List (Addr × Obj)} : Has aq0 ((aq0, ozq) :: lzq)
  | h1 {pzq : Addr × Obj} {ozq : Obj} {lzq : List (Addr × Obj)} : Has aq0 (pzq :: (aq0, ozq) :: lzq)
  | h2 {pzq qzq : Addr × Obj} {ozq : Obj} {lzq : List (Addr × Obj)} : Has aq0 (pzq :: qzq :: (aq0, ozq) :: lzq)
  | h3 {pzq qzq rzq : Addr × Obj} {ozq : Obj} {lzq : List (Addr × Obj)} : Has aq0 (pzq :: qzq :: rzq :: (aq0, ozq) :: lzq)
  | h4 {pzq qzq rzq szq : Addr × Obj} {lzq : List (Addr × Obj)} : Has aq0 lzq → Has aq0 (pzq :: qzq :: rzq :: szq :: lzq)
theorem lt_has {azq dzq : Addr} {lzq : List (Addr × Obj)} (hzq : AllLt dzq lzq) (kzq : Has azq lzq) : @LT.lt Nat _ azq dzq := by
  induction kzq with
  | h0 => exact hzq.1
  | h1 => exact hzq.2.1
  | h2 => exact hzq.2.2.1
  | h3 => exact hzq.2.2.2.1
  | h4 _ ih => exact ih hzq.2.2.2.2
inductive Off (uq0 : Nat) : Nat → Nat → Prop
  | z : Off uq0 uq0 0
  | s {xzq nzq kzq : Nat} : Off uq0 xzq nzq → Off uq0 (xzq + kzq) (nzq + kzq)
theorem le_off {uzq xzq nzq dzq : Nat} (hzq : Off uzq xzq nzq) (kzq : nzq ≤ dzq) : xzq ≤ uzq + dzq := by
  have e : xzq = uzq + nzq := by
    clear kzq
    induction hzq with
    | z => rfl
    | s _ ih => rw [ih]; exact Nat.add_assoc _ _ _
  rw [e]; exact Nat.add_le_add_left kzq uzq
inductive Suf (rq0 : List (Addr × Obj)) : List (Addr × Obj) → Prop
  | s0 : Suf rq0 rq0
  | s1 {pzq : Addr × Obj} {lzq : List (Addr × Obj)} : Suf rq0 lzq → Suf rq0 (pzq :: lzq)
theorem allLt_suf {dzq : Addr} {rzq lzq : List (Addr × Obj)} (hzq : AllLt dzq lzq) (szq : Suf rzq lzq) : AllLt dzq rzq := by
  induction szq with
  | s0 => exact hzq
  | s1 _ ih => exact ih hzq.2
theorem allLt_upp {azq bzq : Addr} {lzq : List (Addr × Obj)} (kzq : @LT.lt Nat _ azq bzq) (hzq : AllLt azq lzq) : AllLt bzq lzq := allLt_of fun p hp => Nat.lt_trans (lt_all hzq p hp) kzq
theorem allLt_ofc {d : Addr} {q : Addr × Obj} {l : List (Addr × Obj)} (h : ∀ p ∈ q :: l, p.1 < d) : AllLt d (q :: l) := allLt_of h
theorem and_zq {pzq qzq : Prop} (lzq : pzq) (rzq : qzq) : pzq ∧ qzq := ⟨lzq, rzq⟩
inductive In4 (pq0 : Addr × Obj) : List (Addr × Obj) → Prop
  | h0 {lzq : List (Addr × Obj)} : In4 pq0 (pq0 :: lzq)
  | h1 {qzq : Addr × Obj} {lzq : List (Addr × Obj)} : In4 pq0 (qzq :: pq0 :: lzq)
  | h2 {qzq rzq : Addr × Obj} {lzq : List (Addr × Obj)} : In4 pq0 (qzq :: rzq :: pq0 :: lzq)
  | h3 {qzq rzq szq : Addr × Obj} {lzq : List (Addr × Obj)} : In4 pq0 (qzq :: rzq :: szq :: pq0 :: lzq)
  | h4 {qzq rzq szq tzq : Addr × Obj} {lzq : List (Addr × Obj)} : In4 pq0 lzq → In4 pq0 (qzq :: rzq :: szq :: tzq :: lzq)
theorem in_mem {pzq : Addr × Obj} {lzq : List (Addr × Obj)} (h : In4 pzq lzq) : pzq ∈ lzq := by
  induction h with
  | h0 => exact .head _
  | h1 => exact .tail _ (.head _)
  | h2 => exact .tail _ (.tail _ (.head _))
  | h3 => exact .tail _ (.tail _ (.tail _ (.head _)))
  | h4 _ ih => exact .tail _ (.tail _ (.tail _ (.tail _ ih)))
inductive Sub : List (Addr × Obj) → List (Addr × Obj) → Prop
  | nil {lzq : List (Addr × Obj)} : Sub [] lzq
  | all {lzq : List (Addr × Obj)} : Sub lzq lzq
  | cons {pzq : Addr × Obj} {lzq kzq : List (Addr × Obj)} : In4 pzq kzq → Sub lzq kzq → Sub (pzq :: lzq) kzq
  | skip {pzq : Addr × Obj} {lzq kzq : List (Addr × Obj)} : Sub lzq kzq → Sub lzq (pzq :: kzq)
theorem sub_of {lzq kzq : List (Addr × Obj)} (h : Sub lzq kzq) : ∀ p ∈ lzq, p ∈ kzq := by
  induction h with
  | nil => exact fun _ h => nomatch h
  | all => exact fun _ h => h
  | cons a _ ih => exact fun p hp => (List.mem_cons.mp hp).elim (fun e => e ▸ in_mem a) (ih p)
  | skip _ ih => exact fun p hp => .tail _ (ih p hp)

local macro_rules | `(tactic| k_lt $h:ident) => `(tactic| replace $h:ident := allLt_ofc $h)
local macro_rules | `(tactic| tbn_letter) => `(tactic| with_reducible first | assumption | (apply ne_sy; assumption) | (apply ne_lt; tbn_letter) | (apply ne_gt; tbn_letter) | (apply lt_has; assumption; (repeat constructor); done) | apply lt0 | (apply ltk; tbn_letter) | (apply ltr; assumption; tbn_letter))
local macro_rules | `(tactic| tbn_find) => `(tactic| with_reducible first | assumption | (apply allLt_suf; assumption; (repeat constructor); done) | (apply allLt_upp; (focus tbn_letter); tbn_find))
local macro_rules | `(tactic| k_ne) => `(tactic| (refine neN ?_; (try dsimp only); first | tbn_letter | omega -splitDisjunctions))
local macro_rules | `(tactic| omega) => `(tactic| first | decide | ((with_reducible (apply le_off; repeat constructor)); exact Nat.le_of_ble_eq_true rfl) | tbn_letter | (with_reducible apply and_zq <;> omega) | ((repeat (with_reducible (rename @LT.lt Nat _ _ _ => hzq; clear hzq))); omega -splitDisjunctions))
abbrev Spec (D : Nat) (w : World) (f : Addr) (news : List (Addr × Obj)) (vs : List Value) (Ret : (Heap → (List (Addr × Obj)) → Prop) → (Value → Heap → Nat → Prop) → Prop) : Prop :=
  ∀ (p : Program) (loose : List Str) (mean : ExcName → Option Value) (mg mb : Str → Option Value) (dp un : Nat) (gd : Option (List Code)) (cn : Str) (cs : Scope) (a : Addr) (ccd : Value) (cl : List (Str × Addr)) (outer : List Env) (A₀ : Around) (base h₀ : Heap) (L : Addr) (m : Str → Option Value) (s : Shared) (Q E : Value → Shared → Prop),
    Below A₀ base outer h₀ → Fr h₀ L s.heap m → (Mine.heap w.params).In h₀ → News h₀ L s.heap news → Top p loose mean mg mb h₀ → cs.kind = .function →
    dp + D < recursionLimit → un + 64 * D < cLine →
    Ret (fun h' ns => Fr h₀ L h' m ∧ News h₀ L h' ns) (fun v h' tk' => Q v { s with heap := h', toks := tk' }) →
    wpAny (model PySem.Challenge.rw_rh0164_01.row.prog w) (ktrTop dp un gd cn cs L a ccd cl outer) (call (.ref f) vs) Q E s
abbrev SpecT (D : Nat) (w : World) (news : List (Addr × Obj)) (tree : Sem Value) (Ret : (Heap → (List (Addr × Obj)) → Prop) → (Value → Heap → Nat → Prop) → Prop) : Prop :=
  ∀ (p : Program) (loose : List Str) (mean : ExcName → Option Value) (mg mb : Str → Option Value) (dp un : Nat) (gd : Option (List Code)) (cn : Str) (cs : Scope) (a : Addr) (ccd : Value) (cl : List (Str × Addr)) (outer : List Env) (A₀ : Around) (base h₀ : Heap) (L : Addr) (m : Str → Option Value) (s : Shared) (Q E : Value → Shared → Prop),
    Below A₀ base outer h₀ → Fr h₀ L s.heap m → (Mine.heap w.params).In h₀ → News h₀ L s.heap news → Top p loose mean mg mb h₀ → cs.kind = .function →
    dp + D < recursionLimit → un + 64 * D < cLine →
    Ret (fun h' ns => Fr h₀ L h' m ∧ News h₀ L h' ns) (fun v h' tk' => Q v { s with heap := h', toks := tk' }) →
    wpAny (model PySem.Challenge.rw_rh0164_01.row.prog w) (ktrTop dp un gd cn cs L a ccd cl outer) tree Q E s
abbrev en (w : World) (x : Str) (t : Tok) (v : Value) : DictEntry := ⟨PyData.keyHash w.params x, .str x t, v⟩
structure T10 where
  (f0 f1 f2 f3 f4 f5 f6 f7 f8 f9 : Tok)
/-- a stepper's fields -/
abbrev stepEs (w : World) (tk : T10) (c k sk lm wk : Addr) (room top res : Value) (pc : Int) (tp : Tok) : List DictEntry :=
  [en w "code" tk.f0 (.ref c), en w "constants" tk.f1 (.ref k), en w "stack" tk.f2 (.ref sk), en w "room" tk.f3 room, en w "limits" tk.f4 (.ref lm), en w "works" tk.f5 (.ref wk), en w "pc" tk.f6 (.int pc tp), en w "top" tk.f7 top, en w "result" tk.f8 res]
/-- a limits' fields -/
abbrev limEs (w : World) (tk : T10) (fl : Value) : List DictEntry :=
  [en w "width" tk.f0 (.int 64 268), en w "registers" tk.f1 (.int 250 269), en w "upvalues" tk.f2 (.int 60 270), en w "local_names" tk.f3 (.int 200 271), en w "ccalls" tk.f4 (.int 40 272), en w "frames" tk.f5 (.int 200 273), en w "stack" tk.f6 (.int 2000 274), en w "flush" tk.f7 fl, en w "steps" tk.f8 (.int 1000000000 276), en w "text" tk.f9 (.int 1000000 277)]
/-- a works' fields -/
abbrev worksEs (w : World) (tk : T10) (v0 v1 v2 v3 v4 v5 : Value) : List DictEntry :=
  [en w "new_table" tk.f0 v0, en w "index" tk.f1 v1, en w "put" tk.f2 v2, en w "length" tk.f3 v3, en w "compared" tk.f4 v4, en w "called" tk.f5 v5]
abbrev stackAt (v0 v1 v2 v3 v4 : Value) (n : Nat) : Obj := PySem.W.listOf #[v0, v1, v2, v3, v4, .none, .none, .none, .none, .none, .none, .none, .none, .none, .none, .none, .none] n
theorem allLt_all {d : Addr} {l : List (Addr × Obj)} (h : AllLt d l) : ∀ p ∈ l, p.1 < d := by
  induction l with
  | nil => intro p hp; cases hp
  | cons q r ih =>
    intro p hp
    rcases List.mem_cons.mp hp with e | hp
    · rw [e]; exact h.1
    · exact ih h.2 p hp


theorem in_bytes {prog : Program} {w : World} {A : Around} {E : Value → Shared → Prop} {s : Shared} {b : Array UInt8} {t u : Tok} {i : Int} {r : Bool} {Q : Value → Shared → Prop}
    (g : Gives (PySem.Builtin.«bytes.__contains__» ⟨[.bytes b t, .int i u], []⟩) (Made.val (Value.bool r))) (h : Q (Value.bool r) s) : wpAny (model prog w) A (compareOp .In (.int i u) (.bytes b t)) Q E s := by
  show wpAny _ _ (contains (.bytes b t) (.int i u) >>= fun r => pure (Value.bool r)) _ _ _
  refine wpAny_bind (wpAny_contains_slot (typeIs_bytes s b t) FB.slot_bytes_contains (call_gives FB.slot_bytes_contains (typeIs_bytes s b t) FB.entry_bytes_contains (FB.args_bytes_contains_2 _ _) g ?_))
  exact wpAny_pure (wpAny_pure h)





abbrev ropeAt (sl : Addr) (t : Int) (tk : Tok) (n : Nat) : Obj := PySem.W.listOf #[.ref sl, .int t tk] n
local macro_rules | `(tactic| k_all) => `(tactic| assumption)
theorem next_spec (w : World) (r sl : Nat) (t : Int) (tk : Tok) (n n2 : Nat) (ws : List Value) (ns : List Int) (k : Int) (kt : Tok) (rest : List (Addr × Obj))
    (hI : IntsAre ws ns) (hl : ns.length ≤ 24) (ht0 : 0 ≤ t) (ht1 : t ≤ 1000) (hk : 0 < k) (hk2 : k ≤ 64) (hlt : sl < r) (hr : ∀ p ∈ rest, p.1 ≠ r) :
    Spec 2 w 519 ((r, ropeAt sl t tk n) :: (sl, PySem.W.listOf ws.toArray n2) :: rest) [.ref r, .int k kt]
      (fun ok Q => ∀ v tv t' h' tk', 0 ≤ v → v < k → ok h' ((r, ropeAt sl (t + 1) t' n) :: (sl, PySem.W.listOf ws.toArray n2) :: rest) → Q (.int v tv) h' tk') := by
  unfold Spec
  w_top off
  k_fill
  intro p loose mean mg mb dp un gd cn cs a ccd cl outer A₀ base h₀ L m s Q E B F X N T hkd hdp hun hret
  dsimp only at hret
  refine wpAny_call ?_
  k_dflt cell_enter
  repeat' (first
      | (k_unfold; (try dsimp only))
      | (k_end; wrow_close)
      | ((with_reducible show wpAny _ _ (subscriptTail _ _ (Value.ref _) (Value.int _ _)) _ _ _); first | (with_reducible (k_here; kim_at)) | (k_here; kim_at))
      | walk1
      | dsimp only
      | (leave1; walk_say "STEP leave1"; try dsimp only))
  all_goals exact hret _ _ _ _ _ (Int.fmod_nonneg_of_pos _ hk) (Int.fmod_lt_of_pos _ hk) ⟨by assumption, by assumption⟩


/-- the ledger less the entries at given addresses -/
inductive Minus (as : List Addr) : List (Addr × Obj) → List (Addr × Obj) → Prop where
  | nil : Minus as [] []
  | keep {p news rest} : (∀ a ∈ as, p.1 ≠ a) → Minus as news rest → Minus as (p :: news) (p :: rest)
  | skip {p news rest} : Minus as news rest → Minus as (p :: news) rest
theorem Minus.sub {as : List Addr} {news rest : List (Addr × Obj)} (h : Minus as news rest) : ∀ p ∈ rest, p ∈ news := by
  induction h with
  | nil => exact fun _ h => h
  | keep _ _ ih => exact fun p hp => (List.mem_cons.mp hp).elim (fun e => e ▸ .head _) fun q => .tail _ (ih p q)
  | skip _ ih => exact fun p hp => .tail _ (ih p hp)
theorem Minus.off {as : List Addr} {news rest : List (Addr × Obj)} (h : Minus as news rest) : ∀ p ∈ rest, ∀ a ∈ as, p.1 ≠ a := by
  induction h with
  | nil => exact fun _ h => (nomatch h)
  | keep k _ ih => exact fun p hp => (List.mem_cons.mp hp).elim (fun e => e ▸ k) fun q => ih p q
  | skip _ ih => exact fun p hp => ih p hp
theorem Minus.kp {azq : List Addr} {pzq : Addr × Obj} {nzq rzq : List (Addr × Obj)} (hzq : ∀ a ∈ azq, pzq.1 ≠ a) (kzq : Minus azq nzq rzq) : Minus azq (pzq :: nzq) (pzq :: rzq) := .keep hzq kzq
theorem Minus.sk {azq : List Addr} {pzq : Addr × Obj} {nzq rzq : List (Addr × Obj)} (kzq : Minus azq nzq rzq) : Minus azq (pzq :: nzq) rzq := .skip kzq
theorem Minus.tl {as : List Addr} {l : List (Addr × Obj)} (h : ∀ a ∈ as, ∀ p ∈ l, p.1 ≠ a) : Minus as l l := by
  induction l with
  | nil => exact .nil
  | cons q r ih => exact .keep (fun a ha => h a ha q (.head _)) (ih fun a ha p hp => h a ha p (.tail _ hp))
theorem News.cons2 {h₀ h : Heap} {L : Addr} {news : List (Addr × Obj)} {p : Addr × Obj} {l : List (Addr × Obj)} (N : News h₀ L h news) (hp : p ∈ news) (hl : News h₀ L h l) : News h₀ L h (p :: l) := fun q hq => (List.mem_cons.mp hq).elim (fun e => e ▸ N p hp) fun z => hl q z
theorem next_use {w : World} {r sl : Nat} {t : Int} {tk : Tok} {n n2 : Nat} {ws : List Value} {ns : List Int} {k : Int} {kt : Tok} {rest news : List (Addr × Obj)} {p : Program} {loose : List Str} {mean : ExcName → Option Value} {mg mb : Str → Option Value} {dp un : Nat} {gd : Option (List Code)} {cn : Str} {cs : Scope} {a : Addr} {ccd : Value} {cl : List (Str × Addr)} {outer : List Env} {A₀ : Around} {base h₀ : Heap} {L : Addr} {m : Str → Option Value} {s : Shared} {Q E : Value → Shared → Prop}
    (B : Below A₀ base outer h₀) (F : Fr h₀ L s.heap m) (X : (Mine.heap w.params).In h₀) (N : News h₀ L s.heap news) (T : Top p loose mean mg mb h₀) (hkd : cs.kind = .function) (hdp : dp + 2 < recursionLimit) (hun : un + 64 * 2 < cLine)
    (m1 : (r, ropeAt sl t tk n) ∈ news) (m2 : (sl, PySem.W.listOf ws.toArray n2) ∈ news) (mi : Minus [r] news rest)
    (hI : IntsAre ws ns) (hl : ns.length ≤ 24) (ht0 : 0 ≤ t) (ht1 : t ≤ 1000) (hk : 0 < k) (hk2 : k ≤ 64) (hlt : @LT.lt Nat _ sl r)
    (hret : ∀ v tv t' h' tk', 0 ≤ v → v < k → Fr h₀ L h' m → News h₀ L h' ((r, ropeAt sl (t + 1) t' n) :: rest) → Q (.int v tv) { s with heap := h', toks := tk' }) :
    wpAny (model PySem.Challenge.rw_rh0164_01.row.prog w) (ktrTop dp un gd cn cs L a ccd cl outer) (call (.ref 519) [.ref r, .int k kt]) Q E s := by
  refine next_spec w r sl t tk n n2 ws ns k kt rest hI hl ht0 ht1 hk hk2 hlt (fun p hp => mi.off p hp r (.head _)) p loose mean mg mb dp un gd cn cs a ccd cl outer A₀ base h₀ L m s Q E B F X ?_ T hkd hdp hun ?_
  · exact News.cons2 N m1 (News.cons2 N m2 (fun p hp => N p (mi.sub p hp)))
  · intro v tv t' h' tk' h0 h1 ⟨F', N'⟩
    exact hret v tv t' h' tk' h0 h1 F' (fun q hq => N' q ((List.mem_cons.mp hq).elim (fun e => e ▸ .head _) fun z => .tail _ (.tail _ z)))


local macro_rules | `(tactic| k_room) => `(tactic| first | decide | assumption | ((try simp only [depth_under_make, depth_under_kw, depth_in1, depth_deeper, depth_caller, units_in1, units_deeper, Around.mark_units, units_caller]); (with_unfolding_all refine Nat.lt_of_le_of_lt (m := _ + _) ?_ (by assumption)); omega))
theorem text_spec (w : World) (lm dl : Nat) (tkl : T10) (fl : Value) (t3 : Tok) (rest : List (Addr × Obj)) :
    Spec 7 w 216 ((lm, instObj 95 dl) :: (dl, dictOf (limEs w tkl fl) 10) :: rest) [.bytes #[116] t3, .ref lm]
      (fun ok Q => ∀ h' tk', ok h' ((lm, instObj 95 dl) :: (dl, dictOf (limEs w tkl fl) 10) :: rest) → Q .none h' tk') := by
  unfold Spec
  w_top off
  k_fill
  intro p loose mean mg mb dp un gd cn cs a ccd cl outer A₀ base h₀ L m s Q E B F X N T hkd hdp hun hret
  dsimp only at hret
  refine wpAny_call ?_
  k_dflt cell_enter
  repeat' (first
      | (k_unfold; (try dsimp only))
      | (k_end; wrow_close)
      | ((with_reducible show wpAny _ _ (compareOp CmpOp.In (Value.int _ _) (Value.bytes _ _)) _ _ _); (refine' in_bytes (r := false) ?g ?_; (case g => exact Gives.of_eq (by kernel_rfl))))
      | walk1
      | dsimp only
      | (leave1; walk_say "STEP leave1"; try dsimp only))
  all_goals exact hret _ _ ⟨by assumption, by (first | assumption | exact cb_drop (by assumption) (sub_of (by with_reducible (repeat' constructor))))⟩


theorem op_spec (w : World) (i r : Int) (t : Tok) (h0 : 0 ≤ i) (h1 : i < 2 ^ 40) (hr : Builtin.bitAnd i 63 = r) (news : List (Addr × Obj)) :
    Spec 2 w 28 news [.int i t] (fun ok Q => ∀ h' tk' t', ok h' news → Q (.int r t') h' tk') := by
  unfold Spec
  w_top off
  k_fill
  intro p loose mean mg mb dp un gd cn cs a ccd cl outer A₀ base h₀ L m s Q E B F X N T hkd hdp hun hret
  dsimp only at hret
  refine wpAny_call ?_
  k_dflt cell_enter
  repeat' (first
      | (k_unfold; (try dsimp only))
      | (k_end; wrow_close)
      | ((with_reducible show wpAny _ _ (subscriptTail _ _ (Value.ref _) (Value.int _ _)) _ _ _); first | (with_reducible (k_here; kim_at)) | (k_here; kim_at))
      | walk1
      | dsimp only
      | (leave1; walk_say "STEP leave1"; try dsimp only))
  all_goals (rw [hr]; exact hret _ _ _ ⟨by assumption, by assumption⟩)
section
variable {w : World} {news rest : List (Addr × Obj)} {p : Program} {loose : List Str} {mean : ExcName → Option Value} {mg mb : Str → Option Value} {dp un : Nat} {gd : Option (List Code)} {cn : Str} {cs : Scope} {a : Addr} {ccd : Value} {cl : List (Str × Addr)} {outer : List Env} {A₀ : Around} {base h₀ : Heap} {L : Addr} {m : Str → Option Value} {s : Shared} {Q E : Value → Shared → Prop}
theorem op_use (r : Int) {i : Int} {t : Tok} (B : Below A₀ base outer h₀) (F : Fr h₀ L s.heap m) (X : (Mine.heap w.params).In h₀) (N : News h₀ L s.heap news) (T : Top p loose mean mg mb h₀) (hkd : cs.kind = .function) (hdp : dp + 2 < recursionLimit) (hun : un + 64 * 2 < cLine) (h0 : 0 ≤ i) (h1 : i < 2 ^ 40) (hr : Builtin.bitAnd i 63 = r)
    (hret : ∀ h' tk' t', Fr h₀ L h' m → News h₀ L h' news → Q (.int r t') { s with heap := h', toks := tk' }) :
    wpAny (model PySem.Challenge.rw_rh0164_01.row.prog w) (ktrTop dp un gd cn cs L a ccd cl outer) (call (.ref 28) [.int i t]) Q E s := by
  refine op_spec w i r t h0 h1 hr news p loose mean mg mb dp un gd cn cs a ccd cl outer A₀ base h₀ L m s Q E B F X N T hkd hdp hun ?_
  intro h' tk' t' ⟨F', N'⟩
  exact hret h' tk' t' F' N'
end
theorem a_spec (w : World) (i r : Int) (t : Tok) (h0 : 0 ≤ i) (h1 : i < 2 ^ 40) (hr : Builtin.bitAnd (i.fdiv (2 ^ Int.toNat 6)) 255 = r) (news : List (Addr × Obj)) :
    Spec 2 w 35 news [.int i t] (fun ok Q => ∀ h' tk' t', ok h' news → Q (.int r t') h' tk') := by
  unfold Spec
  w_top off
  k_fill
  intro p loose mean mg mb dp un gd cn cs a ccd cl outer A₀ base h₀ L m s Q E B F X N T hkd hdp hun hret
  dsimp only at hret
  refine wpAny_call ?_
  k_dflt cell_enter
  repeat' (first
      | (k_unfold; (try dsimp only))
      | (k_end; wrow_close)
      | ((with_reducible show wpAny _ _ (subscriptTail _ _ (Value.ref _) (Value.int _ _)) _ _ _); first | (with_reducible (k_here; kim_at)) | (k_here; kim_at))
      | walk1
      | dsimp only
      | (leave1; walk_say "STEP leave1"; try dsimp only))
  all_goals (rw [hr]; exact hret _ _ _ ⟨by assumption, by assumption⟩)
section
variable {w : World} {news rest : List (Addr × Obj)} {p : Program} {loose : List Str} {mean : ExcName → Option Value} {mg mb : Str → Option Value} {dp un : Nat} {gd : Option (List Code)} {cn : Str} {cs : Scope} {a : Addr} {ccd : Value} {cl : List (Str × Addr)} {outer : List Env} {A₀ : Around} {base h₀ : Heap} {L : Addr} {m : Str → Option Value} {s : Shared} {Q E : Value → Shared → Prop}
theorem a_use (r : Int) {i : Int} {t : Tok} (B : Below A₀ base outer h₀) (F : Fr h₀ L s.heap m) (X : (Mine.heap w.params).In h₀) (N : News h₀ L s.heap news) (T : Top p loose mean mg mb h₀) (hkd : cs.kind = .function) (hdp : dp + 2 < recursionLimit) (hun : un + 64 * 2 < cLine) (h0 : 0 ≤ i) (h1 : i < 2 ^ 40) (hr : Builtin.bitAnd (i.fdiv (2 ^ Int.toNat 6)) 255 = r)
    (hret : ∀ h' tk' t', Fr h₀ L h' m → News h₀ L h' news → Q (.int r t') { s with heap := h', toks := tk' }) :
    wpAny (model PySem.Challenge.rw_rh0164_01.row.prog w) (ktrTop dp un gd cn cs L a ccd cl outer) (call (.ref 35) [.int i t]) Q E s := by
  refine a_spec w i r t h0 h1 hr news p loose mean mg mb dp un gd cn cs a ccd cl outer A₀ base h₀ L m s Q E B F X N T hkd hdp hun ?_
  intro h' tk' t' ⟨F', N'⟩
  exact hret h' tk' t' F' N'
end
theorem b_spec (w : World) (i r : Int) (t : Tok) (h0 : 0 ≤ i) (h1 : i < 2 ^ 40) (hr : i.fdiv (2 ^ Int.toNat 23) = r) (news : List (Addr × Obj)) :
    Spec 2 w 42 news [.int i t] (fun ok Q => ∀ h' tk' t', ok h' news → Q (.int r t') h' tk') := by
  unfold Spec
  w_top off
  k_fill
  intro p loose mean mg mb dp un gd cn cs a ccd cl outer A₀ base h₀ L m s Q E B F X N T hkd hdp hun hret
  dsimp only at hret
  refine wpAny_call ?_
  k_dflt cell_enter
  repeat' (first
      | (k_unfold; (try dsimp only))
      | (k_end; wrow_close)
      | ((with_reducible show wpAny _ _ (subscriptTail _ _ (Value.ref _) (Value.int _ _)) _ _ _); first | (with_reducible (k_here; kim_at)) | (k_here; kim_at))
      | walk1
      | dsimp only
      | (leave1; walk_say "STEP leave1"; try dsimp only))
  all_goals (rw [hr]; exact hret _ _ _ ⟨by assumption, by assumption⟩)
section
variable {w : World} {news rest : List (Addr × Obj)} {p : Program} {loose : List Str} {mean : ExcName → Option Value} {mg mb : Str → Option Value} {dp un : Nat} {gd : Option (List Code)} {cn : Str} {cs : Scope} {a : Addr} {ccd : Value} {cl : List (Str × Addr)} {outer : List Env} {A₀ : Around} {base h₀ : Heap} {L : Addr} {m : Str → Option Value} {s : Shared} {Q E : Value → Shared → Prop}
theorem b_use (r : Int) {i : Int} {t : Tok} (B : Below A₀ base outer h₀) (F : Fr h₀ L s.heap m) (X : (Mine.heap w.params).In h₀) (N : News h₀ L s.heap news) (T : Top p loose mean mg mb h₀) (hkd : cs.kind = .function) (hdp : dp + 2 < recursionLimit) (hun : un + 64 * 2 < cLine) (h0 : 0 ≤ i) (h1 : i < 2 ^ 40) (hr : i.fdiv (2 ^ Int.toNat 23) = r)
    (hret : ∀ h' tk' t', Fr h₀ L h' m → News h₀ L h' news → Q (.int r t') { s with heap := h', toks := tk' }) :
    wpAny (model PySem.Challenge.rw_rh0164_01.row.prog w) (ktrTop dp un gd cn cs L a ccd cl outer) (call (.ref 42) [.int i t]) Q E s := by
  refine b_spec w i r t h0 h1 hr news p loose mean mg mb dp un gd cn cs a ccd cl outer A₀ base h₀ L m s Q E B F X N T hkd hdp hun ?_
  intro h' tk' t' ⟨F', N'⟩
  exact hret h' tk' t' F' N'
end
theorem c_spec (w : World) (i r : Int) (t : Tok) (h0 : 0 ≤ i) (h1 : i < 2 ^ 40) (hr : Builtin.bitAnd (i.fdiv (2 ^ Int.toNat 14)) 511 = r) (news : List (Addr × Obj)) :
    Spec 2 w 49 news [.int i t] (fun ok Q => ∀ h' tk' t', ok h' news → Q (.int r t') h' tk') := by
  unfold Spec
  w_top off
  k_fill
  intro p loose mean mg mb dp un gd cn cs a ccd cl outer A₀ base h₀ L m s Q E B F X N T hkd hdp hun hret
  dsimp only at hret
  refine wpAny_call ?_
  k_dflt cell_enter
  repeat' (first
      | (k_unfold; (try dsimp only))
      | (k_end; wrow_close)
      | ((with_reducible show wpAny _ _ (subscriptTail _ _ (Value.ref _) (Value.int _ _)) _ _ _); first | (with_reducible (k_here; kim_at)) | (k_here; kim_at))
      | walk1
      | dsimp only
      | (leave1; walk_say "STEP leave1"; try dsimp only))
  all_goals (rw [hr]; exact hret _ _ _ ⟨by assumption, by assumption⟩)
section
variable {w : World} {news rest : List (Addr × Obj)} {p : Program} {loose : List Str} {mean : ExcName → Option Value} {mg mb : Str → Option Value} {dp un : Nat} {gd : Option (List Code)} {cn : Str} {cs : Scope} {a : Addr} {ccd : Value} {cl : List (Str × Addr)} {outer : List Env} {A₀ : Around} {base h₀ : Heap} {L : Addr} {m : Str → Option Value} {s : Shared} {Q E : Value → Shared → Prop}
theorem c_use (r : Int) {i : Int} {t : Tok} (B : Below A₀ base outer h₀) (F : Fr h₀ L s.heap m) (X : (Mine.heap w.params).In h₀) (N : News h₀ L s.heap news) (T : Top p loose mean mg mb h₀) (hkd : cs.kind = .function) (hdp : dp + 2 < recursionLimit) (hun : un + 64 * 2 < cLine) (h0 : 0 ≤ i) (h1 : i < 2 ^ 40) (hr : Builtin.bitAnd (i.fdiv (2 ^ Int.toNat 14)) 511 = r)
    (hret : ∀ h' tk' t', Fr h₀ L h' m → News h₀ L h' news → Q (.int r t') { s with heap := h', toks := tk' }) :
    wpAny (model PySem.Challenge.rw_rh0164_01.row.prog w) (ktrTop dp un gd cn cs L a ccd cl outer) (call (.ref 49) [.int i t]) Q E s := by
  refine c_spec w i r t h0 h1 hr news p loose mean mg mb dp un gd cn cs a ccd cl outer A₀ base h₀ L m s Q E B F X N T hkd hdp hun ?_
  intro h' tk' t' ⟨F', N'⟩
  exact hret h' tk' t' F' N'
end


section
variable {w : World} {news rest : List (Addr × Obj)} {p : Program} {loose : List Str} {mean : ExcName → Option Value} {mg mb : Str → Option Value} {dp un : Nat} {gd : Option (List Code)} {cn : Str} {cs : Scope} {a : Addr} {ccd : Value} {cl : List (Str × Addr)} {outer : List Env} {A₀ : Around} {base h₀ : Heap} {L : Addr} {m : Str → Option Value} {s : Shared} {Q E : Value → Shared → Prop}
theorem text_use {lm dl : Nat} {tkl : T10} {fl : Value} {t3 : Tok} (B : Below A₀ base outer h₀) (F : Fr h₀ L s.heap m) (X : (Mine.heap w.params).In h₀) (N : News h₀ L s.heap news) (T : Top p loose mean mg mb h₀) (hkd : cs.kind = .function) (hdp : dp + 7 < recursionLimit) (hun : un + 64 * 7 < cLine)
    (m1 : (lm, instObj 95 dl) ∈ news) (m2 : (dl, dictOf (limEs w tkl fl) 10) ∈ news)
    (hret : ∀ h' tk', Fr h₀ L h' m → News h₀ L h' news → Q .none { s with heap := h', toks := tk' }) :
    wpAny (model PySem.Challenge.rw_rh0164_01.row.prog w) (ktrTop dp un gd cn cs L a ccd cl outer) (call (.ref 216) [.bytes #[116] t3, .ref lm]) Q E s := by
  refine text_spec w lm dl tkl fl t3 news p loose mean mg mb dp un gd cn cs a ccd cl outer A₀ base h₀ L m s Q E B F X (News.cons2 N m1 (News.cons2 N m2 N)) T hkd hdp hun ?_
  intro h' tk' ⟨F', N'⟩
  exact hret h' tk' F' (fun q hq => N' q (.tail _ (.tail _ hq)))
end


theorem move_spec (w : World) (x dx c k sk lm wk : Nat) (tk : T10) (room top res v0 v1 v2 v3 v4 : Value) (pc : Int) (tp t1 t2 : Tok) (n2 : Nat) (rest : List (Addr × Obj))
    (hp0 : 0 ≤ pc) (hp1 : pc ≤ 100) (hx : dx < x) (hs : x < sk) (hr1 : ∀ p ∈ rest, p.1 ≠ dx) (hr2 : ∀ p ∈ rest, p.1 ≠ sk) :
    Spec 12 w 449 ((x, instObj 508 dx) :: (dx, dictOf (stepEs w tk c k sk lm wk room top res pc tp) 9) :: (sk, stackAt v0 v1 v2 v3 v4 n2) :: rest) [.ref x, .int 0 t1, .int 8388864 t2]
      (fun ok Q => ∀ h' tk' tp', ok h' ((x, instObj 508 dx) :: (dx, dictOf (stepEs w tk c k sk lm wk room top res pc tp') 9) :: (sk, stackAt v0 v1 v2 v3 v1 n2) :: rest) → Q (.bool true) h' tk') := by
  unfold Spec
  w_top off
  k_fill
  intro p loose mean mg mb dp un gd cn cs a ccd cl outer A₀ base h₀ L m s Q E B F X N T hkd hdp hun hret
  dsimp only at hret
  refine wpAny_call ?_
  k_dflt cell_enter
  repeat' (first
      | (k_unfold; (try dsimp only))
      | (k_end; wrow_close)
      | ((with_reducible show wpAny _ _ (subscriptTail _ _ (Value.ref _) (Value.int _ _)) _ _ _); first | (with_reducible (k_here; kim_at)) | (k_here; kim_at))
      | walk1
      | dsimp only
      | (leave1; walk_say "STEP leave1"; try dsimp only))
  all_goals (simp only [Int.add_zero] at *; exact hret _ _ _ ⟨by assumption, by (first | assumption | exact cb_drop (by assumption) (sub_of (by with_reducible (repeat' constructor))))⟩)


theorem ret_spec (w : World) (x dx c k sk lm wk : Nat) (tk : T10) (room top res v0 v1 v2 v3 v4 : Value) (pc : Int) (tp t1 t2 : Tok) (n2 : Nat) (rest : List (Addr × Obj))
    (hx : dx < x) (hs : x < sk) (hr1 : ∀ p ∈ rest, p.1 ≠ dx) (hr2 : ∀ p ∈ rest, p.1 ≠ sk) :
    Spec 12 w 449 ((x, instObj 508 dx) :: (dx, dictOf (stepEs w tk c k sk lm wk room top res pc tp) 9) :: (sk, stackAt v0 v1 v2 v3 v4 n2) :: rest) [.ref x, .int 30 t1, .int 16777246 t2]
      (fun ok Q => ∀ h' tk' q, ok h' ((q, PySem.W.listOf #[v0] 0) :: (x, instObj 508 dx) :: (dx, dictOf (stepEs w tk c k sk lm wk room top (.ref q) pc tp) 9) :: (sk, stackAt v0 v1 v2 v3 v4 n2) :: rest) → Q (.bool true) h' tk') := by
  unfold Spec
  w_top off
  k_fill
  intro p loose mean mg mb dp un gd cn cs a ccd cl outer A₀ base h₀ L m s Q E B F X N T hkd hdp hun hret
  dsimp only at hret
  refine wpAny_call ?_
  k_dflt cell_enter
  repeat' (first
      | (k_unfold; (try dsimp only))
      | (k_end; wrow_close)
      | ((with_reducible show wpAny _ _ (subscriptTail _ _ (Value.ref _) (Value.int _ _)) _ _ _); first | (with_reducible (k_here; kim_at)) | (k_here; kim_at))
      | walk1
      | dsimp only
      | (leave1; walk_say "STEP leave1"; try dsimp only))
  all_goals exact hret _ _ _ ⟨by assumption, by (first | assumption | exact cb_drop (by assumption) (sub_of (by with_reducible (repeat' constructor))))⟩


theorem works_spec (w : World) (v0 v1 v2 v3 v4 v5 : Value) (news : List (Addr × Obj)) :
    SpecT 4 w news (call (.ref 417) [v0, v1, v2, v3, v4, v5])
      (fun ok Q => ∀ h' tk' x dx (tk : T10), (∀ p ∈ news, p.1 < dx) → dx < x → ok h' ((x, instObj 417 dx) :: (dx, dictOf (worksEs w tk v0 v1 v2 v3 v4 v5) 6) :: news) → Q (.ref x) h' tk') := by
  unfold SpecT
  w_top off
  k_fill
  intro p loose mean mg mb dp un gd cn cs a ccd cl outer A₀ base h₀ L m s Q E B F X N T hkd hdp hun hret
  dsimp only at hret
  obtain ⟨ck0, ck1, ck2, ck3, ck4⟩ := cs
  dsimp only at hkd
  subst hkd
  repeat' (first
      | (k_unfold; (try dsimp only))
      | (k_end; wrow_close)
      | ((with_reducible show wpAny _ _ (subscriptTail _ _ (Value.ref _) (Value.int _ _)) _ _ _); first | (with_reducible (k_here; kim_at)) | (k_here; kim_at))
      | walk1
      | dsimp only
      | (leave1; walk_say "STEP leave1"; try dsimp only))
  all_goals exact hret _ _ _ _ ⟨_, _, _, _, _, _, 0, 0, 0, 0⟩ (by assumption) (by assumption) ⟨by assumption, by assumption⟩


theorem stepper_spec (w : World) (c k rg lm wk : Nat) (v0 v1 v2 v3 v4 : Value) (n2 : Nat) (rest : List (Addr × Obj)) :
    SpecT 4 w ((rg, PySem.W.listOf #[v0, v1, v2, v3, v4] n2) :: rest) (call (.ref 508) [.ref c, .ref k, .ref rg, .ref lm, .ref wk])
      (fun ok Q => ∀ h' tk' x dx sk (tk : T10) (tr tt tp : Tok), rg < dx → (∀ p ∈ rest, p.1 < dx) → dx < x → x < sk → ok h' ((sk, stackAt v0 v1 v2 v3 v4 0) :: (x, instObj 508 dx) :: (dx, dictOf (stepEs w tk c k sk lm wk (.int 5 tr) (.int 5 tt) .none 0 tp) 9) :: (rg, PySem.W.listOf #[v0, v1, v2, v3, v4] n2) :: rest) → Q (.ref x) h' tk') := by
  unfold SpecT
  w_top off
  k_fill
  intro p loose mean mg mb dp un gd cn cs a ccd cl outer A₀ base h₀ L m s Q E B F X N T hkd hdp hun hret
  dsimp only at hret
  obtain ⟨ck0, ck1, ck2, ck3, ck4⟩ := cs
  dsimp only at hkd
  subst hkd
  repeat' (first
      | (k_unfold; (try dsimp only))
      | (k_end; wrow_close)
      | ((with_reducible show wpAny _ _ (binaryOp Operator.Mult (Value.ref _) (Value.int _ _)) _ _ _); first | (with_reducible (k_here; k_dflt (refine' KMa.mul ?F ?N ?l ?lo ?hi ?z ?e ?_; (case F => k_asm); (case N => k_asm); (case l => is_list); (case lo => decide); (case hi => decide); (case z => (simp only [List.length_cons, List.length_nil]; decide)); (case e => (simp only [Int.reduceToNat, List.replicate_succ, List.replicate_zero, List.flatten_cons, List.flatten_nil, List.cons_append, List.nil_append, List.append_nil]; first | done | exact rfl)); k_whole); intro D' h' F' N' l1; (try k_lt l1); (try k_sweep))) | (k_here; k_dflt (refine' KMa.mul ?F ?N ?l ?lo ?hi ?z ?e ?_; (case F => k_asm); (case N => k_asm); (case l => is_list); (case lo => decide); (case hi => decide); (case z => (simp only [List.length_cons, List.length_nil]; decide)); (case e => (simp only [Int.reduceToNat, List.replicate_succ, List.replicate_zero, List.flatten_cons, List.flatten_nil, List.cons_append, List.nil_append, List.append_nil]; first | done | exact rfl)); k_whole); intro D' h' F' N' l1; (try k_lt l1); (try k_sweep)))
      | ((with_reducible show wpAny _ _ (subscriptTail _ _ (Value.ref _) (Value.int _ _)) _ _ _); first | (with_reducible (k_here; kim_at)) | (k_here; kim_at))
      | walk1
      | dsimp only
      | (leave1; walk_say "STEP leave1"; try dsimp only)
      | fail "no step")
  all_goals (refine' hret _ _ _ ?dx ?sk ⟨?f0, ?f1, ?f2, ?f3, ?f4, ?f5, ?f6, ?f7, ?f8, 0⟩ ?tr ?tt ?tp ?h1 ?h2 ?h3 ?h4 ⟨?f, ?n⟩; (case f => assumption); (case n => ((refine' cb_drop ?nn ?ss); (case nn => assumption); (case ss => ((repeat (refine List.forall_mem_cons.mpr ⟨?_, ?_⟩; k_mem)); exact sub_of (by repeat' constructor))))); (case h1 => omega); (case h2 => exact allLt_all (by tbn_find)); (case h3 => omega); (case h4 => omega))


theorem sum_spec (w : World) (x dx c k sk lm dl wk : Nat) (tk tkl : T10) (fl room top res v2 v3 v4 : Value) (pc : Int) (tp t1 t2 t3 t4 : Tok) (n2 : Nat) (rest : List (Addr × Obj))
    (hx : dx < x) (hs : x < sk) (hr1 : ∀ p ∈ rest, p.1 ≠ dx) (hr2 : ∀ p ∈ rest, p.1 ≠ sk) (hl1 : dl < lm) (hl2 : lm ≠ sk) (hl3 : dl ≠ sk) :
    Spec 12 w 449 ((x, instObj 508 dx) :: (dx, dictOf (stepEs w tk c k sk lm wk room top res pc tp) 9) :: (sk, stackAt (.bytes #[116] t3) (.int 31 t4) v2 v3 v4 n2) :: (lm, instObj 95 dl) :: (dl, dictOf (limEs w tkl fl) 10) :: rest) [.ref x, .int 12 t1, .int 16652 t2]
      (fun ok Q => ∀ h' tk', ok h' ((x, instObj 508 dx) :: (dx, dictOf (stepEs w tk c k sk lm wk room top res pc tp) 9) :: (sk, stackAt (.bytes #[116] t3) (.int 31 t4) v2 v3 v4 n2) :: (lm, instObj 95 dl) :: (dl, dictOf (limEs w tkl fl) 10) :: rest) → Q (.bool false) h' tk') := by
  unfold Spec
  w_top off
  k_fill
  intro p loose mean mg mb dp un gd cn cs a ccd cl outer A₀ base h₀ L m s Q E B F X N T hkd hdp hun hret
  dsimp only at hret
  refine wpAny_call ?_
  k_dflt cell_enter
  repeat' (first
      | (k_unfold; (try dsimp only))
      | (k_end; wrow_close)
      | ((with_reducible show wpAny _ _ (call (Value.ref _) _ _) _ _ _); (first
        | (with_reducible (k_here; (with_reducible show wpAny _ _ (call (Value.ref 216) _) _ _ _); k_dflt (refine' text_use ?k1 ?k2 ?k3 ?k4 ?k5 ?k6 ?k7 ?k8 ?m1 ?m2 ?_; (case k1 => k_asm); (case k2 => k_asm); (case k3 => k_asm); (case k4 => k_asm); (case k5 => k_asm); (case k6 => first | exact rfl | assumption); (case k7 => k_room); (case k8 => k_room); (case m1 => k_mem); (case m2 => k_mem); k_whole); intro h' tk' F' N'; (try k_sweep)))
        | (with_reducible (k_here; (with_reducible show wpAny _ _ (call (Value.ref 49) _) _ _ _); k_dflt (refine' c_use (1) ?k1 ?k2 ?k3 ?k4 ?k5 ?k6 ?k7 ?k8 ?h0 ?h1 ?hr ?_; (case k1 => k_asm); (case k2 => k_asm); (case k3 => k_asm); (case k4 => k_asm); (case k5 => k_asm); (case k6 => first | exact rfl | assumption); (case k7 => k_room); (case k8 => k_room); (case h0 => decide); (case h1 => decide); (case hr => kernel_rfl); k_whole); intro h' tk' t' F' N'; (try k_sweep)))
        | (with_reducible (k_here; (with_reducible show wpAny _ _ (call (Value.ref 42) _) _ _ _); k_dflt (refine' b_use (0) ?k1 ?k2 ?k3 ?k4 ?k5 ?k6 ?k7 ?k8 ?h0 ?h1 ?hr ?_; (case k1 => k_asm); (case k2 => k_asm); (case k3 => k_asm); (case k4 => k_asm); (case k5 => k_asm); (case k6 => first | exact rfl | assumption); (case k7 => k_room); (case k8 => k_room); (case h0 => decide); (case h1 => decide); (case hr => kernel_rfl); k_whole); intro h' tk' t' F' N'; (try k_sweep)))
        | (with_reducible (k_here; (with_reducible show wpAny _ _ (call (Value.ref 35) _) _ _ _); k_dflt (refine' a_use (4) ?k1 ?k2 ?k3 ?k4 ?k5 ?k6 ?k7 ?k8 ?h0 ?h1 ?hr ?_; (case k1 => k_asm); (case k2 => k_asm); (case k3 => k_asm); (case k4 => k_asm); (case k5 => k_asm); (case k6 => first | exact rfl | assumption); (case k7 => k_room); (case k8 => k_room); (case h0 => decide); (case h1 => decide); (case hr => kernel_rfl); k_whole); intro h' tk' t' F' N'; (try k_sweep)))))
      | (with_reducible (k_here; (with_reducible show wpAny _ _ (subscriptTail _ _ (Value.ref _) (Value.int _ _)) _ _ _); k_dflt (refine' kim_list ?k1 ?k2 ?k3 ?k4 ?k5 ?k6 ?k7 ?_; (case k1 => k_asm); (case k2 => k_mem); (case k3 => rfl); (case k4 => rfl); (case k5 => decide); (case k6 => decide); (case k7 => rfl); k_whole)))
      | ((with_reducible show wpAny _ _ (subscriptTail _ _ (Value.ref _) (Value.int _ _)) _ _ _); first | (with_reducible (k_here; kim_at)) | (k_here; kim_at))
      | walk1
      | dsimp only
      | (leave1; walk_say "STEP leave1"; try dsimp only)
      | fail "no step")
  all_goals exact hret _ _ ⟨by assumption, by (first | assumption | exact cb_drop (by assumption) (sub_of (by with_reducible (repeat' constructor))))⟩


theorem push_len {its : Array Value} {x : Value} : (((its.push x).size : Nat) : Int) = (its.size : Int) + 1 := by simp [Array.size_push]
def PutSpec (w : World) (f q : Nat) (nb : Int) (own : List (Addr × Obj)) : Prop :=
  ∀ (its : Array Value) (n : Nat) (v1 v2 v3 : Value) (rest : List (Addr × Obj)), its.size ≤ 8 → (∀ p ∈ rest, p.1 ≠ q) → (∀ p ∈ own, p ∈ rest) →
    Spec 4 w f ((q, PySem.W.listOf its n) :: (own ++ rest)) [v1, v2, v3] (fun ok Q => ∀ h' tk' (z : Nat), ok h' ((z, ⟨.type "tuple", none, .seq #[v1, v2, v3], #[]⟩) :: (q, PySem.W.listOf (its.push (.ref z)) (n + 1)) :: rest) → AllLt z ((q, PySem.W.listOf its n) :: rest) →
      Q (.bool ((its.size : Int) + 1 != nb)) h' tk')
theorem news_shift {h₀ h : Heap} {L : Addr} {a b c d e : Addr × Obj} {rest : List (Addr × Obj)} (N : News h₀ L h (a :: b :: c :: d :: e :: rest)) : News h₀ L h (a :: e :: b :: c :: d :: rest) := by
  refine cb_drop N ?_
  intro p hp
  simp only [List.mem_cons] at hp ⊢
  rcases hp with h | h | h | h | h | h <;> simp [h]
theorem codeRec_put {h₀ h : Heap} {L c : Addr} {oc : Obj} {vs : Array Value} {q qual : Str} {t : Tok} {news : List (Addr × Obj)} (N : News h₀ L h news) (hm : (c, oc) ∈ news) (hd : oc.data = .fields vs) (hv : vs[1]? = some (.str q t)) (e : q = qual) : h.CodeRec (.ref c) qual := codeRec_news N hm hd (e ▸ hv)
theorem allLt_up {a b : Addr} : ∀ {l : List (Addr × Obj)}, AllLt a l → @LE.le Nat _ a b → AllLt b l
  | [], _, _ => trivial
  | _ :: _, h, k => ⟨Nat.lt_of_lt_of_le h.1 k, allLt_up h.2 k⟩
def CodeOk (oc : Obj) : Prop := ∃ vs t, oc.data = .fields vs ∧ vs[1]? = some (.str (Str.ofString "_law_put.<locals>.put") t)
local macro_rules | `(tactic| k_enter) => `(tactic| (refine' code_defC ?k1 ?k2 ?k3 ?k4 ?k5 ?kA ?kF ?kK ?k6 ?k7 ?k8 ?k9 ?kB ?kD ?_ ?c2 ?c3 ?c4; (case kA => exact rfl); (case kF => exact rfl); (case kK => assumption); (case k1 => k_asm); (case k2 => k_asm); (case k3 => k_asm); (case k4 => k_asm); (case k5 => k_asm); (case k6 => k_is); (case k7 => k_is); (case k8 => k_room); (case k9 => exact BindsTo.of_eq rfl); (case kB => exact rfl); (case kD => decide +kernel); (case c2 => exact rfl); (case c3 => exact rfl); (case c4 => exact rfl); k_whole; intro g' L' h' tk' cells' FG' F' N' Y' B' X' T' l1; (try k_lt l1); k_cells Y'; (try simp only [List.cons_append, List.nil_append] at N'); (try dsimp only); (try k_lift B'); (try k_fold)))
section
variable {w : World} {news rest : List (Addr × Obj)} {p : Program} {loose : List Str} {mean : ExcName → Option Value} {mg mb : Str → Option Value} {dp un : Nat} {gd : Option (List Code)} {cn : Str} {cs : Scope} {a : Addr} {ccd : Value} {cl : List (Str × Addr)} {outer : List Env} {A₀ : Around} {base h₀ : Heap} {L : Addr} {m : Str → Option Value} {s : Shared} {Q E : Value → Shared → Prop}
theorem mkput0 {q : Nat} {nb : Int} {t : Tok}  (B : Below A₀ base outer h₀) (F : Fr h₀ L s.heap m) (X : (Mine.heap w.params).In h₀) (N : News h₀ L s.heap ((528, tabObj #[]) :: rest)) (T : Top p loose mean mg mb h₀) (hkd : cs.kind = .function) (hdp : dp + 4 < recursionLimit) (hun : un + 64 * 4 < cLine)
    (C : CodeHd base 532 528) (hr : ∀ p ∈ rest, p.1 ≠ 528) 
    (hret : ∀ h' tk' (f : Nat) oc od fd sl (c' : Nat) oc' (c1 : Nat) o1 (c2 : Nat) o2, Fr h₀ L h' m → News h₀ L h' ((f, ⟨oc, od, .func fd, sl⟩) :: (c', oc') :: (c2, o2) :: (c1, o1) :: (528, tabObj #[rawInt 465, rawInt 4, .ref c']) :: rest) → CodeOk oc' → AllLt c1 rest → 528 < c1 → c1 < c2 → c2 < f → c2 < c' ∧ c' < f →
      PutSpec w f q nb [(f, ⟨oc, od, .func fd, sl⟩), (c', oc'), (c2, o2), (c1, o1)] → Q (.ref f) { s with heap := h', toks := tk' }) :
    wpAny (model PySem.Challenge.rw_rh0164_01.row.prog w) (ktrTop dp un gd cn cs L a ccd cl outer) (call (.ref 533) [.ref q, .int nb t]) Q E s := by
  revert X
  w_top off
  k_fill
  intro X
  refine wpAny_call ?_
  k_enter
  repeat' (first
      | (k_unfold; (try dsimp only))
      | (k_end; wrow_close)
      | ((with_reducible show wpAny _ _ (call (Value.ref _) _ _) _ _ _); (first
        | (first | (with_reducible (k_here; k_dflt (refine wpAny_call ?_; (refine' code_nest ?k1 ?k2 ?k3 ?k4 ?k5 ?kA ?kF ?kK ?k6 ?k7 ?k8 ?k9 ?kB ?_ ?c2 ?c3 ?c4 ?c5; (case kA => exact rfl); (case kF => exact rfl); (case kK => first | exact rfl | assumption); (case k1 => k_asm); (case k2 => k_asm); (case k3 => k_asm); (case k4 => k_asm); (case k5 => k_asm); (case k6 => k_mem); (case k7 => first | exact codeRec_news (by k_asm) (by k_mem) (by assumption) (by with_reducible assumption) | exact codeRec_put (by k_asm) (by k_mem) (by assumption) (by with_reducible assumption) (by kernel_rfl)); (case k8 => k_room); (case k9 => exact BindsTo.of_eq rfl); (case c5 => decide); (case kB => exact locs rfl); (case c2 => exact rfl); (case c3 => exact rfl); (case c4 => exact rfl); k_whole; intro g' L' h' FG' F' N' B' X' T'; (try dsimp only); (try k_lift B'); (try k_fold))))) | (k_here; k_dflt (refine wpAny_call ?_; (refine' code_nest ?k1 ?k2 ?k3 ?k4 ?k5 ?kA ?kF ?kK ?k6 ?k7 ?k8 ?k9 ?kB ?_ ?c2 ?c3 ?c4 ?c5; (case kA => exact rfl); (case kF => exact rfl); (case kK => first | exact rfl | assumption); (case k1 => k_asm); (case k2 => k_asm); (case k3 => k_asm); (case k4 => k_asm); (case k5 => k_asm); (case k6 => k_mem); (case k7 => first | exact codeRec_news (by k_asm) (by k_mem) (by assumption) (by with_reducible assumption) | exact codeRec_put (by k_asm) (by k_mem) (by assumption) (by with_reducible assumption) (by kernel_rfl)); (case k8 => k_room); (case k9 => exact BindsTo.of_eq rfl); (case c5 => decide); (case kB => exact locs rfl); (case c2 => exact rfl); (case c3 => exact rfl); (case c4 => exact rfl); k_whole; intro g' L' h' FG' F' N' B' X' T'; (try dsimp only); (try k_lift B'); (try k_fold)))))))
      | (with_reducible (k_here; (with_reducible show wpAny _ _ (call (Value.builtin "len") [Value.ref _]) _ _ _); k_dflt (refine' kun_lenL ?k1 ?k2 ?k3 ?_; (case k1 => exact News.isList (by k_asm) (by k_mem)); (case k2 => exact push_len); (case k3 => assumption); k_whole)))
      | ((with_reducible show wpAny _ _ (call (Value.builtin "list.append") _ _) _ _ _); first | (with_reducible (k_here; k_dflt (refine' append_K ?k1 ?k2 ?k3 ?_ ?z; (case k1 => k_asm); (case k2 => k_asm); (case k3 => k_upd); (case z => first | assumption | size_fits); k_whole); intro h' F' N'; (try k_sweep))) | (k_here; k_dflt (refine' append_K ?k1 ?k2 ?k3 ?_ ?z; (case k1 => k_asm); (case k2 => k_asm); (case k3 => k_upd); (case z => first | assumption | size_fits); k_whole); intro h' F' N'; (try k_sweep)))
      | ((with_reducible show wpAny _ _ (eval (PySem.Expr.Name _ _) _) _ _ _); first | (with_reducible (k_here; k_dflt (refine' nameX_F ?N ?c ?m ?d ?_ ?a ?b; (case a => rfl); (case b => rfl); (case N => k_asm); (case c => rfl); (case m => k_mem); (case d => k_asm); k_whole))) | (k_here; k_dflt (refine' nameX_F ?N ?c ?m ?d ?_ ?a ?b; (case a => rfl); (case b => rfl); (case N => k_asm); (case c => rfl); (case m => k_mem); (case d => k_asm); k_whole)))
      | ((with_reducible show wpAny _ _ (callWith _ (Value.ref _) _ _ _) _ _ _); first | (with_reducible (k_here; k_dflt (first | (refine' callWith_F ?k1 ?_; (case k1 => exact FnAt.of (by k_asm) (by k_mem)); k_whole) | (refine' callWith_F0 ?k1 ?_; (case k1 => exact FnAt.of (by k_asm) (by k_mem)); k_whole; try dsimp only [List.nil_append, List.cons_append])))) | (k_here; k_dflt (first | (refine' callWith_F ?k1 ?_; (case k1 => exact FnAt.of (by k_asm) (by k_mem)); k_whole) | (refine' callWith_F0 ?k1 ?_; (case k1 => exact FnAt.of (by k_asm) (by k_mem)); k_whole; try dsimp only [List.nil_append, List.cons_append]))))
      | ((with_reducible show wpAny _ _ (exec (Stmt.FunctionDef ..) _) _ _ _); first | (with_reducible (k_here; k_dflt (refine' nestDef_K ?d0 ?k0 ?a0 ?_; (case d0 => exact rfl); (case k0 => exact rfl); (case a0 => exact rfl)); (first | (k_dflt (refine' nest_K ?F ?N ?T ?C ?cd ?U ?t ?n ?cl ?_; (case F => k_asm); (case N => k_asm); (case T => k_asm); (case cd => exact rfl); (case C => kn_code); (case U => k_updF); (case t => kn_triples); (case n => kn_among); (case cl => exact rfl); k_whole); intro f' c' oc' vs' t' ct' dc' h' tk' F' N' d1' d2' l1 l2; (try dsimp only at N'); (try k_lt l1); (try k_lt2 l2)) | (k_dflt (refine' nestHit_K ?F ?N ?T ?C ?cd ?mem ?t ?n ?cl ?_; (case F => k_asm); (case N => k_asm); (case T => k_asm); (case cd => exact rfl); (case C => kn_code); (case mem => k_mem); (case t => kn_triples); (case n => kn_hit); (case cl => exact rfl); k_whole); intro f' ct' dc' h' tk' F' N' l1; (try dsimp only at N'); (try k_lt l1))))) | (k_here; k_dflt (refine' nestDef_K ?d0 ?k0 ?a0 ?_; (case d0 => exact rfl); (case k0 => exact rfl); (case a0 => exact rfl)); (first | (k_dflt (refine' nest_K ?F ?N ?T ?C ?cd ?U ?t ?n ?cl ?_; (case F => k_asm); (case N => k_asm); (case T => k_asm); (case cd => exact rfl); (case C => kn_code); (case U => k_updF); (case t => kn_triples); (case n => kn_among); (case cl => exact rfl); k_whole); intro f' c' oc' vs' t' ct' dc' h' tk' F' N' d1' d2' l1 l2; (try dsimp only at N'); (try k_lt l1); (try k_lt2 l2)) | (k_dflt (refine' nestHit_K ?F ?N ?T ?C ?cd ?mem ?t ?n ?cl ?_; (case F => k_asm); (case N => k_asm); (case T => k_asm); (case cd => exact rfl); (case C => kn_code); (case mem => k_mem); (case t => kn_triples); (case n => kn_hit); (case cl => exact rfl); k_whole); intro f' ct' dc' h' tk' F' N' l1; (try dsimp only at N'); (try k_lt l1)))))
      | ((with_reducible show wpAny _ _ (subscriptTail _ _ (Value.ref _) (Value.int _ _)) _ _ _); first | (with_reducible (k_here; kim_at)) | (k_here; kim_at))
      | walk1
      | dsimp only
      | (leave1; walk_say "STEP leave1"; try dsimp only)
      | fail "no step")
  refine hret _ _ _ _ _ _ _ _ _ _ _ _ _ (by assumption) (by (first | assumption | exact cb_drop (by assumption) (sub_of (by with_reducible (repeat' constructor))))) ⟨_, _, by assumption, Eq.trans (by assumption) (congrArg (fun z => some (Value.str z _)) (by kernel_rfl))⟩ ?q1 ?q2 ?q3 ?q4 ?q5 ?_
  case q1 => tbn_find
  case q2 => omega
  case q3 => omega
  case q4 => omega
  case q5 => first | omega | (refine ⟨?_, ?_, ?_⟩ <;> omega)

  clear hret
  intro its n v1 v2 v3 rest2 hz hr2 hs2
  have hz2 : its.size ≤ sizeLine := Nat.le_trans hz (by decide)
  have e1 := hr2 _ (hs2 _ (.head _))
  have e2 := hr2 _ (hs2 _ (.tail _ (.head _)))
  have e3 := hr2 _ (hs2 _ (.tail _ (.tail _ (.head _))))
  have e4 := hr2 _ (hs2 _ (.tail _ (.tail _ (.tail _ (.head _)))))
  dsimp only at e1 e2 e3 e4
  have hz4 : (its.size : Int) + 1 ≤ 16384 := by omega
  unfold Spec
  w_top off
  k_fill
  clear hr C hkd hdp hun
  repeat (rename Frag.In _ _ => X0; clear X0)
  repeat (rename Below _ _ _ _ => X0; clear X0)
  repeat (rename Top _ _ _ _ _ _ => X0; clear X0)
  repeat (rename Fr _ _ _ _ => X0; clear X0)
  repeat (rename News _ _ _ _ => X0; clear X0)
  intro p loose mean mg mb dp un gd cn cs a ccd cl outer A₀ base h₀ L m s Q E B F X N T hkd hdp hun hret
  dsimp only at hret
  (try simp only [List.cons_append, List.nil_append] at N)
  repeat' (first
      | (k_unfold; (try dsimp only))
      | (k_end; wrow_close)
      | ((with_reducible show wpAny _ _ (call (Value.ref _) _ _) _ _ _); (first
        | (first | (with_reducible (k_here; k_dflt (refine wpAny_call ?_; (refine' code_nest ?k1 ?k2 ?k3 ?k4 ?k5 ?kA ?kF ?kK ?k6 ?k7 ?k8 ?k9 ?kB ?_ ?c2 ?c3 ?c4 ?c5; (case kA => exact rfl); (case kF => exact rfl); (case kK => first | exact rfl | assumption); (case k1 => k_asm); (case k2 => k_asm); (case k3 => k_asm); (case k4 => k_asm); (case k5 => k_asm); (case k6 => k_mem); (case k7 => first | exact codeRec_news (by k_asm) (by k_mem) (by assumption) (by with_reducible assumption) | exact codeRec_put (by k_asm) (by k_mem) (by assumption) (by with_reducible assumption) (by kernel_rfl)); (case k8 => k_room); (case k9 => exact BindsTo.of_eq rfl); (case c5 => decide); (case kB => exact locs rfl); (case c2 => exact rfl); (case c3 => exact rfl); (case c4 => exact rfl); k_whole; intro g' L' h' FG' F' N' B' X' T'; (try dsimp only); (try k_lift B'); (try k_fold))))) | (k_here; k_dflt (refine wpAny_call ?_; (refine' code_nest ?k1 ?k2 ?k3 ?k4 ?k5 ?kA ?kF ?kK ?k6 ?k7 ?k8 ?k9 ?kB ?_ ?c2 ?c3 ?c4 ?c5; (case kA => exact rfl); (case kF => exact rfl); (case kK => first | exact rfl | assumption); (case k1 => k_asm); (case k2 => k_asm); (case k3 => k_asm); (case k4 => k_asm); (case k5 => k_asm); (case k6 => k_mem); (case k7 => first | exact codeRec_news (by k_asm) (by k_mem) (by assumption) (by with_reducible assumption) | exact codeRec_put (by k_asm) (by k_mem) (by assumption) (by with_reducible assumption) (by kernel_rfl)); (case k8 => k_room); (case k9 => exact BindsTo.of_eq rfl); (case c5 => decide); (case kB => exact locs rfl); (case c2 => exact rfl); (case c3 => exact rfl); (case c4 => exact rfl); k_whole; intro g' L' h' FG' F' N' B' X' T'; (try dsimp only); (try k_lift B'); (try k_fold)))))))
      | (with_reducible (k_here; (with_reducible show wpAny _ _ (call (Value.builtin "len") [Value.ref _]) _ _ _); k_dflt (refine' kun_lenL ?k1 ?k2 ?k3 ?_; (case k1 => exact News.isList (by k_asm) (by k_mem)); (case k2 => exact push_len); (case k3 => assumption); k_whole)))
      | ((with_reducible show wpAny _ _ (call (Value.builtin "list.append") _ _) _ _ _); first | (with_reducible (k_here; k_dflt (refine' append_K ?k1 ?k2 ?k3 ?_ ?z; (case k1 => k_asm); (case k2 => k_asm); (case k3 => k_upd); (case z => first | assumption | size_fits); k_whole); intro h' F' N'; (try k_sweep))) | (k_here; k_dflt (refine' append_K ?k1 ?k2 ?k3 ?_ ?z; (case k1 => k_asm); (case k2 => k_asm); (case k3 => k_upd); (case z => first | assumption | size_fits); k_whole); intro h' F' N'; (try k_sweep)))
      | ((with_reducible show wpAny _ _ (eval (PySem.Expr.Name _ _) _) _ _ _); first | (with_reducible (k_here; k_dflt (refine' nameX_F ?N ?c ?m ?d ?_ ?a ?b; (case a => rfl); (case b => rfl); (case N => k_asm); (case c => rfl); (case m => k_mem); (case d => k_asm); k_whole))) | (k_here; k_dflt (refine' nameX_F ?N ?c ?m ?d ?_ ?a ?b; (case a => rfl); (case b => rfl); (case N => k_asm); (case c => rfl); (case m => k_mem); (case d => k_asm); k_whole)))
      | ((with_reducible show wpAny _ _ (callWith _ (Value.ref _) _ _ _) _ _ _); first | (with_reducible (k_here; k_dflt (first | (refine' callWith_F ?k1 ?_; (case k1 => exact FnAt.of (by k_asm) (by k_mem)); k_whole) | (refine' callWith_F0 ?k1 ?_; (case k1 => exact FnAt.of (by k_asm) (by k_mem)); k_whole; try dsimp only [List.nil_append, List.cons_append])))) | (k_here; k_dflt (first | (refine' callWith_F ?k1 ?_; (case k1 => exact FnAt.of (by k_asm) (by k_mem)); k_whole) | (refine' callWith_F0 ?k1 ?_; (case k1 => exact FnAt.of (by k_asm) (by k_mem)); k_whole; try dsimp only [List.nil_append, List.cons_append]))))
      | ((with_reducible show wpAny _ _ (exec (Stmt.FunctionDef ..) _) _ _ _); first | (with_reducible (k_here; k_dflt (refine' nestDef_K ?d0 ?k0 ?a0 ?_; (case d0 => exact rfl); (case k0 => exact rfl); (case a0 => exact rfl)); (first | (k_dflt (refine' nest_K ?F ?N ?T ?C ?cd ?U ?t ?n ?cl ?_; (case F => k_asm); (case N => k_asm); (case T => k_asm); (case cd => exact rfl); (case C => kn_code); (case U => k_updF); (case t => kn_triples); (case n => kn_among); (case cl => exact rfl); k_whole); intro f' c' oc' vs' t' ct' dc' h' tk' F' N' d1' d2' l1 l2; (try dsimp only at N'); (try k_lt l1); (try k_lt2 l2)) | (k_dflt (refine' nestHit_K ?F ?N ?T ?C ?cd ?mem ?t ?n ?cl ?_; (case F => k_asm); (case N => k_asm); (case T => k_asm); (case cd => exact rfl); (case C => kn_code); (case mem => k_mem); (case t => kn_triples); (case n => kn_hit); (case cl => exact rfl); k_whole); intro f' ct' dc' h' tk' F' N' l1; (try dsimp only at N'); (try k_lt l1))))) | (k_here; k_dflt (refine' nestDef_K ?d0 ?k0 ?a0 ?_; (case d0 => exact rfl); (case k0 => exact rfl); (case a0 => exact rfl)); (first | (k_dflt (refine' nest_K ?F ?N ?T ?C ?cd ?U ?t ?n ?cl ?_; (case F => k_asm); (case N => k_asm); (case T => k_asm); (case cd => exact rfl); (case C => kn_code); (case U => k_updF); (case t => kn_triples); (case n => kn_among); (case cl => exact rfl); k_whole); intro f' c' oc' vs' t' ct' dc' h' tk' F' N' d1' d2' l1 l2; (try dsimp only at N'); (try k_lt l1); (try k_lt2 l2)) | (k_dflt (refine' nestHit_K ?F ?N ?T ?C ?cd ?mem ?t ?n ?cl ?_; (case F => k_asm); (case N => k_asm); (case T => k_asm); (case cd => exact rfl); (case C => kn_code); (case mem => k_mem); (case t => kn_triples); (case n => kn_hit); (case cl => exact rfl); k_whole); intro f' ct' dc' h' tk' F' N' l1; (try dsimp only at N'); (try k_lt l1)))))
      | ((with_reducible show wpAny _ _ (subscriptTail _ _ (Value.ref _) (Value.int _ _)) _ _ _); first | (with_reducible (k_here; kim_at)) | (k_here; kim_at))
      | walk1
      | dsimp only
      | (leave1; walk_say "STEP leave1"; try dsimp only)
      | fail "no step")
  refine hret _ _ _ ⟨by assumption, by (first | assumption | exact cb_drop (by assumption) (sub_of (by with_reducible (repeat' constructor))))⟩ ?_
  exact ⟨lt_has (by with_reducible assumption) Has.h0, by tbn_find⟩
theorem mkput1 {q : Nat} {nb : Int} {t : Tok} {ce : Nat} {oe : Obj} (B : Below A₀ base outer h₀) (F : Fr h₀ L s.heap m) (X : (Mine.heap w.params).In h₀) (N : News h₀ L s.heap ((528, tabObj #[rawInt 465, rawInt 4, .ref ce]) :: rest)) (T : Top p loose mean mg mb h₀) (hkd : cs.kind = .function) (hdp : dp + 4 < recursionLimit) (hun : un + 64 * 4 < cLine)
    (C : CodeHd base 532 528) (hr : ∀ p ∈ rest, p.1 ≠ 528) (hm : (ce, oe) ∈ rest) (ho : CodeOk oe)
    (hret : ∀ h' tk' (f : Nat) oc od fd sl (c' : Nat) oc' (c1 : Nat) o1 (c2 : Nat) o2, Fr h₀ L h' m → News h₀ L h' ((f, ⟨oc, od, .func fd, sl⟩) :: (c', oc') :: (c2, o2) :: (c1, o1) :: (528, tabObj #[rawInt 465, rawInt 4, .ref c']) :: rest) → CodeOk oc' → AllLt c1 rest → 528 < c1 → c1 < c2 → c2 < f → c' = ce ∧ oc' = oe →
      PutSpec w f q nb [(f, ⟨oc, od, .func fd, sl⟩), (c', oc'), (c2, o2), (c1, o1)] → Q (.ref f) { s with heap := h', toks := tk' }) :
    wpAny (model PySem.Challenge.rw_rh0164_01.row.prog w) (ktrTop dp un gd cn cs L a ccd cl outer) (call (.ref 533) [.ref q, .int nb t]) Q E s := by
  obtain ⟨vse, te, he1, he2⟩ := ho
  have N0 : News h₀ L s.heap ((528, tabObj #[rawInt 465, rawInt 4, .ref ce]) :: (ce, oe) :: rest) := cb_drop N (List.forall_mem_cons.mpr ⟨.head _, List.forall_mem_cons.mpr ⟨.tail _ hm, fun p hp => .tail _ hp⟩⟩)
  clear N
  revert X
  w_top off
  k_fill
  intro X
  refine wpAny_call ?_
  k_enter
  repeat' (first
      | (k_unfold; (try dsimp only))
      | (k_end; wrow_close)
      | ((with_reducible show wpAny _ _ (call (Value.ref _) _ _) _ _ _); (first
        | (first | (with_reducible (k_here; k_dflt (refine wpAny_call ?_; (refine' code_nest ?k1 ?k2 ?k3 ?k4 ?k5 ?kA ?kF ?kK ?k6 ?k7 ?k8 ?k9 ?kB ?_ ?c2 ?c3 ?c4 ?c5; (case kA => exact rfl); (case kF => exact rfl); (case kK => first | exact rfl | assumption); (case k1 => k_asm); (case k2 => k_asm); (case k3 => k_asm); (case k4 => k_asm); (case k5 => k_asm); (case k6 => k_mem); (case k7 => first | exact codeRec_news (by k_asm) (by k_mem) (by assumption) (by with_reducible assumption) | exact codeRec_put (by k_asm) (by k_mem) (by assumption) (by with_reducible assumption) (by kernel_rfl)); (case k8 => k_room); (case k9 => exact BindsTo.of_eq rfl); (case c5 => decide); (case kB => exact locs rfl); (case c2 => exact rfl); (case c3 => exact rfl); (case c4 => exact rfl); k_whole; intro g' L' h' FG' F' N' B' X' T'; (try dsimp only); (try k_lift B'); (try k_fold))))) | (k_here; k_dflt (refine wpAny_call ?_; (refine' code_nest ?k1 ?k2 ?k3 ?k4 ?k5 ?kA ?kF ?kK ?k6 ?k7 ?k8 ?k9 ?kB ?_ ?c2 ?c3 ?c4 ?c5; (case kA => exact rfl); (case kF => exact rfl); (case kK => first | exact rfl | assumption); (case k1 => k_asm); (case k2 => k_asm); (case k3 => k_asm); (case k4 => k_asm); (case k5 => k_asm); (case k6 => k_mem); (case k7 => first | exact codeRec_news (by k_asm) (by k_mem) (by assumption) (by with_reducible assumption) | exact codeRec_put (by k_asm) (by k_mem) (by assumption) (by with_reducible assumption) (by kernel_rfl)); (case k8 => k_room); (case k9 => exact BindsTo.of_eq rfl); (case c5 => decide); (case kB => exact locs rfl); (case c2 => exact rfl); (case c3 => exact rfl); (case c4 => exact rfl); k_whole; intro g' L' h' FG' F' N' B' X' T'; (try dsimp only); (try k_lift B'); (try k_fold)))))))
      | (with_reducible (k_here; (with_reducible show wpAny _ _ (call (Value.builtin "len") [Value.ref _]) _ _ _); k_dflt (refine' kun_lenL ?k1 ?k2 ?k3 ?_; (case k1 => exact News.isList (by k_asm) (by k_mem)); (case k2 => exact push_len); (case k3 => assumption); k_whole)))
      | ((with_reducible show wpAny _ _ (call (Value.builtin "list.append") _ _) _ _ _); first | (with_reducible (k_here; k_dflt (refine' append_K ?k1 ?k2 ?k3 ?_ ?z; (case k1 => k_asm); (case k2 => k_asm); (case k3 => k_upd); (case z => first | assumption | size_fits); k_whole); intro h' F' N'; (try k_sweep))) | (k_here; k_dflt (refine' append_K ?k1 ?k2 ?k3 ?_ ?z; (case k1 => k_asm); (case k2 => k_asm); (case k3 => k_upd); (case z => first | assumption | size_fits); k_whole); intro h' F' N'; (try k_sweep)))
      | ((with_reducible show wpAny _ _ (eval (PySem.Expr.Name _ _) _) _ _ _); first | (with_reducible (k_here; k_dflt (refine' nameX_F ?N ?c ?m ?d ?_ ?a ?b; (case a => rfl); (case b => rfl); (case N => k_asm); (case c => rfl); (case m => k_mem); (case d => k_asm); k_whole))) | (k_here; k_dflt (refine' nameX_F ?N ?c ?m ?d ?_ ?a ?b; (case a => rfl); (case b => rfl); (case N => k_asm); (case c => rfl); (case m => k_mem); (case d => k_asm); k_whole)))
      | ((with_reducible show wpAny _ _ (callWith _ (Value.ref _) _ _ _) _ _ _); first | (with_reducible (k_here; k_dflt (first | (refine' callWith_F ?k1 ?_; (case k1 => exact FnAt.of (by k_asm) (by k_mem)); k_whole) | (refine' callWith_F0 ?k1 ?_; (case k1 => exact FnAt.of (by k_asm) (by k_mem)); k_whole; try dsimp only [List.nil_append, List.cons_append])))) | (k_here; k_dflt (first | (refine' callWith_F ?k1 ?_; (case k1 => exact FnAt.of (by k_asm) (by k_mem)); k_whole) | (refine' callWith_F0 ?k1 ?_; (case k1 => exact FnAt.of (by k_asm) (by k_mem)); k_whole; try dsimp only [List.nil_append, List.cons_append]))))
      | ((with_reducible show wpAny _ _ (exec (Stmt.FunctionDef ..) _) _ _ _); first | (with_reducible (k_here; k_dflt (refine' nestDef_K ?d0 ?k0 ?a0 ?_; (case d0 => exact rfl); (case k0 => exact rfl); (case a0 => exact rfl)); (first | (k_dflt (refine' nest_K ?F ?N ?T ?C ?cd ?U ?t ?n ?cl ?_; (case F => k_asm); (case N => k_asm); (case T => k_asm); (case cd => exact rfl); (case C => kn_code); (case U => k_updF); (case t => kn_triples); (case n => kn_among); (case cl => exact rfl); k_whole); intro f' c' oc' vs' t' ct' dc' h' tk' F' N' d1' d2' l1 l2; (try dsimp only at N'); (try k_lt l1); (try k_lt2 l2)) | (k_dflt (refine' nestHit_K ?F ?N ?T ?C ?cd ?mem ?t ?n ?cl ?_; (case F => k_asm); (case N => k_asm); (case T => k_asm); (case cd => exact rfl); (case C => kn_code); (case mem => k_mem); (case t => kn_triples); (case n => kn_hit); (case cl => exact rfl); k_whole); intro f' ct' dc' h' tk' F' N' l1; (try dsimp only at N'); (try k_lt l1))))) | (k_here; k_dflt (refine' nestDef_K ?d0 ?k0 ?a0 ?_; (case d0 => exact rfl); (case k0 => exact rfl); (case a0 => exact rfl)); (first | (k_dflt (refine' nest_K ?F ?N ?T ?C ?cd ?U ?t ?n ?cl ?_; (case F => k_asm); (case N => k_asm); (case T => k_asm); (case cd => exact rfl); (case C => kn_code); (case U => k_updF); (case t => kn_triples); (case n => kn_among); (case cl => exact rfl); k_whole); intro f' c' oc' vs' t' ct' dc' h' tk' F' N' d1' d2' l1 l2; (try dsimp only at N'); (try k_lt l1); (try k_lt2 l2)) | (k_dflt (refine' nestHit_K ?F ?N ?T ?C ?cd ?mem ?t ?n ?cl ?_; (case F => k_asm); (case N => k_asm); (case T => k_asm); (case cd => exact rfl); (case C => kn_code); (case mem => k_mem); (case t => kn_triples); (case n => kn_hit); (case cl => exact rfl); k_whole); intro f' ct' dc' h' tk' F' N' l1; (try dsimp only at N'); (try k_lt l1)))))
      | ((with_reducible show wpAny _ _ (subscriptTail _ _ (Value.ref _) (Value.int _ _)) _ _ _); first | (with_reducible (k_here; kim_at)) | (k_here; kim_at))
      | walk1
      | dsimp only
      | (leave1; walk_say "STEP leave1"; try dsimp only)
      | fail "no step")
  refine hret _ _ _ _ _ _ _ ce oe _ _ _ _ (by assumption) (news_shift (by assumption)) ⟨_, _, by assumption, Eq.trans (by assumption) (congrArg (fun z => some (Value.str z _)) (by kernel_rfl))⟩ ?q1 ?q2 ?q3 ?q4 ?q5 ?_
  case q1 => tbn_find
  case q2 => omega
  case q3 => omega
  case q4 => omega
  case q5 => first | exact ⟨rfl, rfl⟩ | omega | (refine ⟨?_, ?_, ?_⟩ <;> omega)

  clear hret
  intro its n v1 v2 v3 rest2 hz hr2 hs2
  have hz2 : its.size ≤ sizeLine := Nat.le_trans hz (by decide)
  have e1 := hr2 _ (hs2 _ (.head _))
  have e2 := hr2 _ (hs2 _ (.tail _ (.head _)))
  have e3 := hr2 _ (hs2 _ (.tail _ (.tail _ (.head _))))
  have e4 := hr2 _ (hs2 _ (.tail _ (.tail _ (.tail _ (.head _)))))
  dsimp only at e1 e2 e3 e4
  have hz4 : (its.size : Int) + 1 ≤ 16384 := by omega
  unfold Spec
  w_top off
  k_fill
  clear hr C hkd hdp hun
  repeat (rename Frag.In _ _ => X0; clear X0)
  repeat (rename Below _ _ _ _ => X0; clear X0)
  repeat (rename Top _ _ _ _ _ _ => X0; clear X0)
  repeat (rename Fr _ _ _ _ => X0; clear X0)
  repeat (rename News _ _ _ _ => X0; clear X0)
  intro p loose mean mg mb dp un gd cn cs a ccd cl outer A₀ base h₀ L m s Q E B F X N T hkd hdp hun hret
  dsimp only at hret
  (try simp only [List.cons_append, List.nil_append] at N)
  repeat' (first
      | (k_unfold; (try dsimp only))
      | (k_end; wrow_close)
      | ((with_reducible show wpAny _ _ (call (Value.ref _) _ _) _ _ _); (first
        | (first | (with_reducible (k_here; k_dflt (refine wpAny_call ?_; (refine' code_nest ?k1 ?k2 ?k3 ?k4 ?k5 ?kA ?kF ?kK ?k6 ?k7 ?k8 ?k9 ?kB ?_ ?c2 ?c3 ?c4 ?c5; (case kA => exact rfl); (case kF => exact rfl); (case kK => first | exact rfl | assumption); (case k1 => k_asm); (case k2 => k_asm); (case k3 => k_asm); (case k4 => k_asm); (case k5 => k_asm); (case k6 => k_mem); (case k7 => first | exact codeRec_news (by k_asm) (by k_mem) (by assumption) (by with_reducible assumption) | exact codeRec_put (by k_asm) (by k_mem) (by assumption) (by with_reducible assumption) (by kernel_rfl)); (case k8 => k_room); (case k9 => exact BindsTo.of_eq rfl); (case c5 => decide); (case kB => exact locs rfl); (case c2 => exact rfl); (case c3 => exact rfl); (case c4 => exact rfl); k_whole; intro g' L' h' FG' F' N' B' X' T'; (try dsimp only); (try k_lift B'); (try k_fold))))) | (k_here; k_dflt (refine wpAny_call ?_; (refine' code_nest ?k1 ?k2 ?k3 ?k4 ?k5 ?kA ?kF ?kK ?k6 ?k7 ?k8 ?k9 ?kB ?_ ?c2 ?c3 ?c4 ?c5; (case kA => exact rfl); (case kF => exact rfl); (case kK => first | exact rfl | assumption); (case k1 => k_asm); (case k2 => k_asm); (case k3 => k_asm); (case k4 => k_asm); (case k5 => k_asm); (case k6 => k_mem); (case k7 => first | exact codeRec_news (by k_asm) (by k_mem) (by assumption) (by with_reducible assumption) | exact codeRec_put (by k_asm) (by k_mem) (by assumption) (by with_reducible assumption) (by kernel_rfl)); (case k8 => k_room); (case k9 => exact BindsTo.of_eq rfl); (case c5 => decide); (case kB => exact locs rfl); (case c2 => exact rfl); (case c3 => exact rfl); (case c4 => exact rfl); k_whole; intro g' L' h' FG' F' N' B' X' T'; (try dsimp only); (try k_lift B'); (try k_fold)))))))
      | (with_reducible (k_here; (with_reducible show wpAny _ _ (call (Value.builtin "len") [Value.ref _]) _ _ _); k_dflt (refine' kun_lenL ?k1 ?k2 ?k3 ?_; (case k1 => exact News.isList (by k_asm) (by k_mem)); (case k2 => exact push_len); (case k3 => assumption); k_whole)))
      | ((with_reducible show wpAny _ _ (call (Value.builtin "list.append") _ _) _ _ _); first | (with_reducible (k_here; k_dflt (refine' append_K ?k1 ?k2 ?k3 ?_ ?z; (case k1 => k_asm); (case k2 => k_asm); (case k3 => k_upd); (case z => first | assumption | size_fits); k_whole); intro h' F' N'; (try k_sweep))) | (k_here; k_dflt (refine' append_K ?k1 ?k2 ?k3 ?_ ?z; (case k1 => k_asm); (case k2 => k_asm); (case k3 => k_upd); (case z => first | assumption | size_fits); k_whole); intro h' F' N'; (try k_sweep)))
      | ((with_reducible show wpAny _ _ (eval (PySem.Expr.Name _ _) _) _ _ _); first | (with_reducible (k_here; k_dflt (refine' nameX_F ?N ?c ?m ?d ?_ ?a ?b; (case a => rfl); (case b => rfl); (case N => k_asm); (case c => rfl); (case m => k_mem); (case d => k_asm); k_whole))) | (k_here; k_dflt (refine' nameX_F ?N ?c ?m ?d ?_ ?a ?b; (case a => rfl); (case b => rfl); (case N => k_asm); (case c => rfl); (case m => k_mem); (case d => k_asm); k_whole)))
      | ((with_reducible show wpAny _ _ (callWith _ (Value.ref _) _ _ _) _ _ _); first | (with_reducible (k_here; k_dflt (first | (refine' callWith_F ?k1 ?_; (case k1 => exact FnAt.of (by k_asm) (by k_mem)); k_whole) | (refine' callWith_F0 ?k1 ?_; (case k1 => exact FnAt.of (by k_asm) (by k_mem)); k_whole; try dsimp only [List.nil_append, List.cons_append])))) | (k_here; k_dflt (first | (refine' callWith_F ?k1 ?_; (case k1 => exact FnAt.of (by k_asm) (by k_mem)); k_whole) | (refine' callWith_F0 ?k1 ?_; (case k1 => exact FnAt.of (by k_asm) (by k_mem)); k_whole; try dsimp only [List.nil_append, List.cons_append]))))
      | ((with_reducible show wpAny _ _ (exec (Stmt.FunctionDef ..) _) _ _ _); first | (with_reducible (k_here; k_dflt (refine' nestDef_K ?d0 ?k0 ?a0 ?_; (case d0 => exact rfl); (case k0 => exact rfl); (case a0 => exact rfl)); (first | (k_dflt (refine' nest_K ?F ?N ?T ?C ?cd ?U ?t ?n ?cl ?_; (case F => k_asm); (case N => k_asm); (case T => k_asm); (case cd => exact rfl); (case C => kn_code); (case U => k_updF); (case t => kn_triples); (case n => kn_among); (case cl => exact rfl); k_whole); intro f' c' oc' vs' t' ct' dc' h' tk' F' N' d1' d2' l1 l2; (try dsimp only at N'); (try k_lt l1); (try k_lt2 l2)) | (k_dflt (refine' nestHit_K ?F ?N ?T ?C ?cd ?mem ?t ?n ?cl ?_; (case F => k_asm); (case N => k_asm); (case T => k_asm); (case cd => exact rfl); (case C => kn_code); (case mem => k_mem); (case t => kn_triples); (case n => kn_hit); (case cl => exact rfl); k_whole); intro f' ct' dc' h' tk' F' N' l1; (try dsimp only at N'); (try k_lt l1))))) | (k_here; k_dflt (refine' nestDef_K ?d0 ?k0 ?a0 ?_; (case d0 => exact rfl); (case k0 => exact rfl); (case a0 => exact rfl)); (first | (k_dflt (refine' nest_K ?F ?N ?T ?C ?cd ?U ?t ?n ?cl ?_; (case F => k_asm); (case N => k_asm); (case T => k_asm); (case cd => exact rfl); (case C => kn_code); (case U => k_updF); (case t => kn_triples); (case n => kn_among); (case cl => exact rfl); k_whole); intro f' c' oc' vs' t' ct' dc' h' tk' F' N' d1' d2' l1 l2; (try dsimp only at N'); (try k_lt l1); (try k_lt2 l2)) | (k_dflt (refine' nestHit_K ?F ?N ?T ?C ?cd ?mem ?t ?n ?cl ?_; (case F => k_asm); (case N => k_asm); (case T => k_asm); (case cd => exact rfl); (case C => kn_code); (case mem => k_mem); (case t => kn_triples); (case n => kn_hit); (case cl => exact rfl); k_whole); intro f' ct' dc' h' tk' F' N' l1; (try dsimp only at N'); (try k_lt l1)))))
      | ((with_reducible show wpAny _ _ (subscriptTail _ _ (Value.ref _) (Value.int _ _)) _ _ _); first | (with_reducible (k_here; kim_at)) | (k_here; kim_at))
      | walk1
      | dsimp only
      | (leave1; walk_say "STEP leave1"; try dsimp only)
      | fail "no step")
  refine hret _ _ _ ⟨by assumption, by (first | assumption | exact cb_drop (by assumption) (sub_of (by with_reducible (repeat' constructor))))⟩ ?_
  exact ⟨lt_has (by with_reducible assumption) Has.h0, by tbn_find⟩
end


abbrev tupO (a b c : Value) : Obj := ⟨.type "tuple", none, .seq #[a, b, c], #[]⟩
theorem lb_spec (w : World) (c nc : Nat) (code : List Value) (W many field block pc pc' held fl : Int) (t1 t2 t3 t4 tb : Tok) (rest : List (Addr × Obj))
    (hW0 : 0 ≤ W) (hW1 : W < 2 ^ 40) (hb : W.fdiv (2 ^ Int.toNat 23) = many) (hc : Builtin.bitAnd (W.fdiv (2 ^ Int.toNat 14)) 511 = field) (hm : 1 ≤ many) (hm3 : many ≤ 3) (hp0 : 0 ≤ pc) (hp1 : pc ≤ 100) (hk0 : 1 ≤ block) (hk1 : block ≤ 3) (hf0 : 3 ≤ fl) (hf1 : fl ≤ 5)
    (h : (field ≠ 0 ∧ block = field ∧ pc' = pc) ∨ (field = 0 ∧ code[pc.toNat]? = some (.int block tb) ∧ pc' = pc + 1)) :
    Spec 4 w 352 ((c, PySem.W.listOf code.toArray nc) :: rest) [.int W t1, .ref c, .int pc t2, .int held t3, .int fl t4]
      (fun ok Q => ∀ h' tk' (z : Nat) t5 t6 t7, AllLt z ((c, PySem.W.listOf code.toArray nc) :: rest) → ok h' ((z, tupO (.int ((block - 1) * fl) t5) (.int many t6) (.int pc' t7)) :: (c, PySem.W.listOf code.toArray nc) :: rest) → Q (.ref z) h' tk') := by
  have hme : (many == 0) = false := beq_eq_false_iff_ne.mpr (by omega)
  rcases h with ⟨h1, h2, h3⟩ | ⟨h1, h2, h3⟩
  · unfold Spec
    w_top off
    k_fill
    intro p loose mean mg mb dp un gd cn cs a ccd cl outer A₀ base h₀ L m s Q E B F X N T hkd hdp hun hret
    dsimp only at hret
    refine wpAny_call ?_
    k_dflt cell_enter
    subst h2 h3
    have h1e := beq_eq_false_iff_ne.mpr h1
    repeat' (first
        | (k_unfold; (try dsimp only))
        | (k_end; wrow_close)
        | ((with_reducible show wpAny _ _ (call (Value.ref _) _ _) _ _ _); (first
        | (with_reducible (k_here; (with_reducible show wpAny _ _ (call (Value.ref 49) _) _ _ _); k_dflt (refine' c_use (_) ?k1 ?k2 ?k3 ?k4 ?k5 ?k6 ?k7 ?k8 ?h0 ?h1 ?hr ?_; (case k1 => k_asm); (case k2 => k_asm); (case k3 => k_asm); (case k4 => k_asm); (case k5 => k_asm); (case k6 => first | exact rfl | assumption); (case k7 => k_room); (case k8 => k_room); (case h0 => assumption); (case h1 => assumption); (case hr => with_reducible assumption); k_whole); intro h' tk' t' F' N'; (try k_sweep)))
        | (with_reducible (k_here; (with_reducible show wpAny _ _ (call (Value.ref 42) _) _ _ _); k_dflt (refine' b_use (_) ?k1 ?k2 ?k3 ?k4 ?k5 ?k6 ?k7 ?k8 ?h0 ?h1 ?hr ?_; (case k1 => k_asm); (case k2 => k_asm); (case k3 => k_asm); (case k4 => k_asm); (case k5 => k_asm); (case k6 => first | exact rfl | assumption); (case k7 => k_room); (case k8 => k_room); (case h0 => assumption); (case h1 => assumption); (case hr => with_reducible assumption); k_whole); intro h' tk' t' F' N'; (try k_sweep)))))
        | (with_reducible (k_here; (with_reducible show wpAny _ _ (subscriptTail _ _ (Value.ref _) (Value.int _ _)) _ _ _); k_dflt (refine' kim_list ?k1 ?k2 ?k3 ?k4 ?k5 ?k6 ?k7 ?_; (case k1 => k_asm); (case k2 => k_mem); (case k3 => rfl); (case k4 => rfl); (case k5 => first | assumption | omega); (case k6 => omega); (case k7 => with_reducible assumption); k_whole)))
        | ((with_reducible show wpAny _ _ (subscriptTail _ _ (Value.ref _) (Value.int _ _)) _ _ _); first | (with_reducible (k_here; kim_at)) | (k_here; kim_at))
        | walk1
        | dsimp only
        | (leave1; walk_say "STEP leave1"; try dsimp only)
        | fail "no step")
    all_goals exact hret _ _ _ _ _ _ (by assumption) ⟨by assumption, by (first | assumption | exact cb_drop (by assumption) (sub_of (by with_reducible (repeat' constructor))))⟩
  · unfold Spec
    w_top off
    k_fill
    intro p loose mean mg mb dp un gd cn cs a ccd cl outer A₀ base h₀ L m s Q E B F X N T hkd hdp hun hret
    dsimp only at hret
    refine wpAny_call ?_
    k_dflt cell_enter
    subst h1 h3
    repeat' (first
        | (k_unfold; (try dsimp only))
        | (k_end; wrow_close)
        | ((with_reducible show wpAny _ _ (call (Value.ref _) _ _) _ _ _); (first
        | (with_reducible (k_here; (with_reducible show wpAny _ _ (call (Value.ref 49) _) _ _ _); k_dflt (refine' c_use (_) ?k1 ?k2 ?k3 ?k4 ?k5 ?k6 ?k7 ?k8 ?h0 ?h1 ?hr ?_; (case k1 => k_asm); (case k2 => k_asm); (case k3 => k_asm); (case k4 => k_asm); (case k5 => k_asm); (case k6 => first | exact rfl | assumption); (case k7 => k_room); (case k8 => k_room); (case h0 => assumption); (case h1 => assumption); (case hr => with_reducible assumption); k_whole); intro h' tk' t' F' N'; (try k_sweep)))
        | (with_reducible (k_here; (with_reducible show wpAny _ _ (call (Value.ref 42) _) _ _ _); k_dflt (refine' b_use (_) ?k1 ?k2 ?k3 ?k4 ?k5 ?k6 ?k7 ?k8 ?h0 ?h1 ?hr ?_; (case k1 => k_asm); (case k2 => k_asm); (case k3 => k_asm); (case k4 => k_asm); (case k5 => k_asm); (case k6 => first | exact rfl | assumption); (case k7 => k_room); (case k8 => k_room); (case h0 => assumption); (case h1 => assumption); (case hr => with_reducible assumption); k_whole); intro h' tk' t' F' N'; (try k_sweep)))))
        | (with_reducible (k_here; (with_reducible show wpAny _ _ (subscriptTail _ _ (Value.ref _) (Value.int _ _)) _ _ _); k_dflt (refine' kim_list ?k1 ?k2 ?k3 ?k4 ?k5 ?k6 ?k7 ?_; (case k1 => k_asm); (case k2 => k_mem); (case k3 => rfl); (case k4 => rfl); (case k5 => first | assumption | omega); (case k6 => omega); (case k7 => with_reducible assumption); k_whole)))
        | ((with_reducible show wpAny _ _ (subscriptTail _ _ (Value.ref _) (Value.int _ _)) _ _ _); first | (with_reducible (k_here; kim_at)) | (k_here; kim_at))
        | walk1
        | dsimp only
        | (leave1; walk_say "STEP leave1"; try dsimp only)
        | fail "no step")
    all_goals exact hret _ _ _ _ _ _ (by assumption) ⟨by assumption, by (first | assumption | exact cb_drop (by assumption) (sub_of (by with_reducible (repeat' constructor))))⟩


theorem Minus.all {as : List Addr} {l : List (Addr × Obj)} (h : ∀ p ∈ l, ∀ a ∈ as, p.1 ≠ a) : Minus as l l := by
  induction l with
  | nil => exact .nil
  | cons q r ih => exact .keep (h q (.head _)) (ih fun p hp => h p (.tail _ hp))
theorem Minus.lt {q : Addr} {l : List (Addr × Obj)} (h : AllLt q l) : Minus [q] l l := .all fun p hp a ha => (List.mem_singleton.mp ha) ▸ Nat.ne_of_lt (allLt_all h p hp)
theorem unrEnd_minus {h₀ : Heap} {L I : Addr} {it : Obj} {R : (Str → Option Value) → List (Addr × Obj) → Prop} {s₁ : Shared} {h' : Heap} {tk : Nat} {m' : Str → Option Value} {all news' : List (Addr × Obj)} (F : Fr h₀ L h' m') (N : News h₀ L h' all) (hI : (I, it) ∈ all) (mi : Minus [I] all news') (r : R m' news') : UnrEnd h₀ L s₁ I it R { s₁ with heap := h', toks := tk } :=
  UnrEnd.intro F N news' (fun p hp => (List.mem_cons.mp hp).elim (fun e => e ▸ hI) fun y => mi.sub p y) (fun p hp => mi.off p hp I (.head _)) r
theorem Minus.one {q : Addr} {l : List (Addr × Obj)} (h : ∀ p ∈ l, p.1 ≠ q) : Minus [q] l l := .all fun p hp a ha => (List.mem_singleton.mp ha) ▸ h p hp
inductive Asked (v0 : Value) : Int → List Value → List (Addr × Obj) → Prop where
  | nil {a vs} : Asked v0 a vs []
  | cons {a v vs z k t zs} : k = a + 1 → Asked v0 (a + 1) vs zs → Asked v0 a (v :: vs) ((z, tupO v0 (.int k t) v) :: zs)
section
variable {w : World} {news rest : List (Addr × Obj)} {p : Program} {loose : List Str} {mean : ExcName → Option Value} {mg mb : Str → Option Value} {dp un : Nat} {gd : Option (List Code)} {cn : Str} {cs : Scope} {a : Addr} {ccd : Value} {cl : List (Str × Addr)} {outer : List Env} {A₀ : Around} {base h₀ : Heap} {L : Addr} {m : Str → Option Value} {s : Shared} {Q E : Value → Shared → Prop}
theorem lb_use {c nc : Nat} {code : List Value} {W many field block pc pc' held fl : Int} {t1 t2 t3 t4 tb : Tok} (B : Below A₀ base outer h₀) (F : Fr h₀ L s.heap m) (X : (Mine.heap w.params).In h₀) (N : News h₀ L s.heap news) (T : Top p loose mean mg mb h₀) (hkd : cs.kind = .function) (hdp : dp + 4 < recursionLimit) (hun : un + 64 * 4 < cLine)
    (m1 : (c, PySem.W.listOf code.toArray nc) ∈ news) (hW0 : 0 ≤ W) (hW1 : W < 2 ^ 40) (hb : W.fdiv (2 ^ Int.toNat 23) = many) (hc : Builtin.bitAnd (W.fdiv (2 ^ Int.toNat 14)) 511 = field) (hm : 1 ≤ many) (hm3 : many ≤ 3) (hp0 : 0 ≤ pc) (hp1 : pc ≤ 100) (hk0 : 1 ≤ block) (hk1 : block ≤ 3) (hf0 : 3 ≤ fl) (hf1 : fl ≤ 5)
    (hh : (field ≠ 0 ∧ block = field ∧ pc' = pc) ∨ (field = 0 ∧ code[pc.toNat]? = some (.int block tb) ∧ pc' = pc + 1))
    (hret : ∀ h' tk' (z : Nat) t5 t6 t7, (∀ p ∈ news, p.1 < z) → Fr h₀ L h' m → News h₀ L h' ((z, tupO (.int ((block - 1) * fl) t5) (.int many t6) (.int pc' t7)) :: news) → Q (.ref z) { s with heap := h', toks := tk' }) :
    wpAny (model PySem.Challenge.rw_rh0164_01.row.prog w) (ktrTop dp un gd cn cs L a ccd cl outer) (call (.ref 352) [.int W t1, .ref c, .int pc t2, .int held t3, .int fl t4]) Q E s := by
  refine lb_spec w c nc code W many field block pc pc' held fl t1 t2 t3 t4 tb news hW0 hW1 hb hc hm hm3 hp0 hp1 hk0 hk1 hf0 hf1 hh p loose mean mg mb dp un gd cn cs a ccd cl outer A₀ base h₀ L m s Q E B F X (News.cons2 N m1 N) T hkd hdp hun ?_
  intro h' tk' z t5 t6 t7 hz ⟨F', N'⟩
  exact hret h' tk' z t5 t6 t7 (allLt_all hz.2) F' (fun q hq => N' q ((List.mem_cons.mp hq).elim (fun e => e ▸ .head _) fun y => .tail _ (.tail _ y)))
theorem put_use (kk : Int) {q f : Nat} {nb : Int} {own : List (Addr × Obj)} {its : Array Value} {n : Nat} {v1 v2 v3 : Value} (B : Below A₀ base outer h₀) (F : Fr h₀ L s.heap m) (X : (Mine.heap w.params).In h₀) (N : News h₀ L s.heap news) (T : Top p loose mean mg mb h₀) (hkd : cs.kind = .function) (hdp : dp + 4 < recursionLimit) (hun : un + 64 * 4 < cLine)
    (P : PutSpec w f q nb own) (m1 : (q, PySem.W.listOf its n) ∈ news) (mi : Minus [q] news rest) (mo : ∀ p ∈ own, p ∈ rest) (hz : its.size ≤ 8) (hk : (its.size : Int) + 1 = kk)
    (hret : ∀ h' tk' (z : Nat), Fr h₀ L h' m → News h₀ L h' ((z, tupO v1 v2 v3) :: (q, PySem.W.listOf (its.push (.ref z)) (n + 1)) :: rest) → (∀ p ∈ (q, PySem.W.listOf its n) :: rest, p.1 < z) → (kk = nb → Q (.bool false) { s with heap := h', toks := tk' }) ∧ (kk ≠ nb → Q (.bool true) { s with heap := h', toks := tk' })) :
    wpAny (model PySem.Challenge.rw_rh0164_01.row.prog w) (ktrTop dp un gd cn cs L a ccd cl outer) (call (.ref f) [v1, v2, v3]) Q E s := by
  refine P its n v1 v2 v3 rest hz (fun p hp => mi.off p hp q (.head _)) mo p loose mean mg mb dp un gd cn cs a ccd cl outer A₀ base h₀ L m s Q E B F X ?_ T hkd hdp hun ?_
  · exact News.cons2 N m1 (fun p hp => N p (mi.sub p ((List.mem_append.mp hp).elim (mo p) id)))
  · intro h' tk' z ⟨F', N'⟩ hl
    have := hret h' tk' z F' N' (allLt_all hl)
    rw [hk]
    by_cases e : kk = nb
    · have e2 : (kk != nb) = false := by simp [e]
      rw [e2]; exact this.1 e
    · have e2 : (kk != nb) = true := by simp [e]
      rw [e2]; exact this.2 e
end


local macro_rules | `(tactic| walk_at "my off") => `(tactic| first | exact List.forall_mem_nil _ | exact List.forall_mem_cons.mpr ⟨by first | assumption | ((try dsimp only); tbn_letter; done) | exact tbn_neAll (by tbn_find) | omega -splitDisjunctions, by walk_at "my off"⟩)
local macro_rules | `(tactic| walk_at "my minus") => `(tactic| first | exact Minus.nil | ((first | (apply Minus.kp; walk_at "my off") | apply Minus.sk); walk_at "my minus") | exact Minus.tl (by walk_at "my off"))
theorem list_spec (w : World) (x dx c k sk lm dl wk dw q f nc n2 nq : Nat) (tk tkl tkw : T10) (fl nb many W field block pc pc' : Int) (tfl tr tt tp t1 t2 tb : Tok) (res v0 v1 v2 v3 v4 : Value) (code : List Value) (oc : Value) (od : Option Addr) (fd : FuncData) (sl : Array (Option Value)) (own rest : List (Addr × Obj)) (hW0 : 0 ≤ W) (hW1 : W < 2 ^ 40) (hb : W.fdiv (2 ^ Int.toNat 23) = many) (hc : Builtin.bitAnd (W.fdiv (2 ^ Int.toNat 14)) 511 = field) (hm : 1 ≤ many) (hm3 : many ≤ 3) (hp0 : 0 ≤ pc) (hp1 : pc ≤ 100) (hk0 : 1 ≤ block) (hk1 : block ≤ 3) (hf0 : 3 ≤ fl) (hf1 : fl ≤ 5)
    (hh : (field ≠ 0 ∧ block = field ∧ pc' = pc) ∨ (field = 0 ∧ code[pc.toNat]? = some (.int block tb) ∧ pc' = pc + 1)) (ha : Builtin.bitAnd (W.fdiv (2 ^ Int.toNat 6)) 255 = 0) (o1 : q < c) (o2 : c < f) (o3 : f < dw) (o4 : dw < wk) (o5 : wk < dl) (o6 : dl < lm) (o7 : lm < dx) (o8 : dx < x) (o9 : x < sk) (hrq : ∀ p ∈ rest, p.1 ≠ q) (hrd : ∀ p ∈ rest, p.1 ≠ dx) (ho : ∀ p ∈ own, p ∈ rest) (P : PutSpec w f q nb own) :
    Spec 12 w 449 ((x, instObj 508 dx) :: (dx, dictOf (stepEs w tk c k sk lm wk (.int 5 tr) (.int 5 tt) res pc tp) 9) :: (sk, stackAt v0 v1 v2 v3 v4 n2) :: (q, PySem.W.listOf #[] nq) :: (lm, instObj 95 dl) :: (dl, dictOf (limEs w tkl (.int fl tfl)) 10) :: (wk, instObj 417 dw) :: (dw, dictOf (worksEs w tkw .none .none (.ref f) .none .none .none) 6) :: (c, PySem.W.listOf code.toArray nc) :: (f, ⟨oc, od, .func fd, sl⟩) :: rest) [.ref x, .int 34 t1, .int W t2]
      (fun ok Q => ∀ h' tk' tp' nq' (arr : Array Value) (zs : List (Addr × Obj)), arr.toList = zs.map (fun p => Value.ref p.1) → Asked v0 ((block - 1) * fl) [v1, v2, v3] zs → (∀ z ∈ zs, @LT.lt Nat _ sk z.1 ∧ AllLt z.1 rest) → ok h' ((x, instObj 508 dx) :: (dx, dictOf (stepEs w tk c k sk lm wk (.int 5 tr) (.int 5 tr) res pc' tp') 9) :: (sk, stackAt v0 v1 v2 v3 v4 n2) :: (q, PySem.W.listOf arr nq') :: (lm, instObj 95 dl) :: (dl, dictOf (limEs w tkl (.int fl tfl)) 10) :: (wk, instObj 417 dw) :: (dw, dictOf (worksEs w tkw .none .none (.ref f) .none .none .none) 6) :: (c, PySem.W.listOf code.toArray nc) :: (f, ⟨oc, od, .func fd, sl⟩) :: (zs ++ rest)) →
        ((1 ≤ nb ∧ nb ≤ many ∧ (zs.length : Int) = nb → Q (.bool false) h' tk') ∧ (¬ (1 ≤ nb ∧ nb ≤ many) ∧ (zs.length : Int) = many → Q (.bool true) h' tk'))) := by
  unfold Spec
  w_top off
  k_fill
  intro p loose mean mg mb dp un gd cn cs a ccd cl outer A₀ base h₀ L m s Q E B F X N T hkd hdp hun hret
  dsimp only at hret
  refine wpAny_call ?_
  k_dflt cell_enter
  repeat' (first
      | (k_unfold; (try dsimp only))
      | (k_end; wrow_close)
      | ((with_reducible show wpAny _ _ (call (Value.ref _) _ _) _ _ _); (first
        | (with_reducible (k_here; (with_reducible show wpAny _ _ (call (Value.ref 352) _) _ _ _); k_dflt (refine' lb_use ?k1 ?k2 ?k3 ?k4 ?k5 ?k6 ?k7 ?k8 ?m1 ?hW0 ?hW1 ?hb ?hc ?hm ?hm3 ?hp0 ?hp1 ?hk0 ?hk1 ?hf0 ?hf1 ?hh ?_; (case k1 => k_asm); (case k2 => k_asm); (case k3 => k_asm); (case k4 => k_asm); (case k5 => k_asm); (case k6 => first | exact rfl | assumption); (case k7 => k_room); (case k8 => k_room); (case m1 => k_mem); (case hW0 => assumption); (case hW1 => assumption); (case hb => with_reducible assumption); (case hc => with_reducible assumption); (case hm => assumption); (case hm3 => assumption); (case hp0 => assumption); (case hp1 => assumption); (case hk0 => assumption); (case hk1 => assumption); (case hf0 => assumption); (case hf1 => assumption); (case hh => with_reducible assumption); k_whole); intro h' tk' z' t5' t6' t7' l' F' N'; (try k_lt l'); (try k_sweep)))
        | (with_reducible (k_here; (with_reducible show wpAny _ _ (call (Value.ref 35) _) _ _ _); k_dflt (refine' a_use (0) ?k1 ?k2 ?k3 ?k4 ?k5 ?k6 ?k7 ?k8 ?h0 ?h1 ?hr ?_; (case k1 => k_asm); (case k2 => k_asm); (case k3 => k_asm); (case k4 => k_asm); (case k5 => k_asm); (case k6 => first | exact rfl | assumption); (case k7 => k_room); (case k8 => k_room); (case h0 => assumption); (case h1 => assumption); (case hr => with_reducible assumption); k_whole); intro h' tk' t' F' N'; (try k_sweep)))
        | (with_reducible (k_here; (with_reducible show wpAny _ _ (call (Value.ref _) [_, _, _]) _ _ _); k_dflt (refine' put_use _ ?k1 ?k2 ?k3 ?k4 ?k5 ?k6 ?k7 ?k8 ?P ?m1 ?mi ?mo ?hz ?hk ?_; (case P => with_reducible assumption); (case k1 => k_asm); (case k2 => k_asm); (case k3 => k_asm); (case k4 => k_asm); (case k5 => k_asm); (case k6 => first | exact rfl | assumption); (case k7 => k_room); (case k8 => k_room); (case m1 => k_mem); (case mi => walk_at "my minus"); (case mo => (intro p hp; repeat' (first | (with_reducible exact (by assumption : ∀ p ∈ _, p ∈ _) p hp) | apply List.mem_cons_of_mem))); (case hz => (simp [Array.size_push])); (case hk => first | (show _ = (1 : Int); simp; done) | (show _ = (2 : Int); simp; done) | (show _ = (3 : Int); simp; done)); k_whole); intro h' tk' z' F' N' l'; (try k_lt l'); (try k_sweep); refine ⟨?_, ?_⟩ <;> intro nb'))))
      | (with_reducible (k_here; (with_reducible show wpAny _ _ (pyIter (Value.ref _)) _ _ _); k_dflt (exfalso; omega)))
      | ((with_reducible show wpAny _ _ (callWith _ (Value.ref _) _ _ _) _ _ _); first | (with_reducible (k_here; k_dflt (first | (refine' callWith_F ?k1 ?_; (case k1 => exact FnAt.of (by k_asm) (by k_mem)); k_whole) | (refine' callWith_F0 ?k1 ?_; (case k1 => exact FnAt.of (by k_asm) (by k_mem)); k_whole; try dsimp only [List.nil_append, List.cons_append])))) | (k_here; k_dflt (first | (refine' callWith_F ?k1 ?_; (case k1 => exact FnAt.of (by k_asm) (by k_mem)); k_whole) | (refine' callWith_F0 ?k1 ?_; (case k1 => exact FnAt.of (by k_asm) (by k_mem)); k_whole; try dsimp only [List.nil_append, List.cons_append]))))
      | ((with_reducible show UnrEnd ..); first | (with_reducible (refine' unrEnd_minus ?k1 ?k2 ?k3 ?k4 ?_; (case k1 => k_asm); (case k2 => k_asm); (case k3 => k_mem); (case k4 => walk_at "my minus"); (try k_sweep))) | (refine' unrEnd_minus ?k1 ?k2 ?k3 ?k4 ?_; (case k1 => k_asm); (case k2 => k_asm); (case k3 => k_mem); (case k4 => walk_at "my minus"); (try k_sweep)))
      | ((with_reducible show wpAny _ _ (subscriptTail _ _ (Value.ref _) (Value.int _ _)) _ _ _); first | (with_reducible (k_here; kim_at)) | (k_here; kim_at))
      | walk1
      | dsimp only
      | (leave1; walk_say "STEP leave1"; try dsimp only)
      | fail "no step")
  all_goals first | (exfalso; omega) | (refine' (hret _ _ _ _ _ [(_, tupO v0 (.int _ _) v1)] ?e ?as ?lt ⟨?f, ?n⟩).1 ?w; (((case e => rfl); (case f => assumption); (case n => ((try simp only [List.cons_append, List.nil_append]); (refine' cb_drop ?nn ?ss); (case nn => assumption); (case ss => ((repeat (refine List.forall_mem_cons.mpr ⟨?_, ?_⟩; k_mem)); exact sub_of (by repeat' constructor))))); (case lt => (repeat' (first | exact List.forall_mem_nil _ | (refine List.forall_mem_cons.mpr ⟨⟨?_, ?_⟩, ?_⟩))); (all_goals first | omega | tbn_find)); (case as => repeat' (first | exact Asked.nil | (refine Asked.cons (by omega) ?_))); (case w => (simp only [List.length_cons, List.length_nil]; omega)))); done) | (refine' (hret _ _ _ _ _ [(_, tupO v0 (.int _ _) v1)] ?e ?as ?lt ⟨?f, ?n⟩).2 ?w; (((case e => rfl); (case f => assumption); (case n => ((try simp only [List.cons_append, List.nil_append]); (refine' cb_drop ?nn ?ss); (case nn => assumption); (case ss => ((repeat (refine List.forall_mem_cons.mpr ⟨?_, ?_⟩; k_mem)); exact sub_of (by repeat' constructor))))); (case lt => (repeat' (first | exact List.forall_mem_nil _ | (refine List.forall_mem_cons.mpr ⟨⟨?_, ?_⟩, ?_⟩))); (all_goals first | omega | tbn_find)); (case as => repeat' (first | exact Asked.nil | (refine Asked.cons (by omega) ?_))); (case w => (simp only [List.length_cons, List.length_nil]; omega)))); done) | (refine' (hret _ _ _ _ _ [(_, tupO v0 (.int _ _) v1), (_, tupO v0 (.int _ _) v2)] ?e ?as ?lt ⟨?f, ?n⟩).1 ?w; (((case e => rfl); (case f => assumption); (case n => ((try simp only [List.cons_append, List.nil_append]); (refine' cb_drop ?nn ?ss); (case nn => assumption); (case ss => ((repeat (refine List.forall_mem_cons.mpr ⟨?_, ?_⟩; k_mem)); exact sub_of (by repeat' constructor))))); (case lt => (repeat' (first | exact List.forall_mem_nil _ | (refine List.forall_mem_cons.mpr ⟨⟨?_, ?_⟩, ?_⟩))); (all_goals first | omega | tbn_find)); (case as => repeat' (first | exact Asked.nil | (refine Asked.cons (by omega) ?_))); (case w => (simp only [List.length_cons, List.length_nil]; omega)))); done) | (refine' (hret _ _ _ _ _ [(_, tupO v0 (.int _ _) v1), (_, tupO v0 (.int _ _) v2)] ?e ?as ?lt ⟨?f, ?n⟩).2 ?w; (((case e => rfl); (case f => assumption); (case n => ((try simp only [List.cons_append, List.nil_append]); (refine' cb_drop ?nn ?ss); (case nn => assumption); (case ss => ((repeat (refine List.forall_mem_cons.mpr ⟨?_, ?_⟩; k_mem)); exact sub_of (by repeat' constructor))))); (case lt => (repeat' (first | exact List.forall_mem_nil _ | (refine List.forall_mem_cons.mpr ⟨⟨?_, ?_⟩, ?_⟩))); (all_goals first | omega | tbn_find)); (case as => repeat' (first | exact Asked.nil | (refine Asked.cons (by omega) ?_))); (case w => (simp only [List.length_cons, List.length_nil]; omega)))); done) | (refine' (hret _ _ _ _ _ [(_, tupO v0 (.int _ _) v1), (_, tupO v0 (.int _ _) v2), (_, tupO v0 (.int _ _) v3)] ?e ?as ?lt ⟨?f, ?n⟩).1 ?w; (((case e => rfl); (case f => assumption); (case n => ((try simp only [List.cons_append, List.nil_append]); (refine' cb_drop ?nn ?ss); (case nn => assumption); (case ss => ((repeat (refine List.forall_mem_cons.mpr ⟨?_, ?_⟩; k_mem)); exact sub_of (by repeat' constructor))))); (case lt => (repeat' (first | exact List.forall_mem_nil _ | (refine List.forall_mem_cons.mpr ⟨⟨?_, ?_⟩, ?_⟩))); (all_goals first | omega | tbn_find)); (case as => repeat' (first | exact Asked.nil | (refine Asked.cons (by omega) ?_))); (case w => (simp only [List.length_cons, List.length_nil]; omega)))); done) | (refine' (hret _ _ _ _ _ [(_, tupO v0 (.int _ _) v1), (_, tupO v0 (.int _ _) v2), (_, tupO v0 (.int _ _) v3)] ?e ?as ?lt ⟨?f, ?n⟩).2 ?w; (((case e => rfl); (case f => assumption); (case n => ((try simp only [List.cons_append, List.nil_append]); (refine' cb_drop ?nn ?ss); (case nn => assumption); (case ss => ((repeat (refine List.forall_mem_cons.mpr ⟨?_, ?_⟩; k_mem)); exact sub_of (by repeat' constructor))))); (case lt => (repeat' (first | exact List.forall_mem_nil _ | (refine List.forall_mem_cons.mpr ⟨⟨?_, ?_⟩, ?_⟩))); (all_goals first | omega | tbn_find)); (case as => repeat' (first | exact Asked.nil | (refine Asked.cons (by omega) ?_))); (case w => (simp only [List.length_cons, List.length_nil]; omega)))); done)


theorem News.add {h₀ h : Heap} {L : Addr} {news : List (Addr × Obj)} {p : Addr × Obj} {l : List (Addr × Obj)} (hp : p ∈ news) (N : News h₀ L h news) (hl : News h₀ L h l) : News h₀ L h (p :: l) := News.cons2 N hp hl
theorem Minus.two {a b : Addr} {l : List (Addr × Obj)} (h : ∀ p ∈ l, p.1 ≠ a) (k : ∀ p ∈ l, p.1 ≠ b) : Minus [a, b] l l := .all fun p hp x hx => by
  rcases List.mem_cons.mp hx with e | hx
  · exact e ▸ h p hp
  · exact (List.mem_singleton.mp hx) ▸ k p hp
inductive TailOf : List (Addr × Obj) → List (Addr × Obj) → List (Addr × Obj) → Prop where
  | base {tl} : TailOf tl [] tl
  | step {p r l tl} : TailOf r l tl → TailOf (p :: r) (p :: l) tl
theorem TailOf.sq {pzq : Addr × Obj} {rzq lzq tzq : List (Addr × Obj)} (hzq : TailOf rzq lzq tzq) : TailOf (pzq :: rzq) (pzq :: lzq) tzq := .step hzq
theorem TailOf.eq {r l tl : List (Addr × Obj)} (h : TailOf r l tl) : r = l ++ tl := by
  induction h with
  | base => rfl
  | step _ ih => rw [ih]; rfl
theorem News.sub {h₀ h : Heap} {L : Addr} {l k : List (Addr × Obj)} (N : News h₀ L h l) (s : ∀ p ∈ k, p ∈ l) : News h₀ L h k := fun p hp => N p (s p hp)
section
variable {w : World} {news rest : List (Addr × Obj)} {p : Program} {loose : List Str} {mean : ExcName → Option Value} {mg mb : Str → Option Value} {dp un : Nat} {gd : Option (List Code)} {cn : Str} {cs : Scope} {a : Addr} {ccd : Value} {cl : List (Str × Addr)} {outer : List Env} {A₀ : Around} {base h₀ : Heap} {L : Addr} {m : Str → Option Value} {s : Shared} {Q E : Value → Shared → Prop}
theorem move_use {x dx c k sk lm wk : Nat} {tk : T10} {room top res v0 v1 v2 v3 v4 : Value} {pc : Int} {tp t1 t2 : Tok} {n2 : Nat} (B : Below A₀ base outer h₀) (F : Fr h₀ L s.heap m) (X : (Mine.heap w.params).In h₀) (N : News h₀ L s.heap news) (T : Top p loose mean mg mb h₀) (hkd : cs.kind = .function) (hdp : dp + 12 < recursionLimit) (hun : un + 64 * 12 < cLine) (m1 : (x, instObj 508 dx) ∈ news) (m2 : (dx, dictOf (stepEs w tk c k sk lm wk room top res pc tp) 9) ∈ news) (m3 : (sk, stackAt v0 v1 v2 v3 v4 n2) ∈ news) (mi : Minus [dx, sk] news rest) (hx : dx < x) (hs : x < sk) (hp0 : 0 ≤ pc) (hp1 : pc ≤ 100)
    (hret : ∀ h' tk' tp', Fr h₀ L h' m → News h₀ L h' ((dx, dictOf (stepEs w tk c k sk lm wk room top res pc tp') 9) :: (sk, stackAt v0 v1 v2 v3 v1 n2) :: rest) → Q (.bool true) { s with heap := h', toks := tk' }) :
    wpAny (model PySem.Challenge.rw_rh0164_01.row.prog w) (ktrTop dp un gd cn cs L a ccd cl outer) (call (.ref 449) [.ref x, .int 0 t1, .int 8388864 t2]) Q E s := by
  refine move_spec w x dx c k sk lm wk tk room top res v0 v1 v2 v3 v4 pc tp t1 t2 n2 rest hp0 hp1 hx hs (fun p hp => mi.off p hp dx (.head _)) (fun p hp => mi.off p hp sk (.tail _ (.head _))) p loose mean mg mb dp un gd cn cs a ccd cl outer A₀ base h₀ L m s Q E B F X (News.add m1 N (News.add m2 N (News.add m3 N (cb_drop N mi.sub)))) T hkd hdp hun ?_
  intro h' tk' tp' ⟨F', N'⟩
  exact hret h' tk' tp' F' (fun q hq => N' q (.tail _ hq))
theorem ret_use {x dx c k sk lm wk : Nat} {tk : T10} {room top res v0 v1 v2 v3 v4 : Value} {pc : Int} {tp t1 t2 : Tok} {n2 : Nat} (B : Below A₀ base outer h₀) (F : Fr h₀ L s.heap m) (X : (Mine.heap w.params).In h₀) (N : News h₀ L s.heap news) (T : Top p loose mean mg mb h₀) (hkd : cs.kind = .function) (hdp : dp + 12 < recursionLimit) (hun : un + 64 * 12 < cLine) (m1 : (x, instObj 508 dx) ∈ news) (m2 : (dx, dictOf (stepEs w tk c k sk lm wk room top res pc tp) 9) ∈ news) (m3 : (sk, stackAt v0 v1 v2 v3 v4 n2) ∈ news) (mi : Minus [dx, sk] news rest) (hx : dx < x) (hs : x < sk)
    (hret : ∀ h' tk' (r : Nat), Fr h₀ L h' m → News h₀ L h' ((r, PySem.W.listOf #[v0] 0) :: (dx, dictOf (stepEs w tk c k sk lm wk room top (.ref r) pc tp) 9) :: (sk, stackAt v0 v1 v2 v3 v4 n2) :: rest) → Q (.bool true) { s with heap := h', toks := tk' }) :
    wpAny (model PySem.Challenge.rw_rh0164_01.row.prog w) (ktrTop dp un gd cn cs L a ccd cl outer) (call (.ref 449) [.ref x, .int 30 t1, .int 16777246 t2]) Q E s := by
  refine ret_spec w x dx c k sk lm wk tk room top res v0 v1 v2 v3 v4 pc tp t1 t2 n2 rest hx hs (fun p hp => mi.off p hp dx (.head _)) (fun p hp => mi.off p hp sk (.tail _ (.head _))) p loose mean mg mb dp un gd cn cs a ccd cl outer A₀ base h₀ L m s Q E B F X (News.add m1 N (News.add m2 N (News.add m3 N (cb_drop N mi.sub)))) T hkd hdp hun ?_
  intro h' tk' r ⟨F', N'⟩
  exact hret h' tk' r F' (fun q hq => N' q ((List.mem_cons.mp hq).elim (fun e => e ▸ .head _) fun y => .tail _ (.tail _ y)))
theorem sum_use {x dx c k sk lm dl wk : Nat} {tk tkl : T10} {fl room top res v2 v3 v4 : Value} {pc : Int} {tp t1 t2 t3 t4 : Tok} {n2 : Nat} (B : Below A₀ base outer h₀) (F : Fr h₀ L s.heap m) (X : (Mine.heap w.params).In h₀) (N : News h₀ L s.heap news) (T : Top p loose mean mg mb h₀) (hkd : cs.kind = .function) (hdp : dp + 12 < recursionLimit) (hun : un + 64 * 12 < cLine) (m1 : (x, instObj 508 dx) ∈ news) (m2 : (dx, dictOf (stepEs w tk c k sk lm wk room top res pc tp) 9) ∈ news) (m3 : (sk, stackAt (.bytes #[116] t3) (.int 31 t4) v2 v3 v4 n2) ∈ news) (m4 : (lm, instObj 95 dl) ∈ news) (m5 : (dl, dictOf (limEs w tkl fl) 10) ∈ news) (mi : Minus [dx, sk] news rest) (hx : dx < x) (hs : x < sk) (hl1 : dl < lm) (hl2 : lm < dx)
    (hret : ∀ h' tk', Fr h₀ L h' m → News h₀ L h' ((dx, dictOf (stepEs w tk c k sk lm wk room top res pc tp) 9) :: (sk, stackAt (.bytes #[116] t3) (.int 31 t4) v2 v3 v4 n2) :: rest) → Q (.bool false) { s with heap := h', toks := tk' }) :
    wpAny (model PySem.Challenge.rw_rh0164_01.row.prog w) (ktrTop dp un gd cn cs L a ccd cl outer) (call (.ref 449) [.ref x, .int 12 t1, .int 16652 t2]) Q E s := by
  refine sum_spec w x dx c k sk lm dl wk tk tkl fl room top res v2 v3 v4 pc tp t1 t2 t3 t4 n2 rest hx hs (fun p hp => mi.off p hp dx (.head _)) (fun p hp => mi.off p hp sk (.tail _ (.head _))) hl1 (by omega) (by omega) p loose mean mg mb dp un gd cn cs a ccd cl outer A₀ base h₀ L m s Q E B F X (News.add m1 N (News.add m2 N (News.add m3 N (News.add m4 N (News.add m5 N (cb_drop N mi.sub)))))) T hkd hdp hun ?_
  intro h' tk' ⟨F', N'⟩
  exact hret h' tk' F' (fun q hq => N' q (.tail _ ((List.mem_cons.mp hq).elim (fun e => e ▸ .head _) fun y => .tail _ ((List.mem_cons.mp y).elim (fun e => e ▸ .head _) fun y => .tail _ (.tail _ (.tail _ y))))))
theorem list_use {x dx c k sk lm dl wk dw q f nc n2 nq : Nat} {tk tkl tkw : T10} {fl nb many W field block pc pc' : Int} {tfl tr tt tp t1 t2 tb : Tok} {res v0 v1 v2 v3 v4 : Value} {code : List Value} {oc : Value} {od : Option Addr} {fd : FuncData} {sl : Array (Option Value)} {own lit tl : List (Addr × Obj)} (B : Below A₀ base outer h₀) (F : Fr h₀ L s.heap m) (X : (Mine.heap w.params).In h₀) (N : News h₀ L s.heap news) (T : Top p loose mean mg mb h₀) (hkd : cs.kind = .function) (hdp : dp + 12 < recursionLimit) (hun : un + 64 * 12 < cLine)
    (m1 : (x, instObj 508 dx) ∈ news) (m2 : (dx, dictOf (stepEs w tk c k sk lm wk (.int 5 tr) (.int 5 tt) res pc tp) 9) ∈ news) (m3 : (sk, stackAt v0 v1 v2 v3 v4 n2) ∈ news) (m4 : (q, PySem.W.listOf #[] nq) ∈ news) (m5 : (lm, instObj 95 dl) ∈ news) (m6 : (dl, dictOf (limEs w tkl (.int fl tfl)) 10) ∈ news) (m7 : (wk, instObj 417 dw) ∈ news) (m8 : (dw, dictOf (worksEs w tkw .none .none (.ref f) .none .none .none) 6) ∈ news) (m9 : (c, PySem.W.listOf code.toArray nc) ∈ news) (m10 : (f, ⟨oc, od, .func fd, sl⟩) ∈ news)
    (mi : Minus [q, dx] news rest) (mt : TailOf rest lit tl) (hW0 : 0 ≤ W) (hW1 : W < 2 ^ 40) (hb : W.fdiv (2 ^ Int.toNat 23) = many) (hc : Builtin.bitAnd (W.fdiv (2 ^ Int.toNat 14)) 511 = field) (hm : 1 ≤ many) (hm3 : many ≤ 3) (hp0 : 0 ≤ pc) (hp1 : pc ≤ 100) (hk0 : 1 ≤ block) (hk1 : block ≤ 3) (hf0 : 3 ≤ fl) (hf1 : fl ≤ 5)
    (hh : (field ≠ 0 ∧ block = field ∧ pc' = pc) ∨ (field = 0 ∧ code[pc.toNat]? = some (.int block tb) ∧ pc' = pc + 1)) (ha : Builtin.bitAnd (W.fdiv (2 ^ Int.toNat 6)) 255 = 0)
    (o1 : q < c) (o2 : c < f) (o3 : f < dw) (o4 : dw < wk) (o5 : wk < dl) (o6 : dl < lm) (o7 : lm < dx) (o8 : dx < x) (o9 : x < sk) (ho : ∀ p ∈ own, p ∈ rest) (P : PutSpec w f q nb own) (hts : ∀ p ∈ tl, p.1 ≠ sk) {I : Nat} {ia ib : Int} (mI : (I, itR ia ib) ∈ rest) (hIt : ∀ p ∈ tl, p.1 ≠ I)
    (hret : ∀ h' tk' tp' nq' (arr : Array Value) (zs tl2 : List (Addr × Obj)), arr.toList = zs.map (fun p => Value.ref p.1) → Asked v0 ((block - 1) * fl) [v1, v2, v3] zs → (∀ z ∈ zs, AllLt z.1 tl) → (∀ p ∈ zs, p ∈ tl2) → (∀ p ∈ tl, p ∈ tl2) → (∀ p ∈ tl2, p.1 ≠ dx) → (∀ p ∈ tl2, p.1 ≠ sk) → (∀ p ∈ tl2, p.1 ≠ I) →
      Fr h₀ L h' m → News h₀ L h' ((dx, dictOf (stepEs w tk c k sk lm wk (.int 5 tr) (.int 5 tr) res pc' tp') 9) :: (q, PySem.W.listOf arr nq') :: (lit ++ tl2)) →
      ((1 ≤ nb ∧ nb ≤ many ∧ (zs.length : Int) = nb → Q (.bool false) { s with heap := h', toks := tk' }) ∧ (¬ (1 ≤ nb ∧ nb ≤ many) ∧ (zs.length : Int) = many → Q (.bool true) { s with heap := h', toks := tk' }))) :
    wpAny (model PySem.Challenge.rw_rh0164_01.row.prog w) (ktrTop dp un gd cn cs L a ccd cl outer) (call (.ref 449) [.ref x, .int 34 t1, .int W t2]) Q E s := by
  have hd := fun p hp => mi.off p hp dx (.tail _ (.head _))
  refine list_spec w x dx c k sk lm dl wk dw q f nc n2 nq tk tkl tkw fl nb many W field block pc pc' tfl tr tt tp t1 t2 tb res v0 v1 v2 v3 v4 code oc od fd sl own rest hW0 hW1 hb hc hm hm3 hp0 hp1 hk0 hk1 hf0 hf1 hh ha o1 o2 o3 o4 o5 o6 o7 o8 o9 (fun p hp => mi.off p hp q (.head _)) hd ho P p loose mean mg mb dp un gd cn cs a ccd cl outer A₀ base h₀ L m s Q E B F X
    (News.add m1 N (News.add m2 N (News.add m3 N (News.add m4 N (News.add m5 N (News.add m6 N (News.add m7 N (News.add m8 N (News.add m9 N (News.add m10 N (cb_drop N mi.sub))))))))))) T hkd hdp hun ?_
  intro h' tk' tp' nq' arr zs h1 h2 h3 ⟨F', N'⟩
  have e := mt.eq
  subst e
  refine hret h' tk' tp' nq' arr zs (zs ++ tl) h1 h2 (fun z hz => allLt_of fun p hp => allLt_all (h3 z hz).2 p (List.mem_append_right _ hp)) (fun p hp => List.mem_append_left _ hp) (fun p hp => List.mem_append_right _ hp) (fun p hp => ?_) (fun p hp => ?_) (fun p hp => ?_) F' (cb_drop N' fun p hp => ?_)
  · rcases List.mem_append.mp hp with hp | hp
    · have : @LT.lt Nat _ sk p.1 := (h3 p hp).1
      intro e; rw [e] at this; exact absurd this (by omega)
    · exact hd p (List.mem_append_right _ hp)
  · rcases List.mem_append.mp hp with hp | hp
    · have : @LT.lt Nat _ sk p.1 := (h3 p hp).1
      intro e; rw [e] at this; exact absurd this (by omega)
    · exact hts p hp
  · rcases List.mem_append.mp hp with hp | hp
    · exact (Nat.ne_of_lt (allLt_all (h3 p hp).2 _ mI)).symm
    · exact hIt p hp
  · simp only [List.mem_cons, List.mem_append] at hp ⊢
    rcases hp with hp | hp | hp | hp | hp <;> simp [hp]
end


theorem kim_su {prog : Program} {w : World} {A : Around} {E : Value → Shared → Prop} {s : Shared} {h₀ : Heap} {L : Addr} {news : List (Addr × Obj)} {nm : Str} {ps : Pos} {slice : Expr} {a : Addr} {lo : Obj} {l : List Value} {n : Nat} {k : Int} {u : Tok} {su : Bool} {x y : Int} {t : Tok} {Q : Value → Shared → Prop} (N : News h₀ L s.heap news) (hm : (a, lo) ∈ news) (hc : lo.cls = .type "list") (hd : lo.data = .seq l.toArray n) (h0 : 0 ≤ k) (hfit : k < 2 ^ 63) (hx : l[k.toNat]? = some (.int (if su = true then x else y) t)) (h1 : su = true → Q (.int x t) s) (h2 : su = false → Q (.int y t) s)
    (hs : subscripted slice false (.ref a) (.int k u) = operate [.ref a, .int k u] (getItem (.ref a) (.int k u)) := by with_unfolding_all rfl) :
    wpAny (model prog w) A (subscriptTail (PySem.Expr.Name nm ps) slice (.ref a) (.int k u)) Q E s := by
  cases su with
  | true => exact kim_list N hm hc hd h0 hfit hx (h1 rfl) hs
  | false => exact kim_list N hm hc hd h0 hfit hx (h2 rfl) hs
theorem sub_app {a b c : List (Addr × Obj)} (h : ∀ p ∈ a, p ∈ c) (k : ∀ p ∈ b, p ∈ c) : ∀ p ∈ a ++ b, p ∈ c := fun p hp => (List.mem_append.mp hp).elim (h p) (k p)


theorem rr_mono {prog : Program} {w : World} {A : Around} {E : Value → Shared → Prop} {h₀ : Heap} {env : Env} {y : Str} {body : List Stmt} {Q : Flow → Shared → Prop} {s : Shared} {I : Addr} {a : Int} {n k i : Nat} {m : Str → Option Value} {l1 l2 : List (Addr × Obj)} (sub : ∀ p ∈ l1, p ∈ l2) (h : RangeRest prog w A E h₀ env y body Q s I a n k i m l1) : RangeRest prog w A E h₀ env y body Q s I a n k i m l2 := by
  cases k with
  | zero => exact fun h' tk F N => h h' tk F (fun p hp => N p (sub p hp))
  | succ k => exact fun t h' tk F N => h t h' tk F (fun p hp => N p ((List.mem_cons.mp hp).elim (fun e => e ▸ .head _) fun q => .tail _ (sub p q)))
abbrev runStored : List Str := [Str.ofString "turn", Str.ofString "place", Str.ofString "instruction"]
abbrev runMap (u m₁ : Str → Option Value) : Str → Option Value := fun y => if runStored.contains y then u y else m₁ y
theorem run_map {m' m₁ : Str → Option Value} (h : ∀ y, runStored.contains y = false → m' y = m₁ y) : m' = runMap m' m₁ := by
  funext y
  cases e : runStored.contains y with
  | true => simp only [runMap, e, if_true]
  | false => rw [h y e]; simp only [runMap, e, Bool.false_eq_true, if_false]
theorem moves_loop {prog : Program} {w : World} {A : Around} {E : Value → Shared → Prop} {h₀ : Heap} {env : Env} {body : List Stmt} {Q : Flow → Shared → Prop} {s : Shared} {rg : Addr} {t₀ u₀ v₀ : Tok} {m₀ : Str → Option Value}
    {x dx c k sk lm wk n2 : Nat} {tk : T10} {tr tt tp u0 u1 : Tok} {v2 v3 v4 : Value} {tl : List (Addr × Obj)} (n : Nat) (hn : n ≤ 3)
    (hh : A.handled = none) (hr : IsRange s.heap rg 0 9 1 t₀ u₀ v₀) (F : Fr h₀ env.locals s.heap m₀) (N : News h₀ env.locals s.heap ((x, instObj 508 dx) :: (dx, dictOf (stepEs w tk c k sk lm wk (.int 5 tr) (.int 5 tt) .none 0 tp) 9) :: (sk, stackAt (.bytes #[116] u0) (.int 31 u1) v2 v3 v4 n2) :: tl))
    (mov : ∀ (I kk i : Nat) (u : Str → Option Value) (pc : Int) (tp : Tok) (v4 : Value), (∀ p ∈ ((x, instObj 508 dx) :: (dx, dictOf (stepEs w tk c k sk lm wk (.int 5 tr) (.int 5 tt) .none pc tp) 9) :: (sk, stackAt (.bytes #[116] u0) (.int 31 u1) v2 v3 v4 n2) :: tl), p.1 < I) → i < n → pc = (i : Int) → (∀ m' tp', (∀ y, runStored.contains y = false → m' y = m₀ y) → RangeRest prog w A E h₀ env (Str.ofString "turn") body Q s I 0 9 kk (i + 1) m' ((x, instObj 508 dx) :: (dx, dictOf (stepEs w tk c k sk lm wk (.int 5 tr) (.int 5 tt) .none (pc + 1) tp') 9) :: (sk, stackAt (.bytes #[116] u0) (.int 31 u1) v2 v3 (.int 31 u1) n2) :: tl)) → RangeRest prog w A E h₀ env (Str.ofString "turn") body Q s I 0 9 (kk + 1) i (runMap u m₀) ((x, instObj 508 dx) :: (dx, dictOf (stepEs w tk c k sk lm wk (.int 5 tr) (.int 5 tt) .none pc tp) 9) :: (sk, stackAt (.bytes #[116] u0) (.int 31 u1) v2 v3 v4 n2) :: tl))
    (suf : ∀ (I kk : Nat) (u : Str → Option Value) (pc : Int) (tp : Tok) (v4 : Value), (∀ p ∈ ((x, instObj 508 dx) :: (dx, dictOf (stepEs w tk c k sk lm wk (.int 5 tr) (.int 5 tt) .none pc tp) 9) :: (sk, stackAt (.bytes #[116] u0) (.int 31 u1) v2 v3 v4 n2) :: tl), p.1 < I) → pc = (n : Int) → RangeRest prog w A E h₀ env (Str.ofString "turn") body Q s I 0 9 (kk + 2) n (runMap u m₀) ((x, instObj 508 dx) :: (dx, dictOf (stepEs w tk c k sk lm wk (.int 5 tr) (.int 5 tt) .none pc tp) 9) :: (sk, stackAt (.bytes #[116] u0) (.int 31 u1) v2 v3 v4 n2) :: tl)) :
    wpAny (model prog w) A (pyIter (.ref rg)) (fun it s₂ => LoopAtV prog w A h₀ env (Str.ofString "turn") body Q E it s₂) E s := by
  refine iter_rangeUnr (n := 9) hh hr (by decide) (by decide) F N ?_
  intro I hI
  have hdx : @LT.lt Nat _ dx I := hI _ (.tail _ (.head _))
  have hsk : @LT.lt Nat _ sk I := hI _ (.tail _ (.tail _ (.head _)))
  have hI2 : ∀ (pc : Int) (tp : Tok) (v4 : Value), ∀ p ∈ ((x, instObj 508 dx) :: (dx, dictOf (stepEs w tk c k sk lm wk (.int 5 tr) (.int 5 tt) .none pc tp) 9) :: (sk, stackAt (.bytes #[116] u0) (.int 31 u1) v2 v3 v4 n2) :: tl), p.1 < I := by
    intro pc tp v4 p hp
    simp only [List.mem_cons] at hp
    rcases hp with rfl | rfl | rfl | hp
    · exact hI _ (.head _)
    · exact hdx
    · exact hsk
    · exact hI p (.tail _ (.tail _ (.tail _ hp)))
  have go : ∀ (d i : Nat) (m' : Str → Option Value) (pc : Int) (tp : Tok) (v4 : Value), d + i = n → pc = (i : Int) → (∀ y, runStored.contains y = false → m' y = m₀ y) → RangeRest prog w A E h₀ env (Str.ofString "turn") body Q s I 0 9 (6 - n + d + 2 + 1) i m' ((x, instObj 508 dx) :: (dx, dictOf (stepEs w tk c k sk lm wk (.int 5 tr) (.int 5 tt) .none pc tp) 9) :: (sk, stackAt (.bytes #[116] u0) (.int 31 u1) v2 v3 v4 n2) :: tl) := by
    intro d
    induction d with
    | zero =>
      intro i m' pc tp v4 h1 h2 h3
      have e : i = n := by omega
      subst e
      rw [run_map h3]
      exact suf I (6 - i + 1) m' pc tp v4 (hI2 pc tp v4) h2
    | succ d ih =>
      intro i m' pc tp v4 h1 h2 h3
      rw [run_map h3]
      exact mov I (6 - n + d + 2 + 1) i m' pc tp v4 (hI2 pc tp v4) (by omega) h2 (fun m'' tp'' h4 => ih (i + 1) m'' (pc + 1) tp'' (.int 31 u1) (by omega) (by omega) h4)
  have g := go n 0 m₀ 0 tp v4 (by omega) rfl (fun _ _ => rfl)
  have e9 : 6 - n + n + 2 + 1 = 9 := by omega
  rw [e9] at g
  exact g
theorem not_run {z : Str} (hs : runStored.contains z = false) : ∀ y ∈ runStored, z ≠ y := by
  intro y hy e
  subst e
  exact absurd hs (by simp [hy])


theorem run_gen (w : World) (x dx c k sk lm dl wk dw q f nc n2 nq : Nat) (tk tkl tkw : T10) (fl nb many W field block e : Int) (tfl tr tt tp t1 tB tC tb u0 u1 : Tok) (v2 v3 v4 : Value) (code : List Value) (oc : Value) (od : Option Addr) (fd : FuncData) (sl : Array (Option Value)) (own rest : List (Addr × Obj)) (su : Bool) (n : Nat) (hn : n ≤ 3) (hW0 : 0 ≤ W) (hW1 : W < 2 ^ 40) (hb : W.fdiv (2 ^ Int.toNat 23) = many) (hc : Builtin.bitAnd (W.fdiv (2 ^ Int.toNat 14)) 511 = field) (hm : 1 ≤ many) (hm3 : many ≤ 3) (hk0 : 1 ≤ block) (hk1 : block ≤ 3) (hf0 : 3 ≤ fl) (hf1 : fl ≤ 5)
    (hh : (field ≠ 0 ∧ block = field ∧ e = (n : Int) + 1) ∨ (field = 0 ∧ code[((n : Int) + 1).toNat]? = some (.int block tb) ∧ e = (n : Int) + 1 + 1)) (ha : Builtin.bitAnd (W.fdiv (2 ^ Int.toNat 6)) 255 = 0) (hop : Builtin.bitAnd W 63 = 34) (hA : ∀ j, j < n → ∃ t, code[j]? = some (.int 8388864 t)) (hL : code[(n : Int).toNat]? = some (.int W tB)) (he0 : 0 ≤ e) (he1 : e ≤ 10) (hE : code[e.toNat]? = some (.int (if su then 16652 else 16777246) tC)) (o1 : q < c) (o2 : c < f) (o3 : f < dw) (o4 : dw < wk) (o5 : wk < dl) (o6 : dl < lm) (o7 : lm < dx) (o8 : dx < x) (o9 : x < sk) (hrq : ∀ p ∈ rest, p.1 ≠ q) (hrd : ∀ p ∈ rest, p.1 ≠ dx) (hrs : ∀ p ∈ rest, p.1 ≠ sk) (ho : ∀ p ∈ own, p ∈ rest) (P : PutSpec w f q nb own) :
    Spec 20 w 442 ((x, instObj 508 dx) :: (dx, dictOf (stepEs w tk c k sk lm wk (.int 5 tr) (.int 5 tt) .none 0 tp) 9) :: (sk, stackAt (.bytes #[116] u0) (.int 31 u1) v2 v3 v4 n2) :: (q, PySem.W.listOf #[] nq) :: (lm, instObj 95 dl) :: (dl, dictOf (limEs w tkl (.int fl tfl)) 10) :: (wk, instObj 417 dw) :: (dw, dictOf (worksEs w tkw .none .none (.ref f) .none .none .none) 6) :: (c, PySem.W.listOf code.toArray nc) :: (f, ⟨oc, od, .func fd, sl⟩) :: rest) [.ref x, .int 9 t1] (fun ok Q => ∀ h' tk' (z : Nat) (zs : List (Addr × Obj)) (arr : Array Value) nq' (te : Tok), arr.toList = zs.map (fun p => Value.ref p.1) → Asked (.bytes #[116] u0) ((block - 1) * fl) [.int 31 u1, v2, v3] zs →
        ((1 ≤ nb ∧ nb ≤ many ∧ (zs.length : Int) = nb → ok h' ((z, ⟨.type "tuple", none, .seq #[.str (Str.ofString "stopped") 774, .int (n : Int) te], #[]⟩) :: (q, PySem.W.listOf arr nq') :: (zs ++ rest)) → Q (.ref z) h' tk') ∧
        (¬ (1 ≤ nb ∧ nb ≤ many) ∧ (zs.length : Int) = many → su = true → ok h' ((z, ⟨.type "tuple", none, .seq #[.str (Str.ofString "stopped") 774, .int e te], #[]⟩) :: (q, PySem.W.listOf arr nq') :: (zs ++ rest)) → Q (.ref z) h' tk') ∧
        (¬ (1 ≤ nb ∧ nb ≤ many) ∧ (zs.length : Int) = many → su = false → ∀ r : Nat, ok h' ((z, ⟨.type "tuple", none, .seq #[.str (Str.ofString "back") 772, .ref r], #[]⟩) :: (r, PySem.W.listOf #[.bytes #[116] u0] 0) :: (q, PySem.W.listOf arr nq') :: (zs ++ rest)) → Q (.ref z) h' tk'))) := by
  unfold Spec
  w_top off
  k_fill
  intro p loose mean mg mb dp un gd cn cs a ccd cl outer A₀ base h₀ L m s Q E B F X N T hkd hdp hun hret
  dsimp only at hret
  refine wpAny_call ?_
  k_dflt cell_enter
  iterate 11 (first | (k_unfold; (try dsimp only)) | (k_end; wrow_close) | ((with_reducible show wpAny _ _ (call (Value.ref _) _ _) _ _ _); (first | (with_reducible (k_here; (with_reducible show wpAny _ _ (call (Value.ref 449) [_, Value.int 34 _, _]) _ _ _); k_dflt (refine' list_use ?k1 ?k2 ?k3 ?k4 ?k5 ?k6 ?k7 ?k8 ?m1 ?m2 ?m3 ?m4 ?m5 ?m6 ?m7 ?m8 ?m9 ?m10 ?mi ?mt ?hW0 ?hW1 ?hb ?hc ?hm ?hm3 ?hp0 ?hp1 ?hk0 ?hk1 ?hf0 ?hf1 ?hh ?ha ?o1 ?o2 ?o3 ?o4 ?o5 ?o6 ?o7 ?o8 ?o9 ?ho ?P ?hts ?mI ?hIt ?_; (case P => with_reducible assumption); (case k1 => k_asm); (case k2 => k_asm); (case k3 => k_asm); (case k4 => k_asm); (case k5 => k_asm); (case k6 => first | exact rfl | assumption); (case k7 => k_room); (case k8 => k_room); (case m1 => k_mem); (case m2 => k_mem); (case m3 => k_mem); (case m4 => k_mem); (case m5 => k_mem); (case m6 => k_mem); (case m7 => k_mem); (case m8 => k_mem); (case m9 => k_mem); (case m10 => k_mem); (case mi => walk_at "my minus"); (case mt => ((repeat apply TailOf.sq); exact TailOf.base)); (case hW0 => with_reducible assumption); (case hW1 => with_reducible assumption); (case hb => with_reducible assumption); (case hc => with_reducible assumption); (case hm => with_reducible assumption); (case hm3 => with_reducible assumption); (case hp0 => first | decide | omega); (case hp1 => first | decide | omega); (case hk0 => with_reducible assumption); (case hk1 => with_reducible assumption); (case hf0 => with_reducible assumption); (case hf1 => with_reducible assumption); (case hh => first | with_reducible assumption | ((simp only [Int.zero_add, Int.reduceAdd, Int.reduceToNat]); with_reducible assumption)); (case ha => with_reducible assumption); (case o1 => with_reducible assumption); (case o2 => with_reducible assumption); (case o3 => with_reducible assumption); (case o4 => with_reducible assumption); (case o5 => with_reducible assumption); (case o6 => with_reducible assumption); (case o7 => with_reducible assumption); (case o8 => with_reducible assumption); (case o9 => with_reducible assumption); (case ho => ((intro p hp); (repeat' (first | (with_reducible exact (by assumption : ∀ p ∈ _, p ∈ _) p hp) | apply List.mem_cons_of_mem)))); (case hts => with_reducible assumption); (case mI => k_mem); (case hIt => exact fun p hp => Nat.ne_of_lt (allLt_all (by tbn_find) p hp)); k_whole); intro h' tk' tp' nq' arr' zs' tl' e1' e2' e3' e4' e5' e6' e7' e8' F' N'; (try simp only [List.cons_append, List.nil_append] at N'); (try k_sweep); refine ⟨?_, ?_⟩ <;> intro nb')) | (with_reducible (k_here; (with_reducible show wpAny _ _ (call (Value.ref 449) [_, Value.int 12 _, _]) _ _ _); k_dflt (refine' sum_use ?k1 ?k2 ?k3 ?k4 ?k5 ?k6 ?k7 ?k8 ?m1 ?m2 ?m3 ?m4 ?m5 ?mi ?hx ?hs ?hl1 ?hl2 ?_; (case k1 => k_asm); (case k2 => k_asm); (case k3 => k_asm); (case k4 => k_asm); (case k5 => k_asm); (case k6 => first | exact rfl | assumption); (case k7 => k_room); (case k8 => k_room); (case m1 => k_mem); (case m2 => k_mem); (case m3 => k_mem); (case m4 => k_mem); (case m5 => k_mem); (case mi => walk_at "my minus"); (case hx => assumption); (case hs => assumption); (case hl1 => assumption); (case hl2 => assumption); k_whole); intro h' tk' F' N'; (try k_sweep))) | (with_reducible (k_here; (with_reducible show wpAny _ _ (call (Value.ref 449) [_, Value.int 30 _, _]) _ _ _); k_dflt (refine' ret_use ?k1 ?k2 ?k3 ?k4 ?k5 ?k6 ?k7 ?k8 ?m1 ?m2 ?m3 ?mi ?hx ?hs ?_; (case k1 => k_asm); (case k2 => k_asm); (case k3 => k_asm); (case k4 => k_asm); (case k5 => k_asm); (case k6 => first | exact rfl | assumption); (case k7 => k_room); (case k8 => k_room); (case m1 => k_mem); (case m2 => k_mem); (case m3 => k_mem); (case mi => walk_at "my minus"); (case hx => assumption); (case hs => assumption); k_whole); intro h' tk' r' F' N'; (try k_sweep))) | (with_reducible (k_here; (with_reducible show wpAny _ _ (call (Value.ref 449) [_, Value.int 0 _, _]) _ _ _); k_dflt (refine' move_use ?k1 ?k2 ?k3 ?k4 ?k5 ?k6 ?k7 ?k8 ?m1 ?m2 ?m3 ?mi ?hx ?hs ?hp0 ?hp1 ?_; (case k1 => k_asm); (case k2 => k_asm); (case k3 => k_asm); (case k4 => k_asm); (case k5 => k_asm); (case k6 => first | exact rfl | assumption); (case k7 => k_room); (case k8 => k_room); (case m1 => k_mem); (case m2 => k_mem); (case m3 => k_mem); (case mi => walk_at "my minus"); (case hx => assumption); (case hs => assumption); (case hp0 => first | decide | omega); (case hp1 => first | decide | omega); k_whole); intro h' tk' tp' F' N'; (try k_sweep))) | (with_reducible (k_here; (with_reducible show wpAny _ _ (call (Value.ref 28) _) _ _ _); k_dflt (refine' op_use (34) ?k1 ?k2 ?k3 ?k4 ?k5 ?k6 ?k7 ?k8 ?h0 ?h1 ?hr ?_; (case k1 => k_asm); (case k2 => k_asm); (case k3 => k_asm); (case k4 => k_asm); (case k5 => k_asm); (case k6 => first | exact rfl | assumption); (case k7 => k_room); (case k8 => k_room); (case h0 => first | decide | assumption); (case h1 => first | decide | assumption); (case hr => first | with_reducible assumption | decide +kernel); k_whole); intro h' tk' t' F' N'; (try k_sweep))) | (with_reducible (k_here; (with_reducible show wpAny _ _ (call (Value.ref 28) _) _ _ _); k_dflt (refine' op_use (30) ?k1 ?k2 ?k3 ?k4 ?k5 ?k6 ?k7 ?k8 ?h0 ?h1 ?hr ?_; (case k1 => k_asm); (case k2 => k_asm); (case k3 => k_asm); (case k4 => k_asm); (case k5 => k_asm); (case k6 => first | exact rfl | assumption); (case k7 => k_room); (case k8 => k_room); (case h0 => first | decide | assumption); (case h1 => first | decide | assumption); (case hr => first | with_reducible assumption | decide +kernel); k_whole); intro h' tk' t' F' N'; (try k_sweep))) | (with_reducible (k_here; (with_reducible show wpAny _ _ (call (Value.ref 28) _) _ _ _); k_dflt (refine' op_use (12) ?k1 ?k2 ?k3 ?k4 ?k5 ?k6 ?k7 ?k8 ?h0 ?h1 ?hr ?_; (case k1 => k_asm); (case k2 => k_asm); (case k3 => k_asm); (case k4 => k_asm); (case k5 => k_asm); (case k6 => first | exact rfl | assumption); (case k7 => k_room); (case k8 => k_room); (case h0 => first | decide | assumption); (case h1 => first | decide | assumption); (case hr => first | with_reducible assumption | decide +kernel); k_whole); intro h' tk' t' F' N'; (try k_sweep))) | (with_reducible (k_here; (with_reducible show wpAny _ _ (call (Value.ref 28) _) _ _ _); k_dflt (refine' op_use (0) ?k1 ?k2 ?k3 ?k4 ?k5 ?k6 ?k7 ?k8 ?h0 ?h1 ?hr ?_; (case k1 => k_asm); (case k2 => k_asm); (case k3 => k_asm); (case k4 => k_asm); (case k5 => k_asm); (case k6 => first | exact rfl | assumption); (case k7 => k_room); (case k8 => k_room); (case h0 => first | decide | assumption); (case h1 => first | decide | assumption); (case hr => first | with_reducible assumption | decide +kernel); k_whole); intro h' tk' t' F' N'; (try k_sweep))))) | ((with_reducible show wpAny _ _ (exec (Stmt.For ..) _) _ _ _); first | (with_reducible (k_here; (rename Fr _ _ _ _ => lF'); (with_unfolding_all refine' For_invVF lF' ?k1 ?k2 ?_; (case k1 => exact rfl); (case k2 => exact rfl); k_whole))) | (k_here; (rename Fr _ _ _ _ => lF'); (with_unfolding_all refine' For_invVF lF' ?k1 ?k2 ?_; (case k1 => exact rfl); (case k2 => exact rfl); k_whole))) | (with_reducible ((with_reducible show wpAny _ _ (pyIter (Value.ref _)) (fun it s₂ => LoopAtV _ _ _ _ _ _ _ _ _ it s₂) _ _); (rename IsRange _ _ _ _ _ _ _ _ => rgX); (rename Fr _ _ _ _ => lF'); (rename News _ _ _ _ => lN'); (with_unfolding_all refine' moves_loop _ (by with_reducible assumption) (by rfl) rgX lF' lN' ?mov ?suf); clear lF' lN')) | (with_reducible (k_here; (with_reducible show wpAny _ _ (subscriptTail _ _ (Value.ref _) (Value.int _ _)) _ _ _); k_dflt (first | (refine' kim_list ?k1 ?k2 ?k3 ?k4 ?k5 ?k6 ?k7 ?_; (case k1 => k_asm); (case k2 => k_mem); (case k3 => rfl); (case k4 => rfl); (case k5 => first | assumption | decide | omega); (case k6 => first | decide | omega); (case k7 => first | with_reducible assumption | ((simp only [Int.reduceAdd, Int.reduceToNat, Int.zero_add]); with_reducible assumption)); k_whole) | (refine kba_turn (value' := PySem.Expr.Name (PySem.Str.ofString "_") ⟨0, 0, 0, 0⟩) (fun _ => rfl) ?_; first | (refine' kim_su ?k1 ?k2 ?k3 ?k4 ?k5 ?k6 ?k7 ?_ ?_; (case k1 => k_asm); (case k2 => k_mem); (case k3 => rfl); (case k4 => rfl); (case k5 => first | assumption | decide | omega); (case k6 => first | decide | omega); (case k7 => first | with_reducible assumption | ((simp only [Int.reduceAdd, Int.reduceToNat, Int.zero_add]); with_reducible assumption)); k_whole; intro su') | (refine' kim_list ?k1 ?k2 ?k3 ?k4 ?k5 ?k6 ?k7 ?_; (case k1 => k_asm); (case k2 => k_mem); (case k3 => rfl); (case k4 => rfl); (case k5 => first | assumption | decide | omega); (case k6 => first | decide | omega); (case k7 => first | with_reducible assumption | ((simp only [Int.reduceAdd, Int.reduceToNat, Int.zero_add]); with_reducible assumption)); k_whole))))) | ((with_reducible show UnrEnd ..); first | (with_reducible (refine' unrEnd_minus ?k1 ?k2 ?k3 ?k4 ?_; (case k1 => k_asm); (case k2 => k_asm); (case k3 => k_mem); (case k4 => walk_at "my minus"); (try k_sweep))) | (refine' unrEnd_minus ?k1 ?k2 ?k3 ?k4 ?_; (case k1 => k_asm); (case k2 => k_asm); (case k3 => k_mem); (case k4 => walk_at "my minus"); (try k_sweep))) | ((with_reducible show wpAny _ _ (subscriptTail _ _ (Value.ref _) (Value.int _ _)) _ _ _); first | (with_reducible (k_here; kim_at)) | (k_here; kim_at)) | walk1 | dsimp only | (leave1; walk_say "STEP leave1"; try dsimp only))
  case mov =>
    intro I kk i u pc tp' v4' hI hi hpc hnext
    obtain ⟨tA, hA'⟩ := hA i hi
    have hA2 : code[pc.toNat]? = some (.int 8388864 tA) := by subst hpc; simpa using hA'
    have p0 : 0 ≤ pc := by omega
    have p1 : pc ≤ 100 := by omega
    k_lt hI
    repeat' (first
        | (k_unfold; (try dsimp only))
        | (k_end; wrow_close)
        | ((with_reducible show wpAny _ _ (call (Value.ref _) _ _) _ _ _); (first
        | (with_reducible (k_here; (with_reducible show wpAny _ _ (call (Value.ref 449) [_, Value.int 34 _, _]) _ _ _); k_dflt (refine' list_use ?k1 ?k2 ?k3 ?k4 ?k5 ?k6 ?k7 ?k8 ?m1 ?m2 ?m3 ?m4 ?m5 ?m6 ?m7 ?m8 ?m9 ?m10 ?mi ?mt ?hW0 ?hW1 ?hb ?hc ?hm ?hm3 ?hp0 ?hp1 ?hk0 ?hk1 ?hf0 ?hf1 ?hh ?ha ?o1 ?o2 ?o3 ?o4 ?o5 ?o6 ?o7 ?o8 ?o9 ?ho ?P ?hts ?mI ?hIt ?_; (case P => with_reducible assumption); (case k1 => k_asm); (case k2 => k_asm); (case k3 => k_asm); (case k4 => k_asm); (case k5 => k_asm); (case k6 => first | exact rfl | assumption); (case k7 => k_room); (case k8 => k_room); (case m1 => k_mem); (case m2 => k_mem); (case m3 => k_mem); (case m4 => k_mem); (case m5 => k_mem); (case m6 => k_mem); (case m7 => k_mem); (case m8 => k_mem); (case m9 => k_mem); (case m10 => k_mem); (case mi => walk_at "my minus"); (case mt => ((repeat apply TailOf.sq); exact TailOf.base)); (case hW0 => with_reducible assumption); (case hW1 => with_reducible assumption); (case hb => with_reducible assumption); (case hc => with_reducible assumption); (case hm => with_reducible assumption); (case hm3 => with_reducible assumption); (case hp0 => first | decide | omega); (case hp1 => first | decide | omega); (case hk0 => with_reducible assumption); (case hk1 => with_reducible assumption); (case hf0 => with_reducible assumption); (case hf1 => with_reducible assumption); (case hh => first | with_reducible assumption | ((simp only [Int.zero_add, Int.reduceAdd, Int.reduceToNat]); with_reducible assumption)); (case ha => with_reducible assumption); (case o1 => with_reducible assumption); (case o2 => with_reducible assumption); (case o3 => with_reducible assumption); (case o4 => with_reducible assumption); (case o5 => with_reducible assumption); (case o6 => with_reducible assumption); (case o7 => with_reducible assumption); (case o8 => with_reducible assumption); (case o9 => with_reducible assumption); (case ho => ((intro p hp); (repeat' (first | (with_reducible exact (by assumption : ∀ p ∈ _, p ∈ _) p hp) | apply List.mem_cons_of_mem)))); (case hts => with_reducible assumption); (case mI => k_mem); (case hIt => exact fun p hp => Nat.ne_of_lt (allLt_all (by tbn_find) p hp)); k_whole); intro h' tk' tp' nq' arr' zs' tl' e1' e2' e3' e4' e5' e6' e7' e8' F' N'; (try simp only [List.cons_append, List.nil_append] at N'); (try k_sweep); refine ⟨?_, ?_⟩ <;> intro nb'))
        | (with_reducible (k_here; (with_reducible show wpAny _ _ (call (Value.ref 449) [_, Value.int 12 _, _]) _ _ _); k_dflt (refine' sum_use ?k1 ?k2 ?k3 ?k4 ?k5 ?k6 ?k7 ?k8 ?m1 ?m2 ?m3 ?m4 ?m5 ?mi ?hx ?hs ?hl1 ?hl2 ?_; (case k1 => k_asm); (case k2 => k_asm); (case k3 => k_asm); (case k4 => k_asm); (case k5 => k_asm); (case k6 => first | exact rfl | assumption); (case k7 => k_room); (case k8 => k_room); (case m1 => k_mem); (case m2 => k_mem); (case m3 => k_mem); (case m4 => k_mem); (case m5 => k_mem); (case mi => walk_at "my minus"); (case hx => assumption); (case hs => assumption); (case hl1 => assumption); (case hl2 => assumption); k_whole); intro h' tk' F' N'; (try k_sweep)))
        | (with_reducible (k_here; (with_reducible show wpAny _ _ (call (Value.ref 449) [_, Value.int 30 _, _]) _ _ _); k_dflt (refine' ret_use ?k1 ?k2 ?k3 ?k4 ?k5 ?k6 ?k7 ?k8 ?m1 ?m2 ?m3 ?mi ?hx ?hs ?_; (case k1 => k_asm); (case k2 => k_asm); (case k3 => k_asm); (case k4 => k_asm); (case k5 => k_asm); (case k6 => first | exact rfl | assumption); (case k7 => k_room); (case k8 => k_room); (case m1 => k_mem); (case m2 => k_mem); (case m3 => k_mem); (case mi => walk_at "my minus"); (case hx => assumption); (case hs => assumption); k_whole); intro h' tk' r' F' N'; (try k_sweep)))
        | (with_reducible (k_here; (with_reducible show wpAny _ _ (call (Value.ref 449) [_, Value.int 0 _, _]) _ _ _); k_dflt (refine' move_use ?k1 ?k2 ?k3 ?k4 ?k5 ?k6 ?k7 ?k8 ?m1 ?m2 ?m3 ?mi ?hx ?hs ?hp0 ?hp1 ?_; (case k1 => k_asm); (case k2 => k_asm); (case k3 => k_asm); (case k4 => k_asm); (case k5 => k_asm); (case k6 => first | exact rfl | assumption); (case k7 => k_room); (case k8 => k_room); (case m1 => k_mem); (case m2 => k_mem); (case m3 => k_mem); (case mi => walk_at "my minus"); (case hx => assumption); (case hs => assumption); (case hp0 => first | decide | omega); (case hp1 => first | decide | omega); k_whole); intro h' tk' tp' F' N'; (try k_sweep)))
        | (with_reducible (k_here; (with_reducible show wpAny _ _ (call (Value.ref 28) _) _ _ _); k_dflt (refine' op_use (34) ?k1 ?k2 ?k3 ?k4 ?k5 ?k6 ?k7 ?k8 ?h0 ?h1 ?hr ?_; (case k1 => k_asm); (case k2 => k_asm); (case k3 => k_asm); (case k4 => k_asm); (case k5 => k_asm); (case k6 => first | exact rfl | assumption); (case k7 => k_room); (case k8 => k_room); (case h0 => first | decide | assumption); (case h1 => first | decide | assumption); (case hr => first | with_reducible assumption | decide +kernel); k_whole); intro h' tk' t' F' N'; (try k_sweep)))
        | (with_reducible (k_here; (with_reducible show wpAny _ _ (call (Value.ref 28) _) _ _ _); k_dflt (refine' op_use (30) ?k1 ?k2 ?k3 ?k4 ?k5 ?k6 ?k7 ?k8 ?h0 ?h1 ?hr ?_; (case k1 => k_asm); (case k2 => k_asm); (case k3 => k_asm); (case k4 => k_asm); (case k5 => k_asm); (case k6 => first | exact rfl | assumption); (case k7 => k_room); (case k8 => k_room); (case h0 => first | decide | assumption); (case h1 => first | decide | assumption); (case hr => first | with_reducible assumption | decide +kernel); k_whole); intro h' tk' t' F' N'; (try k_sweep)))
        | (with_reducible (k_here; (with_reducible show wpAny _ _ (call (Value.ref 28) _) _ _ _); k_dflt (refine' op_use (12) ?k1 ?k2 ?k3 ?k4 ?k5 ?k6 ?k7 ?k8 ?h0 ?h1 ?hr ?_; (case k1 => k_asm); (case k2 => k_asm); (case k3 => k_asm); (case k4 => k_asm); (case k5 => k_asm); (case k6 => first | exact rfl | assumption); (case k7 => k_room); (case k8 => k_room); (case h0 => first | decide | assumption); (case h1 => first | decide | assumption); (case hr => first | with_reducible assumption | decide +kernel); k_whole); intro h' tk' t' F' N'; (try k_sweep)))
        | (with_reducible (k_here; (with_reducible show wpAny _ _ (call (Value.ref 28) _) _ _ _); k_dflt (refine' op_use (0) ?k1 ?k2 ?k3 ?k4 ?k5 ?k6 ?k7 ?k8 ?h0 ?h1 ?hr ?_; (case k1 => k_asm); (case k2 => k_asm); (case k3 => k_asm); (case k4 => k_asm); (case k5 => k_asm); (case k6 => first | exact rfl | assumption); (case k7 => k_room); (case k8 => k_room); (case h0 => first | decide | assumption); (case h1 => first | decide | assumption); (case hr => first | with_reducible assumption | decide +kernel); k_whole); intro h' tk' t' F' N'; (try k_sweep)))))
        | ((with_reducible show wpAny _ _ (exec (Stmt.For ..) _) _ _ _); first | (with_reducible (k_here; (rename Fr _ _ _ _ => lF'); (with_unfolding_all refine' For_invVF lF' ?k1 ?k2 ?_; (case k1 => exact rfl); (case k2 => exact rfl); k_whole))) | (k_here; (rename Fr _ _ _ _ => lF'); (with_unfolding_all refine' For_invVF lF' ?k1 ?k2 ?_; (case k1 => exact rfl); (case k2 => exact rfl); k_whole)))
        | (with_reducible ((with_reducible show wpAny _ _ (pyIter (Value.ref _)) (fun it s₂ => LoopAtV _ _ _ _ _ _ _ _ _ it s₂) _ _); (rename IsRange _ _ _ _ _ _ _ _ => rgX); (rename Fr _ _ _ _ => lF'); (rename News _ _ _ _ => lN'); (with_unfolding_all refine' moves_loop _ (by with_reducible assumption) (by rfl) rgX lF' lN' ?mov ?suf); clear lF' lN'))
        | (with_reducible (k_here; (with_reducible show wpAny _ _ (subscriptTail _ _ (Value.ref _) (Value.int _ _)) _ _ _); k_dflt (first | (refine' kim_list ?k1 ?k2 ?k3 ?k4 ?k5 ?k6 ?k7 ?_; (case k1 => k_asm); (case k2 => k_mem); (case k3 => rfl); (case k4 => rfl); (case k5 => first | assumption | decide | omega); (case k6 => first | decide | omega); (case k7 => first | with_reducible assumption | ((simp only [Int.reduceAdd, Int.reduceToNat, Int.zero_add]); with_reducible assumption)); k_whole) | (refine kba_turn (value' := PySem.Expr.Name (PySem.Str.ofString "_") ⟨0, 0, 0, 0⟩) (fun _ => rfl) ?_; first | (refine' kim_su ?k1 ?k2 ?k3 ?k4 ?k5 ?k6 ?k7 ?_ ?_; (case k1 => k_asm); (case k2 => k_mem); (case k3 => rfl); (case k4 => rfl); (case k5 => first | assumption | decide | omega); (case k6 => first | decide | omega); (case k7 => first | with_reducible assumption | ((simp only [Int.reduceAdd, Int.reduceToNat, Int.zero_add]); with_reducible assumption)); k_whole; intro su') | (refine' kim_list ?k1 ?k2 ?k3 ?k4 ?k5 ?k6 ?k7 ?_; (case k1 => k_asm); (case k2 => k_mem); (case k3 => rfl); (case k4 => rfl); (case k5 => first | assumption | decide | omega); (case k6 => first | decide | omega); (case k7 => first | with_reducible assumption | ((simp only [Int.reduceAdd, Int.reduceToNat, Int.zero_add]); with_reducible assumption)); k_whole)))))
        | ((with_reducible show UnrEnd ..); first | (with_reducible (refine' unrEnd_minus ?k1 ?k2 ?k3 ?k4 ?_; (case k1 => k_asm); (case k2 => k_asm); (case k3 => k_mem); (case k4 => walk_at "my minus"); (try k_sweep))) | (refine' unrEnd_minus ?k1 ?k2 ?k3 ?k4 ?_; (case k1 => k_asm); (case k2 => k_asm); (case k3 => k_mem); (case k4 => walk_at "my minus"); (try k_sweep)))
        | ((with_reducible show wpAny _ _ (subscriptTail _ _ (Value.ref _) (Value.int _ _)) _ _ _); first | (with_reducible (k_here; kim_at)) | (k_here; kim_at))
        | walk1
        | dsimp only
        | (leave1; walk_say "STEP leave1"; try dsimp only)
        | fail "no step")
    all_goals (
      refine' rr_mono ?sub (hnext _ _ ?map)
      case sub => (first | (refine sub_of ?_; with_reducible (repeat' constructor); done) | ((repeat (refine List.forall_mem_cons.mpr ⟨?_, ?_⟩; k_mem)); exact sub_of (by repeat' constructor)))
      case map => (intro y hy; (have n0 := not_run hy _ (show Str.ofString "turn" ∈ runStored by simp [runStored])); (have n1 := not_run hy _ (show Str.ofString "place" ∈ runStored by simp [runStored])); (have n2 := not_run hy _ (show Str.ofString "instruction" ∈ runStored by simp [runStored])); (simp only [runMap, hy, n0, n1, n2, if_false, Bool.false_eq_true]))
      )
  case suf =>
    intro I kk u pc tp' v4' hI hpc
    subst hpc
    have p0 : (0 : Int) ≤ (n : Int) := by omega
    have p1 : (n : Int) ≤ 3 := by omega
    k_lt hI
    repeat' (first
        | (k_unfold; (try dsimp only))
        | (k_end; wrow_close)
        | ((with_reducible show wpAny _ _ (call (Value.ref _) _ _) _ _ _); (first
        | (with_reducible (k_here; (with_reducible show wpAny _ _ (call (Value.ref 449) [_, Value.int 34 _, _]) _ _ _); k_dflt (refine' list_use ?k1 ?k2 ?k3 ?k4 ?k5 ?k6 ?k7 ?k8 ?m1 ?m2 ?m3 ?m4 ?m5 ?m6 ?m7 ?m8 ?m9 ?m10 ?mi ?mt ?hW0 ?hW1 ?hb ?hc ?hm ?hm3 ?hp0 ?hp1 ?hk0 ?hk1 ?hf0 ?hf1 ?hh ?ha ?o1 ?o2 ?o3 ?o4 ?o5 ?o6 ?o7 ?o8 ?o9 ?ho ?P ?hts ?mI ?hIt ?_; (case P => with_reducible assumption); (case k1 => k_asm); (case k2 => k_asm); (case k3 => k_asm); (case k4 => k_asm); (case k5 => k_asm); (case k6 => first | exact rfl | assumption); (case k7 => k_room); (case k8 => k_room); (case m1 => k_mem); (case m2 => k_mem); (case m3 => k_mem); (case m4 => k_mem); (case m5 => k_mem); (case m6 => k_mem); (case m7 => k_mem); (case m8 => k_mem); (case m9 => k_mem); (case m10 => k_mem); (case mi => walk_at "my minus"); (case mt => ((repeat apply TailOf.sq); exact TailOf.base)); (case hW0 => with_reducible assumption); (case hW1 => with_reducible assumption); (case hb => with_reducible assumption); (case hc => with_reducible assumption); (case hm => with_reducible assumption); (case hm3 => with_reducible assumption); (case hp0 => first | decide | omega); (case hp1 => first | decide | omega); (case hk0 => with_reducible assumption); (case hk1 => with_reducible assumption); (case hf0 => with_reducible assumption); (case hf1 => with_reducible assumption); (case hh => first | with_reducible assumption | ((simp only [Int.zero_add, Int.reduceAdd, Int.reduceToNat]); with_reducible assumption)); (case ha => with_reducible assumption); (case o1 => with_reducible assumption); (case o2 => with_reducible assumption); (case o3 => with_reducible assumption); (case o4 => with_reducible assumption); (case o5 => with_reducible assumption); (case o6 => with_reducible assumption); (case o7 => with_reducible assumption); (case o8 => with_reducible assumption); (case o9 => with_reducible assumption); (case ho => ((intro p hp); (repeat' (first | (with_reducible exact (by assumption : ∀ p ∈ _, p ∈ _) p hp) | apply List.mem_cons_of_mem)))); (case hts => with_reducible assumption); (case mI => k_mem); (case hIt => exact fun p hp => Nat.ne_of_lt (allLt_all (by tbn_find) p hp)); k_whole); intro h' tk' tp' nq' arr' zs' tl' e1' e2' e3' e4' e5' e6' e7' e8' F' N'; (try simp only [List.cons_append, List.nil_append] at N'); (try k_sweep); refine ⟨?_, ?_⟩ <;> intro nb'))
        | (with_reducible (k_here; (with_reducible show wpAny _ _ (call (Value.ref 449) [_, Value.int 12 _, _]) _ _ _); k_dflt (refine' sum_use ?k1 ?k2 ?k3 ?k4 ?k5 ?k6 ?k7 ?k8 ?m1 ?m2 ?m3 ?m4 ?m5 ?mi ?hx ?hs ?hl1 ?hl2 ?_; (case k1 => k_asm); (case k2 => k_asm); (case k3 => k_asm); (case k4 => k_asm); (case k5 => k_asm); (case k6 => first | exact rfl | assumption); (case k7 => k_room); (case k8 => k_room); (case m1 => k_mem); (case m2 => k_mem); (case m3 => k_mem); (case m4 => k_mem); (case m5 => k_mem); (case mi => walk_at "my minus"); (case hx => assumption); (case hs => assumption); (case hl1 => assumption); (case hl2 => assumption); k_whole); intro h' tk' F' N'; (try k_sweep)))
        | (with_reducible (k_here; (with_reducible show wpAny _ _ (call (Value.ref 449) [_, Value.int 30 _, _]) _ _ _); k_dflt (refine' ret_use ?k1 ?k2 ?k3 ?k4 ?k5 ?k6 ?k7 ?k8 ?m1 ?m2 ?m3 ?mi ?hx ?hs ?_; (case k1 => k_asm); (case k2 => k_asm); (case k3 => k_asm); (case k4 => k_asm); (case k5 => k_asm); (case k6 => first | exact rfl | assumption); (case k7 => k_room); (case k8 => k_room); (case m1 => k_mem); (case m2 => k_mem); (case m3 => k_mem); (case mi => walk_at "my minus"); (case hx => assumption); (case hs => assumption); k_whole); intro h' tk' r' F' N'; (try k_sweep)))
        | (with_reducible (k_here; (with_reducible show wpAny _ _ (call (Value.ref 449) [_, Value.int 0 _, _]) _ _ _); k_dflt (refine' move_use ?k1 ?k2 ?k3 ?k4 ?k5 ?k6 ?k7 ?k8 ?m1 ?m2 ?m3 ?mi ?hx ?hs ?hp0 ?hp1 ?_; (case k1 => k_asm); (case k2 => k_asm); (case k3 => k_asm); (case k4 => k_asm); (case k5 => k_asm); (case k6 => first | exact rfl | assumption); (case k7 => k_room); (case k8 => k_room); (case m1 => k_mem); (case m2 => k_mem); (case m3 => k_mem); (case mi => walk_at "my minus"); (case hx => assumption); (case hs => assumption); (case hp0 => first | decide | omega); (case hp1 => first | decide | omega); k_whole); intro h' tk' tp' F' N'; (try k_sweep)))
        | (with_reducible (k_here; (with_reducible show wpAny _ _ (call (Value.ref 28) _) _ _ _); k_dflt (refine' op_use (34) ?k1 ?k2 ?k3 ?k4 ?k5 ?k6 ?k7 ?k8 ?h0 ?h1 ?hr ?_; (case k1 => k_asm); (case k2 => k_asm); (case k3 => k_asm); (case k4 => k_asm); (case k5 => k_asm); (case k6 => first | exact rfl | assumption); (case k7 => k_room); (case k8 => k_room); (case h0 => first | decide | assumption); (case h1 => first | decide | assumption); (case hr => first | with_reducible assumption | decide +kernel); k_whole); intro h' tk' t' F' N'; (try k_sweep)))
        | (with_reducible (k_here; (with_reducible show wpAny _ _ (call (Value.ref 28) _) _ _ _); k_dflt (refine' op_use (30) ?k1 ?k2 ?k3 ?k4 ?k5 ?k6 ?k7 ?k8 ?h0 ?h1 ?hr ?_; (case k1 => k_asm); (case k2 => k_asm); (case k3 => k_asm); (case k4 => k_asm); (case k5 => k_asm); (case k6 => first | exact rfl | assumption); (case k7 => k_room); (case k8 => k_room); (case h0 => first | decide | assumption); (case h1 => first | decide | assumption); (case hr => first | with_reducible assumption | decide +kernel); k_whole); intro h' tk' t' F' N'; (try k_sweep)))
        | (with_reducible (k_here; (with_reducible show wpAny _ _ (call (Value.ref 28) _) _ _ _); k_dflt (refine' op_use (12) ?k1 ?k2 ?k3 ?k4 ?k5 ?k6 ?k7 ?k8 ?h0 ?h1 ?hr ?_; (case k1 => k_asm); (case k2 => k_asm); (case k3 => k_asm); (case k4 => k_asm); (case k5 => k_asm); (case k6 => first | exact rfl | assumption); (case k7 => k_room); (case k8 => k_room); (case h0 => first | decide | assumption); (case h1 => first | decide | assumption); (case hr => first | with_reducible assumption | decide +kernel); k_whole); intro h' tk' t' F' N'; (try k_sweep)))
        | (with_reducible (k_here; (with_reducible show wpAny _ _ (call (Value.ref 28) _) _ _ _); k_dflt (refine' op_use (0) ?k1 ?k2 ?k3 ?k4 ?k5 ?k6 ?k7 ?k8 ?h0 ?h1 ?hr ?_; (case k1 => k_asm); (case k2 => k_asm); (case k3 => k_asm); (case k4 => k_asm); (case k5 => k_asm); (case k6 => first | exact rfl | assumption); (case k7 => k_room); (case k8 => k_room); (case h0 => first | decide | assumption); (case h1 => first | decide | assumption); (case hr => first | with_reducible assumption | decide +kernel); k_whole); intro h' tk' t' F' N'; (try k_sweep)))))
        | ((with_reducible show wpAny _ _ (exec (Stmt.For ..) _) _ _ _); first | (with_reducible (k_here; (rename Fr _ _ _ _ => lF'); (with_unfolding_all refine' For_invVF lF' ?k1 ?k2 ?_; (case k1 => exact rfl); (case k2 => exact rfl); k_whole))) | (k_here; (rename Fr _ _ _ _ => lF'); (with_unfolding_all refine' For_invVF lF' ?k1 ?k2 ?_; (case k1 => exact rfl); (case k2 => exact rfl); k_whole)))
        | (with_reducible ((with_reducible show wpAny _ _ (pyIter (Value.ref _)) (fun it s₂ => LoopAtV _ _ _ _ _ _ _ _ _ it s₂) _ _); (rename IsRange _ _ _ _ _ _ _ _ => rgX); (rename Fr _ _ _ _ => lF'); (rename News _ _ _ _ => lN'); (with_unfolding_all refine' moves_loop _ (by with_reducible assumption) (by rfl) rgX lF' lN' ?mov ?suf); clear lF' lN'))
        | (with_reducible (k_here; (with_reducible show wpAny _ _ (subscriptTail _ _ (Value.ref _) (Value.int _ _)) _ _ _); k_dflt (first | (refine' kim_list ?k1 ?k2 ?k3 ?k4 ?k5 ?k6 ?k7 ?_; (case k1 => k_asm); (case k2 => k_mem); (case k3 => rfl); (case k4 => rfl); (case k5 => first | assumption | decide | omega); (case k6 => first | decide | omega); (case k7 => first | with_reducible assumption | ((simp only [Int.reduceAdd, Int.reduceToNat, Int.zero_add]); with_reducible assumption)); k_whole) | (refine kba_turn (value' := PySem.Expr.Name (PySem.Str.ofString "_") ⟨0, 0, 0, 0⟩) (fun _ => rfl) ?_; first | (refine' kim_su ?k1 ?k2 ?k3 ?k4 ?k5 ?k6 ?k7 ?_ ?_; (case k1 => k_asm); (case k2 => k_mem); (case k3 => rfl); (case k4 => rfl); (case k5 => first | assumption | decide | omega); (case k6 => first | decide | omega); (case k7 => first | with_reducible assumption | ((simp only [Int.reduceAdd, Int.reduceToNat, Int.zero_add]); with_reducible assumption)); k_whole; intro su') | (refine' kim_list ?k1 ?k2 ?k3 ?k4 ?k5 ?k6 ?k7 ?_; (case k1 => k_asm); (case k2 => k_mem); (case k3 => rfl); (case k4 => rfl); (case k5 => first | assumption | decide | omega); (case k6 => first | decide | omega); (case k7 => first | with_reducible assumption | ((simp only [Int.reduceAdd, Int.reduceToNat, Int.zero_add]); with_reducible assumption)); k_whole)))))
        | ((with_reducible show UnrEnd ..); first | (with_reducible (refine' unrEnd_minus ?k1 ?k2 ?k3 ?k4 ?_; (case k1 => k_asm); (case k2 => k_asm); (case k3 => k_mem); (case k4 => walk_at "my minus"); (try k_sweep))) | (refine' unrEnd_minus ?k1 ?k2 ?k3 ?k4 ?_; (case k1 => k_asm); (case k2 => k_asm); (case k3 => k_mem); (case k4 => walk_at "my minus"); (try k_sweep)))
        | ((with_reducible show wpAny _ _ (subscriptTail _ _ (Value.ref _) (Value.int _ _)) _ _ _); first | (with_reducible (k_here; kim_at)) | (k_here; kim_at))
        | walk1
        | dsimp only
        | (leave1; walk_say "STEP leave1"; try dsimp only)
        | fail "no step")
    all_goals first
      | (refine' (hret _ _ _ _ _ _ _ ?eqq ?ass).1 (by assumption) ⟨?frr, ?nww⟩; (((case eqq => assumption); (case ass => assumption); (case frr => assumption); (case nww => ((refine' cb_drop ?nn ?ss); (case nn => assumption); (case ss => ((repeat' (refine List.forall_mem_cons.mpr ⟨by k_mem, ?_⟩)); (refine sub_app ?_ ?_ <;> (intro p hp; (repeat' (first | (with_reducible exact (by assumption : ∀ p ∈ _, p ∈ _) p hp) | apply List.mem_cons_of_mem)))))))))); done)
      | (refine' (hret _ _ _ _ _ _ _ ?eqq ?ass).2.1 (by assumption) (by assumption) ⟨?frr, ?nww⟩; (((case eqq => assumption); (case ass => assumption); (case frr => assumption); (case nww => ((refine' cb_drop ?nn ?ss); (case nn => assumption); (case ss => ((repeat' (refine List.forall_mem_cons.mpr ⟨by k_mem, ?_⟩)); (refine sub_app ?_ ?_ <;> (intro p hp; (repeat' (first | (with_reducible exact (by assumption : ∀ p ∈ _, p ∈ _) p hp) | apply List.mem_cons_of_mem)))))))))); done)
      | (refine' (hret _ _ _ _ _ _ _ ?eqq ?ass).2.2 (by assumption) (by assumption) _ ⟨?frr, ?nww⟩; (((case eqq => assumption); (case ass => assumption); (case frr => assumption); (case nww => ((refine' cb_drop ?nn ?ss); (case nn => assumption); (case ss => ((repeat' (refine List.forall_mem_cons.mpr ⟨by k_mem, ?_⟩)); (refine sub_app ?_ ?_ <;> (intro p hp; (repeat' (first | (with_reducible exact (by assumption : ∀ p ∈ _, p ∈ _) p hp) | apply List.mem_cons_of_mem)))))))))); exact (0 : Nat); done)


theorem limits_kw (w : World) (fl : Value) (news : List (Addr × Obj)) :
    SpecT 4 w news (call (.ref 95) [] [("flush", fl)])
      (fun ok Q => ∀ h' tk' x dx (tk : T10), (∀ p ∈ news, p.1 < dx) → dx < x → ok h' ((x, instObj 95 dx) :: (dx, dictOf (limEs w tk fl) 10) :: news) → Q (.ref x) h' tk') := by
  unfold SpecT
  w_top off
  k_fill
  intro p loose mean mg mb dp un gd cn cs a ccd cl outer A₀ base h₀ L m s Q E B F X N T hkd hdp hun hret
  dsimp only at hret
  k_dflt (refine' call_cls ?k1 ?k2 ?k3 ?k4 ?k5 ?k6 ?_; (case k1 => k_asm); (case k2 => k_asm); (case k3 => k_asm); (case k4 => k_is); (case k5 => k_is); (case k6 => k_is); k_whole)
  intro x' d' h' F' N' l1 l2
  (try k_lt l1); (try k_lt2 l2); (try k_sweep)
  k_dflt (refine' code_def (binds := [(Str.ofString "self", .ref x'), (Str.ofString "width", .int 64 268), (Str.ofString "registers", .int 250 269), (Str.ofString "upvalues", .int 60 270), (Str.ofString "local_names", .int 200 271), (Str.ofString "ccalls", .int 40 272), (Str.ofString "frames", .int 200 273), (Str.ofString "stack", .int 2000 274), (Str.ofString "flush", fl), (Str.ofString "steps", .int 1000000000 276), (Str.ofString "text", .int 1000000 277)]) ?k1 ?k2 ?k3 ?k4 ?k5 ?kA ?kF ?kK ?k6 ?k7 ?k8 ?k9 ?kB ?_ ?c2 ?c3 ?c4 ?c5; (case kA => exact rfl); (case kF => exact rfl); (case kK => assumption); (case k1 => k_asm); (case k2 => k_asm); (case k3 => k_asm); (case k4 => k_asm); (case k5 => k_asm); (case k6 => k_is); (case k7 => k_is); (case k8 => k_room); (case c5 => decide); (case c2 => exact rfl); (case c3 => exact rfl); (case c4 => exact rfl))
  case k9 => exact binds_K (by k_in) rfl (by k_is) rfl rfl rfl
  case kB => exact locs rfl
  repeat' (first
      | (k_unfold; (try dsimp only))
      | (k_end; wrow_close)
      | ((with_reducible show wpAny _ _ (subscriptTail _ _ (Value.ref _) (Value.int _ _)) _ _ _); first | (with_reducible (k_here; kim_at)) | (k_here; kim_at))
      | walk1
      | dsimp only
      | (leave1; walk_say "STEP leave1"; try dsimp only))
  all_goals exact hret _ _ _ _ ⟨_, _, _, _, _, _, _, _, _, _⟩ (by assumption) (by assumption) ⟨by assumption, by assumption⟩
theorem limits_0 (w : World) (news : List (Addr × Obj)) :
    SpecT 4 w news (call (.ref 95) [] [])
      (fun ok Q => ∀ h' tk' x dx (tk : T10), (∀ p ∈ news, p.1 < dx) → dx < x → ok h' ((x, instObj 95 dx) :: (dx, dictOf (limEs w tk (.int 50 275)) 10) :: news) → Q (.ref x) h' tk') := by
  unfold SpecT
  w_top off
  k_fill
  intro p loose mean mg mb dp un gd cn cs a ccd cl outer A₀ base h₀ L m s Q E B F X N T hkd hdp hun hret
  dsimp only at hret
  k_dflt (refine' call_cls ?k1 ?k2 ?k3 ?k4 ?k5 ?k6 ?_; (case k1 => k_asm); (case k2 => k_asm); (case k3 => k_asm); (case k4 => k_is); (case k5 => k_is); (case k6 => k_is); k_whole)
  intro x' d' h' F' N' l1 l2
  (try k_lt l1); (try k_lt2 l2); (try k_sweep)
  k_dflt (refine' code_def (binds := [(Str.ofString "self", .ref x'), (Str.ofString "width", .int 64 268), (Str.ofString "registers", .int 250 269), (Str.ofString "upvalues", .int 60 270), (Str.ofString "local_names", .int 200 271), (Str.ofString "ccalls", .int 40 272), (Str.ofString "frames", .int 200 273), (Str.ofString "stack", .int 2000 274), (Str.ofString "flush", .int 50 275), (Str.ofString "steps", .int 1000000000 276), (Str.ofString "text", .int 1000000 277)]) ?k1 ?k2 ?k3 ?k4 ?k5 ?kA ?kF ?kK ?k6 ?k7 ?k8 ?k9 ?kB ?_ ?c2 ?c3 ?c4 ?c5; (case kA => exact rfl); (case kF => exact rfl); (case kK => assumption); (case k1 => k_asm); (case k2 => k_asm); (case k3 => k_asm); (case k4 => k_asm); (case k5 => k_asm); (case k6 => k_is); (case k7 => k_is); (case k8 => k_room); (case c5 => decide); (case c2 => exact rfl); (case c3 => exact rfl); (case c4 => exact rfl))
  case k9 => exact binds_K (by k_in) rfl (by k_is) rfl rfl rfl
  case kB => exact locs rfl
  repeat' (first
      | (k_unfold; (try dsimp only))
      | (k_end; wrow_close)
      | ((with_reducible show wpAny _ _ (subscriptTail _ _ (Value.ref _) (Value.int _ _)) _ _ _); first | (with_reducible (k_here; kim_at)) | (k_here; kim_at))
      | walk1
      | dsimp only
      | (leave1; walk_say "STEP leave1"; try dsimp only))
  all_goals exact hret _ _ _ _ ⟨_, _, _, _, _, _, _, _, _, _⟩ (by assumption) (by assumption) ⟨by assumption, by assumption⟩


abbrev lawStored : List Str := [Str.ofString "moves", Str.ofString "many", Str.ofString "is_wide", Str.ofString "block", Str.ofString "flush", Str.ofString "number", Str.ofString "code", Str.ofString "is_sum", Str.ofString "asked", Str.ofString "registers", Str.ofString "works", Str.ofString "told", Str.ofString "due", Str.ofString "end", Str.ofString "spot"]
def TabSt (tab : Obj) (ce : Nat) (oe : Obj) : Prop := tab = tabObj #[] ∨ (tab = tabObj #[rawInt 465, rawInt 4, .ref ce] ∧ CodeOk oe)
abbrev lawMap (u m₁ : Str → Option Value) (rp : Nat) : Str → Option Value := fun y => if lawStored.contains y then u y else if y = Str.ofString "rope" then some (.ref rp) else m₁ y
def TurnHyp (w : World) (cn : Str) (cs : Scope) (x1 x2 x3 : Str) (body : List Stmt) : Prop :=
  ∀ (p : Program) (loose : List Str) (mean : ExcName → Option Value) (mg mb : Str → Option Value) (dp un : Nat) (gd : Option (List Code)) (a : Addr) (ccd : Value) (outer : List Env) (A₀ : Around) (base h₀ : Heap) (L : Addr) (s : Shared) (Q : Flow → Shared → Prop) (E : Value → Shared → Prop)
    (rp sl n n2 ce k1 k2 k3 : Nat) (ws : List Value) (ns : List Int) (u m₁ : Str → Option Value) (i : Nat) (ti tk : Tok) (t : Int) (tab oe b1 b2 b3 : Obj) (y1 y2 y3 : Option Value) (I : Nat) (ia ib : Int),
    Below A₀ base outer h₀ → Fr h₀ L s.heap (fun y => if y = Str.ofString "turn" then some (.int (0 + (i : Int)) ti) else lawMap u m₁ rp y) → (Mine.heap w.params).In h₀ →
    News h₀ L s.heap ((rp, ropeAt sl t tk n) :: (sl, PySem.W.listOf ws.toArray n2) :: (528, tab) :: (ce, oe) :: (k1, b1) :: (k2, b2) :: (k3, b3) :: (I, itR ia ib) :: []) → Top p loose mean mg mb h₀ → CodeHd base 532 528 → cs.kind = .function → dp + 40 < recursionLimit → un + 64 * 40 < cLine →
    IntsAre ws ns → ns.length ≤ 24 → 0 ≤ t → t ≤ 14 → TabSt tab ce oe → @LT.lt Nat _ 528 ce → ce ≠ rp → @LT.lt Nat _ sl rp → (@LT.lt Nat _ 528 k1 ∧ @LT.lt Nat _ k1 sl) → (@LT.lt Nat _ 528 k2 ∧ @LT.lt Nat _ k2 sl) → (@LT.lt Nat _ 528 k3 ∧ @LT.lt Nat _ k3 sl) → (k1 ≠ k2 ∧ k1 ≠ k3 ∧ k2 ≠ k3) → ce ≠ k1 → ce ≠ k2 → ce ≠ k3 → b1.data = .cell y1 → b2.data = .cell y2 → b3.data = .cell y3 → @LT.lt Nat _ rp I → ce ≠ I →
    (∀ h' tk' (m' : Str → Option Value) (nx news' : List (Addr × Obj)) (t' : Int) (tk1 : Tok) (tab' oe' b1' b2' b3' : Obj) (y1' y2' y3' : Option Value) (ce' : Nat), b1'.data = .cell y1' → b2'.data = .cell y2' → b3'.data = .cell y3' → ce' ≠ k1 → ce' ≠ k2 → ce' ≠ k3 → Fr h₀ L h' m' → News h₀ L h' news' → (∀ z, z ≠ Str.ofString "turn" → lawStored.contains z = false → m' z = lawMap u m₁ rp z) → 0 ≤ t' → t' ≤ t + 7 → TabSt tab' ce' oe' → @LT.lt Nat _ 528 ce' → ce' ≠ rp → ce' ≠ I →
      (∀ p ∈ (rp, ropeAt sl t' tk1 n) :: (sl, PySem.W.listOf ws.toArray n2) :: (528, tab') :: (ce', oe') :: (k1, b1') :: (k2, b2') :: (k3, b3') :: (I, itR ia ib) :: [], p ∈ news') → Q .next { s with heap := h', toks := tk' }) →
    wpAny (model PySem.Challenge.rw_rh0164_01.row.prog w) (ktrTop dp un gd cn cs L a ccd [(x1, k1), (x2, k2), (x3, k3)] outer) (execs body (envX cn cs L a ccd [(x1, k1), (x2, k2), (x3, k3)])) Q E s
theorem law_loop {w : World} {cn : Str} {cs : Scope} {x1 x2 x3 : Str} {body : List Stmt} {p : Program} {loose : List Str} {mean : ExcName → Option Value} {mg mb : Str → Option Value} {dp un : Nat} {gd : Option (List Code)} {a : Addr} {ccd : Value} {outer : List Env} {A₀ : Around} {base h₀ : Heap} {L : Addr} {s : Shared} {Q : Flow → Shared → Prop} {E : Value → Shared → Prop}
    {rg rp sl n n2 k1 k2 k3 : Nat} {b1 b2 b3 : Obj} {y1 y2 y3 : Option Value} {tk t₀ u₀ v₀ : Tok} {ws : List Value} {ns : List Int} {m₁ : Str → Option Value} {news : List (Addr × Obj)}
    (hh : (ktrTop dp un gd cn cs L a ccd [(x1, k1), (x2, k2), (x3, k3)] outer).handled = none)
    (B : Below A₀ base outer h₀) (F : Fr h₀ L s.heap (fun y => if y = Str.ofString "rope" then some (.ref rp) else m₁ y)) (X : (Mine.heap w.params).In h₀) (N : News h₀ L s.heap news) (T : Top p loose mean mg mb h₀) (C : CodeHd base 532 528) (hkd : cs.kind = .function) (hdp : dp + 40 < recursionLimit) (hun : un + 64 * 40 < cLine)
    (hr : IsRange s.heap rg 0 2 1 t₀ u₀ v₀) (hI : IntsAre ws ns) (hl : ns.length ≤ 24)
    (m1 : (rp, ropeAt sl 0 tk n) ∈ news) (m2 : (sl, PySem.W.listOf ws.toArray n2) ∈ news) (m3 : (528, tabObj #[]) ∈ news) (o1 : @LT.lt Nat _ sl rp) (m4 : (k1, b1) ∈ news) (m5 : (k2, b2) ∈ news) (m6 : (k3, b3) ∈ news) (d1 : b1.data = .cell y1) (d2 : b2.data = .cell y2) (d3 : b3.data = .cell y3) (o2 : @LT.lt Nat _ 528 k1 ∧ @LT.lt Nat _ k1 sl) (o3 : @LT.lt Nat _ 528 k2 ∧ @LT.lt Nat _ k2 sl) (o4 : @LT.lt Nat _ 528 k3 ∧ @LT.lt Nat _ k3 sl) (o5 : k1 ≠ k2 ∧ k1 ≠ k3 ∧ k2 ≠ k3)
    (turn : TurnHyp w cn cs x1 x2 x3 body)
    (done : ∀ (h' : Heap) (tk' : Nat) (t : Int) (tk1 : Tok) (u : Str → Option Value) (ps : Array Value), 0 ≤ t → t ≤ 14 → Fr h₀ L h' (fun y => if y = Str.ofString "turn" then u y else lawMap u m₁ rp y) → News h₀ L h' ((rp, ropeAt sl t tk1 n) :: (sl, PySem.W.listOf ws.toArray n2) :: (528, tabObj ps) :: []) → Q .next { s with heap := h', toks := tk' }) :
    wpAny (model PySem.Challenge.rw_rh0164_01.row.prog w) (ktrTop dp un gd cn cs L a ccd [(x1, k1), (x2, k2), (x3, k3)] outer) (pyIter (.ref rg)) (fun it s₂ => LoopAtV PySem.Challenge.rw_rh0164_01.row.prog w (ktrTop dp un gd cn cs L a ccd [(x1, k1), (x2, k2), (x3, k3)] outer) h₀ (envX cn cs L a ccd [(x1, k1), (x2, k2), (x3, k3)]) (Str.ofString "turn") body Q E it s₂) E s := by
  have N4 : News h₀ L s.heap [(rp, ropeAt sl 0 tk n), (sl, PySem.W.listOf ws.toArray n2), (528, tabObj #[]), (sl, PySem.W.listOf ws.toArray n2), (k1, b1), (k2, b2), (k3, b3)] := cb_drop N (List.forall_mem_cons.mpr ⟨m1, List.forall_mem_cons.mpr ⟨m2, List.forall_mem_cons.mpr ⟨m3, List.forall_mem_cons.mpr ⟨m2, List.forall_mem_cons.mpr ⟨m4, List.forall_mem_cons.mpr ⟨m5, List.forall_mem_cons.mpr ⟨m6, List.forall_mem_nil _⟩⟩⟩⟩⟩⟩⟩)
  refine iter_rangeUnr (n := 2) hh hr (by decide) (by decide) F N4 ?_
  intro I hI'
  have lI : @LT.lt Nat _ rp I := hI' (rp, ropeAt sl 0 tk n) (.head _)
  have e0 : ∀ z, z ≠ Str.ofString "turn" → lawStored.contains z = false → (fun y => if y = Str.ofString "rope" then some (Value.ref rp) else m₁ y) z = lawMap (fun _ => none) m₁ rp z := by
    intro z hz hs
    simp only [lawMap, hs, Bool.false_eq_true, if_false]
  have map : ∀ (m : Str → Option Value) (v : Value), (∀ z, z ≠ Str.ofString "turn" → lawStored.contains z = false → m z = lawMap (fun _ => none) m₁ rp z) → (fun y => if y = Str.ofString "turn" then some v else m y) = (fun y => if y = Str.ofString "turn" then some v else lawMap m m₁ rp y) := by
    intro m v hm
    funext z
    by_cases hz : z = Str.ofString "turn"
    · simp only [hz, if_true]
    · simp only [if_neg hz]
      cases hs : lawStored.contains z with
      | true => simp only [lawMap, hs, if_true]
      | false => rw [hm z hz hs]; simp only [lawMap, hs, Bool.false_eq_true, if_false]
  have step : ∀ (k i : Nat) (m : Str → Option Value) (t : Int) (tk1 : Tok) (tab oe b1 b2 b3 : Obj) (y1 y2 y3 : Option Value) (ce : Nat), i ≤ 1 → b1.data = .cell y1 → b2.data = .cell y2 → b3.data = .cell y3 → 0 ≤ t → t ≤ 7 * (i : Int) → TabSt tab ce oe → @LT.lt Nat _ 528 ce → ce ≠ rp → ce ≠ k1 → ce ≠ k2 → ce ≠ k3 → ce ≠ I → (∀ z, z ≠ Str.ofString "turn" → lawStored.contains z = false → m z = lawMap (fun _ => none) m₁ rp z) →
      (∀ (m' : Str → Option Value) (t' : Int) (tk1 : Tok) (tab oe b1 b2 b3 : Obj) (y1 y2 y3 : Option Value) (ce : Nat), b1.data = .cell y1 → b2.data = .cell y2 → b3.data = .cell y3 → 0 ≤ t' → t' ≤ 7 * ((i + 1 : Nat) : Int) → TabSt tab ce oe → @LT.lt Nat _ 528 ce → ce ≠ rp → ce ≠ k1 → ce ≠ k2 → ce ≠ k3 → ce ≠ I → (∀ z, z ≠ Str.ofString "turn" → lawStored.contains z = false → m' z = lawMap (fun _ => none) m₁ rp z) →
        RangeRest PySem.Challenge.rw_rh0164_01.row.prog w (ktrTop dp un gd cn cs L a ccd [(x1, k1), (x2, k2), (x3, k3)] outer) E h₀ (envX cn cs L a ccd [(x1, k1), (x2, k2), (x3, k3)]) (Str.ofString "turn") body Q s I 0 2 k (i + 1) m' [(rp, ropeAt sl t' tk1 n), (sl, PySem.W.listOf ws.toArray n2), (528, tab), (ce, oe), (k1, b1), (k2, b2), (k3, b3)]) →
      RangeRest PySem.Challenge.rw_rh0164_01.row.prog w (ktrTop dp un gd cn cs L a ccd [(x1, k1), (x2, k2), (x3, k3)] outer) E h₀ (envX cn cs L a ccd [(x1, k1), (x2, k2), (x3, k3)]) (Str.ofString "turn") body Q s I 0 2 (k + 1) i m [(rp, ropeAt sl t tk1 n), (sl, PySem.W.listOf ws.toArray n2), (528, tab), (ce, oe), (k1, b1), (k2, b2), (k3, b3)] := by
    intro k i m t tk1 tab oe b1 b2 b3 y1 y2 y3 ce hi g1 g2 g3 h1 h2 h3 h4 h5 h6 h7 h8 h9 hm next
    refine RangeRest.succ fun ti h tkk F' N' => ?_
    rw [map m _ hm] at F'
    have N2 : News h₀ L h [(rp, ropeAt sl t tk1 n), (sl, PySem.W.listOf ws.toArray n2), (528, tab), (ce, oe), (k1, b1), (k2, b2), (k3, b3), (I, itR (0 + ((i + 1 : Nat) : Int)) (((2 : Nat) : Int) - ((i + 1 : Nat) : Int)))] := cb_drop N' (fun p hp => by
      simp only [List.mem_cons, List.not_mem_nil, or_false] at hp ⊢
      rcases hp with h | h | h | h | h | h | h | h <;> simp [h])
    refine turn p loose mean mg mb dp un gd a ccd outer A₀ base h₀ L { s with heap := h, toks := tkk } _ E rp sl n n2 ce k1 k2 k3 ws ns m m₁ i ti tk1 t tab oe b1 b2 b3 y1 y2 y3 I _ _ B F' X N2 T C hkd hdp hun hI hl h1 (by omega) h3 h4 h5 o1 o2 o3 o4 o5 h6 h7 h8 g1 g2 g3 lI h9 ?_
    intro h' tk' m' nx' news' t' tk2 tab' oe' c1' c2' c3' z1' z2' z3' ce' gg1 gg2 gg3 gg4 gg5 gg6 Fa Na hma ha1 ha2 ha3 ha4 ha5 ha6 hsub
    have hm' : ∀ z, z ≠ Str.ofString "turn" → lawStored.contains z = false → m' z = lawMap (fun _ => none) m₁ rp z := by
      intro z hz hs
      rw [hma z hz hs]; simp only [lawMap, hs, Bool.false_eq_true, if_false]
    refine UnrEnd.intro (s₁ := { s with heap := h, toks := tkk }) Fa Na [(rp, ropeAt sl t' tk2 n), (sl, PySem.W.listOf ws.toArray n2), (528, tab'), (ce', oe'), (k1, c1'), (k2, c2'), (k3, c3')] ?_ ?_ (next m' t' tk2 tab' oe' c1' c2' c3' z1' z2' z3' ce' gg1 gg2 gg3 ha1 (by push_cast; omega) ha3 ha4 ha5 gg4 gg5 gg6 ha6 hm')
    · intro p hp
      refine hsub p ?_
      simp only [List.mem_cons, List.not_mem_nil, or_false] at hp ⊢
      rcases hp with h | h | h | h | h | h | h | h <;> simp [h]
    · intro p hp
      simp only [List.mem_cons, List.not_mem_nil, or_false] at hp
      rcases hp with rfl | rfl | rfl | rfl | rfl | rfl | rfl
      · exact Nat.ne_of_lt lI
      · exact Nat.ne_of_lt (Nat.lt_trans o1 lI)
      · exact Nat.ne_of_lt (by omega : @LT.lt Nat _ 528 I)
      · exact ha6
      · exact Nat.ne_of_lt (by omega : @LT.lt Nat _ k1 I)
      · exact Nat.ne_of_lt (by omega : @LT.lt Nat _ k2 I)
      · exact Nat.ne_of_lt (by omega : @LT.lt Nat _ k3 I)
  refine step 1 0 _ 0 tk _ _ b1 b2 b3 y1 y2 y3 sl (by omega) d1 d2 d3 (Int.le_refl _) (by omega) (Or.inl rfl) (by omega) (Nat.ne_of_lt o1) (by omega) (by omega) (by omega) (Nat.ne_of_lt (Nat.lt_trans o1 lI)) e0 ?_
  intro m' t' tk1 tab oe b1' b2' b3' y1' y2' y3' ce g1 g2 g3 h1 h2 h3 h4 h5 h6 h7 h8 h9 hm
  refine step 0 1 m' t' tk1 tab oe b1' b2' b3' y1' y2' y3' ce (by omega) g1 g2 g3 h1 (by omega) h3 h4 h5 h6 h7 h8 h9 hm ?_
  intro m'' t'' tk2 tab' oe' b1'' b2'' b3'' y1'' y2'' y3'' ce' _ _ _ q1 q2 q3 _ _ _ _ _ _ hm2
  obtain ⟨ps, rfl⟩ : ∃ ps, tab' = tabObj ps := q3.elim (fun e => ⟨_, e⟩) (fun e => ⟨_, e.1⟩)
  refine RangeRest.zero fun h' tk' F' N' => ?_
  refine done h' tk' t'' tk2 m'' ps q1 (by omega) ?_ (cb_drop N' ?_)
  · have e : (fun y => if y = Str.ofString "turn" then m'' y else lawMap m'' m₁ rp y) = m'' := by
      funext z
      by_cases hz : z = Str.ofString "turn"
      · simp only [hz, if_true]
      · simp only [if_neg hz]
        cases hs : lawStored.contains z with
        | true => simp only [lawMap, hs, if_true]
        | false => rw [hm2 z hz hs]; simp only [lawMap, hs, Bool.false_eq_true, if_false]
    rw [e]; exact F'
  · intro p hp
    simp only [List.mem_cons, List.not_mem_nil, or_false] at hp ⊢
    rcases hp with h | h | h <;> simp [h]


def CX (c' c2 ce : Nat) : Prop := ∀ a : Nat, a < c2 → ce ≠ a → c' ≠ a
theorem cx_ne {c' c2 ce a : Nat} (h : CX c' c2 ce) (h1 : @LT.lt Nat _ a c2) (h2 : @Ne Nat ce a) : @Ne Nat c' a := h a h1 h2
theorem cx_of {c' c2 ce : Nat} (h : c' = ce ∨ @LT.lt Nat _ c2 c') : CX c' c2 ce := fun a h1 h2 => by
  rcases h with rfl | h
  · exact h2
  · omega
section
variable {w : World} {news rest : List (Addr × Obj)} {p : Program} {loose : List Str} {mean : ExcName → Option Value} {mg mb : Str → Option Value} {dp un : Nat} {gd : Option (List Code)} {cn : Str} {cs : Scope} {a : Addr} {ccd : Value} {cl : List (Str × Addr)} {outer : List Env} {A₀ : Around} {base h₀ : Heap} {L : Addr} {m : Str → Option Value} {s : Shared} {Q E : Value → Shared → Prop}
theorem mkput_use {q ce : Nat} {nb : Int} {t : Tok} {tab oe : Obj} (B : Below A₀ base outer h₀) (F : Fr h₀ L s.heap m) (X : (Mine.heap w.params).In h₀) (N : News h₀ L s.heap news) (T : Top p loose mean mg mb h₀) (hkd : cs.kind = .function) (hdp : dp + 4 < recursionLimit) (hun : un + 64 * 4 < cLine)
    (m1 : (528, tab) ∈ news) (mi : Minus [528] news rest) (ht : TabSt tab ce oe) (m2 : (ce, oe) ∈ rest) (C : CodeHd base 532 528)
    (hret : ∀ h' tk' (f : Nat) oc od fd sl (c' : Nat) oc' (c1 : Nat) o1 (c2 : Nat) o2 tab', Fr h₀ L h' m → News h₀ L h' ((f, ⟨oc, od, .func fd, sl⟩) :: (c', oc') :: (c2, o2) :: (c1, o1) :: (528, tab') :: rest) → (∀ p ∈ (528, tab) :: rest, p.1 < c1) → c1 < c2 → c2 < f → @LT.lt Nat _ c' f → (c' = ce ∨ @LT.lt Nat _ c2 c') → CX c' c2 ce → TabSt tab' c' oc' →
      PutSpec w f q nb [(f, ⟨oc, od, .func fd, sl⟩), (c', oc'), (c2, o2), (c1, o1)] → Q (.ref f) { s with heap := h', toks := tk' }) :
    wpAny (model PySem.Challenge.rw_rh0164_01.row.prog w) (ktrTop dp un gd cn cs L a ccd cl outer) (call (.ref 533) [.ref q, .int nb t]) Q E s := by
  have N2 := cb_drop N mi.sub
  have hr : ∀ p ∈ rest, p.1 ≠ 528 := fun p hp => mi.off p hp 528 (.head _)
  rcases ht with rfl | ⟨rfl, ho⟩
  · refine mkput0 B F X (News.add m1 N N2) T hkd hdp hun C hr ?_
    intro h' tk' f oc od fd sl c' oc' c1 o1 c2 o2 F' N' hc hl l1 l2 l3 l4 P
    exact hret h' tk' f oc od fd sl c' oc' c1 o1 c2 o2 _ F' N' (List.forall_mem_cons.mpr ⟨l1, allLt_all hl⟩) l2 l3 l4.2 (Or.inr l4.1) (cx_of (Or.inr l4.1)) (Or.inr ⟨rfl, hc⟩) P
  · refine mkput1 B F X (News.add m1 N N2) T hkd hdp hun C hr m2 ho ?_
    intro h' tk' f oc od fd sl c' oc' c1 o1 c2 o2 F' N' hc hl l1 l2 l3 l4 P
    have hce : @LT.lt Nat _ ce c1 := allLt_all hl _ m2
    exact hret h' tk' f oc od fd sl c' oc' c1 o1 c2 o2 _ F' N' (List.forall_mem_cons.mpr ⟨l1, allLt_all hl⟩) l2 l3 (by have := l4.1; omega) (Or.inl l4.1) (cx_of (Or.inl l4.1)) (Or.inr ⟨rfl, hc⟩) P
theorem works_use {v0 v1 v2 v3 v4 v5 : Value} (B : Below A₀ base outer h₀) (F : Fr h₀ L s.heap m) (X : (Mine.heap w.params).In h₀) (N : News h₀ L s.heap news) (T : Top p loose mean mg mb h₀) (hkd : cs.kind = .function) (hdp : dp + 4 < recursionLimit) (hun : un + 64 * 4 < cLine)
    (hret : ∀ h' tk' (x dx : Nat) (tk : T10), (∀ p ∈ news, p.1 < dx) → dx < x → Fr h₀ L h' m → News h₀ L h' ((x, instObj 417 dx) :: (dx, dictOf (worksEs w tk v0 v1 v2 v3 v4 v5) 6) :: news) → Q (.ref x) { s with heap := h', toks := tk' }) :
    wpAny (model PySem.Challenge.rw_rh0164_01.row.prog w) (ktrTop dp un gd cn cs L a ccd cl outer) (call (.ref 417) [v0, v1, v2, v3, v4, v5]) Q E s := by
  refine works_spec w v0 v1 v2 v3 v4 v5 news p loose mean mg mb dp un gd cn cs a ccd cl outer A₀ base h₀ L m s Q E B F X N T hkd hdp hun ?_
  intro h' tk' x dx tk l1 l2 ⟨F', N'⟩
  exact hret h' tk' x dx tk l1 l2 F' N'
theorem limits_use {fl : Value} (B : Below A₀ base outer h₀) (F : Fr h₀ L s.heap m) (X : (Mine.heap w.params).In h₀) (N : News h₀ L s.heap news) (T : Top p loose mean mg mb h₀) (hkd : cs.kind = .function) (hdp : dp + 4 < recursionLimit) (hun : un + 64 * 4 < cLine)
    (hret : ∀ h' tk' (x dx : Nat) (tk : T10), (∀ p ∈ news, p.1 < dx) → dx < x → Fr h₀ L h' m → News h₀ L h' ((x, instObj 95 dx) :: (dx, dictOf (limEs w tk fl) 10) :: news) → Q (.ref x) { s with heap := h', toks := tk' }) :
    wpAny (model PySem.Challenge.rw_rh0164_01.row.prog w) (ktrTop dp un gd cn cs L a ccd cl outer) (call (.ref 95) [] [("flush", fl)]) Q E s := by
  refine limits_kw w fl news p loose mean mg mb dp un gd cn cs a ccd cl outer A₀ base h₀ L m s Q E B F X N T hkd hdp hun ?_
  intro h' tk' x dx tk l1 l2 ⟨F', N'⟩
  exact hret h' tk' x dx tk l1 l2 F' N'
theorem limits0_use (B : Below A₀ base outer h₀) (F : Fr h₀ L s.heap m) (X : (Mine.heap w.params).In h₀) (N : News h₀ L s.heap news) (T : Top p loose mean mg mb h₀) (hkd : cs.kind = .function) (hdp : dp + 4 < recursionLimit) (hun : un + 64 * 4 < cLine)
    (hret : ∀ h' tk' (x dx : Nat) (tk : T10), (∀ p ∈ news, p.1 < dx) → dx < x → Fr h₀ L h' m → News h₀ L h' ((x, instObj 95 dx) :: (dx, dictOf (limEs w tk (.int 50 275)) 10) :: news) → Q (.ref x) { s with heap := h', toks := tk' }) :
    wpAny (model PySem.Challenge.rw_rh0164_01.row.prog w) (ktrTop dp un gd cn cs L a ccd cl outer) (call (.ref 95) [] []) Q E s := by
  refine limits_0 w news p loose mean mg mb dp un gd cn cs a ccd cl outer A₀ base h₀ L m s Q E B F X N T hkd hdp hun ?_
  intro h' tk' x dx tk l1 l2 ⟨F', N'⟩
  exact hret h' tk' x dx tk l1 l2 F' N'
theorem stepper_use {c k rg lm wk : Nat} {v0 v1 v2 v3 v4 : Value} {n2 : Nat} (B : Below A₀ base outer h₀) (F : Fr h₀ L s.heap m) (X : (Mine.heap w.params).In h₀) (N : News h₀ L s.heap news) (T : Top p loose mean mg mb h₀) (hkd : cs.kind = .function) (hdp : dp + 4 < recursionLimit) (hun : un + 64 * 4 < cLine) (m1 : (rg, PySem.W.listOf #[v0, v1, v2, v3, v4] n2) ∈ news)
    (hret : ∀ h' tk' (x dx sk : Nat) (tk : T10) (tr tt tp : Tok), (∀ p ∈ news, p.1 < dx) → dx < x → x < sk → Fr h₀ L h' m → News h₀ L h' ((sk, stackAt v0 v1 v2 v3 v4 0) :: (x, instObj 508 dx) :: (dx, dictOf (stepEs w tk c k sk lm wk (.int 5 tr) (.int 5 tt) .none 0 tp) 9) :: news) → Q (.ref x) { s with heap := h', toks := tk' }) :
    wpAny (model PySem.Challenge.rw_rh0164_01.row.prog w) (ktrTop dp un gd cn cs L a ccd cl outer) (call (.ref 508) [.ref c, .ref k, .ref rg, .ref lm, .ref wk]) Q E s := by
  refine stepper_spec w c k rg lm wk v0 v1 v2 v3 v4 n2 news p loose mean mg mb dp un gd cn cs a ccd cl outer A₀ base h₀ L m s Q E B F X (News.add m1 N N) T hkd hdp hun ?_
  intro h' tk' x dx sk tk tr tt tp _ l1 l2 l3 ⟨F', N'⟩
  exact hret h' tk' x dx sk tk tr tt tp l1 l2 l3 F' (cb_drop N' (fun p hp => by
    simp only [List.mem_cons] at hp ⊢
    rcases hp with h | h | h | h <;> simp [h]))
end


abbrev tup2 (a b : Value) : Obj := ⟨.type "tuple", none, .seq #[a, b], #[]⟩
open PySem.SeqAt in
theorem eqAt_bytes {A : Around} {s : Shared} (b : Array UInt8) (t u : Tok) : EqAt A s (.bytes b t) (.bytes b u) true := fun prog w E Q hq => by
  unfold eqBool
  refine wpAny_holding ?_
  refine wpAny_ite_split (fun _ => ?_) (fun _ => ?_)
  · exact wpAny_bind (wpAny_rule (wpAny_pure hq))
  · refine wpAny_bind ?_
    have h : (b.toList == b.toList) = true := beq_self_eq_true _
    exact eq_bytes (by rw [h]; exact wpAny_truthy_bool hq)
open PySem.SeqAt in
theorem eqAt_str {A : Around} {s : Shared} (x : Str) (t u : Tok) : EqAt A s (.str x t) (.str x u) true := by
  have h := (eqGives_str x x t u).at A s
  rwa [beq_self_eq_true] at h
open PySem.SeqAt in
theorem eqAt_int {A : Around} {s : Shared} (x y : Int) (e : x = y) (t u : Tok) : EqAt A s (.int x t) (.int y u) true := by
  have h := EqAt.int_int (A := A) (s := s) x t y u
  subst e
  rwa [beq_self_eq_true] at h
open PySem.SeqAt in
theorem eqAt_ref {A : Around} {s : Shared} {l b : Addr} (h : l ≠ b → RcAt A s (.ref l) (.ref b) true) : EqAt A s (.ref l) (.ref b) true := by
  by_cases e : l = b
  · subst e; exact EqAt.same _
  · exact EqAt.of_refs e (h e)
open PySem.SeqAt in
theorem rcAt_tup {A : Around} {s : Shared} {l b : Addr} {xs ys : List Value} (hl : s.heap.IsTuple l xs.toArray) (hb : s.heap.IsTuple b ys.toArray) (hu : A.units < cLine) (hn : xs.length = ys.length)
    (he : ∀ j (h1 : j < xs.length) (h2 : j < ys.length), EqAt A.in1 s xs[j] ys[j] true) : RcAt A s (.ref l) (.ref b) true := by
  have h := RcAt.tuples (e := fun _ => true) hl hb hu (fun j h1 h2 => by simpa using he j (by simpa using h1) (by simpa using h2))
  have e : ((List.range (min xs.toArray.size ys.toArray.size)).all (fun _ => true) && xs.toArray.size == ys.toArray.size) = true := by simp [hn]
  rwa [e] at h
open PySem.SeqAt in
theorem rcAt_list {A : Around} {s : Shared} {l b : Addr} {xs ys : List Value} (hl : s.heap.IsList l xs.toArray) (hb : s.heap.IsList b ys.toArray) (hu : A.units < cLine) (hn : xs.length = ys.length)
    (he : ∀ j (h1 : j < xs.length) (h2 : j < ys.length), EqAt A.in1 s xs[j] ys[j] true) : RcAt A s (.ref l) (.ref b) true := by
  have h := RcAt.lists (e := fun _ => true) hl hb (by simpa using hn) hu (fun j h1 h2 => by simpa using he j (by simpa using h1) (by simpa using h2))
  have e : ((List.range xs.toArray.size).all (fun _ => true)) = true := by simp
  rwa [e] at h
open PySem.SeqAt in
theorem neAt_tup {A : Around} {s : Shared} {l b : Addr} {xs ys : List Value} (hl : s.heap.IsTuple l xs.toArray) (hb : s.heap.IsTuple b ys.toArray) (hu : A.units < cLine) (hn : xs.length = ys.length)
    (he : ∀ j (h1 : j < xs.length) (h2 : j < ys.length), EqAt A.in1 s xs[j] ys[j] true) : RcNeAt A s (.ref l) (.ref b) false := by
  have h := RcNeAt.tuples (e := fun _ => true) hl hb hu (fun j h1 h2 => by simpa using he j (by simpa using h1) (by simpa using h2))
  have e : (!((List.range (min xs.toArray.size ys.toArray.size)).all (fun _ => true) && xs.toArray.size == ys.toArray.size)) = false := by simp [hn]
  rwa [e] at h
open PySem.SeqAt in
theorem neAt_list {A : Around} {s : Shared} {l b : Addr} {xs ys : List Value} (hl : s.heap.IsList l xs.toArray) (hb : s.heap.IsList b ys.toArray) (hu : A.units < cLine) (hn : xs.length = ys.length)
    (he : ∀ j (h1 : j < xs.length) (h2 : j < ys.length), EqAt A.in1 s xs[j] ys[j] true) : RcNeAt A s (.ref l) (.ref b) false := by
  have h := RcNeAt.lists (e := fun _ => true) hl hb (by simpa using hn) hu (fun j h1 h2 => by simpa using he j (by simpa using h1) (by simpa using h2))
  have e : (!((List.range xs.toArray.size).all (fun _ => true))) = false := by simp
  rwa [e] at h
/-- the items of a list that says what is due -/
inductive Due (h : Heap) (x : Array UInt8) : Int → List Value → List Value → Prop where
  | nil {a vs} : Due h x a vs []
  | cons {a v vs d t k u ds} : h.IsTuple d (#[.bytes x t, .int k u, v]) → k = a + 1 → Due h x (a + 1) vs ds → Due h x a (v :: vs) (.ref d :: ds)
theorem Due.take {h : Heap} {x : Array UInt8} {a : Int} {vs ds : List Value} (d : Due h x a vs ds) : ∀ n, Due h x a vs (ds.take n) := by
  induction d with
  | nil => intro n; simp; exact .nil
  | cons h1 h2 _ ih =>
    intro n
    cases n with
    | zero => exact .nil
    | succ n => exact .cons h1 h2 (ih n)
theorem isTuple_of {h₀ h : Heap} {L : Addr} {news : List (Addr × Obj)} {z : Addr} {a : Array Value} (N : News h₀ L h news) (hm : (z, ⟨.type "tuple", none, .seq a, #[]⟩) ∈ news) : h.IsTuple z a := ⟨_, (N _ hm).1, rfl, _, rfl⟩
open PySem.SeqAt in
theorem asked_due {A : Around} {s : Shared} {h₀ : Heap} {L : Addr} {news : List (Addr × Obj)} {x : Array UInt8} {u0 : Tok} (N : News h₀ L s.heap news) (hu : A.in1.units < cLine) {a : Int} {vs ds : List Value} {zs : List (Addr × Obj)} (hA : Asked (.bytes x u0) a vs zs) (hz : ∀ p ∈ zs, p ∈ news) (hD : Due s.heap x a vs ds) :
    ∀ j (h1 : j < (zs.map (fun p => Value.ref p.1)).length) (h2 : j < ds.length), EqAt A s (zs.map (fun p => Value.ref p.1))[j] ds[j] true := by
  induction hA generalizing ds with
  | nil => intro j h1 h2; simp at h1
  | cons hk hA' ih =>
    rename_i a v vs z k t zs
    cases hD with
    | nil => intro j h1 h2; simp at h2
    | cons g1 g2 g3 =>
      rename_i d t' k' u' ds
      intro j h1 h2
      cases j with
      | succ j => exact ih (fun p hp => hz p (.tail _ hp)) g3 j (by simpa using h1) (by simpa using h2)
      | zero =>
        have hzt := isTuple_of N (hz _ (.head _))
        refine eqAt_ref fun hne => rcAt_tup (xs := [.bytes x u0, .int k t, v]) (ys := [.bytes x t', .int k' u', v]) hzt g1 (Nat.lt_of_le_of_lt (by simp [Around.in1]) hu) rfl ?_
        intro j h1 h2
        match j, h1 with
        | 0, _ => exact eqAt_bytes x u0 t'
        | 1, _ => exact eqAt_int k k' (by omega) t u'
        | 2, _ => exact EqAt.same v
section
variable {prog : Program} {w : World} {A : Around} {E : Value → Shared → Prop} {s : Shared} {Q : Value → Shared → Prop}
open PySem.SeqAt in
theorem ne_asked {h₀ : Heap} {L : Addr} {news : List (Addr × Obj)} {x : Array UInt8} {u0 : Tok} (N : News h₀ L s.heap news) (hu : A.in1.in1.units < cLine) {a : Int} {vs ds : List Value} {zs : List (Addr × Obj)} {arr : Array Value} {q d : Addr} {nq nd : Nat} (e : arr.toList = zs.map (fun p => Value.ref p.1)) (hA : Asked (.bytes x u0) a vs zs) (hz : ∀ p ∈ zs, p ∈ news) (hD : Due s.heap x a vs ds)
    (mq : (q, PySem.W.listOf arr nq) ∈ news) (md : (d, PySem.W.listOf ds.toArray nd) ∈ news) (hl : zs.length = ds.length) (h : Q (.bool false) s) : wpAny (model prog w) A (compareOp .NotEq (.ref q) (.ref d)) Q E s := by
  have hq : s.heap.IsList q (zs.map (fun p => Value.ref p.1)).toArray := ⟨_, (N _ mq).1, rfl, nq, by rw [← e]⟩
  have hd : s.heap.IsList d ds.toArray := ⟨_, (N _ md).1, rfl, nd, rfl⟩
  exact neAt_list hq hd (Nat.lt_of_le_of_lt (by simp [Around.in1]; omega) hu) (by simpa using hl) (asked_due N hu hA hz hD) prog w E Q h
open PySem.SeqAt in
theorem ne_stop {h₀ : Heap} {L : Addr} {news : List (Addr × Obj)} {z e : Addr} {x : Str} {t u t' u' : Tok} {a b : Int} (N : News h₀ L s.heap news) (hu : A.in1.units < cLine) (mz : (z, tup2 (.str x t) (.int a t')) ∈ news) (me : (e, tup2 (.str x u) (.int b u')) ∈ news) (hab : a = b) (h : Q (.bool false) s) : wpAny (model prog w) A (compareOp .NotEq (.ref z) (.ref e)) Q E s := by
  refine neAt_tup (xs := [.str x t, .int a t']) (ys := [.str x u, .int b u']) (isTuple_of N mz) (isTuple_of N me) (Nat.lt_of_le_of_lt (by simp [Around.in1]) hu) rfl ?_ prog w E Q h
  intro j h1 h2
  match j, h1 with
  | 0, _ => exact eqAt_str x t u
  | 1, _ => exact eqAt_int a b hab t' u'
open PySem.SeqAt in
theorem ne_back {h₀ : Heap} {L : Addr} {news : List (Addr × Obj)} {z e r r' : Addr} {x : Str} {t u t' u' : Tok} {b : Array UInt8} {n n' : Nat} (N : News h₀ L s.heap news) (hu : A.in1.in1.units < cLine) (mz : (z, tup2 (.str x t) (.ref r)) ∈ news) (me : (e, tup2 (.str x u) (.ref r')) ∈ news) (mr : (r, PySem.W.listOf #[.bytes b t'] n) ∈ news) (mr' : (r', PySem.W.listOf #[.bytes b u'] n') ∈ news) (h : Q (.bool false) s) : wpAny (model prog w) A (compareOp .NotEq (.ref z) (.ref e)) Q E s := by
  refine neAt_tup (xs := [.str x t, .ref r]) (ys := [.str x u, .ref r']) (isTuple_of N mz) (isTuple_of N me) (Nat.lt_of_le_of_lt (by simp [Around.in1]; omega) hu) rfl ?_ prog w E Q h
  intro j h1 h2
  match j, h1 with
  | 0, _ => exact eqAt_str x t u
  | 1, _ =>
    refine eqAt_ref fun _ => rcAt_list (xs := [.bytes b t']) (ys := [.bytes b u']) ⟨_, (N _ mr).1, rfl, n, rfl⟩ ⟨_, (N _ mr').1, rfl, n', rfl⟩ (Nat.lt_of_le_of_lt (by simp [Around.in1]) hu) rfl ?_
    intro j h1 h2
    match j, h1 with
    | 0, _ => exact eqAt_bytes b t' u'
end


def MergeQ (iw blk : Int) (s : Shared) (v : Value) (s' : Shared) : Prop := ∃ f t tk, v = .int f t ∧ s' = { s with toks := tk } ∧ ((iw = 1 ∧ f = 0) ∨ (iw ≠ 1 ∧ f = blk))
theorem merge_wide {M : Model} {A : Around} {cn : Str} {cs : Scope} {L a c : Addr} {ccd : Value} {cl : List (Str × Addr)} {test body orelse : Expr} {pos : Pos} {h₀ : Heap} {m : Str → Option Value} {s : Shared} {news : List (Addr × Obj)} {iw blk : Int} {t1 t2 : Tok} {ob : Obj} {Q E : Value → Shared → Prop}
    (uF0 : Fr h₀ L s.heap m) (uhm0 : m (Str.ofString "is_wide") = some (.int iw t1)) (uhc0 : cl.lookup (Str.ofString "block") = some c) (uN0 : News h₀ L s.heap news) (umb0 : (c, ob) ∈ news) (udb0 : ob.data = .cell (some (.int blk t2)))
    (h1 : wpAny M A (eval (.IfExp test body orelse pos) (envX cn cs L a ccd cl)) (MergeQ iw blk s) E s)
    (h2 : ∀ f t tk, ((iw = 1 ∧ f = 0) ∨ (iw ≠ 1 ∧ f = blk)) → Q (.int f t) { s with toks := tk }) :
    wpAny M A (eval (.IfExp test body orelse pos) (envX cn cs L a ccd cl)) Q E s :=
  wpAny_mono h1 (fun v s' ⟨f, t, tk, e1, e2, h⟩ => e1 ▸ e2 ▸ h2 f t tk h) (fun _ _ e => e)
theorem compEnd_one {h₀ : Heap} {L I C D t : Nat} {m : Str → Option Value} {s₁ : Shared} {oI oC oD ot : Obj} {S : List (Addr × Obj) → Prop} {rest : Value → List (Addr × Obj) → Prop} {h' : Heap} {tk : Nat} {all news : List (Addr × Obj)}
    (F : Fr h₀ L h' m) (off : LCg.Off3 I C D news) (N : News h₀ L h' all) (mt : (t, ot) ∈ all) (l1 : I < t) (l2 : C < t) (l3 : D < t) (sub : ∀ p ∈ (I, oI) :: (C, oC) :: (D, oD) :: news, p ∈ all) (hS : S ((t, ot) :: news)) (r : rest (.ref t) ((t, ot) :: news)) :
    LCg.CompEnd h₀ L m s₁ I oI C oC D oD S rest (.ref t) { s₁ with heap := h', toks := tk } :=
  LCg.CompEnd.intro F N ((t, ot) :: news) (fun p hp => by
    rcases List.mem_cons.mp hp with h | hp
    · exact sub p (h ▸ .head _)
    rcases List.mem_cons.mp hp with h | hp
    · exact sub p (h ▸ .tail _ (.head _))
    rcases List.mem_cons.mp hp with h | hp
    · exact sub p (h ▸ .tail _ (.tail _ (.head _)))
    rcases List.mem_cons.mp hp with h | hp
    · exact h ▸ mt
    · exact sub p (.tail _ (.tail _ (.tail _ hp)))) ⟨⟨(Nat.ne_of_lt l1).symm, (Nat.ne_of_lt l2).symm, (Nat.ne_of_lt l3).symm⟩, off⟩ hS r


def RunOut (nb many mv iw su : Int) (u0 : Tok) (A B : Value) (zs xs : List (Addr × Obj)) : Prop :=
  (1 ≤ nb ∧ nb ≤ many ∧ (zs.length : Int) = nb ∧ A = .str (Str.ofString "stopped") 774 ∧ ∃ te, B = .int mv te) ∨
  (¬ (1 ≤ nb ∧ nb ≤ many) ∧ (zs.length : Int) = many ∧ su = 1 ∧ A = .str (Str.ofString "stopped") 774 ∧ ∃ te, B = .int (mv + 1 + iw) te) ∨
  (¬ (1 ≤ nb ∧ nb ≤ many) ∧ (zs.length : Int) = many ∧ su = 0 ∧ A = .str (Str.ofString "back") 772 ∧ ∃ r, B = .ref r ∧ (r, PySem.W.listOf #[.bytes #[116] u0] 0) ∈ xs)
theorem Minus.lt3 {a b c : Addr} {l : List (Addr × Obj)} (h1 : AllLt a l) (h2 : AllLt b l) (h3 : AllLt c l) : Minus [a, b, c] l l := .all fun p hp x hx => by
  simp only [List.mem_cons, List.not_mem_nil, or_false] at hx
  rcases hx with rfl | rfl | rfl
  · exact Nat.ne_of_lt (allLt_all h1 p hp)
  · exact Nat.ne_of_lt (allLt_all h2 p hp)
  · exact Nat.ne_of_lt (allLt_all h3 p hp)
theorem mem_mid {a b c : List (Addr × Obj)} {p : Addr × Obj} (h : p ∈ b ++ (a ++ c)) : p ∈ a ++ (b ++ c) := by
  simp only [List.mem_append] at h ⊢
  rcases h with h | h | h <;> simp [h]
theorem wbits {W field many : Int} (hW : W = 34 + 16384 * field + 8388608 * many) (h0 : 0 ≤ field) (h1 : field ≤ 3) (hm : 1 ≤ many) (hm3 : many ≤ 3) :
    Builtin.bitAnd W 63 = 34 ∧ W.fdiv (2 ^ Int.toNat 23) = many ∧ Builtin.bitAnd (W.fdiv (2 ^ Int.toNat 14)) 511 = field ∧ Builtin.bitAnd (W.fdiv (2 ^ Int.toNat 6)) 255 = 0 := by
  rcases (by omega : field = 0 ∨ field = 1 ∨ field = 2 ∨ field = 3) with rfl | rfl | rfl | rfl <;> rcases (by omega : many = 1 ∨ many = 2 ∨ many = 3) with rfl | rfl | rfl <;> (subst hW; decide +kernel)
def codeOf (mv W iw block su : Int) : List Int := (List.replicate mv.toNat [8388864]).flatten ++ [W] ++ (List.replicate iw.toNat [block]).flatten ++ (List.replicate su.toNat [16652]).flatten ++ [16777246]
section
variable {w : World} {news rest : List (Addr × Obj)} {p : Program} {loose : List Str} {mean : ExcName → Option Value} {mg mb : Str → Option Value} {dp un : Nat} {gd : Option (List Code)} {cn : Str} {cs : Scope} {a : Addr} {ccd : Value} {cl : List (Str × Addr)} {outer : List Env} {A₀ : Around} {base h₀ : Heap} {L : Addr} {m : Str → Option Value} {s : Shared} {Q E : Value → Shared → Prop}
theorem run_use {x dx c k sk lm dl wk dw q f nc n2 nq : Nat} {tk tkl tkw : T10} {fl nb many W field block mv iw su : Int} {tfl tr tt tp t1 u0 u1 : Tok} {v2 v3 v4 : Value} {code : List Value} {cs' : List Int} {oc : Value} {od : Option Addr} {fd : FuncData} {sl : Array (Option Value)} {own lit tl : List (Addr × Obj)} (B : Below A₀ base outer h₀) (F : Fr h₀ L s.heap m) (X : (Mine.heap w.params).In h₀) (N : News h₀ L s.heap news) (T : Top p loose mean mg mb h₀) (hkd : cs.kind = .function) (hdp : dp + 20 < recursionLimit) (hun : un + 64 * 20 < cLine)
    (m1 : (x, instObj 508 dx) ∈ news) (m2 : (dx, dictOf (stepEs w tk c k sk lm wk (.int 5 tr) (.int 5 tt) .none 0 tp) 9) ∈ news) (m3 : (sk, stackAt (.bytes #[116] u0) (.int 31 u1) v2 v3 v4 n2) ∈ news) (m4 : (q, PySem.W.listOf #[] nq) ∈ news) (m5 : (lm, instObj 95 dl) ∈ news) (m6 : (dl, dictOf (limEs w tkl (.int fl tfl)) 10) ∈ news) (m7 : (wk, instObj 417 dw) ∈ news) (m8 : (dw, dictOf (worksEs w tkw .none .none (.ref f) .none .none .none) 6) ∈ news) (m9 : (c, PySem.W.listOf code.toArray nc) ∈ news) (m10 : (f, ⟨oc, od, .func fd, sl⟩) ∈ news) (hsub : ∀ p ∈ rest, p ∈ news) (hoff : ∀ p ∈ rest, p.1 ≠ q ∧ p.1 ≠ dx ∧ p.1 ≠ sk) (mt : TailOf rest lit tl) (hC : IntsAre code cs') (hcs : cs' = codeOf mv W iw block su) (hW : W = 34 + 64 * 0 + 16384 * field + 8388608 * many) (hm : 1 ≤ many) (hm3 : many ≤ 3) (hk0 : 1 ≤ block) (hk1 : block ≤ 3) (hfl0 : 3 ≤ fl) (hfl1 : fl ≤ 5) (hv0 : 0 ≤ mv) (hv1 : mv ≤ 3) (hs0 : 0 ≤ su) (hs1 : su ≤ 1) (hf : (iw = 1 ∧ field = 0) ∨ (iw = 0 ∧ field = block)) (o1 : q < c) (o2 : c < f) (o3 : f < dw) (o4 : dw < wk) (o5 : wk < dl) (o6 : dl < lm) (o7 : lm < dx) (o8 : dx < x) (o9 : x < sk) (P : PutSpec w f q nb own) (ho : ∀ p ∈ own, p ∈ rest)
    (hret : ∀ h' tk' (z : Nat) (A B : Value) (zs tl2 : List (Addr × Obj)) (arr : Array Value) nq', arr.toList = zs.map (fun p => Value.ref p.1) → Asked (.bytes #[116] u0) ((block - 1) * fl) [.int 31 u1, v2, v3] zs → RunOut nb many mv iw su u0 A B zs tl2 → (∀ p ∈ zs, p ∈ tl2) → (∀ p ∈ tl, p ∈ tl2) →
      Fr h₀ L h' m → News h₀ L h' ((z, tup2 A B) :: (q, PySem.W.listOf arr nq') :: (lit ++ tl2)) → Q (.ref z) { s with heap := h', toks := tk' }) :
    wpAny (model PySem.Challenge.rw_rh0164_01.row.prog w) (ktrTop dp un gd cn cs L a ccd cl outer) (call (.ref 442) [.ref x, .int 9 t1]) Q E s := by
  have hq : ∀ p ∈ rest, p.1 ≠ q := fun p hp => (hoff p hp).1
  have hd : ∀ p ∈ rest, p.1 ≠ dx := fun p hp => (hoff p hp).2.1
  have hs : ∀ p ∈ rest, p.1 ≠ sk := fun p hp => (hoff p hp).2.2
  have wb := wbits (by omega : W = 34 + 16384 * field + 8388608 * many) (by omega) (by omega) hm hm3
  have hW0 : 0 ≤ W := by omega
  have hW1 : W < 2 ^ 40 := by omega
  have NN := News.add m1 N (News.add m2 N (News.add m3 N (News.add m4 N (News.add m5 N (News.add m6 N (News.add m7 N (News.add m8 N (News.add m9 N (News.add m10 N (cb_drop N hsub))))))))))
  have hrest := mt.eq
  clear mt
  clear m1 m2 m3 m4 m5 m6 m7 m8 m9 m10 hsub hoff hW
  rcases hf with ⟨rfl, hf0⟩ | ⟨rfl, hf1⟩
  · rcases (by omega : mv = 0 ∨ mv = 1 ∨ mv = 2 ∨ mv = 3) with rfl | rfl | rfl | rfl <;> rcases (by omega : su = 0 ∨ su = 1) with rfl | rfl
    · have hl : cs' = [W, block, 16777246] := by rw [hcs]; rfl
      subst hl
      obtain ⟨tB, hL⟩ := hC.get 0 W rfl
      obtain ⟨tb, hb⟩ := hC.get 1 block rfl
      obtain ⟨tC, hE⟩ := hC.get 2 16777246 rfl
      refine run_gen w x dx c k sk lm dl wk dw q f nc n2 nq tk tkl tkw fl nb many W field block 2 tfl tr tt tp t1 tB tC tb u0 u1 v2 v3 v4 code oc od fd sl own rest false 0 (by decide) hW0 hW1 wb.2.1 wb.2.2.1 hm hm3 hk0 hk1 hfl0 hfl1 (Or.inr ⟨hf0, hb, rfl⟩) wb.2.2.2 wb.1 (fun j hj => absurd hj (Nat.not_lt_zero j)) hL (by decide) (by decide) hE o1 o2 o3 o4 o5 o6 o7 o8 o9 hq hd hs ho P p loose mean mg mb dp un gd cn cs a ccd cl outer A₀ base h₀ L m s Q E B F X NN T hkd hdp hun ?_
      intro h' tk' z zs arr nq' te a1 a2
      subst hrest
      refine ⟨fun b ok => ?_, fun b e ok => ?_, fun b e r ok => ?_⟩
      · exact hret h' tk' z _ _ zs (zs ++ tl) arr nq' a1 a2 (Or.inl ⟨b.1, b.2.1, b.2.2, rfl, te, rfl⟩) (fun p hp => List.mem_append_left _ hp) (fun p hp => List.mem_append_right _ hp) ok.1 (cb_drop ok.2 (List.forall_mem_cons.mpr ⟨.head _, List.forall_mem_cons.mpr ⟨.tail _ (.head _), fun p hp => .tail _ (.tail _ (mem_mid hp))⟩⟩))
      · exact absurd e (by decide)
      · refine hret h' tk' z _ _ zs ((r, PySem.W.listOf #[.bytes #[116] u0] 0) :: (zs ++ tl)) arr nq' a1 a2 (Or.inr (Or.inr ⟨b.1, b.2, rfl, rfl, r, rfl, .head _⟩)) (fun p hp => .tail _ (List.mem_append_left _ hp)) (fun p hp => .tail _ (List.mem_append_right _ hp)) ok.1 (cb_drop ok.2 (List.forall_mem_cons.mpr ⟨.head _, List.forall_mem_cons.mpr ⟨.tail _ (.tail _ (.head _)), fun p hp => ?_⟩⟩))
        rcases List.mem_append.mp hp with hp | hp
        · exact .tail _ (.tail _ (.tail _ (List.mem_append_right _ (List.mem_append_left _ hp))))
        · rcases List.mem_cons.mp hp with rfl | hp
          · exact .tail _ (.head _)
          · exact .tail _ (.tail _ (.tail _ (mem_mid (List.mem_append_right _ hp))))
    · have hl : cs' = [W, block, 16652, 16777246] := by rw [hcs]; rfl
      subst hl
      obtain ⟨tB, hL⟩ := hC.get 0 W rfl
      obtain ⟨tb, hb⟩ := hC.get 1 block rfl
      obtain ⟨tC, hE⟩ := hC.get 2 16652 rfl
      refine run_gen w x dx c k sk lm dl wk dw q f nc n2 nq tk tkl tkw fl nb many W field block 2 tfl tr tt tp t1 tB tC tb u0 u1 v2 v3 v4 code oc od fd sl own rest true 0 (by decide) hW0 hW1 wb.2.1 wb.2.2.1 hm hm3 hk0 hk1 hfl0 hfl1 (Or.inr ⟨hf0, hb, rfl⟩) wb.2.2.2 wb.1 (fun j hj => absurd hj (Nat.not_lt_zero j)) hL (by decide) (by decide) hE o1 o2 o3 o4 o5 o6 o7 o8 o9 hq hd hs ho P p loose mean mg mb dp un gd cn cs a ccd cl outer A₀ base h₀ L m s Q E B F X NN T hkd hdp hun ?_
      intro h' tk' z zs arr nq' te a1 a2
      subst hrest
      refine ⟨fun b ok => ?_, fun b e ok => ?_, fun b e r ok => ?_⟩
      · exact hret h' tk' z _ _ zs (zs ++ tl) arr nq' a1 a2 (Or.inl ⟨b.1, b.2.1, b.2.2, rfl, te, rfl⟩) (fun p hp => List.mem_append_left _ hp) (fun p hp => List.mem_append_right _ hp) ok.1 (cb_drop ok.2 (List.forall_mem_cons.mpr ⟨.head _, List.forall_mem_cons.mpr ⟨.tail _ (.head _), fun p hp => .tail _ (.tail _ (mem_mid hp))⟩⟩))
      · exact hret h' tk' z _ _ zs (zs ++ tl) arr nq' a1 a2 (Or.inr (Or.inl ⟨b.1, b.2, rfl, rfl, te, rfl⟩)) (fun p hp => List.mem_append_left _ hp) (fun p hp => List.mem_append_right _ hp) ok.1 (cb_drop ok.2 (List.forall_mem_cons.mpr ⟨.head _, List.forall_mem_cons.mpr ⟨.tail _ (.head _), fun p hp => .tail _ (.tail _ (mem_mid hp))⟩⟩))
      · exact absurd e (by decide)
    · have hl : cs' = [8388864, W, block, 16777246] := by rw [hcs]; rfl
      subst hl
      obtain ⟨tA0, hA0⟩ := hC.get 0 8388864 rfl
      obtain ⟨tB, hL⟩ := hC.get 1 W rfl
      obtain ⟨tb, hb⟩ := hC.get 2 block rfl
      obtain ⟨tC, hE⟩ := hC.get 3 16777246 rfl
      refine run_gen w x dx c k sk lm dl wk dw q f nc n2 nq tk tkl tkw fl nb many W field block 3 tfl tr tt tp t1 tB tC tb u0 u1 v2 v3 v4 code oc od fd sl own rest false 1 (by decide) hW0 hW1 wb.2.1 wb.2.2.1 hm hm3 hk0 hk1 hfl0 hfl1 (Or.inr ⟨hf0, hb, rfl⟩) wb.2.2.2 wb.1 (by intro j hj; rcases (by omega : j = 0) with rfl <;> first | exact ⟨_, hA0⟩) hL (by decide) (by decide) hE o1 o2 o3 o4 o5 o6 o7 o8 o9 hq hd hs ho P p loose mean mg mb dp un gd cn cs a ccd cl outer A₀ base h₀ L m s Q E B F X NN T hkd hdp hun ?_
      intro h' tk' z zs arr nq' te a1 a2
      subst hrest
      refine ⟨fun b ok => ?_, fun b e ok => ?_, fun b e r ok => ?_⟩
      · exact hret h' tk' z _ _ zs (zs ++ tl) arr nq' a1 a2 (Or.inl ⟨b.1, b.2.1, b.2.2, rfl, te, rfl⟩) (fun p hp => List.mem_append_left _ hp) (fun p hp => List.mem_append_right _ hp) ok.1 (cb_drop ok.2 (List.forall_mem_cons.mpr ⟨.head _, List.forall_mem_cons.mpr ⟨.tail _ (.head _), fun p hp => .tail _ (.tail _ (mem_mid hp))⟩⟩))
      · exact absurd e (by decide)
      · refine hret h' tk' z _ _ zs ((r, PySem.W.listOf #[.bytes #[116] u0] 0) :: (zs ++ tl)) arr nq' a1 a2 (Or.inr (Or.inr ⟨b.1, b.2, rfl, rfl, r, rfl, .head _⟩)) (fun p hp => .tail _ (List.mem_append_left _ hp)) (fun p hp => .tail _ (List.mem_append_right _ hp)) ok.1 (cb_drop ok.2 (List.forall_mem_cons.mpr ⟨.head _, List.forall_mem_cons.mpr ⟨.tail _ (.tail _ (.head _)), fun p hp => ?_⟩⟩))
        rcases List.mem_append.mp hp with hp | hp
        · exact .tail _ (.tail _ (.tail _ (List.mem_append_right _ (List.mem_append_left _ hp))))
        · rcases List.mem_cons.mp hp with rfl | hp
          · exact .tail _ (.head _)
          · exact .tail _ (.tail _ (.tail _ (mem_mid (List.mem_append_right _ hp))))
    · have hl : cs' = [8388864, W, block, 16652, 16777246] := by rw [hcs]; rfl
      subst hl
      obtain ⟨tA0, hA0⟩ := hC.get 0 8388864 rfl
      obtain ⟨tB, hL⟩ := hC.get 1 W rfl
      obtain ⟨tb, hb⟩ := hC.get 2 block rfl
      obtain ⟨tC, hE⟩ := hC.get 3 16652 rfl
      refine run_gen w x dx c k sk lm dl wk dw q f nc n2 nq tk tkl tkw fl nb many W field block 3 tfl tr tt tp t1 tB tC tb u0 u1 v2 v3 v4 code oc od fd sl own rest true 1 (by decide) hW0 hW1 wb.2.1 wb.2.2.1 hm hm3 hk0 hk1 hfl0 hfl1 (Or.inr ⟨hf0, hb, rfl⟩) wb.2.2.2 wb.1 (by intro j hj; rcases (by omega : j = 0) with rfl <;> first | exact ⟨_, hA0⟩) hL (by decide) (by decide) hE o1 o2 o3 o4 o5 o6 o7 o8 o9 hq hd hs ho P p loose mean mg mb dp un gd cn cs a ccd cl outer A₀ base h₀ L m s Q E B F X NN T hkd hdp hun ?_
      intro h' tk' z zs arr nq' te a1 a2
      subst hrest
      refine ⟨fun b ok => ?_, fun b e ok => ?_, fun b e r ok => ?_⟩
      · exact hret h' tk' z _ _ zs (zs ++ tl) arr nq' a1 a2 (Or.inl ⟨b.1, b.2.1, b.2.2, rfl, te, rfl⟩) (fun p hp => List.mem_append_left _ hp) (fun p hp => List.mem_append_right _ hp) ok.1 (cb_drop ok.2 (List.forall_mem_cons.mpr ⟨.head _, List.forall_mem_cons.mpr ⟨.tail _ (.head _), fun p hp => .tail _ (.tail _ (mem_mid hp))⟩⟩))
      · exact hret h' tk' z _ _ zs (zs ++ tl) arr nq' a1 a2 (Or.inr (Or.inl ⟨b.1, b.2, rfl, rfl, te, rfl⟩)) (fun p hp => List.mem_append_left _ hp) (fun p hp => List.mem_append_right _ hp) ok.1 (cb_drop ok.2 (List.forall_mem_cons.mpr ⟨.head _, List.forall_mem_cons.mpr ⟨.tail _ (.head _), fun p hp => .tail _ (.tail _ (mem_mid hp))⟩⟩))
      · exact absurd e (by decide)
    · have hl : cs' = [8388864, 8388864, W, block, 16777246] := by rw [hcs]; rfl
      subst hl
      obtain ⟨tA0, hA0⟩ := hC.get 0 8388864 rfl
      obtain ⟨tA1, hA1⟩ := hC.get 1 8388864 rfl
      obtain ⟨tB, hL⟩ := hC.get 2 W rfl
      obtain ⟨tb, hb⟩ := hC.get 3 block rfl
      obtain ⟨tC, hE⟩ := hC.get 4 16777246 rfl
      refine run_gen w x dx c k sk lm dl wk dw q f nc n2 nq tk tkl tkw fl nb many W field block 4 tfl tr tt tp t1 tB tC tb u0 u1 v2 v3 v4 code oc od fd sl own rest false 2 (by decide) hW0 hW1 wb.2.1 wb.2.2.1 hm hm3 hk0 hk1 hfl0 hfl1 (Or.inr ⟨hf0, hb, rfl⟩) wb.2.2.2 wb.1 (by intro j hj; rcases (by omega : j = 0 ∨ j = 1) with rfl | rfl <;> first | exact ⟨_, hA0⟩ | exact ⟨_, hA1⟩) hL (by decide) (by decide) hE o1 o2 o3 o4 o5 o6 o7 o8 o9 hq hd hs ho P p loose mean mg mb dp un gd cn cs a ccd cl outer A₀ base h₀ L m s Q E B F X NN T hkd hdp hun ?_
      intro h' tk' z zs arr nq' te a1 a2
      subst hrest
      refine ⟨fun b ok => ?_, fun b e ok => ?_, fun b e r ok => ?_⟩
      · exact hret h' tk' z _ _ zs (zs ++ tl) arr nq' a1 a2 (Or.inl ⟨b.1, b.2.1, b.2.2, rfl, te, rfl⟩) (fun p hp => List.mem_append_left _ hp) (fun p hp => List.mem_append_right _ hp) ok.1 (cb_drop ok.2 (List.forall_mem_cons.mpr ⟨.head _, List.forall_mem_cons.mpr ⟨.tail _ (.head _), fun p hp => .tail _ (.tail _ (mem_mid hp))⟩⟩))
      · exact absurd e (by decide)
      · refine hret h' tk' z _ _ zs ((r, PySem.W.listOf #[.bytes #[116] u0] 0) :: (zs ++ tl)) arr nq' a1 a2 (Or.inr (Or.inr ⟨b.1, b.2, rfl, rfl, r, rfl, .head _⟩)) (fun p hp => .tail _ (List.mem_append_left _ hp)) (fun p hp => .tail _ (List.mem_append_right _ hp)) ok.1 (cb_drop ok.2 (List.forall_mem_cons.mpr ⟨.head _, List.forall_mem_cons.mpr ⟨.tail _ (.tail _ (.head _)), fun p hp => ?_⟩⟩))
        rcases List.mem_append.mp hp with hp | hp
        · exact .tail _ (.tail _ (.tail _ (List.mem_append_right _ (List.mem_append_left _ hp))))
        · rcases List.mem_cons.mp hp with rfl | hp
          · exact .tail _ (.head _)
          · exact .tail _ (.tail _ (.tail _ (mem_mid (List.mem_append_right _ hp))))
    · have hl : cs' = [8388864, 8388864, W, block, 16652, 16777246] := by rw [hcs]; rfl
      subst hl
      obtain ⟨tA0, hA0⟩ := hC.get 0 8388864 rfl
      obtain ⟨tA1, hA1⟩ := hC.get 1 8388864 rfl
      obtain ⟨tB, hL⟩ := hC.get 2 W rfl
      obtain ⟨tb, hb⟩ := hC.get 3 block rfl
      obtain ⟨tC, hE⟩ := hC.get 4 16652 rfl
      refine run_gen w x dx c k sk lm dl wk dw q f nc n2 nq tk tkl tkw fl nb many W field block 4 tfl tr tt tp t1 tB tC tb u0 u1 v2 v3 v4 code oc od fd sl own rest true 2 (by decide) hW0 hW1 wb.2.1 wb.2.2.1 hm hm3 hk0 hk1 hfl0 hfl1 (Or.inr ⟨hf0, hb, rfl⟩) wb.2.2.2 wb.1 (by intro j hj; rcases (by omega : j = 0 ∨ j = 1) with rfl | rfl <;> first | exact ⟨_, hA0⟩ | exact ⟨_, hA1⟩) hL (by decide) (by decide) hE o1 o2 o3 o4 o5 o6 o7 o8 o9 hq hd hs ho P p loose mean mg mb dp un gd cn cs a ccd cl outer A₀ base h₀ L m s Q E B F X NN T hkd hdp hun ?_
      intro h' tk' z zs arr nq' te a1 a2
      subst hrest
      refine ⟨fun b ok => ?_, fun b e ok => ?_, fun b e r ok => ?_⟩
      · exact hret h' tk' z _ _ zs (zs ++ tl) arr nq' a1 a2 (Or.inl ⟨b.1, b.2.1, b.2.2, rfl, te, rfl⟩) (fun p hp => List.mem_append_left _ hp) (fun p hp => List.mem_append_right _ hp) ok.1 (cb_drop ok.2 (List.forall_mem_cons.mpr ⟨.head _, List.forall_mem_cons.mpr ⟨.tail _ (.head _), fun p hp => .tail _ (.tail _ (mem_mid hp))⟩⟩))
      · exact hret h' tk' z _ _ zs (zs ++ tl) arr nq' a1 a2 (Or.inr (Or.inl ⟨b.1, b.2, rfl, rfl, te, rfl⟩)) (fun p hp => List.mem_append_left _ hp) (fun p hp => List.mem_append_right _ hp) ok.1 (cb_drop ok.2 (List.forall_mem_cons.mpr ⟨.head _, List.forall_mem_cons.mpr ⟨.tail _ (.head _), fun p hp => .tail _ (.tail _ (mem_mid hp))⟩⟩))
      · exact absurd e (by decide)
    · have hl : cs' = [8388864, 8388864, 8388864, W, block, 16777246] := by rw [hcs]; rfl
      subst hl
      obtain ⟨tA0, hA0⟩ := hC.get 0 8388864 rfl
      obtain ⟨tA1, hA1⟩ := hC.get 1 8388864 rfl
      obtain ⟨tA2, hA2⟩ := hC.get 2 8388864 rfl
      obtain ⟨tB, hL⟩ := hC.get 3 W rfl
      obtain ⟨tb, hb⟩ := hC.get 4 block rfl
      obtain ⟨tC, hE⟩ := hC.get 5 16777246 rfl
      refine run_gen w x dx c k sk lm dl wk dw q f nc n2 nq tk tkl tkw fl nb many W field block 5 tfl tr tt tp t1 tB tC tb u0 u1 v2 v3 v4 code oc od fd sl own rest false 3 (by decide) hW0 hW1 wb.2.1 wb.2.2.1 hm hm3 hk0 hk1 hfl0 hfl1 (Or.inr ⟨hf0, hb, rfl⟩) wb.2.2.2 wb.1 (by intro j hj; rcases (by omega : j = 0 ∨ j = 1 ∨ j = 2) with rfl | rfl | rfl <;> first | exact ⟨_, hA0⟩ | exact ⟨_, hA1⟩ | exact ⟨_, hA2⟩) hL (by decide) (by decide) hE o1 o2 o3 o4 o5 o6 o7 o8 o9 hq hd hs ho P p loose mean mg mb dp un gd cn cs a ccd cl outer A₀ base h₀ L m s Q E B F X NN T hkd hdp hun ?_
      intro h' tk' z zs arr nq' te a1 a2
      subst hrest
      refine ⟨fun b ok => ?_, fun b e ok => ?_, fun b e r ok => ?_⟩
      · exact hret h' tk' z _ _ zs (zs ++ tl) arr nq' a1 a2 (Or.inl ⟨b.1, b.2.1, b.2.2, rfl, te, rfl⟩) (fun p hp => List.mem_append_left _ hp) (fun p hp => List.mem_append_right _ hp) ok.1 (cb_drop ok.2 (List.forall_mem_cons.mpr ⟨.head _, List.forall_mem_cons.mpr ⟨.tail _ (.head _), fun p hp => .tail _ (.tail _ (mem_mid hp))⟩⟩))
      · exact absurd e (by decide)
      · refine hret h' tk' z _ _ zs ((r, PySem.W.listOf #[.bytes #[116] u0] 0) :: (zs ++ tl)) arr nq' a1 a2 (Or.inr (Or.inr ⟨b.1, b.2, rfl, rfl, r, rfl, .head _⟩)) (fun p hp => .tail _ (List.mem_append_left _ hp)) (fun p hp => .tail _ (List.mem_append_right _ hp)) ok.1 (cb_drop ok.2 (List.forall_mem_cons.mpr ⟨.head _, List.forall_mem_cons.mpr ⟨.tail _ (.tail _ (.head _)), fun p hp => ?_⟩⟩))
        rcases List.mem_append.mp hp with hp | hp
        · exact .tail _ (.tail _ (.tail _ (List.mem_append_right _ (List.mem_append_left _ hp))))
        · rcases List.mem_cons.mp hp with rfl | hp
          · exact .tail _ (.head _)
          · exact .tail _ (.tail _ (.tail _ (mem_mid (List.mem_append_right _ hp))))
    · have hl : cs' = [8388864, 8388864, 8388864, W, block, 16652, 16777246] := by rw [hcs]; rfl
      subst hl
      obtain ⟨tA0, hA0⟩ := hC.get 0 8388864 rfl
      obtain ⟨tA1, hA1⟩ := hC.get 1 8388864 rfl
      obtain ⟨tA2, hA2⟩ := hC.get 2 8388864 rfl
      obtain ⟨tB, hL⟩ := hC.get 3 W rfl
      obtain ⟨tb, hb⟩ := hC.get 4 block rfl
      obtain ⟨tC, hE⟩ := hC.get 5 16652 rfl
      refine run_gen w x dx c k sk lm dl wk dw q f nc n2 nq tk tkl tkw fl nb many W field block 5 tfl tr tt tp t1 tB tC tb u0 u1 v2 v3 v4 code oc od fd sl own rest true 3 (by decide) hW0 hW1 wb.2.1 wb.2.2.1 hm hm3 hk0 hk1 hfl0 hfl1 (Or.inr ⟨hf0, hb, rfl⟩) wb.2.2.2 wb.1 (by intro j hj; rcases (by omega : j = 0 ∨ j = 1 ∨ j = 2) with rfl | rfl | rfl <;> first | exact ⟨_, hA0⟩ | exact ⟨_, hA1⟩ | exact ⟨_, hA2⟩) hL (by decide) (by decide) hE o1 o2 o3 o4 o5 o6 o7 o8 o9 hq hd hs ho P p loose mean mg mb dp un gd cn cs a ccd cl outer A₀ base h₀ L m s Q E B F X NN T hkd hdp hun ?_
      intro h' tk' z zs arr nq' te a1 a2
      subst hrest
      refine ⟨fun b ok => ?_, fun b e ok => ?_, fun b e r ok => ?_⟩
      · exact hret h' tk' z _ _ zs (zs ++ tl) arr nq' a1 a2 (Or.inl ⟨b.1, b.2.1, b.2.2, rfl, te, rfl⟩) (fun p hp => List.mem_append_left _ hp) (fun p hp => List.mem_append_right _ hp) ok.1 (cb_drop ok.2 (List.forall_mem_cons.mpr ⟨.head _, List.forall_mem_cons.mpr ⟨.tail _ (.head _), fun p hp => .tail _ (.tail _ (mem_mid hp))⟩⟩))
      · exact hret h' tk' z _ _ zs (zs ++ tl) arr nq' a1 a2 (Or.inr (Or.inl ⟨b.1, b.2, rfl, rfl, te, rfl⟩)) (fun p hp => List.mem_append_left _ hp) (fun p hp => List.mem_append_right _ hp) ok.1 (cb_drop ok.2 (List.forall_mem_cons.mpr ⟨.head _, List.forall_mem_cons.mpr ⟨.tail _ (.head _), fun p hp => .tail _ (.tail _ (mem_mid hp))⟩⟩))
      · exact absurd e (by decide)
  · have hf1 := hf1.symm
    have hfn : field ≠ 0 := by omega
    rcases (by omega : mv = 0 ∨ mv = 1 ∨ mv = 2 ∨ mv = 3) with rfl | rfl | rfl | rfl <;> rcases (by omega : su = 0 ∨ su = 1) with rfl | rfl
    · have hl : cs' = [W, 16777246] := by rw [hcs]; rfl
      subst hl
      obtain ⟨tB, hL⟩ := hC.get 0 W rfl
      obtain ⟨tC, hE⟩ := hC.get 1 16777246 rfl
      refine run_gen w x dx c k sk lm dl wk dw q f nc n2 nq tk tkl tkw fl nb many W field block 1 tfl tr tt tp t1 tB tC 0 u0 u1 v2 v3 v4 code oc od fd sl own rest false 0 (by decide) hW0 hW1 wb.2.1 wb.2.2.1 hm hm3 hk0 hk1 hfl0 hfl1 (Or.inl ⟨hfn, hf1, rfl⟩) wb.2.2.2 wb.1 (fun j hj => absurd hj (Nat.not_lt_zero j)) hL (by decide) (by decide) hE o1 o2 o3 o4 o5 o6 o7 o8 o9 hq hd hs ho P p loose mean mg mb dp un gd cn cs a ccd cl outer A₀ base h₀ L m s Q E B F X NN T hkd hdp hun ?_
      intro h' tk' z zs arr nq' te a1 a2
      subst hrest
      refine ⟨fun b ok => ?_, fun b e ok => ?_, fun b e r ok => ?_⟩
      · exact hret h' tk' z _ _ zs (zs ++ tl) arr nq' a1 a2 (Or.inl ⟨b.1, b.2.1, b.2.2, rfl, te, rfl⟩) (fun p hp => List.mem_append_left _ hp) (fun p hp => List.mem_append_right _ hp) ok.1 (cb_drop ok.2 (List.forall_mem_cons.mpr ⟨.head _, List.forall_mem_cons.mpr ⟨.tail _ (.head _), fun p hp => .tail _ (.tail _ (mem_mid hp))⟩⟩))
      · exact absurd e (by decide)
      · refine hret h' tk' z _ _ zs ((r, PySem.W.listOf #[.bytes #[116] u0] 0) :: (zs ++ tl)) arr nq' a1 a2 (Or.inr (Or.inr ⟨b.1, b.2, rfl, rfl, r, rfl, .head _⟩)) (fun p hp => .tail _ (List.mem_append_left _ hp)) (fun p hp => .tail _ (List.mem_append_right _ hp)) ok.1 (cb_drop ok.2 (List.forall_mem_cons.mpr ⟨.head _, List.forall_mem_cons.mpr ⟨.tail _ (.tail _ (.head _)), fun p hp => ?_⟩⟩))
        rcases List.mem_append.mp hp with hp | hp
        · exact .tail _ (.tail _ (.tail _ (List.mem_append_right _ (List.mem_append_left _ hp))))
        · rcases List.mem_cons.mp hp with rfl | hp
          · exact .tail _ (.head _)
          · exact .tail _ (.tail _ (.tail _ (mem_mid (List.mem_append_right _ hp))))
    · have hl : cs' = [W, 16652, 16777246] := by rw [hcs]; rfl
      subst hl
      obtain ⟨tB, hL⟩ := hC.get 0 W rfl
      obtain ⟨tC, hE⟩ := hC.get 1 16652 rfl
      refine run_gen w x dx c k sk lm dl wk dw q f nc n2 nq tk tkl tkw fl nb many W field block 1 tfl tr tt tp t1 tB tC 0 u0 u1 v2 v3 v4 code oc od fd sl own rest true 0 (by decide) hW0 hW1 wb.2.1 wb.2.2.1 hm hm3 hk0 hk1 hfl0 hfl1 (Or.inl ⟨hfn, hf1, rfl⟩) wb.2.2.2 wb.1 (fun j hj => absurd hj (Nat.not_lt_zero j)) hL (by decide) (by decide) hE o1 o2 o3 o4 o5 o6 o7 o8 o9 hq hd hs ho P p loose mean mg mb dp un gd cn cs a ccd cl outer A₀ base h₀ L m s Q E B F X NN T hkd hdp hun ?_
      intro h' tk' z zs arr nq' te a1 a2
      subst hrest
      refine ⟨fun b ok => ?_, fun b e ok => ?_, fun b e r ok => ?_⟩
      · exact hret h' tk' z _ _ zs (zs ++ tl) arr nq' a1 a2 (Or.inl ⟨b.1, b.2.1, b.2.2, rfl, te, rfl⟩) (fun p hp => List.mem_append_left _ hp) (fun p hp => List.mem_append_right _ hp) ok.1 (cb_drop ok.2 (List.forall_mem_cons.mpr ⟨.head _, List.forall_mem_cons.mpr ⟨.tail _ (.head _), fun p hp => .tail _ (.tail _ (mem_mid hp))⟩⟩))
      · exact hret h' tk' z _ _ zs (zs ++ tl) arr nq' a1 a2 (Or.inr (Or.inl ⟨b.1, b.2, rfl, rfl, te, rfl⟩)) (fun p hp => List.mem_append_left _ hp) (fun p hp => List.mem_append_right _ hp) ok.1 (cb_drop ok.2 (List.forall_mem_cons.mpr ⟨.head _, List.forall_mem_cons.mpr ⟨.tail _ (.head _), fun p hp => .tail _ (.tail _ (mem_mid hp))⟩⟩))
      · exact absurd e (by decide)
    · have hl : cs' = [8388864, W, 16777246] := by rw [hcs]; rfl
      subst hl
      obtain ⟨tA0, hA0⟩ := hC.get 0 8388864 rfl
      obtain ⟨tB, hL⟩ := hC.get 1 W rfl
      obtain ⟨tC, hE⟩ := hC.get 2 16777246 rfl
      refine run_gen w x dx c k sk lm dl wk dw q f nc n2 nq tk tkl tkw fl nb many W field block 2 tfl tr tt tp t1 tB tC 0 u0 u1 v2 v3 v4 code oc od fd sl own rest false 1 (by decide) hW0 hW1 wb.2.1 wb.2.2.1 hm hm3 hk0 hk1 hfl0 hfl1 (Or.inl ⟨hfn, hf1, rfl⟩) wb.2.2.2 wb.1 (by intro j hj; rcases (by omega : j = 0) with rfl <;> first | exact ⟨_, hA0⟩) hL (by decide) (by decide) hE o1 o2 o3 o4 o5 o6 o7 o8 o9 hq hd hs ho P p loose mean mg mb dp un gd cn cs a ccd cl outer A₀ base h₀ L m s Q E B F X NN T hkd hdp hun ?_
      intro h' tk' z zs arr nq' te a1 a2
      subst hrest
      refine ⟨fun b ok => ?_, fun b e ok => ?_, fun b e r ok => ?_⟩
      · exact hret h' tk' z _ _ zs (zs ++ tl) arr nq' a1 a2 (Or.inl ⟨b.1, b.2.1, b.2.2, rfl, te, rfl⟩) (fun p hp => List.mem_append_left _ hp) (fun p hp => List.mem_append_right _ hp) ok.1 (cb_drop ok.2 (List.forall_mem_cons.mpr ⟨.head _, List.forall_mem_cons.mpr ⟨.tail _ (.head _), fun p hp => .tail _ (.tail _ (mem_mid hp))⟩⟩))
      · exact absurd e (by decide)
      · refine hret h' tk' z _ _ zs ((r, PySem.W.listOf #[.bytes #[116] u0] 0) :: (zs ++ tl)) arr nq' a1 a2 (Or.inr (Or.inr ⟨b.1, b.2, rfl, rfl, r, rfl, .head _⟩)) (fun p hp => .tail _ (List.mem_append_left _ hp)) (fun p hp => .tail _ (List.mem_append_right _ hp)) ok.1 (cb_drop ok.2 (List.forall_mem_cons.mpr ⟨.head _, List.forall_mem_cons.mpr ⟨.tail _ (.tail _ (.head _)), fun p hp => ?_⟩⟩))
        rcases List.mem_append.mp hp with hp | hp
        · exact .tail _ (.tail _ (.tail _ (List.mem_append_right _ (List.mem_append_left _ hp))))
        · rcases List.mem_cons.mp hp with rfl | hp
          · exact .tail _ (.head _)
          · exact .tail _ (.tail _ (.tail _ (mem_mid (List.mem_append_right _ hp))))
    · have hl : cs' = [8388864, W, 16652, 16777246] := by rw [hcs]; rfl
      subst hl
      obtain ⟨tA0, hA0⟩ := hC.get 0 8388864 rfl
      obtain ⟨tB, hL⟩ := hC.get 1 W rfl
      obtain ⟨tC, hE⟩ := hC.get 2 16652 rfl
      refine run_gen w x dx c k sk lm dl wk dw q f nc n2 nq tk tkl tkw fl nb many W field block 2 tfl tr tt tp t1 tB tC 0 u0 u1 v2 v3 v4 code oc od fd sl own rest true 1 (by decide) hW0 hW1 wb.2.1 wb.2.2.1 hm hm3 hk0 hk1 hfl0 hfl1 (Or.inl ⟨hfn, hf1, rfl⟩) wb.2.2.2 wb.1 (by intro j hj; rcases (by omega : j = 0) with rfl <;> first | exact ⟨_, hA0⟩) hL (by decide) (by decide) hE o1 o2 o3 o4 o5 o6 o7 o8 o9 hq hd hs ho P p loose mean mg mb dp un gd cn cs a ccd cl outer A₀ base h₀ L m s Q E B F X NN T hkd hdp hun ?_
      intro h' tk' z zs arr nq' te a1 a2
      subst hrest
      refine ⟨fun b ok => ?_, fun b e ok => ?_, fun b e r ok => ?_⟩
      · exact hret h' tk' z _ _ zs (zs ++ tl) arr nq' a1 a2 (Or.inl ⟨b.1, b.2.1, b.2.2, rfl, te, rfl⟩) (fun p hp => List.mem_append_left _ hp) (fun p hp => List.mem_append_right _ hp) ok.1 (cb_drop ok.2 (List.forall_mem_cons.mpr ⟨.head _, List.forall_mem_cons.mpr ⟨.tail _ (.head _), fun p hp => .tail _ (.tail _ (mem_mid hp))⟩⟩))
      · exact hret h' tk' z _ _ zs (zs ++ tl) arr nq' a1 a2 (Or.inr (Or.inl ⟨b.1, b.2, rfl, rfl, te, rfl⟩)) (fun p hp => List.mem_append_left _ hp) (fun p hp => List.mem_append_right _ hp) ok.1 (cb_drop ok.2 (List.forall_mem_cons.mpr ⟨.head _, List.forall_mem_cons.mpr ⟨.tail _ (.head _), fun p hp => .tail _ (.tail _ (mem_mid hp))⟩⟩))
      · exact absurd e (by decide)
    · have hl : cs' = [8388864, 8388864, W, 16777246] := by rw [hcs]; rfl
      subst hl
      obtain ⟨tA0, hA0⟩ := hC.get 0 8388864 rfl
      obtain ⟨tA1, hA1⟩ := hC.get 1 8388864 rfl
      obtain ⟨tB, hL⟩ := hC.get 2 W rfl
      obtain ⟨tC, hE⟩ := hC.get 3 16777246 rfl
      refine run_gen w x dx c k sk lm dl wk dw q f nc n2 nq tk tkl tkw fl nb many W field block 3 tfl tr tt tp t1 tB tC 0 u0 u1 v2 v3 v4 code oc od fd sl own rest false 2 (by decide) hW0 hW1 wb.2.1 wb.2.2.1 hm hm3 hk0 hk1 hfl0 hfl1 (Or.inl ⟨hfn, hf1, rfl⟩) wb.2.2.2 wb.1 (by intro j hj; rcases (by omega : j = 0 ∨ j = 1) with rfl | rfl <;> first | exact ⟨_, hA0⟩ | exact ⟨_, hA1⟩) hL (by decide) (by decide) hE o1 o2 o3 o4 o5 o6 o7 o8 o9 hq hd hs ho P p loose mean mg mb dp un gd cn cs a ccd cl outer A₀ base h₀ L m s Q E B F X NN T hkd hdp hun ?_
      intro h' tk' z zs arr nq' te a1 a2
      subst hrest
      refine ⟨fun b ok => ?_, fun b e ok => ?_, fun b e r ok => ?_⟩
      · exact hret h' tk' z _ _ zs (zs ++ tl) arr nq' a1 a2 (Or.inl ⟨b.1, b.2.1, b.2.2, rfl, te, rfl⟩) (fun p hp => List.mem_append_left _ hp) (fun p hp => List.mem_append_right _ hp) ok.1 (cb_drop ok.2 (List.forall_mem_cons.mpr ⟨.head _, List.forall_mem_cons.mpr ⟨.tail _ (.head _), fun p hp => .tail _ (.tail _ (mem_mid hp))⟩⟩))
      · exact absurd e (by decide)
      · refine hret h' tk' z _ _ zs ((r, PySem.W.listOf #[.bytes #[116] u0] 0) :: (zs ++ tl)) arr nq' a1 a2 (Or.inr (Or.inr ⟨b.1, b.2, rfl, rfl, r, rfl, .head _⟩)) (fun p hp => .tail _ (List.mem_append_left _ hp)) (fun p hp => .tail _ (List.mem_append_right _ hp)) ok.1 (cb_drop ok.2 (List.forall_mem_cons.mpr ⟨.head _, List.forall_mem_cons.mpr ⟨.tail _ (.tail _ (.head _)), fun p hp => ?_⟩⟩))
        rcases List.mem_append.mp hp with hp | hp
        · exact .tail _ (.tail _ (.tail _ (List.mem_append_right _ (List.mem_append_left _ hp))))
        · rcases List.mem_cons.mp hp with rfl | hp
          · exact .tail _ (.head _)
          · exact .tail _ (.tail _ (.tail _ (mem_mid (List.mem_append_right _ hp))))
    · have hl : cs' = [8388864, 8388864, W, 16652, 16777246] := by rw [hcs]; rfl
      subst hl
      obtain ⟨tA0, hA0⟩ := hC.get 0 8388864 rfl
      obtain ⟨tA1, hA1⟩ := hC.get 1 8388864 rfl
      obtain ⟨tB, hL⟩ := hC.get 2 W rfl
      obtain ⟨tC, hE⟩ := hC.get 3 16652 rfl
      refine run_gen w x dx c k sk lm dl wk dw q f nc n2 nq tk tkl tkw fl nb many W field block 3 tfl tr tt tp t1 tB tC 0 u0 u1 v2 v3 v4 code oc od fd sl own rest true 2 (by decide) hW0 hW1 wb.2.1 wb.2.2.1 hm hm3 hk0 hk1 hfl0 hfl1 (Or.inl ⟨hfn, hf1, rfl⟩) wb.2.2.2 wb.1 (by intro j hj; rcases (by omega : j = 0 ∨ j = 1) with rfl | rfl <;> first | exact ⟨_, hA0⟩ | exact ⟨_, hA1⟩) hL (by decide) (by decide) hE o1 o2 o3 o4 o5 o6 o7 o8 o9 hq hd hs ho P p loose mean mg mb dp un gd cn cs a ccd cl outer A₀ base h₀ L m s Q E B F X NN T hkd hdp hun ?_
      intro h' tk' z zs arr nq' te a1 a2
      subst hrest
      refine ⟨fun b ok => ?_, fun b e ok => ?_, fun b e r ok => ?_⟩
      · exact hret h' tk' z _ _ zs (zs ++ tl) arr nq' a1 a2 (Or.inl ⟨b.1, b.2.1, b.2.2, rfl, te, rfl⟩) (fun p hp => List.mem_append_left _ hp) (fun p hp => List.mem_append_right _ hp) ok.1 (cb_drop ok.2 (List.forall_mem_cons.mpr ⟨.head _, List.forall_mem_cons.mpr ⟨.tail _ (.head _), fun p hp => .tail _ (.tail _ (mem_mid hp))⟩⟩))
      · exact hret h' tk' z _ _ zs (zs ++ tl) arr nq' a1 a2 (Or.inr (Or.inl ⟨b.1, b.2, rfl, rfl, te, rfl⟩)) (fun p hp => List.mem_append_left _ hp) (fun p hp => List.mem_append_right _ hp) ok.1 (cb_drop ok.2 (List.forall_mem_cons.mpr ⟨.head _, List.forall_mem_cons.mpr ⟨.tail _ (.head _), fun p hp => .tail _ (.tail _ (mem_mid hp))⟩⟩))
      · exact absurd e (by decide)
    · have hl : cs' = [8388864, 8388864, 8388864, W, 16777246] := by rw [hcs]; rfl
      subst hl
      obtain ⟨tA0, hA0⟩ := hC.get 0 8388864 rfl
      obtain ⟨tA1, hA1⟩ := hC.get 1 8388864 rfl
      obtain ⟨tA2, hA2⟩ := hC.get 2 8388864 rfl
      obtain ⟨tB, hL⟩ := hC.get 3 W rfl
      obtain ⟨tC, hE⟩ := hC.get 4 16777246 rfl
      refine run_gen w x dx c k sk lm dl wk dw q f nc n2 nq tk tkl tkw fl nb many W field block 4 tfl tr tt tp t1 tB tC 0 u0 u1 v2 v3 v4 code oc od fd sl own rest false 3 (by decide) hW0 hW1 wb.2.1 wb.2.2.1 hm hm3 hk0 hk1 hfl0 hfl1 (Or.inl ⟨hfn, hf1, rfl⟩) wb.2.2.2 wb.1 (by intro j hj; rcases (by omega : j = 0 ∨ j = 1 ∨ j = 2) with rfl | rfl | rfl <;> first | exact ⟨_, hA0⟩ | exact ⟨_, hA1⟩ | exact ⟨_, hA2⟩) hL (by decide) (by decide) hE o1 o2 o3 o4 o5 o6 o7 o8 o9 hq hd hs ho P p loose mean mg mb dp un gd cn cs a ccd cl outer A₀ base h₀ L m s Q E B F X NN T hkd hdp hun ?_
      intro h' tk' z zs arr nq' te a1 a2
      subst hrest
      refine ⟨fun b ok => ?_, fun b e ok => ?_, fun b e r ok => ?_⟩
      · exact hret h' tk' z _ _ zs (zs ++ tl) arr nq' a1 a2 (Or.inl ⟨b.1, b.2.1, b.2.2, rfl, te, rfl⟩) (fun p hp => List.mem_append_left _ hp) (fun p hp => List.mem_append_right _ hp) ok.1 (cb_drop ok.2 (List.forall_mem_cons.mpr ⟨.head _, List.forall_mem_cons.mpr ⟨.tail _ (.head _), fun p hp => .tail _ (.tail _ (mem_mid hp))⟩⟩))
      · exact absurd e (by decide)
      · refine hret h' tk' z _ _ zs ((r, PySem.W.listOf #[.bytes #[116] u0] 0) :: (zs ++ tl)) arr nq' a1 a2 (Or.inr (Or.inr ⟨b.1, b.2, rfl, rfl, r, rfl, .head _⟩)) (fun p hp => .tail _ (List.mem_append_left _ hp)) (fun p hp => .tail _ (List.mem_append_right _ hp)) ok.1 (cb_drop ok.2 (List.forall_mem_cons.mpr ⟨.head _, List.forall_mem_cons.mpr ⟨.tail _ (.tail _ (.head _)), fun p hp => ?_⟩⟩))
        rcases List.mem_append.mp hp with hp | hp
        · exact .tail _ (.tail _ (.tail _ (List.mem_append_right _ (List.mem_append_left _ hp))))
        · rcases List.mem_cons.mp hp with rfl | hp
          · exact .tail _ (.head _)
          · exact .tail _ (.tail _ (.tail _ (mem_mid (List.mem_append_right _ hp))))
    · have hl : cs' = [8388864, 8388864, 8388864, W, 16652, 16777246] := by rw [hcs]; rfl
      subst hl
      obtain ⟨tA0, hA0⟩ := hC.get 0 8388864 rfl
      obtain ⟨tA1, hA1⟩ := hC.get 1 8388864 rfl
      obtain ⟨tA2, hA2⟩ := hC.get 2 8388864 rfl
      obtain ⟨tB, hL⟩ := hC.get 3 W rfl
      obtain ⟨tC, hE⟩ := hC.get 4 16652 rfl
      refine run_gen w x dx c k sk lm dl wk dw q f nc n2 nq tk tkl tkw fl nb many W field block 4 tfl tr tt tp t1 tB tC 0 u0 u1 v2 v3 v4 code oc od fd sl own rest true 3 (by decide) hW0 hW1 wb.2.1 wb.2.2.1 hm hm3 hk0 hk1 hfl0 hfl1 (Or.inl ⟨hfn, hf1, rfl⟩) wb.2.2.2 wb.1 (by intro j hj; rcases (by omega : j = 0 ∨ j = 1 ∨ j = 2) with rfl | rfl | rfl <;> first | exact ⟨_, hA0⟩ | exact ⟨_, hA1⟩ | exact ⟨_, hA2⟩) hL (by decide) (by decide) hE o1 o2 o3 o4 o5 o6 o7 o8 o9 hq hd hs ho P p loose mean mg mb dp un gd cn cs a ccd cl outer A₀ base h₀ L m s Q E B F X NN T hkd hdp hun ?_
      intro h' tk' z zs arr nq' te a1 a2
      subst hrest
      refine ⟨fun b ok => ?_, fun b e ok => ?_, fun b e r ok => ?_⟩
      · exact hret h' tk' z _ _ zs (zs ++ tl) arr nq' a1 a2 (Or.inl ⟨b.1, b.2.1, b.2.2, rfl, te, rfl⟩) (fun p hp => List.mem_append_left _ hp) (fun p hp => List.mem_append_right _ hp) ok.1 (cb_drop ok.2 (List.forall_mem_cons.mpr ⟨.head _, List.forall_mem_cons.mpr ⟨.tail _ (.head _), fun p hp => .tail _ (.tail _ (mem_mid hp))⟩⟩))
      · exact hret h' tk' z _ _ zs (zs ++ tl) arr nq' a1 a2 (Or.inr (Or.inl ⟨b.1, b.2, rfl, rfl, te, rfl⟩)) (fun p hp => List.mem_append_left _ hp) (fun p hp => List.mem_append_right _ hp) ok.1 (cb_drop ok.2 (List.forall_mem_cons.mpr ⟨.head _, List.forall_mem_cons.mpr ⟨.tail _ (.head _), fun p hp => .tail _ (.tail _ (mem_mid hp))⟩⟩))
      · exact absurd e (by decide)
end
theorem Asked.len {v0 : Value} {a : Int} {vs : List Value} {zs : List (Addr × Obj)} (h : Asked v0 a vs zs) : zs.length ≤ vs.length := by
  induction h with
  | nil => simp
  | cons _ _ ih => simpa using ih
theorem pad3 (d : Addr × Obj) : ∀ (zs : List (Addr × Obj)), zs.length ≤ 3 → ∃ q1 q2 q3 : Addr × Obj, (∀ p ∈ zs, p ∈ [q1, q2, q3]) ∧ (∀ p ∈ [q1, q2, q3], p ∈ zs ∨ p = d)
  | [], _ => ⟨d, d, d, fun p hp => (nomatch hp), fun p hp => by simp at hp; exact Or.inr hp⟩
  | [x], _ => ⟨x, d, d, fun p hp => by simp at hp; simp [hp], fun p hp => by simpa using hp⟩
  | [x, y], _ => ⟨x, y, d, fun p hp => by simp at hp; rcases hp with hp | hp <;> simp [hp], fun p hp => by simp at hp ⊢; rcases hp with hp | hp | hp <;> simp [hp]⟩
  | [x, y, z], _ => ⟨x, y, z, fun p hp => hp, fun p hp => Or.inl hp⟩
  | _ :: _ :: _ :: _ :: _, h => absurd h (by simp)
theorem asked_pad {v0 : Value} {a : Int} {v1 v2 v3 : Value} {zs : List (Addr × Obj)} (h : Asked v0 a [v1, v2, v3] zs) (d : Addr × Obj) : ∃ q1 q2 q3 : Addr × Obj, (∀ p ∈ zs, p ∈ [q1, q2, q3]) ∧ (∀ p ∈ [q1, q2, q3], p ∈ zs ∨ p = d) := pad3 d zs h.len
theorem add1a {v : Int} (h : 1 + v = 1) : v = 0 := by omega
theorem add1b {v : Int} (h : 1 + v = 2) : v = 1 := by omega
theorem add1c {v : Int} (h : 1 + v = 3) : v = 2 := by omega
section
variable {w : World} {news rest : List (Addr × Obj)} {p : Program} {loose : List Str} {mean : ExcName → Option Value} {mg mb : Str → Option Value} {dp un : Nat} {gd : Option (List Code)} {cn : Str} {cs : Scope} {a : Addr} {ccd : Value} {cl : List (Str × Addr)} {outer : List Env} {A₀ : Around} {base h₀ : Heap} {L : Addr} {m : Str → Option Value} {s : Shared} {Q E : Value → Shared → Prop}
theorem run_law {x dx c k sk lm dl wk dw q f nc n2 nq rp sa nr k1 k2 k3 rg c1 c2 c3 ng : Nat} {tk tkl tkw : T10} {tR : Int} {fl nb many W field block mv iw su : Int} {tkR tfl tr tt tp t1 u0 u1 : Tok} {v2 v3 v4 : Value} {code : List Value} {cs' : List Int} {oc : Value} {od : Option Addr} {fd : FuncData} {sl : Array (Option Value)} {y1 y2 y3 : Str} {oS b1 b2 b3 oc' x1 x2 tab : Obj} {regs : Array Value} {I : Nat} {ia ib : Int} (B : Below A₀ base outer h₀) (F : Fr h₀ L s.heap m) (X : (Mine.heap w.params).In h₀) (N : News h₀ L s.heap news) (T : Top p loose mean mg mb h₀) (hkd : cs.kind = .function) (hdp : dp + 20 < recursionLimit) (hun : un + 64 * 20 < cLine)
    (P : PutSpec w f q nb [(f, ⟨oc, od, .func fd, sl⟩), (c3, oc'), (c2, x2), (c1, x1)]) (m1 : (x, instObj 508 dx) ∈ news) (m2 : (dx, dictOf (stepEs w tk c k sk lm wk (.int 5 tr) (.int 5 tt) .none 0 tp) 9) ∈ news) (m3 : (sk, stackAt (.bytes #[116] u0) (.int 31 u1) v2 v3 v4 n2) ∈ news) (m4 : (q, PySem.W.listOf #[] nq) ∈ news) (m5 : (lm, instObj 95 dl) ∈ news) (m6 : (dl, dictOf (limEs w tkl (.int fl tfl)) 10) ∈ news) (m7 : (wk, instObj 417 dw) ∈ news) (m8 : (dw, dictOf (worksEs w tkw .none .none (.ref f) .none .none .none) 6) ∈ news) (m9 : (c, PySem.W.listOf code.toArray nc) ∈ news) (m10 : (f, ⟨oc, od, .func fd, sl⟩) ∈ news) (a1 : (rp, ropeAt sa tR tkR nr) ∈ news) (a2 : (sa, oS) ∈ news) (hcl : cl = [(y1, k1), (y2, k2), (y3, k3)]) (a3 : (k1, b1) ∈ news) (a4 : (k2, b2) ∈ news) (a5 : (k3, b3) ∈ news) (a6 : b1.data = .cell (some (.ref rg))) (a7 : (rg, PySem.W.listOf regs ng) ∈ news) (a8 : (c3, oc') ∈ news) (a9 : (c2, x2) ∈ news) (a10 : (c1, x1) ∈ news) (a11 : (528, tab) ∈ news) (a12 : (I, itR ia ib) ∈ news) (r14 : I < q)
    (r1 : @LT.lt Nat _ 528 q) (r2 : rp < q) (r3 : sa < q) (r4 : k1 < q) (r5 : k2 < q) (r6 : k3 < q) (r7 : q < c1) (r8 : c1 < c2) (r9 : c2 < f) (r10 : c3 ≠ q) (r11 : c3 < dx) (r12 : q < rg) (r13 : rg < dx) (s1 : @LT.lt Nat _ 528 c3) (s2 : c3 ≠ rp) (s3 : c3 ≠ k1) (s4 : c3 ≠ k2) (s5 : c3 ≠ k3) (s6 : c3 ≠ I)
    (hC : IntsAre code cs') (hcs : cs' = codeOf mv W iw block su) (hW : W = 34 + 64 * 0 + 16384 * field + 8388608 * many) (hm : 1 ≤ many) (hm3 : many ≤ 3) (hk0 : 1 ≤ block) (hk1 : block ≤ 3) (hfl0 : 3 ≤ fl) (hfl1 : fl ≤ 5) (hv0 : 0 ≤ mv) (hv1 : mv ≤ 3) (hs0 : 0 ≤ su) (hs1 : su ≤ 1) (hf : (iw = 1 ∧ field = 0) ∨ (iw = 0 ∧ field = block)) (o1 : q < c) (o2 : c < f) (o3 : f < dw) (o4 : dw < wk) (o5 : wk < dl) (o6 : dl < lm) (o7 : lm < dx) (o8 : dx < x) (o9 : x < sk)
    (hret : ∀ h' tk' (z z1 z2 z3 z4 : Nat) (p1 p2 p3 p4 : Obj) (A B : Value) (zs : List (Addr × Obj)) (arr : Array Value) nq', arr.toList = zs.map (fun p => Value.ref p.1) → Asked (.bytes #[116] u0) ((block - 1) * fl) [.int 31 u1, v2, v3] zs → RunOut nb many mv iw su u0 A B zs [(z4, p4)] → (∀ p ∈ zs, p ∈ [(z1, p1), (z2, p2), (z3, p3)]) → (many = 1 ∨ many = 2 ∨ many = 3) → @LT.lt Nat _ 528 c3 → c3 ≠ rp → c3 ≠ k1 → c3 ≠ k2 → c3 ≠ k3 → c3 ≠ I →
      Fr h₀ L h' m → News h₀ L h' ((z, tup2 A B) :: (q, PySem.W.listOf arr nq') :: (rp, ropeAt sa tR tkR nr) :: (sa, oS) :: (528, tab) :: (c3, oc') :: (k1, b1) :: (k2, b2) :: (k3, b3) :: (rg, PySem.W.listOf regs ng) :: (I, itR ia ib) :: (z1, p1) :: (z2, p2) :: (z3, p3) :: (z4, p4) :: []) → Q (.ref z) { s with heap := h', toks := tk' }) :
    wpAny (model PySem.Challenge.rw_rh0164_01.row.prog w) (ktrTop dp un gd cn cs L a ccd cl outer) (call (.ref 442) [.ref x, .int 9 t1]) Q E s := by
  refine run_use (rest := [(f, ⟨oc, od, .func fd, sl⟩), (c3, oc'), (c2, x2), (c1, x1), (528, tab), (rp, ropeAt sa tR tkR nr), (sa, oS), (k1, b1), (k2, b2), (k3, b3), (rg, PySem.W.listOf regs ng)] ++ [(I, itR ia ib)]) (lit := [(f, ⟨oc, od, .func fd, sl⟩), (c3, oc'), (c2, x2), (c1, x1), (528, tab), (rp, ropeAt sa tR tkR nr), (sa, oS), (k1, b1), (k2, b2), (k3, b3), (rg, PySem.W.listOf regs ng)]) (tl := [(I, itR ia ib)]) B F X N T hkd hdp hun m1 m2 m3 m4 m5 m6 m7 m8 m9 m10 ?_ ?_ (by repeat (first | exact TailOf.base | refine TailOf.step ?_)) hC hcs hW hm hm3 hk0 hk1 hfl0 hfl1 hv0 hv1 hs0 hs1 hf o1 o2 o3 o4 o5 o6 o7 o8 o9 P ?_ ?_
  · simp only [List.cons_append, List.nil_append, List.forall_mem_cons]
    exact ⟨m10, a8, a9, a10, a11, a1, a2, a3, a4, a5, a7, a12, fun p hp => (nomatch hp)⟩
  · simp only [List.cons_append, List.nil_append, List.forall_mem_cons]
    refine ⟨?_, ?_, ?_, ?_, ?_, ?_, ?_, ?_, ?_, ?_, ?_, ?_, fun p hp => (nomatch hp)⟩
    all_goals (refine ⟨?_, ?_, ?_⟩ <;> (refine neN ?_; (try dsimp only); first | tbn_letter | omega))
  · simp only [List.cons_append, List.nil_append, List.forall_mem_cons]
    refine ⟨by simp, by simp, by simp, by simp, fun p hp => (nomatch hp)⟩
  · intro h' tk' z A B zs tl2 arr nq' g1 g2 g3 g4 g5 F' N'
    obtain ⟨⟨z1, p1⟩, ⟨z2, p2⟩, ⟨z3, p3⟩, w1, w2⟩ := asked_pad g2 (z, tup2 A B)
    have w3 : ∀ p ∈ [(z1, p1), (z2, p2), (z3, p3)], p ∈ ((z, tup2 A B) :: tl2) := fun p hp => (w2 p hp).elim (fun h => .tail _ (g4 p h)) (fun h => h ▸ .head _)
    obtain ⟨⟨z4, p4⟩, w4, w5⟩ : ∃ d : Addr × Obj, d ∈ ((z, tup2 A B) :: tl2) ∧ RunOut nb many mv iw su u0 A B zs [d] := by
      rcases g3 with ⟨a, b, c, d, e⟩ | ⟨a, b, c, d, e⟩ | ⟨a, b, c, d, r, e1, e2⟩
      · exact ⟨_, .head _, Or.inl ⟨a, b, c, d, e⟩⟩
      · exact ⟨_, .head _, Or.inr (Or.inl ⟨a, b, c, d, e⟩)⟩
      · exact ⟨_, .tail _ e2, Or.inr (Or.inr ⟨a, b, c, d, r, e1, .head _⟩)⟩
    refine hret h' tk' z z1 z2 z3 z4 p1 p2 p3 p4 A B zs arr nq' g1 g2 w5 w1 (by omega) s1 s2 s3 s4 s5 s6 F' (cb_drop N' ?_)
    have up : ∀ p ∈ ((z, tup2 A B) :: tl2), p ∈ (z, tup2 A B) :: (q, PySem.W.listOf arr nq') :: ([(f, (⟨oc, od, .func fd, sl⟩ : Obj)), (c3, oc'), (c2, x2), (c1, x1), (528, tab), (rp, ropeAt sa tR tkR nr), (sa, oS), (k1, b1), (k2, b2), (k3, b3), (rg, PySem.W.listOf regs ng)] ++ tl2) := fun p hp => (List.mem_cons.mp hp).elim (fun h => h ▸ .head _) fun h => .tail _ (.tail _ (List.mem_append_right _ h))
    have q1 := up _ (w3 _ (.head _))
    have q2 := up _ (w3 _ (.tail _ (.head _)))
    have q3 := up _ (w3 _ (.tail _ (.tail _ (.head _))))
    have q4 := up _ w4
    have q5 := up _ (.tail _ (g5 _ (.head _)))
    refine List.forall_mem_cons.mpr ⟨.head _, List.forall_mem_cons.mpr ⟨.tail _ (.head _), ?_⟩⟩
    simp only [List.forall_mem_cons]
    refine ⟨?_, ?_, ?_, ?_, ?_, ?_, ?_, ?_, q5, q1, q2, q3, q4, fun p hp => (nomatch hp)⟩
    all_goals (simp)
end


/-- the loop's values -/
inductive Menu : Value → Prop where
  | num {i : Int} {t : Tok} : -2 ≤ i → i ≤ 5 → Menu (.int i t)
  | none : Menu .none
  | tru : Menu (.bool true)
  | one {t : Tok} : Menu (.bytes #[49] t)
def isN : Value → Bool
  | .int _ _ => true
  | _ => false
theorem Menu.int {v : Value} (h : Menu v) (e : isN v = true) : ∃ i t, v = .int i t ∧ -2 ≤ i ∧ i ≤ 5 := by
  cases h with
  | num a b => exact ⟨_, _, rfl, a, b⟩
  | none => exact absurd e (by decide)
  | tru => exact absurd e (by decide)
  | one => exact absurd e (by simp [isN])
theorem num_spec (w : World) (v : Value) (hv : Menu v) (news : List (Addr × Obj)) :
    Spec 2 w 146 news [v] (fun ok Q => ∀ h' tk', ok h' news → Q (.bool (isN v)) h' tk') := by
  cases hv
  · unfold Spec
    w_top off
    k_fill
    intro p loose mean mg mb dp un gd cn cs a ccd cl outer A₀ base h₀ L m s Q E B F X N T hkd hdp hun hret
    dsimp only at hret
    refine wpAny_call ?_
    k_dflt cell_enter
    repeat' (first
        | (k_unfold; (try dsimp only))
        | (k_end; wrow_close)
        | ((with_reducible show wpAny _ _ (subscriptTail _ _ (Value.ref _) (Value.int _ _)) _ _ _); first | (with_reducible (k_here; kim_at)) | (k_here; kim_at))
        | walk1
        | dsimp only
        | (leave1; walk_say "STEP leave1"; try dsimp only))
    all_goals exact hret _ _ ⟨by assumption, by assumption⟩
  · unfold Spec
    w_top off
    k_fill
    intro p loose mean mg mb dp un gd cn cs a ccd cl outer A₀ base h₀ L m s Q E B F X N T hkd hdp hun hret
    dsimp only at hret
    refine wpAny_call ?_
    k_dflt cell_enter
    repeat' (first
        | (k_unfold; (try dsimp only))
        | (k_end; wrow_close)
        | ((with_reducible show wpAny _ _ (subscriptTail _ _ (Value.ref _) (Value.int _ _)) _ _ _); first | (with_reducible (k_here; kim_at)) | (k_here; kim_at))
        | walk1
        | dsimp only
        | (leave1; walk_say "STEP leave1"; try dsimp only))
    all_goals exact hret _ _ ⟨by assumption, by assumption⟩
  · unfold Spec
    w_top off
    k_fill
    intro p loose mean mg mb dp un gd cn cs a ccd cl outer A₀ base h₀ L m s Q E B F X N T hkd hdp hun hret
    dsimp only at hret
    refine wpAny_call ?_
    k_dflt cell_enter
    repeat' (first
        | (k_unfold; (try dsimp only))
        | (k_end; wrow_close)
        | ((with_reducible show wpAny _ _ (subscriptTail _ _ (Value.ref _) (Value.int _ _)) _ _ _); first | (with_reducible (k_here; kim_at)) | (k_here; kim_at))
        | walk1
        | dsimp only
        | (leave1; walk_say "STEP leave1"; try dsimp only))
    all_goals exact hret _ _ ⟨by assumption, by assumption⟩
  · unfold Spec
    w_top off
    k_fill
    intro p loose mean mg mb dp un gd cn cs a ccd cl outer A₀ base h₀ L m s Q E B F X N T hkd hdp hun hret
    dsimp only at hret
    refine wpAny_call ?_
    k_dflt cell_enter
    repeat' (first
        | (k_unfold; (try dsimp only))
        | (k_end; wrow_close)
        | ((with_reducible show wpAny _ _ (subscriptTail _ _ (Value.ref _) (Value.int _ _)) _ _ _); first | (with_reducible (k_here; kim_at)) | (k_here; kim_at))
        | walk1
        | dsimp only
        | (leave1; walk_say "STEP leave1"; try dsimp only))
    all_goals exact hret _ _ ⟨by assumption, by assumption⟩
section
variable {w : World} {news rest : List (Addr × Obj)} {p : Program} {loose : List Str} {mean : ExcName → Option Value} {mg mb : Str → Option Value} {dp un : Nat} {gd : Option (List Code)} {cn : Str} {cs : Scope} {a : Addr} {ccd : Value} {cl : List (Str × Addr)} {outer : List Env} {A₀ : Around} {base h₀ : Heap} {L : Addr} {m : Str → Option Value} {s : Shared} {Q E : Value → Shared → Prop}
theorem num_use {v : Value} (B : Below A₀ base outer h₀) (F : Fr h₀ L s.heap m) (X : (Mine.heap w.params).In h₀) (N : News h₀ L s.heap news) (T : Top p loose mean mg mb h₀) (hkd : cs.kind = .function) (hdp : dp + 2 < recursionLimit) (hun : un + 64 * 2 < cLine) (hv : Menu v) (h1 : ∀ h' tk', isN v = true → Fr h₀ L h' m → News h₀ L h' news → Q (.bool true) { s with heap := h', toks := tk' }) (h2 : ∀ h' tk', isN v = false → Fr h₀ L h' m → News h₀ L h' news → Q (.bool false) { s with heap := h', toks := tk' }) : wpAny (model PySem.Challenge.rw_rh0164_01.row.prog w) (ktrTop dp un gd cn cs L a ccd cl outer) (call (.ref 146) [v]) Q E s := by
  refine num_spec w v hv news p loose mean mg mb dp un gd cn cs a ccd cl outer A₀ base h₀ L m s Q E B F X N T hkd hdp hun ?_
  intro h' tk' ⟨F', N'⟩
  cases e : isN v with
  | true => exact h1 h' tk' e F' N'
  | false => exact h2 h' tk' e F' N'
end


theorem wmask (n : Int) : Builtin.bitAnd n (1 * 2 ^ Int.toNat 64 - 1) = n % 18446744073709551616 := by
  rw [Int.one_mul]; exact PySem.W.kbt_mask n 64
theorem p63 : (2 : Int) ^ (64 - 1 : Int).toNat = 9223372036854775808 := by decide
theorem p64 : (2 : Int) ^ Int.toNat 64 = 18446744073709551616 := by decide
theorem wmask2 (n : Int) : Builtin.bitAnd n (1 * 18446744073709551616 - 1) = n % 18446744073709551616 := wmask n
theorem int_cast {n a : Int} {t : Tok} {s : Shared} {Q : Value → Shared → Prop} (e : a = n) (h : Q (.int n t) s) : Q (.int a t) s := e ▸ h
theorem wrap_spec (w : World) (n : Int) (t1 t2 : Tok) (h0 : -100 ≤ n) (h1 : n ≤ 100) (news : List (Addr × Obj)) :
    Spec 2 w 160 news [.int n t1, .int 64 t2] (fun ok Q => ∀ h' tk' t, ok h' news → Q (.int n t) h' tk') := by
  unfold Spec
  w_top off
  k_fill
  intro p loose mean mg mb dp un gd cn cs a ccd cl outer A₀ base h₀ L m s Q E B F X N T hkd hdp hun hret
  dsimp only at hret
  refine wpAny_call ?_
  k_dflt cell_enter
  repeat' (first
      | (k_unfold; (try dsimp only))
      | (k_end; wrow_close)
      | ((with_reducible show wpAny _ _ (subscriptTail _ _ (Value.ref _) (Value.int _ _)) _ _ _); first | (with_reducible (k_here; kim_at)) | (k_here; kim_at))
      | walk1
      | dsimp only
      | (leave1; walk_say "STEP leave1"; try dsimp only))
  all_goals (refine' int_cast (n := n) ?e ?h; (case h => exact hret _ _ _ ⟨by assumption, by (first | assumption | exact cb_drop (by assumption) (sub_of (by with_reducible (repeat' constructor))))⟩); (case e => (simp only [wmask2, p63, p64] at *; omega)))
section
variable {w : World} {news rest : List (Addr × Obj)} {p : Program} {loose : List Str} {mean : ExcName → Option Value} {mg mb : Str → Option Value} {dp un : Nat} {gd : Option (List Code)} {cn : Str} {cs : Scope} {a : Addr} {ccd : Value} {cl : List (Str × Addr)} {outer : List Env} {A₀ : Around} {base h₀ : Heap} {L : Addr} {m : Str → Option Value} {s : Shared} {Q E : Value → Shared → Prop}
theorem wrap_use {n : Int} {t1 t2 : Tok} (B : Below A₀ base outer h₀) (F : Fr h₀ L s.heap m) (X : (Mine.heap w.params).In h₀) (N : News h₀ L s.heap news) (T : Top p loose mean mg mb h₀) (hkd : cs.kind = .function) (hdp : dp + 2 < recursionLimit) (hun : un + 64 * 2 < cLine) (h0 : -100 ≤ n) (h1 : n ≤ 100) (hret : ∀ h' tk' t, Fr h₀ L h' m → News h₀ L h' news → Q (.int n t) { s with heap := h', toks := tk' }) : wpAny (model PySem.Challenge.rw_rh0164_01.row.prog w) (ktrTop dp un gd cn cs L a ccd cl outer) (call (.ref 160) [.int n t1, .int 64 t2]) Q E s := by
  refine wrap_spec w n t1 t2 h0 h1 news p loose mean mg mb dp un gd cn cs a ccd cl outer A₀ base h₀ L m s Q E B F X N T hkd hdp hun ?_
  intro h' tk' t ⟨F', N'⟩
  exact hret h' tk' t F' N'
end


theorem unrEndW_minus {h₀ : Heap} {L : Addr} {its : List (Addr × Obj)} {R : (Str → Option Value) → List (Addr × Obj) → Prop} {s₁ : Shared} {h' : Heap} {tk : Nat} {m' : Str → Option Value} {all news' : List (Addr × Obj)} (F : Fr h₀ L h' m') (N : News h₀ L h' all) (hI : ∀ p ∈ its, p ∈ all) (mi : Minus (its.map (·.1)) all news') (r : R m' news') : UnrEndW h₀ L s₁ its R { s₁ with heap := h', toks := tk } :=
  ⟨h', tk, m', news', rfl, F, cb_drop N (fun p hp => (List.mem_append.mp hp).elim (hI p) (mi.sub p)), fun p hp q hq => mi.off p hp q.1 (List.mem_map_of_mem hq), r⟩
theorem unrEndW_minus2 {h₀ : Heap} {L a b : Addr} {o o' : Obj} {R : (Str → Option Value) → List (Addr × Obj) → Prop} {s₁ : Shared} {h' : Heap} {tk : Nat} {m' : Str → Option Value} {all news' : List (Addr × Obj)} (F : Fr h₀ L h' m') (N : News h₀ L h' all) (h1 : (a, o) ∈ all) (h2 : (b, o') ∈ all) (mi : Minus [a, b] all news') (r : R m' news') : UnrEndW h₀ L s₁ [(a, o), (b, o')] R { s₁ with heap := h', toks := tk } :=
  unrEndW_minus F N (List.forall_mem_cons.mpr ⟨h1, List.forall_mem_cons.mpr ⟨h2, List.forall_mem_nil _⟩⟩) mi r
theorem Minus.lt2e {I : Nat} {l : List (Addr × Obj)} (h : AllLt I l) : Minus [I + 1, I] l l := .all fun p hp a ha => by
  have h1 : @LT.lt Nat _ p.1 I := allLt_all h p hp
  intro e
  replace e : @Eq Nat p.1 a := e
  simp only [List.mem_cons, List.not_mem_nil, or_false] at ha
  rcases ha with ha | ha
  · replace ha : @Eq Nat a (I + 1) := ha
    omega
  · replace ha : @Eq Nat a I := ha
    omega
inductive Wr : Value → Value → Value → Int → Prop where
  | a {x y} : Wr .none x y 0
  | b {i t y} : Wr (.int i t) .none y 1
  | c {i t j u} : Wr (.int i t) (.int j u) .none 2
  | d {i t j u k v} : Wr (.int i t) (.int j u) (.int k v) (-1)
theorem wp_spec (w : World) (q n : Nat) (x y z : Value) (r : Int) (h : Wr x y z r) (rest : List (Addr × Obj)) :
    Spec 3 w 275 ((q, PySem.W.listOf #[x, y, z] n) :: rest) [.ref q] (fun ok Q => ∀ h' tk' t, ok h' ((q, PySem.W.listOf #[x, y, z] n) :: rest) → Q (.int r t) h' tk') := by
  cases h
  · unfold Spec
    w_top off
    k_fill
    intro p loose mean mg mb dp un gd cn cs a ccd cl outer A₀ base h₀ L m s Q E B F X N T hkd hdp hun hret
    dsimp only at hret
    refine wpAny_call ?_
    k_dflt cell_enter
    repeat' (first
        | (k_unfold; (try dsimp only))
        | (k_end; wrow_close)
        | ((with_reducible show wpAny _ _ (exec (Stmt.For ..) _) _ _ _); first | (with_reducible (k_here; (rename Fr _ _ _ _ => lF'); (with_unfolding_all refine' For_turns lF' ?_; k_whole))) | (k_here; (rename Fr _ _ _ _ => lF'); (with_unfolding_all refine' For_turns lF' ?_; k_whole)))
        | (with_reducible (k_here; (with_reducible show wpAny _ _ (call (Value.type _) [Value.ref _]) (fun xv s₁ => wpAny _ _ (pyIter xv) (fun it s₂ => TurnsAt _ _ _ _ _ _ _ _ _ it s₂) _ s₁) _ _); (rename Fr _ _ _ _ => lF'); (rename News _ _ _ _ => lN'); (with_unfolding_all refine ktu_enum (vs := [_, _, _]) (xs := [Itm.pair (fun t => Value.int 0 t) _, Itm.pair (fun t => Value.int 1 t) _, Itm.pair (fun t => Value.int 2 t) _]) (by rfl) lF' lN' (by k_mem) (by rfl) (by rfl) (by rfl) ?_); clear lF' lN'; intro i' l1; (try k_lt l1)))
        | ((with_reducible show UnrEndW ..); first | (with_reducible (refine' unrEndW_minus2 ?k1 ?k2 ?k3 ?k4 ?k5 ?_; (case k1 => k_asm); (case k2 => k_asm); (case k3 => k_mem); (case k4 => k_mem); (case k5 => walk_at "my minus"); refine ⟨by k_subL, ?_⟩; (try k_sweep))) | (refine' unrEndW_minus2 ?k1 ?k2 ?k3 ?k4 ?k5 ?_; (case k1 => k_asm); (case k2 => k_asm); (case k3 => k_mem); (case k4 => k_mem); (case k5 => walk_at "my minus"); refine ⟨by k_subL, ?_⟩; (try k_sweep)))
        | ((with_reducible show wpAny _ _ (subscriptTail _ _ (Value.ref _) (Value.int _ _)) _ _ _); first | (with_reducible (k_here; kim_at)) | (k_here; kim_at))
        | walk1
        | dsimp only
        | (leave1; walk_say "STEP leave1"; try dsimp only)
        | fail "no step")
    all_goals exact hret _ _ _ ⟨by assumption, by (first | assumption | exact cb_drop (by assumption) (sub_of (by with_reducible (repeat' constructor))))⟩
  · unfold Spec
    w_top off
    k_fill
    intro p loose mean mg mb dp un gd cn cs a ccd cl outer A₀ base h₀ L m s Q E B F X N T hkd hdp hun hret
    dsimp only at hret
    refine wpAny_call ?_
    k_dflt cell_enter
    repeat' (first
        | (k_unfold; (try dsimp only))
        | (k_end; wrow_close)
        | ((with_reducible show wpAny _ _ (exec (Stmt.For ..) _) _ _ _); first | (with_reducible (k_here; (rename Fr _ _ _ _ => lF'); (with_unfolding_all refine' For_turns lF' ?_; k_whole))) | (k_here; (rename Fr _ _ _ _ => lF'); (with_unfolding_all refine' For_turns lF' ?_; k_whole)))
        | (with_reducible (k_here; (with_reducible show wpAny _ _ (call (Value.type _) [Value.ref _]) (fun xv s₁ => wpAny _ _ (pyIter xv) (fun it s₂ => TurnsAt _ _ _ _ _ _ _ _ _ it s₂) _ s₁) _ _); (rename Fr _ _ _ _ => lF'); (rename News _ _ _ _ => lN'); (with_unfolding_all refine ktu_enum (vs := [_, _, _]) (xs := [Itm.pair (fun t => Value.int 0 t) _, Itm.pair (fun t => Value.int 1 t) _, Itm.pair (fun t => Value.int 2 t) _]) (by rfl) lF' lN' (by k_mem) (by rfl) (by rfl) (by rfl) ?_); clear lF' lN'; intro i' l1; (try k_lt l1)))
        | ((with_reducible show UnrEndW ..); first | (with_reducible (refine' unrEndW_minus2 ?k1 ?k2 ?k3 ?k4 ?k5 ?_; (case k1 => k_asm); (case k2 => k_asm); (case k3 => k_mem); (case k4 => k_mem); (case k5 => walk_at "my minus"); refine ⟨by k_subL, ?_⟩; (try k_sweep))) | (refine' unrEndW_minus2 ?k1 ?k2 ?k3 ?k4 ?k5 ?_; (case k1 => k_asm); (case k2 => k_asm); (case k3 => k_mem); (case k4 => k_mem); (case k5 => walk_at "my minus"); refine ⟨by k_subL, ?_⟩; (try k_sweep)))
        | ((with_reducible show wpAny _ _ (subscriptTail _ _ (Value.ref _) (Value.int _ _)) _ _ _); first | (with_reducible (k_here; kim_at)) | (k_here; kim_at))
        | walk1
        | dsimp only
        | (leave1; walk_say "STEP leave1"; try dsimp only)
        | fail "no step")
    all_goals exact hret _ _ _ ⟨by assumption, by (first | assumption | exact cb_drop (by assumption) (sub_of (by with_reducible (repeat' constructor))))⟩
  · unfold Spec
    w_top off
    k_fill
    intro p loose mean mg mb dp un gd cn cs a ccd cl outer A₀ base h₀ L m s Q E B F X N T hkd hdp hun hret
    dsimp only at hret
    refine wpAny_call ?_
    k_dflt cell_enter
    repeat' (first
        | (k_unfold; (try dsimp only))
        | (k_end; wrow_close)
        | ((with_reducible show wpAny _ _ (exec (Stmt.For ..) _) _ _ _); first | (with_reducible (k_here; (rename Fr _ _ _ _ => lF'); (with_unfolding_all refine' For_turns lF' ?_; k_whole))) | (k_here; (rename Fr _ _ _ _ => lF'); (with_unfolding_all refine' For_turns lF' ?_; k_whole)))
        | (with_reducible (k_here; (with_reducible show wpAny _ _ (call (Value.type _) [Value.ref _]) (fun xv s₁ => wpAny _ _ (pyIter xv) (fun it s₂ => TurnsAt _ _ _ _ _ _ _ _ _ it s₂) _ s₁) _ _); (rename Fr _ _ _ _ => lF'); (rename News _ _ _ _ => lN'); (with_unfolding_all refine ktu_enum (vs := [_, _, _]) (xs := [Itm.pair (fun t => Value.int 0 t) _, Itm.pair (fun t => Value.int 1 t) _, Itm.pair (fun t => Value.int 2 t) _]) (by rfl) lF' lN' (by k_mem) (by rfl) (by rfl) (by rfl) ?_); clear lF' lN'; intro i' l1; (try k_lt l1)))
        | ((with_reducible show UnrEndW ..); first | (with_reducible (refine' unrEndW_minus2 ?k1 ?k2 ?k3 ?k4 ?k5 ?_; (case k1 => k_asm); (case k2 => k_asm); (case k3 => k_mem); (case k4 => k_mem); (case k5 => walk_at "my minus"); refine ⟨by k_subL, ?_⟩; (try k_sweep))) | (refine' unrEndW_minus2 ?k1 ?k2 ?k3 ?k4 ?k5 ?_; (case k1 => k_asm); (case k2 => k_asm); (case k3 => k_mem); (case k4 => k_mem); (case k5 => walk_at "my minus"); refine ⟨by k_subL, ?_⟩; (try k_sweep)))
        | ((with_reducible show wpAny _ _ (subscriptTail _ _ (Value.ref _) (Value.int _ _)) _ _ _); first | (with_reducible (k_here; kim_at)) | (k_here; kim_at))
        | walk1
        | dsimp only
        | (leave1; walk_say "STEP leave1"; try dsimp only)
        | fail "no step")
    all_goals exact hret _ _ _ ⟨by assumption, by (first | assumption | exact cb_drop (by assumption) (sub_of (by with_reducible (repeat' constructor))))⟩
  · unfold Spec
    w_top off
    k_fill
    intro p loose mean mg mb dp un gd cn cs a ccd cl outer A₀ base h₀ L m s Q E B F X N T hkd hdp hun hret
    dsimp only at hret
    refine wpAny_call ?_
    k_dflt cell_enter
    repeat' (first
        | (k_unfold; (try dsimp only))
        | (k_end; wrow_close)
        | ((with_reducible show wpAny _ _ (exec (Stmt.For ..) _) _ _ _); first | (with_reducible (k_here; (rename Fr _ _ _ _ => lF'); (with_unfolding_all refine' For_turns lF' ?_; k_whole))) | (k_here; (rename Fr _ _ _ _ => lF'); (with_unfolding_all refine' For_turns lF' ?_; k_whole)))
        | (with_reducible (k_here; (with_reducible show wpAny _ _ (call (Value.type _) [Value.ref _]) (fun xv s₁ => wpAny _ _ (pyIter xv) (fun it s₂ => TurnsAt _ _ _ _ _ _ _ _ _ it s₂) _ s₁) _ _); (rename Fr _ _ _ _ => lF'); (rename News _ _ _ _ => lN'); (with_unfolding_all refine ktu_enum (vs := [_, _, _]) (xs := [Itm.pair (fun t => Value.int 0 t) _, Itm.pair (fun t => Value.int 1 t) _, Itm.pair (fun t => Value.int 2 t) _]) (by rfl) lF' lN' (by k_mem) (by rfl) (by rfl) (by rfl) ?_); clear lF' lN'; intro i' l1; (try k_lt l1)))
        | ((with_reducible show UnrEndW ..); first | (with_reducible (refine' unrEndW_minus2 ?k1 ?k2 ?k3 ?k4 ?k5 ?_; (case k1 => k_asm); (case k2 => k_asm); (case k3 => k_mem); (case k4 => k_mem); (case k5 => walk_at "my minus"); refine ⟨by k_subL, ?_⟩; (try k_sweep))) | (refine' unrEndW_minus2 ?k1 ?k2 ?k3 ?k4 ?k5 ?_; (case k1 => k_asm); (case k2 => k_asm); (case k3 => k_mem); (case k4 => k_mem); (case k5 => walk_at "my minus"); refine ⟨by k_subL, ?_⟩; (try k_sweep)))
        | ((with_reducible show wpAny _ _ (subscriptTail _ _ (Value.ref _) (Value.int _ _)) _ _ _); first | (with_reducible (k_here; kim_at)) | (k_here; kim_at))
        | walk1
        | dsimp only
        | (leave1; walk_say "STEP leave1"; try dsimp only)
        | fail "no step")
    all_goals exact hret _ _ _ ⟨by assumption, by (first | assumption | exact cb_drop (by assumption) (sub_of (by with_reducible (repeat' constructor))))⟩


theorem nn_spec (w : World) (n l st : Int) (t1 t2 t3 t4 : Tok) (h0 : -50 ≤ n) (h1 : n ≤ 50) (h2 : -50 ≤ st) (h3 : st ≤ 50) (h4 : -100 ≤ l) (h5 : l ≤ 100) (news : List (Addr × Obj)) :
    Spec 5 w 296 news [.int n t1, .int l t2, .int st t3, .int 64 t4] (fun ok Q => ∀ h' tk' t, ok h' news → ((if 0 < st then decide (n + st ≤ l) else decide (l ≤ n + st)) = true → Q (.int (n + st) t) h' tk') ∧ ((if 0 < st then decide (n + st ≤ l) else decide (l ≤ n + st)) = false → Q .none h' tk')) := by
  unfold Spec
  w_top off
  k_fill
  intro p loose mean mg mb dp un gd cn cs a ccd cl outer A₀ base h₀ L m s Q E B F X N T hkd hdp hun hret
  dsimp only at hret
  refine wpAny_call ?_
  k_dflt cell_enter
  repeat' (first
      | (k_unfold; (try dsimp only))
      | (k_end; wrow_close)
      | ((with_reducible show wpAny _ _ (call (Value.ref _) _ _) _ _ _); (first
        | (with_reducible (k_here; (with_reducible show wpAny _ _ (call (Value.ref 160) _) _ _ _); k_dflt (refine' wrap_use ?k1 ?k2 ?k3 ?k4 ?k5 ?k6 ?k7 ?k8 ?h0 ?h1 ?_; (case k1 => k_asm); (case k2 => k_asm); (case k3 => k_asm); (case k4 => k_asm); (case k5 => k_asm); (case k6 => first | exact rfl | assumption); (case k7 => k_room); (case k8 => k_room); (case h0 => omega); (case h1 => omega); k_whole); intro h' tk' t' F' N'; (try k_sweep)))))
      | ((with_reducible show wpAny _ _ (subscriptTail _ _ (Value.ref _) (Value.int _ _)) _ _ _); first | (with_reducible (k_here; kim_at)) | (k_here; kim_at))
      | walk1
      | dsimp only
      | (leave1; walk_say "STEP leave1"; try dsimp only)
      | fail "no step")
  · exact (hret _ _ _ ⟨by assumption, by assumption⟩).1 (by assumption)
  · exact (hret _ _ 0 ⟨by assumption, by assumption⟩).2 (by assumption)


section
variable {w : World} {news rest : List (Addr × Obj)} {p : Program} {loose : List Str} {mean : ExcName → Option Value} {mg mb : Str → Option Value} {dp un : Nat} {gd : Option (List Code)} {cn : Str} {cs : Scope} {a : Addr} {ccd : Value} {cl : List (Str × Addr)} {outer : List Env} {A₀ : Around} {base h₀ : Heap} {L : Addr} {m : Str → Option Value} {s : Shared} {Q E : Value → Shared → Prop}
theorem num_use2 {v : Value} (B : Below A₀ base outer h₀) (F : Fr h₀ L s.heap m) (X : (Mine.heap w.params).In h₀) (N : News h₀ L s.heap news) (T : Top p loose mean mg mb h₀) (hkd : cs.kind = .function) (hdp : dp + 2 < recursionLimit) (hun : un + 64 * 2 < cLine) (hv : Menu v) (hret : ∀ h' tk', Fr h₀ L h' m → News h₀ L h' news → ((∀ i t, v = .int i t → -2 ≤ i → i ≤ 5 → Q (.bool true) { s with heap := h', toks := tk' }) ∧ (isN v = false → Q (.bool false) { s with heap := h', toks := tk' }))) : wpAny (model PySem.Challenge.rw_rh0164_01.row.prog w) (ktrTop dp un gd cn cs L a ccd cl outer) (call (.ref 146) [v]) Q E s := by
  refine num_spec w v hv news p loose mean mg mb dp un gd cn cs a ccd cl outer A₀ base h₀ L m s Q E B F X N T hkd hdp hun ?_
  intro h' tk' ⟨F', N'⟩
  cases e : isN v with
  | true =>
    obtain ⟨i, t, e1, e2, e3⟩ := hv.int e
    refine (hret h' tk' F' N').1 i t e1 e2 e3
  | false => exact (hret h' tk' F' N').2 e
theorem wp_use {q n : Nat} {x y z : Value} {r : Int} (B : Below A₀ base outer h₀) (F : Fr h₀ L s.heap m) (X : (Mine.heap w.params).In h₀) (N : News h₀ L s.heap news) (T : Top p loose mean mg mb h₀) (hkd : cs.kind = .function) (hdp : dp + 3 < recursionLimit) (hun : un + 64 * 3 < cLine) (m1 : (q, PySem.W.listOf #[x, y, z] n) ∈ news) (h : Wr x y z r) (hret : ∀ h' tk' t, Fr h₀ L h' m → News h₀ L h' news → Q (.int r t) { s with heap := h', toks := tk' }) : wpAny (model PySem.Challenge.rw_rh0164_01.row.prog w) (ktrTop dp un gd cn cs L a ccd cl outer) (call (.ref 275) [.ref q]) Q E s := by
  refine wp_spec w q n x y z r h news p loose mean mg mb dp un gd cn cs a ccd cl outer A₀ base h₀ L m s Q E B F X (News.add m1 N N) T hkd hdp hun ?_
  intro h' tk' t ⟨F', N'⟩
  exact hret h' tk' t F' (fun p hp => N' p (.tail _ hp))
theorem nn_use {n l st : Int} {t1 t2 t3 t4 : Tok} (B : Below A₀ base outer h₀) (F : Fr h₀ L s.heap m) (X : (Mine.heap w.params).In h₀) (N : News h₀ L s.heap news) (T : Top p loose mean mg mb h₀) (hkd : cs.kind = .function) (hdp : dp + 5 < recursionLimit) (hun : un + 64 * 5 < cLine) (h0 : -50 ≤ n) (h1 : n ≤ 50) (h2 : -50 ≤ st) (h3 : st ≤ 50) (h4 : -100 ≤ l) (h5 : l ≤ 100) (hret : ∀ h' tk' t, Fr h₀ L h' m → News h₀ L h' news → (((if 0 < st then decide (n + st ≤ l) else decide (l ≤ n + st)) = true → Q (.int (n + st) t) { s with heap := h', toks := tk' }) ∧ ((if 0 < st then decide (n + st ≤ l) else decide (l ≤ n + st)) = false → Q .none { s with heap := h', toks := tk' }))) : wpAny (model PySem.Challenge.rw_rh0164_01.row.prog w) (ktrTop dp un gd cn cs L a ccd cl outer) (call (.ref 296) [.int n t1, .int l t2, .int st t3, .int 64 t4]) Q E s := by
  refine nn_spec w n l st t1 t2 t3 t4 h0 h1 h2 h3 h4 h5 news p loose mean mg mb dp un gd cn cs a ccd cl outer A₀ base h₀ L m s Q E B F X N T hkd hdp hun ?_
  intro h' tk' t ⟨F', N'⟩
  exact hret h' tk' t F' N'
end
theorem compEnd_val {h₀ : Heap} {L I C D : Nat} {m : Str → Option Value} {s₁ : Shared} {oI oC oD : Obj} {S : List (Addr × Obj) → Prop} {rest : Value → List (Addr × Obj) → Prop} {h' : Heap} {tk : Nat} {y : Value} {all news : List (Addr × Obj)}
    (F : Fr h₀ L h' m) (off : LCg.Off3 I C D news) (N : News h₀ L h' all) (sub : ∀ p ∈ (I, oI) :: (C, oC) :: (D, oD) :: news, p ∈ all) (hS : S news) (r : rest y news) :
    LCg.CompEnd h₀ L m s₁ I oI C oC D oD S rest y { s₁ with heap := h', toks := tk } :=
  LCg.CompEnd.intro F N news sub off hS r
def wrB (a b c : Value) : Int := if isN a then if isN b then if isN c then -1 else 2 else 1 else 0
theorem wr0 {x y z : Value} (h : isN x = false) : 0 = wrB x y z := by unfold wrB; rw [h]; rfl
theorem wr1 {i : Int} {t : Tok} {y z : Value} (h : isN y = false) : 1 = wrB (.int i t) y z := by unfold wrB; rw [h]; rfl
theorem wr2 {i j : Int} {t u : Tok} {z : Value} (h : isN z = false) : 2 = wrB (.int i t) (.int j u) z := by unfold wrB; rw [h]; rfl
theorem wr3 {i j k : Int} {t u v : Tok} : -1 = wrB (.int i t) (.int j u) (.int k v) := rfl
theorem rw_spec (w : World) (sk n2 : Nat) (v1 v2 v3 v4 : Value) (t1 : Tok) (g1 : Menu v1) (g2 : Menu v2) (g3 : Menu v3) (rest : List (Addr × Obj)) :
    Spec 5 w 364 ((sk, PySem.W.listOf #[v1, v2, v3, v4, .none, .none, .none, .none, .none, .none, .none, .none, .none, .none, .none, .none] n2) :: rest) [.ref sk, .int 0 t1] (fun ok Q => ∀ h' tk' t, ok h' ((sk, PySem.W.listOf #[v1, v2, v3, v4, .none, .none, .none, .none, .none, .none, .none, .none, .none, .none, .none, .none] n2) :: rest) → Q (.int (wrB v1 v2 v3) t) h' tk') := by
  unfold Spec
  w_top off
  k_fill
  intro p loose mean mg mb dp un gd cn cs a ccd cl outer A₀ base h₀ L m s Q E B F X N T hkd hdp hun hret
  dsimp only at hret
  refine wpAny_call ?_
  k_dflt cell_enter
  repeat' (first
      | (k_unfold; (try dsimp only))
      | (k_end; wrow_close)
      | ((with_reducible show wpAny _ _ (call (Value.ref _) _ _) _ _ _); (first
        | (with_reducible (k_here; (with_reducible show wpAny _ _ (call (Value.ref 275) _) _ _ _); k_dflt (refine' wp_use ?k1 ?k2 ?k3 ?k4 ?k5 ?k6 ?k7 ?k8 ?m1 ?h ?_; (case k1 => k_asm); (case k2 => k_asm); (case k3 => k_asm); (case k4 => k_asm); (case k5 => k_asm); (case k6 => first | exact rfl | assumption); (case k7 => k_room); (case k8 => k_room); (case m1 => k_mem); (case h => first | exact Wr.d | exact Wr.c | exact Wr.b | exact Wr.a); k_whole); intro h' tk' t' F' N'; (try k_sweep)))
        | (with_reducible (k_here; (with_reducible show wpAny _ _ (call (Value.ref 146) _) _ _ _); k_dflt (refine' num_use2 ?k1 ?k2 ?k3 ?k4 ?k5 ?k6 ?k7 ?k8 ?hv ?_; (case k1 => k_asm); (case k2 => k_asm); (case k3 => k_asm); (case k4 => k_asm); (case k5 => k_asm); (case k6 => first | exact rfl | assumption); (case k7 => k_room); (case k8 => k_room); (case hv => with_reducible assumption); k_whole); intro h' tk' F' N'; (try k_sweep); (refine ⟨?_, ?_⟩) <;> first | (intro i' t' e' h1' h2'; subst e') | intro e'))))
      | ((with_reducible show LCg.CompEnd ..); first | (with_reducible (refine' compEnd_val ?F ?off ?N ?sub ?src ?_; (case F => k_asm); (case off => with_reducible assumption); (case N => k_asm); (case sub => (first | (refine sub_of ?_; with_reducible (repeat' constructor); done) | ((repeat (refine List.forall_mem_cons.mpr ⟨?_, ?_⟩; k_mem)); exact sub_of (by repeat' constructor)))); (case src => lcg_src))) | (refine' compEnd_val ?F ?off ?N ?sub ?src ?_; (case F => k_asm); (case off => with_reducible assumption); (case N => k_asm); (case sub => (first | (refine sub_of ?_; with_reducible (repeat' constructor); done) | ((repeat (refine List.forall_mem_cons.mpr ⟨?_, ?_⟩; k_mem)); exact sub_of (by repeat' constructor)))); (case src => lcg_src)))
      | ((with_reducible show LCg.FinA ..); first | (with_reducible ((unfold LCg.FinA); intro D' h' tk' F' N' o1'; (try simp only [List.nil_append, List.cons_append] at N'); (try dsimp only))) | ((unfold LCg.FinA); intro D' h' tk' F' N' o1'; (try simp only [List.nil_append, List.cons_append] at N'); (try dsimp only)))
      | ((with_reducible show LCg.CompEnd ..); first | (with_reducible (refine' compEnd_one ?F ?off ?N ?mt ?a1 ?a2 ?a3 ?sub ?src ?_; (case F => k_asm); (case off => with_reducible assumption); (case N => k_asm); (case mt => k_mem); (case a1 => omega); (case a2 => omega); (case a3 => omega); (case sub => (first | (refine sub_of ?_; with_reducible (repeat' constructor); done) | ((repeat (refine List.forall_mem_cons.mpr ⟨?_, ?_⟩; k_mem)); exact sub_of (by repeat' constructor)))); (case src => lcg_src))) | (refine' compEnd_one ?F ?off ?N ?mt ?a1 ?a2 ?a3 ?sub ?src ?_; (case F => k_asm); (case off => with_reducible assumption); (case N => k_asm); (case mt => k_mem); (case a1 => omega); (case a2 => omega); (case a3 => omega); (case sub => (first | (refine sub_of ?_; with_reducible (repeat' constructor); done) | ((repeat (refine List.forall_mem_cons.mpr ⟨?_, ?_⟩; k_mem)); exact sub_of (by repeat' constructor)))); (case src => lcg_src)))
      | ((with_reducible show LCg.CompRest ..); first | (with_reducible (with_unfolding_all first | (refine LCg.CompRest.succ ?_; intro v' I' oI' C' oC' D' m' h' tk' E' hv' hC' hx' F' N' off' ne'; (first | lcg_open hv' | (obtain ⟨t9', hv9'⟩ := hv'; subst hv9'))) | refine LCg.CompRest.zero ?_)) | (with_unfolding_all first | (refine LCg.CompRest.succ ?_; intro v' I' oI' C' oC' D' m' h' tk' E' hv' hC' hx' F' N' off' ne'; (first | lcg_open hv' | (obtain ⟨t9', hv9'⟩ := hv'; subst hv9'))) | refine LCg.CompRest.zero ?_))
      | ((with_reducible show wpAny _ _ (subscriptTail _ _ (Value.ref _) (Value.int _ _)) _ _ _); first | (with_reducible (k_here; kim_at)) | (k_here; kim_at))
      | walk1
      | dsimp only
      | (leave1; walk_say "STEP leave1"; try dsimp only)
      | fail "no step")
  all_goals (refine' int_cast (n := wrB _ _ _) ?e ?h; (case h => exact hret _ _ _ ⟨by assumption, by (first | assumption | exact cb_drop (by assumption) (sub_of (by with_reducible (repeat' constructor))))⟩); (case e => first | exact wr3 | exact wr0 (by with_reducible assumption) | exact wr1 (by with_reducible assumption) | exact wr2 (by with_reducible assumption)))


theorem rg_spec (w : World) (sk n2 lm dl : Nat) (tkl : T10) (fl : Value) (xa xb xc : Int) (ta tb tc : Tok) (v4 : Value) (t1 : Tok) (h0 : -50 ≤ xa) (h1 : xa ≤ 50) (h2 : -50 ≤ xc) (h3 : xc ≤ 50) (h4 : -100 ≤ xb) (h5 : xb ≤ 100) (rest : List (Addr × Obj)) (hr : ∀ p ∈ rest, p.1 ≠ sk) (o1 : dl < lm) (o2 : lm < sk) :
    Spec 8 w 371 ((sk, PySem.W.listOf #[.int xa ta, .int xb tb, .int xc tc, v4, .none, .none, .none, .none, .none, .none, .none, .none, .none, .none, .none, .none] n2) :: (lm, instObj 95 dl) :: (dl, dictOf (limEs w tkl fl) 10) :: rest) [.ref sk, .int 0 t1, .ref lm]
      (fun ok Q => ∀ h' tk' t, ((if 0 < xc then decide (xa + xc ≤ xb) else decide (xb ≤ xa + xc)) = true → ok h' ((sk, PySem.W.listOf #[.int (xa + xc) t, .int xb tb, .int xc tc, .int (xa + xc) t, .none, .none, .none, .none, .none, .none, .none, .none, .none, .none, .none, .none] n2) :: rest) → Q (.bool true) h' tk') ∧ ((if 0 < xc then decide (xa + xc ≤ xb) else decide (xb ≤ xa + xc)) = false → ok h' ((sk, PySem.W.listOf #[.int xa ta, .int xb tb, .int xc tc, v4, .none, .none, .none, .none, .none, .none, .none, .none, .none, .none, .none, .none] n2) :: rest) → Q (.bool false) h' tk')) := by
  unfold Spec
  w_top off
  k_fill
  intro p loose mean mg mb dp un gd cn cs a ccd cl outer A₀ base h₀ L m s Q E B F X N T hkd hdp hun hret
  dsimp only at hret
  refine wpAny_call ?_
  k_dflt cell_enter
  repeat' (first
      | (k_unfold; (try dsimp only))
      | (k_end; wrow_close)
      | ((with_reducible show wpAny _ _ (call (Value.ref _) _ _) _ _ _); (first
        | (with_reducible (k_here; (with_reducible show wpAny _ _ (call (Value.ref 296) _) _ _ _); k_dflt (refine' nn_use ?k1 ?k2 ?k3 ?k4 ?k5 ?k6 ?k7 ?k8 ?h0 ?h1 ?h2 ?h3 ?h4 ?h5 ?_; (case k1 => k_asm); (case k2 => k_asm); (case k3 => k_asm); (case k4 => k_asm); (case k5 => k_asm); (case k6 => first | exact rfl | assumption); (case k7 => k_room); (case k8 => k_room); (case h0 => omega); (case h1 => omega); (case h2 => omega); (case h3 => omega); (case h4 => omega); (case h5 => omega); k_whole); intro h' tk' t' F' N'; (try k_sweep); (refine ⟨?_, ?_⟩) <;> intro e'))))
      | ((with_reducible show wpAny _ _ (subscriptTail _ _ (Value.ref _) (Value.int _ _)) _ _ _); first | (with_reducible (k_here; kim_at)) | (k_here; kim_at))
      | walk1
      | dsimp only
      | (leave1; walk_say "STEP leave1"; try dsimp only)
      | fail "no step")
  · exact (hret _ _ _).1 (by assumption) ⟨by assumption, by (first | assumption | exact cb_drop (by assumption) (sub_of (by with_reducible (repeat' constructor))))⟩
  · exact (hret _ _ 0).2 (by assumption) ⟨by assumption, by (first | assumption | exact cb_drop (by assumption) (sub_of (by with_reducible (repeat' constructor))))⟩


section
variable {w : World} {news rest : List (Addr × Obj)} {p : Program} {loose : List Str} {mean : ExcName → Option Value} {mg mb : Str → Option Value} {dp un : Nat} {gd : Option (List Code)} {cn : Str} {cs : Scope} {a : Addr} {ccd : Value} {cl : List (Str × Addr)} {outer : List Env} {A₀ : Around} {base h₀ : Heap} {L : Addr} {m : Str → Option Value} {s : Shared} {Q E : Value → Shared → Prop}
theorem rw_use {sk n2 : Nat} {v1 v2 v3 v4 : Value} {t1 : Tok} (B : Below A₀ base outer h₀) (F : Fr h₀ L s.heap m) (X : (Mine.heap w.params).In h₀) (N : News h₀ L s.heap news) (T : Top p loose mean mg mb h₀) (hkd : cs.kind = .function) (hdp : dp + 5 < recursionLimit) (hun : un + 64 * 5 < cLine) (m1 : (sk, PySem.W.listOf #[v1, v2, v3, v4, .none, .none, .none, .none, .none, .none, .none, .none, .none, .none, .none, .none] n2) ∈ news) (g1 : Menu v1) (g2 : Menu v2) (g3 : Menu v3) (hret : ∀ h' tk' t, Fr h₀ L h' m → News h₀ L h' news → Q (.int (wrB v1 v2 v3) t) { s with heap := h', toks := tk' }) : wpAny (model PySem.Challenge.rw_rh0164_01.row.prog w) (ktrTop dp un gd cn cs L a ccd cl outer) (call (.ref 364) [.ref sk, .int 0 t1]) Q E s := by
  refine rw_spec w sk n2 v1 v2 v3 v4 t1 g1 g2 g3 news p loose mean mg mb dp un gd cn cs a ccd cl outer A₀ base h₀ L m s Q E B F X (News.add m1 N N) T hkd hdp hun ?_
  intro h' tk' t ⟨F', N'⟩
  exact hret h' tk' t F' (fun p hp => N' p (.tail _ hp))
theorem rwi_use {sk n2 : Nat} {i j l : Int} {ti tj tl : Tok} {v4 : Value} {t1 : Tok} (B : Below A₀ base outer h₀) (F : Fr h₀ L s.heap m) (X : (Mine.heap w.params).In h₀) (N : News h₀ L s.heap news) (T : Top p loose mean mg mb h₀) (hkd : cs.kind = .function) (hdp : dp + 5 < recursionLimit) (hun : un + 64 * 5 < cLine) (m1 : (sk, PySem.W.listOf #[.int i ti, .int j tj, .int l tl, v4, .none, .none, .none, .none, .none, .none, .none, .none, .none, .none, .none, .none] n2) ∈ news) (g1 : Menu (.int i ti)) (g2 : Menu (.int j tj)) (g3 : Menu (.int l tl)) (hret : ∀ h' tk' t, Fr h₀ L h' m → News h₀ L h' news → Q (.int (-1) t) { s with heap := h', toks := tk' }) : wpAny (model PySem.Challenge.rw_rh0164_01.row.prog w) (ktrTop dp un gd cn cs L a ccd cl outer) (call (.ref 364) [.ref sk, .int 0 t1]) Q E s :=
  rw_use B F X N T hkd hdp hun m1 g1 g2 g3 hret
theorem rg_use {sk n2 lm dl : Nat} {tkl : T10} {fl : Value} {xa xb xc : Int} {ta tb tc : Tok} {v4 : Value} {t1 : Tok} (B : Below A₀ base outer h₀) (F : Fr h₀ L s.heap m) (X : (Mine.heap w.params).In h₀) (N : News h₀ L s.heap news) (T : Top p loose mean mg mb h₀) (hkd : cs.kind = .function) (hdp : dp + 8 < recursionLimit) (hun : un + 64 * 8 < cLine) (m1 : (sk, PySem.W.listOf #[.int xa ta, .int xb tb, .int xc tc, v4, .none, .none, .none, .none, .none, .none, .none, .none, .none, .none, .none, .none] n2) ∈ news) (m2 : (lm, instObj 95 dl) ∈ news) (m3 : (dl, dictOf (limEs w tkl fl) 10) ∈ news) (mi : Minus [sk] news rest) (h0 : -50 ≤ xa) (h1 : xa ≤ 50) (h2 : -50 ≤ xc) (h3 : xc ≤ 50) (h4 : -100 ≤ xb) (h5 : xb ≤ 100) (o1 : dl < lm) (o2 : lm < sk)
    (hret : ∀ h' tk' t, Fr h₀ L h' m → (((if 0 < xc then decide (xa + xc ≤ xb) else decide (xb ≤ xa + xc)) = true → News h₀ L h' ((sk, PySem.W.listOf #[.int (xa + xc) t, .int xb tb, .int xc tc, .int (xa + xc) t, .none, .none, .none, .none, .none, .none, .none, .none, .none, .none, .none, .none] n2) :: rest) → Q (.bool true) { s with heap := h', toks := tk' }) ∧ ((if 0 < xc then decide (xa + xc ≤ xb) else decide (xb ≤ xa + xc)) = false → News h₀ L h' ((sk, PySem.W.listOf #[.int xa ta, .int xb tb, .int xc tc, v4, .none, .none, .none, .none, .none, .none, .none, .none, .none, .none, .none, .none] n2) :: rest) → Q (.bool false) { s with heap := h', toks := tk' }))) : wpAny (model PySem.Challenge.rw_rh0164_01.row.prog w) (ktrTop dp un gd cn cs L a ccd cl outer) (call (.ref 371) [.ref sk, .int 0 t1, .ref lm]) Q E s := by
  refine rg_spec w sk n2 lm dl tkl fl xa xb xc ta tb tc v4 t1 h0 h1 h2 h3 h4 h5 rest (fun p hp => mi.off p hp sk (.head _)) o1 o2 p loose mean mg mb dp un gd cn cs a ccd cl outer A₀ base h₀ L m s Q E B F X (News.add m1 N (News.add m2 N (News.add m3 N (cb_drop N mi.sub)))) T hkd hdp hun ?_
  intro h' tk' t
  exact ⟨fun e ok => (hret h' tk' t ok.1).1 e ok.2, fun e ok => (hret h' tk' t ok.1).2 e ok.2⟩
end


theorem no_spec (w : World) (x dx c k sk lm wk n2 : Nat) (tk  : T10) (room top res : Value) (pc : Int) (tp t1 t2 : Tok) (v1 v2 v3 v4 : Value) (g1 : Menu v1) (g2 : Menu v2) (g3 : Menu v3) (hw : 0 ≤ wrB v1 v2 v3) (rest : List (Addr × Obj)) :
    Spec 12 w 449 ((x, instObj 508 dx) :: (dx, dictOf (stepEs w tk c k sk lm wk room top res pc tp) 9) :: (sk, PySem.W.listOf #[v1, v2, v3, v4, .none, .none, .none, .none, .none, .none, .none, .none, .none, .none, .none, .none] n2) :: rest) [.ref x, .int 31 t1, .int 2147467295 t2]
      (fun ok Q => ∀ h' tk', ok h' ((x, instObj 508 dx) :: (dx, dictOf (stepEs w tk c k sk lm wk room top res pc tp) 9) :: (sk, PySem.W.listOf #[v1, v2, v3, v4, .none, .none, .none, .none, .none, .none, .none, .none, .none, .none, .none, .none] n2) :: rest) → Q (.bool false) h' tk') := by
  unfold Spec
  w_top off
  k_fill
  intro p loose mean mg mb dp un gd cn cs a ccd cl outer A₀ base h₀ L m s Q E B F X N T hkd hdp hun hret
  dsimp only at hret
  refine wpAny_call ?_
  k_dflt cell_enter
  repeat' (first
      | (k_unfold; (try dsimp only))
      | (k_end; wrow_close)
      | ((with_reducible show wpAny _ _ (call (Value.ref _) _ _) _ _ _); (first
        | (with_reducible (k_here; (with_reducible show wpAny _ _ (call (Value.ref 364) _) _ _ _); k_dflt (refine' rw_use ?k1 ?k2 ?k3 ?k4 ?k5 ?k6 ?k7 ?k8 ?m1 ?g1 ?g2 ?g3 ?_; (case k1 => k_asm); (case k2 => k_asm); (case k3 => k_asm); (case k4 => k_asm); (case k5 => k_asm); (case k6 => first | exact rfl | assumption); (case k7 => k_room); (case k8 => k_room); (case m1 => k_mem); (case g1 => with_reducible assumption); (case g2 => with_reducible assumption); (case g3 => with_reducible assumption); k_whole); intro h' tk' t' F' N'; (try k_sweep)))))
      | ((with_reducible show wpAny _ _ (subscriptTail _ _ (Value.ref _) (Value.int _ _)) _ _ _); first | (with_reducible (k_here; kim_at)) | (k_here; kim_at))
      | walk1
      | dsimp only
      | (leave1; walk_say "STEP leave1"; try dsimp only)
      | fail "no step")
  all_goals exact hret _ _ ⟨by assumption, by (first | assumption | exact cb_drop (by assumption) (sub_of (by with_reducible (repeat' constructor))))⟩


theorem jmp0 : Int.fdiv 2147467295 (2 ^ Int.toNat 14) - 131071 = 0 := by decide
theorem go_spec (w : World) (x dx cc k sk lm dl wk n2 : Nat) (tk tkl : T10) (room top res fl : Value) (pc : Int) (tp t1 t2 : Tok) (xa xb xc : Int) (ta tb tc : Tok) (v4 : Value) (h0 : -2 ≤ xa) (h1 : xa ≤ 5) (h2 : -2 ≤ xc) (h3 : xc ≤ 5) (h4 : -2 ≤ xb) (h5 : xb ≤ 5) (hp0 : 0 ≤ pc) (hp1 : pc ≤ 100) (rest : List (Addr × Obj)) (hx : dx < x) (hs : x < sk) (hr1 : ∀ p ∈ rest, p.1 ≠ dx) (hr2 : ∀ p ∈ rest, p.1 ≠ sk) (o1 : dl < lm) (o2 : lm < dx) :
    Spec 12 w 449 ((x, instObj 508 dx) :: (dx, dictOf (stepEs w tk cc k sk lm wk room top res pc tp) 9) :: (sk, PySem.W.listOf #[.int xa ta, .int xb tb, .int xc tc, v4, .none, .none, .none, .none, .none, .none, .none, .none, .none, .none, .none, .none] n2) :: (lm, instObj 95 dl) :: (dl, dictOf (limEs w tkl fl) 10) :: rest) [.ref x, .int 31 t1, .int 2147467295 t2]
      (fun ok Q => ∀ h' tk' t tp', ((if 0 < xc then decide (xa + xc ≤ xb) else decide (xb ≤ xa + xc)) = true → ok h' ((x, instObj 508 dx) :: (dx, dictOf (stepEs w tk cc k sk lm wk room top res pc tp') 9) :: (sk, PySem.W.listOf #[.int (xa + xc) t, .int xb tb, .int xc tc, .int (xa + xc) t, .none, .none, .none, .none, .none, .none, .none, .none, .none, .none, .none, .none] n2) :: rest) → Q (.bool true) h' tk') ∧ ((if 0 < xc then decide (xa + xc ≤ xb) else decide (xb ≤ xa + xc)) = false → ok h' ((x, instObj 508 dx) :: (dx, dictOf (stepEs w tk cc k sk lm wk room top res pc tp') 9) :: (sk, PySem.W.listOf #[.int xa ta, .int xb tb, .int xc tc, v4, .none, .none, .none, .none, .none, .none, .none, .none, .none, .none, .none, .none] n2) :: rest) → Q (.bool true) h' tk')) := by
  unfold Spec
  w_top off
  k_fill
  intro p loose mean mg mb dp un gd cn cs a ccd cl outer A₀ base h₀ L m s Q E B F X N T hkd hdp hun hret
  dsimp only at hret
  refine wpAny_call ?_
  k_dflt cell_enter
  repeat' (first
      | (k_unfold; (try dsimp only))
      | (k_end; wrow_close)
      | ((with_reducible show wpAny _ _ (call (Value.ref _) _ _) _ _ _); (first
        | (with_reducible (k_here; (with_reducible show wpAny _ _ (call (Value.ref 371) _) _ _ _); k_dflt (refine' rg_use ?k1 ?k2 ?k3 ?k4 ?k5 ?k6 ?k7 ?k8 ?m1 ?m2 ?m3 ?mi ?h0 ?h1 ?h2 ?h3 ?h4 ?h5 ?o1 ?o2 ?_; (case k1 => k_asm); (case k2 => k_asm); (case k3 => k_asm); (case k4 => k_asm); (case k5 => k_asm); (case k6 => first | exact rfl | assumption); (case k7 => k_room); (case k8 => k_room); (case m1 => k_mem); (case m2 => k_mem); (case m3 => k_mem); (case mi => walk_at "my minus"); (case h0 => omega); (case h1 => omega); (case h2 => omega); (case h3 => omega); (case h4 => omega); (case h5 => omega); (case o1 => omega); (case o2 => omega); k_whole); intro h' tk' t' F'; (refine ⟨?_, ?_⟩) <;> (intro e' N'; (try k_sweep))))
        | (with_reducible (k_here; (with_reducible show wpAny _ _ (call (Value.ref 364) _) _ _ _); k_dflt (refine' rwi_use ?k1 ?k2 ?k3 ?k4 ?k5 ?k6 ?k7 ?k8 ?m1 ?g1 ?g2 ?g3 ?_; (case k1 => k_asm); (case k2 => k_asm); (case k3 => k_asm); (case k4 => k_asm); (case k5 => k_asm); (case k6 => first | exact rfl | assumption); (case k7 => k_room); (case k8 => k_room); (case m1 => k_mem); (case g1 => exact Menu.num (by omega) (by omega)); (case g2 => exact Menu.num (by omega) (by omega)); (case g3 => exact Menu.num (by omega) (by omega)); k_whole); intro h' tk' t' F' N'; (try k_sweep)))))
      | ((with_reducible show wpAny _ _ (subscriptTail _ _ (Value.ref _) (Value.int _ _)) _ _ _); first | (with_reducible (k_here; kim_at)) | (k_here; kim_at))
      | walk1
      | dsimp only
      | (leave1; walk_say "STEP leave1"; try dsimp only)
      | fail "no step")
  · simp only [jmp0, Int.add_zero] at *; exact (hret _ _ _ _).1 (by assumption) ⟨by assumption, by (first | assumption | exact cb_drop (by assumption) (sub_of (by with_reducible (repeat' constructor))))⟩
  · simp only [Int.add_zero] at *; exact (hret _ _ 0 _).2 (by assumption) ⟨by assumption, by (first | assumption | exact cb_drop (by assumption) (sub_of (by with_reducible (repeat' constructor))))⟩


theorem ret4_spec (w : World) (x dx c k sk lm wk n2 : Nat) (tk  : T10) (room top res : Value) (pc : Int) (tp t1 t2 : Tok) (v1 v2 v3 v4 : Value) (rest : List (Addr × Obj)) (hx : dx < x) (hs : x < sk) (hr1 : ∀ p ∈ rest, p.1 ≠ dx) (hr2 : ∀ p ∈ rest, p.1 ≠ sk) :
    Spec 12 w 449 ((x, instObj 508 dx) :: (dx, dictOf (stepEs w tk c k sk lm wk room top res pc tp) 9) :: (sk, PySem.W.listOf #[v1, v2, v3, v4, .none, .none, .none, .none, .none, .none, .none, .none, .none, .none, .none, .none] n2) :: rest) [.ref x, .int 30 t1, .int 41943070 t2]
      (fun ok Q => ∀ h' tk' q, ok h' ((q, PySem.W.listOf #[v1, v2, v3, v4] 0) :: (x, instObj 508 dx) :: (dx, dictOf (stepEs w tk c k sk lm wk room top (.ref q) pc tp) 9) :: (sk, PySem.W.listOf #[v1, v2, v3, v4, .none, .none, .none, .none, .none, .none, .none, .none, .none, .none, .none, .none] n2) :: rest) → Q (.bool true) h' tk') := by
  unfold Spec
  w_top off
  k_fill
  intro p loose mean mg mb dp un gd cn cs a ccd cl outer A₀ base h₀ L m s Q E B F X N T hkd hdp hun hret
  dsimp only at hret
  refine wpAny_call ?_
  k_dflt cell_enter
  repeat' (first
      | (k_unfold; (try dsimp only))
      | (k_end; wrow_close)
      | ((with_reducible show wpAny _ _ (subscriptTail _ _ (Value.ref _) (Value.int _ _)) _ _ _); first | (with_reducible (k_here; kim_at)) | (k_here; kim_at))
      | walk1
      | dsimp only
      | (leave1; walk_say "STEP leave1"; try dsimp only))
  all_goals exact hret _ _ _ ⟨by assumption, by (first | assumption | exact cb_drop (by assumption) (sub_of (by with_reducible (repeat' constructor))))⟩


section
variable {w : World} {news rest : List (Addr × Obj)} {p : Program} {loose : List Str} {mean : ExcName → Option Value} {mg mb : Str → Option Value} {dp un : Nat} {gd : Option (List Code)} {cn : Str} {cs : Scope} {a : Addr} {ccd : Value} {cl : List (Str × Addr)} {outer : List Env} {A₀ : Around} {base h₀ : Heap} {L : Addr} {m : Str → Option Value} {s : Shared} {Q E : Value → Shared → Prop}
theorem no_use {x dx cc k sk lm wk n2 : Nat} {tk : T10} {room top res : Value} {pc : Int} {tp t1 t2 : Tok} {v1 v2 v3 v4 : Value} (B : Below A₀ base outer h₀) (F : Fr h₀ L s.heap m) (X : (Mine.heap w.params).In h₀) (N : News h₀ L s.heap news) (T : Top p loose mean mg mb h₀) (hkd : cs.kind = .function) (hdp : dp + 12 < recursionLimit) (hun : un + 64 * 12 < cLine) (m1 : (x, instObj 508 dx) ∈ news) (m2 : (dx, dictOf (stepEs w tk cc k sk lm wk room top res pc tp) 9) ∈ news) (m3 : (sk, PySem.W.listOf #[v1, v2, v3, v4, .none, .none, .none, .none, .none, .none, .none, .none, .none, .none, .none, .none] n2) ∈ news) (g1 : Menu v1) (g2 : Menu v2) (g3 : Menu v3) (hw : 0 ≤ wrB v1 v2 v3)
    (hret : ∀ h' tk', Fr h₀ L h' m → News h₀ L h' news → Q (.bool false) { s with heap := h', toks := tk' }) :
    wpAny (model PySem.Challenge.rw_rh0164_01.row.prog w) (ktrTop dp un gd cn cs L a ccd cl outer) (call (.ref 449) [.ref x, .int 31 t1, .int 2147467295 t2]) Q E s := by
  refine no_spec w x dx cc k sk lm wk n2 tk room top res pc tp t1 t2 v1 v2 v3 v4 g1 g2 g3 hw news p loose mean mg mb dp un gd cn cs a ccd cl outer A₀ base h₀ L m s Q E B F X (News.add m1 N (News.add m2 N (News.add m3 N N))) T hkd hdp hun ?_
  intro h' tk' ⟨F', N'⟩
  exact hret h' tk' F' (fun p hp => N' p (.tail _ (.tail _ (.tail _ hp))))
theorem go_use {x dx cc k sk lm wk n2 : Nat} {tk : T10} {room top res : Value} {pc : Int} {tp t1 t2 : Tok} {dl : Nat} {tkl : T10} {fl : Value} {xa xb xc : Int} {ta tb tc : Tok} {v4 : Value} (B : Below A₀ base outer h₀) (F : Fr h₀ L s.heap m) (X : (Mine.heap w.params).In h₀) (N : News h₀ L s.heap news) (T : Top p loose mean mg mb h₀) (hkd : cs.kind = .function) (hdp : dp + 12 < recursionLimit) (hun : un + 64 * 12 < cLine) (m1 : (x, instObj 508 dx) ∈ news) (m2 : (dx, dictOf (stepEs w tk cc k sk lm wk room top res pc tp) 9) ∈ news) (m3 : (sk, PySem.W.listOf #[.int xa ta, .int xb tb, .int xc tc, v4, .none, .none, .none, .none, .none, .none, .none, .none, .none, .none, .none, .none] n2) ∈ news) (m4 : (lm, instObj 95 dl) ∈ news) (m5 : (dl, dictOf (limEs w tkl fl) 10) ∈ news) (mi : Minus [dx, sk] news rest) (h0 : -2 ≤ xa) (h1 : xa ≤ 5) (h2 : -2 ≤ xc) (h3 : xc ≤ 5) (h4 : -2 ≤ xb) (h5 : xb ≤ 5) (hp0 : 0 ≤ pc) (hp1 : pc ≤ 100) (hx : dx < x) (hs : x < sk) (o1 : dl < lm) (o2 : lm < dx)
    (hret : ∀ h' tk' t tp', Fr h₀ L h' m → (((if 0 < xc then decide (xa + xc ≤ xb) else decide (xb ≤ xa + xc)) = true → News h₀ L h' ((dx, dictOf (stepEs w tk cc k sk lm wk room top res pc tp') 9) :: (sk, PySem.W.listOf #[.int (xa + xc) t, .int xb tb, .int xc tc, .int (xa + xc) t, .none, .none, .none, .none, .none, .none, .none, .none, .none, .none, .none, .none] n2) :: rest) → Q (.bool true) { s with heap := h', toks := tk' }) ∧ ((if 0 < xc then decide (xa + xc ≤ xb) else decide (xb ≤ xa + xc)) = false → News h₀ L h' ((dx, dictOf (stepEs w tk cc k sk lm wk room top res pc tp') 9) :: (sk, PySem.W.listOf #[.int xa ta, .int xb tb, .int xc tc, v4, .none, .none, .none, .none, .none, .none, .none, .none, .none, .none, .none, .none] n2) :: rest) → Q (.bool true) { s with heap := h', toks := tk' }))) :
    wpAny (model PySem.Challenge.rw_rh0164_01.row.prog w) (ktrTop dp un gd cn cs L a ccd cl outer) (call (.ref 449) [.ref x, .int 31 t1, .int 2147467295 t2]) Q E s := by
  refine go_spec w x dx cc k sk lm dl wk n2 tk tkl room top res fl pc tp t1 t2 xa xb xc ta tb tc v4 h0 h1 h2 h3 h4 h5 hp0 hp1 rest hx hs (fun p hp => mi.off p hp dx (.head _)) (fun p hp => mi.off p hp sk (.tail _ (.head _))) o1 o2 p loose mean mg mb dp un gd cn cs a ccd cl outer A₀ base h₀ L m s Q E B F X (News.add m1 N (News.add m2 N (News.add m3 N (News.add m4 N (News.add m5 N (cb_drop N mi.sub)))))) T hkd hdp hun ?_
  intro h' tk' t tp'
  exact ⟨fun e ok => (hret h' tk' t tp' ok.1).1 e (fun q hq => ok.2 q (.tail _ hq)), fun e ok => (hret h' tk' t tp' ok.1).2 e (fun q hq => ok.2 q (.tail _ hq))⟩
theorem ret4_use {x dx cc k sk lm wk n2 : Nat} {tk : T10} {room top res : Value} {pc : Int} {tp t1 t2 : Tok} {v1 v2 v3 v4 : Value} (B : Below A₀ base outer h₀) (F : Fr h₀ L s.heap m) (X : (Mine.heap w.params).In h₀) (N : News h₀ L s.heap news) (T : Top p loose mean mg mb h₀) (hkd : cs.kind = .function) (hdp : dp + 12 < recursionLimit) (hun : un + 64 * 12 < cLine) (m1 : (x, instObj 508 dx) ∈ news) (m2 : (dx, dictOf (stepEs w tk cc k sk lm wk room top res pc tp) 9) ∈ news) (m3 : (sk, PySem.W.listOf #[v1, v2, v3, v4, .none, .none, .none, .none, .none, .none, .none, .none, .none, .none, .none, .none] n2) ∈ news) (mi : Minus [dx, sk] news rest) (hx : dx < x) (hs : x < sk)
    (hret : ∀ h' tk' (r : Nat), Fr h₀ L h' m → News h₀ L h' ((r, PySem.W.listOf #[v1, v2, v3, v4] 0) :: (dx, dictOf (stepEs w tk cc k sk lm wk room top (.ref r) pc tp) 9) :: (sk, PySem.W.listOf #[v1, v2, v3, v4, .none, .none, .none, .none, .none, .none, .none, .none, .none, .none, .none, .none] n2) :: rest) → Q (.bool true) { s with heap := h', toks := tk' }) :
    wpAny (model PySem.Challenge.rw_rh0164_01.row.prog w) (ktrTop dp un gd cn cs L a ccd cl outer) (call (.ref 449) [.ref x, .int 30 t1, .int 41943070 t2]) Q E s := by
  refine ret4_spec w x dx cc k sk lm wk n2 tk room top res pc tp t1 t2 v1 v2 v3 v4 rest hx hs (fun p hp => mi.off p hp dx (.head _)) (fun p hp => mi.off p hp sk (.tail _ (.head _))) p loose mean mg mb dp un gd cn cs a ccd cl outer A₀ base h₀ L m s Q E B F X (News.add m1 N (News.add m2 N (News.add m3 N (cb_drop N mi.sub)))) T hkd hdp hun ?_
  intro h' tk' r ⟨F', N'⟩
  exact hret h' tk' r F' (fun q hq => N' q ((List.mem_cons.mp hq).elim (fun e => e ▸ .head _) fun y => .tail _ (.tail _ y)))
end


theorem runno_spec (w : World) (x dx cc k sk lm dl wk n2 nc : Nat) (tk tkl : T10) (room top fl : Value) (tp t1 tA tB : Tok) (v1 v2 v3 v4 : Value) (g1 : Menu v1) (g2 : Menu v2) (g3 : Menu v3) (hw : 0 ≤ wrB v1 v2 v3) (rest : List (Addr × Obj)) (hx : dx < x) (hs : x < sk) (hr1 : ∀ p ∈ rest, p.1 ≠ dx) (hr2 : ∀ p ∈ rest, p.1 ≠ sk) (o1 : dl < lm) (o2 : lm < dx) (o3 : cc < dl) :
    Spec 16 w 442 ((x, instObj 508 dx) :: (dx, dictOf (stepEs w tk cc k sk lm wk room top .none 0 tp) 9) :: (sk, PySem.W.listOf #[v1, v2, v3, v4, .none, .none, .none, .none, .none, .none, .none, .none, .none, .none, .none, .none] n2) :: (lm, instObj 95 dl) :: (dl, dictOf (limEs w tkl fl) 10) :: (cc, PySem.W.listOf #[.int 2147467295 tA, .int 41943070 tB] nc) :: rest) [.ref x, .int 3 t1]
      (fun ok Q => ∀ h' tk' (z : Nat) te, ok h' ((z, tup2 (.str (Str.ofString "stopped") 774) (.int 0 te)) :: rest) → Q (.ref z) h' tk') := by
  unfold Spec
  w_top off
  k_fill
  intro p loose mean mg mb dp un gd cn cs a ccd cl outer A₀ base h₀ L m s Q E B F X N T hkd hdp hun hret
  dsimp only at hret
  refine wpAny_call ?_
  k_dflt cell_enter
  repeat' (first
      | (k_unfold; (try dsimp only))
      | (k_end; wrow_close)
      | ((with_reducible show wpAny _ _ (call (Value.ref _) _ _) _ _ _); (first
        | (with_reducible (k_here; (with_reducible show wpAny _ _ (call (Value.ref 449) [_, Value.int 31 _, Value.int 2147467295 _]) _ _ _); k_dflt (refine' no_use ?k1 ?k2 ?k3 ?k4 ?k5 ?k6 ?k7 ?k8 ?m1 ?m2 ?m3 ?g1 ?g2 ?g3 ?hw ?_; (case k1 => k_asm); (case k2 => k_asm); (case k3 => k_asm); (case k4 => k_asm); (case k5 => k_asm); (case k6 => first | exact rfl | assumption); (case k7 => k_room); (case k8 => k_room); (case m1 => k_mem); (case m2 => k_mem); (case m3 => k_mem); (case g1 => with_reducible assumption); (case g2 => with_reducible assumption); (case g3 => with_reducible assumption); (case hw => with_reducible assumption); k_whole); intro h' tk' F' N'; (try k_sweep)))
        | (with_reducible (k_here; (with_reducible show wpAny _ _ (call (Value.ref 449) [_, Value.int 30 _, Value.int 41943070 _]) _ _ _); k_dflt (refine' ret4_use ?k1 ?k2 ?k3 ?k4 ?k5 ?k6 ?k7 ?k8 ?m1 ?m2 ?m3 ?mi ?hx ?hs ?_; (case k1 => k_asm); (case k2 => k_asm); (case k3 => k_asm); (case k4 => k_asm); (case k5 => k_asm); (case k6 => first | exact rfl | assumption); (case k7 => k_room); (case k8 => k_room); (case m1 => k_mem); (case m2 => k_mem); (case m3 => k_mem); (case mi => walk_at "my minus"); (case hx => omega); (case hs => omega); k_whole); intro h' tk' r' F' N'; (try k_sweep)))
        | (with_reducible (k_here; (with_reducible show wpAny _ _ (call (Value.ref 28) _) _ _ _); k_dflt (refine' op_use (31) ?k1 ?k2 ?k3 ?k4 ?k5 ?k6 ?k7 ?k8 ?h0 ?h1 ?hr ?_; (case k1 => k_asm); (case k2 => k_asm); (case k3 => k_asm); (case k4 => k_asm); (case k5 => k_asm); (case k6 => first | exact rfl | assumption); (case k7 => k_room); (case k8 => k_room); (case h0 => decide); (case h1 => decide); (case hr => decide +kernel); k_whole); intro h' tk' t' F' N'; (try k_sweep)))
        | (with_reducible (k_here; (with_reducible show wpAny _ _ (call (Value.ref 28) _) _ _ _); k_dflt (refine' op_use (30) ?k1 ?k2 ?k3 ?k4 ?k5 ?k6 ?k7 ?k8 ?h0 ?h1 ?hr ?_; (case k1 => k_asm); (case k2 => k_asm); (case k3 => k_asm); (case k4 => k_asm); (case k5 => k_asm); (case k6 => first | exact rfl | assumption); (case k7 => k_room); (case k8 => k_room); (case h0 => decide); (case h1 => decide); (case hr => decide +kernel); k_whole); intro h' tk' t' F' N'; (try k_sweep)))))
      | ((with_reducible show wpAny _ _ (exec (Stmt.For ..) _) _ _ _); first | (with_reducible (k_here; (rename Fr _ _ _ _ => lF'); (with_unfolding_all refine' For_invVF lF' ?k1 ?k2 ?_; (case k1 => exact rfl); (case k2 => exact rfl); k_whole))) | (k_here; (rename Fr _ _ _ _ => lF'); (with_unfolding_all refine' For_invVF lF' ?k1 ?k2 ?_; (case k1 => exact rfl); (case k2 => exact rfl); k_whole)))
      | (with_reducible ((with_reducible show wpAny _ _ (pyIter (Value.ref _)) (fun it s₂ => LoopAtV _ _ _ _ _ _ _ _ _ it s₂) _ _); (rename IsRange _ _ _ _ _ _ _ _ => rgX); (rename Fr _ _ _ _ => lF'); (rename News _ _ _ _ => lN'); (with_unfolding_all refine iter_rangeUnr (n := 3) (by rfl) rgX (by first | decide | rfl) (by first | decide | rfl) lF' lN' ?_); clear lF' lN'; intro i' l1; (try k_lt l1)))
      | ((with_reducible show UnrEnd ..); first | (with_reducible (refine' unrEnd_minus ?k1 ?k2 ?k3 ?k4 ?_; (case k1 => k_asm); (case k2 => k_asm); (case k3 => k_mem); (case k4 => walk_at "my minus"); (try k_sweep))) | (refine' unrEnd_minus ?k1 ?k2 ?k3 ?k4 ?_; (case k1 => k_asm); (case k2 => k_asm); (case k3 => k_mem); (case k4 => walk_at "my minus"); (try k_sweep)))
      | ((with_reducible show wpAny _ _ (subscriptTail _ _ (Value.ref _) (Value.int _ _)) _ _ _); first | (with_reducible (k_here; kim_at)) | (k_here; kim_at))
      | walk1
      | dsimp only
      | (leave1; walk_say "STEP leave1"; try dsimp only)
      | fail "no step")
  all_goals exact hret _ _ _ _ ⟨by assumption, by (first | assumption | exact cb_drop (by assumption) (sub_of (by with_reducible (repeat' constructor))))⟩


theorem rungo_spec (w : World) (x dx cc k sk lm dl wk n2 nc : Nat) (tk tkl : T10) (room top fl : Value) (tp t1 tA tB : Tok) (xa xb xc : Int) (ta tb tc : Tok) (v4 : Value) (h0 : -2 ≤ xa) (h1 : xa ≤ 5) (h2 : -2 ≤ xc) (h3 : xc ≤ 5) (h4 : -2 ≤ xb) (h5 : xb ≤ 5) (rest : List (Addr × Obj)) (hx : dx < x) (hs : x < sk) (hr1 : ∀ p ∈ rest, p.1 ≠ dx) (hr2 : ∀ p ∈ rest, p.1 ≠ sk) (o1 : dl < lm) (o2 : lm < dx) (o3 : cc < dl) :
    Spec 16 w 442 ((x, instObj 508 dx) :: (dx, dictOf (stepEs w tk cc k sk lm wk room top .none 0 tp) 9) :: (sk, PySem.W.listOf #[.int xa ta, .int xb tb, .int xc tc, v4, .none, .none, .none, .none, .none, .none, .none, .none, .none, .none, .none, .none] n2) :: (lm, instObj 95 dl) :: (dl, dictOf (limEs w tkl fl) 10) :: (cc, PySem.W.listOf #[.int 2147467295 tA, .int 41943070 tB] nc) :: rest) [.ref x, .int 3 t1]
      (fun ok Q => ∀ h' tk' (z r : Nat) t, ((if 0 < xc then decide (xa + xc ≤ xb) else decide (xb ≤ xa + xc)) = true → ok h' ((z, tup2 (.str (Str.ofString "back") 772) (.ref r)) :: (r, PySem.W.listOf #[.int (xa + xc) t, .int xb tb, .int xc tc, .int (xa + xc) t] 0) :: rest) → Q (.ref z) h' tk') ∧ ((if 0 < xc then decide (xa + xc ≤ xb) else decide (xb ≤ xa + xc)) = false → ok h' ((z, tup2 (.str (Str.ofString "back") 772) (.ref r)) :: (r, PySem.W.listOf #[.int xa ta, .int xb tb, .int xc tc, v4] 0) :: rest) → Q (.ref z) h' tk')) := by
  unfold Spec
  w_top off
  k_fill
  intro p loose mean mg mb dp un gd cn cs a ccd cl outer A₀ base h₀ L m s Q E B F X N T hkd hdp hun hret
  dsimp only at hret
  refine wpAny_call ?_
  k_dflt cell_enter
  repeat' (first
      | (k_unfold; (try dsimp only))
      | (k_end; wrow_close)
      | ((with_reducible show wpAny _ _ (call (Value.ref _) _ _) _ _ _); (first
        | (with_reducible (k_here; (with_reducible show wpAny _ _ (call (Value.ref 449) [_, Value.int 31 _, Value.int 2147467295 _]) _ _ _); k_dflt (refine' go_use ?k1 ?k2 ?k3 ?k4 ?k5 ?k6 ?k7 ?k8 ?m1 ?m2 ?m3 ?m4 ?m5 ?mi ?h0 ?h1 ?h2 ?h3 ?h4 ?h5 ?hp0 ?hp1 ?hx ?hs ?o1 ?o2 ?_; (case k1 => k_asm); (case k2 => k_asm); (case k3 => k_asm); (case k4 => k_asm); (case k5 => k_asm); (case k6 => first | exact rfl | assumption); (case k7 => k_room); (case k8 => k_room); (case m1 => k_mem); (case m2 => k_mem); (case m3 => k_mem); (case m4 => k_mem); (case m5 => k_mem); (case mi => walk_at "my minus"); (case h0 => omega); (case h1 => omega); (case h2 => omega); (case h3 => omega); (case h4 => omega); (case h5 => omega); (case hp0 => omega); (case hp1 => omega); (case hx => omega); (case hs => omega); (case o1 => omega); (case o2 => omega); k_whole); intro h' tk' t' tp' F'; (refine ⟨?_, ?_⟩) <;> (intro e' N'; (try k_sweep))))
        | (with_reducible (k_here; (with_reducible show wpAny _ _ (call (Value.ref 449) [_, Value.int 30 _, Value.int 41943070 _]) _ _ _); k_dflt (refine' ret4_use ?k1 ?k2 ?k3 ?k4 ?k5 ?k6 ?k7 ?k8 ?m1 ?m2 ?m3 ?mi ?hx ?hs ?_; (case k1 => k_asm); (case k2 => k_asm); (case k3 => k_asm); (case k4 => k_asm); (case k5 => k_asm); (case k6 => first | exact rfl | assumption); (case k7 => k_room); (case k8 => k_room); (case m1 => k_mem); (case m2 => k_mem); (case m3 => k_mem); (case mi => walk_at "my minus"); (case hx => omega); (case hs => omega); k_whole); intro h' tk' r' F' N'; (try k_sweep)))
        | (with_reducible (k_here; (with_reducible show wpAny _ _ (call (Value.ref 28) _) _ _ _); k_dflt (refine' op_use (31) ?k1 ?k2 ?k3 ?k4 ?k5 ?k6 ?k7 ?k8 ?h0 ?h1 ?hr ?_; (case k1 => k_asm); (case k2 => k_asm); (case k3 => k_asm); (case k4 => k_asm); (case k5 => k_asm); (case k6 => first | exact rfl | assumption); (case k7 => k_room); (case k8 => k_room); (case h0 => decide); (case h1 => decide); (case hr => decide +kernel); k_whole); intro h' tk' t' F' N'; (try k_sweep)))
        | (with_reducible (k_here; (with_reducible show wpAny _ _ (call (Value.ref 28) _) _ _ _); k_dflt (refine' op_use (30) ?k1 ?k2 ?k3 ?k4 ?k5 ?k6 ?k7 ?k8 ?h0 ?h1 ?hr ?_; (case k1 => k_asm); (case k2 => k_asm); (case k3 => k_asm); (case k4 => k_asm); (case k5 => k_asm); (case k6 => first | exact rfl | assumption); (case k7 => k_room); (case k8 => k_room); (case h0 => decide); (case h1 => decide); (case hr => decide +kernel); k_whole); intro h' tk' t' F' N'; (try k_sweep)))))
      | ((with_reducible show wpAny _ _ (exec (Stmt.For ..) _) _ _ _); first | (with_reducible (k_here; (rename Fr _ _ _ _ => lF'); (with_unfolding_all refine' For_invVF lF' ?k1 ?k2 ?_; (case k1 => exact rfl); (case k2 => exact rfl); k_whole))) | (k_here; (rename Fr _ _ _ _ => lF'); (with_unfolding_all refine' For_invVF lF' ?k1 ?k2 ?_; (case k1 => exact rfl); (case k2 => exact rfl); k_whole)))
      | (with_reducible ((with_reducible show wpAny _ _ (pyIter (Value.ref _)) (fun it s₂ => LoopAtV _ _ _ _ _ _ _ _ _ it s₂) _ _); (rename IsRange _ _ _ _ _ _ _ _ => rgX); (rename Fr _ _ _ _ => lF'); (rename News _ _ _ _ => lN'); (with_unfolding_all refine iter_rangeUnr (n := 3) (by rfl) rgX (by first | decide | rfl) (by first | decide | rfl) lF' lN' ?_); clear lF' lN'; intro i' l1; (try k_lt l1)))
      | ((with_reducible show UnrEnd ..); first | (with_reducible (refine' unrEnd_minus ?k1 ?k2 ?k3 ?k4 ?_; (case k1 => k_asm); (case k2 => k_asm); (case k3 => k_mem); (case k4 => walk_at "my minus"); (try k_sweep))) | (refine' unrEnd_minus ?k1 ?k2 ?k3 ?k4 ?_; (case k1 => k_asm); (case k2 => k_asm); (case k3 => k_mem); (case k4 => walk_at "my minus"); (try k_sweep)))
      | ((with_reducible show wpAny _ _ (subscriptTail _ _ (Value.ref _) (Value.int _ _)) _ _ _); first | (with_reducible (k_here; kim_at)) | (k_here; kim_at))
      | walk1
      | dsimp only
      | (leave1; walk_say "STEP leave1"; try dsimp only)
      | fail "no step")
  · exact (hret _ _ _ _ _).1 (by assumption) ⟨by assumption, by (first | assumption | exact cb_drop (by assumption) (sub_of (by with_reducible (repeat' constructor))))⟩
  · exact (hret _ _ _ _ 0).2 (by assumption) ⟨by assumption, by (first | assumption | exact cb_drop (by assumption) (sub_of (by with_reducible (repeat' constructor))))⟩


theorem stepper4_spec (w : World) (c k rg lm wk : Nat) (v1 v2 v3 v4 : Value) (n2 : Nat) (rest : List (Addr × Obj)) :
    SpecT 4 w ((rg, PySem.W.listOf #[v1, v2, v3, v4] n2) :: rest) (call (.ref 508) [.ref c, .ref k, .ref rg, .ref lm, .ref wk])
      (fun ok Q => ∀ h' tk' x dx sk (tk : T10) (tr tt tp : Tok), rg < dx → (∀ p ∈ rest, p.1 < dx) → dx < x → x < sk → ok h' ((sk, PySem.W.listOf #[v1, v2, v3, v4, .none, .none, .none, .none, .none, .none, .none, .none, .none, .none, .none, .none] 0) :: (x, instObj 508 dx) :: (dx, dictOf (stepEs w tk c k sk lm wk (.int 4 tr) (.int 4 tt) .none 0 tp) 9) :: (rg, PySem.W.listOf #[v1, v2, v3, v4] n2) :: rest) → Q (.ref x) h' tk') := by
  unfold SpecT
  w_top off
  k_fill
  intro p loose mean mg mb dp un gd cn cs a ccd cl outer A₀ base h₀ L m s Q E B F X N T hkd hdp hun hret
  dsimp only at hret
  obtain ⟨ck0, ck1, ck2, ck3, ck4⟩ := cs
  dsimp only at hkd
  subst hkd
  repeat' (first
      | (k_unfold; (try dsimp only))
      | (k_end; wrow_close)
      | ((with_reducible show wpAny _ _ (binaryOp Operator.Mult (Value.ref _) (Value.int _ _)) _ _ _); first | (with_reducible (k_here; k_dflt (refine' KMa.mul ?F ?N ?l ?lo ?hi ?z ?e ?_; (case F => k_asm); (case N => k_asm); (case l => is_list); (case lo => decide); (case hi => decide); (case z => (simp only [List.length_cons, List.length_nil]; decide)); (case e => (simp only [Int.reduceToNat, List.replicate_succ, List.replicate_zero, List.flatten_cons, List.flatten_nil, List.cons_append, List.nil_append, List.append_nil]; first | done | exact rfl)); k_whole); intro D' h' F' N' l1; (try k_lt l1); (try k_sweep))) | (k_here; k_dflt (refine' KMa.mul ?F ?N ?l ?lo ?hi ?z ?e ?_; (case F => k_asm); (case N => k_asm); (case l => is_list); (case lo => decide); (case hi => decide); (case z => (simp only [List.length_cons, List.length_nil]; decide)); (case e => (simp only [Int.reduceToNat, List.replicate_succ, List.replicate_zero, List.flatten_cons, List.flatten_nil, List.cons_append, List.nil_append, List.append_nil]; first | done | exact rfl)); k_whole); intro D' h' F' N' l1; (try k_lt l1); (try k_sweep)))
      | ((with_reducible show wpAny _ _ (subscriptTail _ _ (Value.ref _) (Value.int _ _)) _ _ _); first | (with_reducible (k_here; kim_at)) | (k_here; kim_at))
      | walk1
      | dsimp only
      | (leave1; walk_say "STEP leave1"; try dsimp only)
      | fail "no step")
  all_goals (refine' hret _ _ _ ?dx ?sk ⟨?f0, ?f1, ?f2, ?f3, ?f4, ?f5, ?f6, ?f7, ?f8, 0⟩ ?tr ?tt ?tp ?h1 ?h2 ?h3 ?h4 ⟨?f, ?n⟩; (case f => assumption); (case n => ((refine' cb_drop ?nn ?ss); (case nn => assumption); (case ss => ((repeat (refine List.forall_mem_cons.mpr ⟨?_, ?_⟩; k_mem)); exact sub_of (by repeat' constructor))))); (case h1 => omega); (case h2 => exact allLt_all (by tbn_find)); (case h3 => omega); (case h4 => omega))
section
variable {w : World} {news rest : List (Addr × Obj)} {p : Program} {loose : List Str} {mean : ExcName → Option Value} {mg mb : Str → Option Value} {dp un : Nat} {gd : Option (List Code)} {cn : Str} {cs : Scope} {a : Addr} {ccd : Value} {cl : List (Str × Addr)} {outer : List Env} {A₀ : Around} {base h₀ : Heap} {L : Addr} {m : Str → Option Value} {s : Shared} {Q E : Value → Shared → Prop}
theorem stepper4_use {c k rg lm wk : Nat} {v1 v2 v3 v4 : Value} {n2 : Nat} (B : Below A₀ base outer h₀) (F : Fr h₀ L s.heap m) (X : (Mine.heap w.params).In h₀) (N : News h₀ L s.heap news) (T : Top p loose mean mg mb h₀) (hkd : cs.kind = .function) (hdp : dp + 4 < recursionLimit) (hun : un + 64 * 4 < cLine) (m1 : (rg, PySem.W.listOf #[v1, v2, v3, v4] n2) ∈ news)
    (hret : ∀ h' tk' (x dx sk : Nat) (tk : T10) (tr tt tp : Tok), (∀ p ∈ news, p.1 < dx) → dx < x → x < sk → Fr h₀ L h' m → News h₀ L h' ((sk, PySem.W.listOf #[v1, v2, v3, v4, .none, .none, .none, .none, .none, .none, .none, .none, .none, .none, .none, .none] 0) :: (x, instObj 508 dx) :: (dx, dictOf (stepEs w tk c k sk lm wk (.int 4 tr) (.int 4 tt) .none 0 tp) 9) :: news) → Q (.ref x) { s with heap := h', toks := tk' }) :
    wpAny (model PySem.Challenge.rw_rh0164_01.row.prog w) (ktrTop dp un gd cn cs L a ccd cl outer) (call (.ref 508) [.ref c, .ref k, .ref rg, .ref lm, .ref wk]) Q E s := by
  refine stepper4_spec w c k rg lm wk v1 v2 v3 v4 n2 news p loose mean mg mb dp un gd cn cs a ccd cl outer A₀ base h₀ L m s Q E B F X (News.cons2 N m1 N) T hkd hdp hun ?_
  intro h' tk' x dx sk tk tr tt tp _ l1 l2 l3 ⟨F', N'⟩
  exact hret h' tk' x dx sk tk tr tt tp l1 l2 l3 F' (cb_drop N' (fun p hp => by
    simp only [List.mem_cons] at hp ⊢
    rcases hp with h | h | h | h <;> simp [h]))
end


theorem cond_t {xa xb xc : Int} (h : (if 0 < xc then decide (xa + xc ≤ xb) else decide (xb ≤ xa + xc)) = true) : (0 < xc ∧ xa + xc ≤ xb ∨ ¬ 0 < xc ∧ xb ≤ xa + xc) := by
  split at h <;> simp at h <;> omega
theorem cond_f {xa xb xc : Int} (h : (if 0 < xc then decide (xa + xc ≤ xb) else decide (xb ≤ xa + xc)) = false) : (0 < xc ∧ ¬ xa + xc ≤ xb ∨ ¬ 0 < xc ∧ ¬ xb ≤ xa + xc) := by
  split at h <;> simp at h <;> omega
def LoopOut (v1 v2 v3 v4 A B : Value) (r4 : Addr × Obj) : Prop :=
  (0 ≤ wrB v1 v2 v3 ∧ A = .str (Str.ofString "stopped") 774 ∧ ∃ te, B = .int 0 te) ∨
  (∃ xa ta xb tb xc tc, v1 = .int xa ta ∧ v2 = .int xb tb ∧ v3 = .int xc tc ∧ -2 ≤ xa ∧ xa ≤ 5 ∧ -2 ≤ xb ∧ xb ≤ 5 ∧ -2 ≤ xc ∧ xc ≤ 5 ∧ A = .str (Str.ofString "back") 772 ∧ ∃ (r : Addr) (t : Tok), B = .ref r ∧ (((0 < xc ∧ xa + xc ≤ xb ∨ ¬ 0 < xc ∧ xb ≤ xa + xc) ∧ r4 = (r, PySem.W.listOf #[.int (xa + xc) t, .int xb tb, .int xc tc, .int (xa + xc) t] 0)) ∨ ((0 < xc ∧ ¬ xa + xc ≤ xb ∨ ¬ 0 < xc ∧ ¬ xb ≤ xa + xc) ∧ r4 = (r, PySem.W.listOf #[.int xa ta, .int xb tb, .int xc tc, v4] 0))))
theorem wr_cases {v1 v2 v3 : Value} (g1 : Menu v1) (g2 : Menu v2) (g3 : Menu v3) (h : 0 ≤ wrB v1 v2 v3) : isN v1 = false ∨ (∃ i t, v1 = .int i t ∧ -2 ≤ i ∧ i ≤ 5) ∧ isN v2 = false ∨ (∃ i t, v1 = .int i t ∧ -2 ≤ i ∧ i ≤ 5) ∧ (∃ i t, v2 = .int i t ∧ -2 ≤ i ∧ i ≤ 5) ∧ isN v3 = false := by
  cases e1 : isN v1 with
  | false => exact Or.inl rfl
  | true =>
    cases e2 : isN v2 with
    | false => exact Or.inr (Or.inl ⟨g1.int e1, rfl⟩)
    | true =>
      cases e3 : isN v3 with
      | false => exact Or.inr (Or.inr ⟨g1.int e1, g2.int e2, rfl⟩)
      | true => exact absurd h (by unfold wrB; rw [e1, e2, e3]; decide)
section
variable {w : World} {news rest : List (Addr × Obj)} {p : Program} {loose : List Str} {mean : ExcName → Option Value} {mg mb : Str → Option Value} {dp un : Nat} {gd : Option (List Code)} {cn : Str} {cs : Scope} {a : Addr} {ccd : Value} {cl : List (Str × Addr)} {outer : List Env} {A₀ : Around} {base h₀ : Heap} {L : Addr} {m : Str → Option Value} {s : Shared} {Q E : Value → Shared → Prop}
theorem lrun_use {x dx cc k sk lm dl wk n2 nc vl nv rp sl : Nat} {tk tkl : T10} {room top fl : Value} {tp t1 tA tB : Tok} {wA wB : Int} {v1 v2 v3 v4 : Value} {oS oT : Obj} {tR : Int} {tkR : Tok} {nR : Nat} (B : Below A₀ base outer h₀) (F : Fr h₀ L s.heap m) (X : (Mine.heap w.params).In h₀) (N : News h₀ L s.heap news) (T : Top p loose mean mg mb h₀) (hkd : cs.kind = .function) (hdp : dp + 16 < recursionLimit) (hun : un + 64 * 16 < cLine)
    (m1 : (x, instObj 508 dx) ∈ news) (m2 : (dx, dictOf (stepEs w tk cc k sk lm wk room top .none 0 tp) 9) ∈ news) (m3 : (sk, PySem.W.listOf #[v1, v2, v3, v4, .none, .none, .none, .none, .none, .none, .none, .none, .none, .none, .none, .none] n2) ∈ news) (m4 : (lm, instObj 95 dl) ∈ news) (m5 : (dl, dictOf (limEs w tkl fl) 10) ∈ news) (m6 : (cc, PySem.W.listOf #[.int wA tA, .int wB tB] nc) ∈ news) (eA : wA = 2147467295) (eB : wB = 41943070) (m7 : (rp, ropeAt sl tR tkR nR) ∈ news) (m8 : (sl, oS) ∈ news) (m9 : (vl, PySem.W.listOf #[v1, v2, v3] nv) ∈ news) (m10 : (528, oT) ∈ news) (g1 : Menu v1) (g2 : Menu v2) (g3 : Menu v3) (hx : dx < x) (hs : x < sk) (o1 : dl < lm) (o2 : lm < dx) (o3 : cc < dl) (q1 : rp < dx) (q2 : sl < dx) (q3 : vl < dx) (q4 : @LT.lt Nat _ 528 dx)
    (hret : ∀ h' tk' (z : Nat) (VA VB : Value) (r4 : Nat) (o4 : Obj), LoopOut v1 v2 v3 v4 VA VB (r4, o4) → Fr h₀ L h' m → News h₀ L h' ((z, tup2 VA VB) :: (r4, o4) :: (rp, ropeAt sl tR tkR nR) :: (sl, oS) :: (vl, PySem.W.listOf #[v1, v2, v3] nv) :: (528, oT) :: []) → Q (.ref z) { s with heap := h', toks := tk' }) :
    wpAny (model PySem.Challenge.rw_rh0164_01.row.prog w) (ktrTop dp un gd cn cs L a ccd cl outer) (call (.ref 442) [.ref x, .int 3 t1]) Q E s := by
  subst eA eB
  have hs0 : ∀ p ∈ (rp, ropeAt sl tR tkR nR) :: (sl, oS) :: (vl, PySem.W.listOf #[v1, v2, v3] nv) :: (528, oT) :: [], p.1 < dx := by
    intro p hp
    simp only [List.mem_cons, List.not_mem_nil, or_false] at hp
    rcases hp with rfl | rfl | rfl | rfl
    · exact q1
    · exact q2
    · exact q3
    · exact q4
  have hN : News h₀ L s.heap ((rp, ropeAt sl tR tkR nR) :: (sl, oS) :: (vl, PySem.W.listOf #[v1, v2, v3] nv) :: (528, oT) :: []) := News.add m7 N (News.add m8 N (News.add m9 N (News.add m10 N (fun _ hp => (nomatch hp)))))
  have NN := fun (l : List (Addr × Obj)) (hl : News h₀ L s.heap l) => News.add m1 N (News.add m2 N (News.add m3 N (News.add m4 N (News.add m5 N (News.add m6 N hl)))))
  have ha : ∀ p ∈ (rp, ropeAt sl tR tkR nR) :: (sl, oS) :: (vl, PySem.W.listOf #[v1, v2, v3] nv) :: (528, oT) :: [], p.1 ≠ dx := fun p hp => Nat.ne_of_lt (hs0 p hp)
  have hb : ∀ p ∈ (rp, ropeAt sl tR tkR nR) :: (sl, oS) :: (vl, PySem.W.listOf #[v1, v2, v3] nv) :: (528, oT) :: [], p.1 ≠ sk := fun p hp => Nat.ne_of_lt (Nat.lt_trans (Nat.lt_trans (hs0 p hp) hx) hs)
  by_cases hw : 0 ≤ wrB v1 v2 v3
  · refine runno_spec w x dx cc k sk lm dl wk n2 nc tk tkl room top fl tp t1 tA tB v1 v2 v3 v4 g1 g2 g3 hw ((rp, ropeAt sl tR tkR nR) :: (sl, oS) :: (vl, PySem.W.listOf #[v1, v2, v3] nv) :: (528, oT) :: []) hx hs ha hb o1 o2 o3 p loose mean mg mb dp un gd cn cs a ccd cl outer A₀ base h₀ L m s Q E B F X (NN _ hN) T hkd hdp hun ?_
    intro h' tk' z te ⟨F', N'⟩
    exact hret h' tk' z _ _ z (tup2 (.str (Str.ofString "stopped") 774) (.int 0 te)) (Or.inl ⟨hw, rfl, te, rfl⟩) F' (News.add (N := N') (hp := .head _) (hl := News.add (N := N') (hp := .head _) (hl := fun q hq => N' q (.tail _ hq))))
  · have e1 : isN v1 = true := by
      cases e : isN v1 with
      | true => rfl
      | false => exact absurd (by unfold wrB; rw [e]; exact (by decide : (0 : Int) ≤ 0)) hw
    have e2 : isN v2 = true := by
      cases e : isN v2 with
      | true => rfl
      | false => exact absurd (by unfold wrB; rw [e1, e]; exact (by decide : (0 : Int) ≤ 1)) hw
    have e3 : isN v3 = true := by
      cases e : isN v3 with
      | true => rfl
      | false => exact absurd (by unfold wrB; rw [e1, e2, e]; exact (by decide : (0 : Int) ≤ 2)) hw
    obtain ⟨xa, ta, rfl, a1, a2⟩ := g1.int e1
    obtain ⟨xb, tb, rfl, b1, b2⟩ := g2.int e2
    obtain ⟨xc, tc, rfl, c1, c2⟩ := g3.int e3
    refine rungo_spec w x dx cc k sk lm dl wk n2 nc tk tkl room top fl tp t1 tA tB xa xb xc ta tb tc v4 a1 a2 c1 c2 b1 b2 _ hx hs ha hb o1 o2 o3 p loose mean mg mb dp un gd cn cs a ccd cl outer A₀ base h₀ L m s Q E B F X (NN _ hN) T hkd hdp hun ?_
    intro h' tk' z r t
    exact ⟨fun e ok => hret h' tk' z _ _ r _ (Or.inr ⟨xa, ta, xb, tb, xc, tc, rfl, rfl, rfl, a1, a2, b1, b2, c1, c2, rfl, r, t, rfl, Or.inl ⟨cond_t e, rfl⟩⟩) ok.1 ok.2, fun e ok => hret h' tk' z _ _ r _ (Or.inr ⟨xa, ta, xb, tb, xc, tc, rfl, rfl, rfl, a1, a2, b1, b2, c1, c2, rfl, r, t, rfl, Or.inr ⟨cond_f e, rfl⟩⟩) ok.1 ok.2⟩
end


theorem hf_of {iw f blk : Int} (h : (iw = 1 ∧ f = 0) ∨ (iw ≠ 1 ∧ f = blk)) (h0 : 0 ≤ iw) (h1 : iw < 2) : (iw = 1 ∧ f = 0) ∨ (iw = 0 ∧ f = blk) := by omega
section
variable {prog : Program} {w : World} {A : Around} {E : Value → Shared → Prop} {s : Shared} {Q : Value → Shared → Prop} {h₀ : Heap} {L : Addr} {news : List (Addr × Obj)} {nb many mv iw su : Int} {u0 : Tok} {VA VB : Value} {zs xs : List (Addr × Obj)} {z e : Addr}
theorem told_stop1 {t u : Tok} {m2 : Int} (RO : RunOut nb many mv iw su u0 VA VB zs xs) (N : News h₀ L s.heap news) (hu : A.in1.units < cLine) (h1 : 1 ≤ nb) (h2 : nb ≤ many) (mz : (z, tup2 VA VB) ∈ news) (me : (e, tup2 (.str (Str.ofString "stopped") t) (.int m2 u)) ∈ news) (hm : m2 = mv) (h : (zs.length : Int) = nb → Q (.bool false) s) : wpAny (model prog w) A (compareOp .NotEq (.ref z) (.ref e)) Q E s := by
  rcases RO with ⟨_, _, b, rfl, te, rfl⟩ | ⟨a, _⟩ | ⟨a, _⟩
  · exact ne_stop N hu mz me hm.symm (h b)
  · exact absurd ⟨h1, h2⟩ a
  · exact absurd ⟨h1, h2⟩ a
theorem told_stop2 {t u : Tok} {m2 : Int} (RO : RunOut nb many mv iw su u0 VA VB zs xs) (N : News h₀ L s.heap news) (hu : A.in1.units < cLine) (hn : ¬ (1 ≤ nb ∧ nb ≤ many)) (hs : su = 1) (mz : (z, tup2 VA VB) ∈ news) (me : (e, tup2 (.str (Str.ofString "stopped") t) (.int m2 u)) ∈ news) (hm : m2 = mv + 1 + iw) (h : (zs.length : Int) = many → Q (.bool false) s) : wpAny (model prog w) A (compareOp .NotEq (.ref z) (.ref e)) Q E s := by
  rcases RO with ⟨a, b, _⟩ | ⟨a, b, c, rfl, te, rfl⟩ | ⟨a, b, c, _⟩
  · exact absurd ⟨a, b⟩ hn
  · exact ne_stop N hu mz me hm.symm (h b)
  · omega
theorem told_back {t u : Tok} {r' n' : Nat} (RO : RunOut nb many mv iw su u0 VA VB zs xs) (N : News h₀ L s.heap news) (hu : A.in1.in1.units < cLine) (hn : ¬ (1 ≤ nb ∧ nb ≤ many)) (hs : su = 0) (hx : ∀ p ∈ xs, p ∈ news) (mz : (z, tup2 VA VB) ∈ news) (me : (e, tup2 (.str (Str.ofString "back") t) (.ref r')) ∈ news) (mr : (r', PySem.W.listOf #[.bytes #[116] u] n') ∈ news) (h : (zs.length : Int) = many → Q (.bool false) s) : wpAny (model prog w) A (compareOp .NotEq (.ref z) (.ref e)) Q E s := by
  rcases RO with ⟨a, b, _⟩ | ⟨a, b, c, _⟩ | ⟨a, b, c, rfl, r, rfl, d⟩
  · exact absurd ⟨a, b⟩ hn
  · omega
  · exact ne_back N hu mz me (hx _ d) mr (h b)
variable {a : Int} {vs ds : List Value} {arr arr2 : Array Value} {q d : Addr} {nq nd : Nat} {x : Array UInt8} {u1 : Tok}
theorem due_ne (N : News h₀ L s.heap news) (hu : A.in1.in1.units < cLine) (e : arr.toList = zs.map (fun p => Value.ref p.1)) (hA : Asked (.bytes x u1) a vs zs) (hz : ∀ p ∈ zs, p ∈ news)
    (mq : (q, PySem.W.listOf arr nq) ∈ news) (md : (d, PySem.W.listOf arr2 nd) ∈ news) (hD : Due s.heap x a vs arr2.toList) (hl : zs.length = arr2.size) (h : Q (.bool false) s) : wpAny (model prog w) A (compareOp .NotEq (.ref q) (.ref d)) Q E s :=
  ne_asked (ds := arr2.toList) N hu e hA hz hD mq md (by simpa using hl) h
theorem due_all {o : Obj} (N : News h₀ L s.heap news) (hu : A.in1.in1.units < cLine) (e : arr.toList = zs.map (fun p => Value.ref p.1)) (hA : Asked (.bytes x u1) a vs zs) (hz : ∀ p ∈ zs, p ∈ news)
    (mq : (q, PySem.W.listOf arr nq) ∈ news) (md : (d, o) ∈ news) (ho : o = ⟨.type "list", none, .seq (List.toArray ds) nd, #[]⟩) (hD : Due s.heap x a vs ds) (hl : (zs.length : Int) = many) (hk : (ds.length : Int) = many) (h : Q (.bool false) s) : wpAny (model prog w) A (compareOp .NotEq (.ref q) (.ref d)) Q E s := by
  subst ho
  exact due_ne (arr2 := List.toArray ds) N hu e hA hz mq md (by simpa using hD) (by simp; omega) h
theorem due_take {o : Obj} (N : News h₀ L s.heap news) (hu : A.in1.in1.units < cLine) (e : arr.toList = zs.map (fun p => Value.ref p.1)) (hA : Asked (.bytes x u1) a vs zs) (hz : ∀ p ∈ zs, p ∈ news)
    (mq : (q, PySem.W.listOf arr nq) ∈ news) (md : (d, o) ∈ news) (ho : o = ⟨.type "list", none, .seq (slicePick (List.toArray ds) none (some nb) none) nd, #[]⟩) (hD : Due s.heap x a vs ds) (hl : (zs.length : Int) = nb) (h1 : 1 ≤ nb) (hk : nb ≤ (ds.length : Int)) (h : Q (.bool false) s) : wpAny (model prog w) A (compareOp .NotEq (.ref q) (.ref d)) Q E s := by
  subst ho
  obtain ⟨k, rfl⟩ : ∃ k : Nat, nb = (k : Int) := ⟨nb.toNat, by omega⟩
  have ek : k ≤ (List.toArray ds).size := by simp; omega
  rw [slicePick_upto _ k ek] at md
  exact due_ne (arr2 := (ds.take k).toArray) N hu e hA hz mq (by simpa using md) (by simpa using hD.take k) (by simp; simp at ek; omega) h
theorem due_cons {v : Value} {b : Int} {t k : Tok} {p : Addr} (N : News h₀ L s.heap news) (m : (p, ⟨.type "tuple", none, .seq #[.bytes x t, .int b k, v], #[]⟩) ∈ news) (e : b = a + 1) (r : Due s.heap x (a + 1) vs ds) : Due s.heap x a (v :: vs) (.ref p :: ds) := .cons (isTuple_of N m) e r
end


section
variable {prog : Program} {w : World} {A : Around} {E : Value → Shared → Prop} {s : Shared} {Q : Value → Shared → Prop} {h₀ : Heap} {L : Addr} {news : List (Addr × Obj)}
open PySem.SeqAt in
theorem ne_len {a b : Addr} {xs ys : List Value} {n m : Nat} (N : News h₀ L s.heap news) (hu : A.units < cLine) (ma : (a, (⟨.type "list", none, .seq (List.toArray xs) n, #[]⟩ : Obj)) ∈ news) (mb : (b, (⟨.type "list", none, .seq (List.toArray ys) m, #[]⟩ : Obj)) ∈ news) (hl : (xs.length != ys.length) = true) (h : Q (.bool true) s) : wpAny (model prog w) A (compareOp .NotEq (.ref a) (.ref b)) Q E s :=
  RcNeAt.lists_lengths ⟨_, (N _ ma).1, rfl, n, rfl⟩ ⟨_, (N _ mb).1, rfl, m, rfl⟩ (by simpa using hl) hu prog w E Q h
open PySem.SeqAt in
theorem ne_nils {a b : Addr} {n m : Nat} (N : News h₀ L s.heap news) (hu : A.units < cLine) (ma : (a, (⟨.type "list", none, .seq (List.toArray []) n, #[]⟩ : Obj)) ∈ news) (mb : (b, (⟨.type "list", none, .seq (List.toArray []) m, #[]⟩ : Obj)) ∈ news) (h : Q (.bool false) s) : wpAny (model prog w) A (compareOp .NotEq (.ref a) (.ref b)) Q E s :=
  neAt_list (xs := []) (ys := []) ⟨_, (N _ ma).1, rfl, n, rfl⟩ ⟨_, (N _ mb).1, rfl, m, rfl⟩ hu rfl (fun j h1 _ => absurd h1 (by simp)) prog w E Q h
open PySem.SeqAt in
theorem eq_stop {z e : Addr} {x : Str} {t u t' u' : Tok} {a b : Int} (N : News h₀ L s.heap news) (hu : A.in1.units < cLine) (mz : (z, tup2 (.str x t) (.int a t')) ∈ news) (me : (e, tup2 (.str x u) (.int b u')) ∈ news) (hab : a = b) (h : Q (.bool true) s) : wpAny (model prog w) A (compareOp .Eq (.ref z) (.ref e)) Q E s := by
  refine rcAt_tup (xs := [.str x t, .int a t']) (ys := [.str x u, .int b u']) (isTuple_of N mz) (isTuple_of N me) (Nat.lt_of_le_of_lt (by simp [Around.in1]) hu) rfl ?_ prog w E Q h
  intro j h1 h2
  match j, h1 with
  | 0, _ => exact eqAt_str x t u
  | 1, _ => exact eqAt_int a b hab t' u'
open PySem.SeqAt in
theorem eq_back4 {z e r r' : Addr} {x : Str} {t u : Tok} {x1 x2 x3 x4 y1 y2 y3 y4 : Value} {n n' : Nat} (N : News h₀ L s.heap news) (hu : A.in1.in1.units < cLine) (mz : (z, tup2 (.str x t) (.ref r)) ∈ news) (me : (e, tup2 (.str x u) (.ref r')) ∈ news) (mr : (r, (⟨.type "list", none, .seq (List.toArray [x1, x2, x3, x4]) n, #[]⟩ : Obj)) ∈ news) (mr' : (r', (⟨.type "list", none, .seq (List.toArray [y1, y2, y3, y4]) n', #[]⟩ : Obj)) ∈ news)
    (e1 : ∀ A, EqAt A s x1 y1 true) (e2 : ∀ A, EqAt A s x2 y2 true) (e3 : ∀ A, EqAt A s x3 y3 true) (e4 : ∀ A, EqAt A s x4 y4 true) (h : Q (.bool true) s) : wpAny (model prog w) A (compareOp .Eq (.ref z) (.ref e)) Q E s := by
  refine rcAt_tup (xs := [.str x t, .ref r]) (ys := [.str x u, .ref r']) (isTuple_of N mz) (isTuple_of N me) (Nat.lt_of_le_of_lt (by simp [Around.in1]; omega) hu) rfl ?_ prog w E Q h
  intro j h1 h2
  match j, h1 with
  | 0, _ => exact eqAt_str x t u
  | 1, _ =>
    refine eqAt_ref fun _ => rcAt_list (xs := [x1, x2, x3, x4]) (ys := [y1, y2, y3, y4]) ⟨_, (N _ mr).1, rfl, n, rfl⟩ ⟨_, (N _ mr').1, rfl, n', rfl⟩ (Nat.lt_of_le_of_lt (by simp [Around.in1]) hu) rfl ?_
    intro j h1 h2
    match j, h1 with
    | 0, _ => exact e1 _
    | 1, _ => exact e2 _
    | 2, _ => exact e3 _
    | 3, _ => exact e4 _
end


def MergeB (b : Bool) (s : Shared) (r : Bool) (s' : Shared) : Prop := ∃ tk, r = b ∧ s' = { s with toks := tk }
theorem arr_get {l : List Value} {i : Nat} {v : Value} (h : (List.toArray l)[i]? = some v) : l[i]? = some v := by simpa using h
theorem filt {prog : Program} {w : World} {A : Around} {h₀ : Heap} {L : Addr} {m : Str → Option Value} {env : Env} {ct elt : Expr} {x : Str} {scope : Scope} {cl : List (Str × Addr)} {s : Shared} {S : List (Addr × Obj) → Prop} {P : Nat → Value → Prop} {Fin : List Value → List (Addr × Obj) → Prop} {news : List (Addr × Obj)} (f : Value → Bool) (vs : List Value)
    (hP : ∀ i v, P i v → vs[i]? = some v) (hM : ∀ v ∈ vs, Menu v) (hS : S news)
    (T1 : ∀ v I oI C oC D m₂ h tk (E' : Value → Shared → Prop) ys, Menu v → LCg.NsObj oC m₂ → m₂ x = some v → Fr h₀ L h m → News h₀ L h ((I, oI) :: (C, oC) :: (D, LCg.lst ys) :: news) → ((@Ne Nat I C) ∧ (@Ne Nat I D) ∧ (@Ne Nat C D)) →
      wpAny (model prog w) A (isTrue ct (compEnvC scope cl C env) (eval ct (compEnvC scope cl C env))) (MergeB (f v) { s with heap := h, toks := tk }) E' { s with heap := h, toks := tk })
    (T2 : ∀ v I oI C oC D m₂ h tk (E' : Value → Shared → Prop) ys (Q' : Value → Shared → Prop), LCg.NsObj oC m₂ → m₂ x = some v → Fr h₀ L h m → News h₀ L h ((I, oI) :: (C, oC) :: (D, LCg.lst ys) :: news) → ((@Ne Nat I C) ∧ (@Ne Nat I D) ∧ (@Ne Nat C D)) → Q' v { s with heap := h, toks := tk } →
      wpAny (model prog w) A (eval elt (compEnvC scope cl C env)) Q' E' { s with heap := h, toks := tk }) :
    ∀ (k i : Nat) (ys : List Value), k + i = vs.length → Fin (ys ++ (vs.drop i).filter f) news → LCt.CompRestT prog w A h₀ L m env ct elt x scope cl s S P Fin k i ys news := by
  intro k
  induction k with
  | zero =>
    intro i ys hk hf
    rw [List.drop_eq_nil_of_le (by omega), List.filter_nil, List.append_nil] at hf
    exact LCt.CompRestT.zero hf
  | succ k ih =>
    intro i ys hk hf
    refine LCt.CompRestT.succ ?_
    intro v I oI C oC D m₂ h tk E' hPv hC hx F N off ne
    have hv := hP i v hPv
    have hi : i < vs.length := by omega
    have hve : vs[i] = v := by rw [List.getElem?_eq_getElem hi] at hv; exact Option.some.inj hv
    have hd : vs.drop i = v :: vs.drop (i + 1) := by rw [List.drop_eq_getElem_cons hi, hve]
    rw [hd] at hf
    refine wpAny_mono (T1 v I oI C oC D m₂ h tk E' ys (hM v (hve ▸ List.getElem_mem hi)) hC hx F N ne) (fun ok s' ⟨tk', e1, e2⟩ => ?_) (fun _ _ e => e)
    subst e1 e2
    cases hfv : f v with
    | true =>
      simp only [if_true]
      refine T2 v I oI C oC D m₂ h tk' E' ys _ hC hx F N ne ?_
      refine LCg.CompEnd.intro F N news (fun p hp => hp) off hS (ih (i + 1) (ys ++ [v]) (by omega) ?_)
      simpa [List.filter_cons, hfv] using hf
    | false =>
      simp only [Bool.false_eq_true, if_false]
      refine LCg.CompEnd.intro F N news (fun p hp => hp) off hS (ih (i + 1) ys (by omega) ?_)
      simpa [List.filter_cons, hfv] using hf
theorem filtA {prog : Program} {w : World} {A : Around} {h₀ : Heap} {L : Addr} {m : Str → Option Value} {env : Env} {ct elt : Expr} {x : Str} {scope : Scope} {cl : List (Str × Addr)} {s : Shared} {S : List (Addr × Obj) → Prop} {arr : Array Value} {Fin : List Value → List (Addr × Obj) → Prop} {news : List (Addr × Obj)} (f : Value → Bool)
    (hM : ∀ v ∈ arr.toList, Menu v) (hS : S news)
    (T1 : ∀ v I oI C oC D m₂ h tk (E' : Value → Shared → Prop) ys, Menu v → LCg.NsObj oC m₂ → m₂ x = some v → Fr h₀ L h m → News h₀ L h ((I, oI) :: (C, oC) :: (D, LCg.lst ys) :: news) → ((@Ne Nat I C) ∧ (@Ne Nat I D) ∧ (@Ne Nat C D)) →
      wpAny (model prog w) A (isTrue ct (compEnvC scope cl C env) (eval ct (compEnvC scope cl C env))) (MergeB (f v) { s with heap := h, toks := tk }) E' { s with heap := h, toks := tk })
    (T2 : ∀ v I oI C oC D m₂ h tk (E' : Value → Shared → Prop) ys (Q' : Value → Shared → Prop), LCg.NsObj oC m₂ → m₂ x = some v → Fr h₀ L h m → News h₀ L h ((I, oI) :: (C, oC) :: (D, LCg.lst ys) :: news) → ((@Ne Nat I C) ∧ (@Ne Nat I D) ∧ (@Ne Nat C D)) → Q' v { s with heap := h, toks := tk } →
      wpAny (model prog w) A (eval elt (compEnvC scope cl C env)) Q' E' { s with heap := h, toks := tk })
    {k : Nat} (hk : k = arr.toList.length) (hf : Fin (arr.toList.filter f) news) : LCt.CompRestT prog w A h₀ L m env ct elt x scope cl s S (fun i v => arr[i]? = some v) Fin k 0 [] news :=
  filt f arr.toList (fun i v h => by simpa using h) hM hS T1 T2 k 0 [] (by omega) (by simpa using hf)
theorem filt_len {v1 v2 v3 : Value} (h : 0 ≤ wrB v1 v2 v3) : (([v1, v2, v3].filter (fun v => !isN v)).length != ([] : List Value).length) = true := by
  simp only [List.filter_cons, List.filter_nil, List.length_nil]
  cases e1 : isN v1 <;> cases e2 : isN v2 <;> cases e3 : isN v3 <;> simp
  all_goals (exact absurd h (by unfold wrB; rw [e1, e2, e3]; decide))


inductive Keep : List (Addr × Obj) → List (Addr × Obj) → Prop where
  | all {l : List (Addr × Obj)} : Keep l l
  | keep {x : Addr × Obj} {l r : List (Addr × Obj)} : Keep l r → Keep (x :: l) (x :: r)
  | skip {x : Addr × Obj} {l r : List (Addr × Obj)} : Keep l r → Keep l (x :: r)
theorem Keep.mem {l r : List (Addr × Obj)} (k : Keep l r) : ∀ p ∈ l, p ∈ r := by
  induction k with
  | all => exact fun _ h => h
  | keep _ ih =>
    intro p hp
    rcases List.mem_cons.mp hp with rfl | h
    · exact .head _
    · exact .tail _ (ih p h)
  | skip _ ih => exact fun p hp => .tail _ (ih p hp)
theorem Keep.news {h₀ h : Heap} {L : Addr} {l r : List (Addr × Obj)} (k : Keep l r) (N : News h₀ L h r) : News h₀ L h l := fun p hp => N p (k.mem p hp)
structure Mark (n : Nat) : Prop
inductive DueN (l : List (Addr × Obj)) (x : Array UInt8) : Int → List Value → List Value → Prop where
  | nil {a : Int} {vs : List Value} : DueN l x a vs []
  | cons {a b : Int} {v : Value} {vs ds : List Value} {d : Addr} {t k : Tok} : (d, (⟨.type "tuple", none, .seq #[.bytes x t, .int b k, v], #[]⟩ : Obj)) ∈ l → b = a + 1 → DueN l x (a + 1) vs ds → DueN l x a (v :: vs) (.ref d :: ds)
theorem DueN.cons2 {h₀ h : Heap} {L : Addr} {all l : List (Addr × Obj)} {x : Array UInt8} {a b : Int} {v : Value} {vs ds : List Value} {d : Addr} {t k : Tok} (uN0 : News h₀ L h all) (uk0 : (d, (⟨.type "tuple", none, .seq #[.bytes x t, .int b k, v], #[]⟩ : Obj)) ∈ all) (m : (d, (⟨.type "tuple", none, .seq #[.bytes x t, .int b k, v], #[]⟩ : Obj)) ∈ l) (e : b = a + 1) (r : DueN l x (a + 1) vs ds) : DueN l x a (v :: vs) (.ref d :: ds) := .cons m e r
theorem DueN.due {h₀ h : Heap} {L : Addr} {news l : List (Addr × Obj)} {x : Array UInt8} (N : News h₀ L h news) (hs : ∀ p ∈ l, p ∈ news) {a : Int} {vs ds : List Value} (d : DueN l x a vs ds) : Due h x a vs ds := by
  induction d with
  | nil => exact .nil
  | cons m e _ ih => exact .cons (isTuple_of N (hs _ m)) e ih
def DueQ (h₀ : Heap) (L : Addr) (m : Str → Option Value) (s : Shared) (y : Str) (keep : List (Addr × Obj)) (x : Array UInt8) (a : Int) (vs : List Value) (many : Int) (f : Flow) (s' : Shared) : Prop :=
  f = .next ∧ ∃ D h tk ys p1 p2 p3, s' = { s with heap := h, toks := tk } ∧ Fr h₀ L h (fun z => if z = y then some (.ref D) else m z) ∧ News h₀ L h ((D, LCg.lst ys) :: p1 :: p2 :: p3 :: keep) ∧ DueN [p1, p2, p3] x a vs ys ∧ (ys.length : Int) = many
theorem dueQ_intro {h₀ h : Heap} {L D : Addr} {m : Str → Option Value} {s : Shared} {y : Str} {keep all : List (Addr × Obj)} {x : Array UInt8} {a : Int} {vs ys : List Value} {many : Int} {tk : Nat} {p1 p2 p3 : Addr × Obj}
    (F : Fr h₀ L h (fun z => if z = y then some (.ref D) else m z)) (N : News h₀ L h all) (mD : (D, LCg.lst ys) ∈ all) (d : DueN [p1, p2, p3] x a vs ys) (m1 : p1 ∈ all) (m2 : p2 ∈ all) (m3 : p3 ∈ all) (hk : ∀ p ∈ keep, p ∈ all) (hl : (ys.length : Int) = many) :
    DueQ h₀ L m s y keep x a vs many .next { s with heap := h, toks := tk } :=
  ⟨rfl, D, h, tk, ys, p1, p2, p3, rfl, F, List.forall_mem_cons.mpr ⟨N _ mD, List.forall_mem_cons.mpr ⟨N _ m1, List.forall_mem_cons.mpr ⟨N _ m2, List.forall_mem_cons.mpr ⟨N _ m3, fun p hp => N p (hk p hp)⟩⟩⟩⟩, d, hl⟩
theorem merge_due {M : Model} {A : Around} {h₀ : Heap} {L : Addr} {m : Str → Option Value} {env : Env} {st : Stmt} {s : Shared} {news : List (Addr × Obj)} (y : Str) (x : Array UInt8) {a : Int} {vs : List Value} {many : Int} {Q : Flow → Shared → Prop} {E : Value → Shared → Prop}
    (F : Fr h₀ L s.heap m) (N : News h₀ L s.heap news) {u : Tok} {zs : List (Addr × Obj)} (uhA0 : Asked (.bytes x u) a vs zs) {nb mv iw su : Int} {u0 : Tok} {VA VB : Value} {xs : List (Addr × Obj)} (uRO0 : RunOut nb many mv iw su u0 VA VB zs xs)
    (h1 : Fr h₀ L s.heap m → News h₀ L s.heap news → wpAny M A (exec st env) (DueQ h₀ L m s y news x a vs many) E s)
    (h2 : ∀ D h tk ys t1 t2 t3 o1 o2 o3, DueN [(t1, o1), (t2, o2), (t3, o3)] x a vs ys → (ys.length : Int) = many → Fr h₀ L h (fun z => if z = y then some (.ref D) else m z) → News h₀ L h ((D, LCg.lst ys) :: (t1, o1) :: (t2, o2) :: (t3, o3) :: news) → Q .next { s with heap := h, toks := tk }) :
    wpAny M A (exec st env) Q E s :=
  wpAny_mono (h1 F N) (fun f s' ⟨e, D, h, tk, ys, (t1, o1), (t2, o2), (t3, o3), e2, F, N, d, hl⟩ => e ▸ e2 ▸ h2 D h tk ys t1 t2 t3 o1 o2 o3 d hl F N) (fun _ _ e => e)
theorem lst_small {ys : List Value} {many : Int} (h : (ys.length : Int) = many) (h3 : many ≤ 3) : (List.toArray ys).size ≤ sizeLine := by
  rw [List.size_toArray, sizeLine_eq]; omega


theorem menu_sub {prog : Program} {w : World} {A : Around} {E : Value → Shared → Prop} {s : Shared} {Q : Value → Shared → Prop} {h₀ : Heap} {L : Addr} {news : List (Addr × Obj)} {value slice : Expr} {l : Addr} {n : Nat} {k : Int} {u a1 a2 a3 a4 a5 a6 : Tok} {xm : Int}
    (N : News h₀ L s.heap news) (hm : (l, PySem.W.listOf #[.int 1 a1, .int 3 a2, .int xm a3, .int 5 a4, .int 0 a5, .none, .bool true, .bytes #[49] a6] n) ∈ news) (hx : xm = -2) (h0 : 0 ≤ k) (h1 : k < 8) (h : ∀ v, Menu v → Q v s)
    (hs : subscripted slice false (.ref l) (.int k u) = operate [.ref l, .int k u] (getItem (.ref l) (.int k u)) := by with_unfolding_all rfl) :
    wpAny (model prog w) A (subscriptTail value slice (.ref l) (.int k u)) Q E s := by
  subst hx
  refine kba_turn (value' := PySem.Expr.Name (PySem.Str.ofString "_") ⟨0, 0, 0, 0⟩) (fun _ => rfl) ?_
  have key : ∀ v, [Value.int 1 a1, .int 3 a2, .int (-2) a3, .int 5 a4, .int 0 a5, .none, .bool true, .bytes #[49] a6][k.toNat]? = some v → Menu v → wpAny (model prog w) A (subscriptTail (PySem.Expr.Name (PySem.Str.ofString "_") ⟨0, 0, 0, 0⟩) slice (.ref l) (.int k u)) Q E s := fun v e hv => kim_list N hm rfl rfl h0 (by omega) e (h v hv) hs
  rcases (by omega : k = 0 ∨ k = 1 ∨ k = 2 ∨ k = 3 ∨ k = 4 ∨ k = 5 ∨ k = 6 ∨ k = 7) with e | e | e | e | e | e | e | e <;> subst e
  · exact key _ rfl (.num (by decide) (by decide))
  · exact key _ rfl (.num (by decide) (by decide))
  · exact key _ rfl (.num (by decide) (by decide))
  · exact key _ rfl (.num (by decide) (by decide))
  · exact key _ rfl (.num (by decide) (by decide))
  · exact key _ rfl .none
  · exact key _ rfl .tru
  · exact key _ rfl .one
theorem compEnd_rope {h₀ : Heap} {L I C D rp : Nat} {m : Str → Option Value} {s₁ : Shared} {oI oC oD o o' : Obj} {z : Addr × Obj} {S : List (Addr × Obj) → Prop} {rest : Value → List (Addr × Obj) → Prop} {h' : Heap} {tk : Nat} {y : Value} {all r : List (Addr × Obj)}
    (F : Fr h₀ L h' m) (off : LCg.Off3 I C D (z :: (rp, o) :: r)) (N : News h₀ L h' all) (sub : ∀ p ∈ (I, oI) :: (C, oC) :: (D, oD) :: z :: (rp, o') :: r, p ∈ all) (hS : S (z :: (rp, o') :: r)) (rs : rest y (z :: (rp, o') :: r)) :
    LCg.CompEnd h₀ L m s₁ I oI C oC D oD S rest y { s₁ with heap := h', toks := tk } :=
  LCg.CompEnd.intro F N (z :: (rp, o') :: r) sub ⟨off.1, off.2.1, off.2.2⟩ hS rs
local macro_rules | `(tactic| walk_at "CompSrc") => `(tactic| (k_here; k_dflt (refine LCg.CompSrc.range (by rfl) (by k_asm) (by k_asm) (by assumption) (by first | decide | rfl) (by first | rfl | decide) (by first | size_fits | exact Nat.le_of_ble_eq_true rfl) ?_; intro g'; lcg_lit)))
theorem kb1 (w : World) : kitOne (Mine.heap w.params) (.type "bytes") (.type "int") = some false := by kernel_rfl
theorem loop_spec (w : World) (rp sl n n2 : Nat) (t : Int) (tk : Tok) (ws : List Value) (ns : List Int) (hI : IntsAre ws ns) (hl : ns.length ≤ 24) (ht0 : 0 ≤ t) (ht1 : t ≤ 40) (hlt : @LT.lt Nat _ sl rp) (ht5 : @LT.lt Nat _ 528 sl) (oT : Obj) :
    Spec 30 w 538 [(rp, ropeAt sl t tk n), (sl, PySem.W.listOf ws.toArray n2), (528, oT)] [.ref rp]
      (fun ok Q => ∀ h' tk' t', ok h' [(rp, ropeAt sl (t + 1 + 1 + 1) t' n), (sl, PySem.W.listOf ws.toArray n2), (528, oT)] → Q (.bool true) h' tk') := by
  unfold Spec
  w_top off
  k_fill
  intro p loose mean mg mb dp un gd cn cs a ccd cl outer A₀ base h₀ L m s Q E B F X N T hkd hdp hun hret
  dsimp only at hret
  refine wpAny_call ?_
  k_enter
  repeat' (first
      | (k_unfold; (try dsimp only))
      | (k_end; wrow_close)
      | ((with_reducible show wpAny _ _ (call (Value.ref _) _ _) _ _ _); (first
        | (with_reducible (k_here; (with_reducible show wpAny _ _ (call (Value.ref 442) _) _ _ _); k_dflt (refine' lrun_use ?k1 ?k2 ?k3 ?k4 ?k5 ?k6 ?k7 ?k8 ?m1 ?m2 ?m3 ?m4 ?m5 ?m6 ?eA ?eB ?m7 ?m8 ?m9 ?m10 ?g1 ?g2 ?g3 ?hx ?hs ?o1 ?o2 ?o3 ?q1 ?q2 ?q3 ?q4 ?_; (case k1 => k_asm); (case k2 => k_asm); (case k3 => k_asm); (case k4 => k_asm); (case k5 => k_asm); (case k6 => first | exact rfl | assumption); (case k7 => k_room); (case k8 => k_room); (case m1 => k_mem); (case m2 => k_mem); (case m3 => k_mem); (case m4 => k_mem); (case m5 => k_mem); (case m6 => k_mem); (case eA => decide); (case eB => decide); (case m7 => k_mem); (case m8 => k_mem); (case m9 => k_mem); (case m10 => k_mem); (case g1 => with_reducible assumption); (case g2 => with_reducible assumption); (case g3 => with_reducible assumption); (case hx => omega); (case hs => omega); (case o1 => omega); (case o2 => omega); (case o3 => omega); (case q1 => omega); (case q2 => omega); (case q3 => omega); (case q4 => omega); k_whole); intro h' tk' z' VA' VB' r4' o4' lo' F' N'; (try k_sweep)))
        | (with_reducible (k_here; (with_reducible show wpAny _ _ (call (Value.ref 508) _) _ _ _); k_dflt (refine' stepper4_use ?k1 ?k2 ?k3 ?k4 ?k5 ?k6 ?k7 ?k8 ?m1 ?_; (case k1 => k_asm); (case k2 => k_asm); (case k3 => k_asm); (case k4 => k_asm); (case k5 => k_asm); (case k6 => first | exact rfl | assumption); (case k7 => k_room); (case k8 => k_room); (case m1 => k_mem); k_whole); intro h' tk' x' dx' sk' tk1' tr' tt' tp' l1 l2 l3 F' N'; (try k_lt l1); (try k_lt2 l2); (try k_lt2 l3); (try k_sweep)))
        | (with_reducible (k_here; (with_reducible show wpAny _ _ (call (Value.ref 95) _ _) _ _ _); k_dflt (refine' limits0_use ?k1 ?k2 ?k3 ?k4 ?k5 ?k6 ?k7 ?k8  ?_; (case k1 => k_asm); (case k2 => k_asm); (case k3 => k_asm); (case k4 => k_asm); (case k5 => k_asm); (case k6 => first | exact rfl | assumption); (case k7 => k_room); (case k8 => k_room); k_whole); intro h' tk' x' dx' tk1' l1 l2 F' N'; (try k_lt l1); (try k_lt2 l2); (try k_sweep)))
        | (with_reducible (k_here; (with_reducible show wpAny _ _ (call (Value.ref 417) _) _ _ _); k_dflt (refine' works_use ?k1 ?k2 ?k3 ?k4 ?k5 ?k6 ?k7 ?k8  ?_; (case k1 => k_asm); (case k2 => k_asm); (case k3 => k_asm); (case k4 => k_asm); (case k5 => k_asm); (case k6 => first | exact rfl | assumption); (case k7 => k_room); (case k8 => k_room); k_whole); intro h' tk' x' dx' tk1' l1 l2 F' N'; (try k_lt l1); (try k_lt2 l2); (try k_sweep)))
        | (with_reducible (k_here; (with_reducible show wpAny _ _ (call (Value.ref 519) _) _ _ _); k_dflt (refine' next_use ?k1 ?k2 ?k3 ?k4 ?k5 ?k6 ?k7 ?k8 ?m1 ?m2 ?mi ?i1 ?i2 ?i3 ?i4 ?i5 ?i6 ?i7 ?_; (case k1 => k_asm); (case k2 => k_asm); (case k3 => k_asm); (case k4 => k_asm); (case k5 => k_asm); (case k6 => first | exact rfl | assumption); (case k7 => k_room); (case k8 => k_room); (case m1 => k_mem); (case m2 => k_mem); (case mi => walk_at "my minus"); (case i1 => l_ints); (case i2 => first | assumption | omega); (case i3 => omega); (case i4 => omega); (case i5 => decide); (case i6 => decide); (case i7 => omega); k_whole); intro v' tv' t' h' tk' v0' v1' F' N'; (try k_sweep)))))
      | (with_reducible (k_here; (with_reducible show wpAny _ _ (subscriptTail _ _ (Value.ref _) (Value.int _ _)) _ _ _); k_dflt (refine' kim_list ?k1 ?k2 ?k3 ?k4 ?k5 ?k6 ?k7 ?_; (case k1 => k_asm); (case k2 => k_mem); (case k3 => rfl); (case k4 => rfl); (case k5 => decide); (case k6 => decide); (case k7 => rfl); k_whole)))
      | (with_reducible (k_here; (with_reducible show wpAny _ _ (compareOp CmpOp.Eq (Value.ref _) (Value.ref _)) _ _ _); k_dflt (first | (refine' eq_stop ?k1 ?k2 ?mz ?me ?hab ?_; (case k1 => k_asm); (case k2 => k_room); (case mz => k_mem); (case me => k_mem); (case hab => first | rfl | omega); k_whole) | (refine' eq_back4 ?k1 ?k2 ?mz ?me ?mr ?mrr ?e1 ?e2 ?e3 ?e4 ?_; (case k1 => k_asm); (case k2 => k_room); (case mz => k_mem); (case me => k_mem); (case mr => k_mem); (case mrr => k_mem); (case e1 => ((intro A9'); first | exact PySem.SeqAt.EqAt.same _ | exact eqAt_bytes _ _ _ | exact eqAt_int _ _ (by omega) _ _)); (case e2 => ((intro A9'); first | exact PySem.SeqAt.EqAt.same _ | exact eqAt_bytes _ _ _ | exact eqAt_int _ _ (by omega) _ _)); (case e3 => ((intro A9'); first | exact PySem.SeqAt.EqAt.same _ | exact eqAt_bytes _ _ _ | exact eqAt_int _ _ (by omega) _ _)); (case e4 => ((intro A9'); first | exact PySem.SeqAt.EqAt.same _ | exact eqAt_bytes _ _ _ | exact eqAt_int _ _ (by omega) _ _)); k_whole))))
      | (with_reducible (k_here; (with_reducible show wpAny _ _ (compareOp CmpOp.NotEq (Value.ref _) (Value.ref _)) _ _ _); k_dflt ((rename LoopOut _ _ _ _ _ _ _ => lo'); rcases lo' with ⟨w', e1', te', e2'⟩ | ⟨xa', ta', xb', tb', xc', tc', e1', e2', e3', b1', b2', b3', b4', b5', b6', e4', r', t', e5', (⟨c', e7'⟩ | ⟨c', e7'⟩)⟩ <;> first | (subst e1' e2'; (refine' ne_len ?k1 ?k2 ?ma ?mb ?hl ?_; (case k1 => k_asm); (case k2 => k_room); (case ma => k_mem); (case mb => k_mem); (case hl => exact filt_len w'); k_whole)) | (subst e1' e2' e3' e4' e5'; obtain ⟨q1', q2'⟩ := Prod.mk.inj e7'; subst q1' q2'; (refine' ne_nils ?k1 ?k2 ?ma ?mb  ?_; (case k1 => k_asm); (case k2 => k_room); (case ma => k_mem); (case mb => k_mem); k_whole)))))
      | (with_reducible (k_here; (with_reducible show wpAny _ _ (call _ [Value.bytes _ _, Value.type "int"]) _ _ _); k_dflt (refine' kia_one kitx_bytes ?X trivial (kb1 _) ?nb ?_; (case X => k_in); (case nb => kit_nb); k_whole; intro _)))
      | ((with_reducible show MergeB ..); first | (with_reducible exact ⟨_, rfl, rfl⟩) | exact ⟨_, rfl, rfl⟩)
      | ((with_reducible show LCt.CompRestT ..); first | (with_reducible (k_here; k_dflt (refine' filtA (fun v => !isN v) ?hM ?hS ?_ ?_ ?hk ?_; (case hM => ((show ∀ v ∈ [_, _, _], Menu v); repeat' (first | exact List.forall_mem_nil _ | (refine List.forall_mem_cons.mpr ⟨by with_reducible assumption, ?_⟩)))); (case hS => lcg_src); (case hk => rfl)) <;> first | (intro v' I' oI' C' oC' D' m' h' tk' E' ys' mv' hC' hx' F' N' ne'; rcases mv' with ⟨b1', b2'⟩ | _ | _ | _) | (intro v' I' oI' C' oC' D' m' h' tk' E' ys' Q' hC' hx' F' N' ne' hq'; walk1; exact hq') | k_whole)) | (k_here; k_dflt (refine' filtA (fun v => !isN v) ?hM ?hS ?_ ?_ ?hk ?_; (case hM => ((show ∀ v ∈ [_, _, _], Menu v); repeat' (first | exact List.forall_mem_nil _ | (refine List.forall_mem_cons.mpr ⟨by with_reducible assumption, ?_⟩)))); (case hS => lcg_src); (case hk => rfl)) <;> first | (intro v' I' oI' C' oC' D' m' h' tk' E' ys' mv' hC' hx' F' N' ne'; rcases mv' with ⟨b1', b2'⟩ | _ | _ | _) | (intro v' I' oI' C' oC' D' m' h' tk' E' ys' Q' hC' hx' F' N' ne' hq'; walk1; exact hq') | k_whole))
      | ((with_reducible show LCg.CompRest ..); first | (with_reducible (with_unfolding_all first | (refine LCg.CompRest.succ ?_; intro v' I' oI' C' oC' D' m' h' tk' E' hv' hC' hx' F' N' off' ne'; (have of2 := off'; repeat (have ho1' := of2.1.1; have ho2' := of2.1.2.1; have ho3' := of2.1.2.2; replace of2 := of2.2)); (try clear of2); have of2' := off'; (dsimp only [LCg.Off3] at of2'); (first | lcg_open hv' | (obtain ⟨t9', hv9'⟩ := hv'; subst hv9'))) | refine LCg.CompRest.zero ?_)) | (with_unfolding_all first | (refine LCg.CompRest.succ ?_; intro v' I' oI' C' oC' D' m' h' tk' E' hv' hC' hx' F' N' off' ne'; (have of2 := off'; repeat (have ho1' := of2.1.1; have ho2' := of2.1.2.1; have ho3' := of2.1.2.2; replace of2 := of2.2)); (try clear of2); have of2' := off'; (dsimp only [LCg.Off3] at of2'); (first | lcg_open hv' | (obtain ⟨t9', hv9'⟩ := hv'; subst hv9'))) | refine LCg.CompRest.zero ?_))
      | ((with_reducible show LCg.CompEnd ..); first | (with_reducible (refine' compEnd_rope ?F ?off ?N ?sub ?src ?_; (case F => k_asm); (case off => with_reducible assumption); (case N => k_asm); (case sub => (first | (refine sub_of ?_; with_reducible (repeat' constructor); done) | ((repeat (refine List.forall_mem_cons.mpr ⟨?_, ?_⟩; k_mem)); exact sub_of (by repeat' constructor)))); (case src => lcg_src))) | (refine' compEnd_rope ?F ?off ?N ?sub ?src ?_; (case F => k_asm); (case off => with_reducible assumption); (case N => k_asm); (case sub => (first | (refine sub_of ?_; with_reducible (repeat' constructor); done) | ((repeat (refine List.forall_mem_cons.mpr ⟨?_, ?_⟩; k_mem)); exact sub_of (by repeat' constructor)))); (case src => lcg_src)))
      | ((with_reducible show LCg.FinA ..); first | (with_reducible ((unfold LCg.FinA); intro D' h' tk' F' N' o1'; (try simp only [List.nil_append, List.cons_append] at N'); (try dsimp only))) | ((unfold LCg.FinA); intro D' h' tk' F' N' o1'; (try simp only [List.nil_append, List.cons_append] at N'); (try dsimp only)))
      | ((with_reducible show LCg.CompEnd ..); first | (with_reducible (refine' compEnd_one ?F ?off ?N ?mt ?a1 ?a2 ?a3 ?sub ?src ?_; (case F => k_asm); (case off => with_reducible assumption); (case N => k_asm); (case mt => k_mem); (case a1 => omega); (case a2 => omega); (case a3 => omega); (case sub => (first | (refine sub_of ?_; with_reducible (repeat' constructor); done) | ((repeat (refine List.forall_mem_cons.mpr ⟨?_, ?_⟩; k_mem)); exact sub_of (by repeat' constructor)))); (case src => lcg_src))) | (refine' compEnd_one ?F ?off ?N ?mt ?a1 ?a2 ?a3 ?sub ?src ?_; (case F => k_asm); (case off => with_reducible assumption); (case N => k_asm); (case mt => k_mem); (case a1 => omega); (case a2 => omega); (case a3 => omega); (case sub => (first | (refine sub_of ?_; with_reducible (repeat' constructor); done) | ((repeat (refine List.forall_mem_cons.mpr ⟨?_, ?_⟩; k_mem)); exact sub_of (by repeat' constructor)))); (case src => lcg_src)))
      | ((with_reducible show LCg.CompRest ..); first | (with_reducible (with_unfolding_all first | (refine LCg.CompRest.succ ?_; intro v' I' oI' C' oC' D' m' h' tk' E' hv' hC' hx' F' N' off' ne'; (have of2 := off'; repeat (have ho1' := of2.1.1; have ho2' := of2.1.2.1; have ho3' := of2.1.2.2; replace of2 := of2.2)); (try clear of2); (first | lcg_open hv' | (obtain ⟨t9', hv9'⟩ := hv'; subst hv9'))) | refine LCg.CompRest.zero ?_)) | (with_unfolding_all first | (refine LCg.CompRest.succ ?_; intro v' I' oI' C' oC' D' m' h' tk' E' hv' hC' hx' F' N' off' ne'; (have of2 := off'; repeat (have ho1' := of2.1.1; have ho2' := of2.1.2.1; have ho3' := of2.1.2.2; replace of2 := of2.2)); (try clear of2); (first | lcg_open hv' | (obtain ⟨t9', hv9'⟩ := hv'; subst hv9'))) | refine LCg.CompRest.zero ?_))
      | (with_reducible (k_here; (with_reducible show wpAny _ _ (subscriptTail _ _ (Value.ref _) (Value.int _ _)) _ _ _); k_dflt (refine' menu_sub ?k1 ?m1 ?hx ?h0 ?h1 ?_; (case k1 => k_asm); (case m1 => k_mem); (case hx => decide); (case h0 => with_reducible assumption); (case h1 => with_reducible assumption); k_whole); intro v' mv'))
      | (with_reducible (k_here; (with_reducible show wpAny _ _ (subscriptTail _ _ (Value.ref _) (Value.int _ _)) _ _ _); k_dflt (refine' kim_list ?k1 ?k2 ?k3 ?k4 ?k5 ?k6 ?k7 ?_; (case k1 => k_asm); (case k2 => k_mem); (case k3 => rfl); (case k4 => rfl); (case k5 => decide); (case k6 => decide); (case k7 => rfl); k_whole)))
      | ((with_reducible show wpAny _ _ (subscriptTail _ _ (Value.ref _) (Value.int _ _)) _ _ _); first | (with_reducible (k_here; kim_at)) | (k_here; kim_at))
      | walk1
      | dsimp only
      | (leave1; walk_say "STEP leave1"; try dsimp only)
      | fail "no step")
  all_goals first | assumption | exact hret _ _ _ ⟨by assumption, by (first | assumption | exact cb_drop (by assumption) (sub_of (by with_reducible (repeat' constructor))))⟩


section
variable {w : World} {news rest : List (Addr × Obj)} {p : Program} {loose : List Str} {mean : ExcName → Option Value} {mg mb : Str → Option Value} {dp un : Nat} {gd : Option (List Code)} {cn : Str} {cs : Scope} {a : Addr} {ccd : Value} {cl : List (Str × Addr)} {outer : List Env} {A₀ : Around} {base h₀ : Heap} {L : Addr} {m : Str → Option Value} {s : Shared} {Q E : Value → Shared → Prop}
theorem loop_use {rp sl n n2 : Nat} {t : Int} {tk : Tok} {ws : List Value} {ns : List Int} {oT : Obj} (B : Below A₀ base outer h₀) (F : Fr h₀ L s.heap m) (X : (Mine.heap w.params).In h₀) (N : News h₀ L s.heap news) (T : Top p loose mean mg mb h₀) (hkd : cs.kind = .function) (hdp : dp + 30 < recursionLimit) (hun : un + 64 * 30 < cLine) (m1 : (rp, ropeAt sl t tk n) ∈ news) (m2 : (sl, PySem.W.listOf ws.toArray n2) ∈ news) (hI : IntsAre ws ns) (hl : ns.length ≤ 24) (ht0 : 0 ≤ t) (ht1 : t ≤ 40) (hlt : @LT.lt Nat _ sl rp) (m3 : (528, oT) ∈ news) (ht5 : @LT.lt Nat _ 528 sl)
    (hret : ∀ h' tk' t', Fr h₀ L h' m → News h₀ L h' [(rp, ropeAt sl (t + 1 + 1 + 1) t' n), (sl, PySem.W.listOf ws.toArray n2), (528, oT)] → Q (.bool true) { s with heap := h', toks := tk' }) :
    wpAny (model PySem.Challenge.rw_rh0164_01.row.prog w) (ktrTop dp un gd cn cs L a ccd cl outer) (call (.ref 538) [.ref rp]) Q E s := by
  refine loop_spec w rp sl n n2 t tk ws ns hI hl ht0 ht1 hlt ht5 oT p loose mean mg mb dp un gd cn cs a ccd cl outer A₀ base h₀ L m s Q E B F X (News.cons2 N m1 (News.cons2 N m2 (News.cons2 N m3 (fun _ hp => (nomatch hp))))) T hkd hdp hun ?_
  intro h' tk' t' ⟨F', N'⟩
  exact hret h' tk' t' F' N'
end


theorem or_zq {azq bzq czq dzq : Nat} (hzq : czq = bzq ∨ @LT.lt Nat _ dzq czq) (kzq : @LT.lt Nat _ azq bzq) (mzq : @LT.lt Nat _ azq dzq) : @LT.lt Nat _ azq czq := hzq.elim (fun e => e ▸ kzq) (fun e => Nat.lt_trans mzq e)
theorem cx_zq {azq bzq czq dzq : Nat} (hzq : CX azq bzq czq) (kzq : @LT.lt Nat _ dzq bzq) (mzq : @Ne Nat czq dzq) : @Ne Nat azq dzq := hzq dzq kzq mzq
local macro_rules | `(tactic| tbn_letter) => `(tactic| with_reducible first | (apply cx_zq; assumption; (focus tbn_letter); tbn_letter) | (apply ne_sy; apply cx_zq; assumption; (focus tbn_letter); tbn_letter))
theorem su_one {v : Int} (h : v = 0) : (if (v == 0) = true then (1 : Int) else 0) = 1 := by subst h; rfl
theorem su_zero {v : Int} (h : ¬ v = 0) : (if (v == 0) = true then (1 : Int) else 0) = 0 := if_neg (by simp [h])
theorem mem_tr {zs l news : List (Addr × Obj)} (h : ∀ p ∈ zs, p ∈ l) (k : ∀ p ∈ l, p ∈ news) : ∀ p ∈ zs, p ∈ news := fun p hp => k p (h p hp)
theorem not_stored {z : Str} (hs : lawStored.contains z = false) : ∀ x ∈ lawStored, z ≠ x := by
  intro x hx e
  subst e
  exact absurd hs (by simp [List.contains_iff_mem, hx])
theorem tf : PySem.Challenge.rw_rh0164_01.Holds := by
  refine hd (by rfl) (by rfl) (by rfl) ?_
  w_top off
  k_go0
  all_goals try k_fold
  iterate 28 (first | (k_unfold; (try dsimp only)) | (k_end; wrow_close) | ((with_reducible show wpAny _ _ (call (Value.ref _) _ _) _ _ _); (first | (with_reducible (k_here; (with_reducible show wpAny _ _ (call (Value.ref 538) _) _ _ _); k_dflt (refine' loop_use ?k1 ?k2 ?k3 ?k4 ?k5 ?k6 ?k7 ?k8 ?m1 ?m2 ?hI ?hl ?ht0 ?ht1 ?hlt ?m3 ?ht5 ?_; (case k1 => k_asm); (case k2 => k_asm); (case k3 => k_asm); (case k4 => k_asm); (case k5 => k_asm); (case k6 => first | exact rfl | assumption); (case k7 => k_room); (case k8 => k_room); (case m1 => k_mem); (case m2 => k_mem); (case hI => l_ints); (case hl => omega); (case ht0 => omega); (case ht1 => omega); (case hlt => omega); (case m3 => k_mem); (case ht5 => omega); k_whole); intro h' tk' t' F' N'; (try k_sweep))) | (with_reducible (k_here; (with_reducible show wpAny _ _ (call (Value.ref 442) _) _ _ _); k_dflt (refine' run_law ?k1 ?k2 ?k3 ?k4 ?k5 ?k6 ?k7 ?k8 ?P ?m1 ?m2 ?m3 ?m4 ?m5 ?m6 ?m7 ?m8 ?m9 ?m10 ?a1 ?a2 ?hcl ?a3 ?a4 ?a5 ?a6 ?a7 ?a8 ?a9 ?a10 ?a11 ?a12 ?r14 ?r1 ?r2 ?r3 ?r4 ?r5 ?r6 ?r7 ?r8 ?r9 ?r10 ?r11 ?r12 ?r13 ?s1 ?s2 ?s3 ?s4 ?s5 ?s6 ?hC ?hcs ?hW ?hm ?hm3 ?hk0 ?hk1 ?hfl0 ?hfl1 ?hv0 ?hv1 ?hs0 ?hs1 ?hf ?o1 ?o2 ?o3 ?o4 ?o5 ?o6 ?o7 ?o8 ?o9 ?_; (case k1 => k_asm); (case k2 => k_asm); (case k3 => k_asm); (case k4 => k_asm); (case k5 => k_asm); (case k6 => first | exact rfl | assumption); (case k7 => k_room); (case k8 => k_room); (case P => with_reducible assumption); (case m1 => k_mem); (case m2 => k_mem); (case m3 => k_mem); (case m4 => k_mem); (case m5 => k_mem); (case m6 => k_mem); (case m7 => k_mem); (case m8 => k_mem); (case m9 => k_mem); (case m10 => k_mem); (case a1 => k_mem); (case a2 => k_mem); (case hcl => exact rfl); (case a3 => k_mem); (case a4 => k_mem); (case a5 => k_mem); (case a6 => with_reducible assumption); (case a7 => k_mem); (case a8 => k_mem); (case a9 => k_mem); (case a10 => k_mem); (case a11 => k_mem); (case a12 => k_mem); (case r14 => omega); (case r1 => omega); (case r2 => omega); (case r3 => omega); (case r4 => omega); (case r5 => omega); (case r6 => omega); (case r7 => omega); (case r8 => omega); (case r9 => omega); (case r10 => omega); (case r11 => omega); (case r12 => omega); (case r13 => omega); (case s1 => omega); (case s2 => exact cx_ne (by with_reducible assumption) (by omega) (by with_reducible assumption)); (case s3 => exact cx_ne (by with_reducible assumption) (by omega) (by with_reducible assumption)); (case s4 => exact cx_ne (by with_reducible assumption) (by omega) (by with_reducible assumption)); (case s5 => exact cx_ne (by with_reducible assumption) (by omega) (by with_reducible assumption)); (case s6 => exact cx_ne (by with_reducible assumption) (by omega) (by with_reducible assumption)); (case hC => with_reducible assumption); (case hcs => (with_unfolding_all rfl)); (case hW => exact rfl); (case hm => omega); (case hm3 => omega); (case hk0 => omega); (case hk1 => omega); (case hfl0 => omega); (case hfl1 => omega); (case hv0 => omega); (case hv1 => omega); (case hs0 => first | omega | (split <;> omega)); (case hs1 => first | omega | (split <;> omega)); (case hf => exact hf_of (by with_reducible assumption) (by with_reducible assumption) (by with_reducible assumption)); (case o1 => omega); (case o2 => omega); (case o3 => omega); (case o4 => omega); (case o5 => omega); (case o6 => omega); (case o7 => omega); (case o8 => omega); (case o9 => omega); k_whole); intro h' tk' z' z1' z2' z3' z4' p1' p2' p3' p4' A' B' zs' arr' nq' e1' e2' e3' e4' e5' s1' s2' s3' s4' s5' s6' F' N'; (repeat (with_reducible rename _ ∧ _ => lq'; clear lq')); (try k_sweep))) | (with_reducible (k_here; (with_reducible show wpAny _ _ (call (Value.ref 508) _) _ _ _); k_dflt (refine' stepper_use ?k1 ?k2 ?k3 ?k4 ?k5 ?k6 ?k7 ?k8 ?m1 ?_; (case k1 => k_asm); (case k2 => k_asm); (case k3 => k_asm); (case k4 => k_asm); (case k5 => k_asm); (case k6 => first | exact rfl | assumption); (case k7 => k_room); (case k8 => k_room); (case m1 => k_mem); k_whole); intro h' tk' x' dx' sk' tk1' tr' tt' tp' l1 l2 l3 F' N'; (try k_lt l1); (try k_lt2 l2); (try k_lt2 l3); (try k_sweep))) | (with_reducible (k_here; (with_reducible show wpAny _ _ (call (Value.ref 95) _ _) _ _ _); k_dflt (refine' limits_use ?k1 ?k2 ?k3 ?k4 ?k5 ?k6 ?k7 ?k8  ?_; (case k1 => k_asm); (case k2 => k_asm); (case k3 => k_asm); (case k4 => k_asm); (case k5 => k_asm); (case k6 => first | exact rfl | assumption); (case k7 => k_room); (case k8 => k_room); k_whole); intro h' tk' x' dx' tk1' l1 l2 F' N'; (try k_lt l1); (try k_lt2 l2); (try k_sweep))) | (with_reducible (k_here; (with_reducible show wpAny _ _ (call (Value.ref 417) _) _ _ _); k_dflt (refine' works_use ?k1 ?k2 ?k3 ?k4 ?k5 ?k6 ?k7 ?k8  ?_; (case k1 => k_asm); (case k2 => k_asm); (case k3 => k_asm); (case k4 => k_asm); (case k5 => k_asm); (case k6 => first | exact rfl | assumption); (case k7 => k_room); (case k8 => k_room); k_whole); intro h' tk' x' dx' tk1' l1 l2 F' N'; (try k_lt l1); (try k_lt2 l2); (try k_sweep))) | (with_reducible (k_here; (with_reducible show wpAny _ _ (call (Value.ref 533) _) _ _ _); k_dflt (refine' mkput_use ?k1 ?k2 ?k3 ?k4 ?k5 ?k6 ?k7 ?k8 ?m1 ?mi ?ht ?m2 ?C ?_; (case k1 => k_asm); (case k2 => k_asm); (case k3 => k_asm); (case k4 => k_asm); (case k5 => k_asm); (case k6 => first | exact rfl | assumption); (case k7 => k_room); (case k8 => k_room); (case m1 => k_mem); (case mi => walk_at "my minus"); (case ht => with_reducible assumption); (case m2 => k_mem); (case C => assumption); k_whole); intro h' tk' f' oc' od' fd' sl' c' oc' c1' o1' c2' o2' tab' F' N' l1 l2' l3' l4' l5' cx' ht' P'; (have l3q := l3'); (try k_lt l1); (try have l5q := or_zq l5' hce1 (by tbn_letter : @LT.lt Nat _ 528 _)); (try k_sweep))) | (with_reducible (k_here; (with_reducible show wpAny _ _ (call (Value.ref 519) _) _ _ _); k_dflt (refine' next_use ?k1 ?k2 ?k3 ?k4 ?k5 ?k6 ?k7 ?k8 ?m1 ?m2 ?mi ?i1 ?i2 ?i3 ?i4 ?i5 ?i6 ?i7 ?_; (case k1 => k_asm); (case k2 => k_asm); (case k3 => k_asm); (case k4 => k_asm); (case k5 => k_asm); (case k6 => first | exact rfl | assumption); (case k7 => k_room); (case k8 => k_room); (case m1 => k_mem); (case m2 => k_mem); (case mi => walk_at "my minus"); (case i1 => l_ints); (case i2 => first | assumption | omega); (case i3 => omega); (case i4 => omega); (case i5 => decide); (case i6 => decide); (case i7 => omega); k_whole); intro v' tv' t' h' tk' v0' v1' F' N'; (try k_sweep))))) | ((with_reducible show wpAny _ _ (exec (Stmt.For ..) _) _ _ _); first | (with_reducible (k_here; (rename Fr _ _ _ _ => lF'); (with_unfolding_all refine' For_invVF lF' ?k1 ?k2 ?_; (case k1 => exact rfl); (case k2 => exact rfl); k_whole))) | (k_here; (rename Fr _ _ _ _ => lF'); (with_unfolding_all refine' For_invVF lF' ?k1 ?k2 ?_; (case k1 => exact rfl); (case k2 => exact rfl); k_whole))) | (with_reducible ((with_reducible show wpAny _ _ (subscriptTail _ (PySem.Expr.Slice _ _ none _) (Value.ref _) (Value.ref _)) _ _ _); k_dflt (refine slice_list (by k_asm) (by k_asm) (News.isList (by k_asm) (by k_mem)) (by first | exact .none | exact .int _ _) (by first | exact .none | exact .int _ _) ?_ (hsz := by first | exact lst_small (by with_reducible assumption) (by omega) | exact Nat.le_of_ble_eq_true rfl)); intro _ _ _)) | (with_reducible (k_here; (with_reducible show wpAny _ _ (exec (Stmt.Assign _ (Expr.ListComp _ _ _ _) _) _) (DueQ _ _ _ _ _ _ _ _ _ _) _ _); lcf_look; lcg_calm; k_dflt (refine LCg.Assign_ListComp_U (F₀ := by k_asm) (by rfl) (by with_unfolding_all rfl) (by with_unfolding_all rfl) (by decide) (by rfl) (by decide) (by rfl) (by rfl) (by rfl) ?_); k_dflt lcg_toSrc)) | (with_reducible (k_here; (with_reducible show wpAny _ _ (exec (Stmt.Assign _ (Expr.ListComp _ _ _ _) _) _) _ _ _); (fail_if_success (with_reducible show wpAny _ _ _ (DueQ _ _ _ _ _ _ _ _ _ _) _ _)); k_dflt (refine' merge_due (Str.ofString "due") #[116] ?F ?N ?hA ?RO ?u1 ?u2; (case F => k_asm); (case N => k_asm); (case hA => with_reducible assumption); (case RO => with_reducible assumption)); (case' u1 => (rcases e5' with e5' | e5' | e5') <;> ((first | (replace e5' := add1a e5'; subst e5') | (replace e5' := add1b e5'; subst e5') | (replace e5' := add1c e5'; subst e5')); intro F' N')); (case' u2 => (clear e5'; intro D' h' tk' ys' t1' t2' t3' q1' q2' q3' dn' yl' F' N'; (try k_sweep))))) | (with_reducible (k_here; (with_reducible show wpAny _ _ (compareOp CmpOp.NotEq (Value.ref _) (Value.ref _)) _ _ _); k_dflt (first | ((rename RunOut _ _ _ _ _ _ _ _ _ _ => RO'); first | (refine' told_stop1 RO' ?k1 ?k2 ?h1 ?h2 ?mz ?me ?hm ?_; (case k1 => k_asm); (case mz => k_mem); (case me => k_mem); (case k2 => (k_room)); (case h1 => omega); (case h2 => omega); (case hm => omega); clear RO'; k_whole; intro e7') | (refine' told_stop2 RO' ?k1 ?k2 ?hn ?hs ?mz ?me ?hm ?_; (case k1 => k_asm); (case mz => k_mem); (case me => k_mem); (case k2 => (k_room)); (case hn => omega); (case hs => first | exact su_one (by assumption) | exact if_pos (by assumption) | (split <;> omega)); (case hm => omega); clear RO'; k_whole; intro e7') | (refine' told_back RO' ?k1 ?k2 ?hn ?hs ?hx ?mz ?me ?mr ?_; (case k1 => k_asm); (case mz => k_mem); (case me => k_mem); (case mr => k_mem); (case k2 => (k_room)); (case hn => omega); (case hs => first | exact su_zero (by assumption) | exact if_neg (by assumption) | exact if_neg (ne_true_of_eq_false (by assumption)) | (split <;> omega)); (case hx => (first | (refine sub_of ?_; with_reducible (repeat' constructor); done) | ((repeat (refine List.forall_mem_cons.mpr ⟨?_, ?_⟩; k_mem)); exact sub_of (by repeat' constructor)))); clear RO'; k_whole; intro e7')) | (first | (refine' due_take ?k1 ?k2 ?ee ?hA ?hz ?mq ?md ?ho ?hD ?hl ?h1 ?hk ?_; (case k1 => k_asm); (case ee => with_reducible assumption); (case mq => k_mem); (case md => k_mem); (case ho => with_reducible rfl); (case hA => with_reducible assumption); (case hz => ((refine mem_tr (by with_reducible assumption) ?_); (first | (refine sub_of ?_; with_reducible (repeat' constructor); done) | ((repeat (refine List.forall_mem_cons.mpr ⟨?_, ?_⟩; k_mem)); exact sub_of (by repeat' constructor))))); (case k2 => (k_room)); (case hD => (refine' DueN.due ?dN ?ds ?dd; (case dN => k_asm); (case dd => with_reducible assumption); (case ds => (first | (refine sub_of ?_; with_reducible (repeat' constructor); done) | ((repeat (refine List.forall_mem_cons.mpr ⟨?_, ?_⟩; k_mem)); exact sub_of (by repeat' constructor)))))); (case hl => with_reducible assumption); (case h1 => omega); (case hk => first | (simp only [List.length_cons, List.length_nil]; omega) | omega); k_whole) | (refine' due_all ?k1 ?k2 ?ee ?hA ?hz ?mq ?md ?ho ?hD ?hl ?hk ?_; (case k1 => k_asm); (case ee => with_reducible assumption); (case mq => k_mem); (case md => k_mem); (case ho => with_reducible rfl); (case hA => with_reducible assumption); (case hz => ((refine mem_tr (by with_reducible assumption) ?_); (first | (refine sub_of ?_; with_reducible (repeat' constructor); done) | ((repeat (refine List.forall_mem_cons.mpr ⟨?_, ?_⟩; k_mem)); exact sub_of (by repeat' constructor))))); (case k2 => (k_room)); (case hD => (refine' DueN.due ?dN ?ds ?dd; (case dN => k_asm); (case dd => with_reducible assumption); (case ds => (first | (refine sub_of ?_; with_reducible (repeat' constructor); done) | ((repeat (refine List.forall_mem_cons.mpr ⟨?_, ?_⟩; k_mem)); exact sub_of (by repeat' constructor)))))); (case hl => with_reducible assumption); (case hk => first | (simp only [List.length_cons, List.length_nil]; omega) | omega); k_whole))))) | ((with_reducible show wpAny _ _ (callWith _ (Value.ref _) _ _ _) _ _ _); first | (with_reducible (k_here; k_dflt (first | (refine' callWith_K ?k1 ?k2 ?_; (case k1 => k_asm); (case k2 => k_is); k_whole) | (refine' callWith_KW ?k1 ?k2 ?k3 ?_; (case k1 => k_asm); (case k2 => k_is); (case k3 => exact rfl); k_whole) | (refine' callWith_KW0 ?k1 ?k2 ?k3 ?_; (case k1 => k_asm); (case k2 => k_is); (case k3 => exact rfl); k_whole)))) | (k_here; k_dflt (first | (refine' callWith_K ?k1 ?k2 ?_; (case k1 => k_asm); (case k2 => k_is); k_whole) | (refine' callWith_KW ?k1 ?k2 ?k3 ?_; (case k1 => k_asm); (case k2 => k_is); (case k3 => exact rfl); k_whole) | (refine' callWith_KW0 ?k1 ?k2 ?k3 ?_; (case k1 => k_asm); (case k2 => k_is); (case k3 => exact rfl); k_whole)))) | (with_reducible ((with_reducible show wpAny _ _ (exec (Stmt.Assign _ _ ⟨487, _, _, _⟩) _) _ _ _); (fail_if_success (have : Mark 487 := by with_reducible assumption)); (rename News _ _ _ _ => lN'); (replace lN' := Keep.news (Keep.keep (Keep.skip (Keep.skip (Keep.skip (Keep.skip (Keep.keep (Keep.keep (Keep.keep (Keep.skip Keep.all))))))))) lN'); (have : Mark 487 := ⟨⟩))) | (with_reducible ((with_reducible show wpAny _ _ (exec (Stmt.Assign _ _ ⟨486, _, _, _⟩) _) _ _ _); (fail_if_success (have : Mark 486 := by with_reducible assumption)); (rename News _ _ _ _ => lN'); (replace lN' := Keep.news (Keep.skip Keep.all) lN'); (have : Mark 486 := ⟨⟩))) | (with_reducible ((with_reducible show wpAny _ _ (exec (Stmt.Assign _ _ ⟨485, _, _, _⟩) _) _ _ _); (fail_if_success (have : Mark 485 := by with_reducible assumption)); (rename News _ _ _ _ => lN'); (replace lN' := Keep.news (Keep.keep (Keep.skip (Keep.skip (Keep.skip (Keep.skip (Keep.skip (Keep.skip Keep.all))))))) lN'); (have : Mark 485 := ⟨⟩))) | (with_reducible ((with_reducible show wpAny _ _ (exec (Stmt.Assign _ _ ⟨484, _, _, _⟩) _) _ _ _); (fail_if_success (have : Mark 484 := by with_reducible assumption)); (rename News _ _ _ _ => lN'); (replace lN' := Keep.news (Keep.skip Keep.all) lN'); (have : Mark 484 := ⟨⟩))) | (with_reducible ((with_reducible show wpAny _ _ (exec (Stmt.Assign _ _ ⟨483, _, _, _⟩) _) _ _ _); (fail_if_success (have : Mark 483 := by with_reducible assumption)); (rename News _ _ _ _ => lN'); (replace lN' := Keep.news (Keep.skip Keep.all) lN'); (have : Mark 483 := ⟨⟩))) | (with_reducible (k_here; (with_reducible show wpAny _ _ (eval (Expr.IfExp _ (Expr.Constant _ _ _) (Expr.Name _ _) _) _) _ _ _); (fail_if_success (with_reducible show wpAny _ _ _ (MergeQ _ _ _) _ _)); k_dflt (with_unfolding_all refine' merge_wide ?F ?hm ?hc ?N ?mb ?db ?w1 ?w2; (case F => k_asm); (case hm => rfl); (case hc => rfl); (case N => k_asm); (case mb => k_mem); (case db => with_reducible assumption)))) | (with_reducible (k_here; (with_reducible show wpAny _ _ (pyIter (Value.ref _)) (fun it s₂ => LoopAtV _ _ _ _ _ (Str.ofString "turn") _ _ _ it s₂) _ _); (rename IsRange _ _ _ _ _ _ _ _ => rgX); (with_unfolding_all refine' law_loop ?hh ?k1 ?k2 ?k3 ?k4 ?k5 ?cc ?k6 ?k7 ?k8 rgX ?hI ?hl ?m1 ?m2 ?m3 ?o1 ?m4 ?m5 ?m6 ?d1 ?d2 ?d3 ?o2 ?o3 ?o4 ?o5 ?turn ?done; (case hh => rfl); (case k1 => k_asm); (case k2 => k_asm); (case k3 => k_asm); (case k4 => k_asm); (case k5 => k_asm); (case cc => assumption); (case k6 => first | exact rfl | assumption); (case k7 => k_room); (case k8 => k_room); (case m1 => k_mem); (case m2 => k_mem); (case m3 => k_mem); (case hI => l_ints); (case hl => omega); (case o1 => omega); (case m4 => k_mem); (case m5 => k_mem); (case m6 => k_mem); (case d1 => k_asm); (case d2 => k_asm); (case d3 => k_asm); (case o2 => omega); (case o3 => omega); (case o4 => omega); (case o5 => omega)))) | ((with_reducible show wpAny _ _ (newList _) _ _ _); first | (with_reducible (k_here; k_dflt (refine' newList_K ?k1 ?k2 ?_; (case k1 => k_asm); (case k2 => k_asm); k_whole); intro l' h' F' N' l1; (try k_lt l1); (try k_sweep))) | (k_here; k_dflt (refine' newList_K ?k1 ?k2 ?_; (case k1 => k_asm); (case k2 => k_asm); k_whole); intro l' h' F' N' l1; (try k_lt l1); (try k_sweep))) | (with_reducible ((with_reducible show DueQ _ _ _ _ _ _ _ _ _ _ _ _); k_dflt (refine' dueQ_intro ?F ?N ?mD ?d ?m1 ?m2 ?m3 ?hk ?hl; (case F => k_asm); (case N => k_asm); (case mD => k_mem); (case d => repeat' (first | exact DueN.nil | (refine' DueN.cons2 ?dN ?dk ?dm ?de ?_; (case dN => k_asm); (case dk => k_mem); (case dm => k_mem); (case de => omega)))); (case m1 => k_mem); (case m2 => k_mem); (case m3 => k_mem); (case hk => (first | (refine sub_of ?_; with_reducible (repeat' constructor); done) | ((repeat (refine List.forall_mem_cons.mpr ⟨?_, ?_⟩; k_mem)); exact sub_of (by repeat' constructor)))); (case hl => first | rfl | (simp; done))))) | ((with_reducible show LCg.FinA ..); first | (with_reducible ((unfold LCg.FinA); intro D' h' tk' F' N' o1'; (try simp only [List.nil_append, List.cons_append] at N'); (try dsimp only))) | ((unfold LCg.FinA); intro D' h' tk' F' N' o1'; (try simp only [List.nil_append, List.cons_append] at N'); (try dsimp only))) | ((with_reducible show LCg.CompEnd ..); first | (with_reducible (refine' compEnd_one ?F ?off ?N ?mt ?a1 ?a2 ?a3 ?sub ?src ?_; (case F => k_asm); (case off => with_reducible assumption); (case N => k_asm); (case mt => k_mem); (case a1 => omega); (case a2 => omega); (case a3 => omega); (case sub => (first | (refine sub_of ?_; with_reducible (repeat' constructor); done) | ((repeat (refine List.forall_mem_cons.mpr ⟨?_, ?_⟩; k_mem)); exact sub_of (by repeat' constructor)))); (case src => lcg_src))) | (refine' compEnd_one ?F ?off ?N ?mt ?a1 ?a2 ?a3 ?sub ?src ?_; (case F => k_asm); (case off => with_reducible assumption); (case N => k_asm); (case mt => k_mem); (case a1 => omega); (case a2 => omega); (case a3 => omega); (case sub => (first | (refine sub_of ?_; with_reducible (repeat' constructor); done) | ((repeat (refine List.forall_mem_cons.mpr ⟨?_, ?_⟩; k_mem)); exact sub_of (by repeat' constructor)))); (case src => lcg_src))) | ((with_reducible show LCg.CompRest ..); first | (with_reducible (with_unfolding_all first | (refine LCg.CompRest.succ ?_; intro v' I' oI' C' oC' D' m' h' tk' E' hv' hC' hx' F' N' off' ne'; (first | lcg_open hv' | (obtain ⟨t9', hv9'⟩ := hv'; subst hv9'))) | refine LCg.CompRest.zero ?_)) | (with_unfolding_all first | (refine LCg.CompRest.succ ?_; intro v' I' oI' C' oC' D' m' h' tk' E' hv' hC' hx' F' N' off' ne'; (first | lcg_open hv' | (obtain ⟨t9', hv9'⟩ := hv'; subst hv9'))) | refine LCg.CompRest.zero ?_)) | ((with_reducible show MergeQ ..); first | (with_reducible (refine ⟨_, _, _, rfl, rfl, ?_⟩; first | omega | (simp_all; done) | (simp_all; omega))) | (refine ⟨_, _, _, rfl, rfl, ?_⟩; first | omega | (simp_all; done) | (simp_all; omega))) | (with_reducible (k_here; (with_reducible show wpAny _ _ (subscriptTail _ _ (Value.ref _) (Value.int _ _)) _ _ _); k_dflt (refine' kim_list ?k1 ?k2 ?k3 ?k4 ?k5 ?k6 ?k7 ?_; (case k1 => k_asm); (case k2 => k_mem); (case k3 => rfl); (case k4 => rfl); (case k5 => decide); (case k6 => decide); (case k7 => rfl); k_whole))) | ((with_reducible show wpAny _ _ (subscriptTail _ _ (Value.ref _) (Value.int _ _)) _ _ _); first | (with_reducible (k_here; kim_at)) | (k_here; kim_at)) | walk1 | dsimp only | (leave1; walk_say "STEP leave1"; try dsimp only))
  case turn =>
    law_clear
    unfold TurnHyp
    intro p loose mean mg mb dp un gd a ccd outer A₀ base h₀ L s Q E rp sl n n2 ce k1 k2 k3 ws ns u m₁ i ti tk t tab oe b1 b2 b3 y1 y2 y3 I ia ib B F X N T C hkd hdp hun hI hl ht0 ht1 hTab hce1 hce2 o1 o2 o3 o4 o5 hk1 hk2 hk3 hb1 hb2 hb3 hi1 hi2 hret
    have o2a := o2.1
    have o2b := o2.2
    have o3a := o3.1
    have o3b := o3.2
    have o4a := o4.1
    have o4b := o4.2
    have o5a := o5.1
    have o5b := o5.2.1
    have o5c := o5.2.2
    repeat' (first
        | (k_unfold; (try dsimp only))
        | (k_end; wrow_close)
        | ((with_reducible show wpAny _ _ (call (Value.ref _) _ _) _ _ _); (first
        | (with_reducible (k_here; (with_reducible show wpAny _ _ (call (Value.ref 538) _) _ _ _); k_dflt (refine' loop_use ?k1 ?k2 ?k3 ?k4 ?k5 ?k6 ?k7 ?k8 ?m1 ?m2 ?hI ?hl ?ht0 ?ht1 ?hlt ?m3 ?ht5 ?_; (case k1 => k_asm); (case k2 => k_asm); (case k3 => k_asm); (case k4 => k_asm); (case k5 => k_asm); (case k6 => first | exact rfl | assumption); (case k7 => k_room); (case k8 => k_room); (case m1 => k_mem); (case m2 => k_mem); (case hI => l_ints); (case hl => omega); (case ht0 => omega); (case ht1 => omega); (case hlt => omega); (case m3 => k_mem); (case ht5 => omega); k_whole); intro h' tk' t' F' N'; (try k_sweep)))
        | (with_reducible (k_here; (with_reducible show wpAny _ _ (call (Value.ref 442) _) _ _ _); k_dflt (refine' run_law ?k1 ?k2 ?k3 ?k4 ?k5 ?k6 ?k7 ?k8 ?P ?m1 ?m2 ?m3 ?m4 ?m5 ?m6 ?m7 ?m8 ?m9 ?m10 ?a1 ?a2 ?hcl ?a3 ?a4 ?a5 ?a6 ?a7 ?a8 ?a9 ?a10 ?a11 ?a12 ?r14 ?r1 ?r2 ?r3 ?r4 ?r5 ?r6 ?r7 ?r8 ?r9 ?r10 ?r11 ?r12 ?r13 ?s1 ?s2 ?s3 ?s4 ?s5 ?s6 ?hC ?hcs ?hW ?hm ?hm3 ?hk0 ?hk1 ?hfl0 ?hfl1 ?hv0 ?hv1 ?hs0 ?hs1 ?hf ?o1 ?o2 ?o3 ?o4 ?o5 ?o6 ?o7 ?o8 ?o9 ?_; (case k1 => k_asm); (case k2 => k_asm); (case k3 => k_asm); (case k4 => k_asm); (case k5 => k_asm); (case k6 => first | exact rfl | assumption); (case k7 => k_room); (case k8 => k_room); (case P => with_reducible assumption); (case m1 => k_mem); (case m2 => k_mem); (case m3 => k_mem); (case m4 => k_mem); (case m5 => k_mem); (case m6 => k_mem); (case m7 => k_mem); (case m8 => k_mem); (case m9 => k_mem); (case m10 => k_mem); (case a1 => k_mem); (case a2 => k_mem); (case hcl => exact rfl); (case a3 => k_mem); (case a4 => k_mem); (case a5 => k_mem); (case a6 => with_reducible assumption); (case a7 => k_mem); (case a8 => k_mem); (case a9 => k_mem); (case a10 => k_mem); (case a11 => k_mem); (case a12 => k_mem); (case r14 => omega); (case r1 => omega); (case r2 => omega); (case r3 => omega); (case r4 => omega); (case r5 => omega); (case r6 => omega); (case r7 => omega); (case r8 => omega); (case r9 => omega); (case r10 => omega); (case r11 => omega); (case r12 => omega); (case r13 => omega); (case s1 => omega); (case s2 => exact cx_ne (by with_reducible assumption) (by omega) (by with_reducible assumption)); (case s3 => exact cx_ne (by with_reducible assumption) (by omega) (by with_reducible assumption)); (case s4 => exact cx_ne (by with_reducible assumption) (by omega) (by with_reducible assumption)); (case s5 => exact cx_ne (by with_reducible assumption) (by omega) (by with_reducible assumption)); (case s6 => exact cx_ne (by with_reducible assumption) (by omega) (by with_reducible assumption)); (case hC => with_reducible assumption); (case hcs => (with_unfolding_all rfl)); (case hW => exact rfl); (case hm => omega); (case hm3 => omega); (case hk0 => omega); (case hk1 => omega); (case hfl0 => omega); (case hfl1 => omega); (case hv0 => omega); (case hv1 => omega); (case hs0 => first | omega | (split <;> omega)); (case hs1 => first | omega | (split <;> omega)); (case hf => exact hf_of (by with_reducible assumption) (by with_reducible assumption) (by with_reducible assumption)); (case o1 => omega); (case o2 => omega); (case o3 => omega); (case o4 => omega); (case o5 => omega); (case o6 => omega); (case o7 => omega); (case o8 => omega); (case o9 => omega); k_whole); intro h' tk' z' z1' z2' z3' z4' p1' p2' p3' p4' A' B' zs' arr' nq' e1' e2' e3' e4' e5' s1' s2' s3' s4' s5' s6' F' N'; (repeat (with_reducible rename _ ∧ _ => lq'; clear lq')); (try k_sweep)))
        | (with_reducible (k_here; (with_reducible show wpAny _ _ (call (Value.ref 508) _) _ _ _); k_dflt (refine' stepper_use ?k1 ?k2 ?k3 ?k4 ?k5 ?k6 ?k7 ?k8 ?m1 ?_; (case k1 => k_asm); (case k2 => k_asm); (case k3 => k_asm); (case k4 => k_asm); (case k5 => k_asm); (case k6 => first | exact rfl | assumption); (case k7 => k_room); (case k8 => k_room); (case m1 => k_mem); k_whole); intro h' tk' x' dx' sk' tk1' tr' tt' tp' l1 l2 l3 F' N'; (try k_lt l1); (try k_lt2 l2); (try k_lt2 l3); (try k_sweep)))
        | (with_reducible (k_here; (with_reducible show wpAny _ _ (call (Value.ref 95) _ _) _ _ _); k_dflt (refine' limits_use ?k1 ?k2 ?k3 ?k4 ?k5 ?k6 ?k7 ?k8  ?_; (case k1 => k_asm); (case k2 => k_asm); (case k3 => k_asm); (case k4 => k_asm); (case k5 => k_asm); (case k6 => first | exact rfl | assumption); (case k7 => k_room); (case k8 => k_room); k_whole); intro h' tk' x' dx' tk1' l1 l2 F' N'; (try k_lt l1); (try k_lt2 l2); (try k_sweep)))
        | (with_reducible (k_here; (with_reducible show wpAny _ _ (call (Value.ref 417) _) _ _ _); k_dflt (refine' works_use ?k1 ?k2 ?k3 ?k4 ?k5 ?k6 ?k7 ?k8  ?_; (case k1 => k_asm); (case k2 => k_asm); (case k3 => k_asm); (case k4 => k_asm); (case k5 => k_asm); (case k6 => first | exact rfl | assumption); (case k7 => k_room); (case k8 => k_room); k_whole); intro h' tk' x' dx' tk1' l1 l2 F' N'; (try k_lt l1); (try k_lt2 l2); (try k_sweep)))
        | (with_reducible (k_here; (with_reducible show wpAny _ _ (call (Value.ref 533) _) _ _ _); k_dflt (refine' mkput_use ?k1 ?k2 ?k3 ?k4 ?k5 ?k6 ?k7 ?k8 ?m1 ?mi ?ht ?m2 ?C ?_; (case k1 => k_asm); (case k2 => k_asm); (case k3 => k_asm); (case k4 => k_asm); (case k5 => k_asm); (case k6 => first | exact rfl | assumption); (case k7 => k_room); (case k8 => k_room); (case m1 => k_mem); (case mi => walk_at "my minus"); (case ht => with_reducible assumption); (case m2 => k_mem); (case C => assumption); k_whole); intro h' tk' f' oc' od' fd' sl' c' oc' c1' o1' c2' o2' tab' F' N' l1 l2' l3' l4' l5' cx' ht' P'; (have l3q := l3'); (try k_lt l1); (try have l5q := or_zq l5' hce1 (by tbn_letter : @LT.lt Nat _ 528 _)); (try k_sweep)))
        | (with_reducible (k_here; (with_reducible show wpAny _ _ (call (Value.ref 519) _) _ _ _); k_dflt (refine' next_use ?k1 ?k2 ?k3 ?k4 ?k5 ?k6 ?k7 ?k8 ?m1 ?m2 ?mi ?i1 ?i2 ?i3 ?i4 ?i5 ?i6 ?i7 ?_; (case k1 => k_asm); (case k2 => k_asm); (case k3 => k_asm); (case k4 => k_asm); (case k5 => k_asm); (case k6 => first | exact rfl | assumption); (case k7 => k_room); (case k8 => k_room); (case m1 => k_mem); (case m2 => k_mem); (case mi => walk_at "my minus"); (case i1 => l_ints); (case i2 => first | assumption | omega); (case i3 => omega); (case i4 => omega); (case i5 => decide); (case i6 => decide); (case i7 => omega); k_whole); intro v' tv' t' h' tk' v0' v1' F' N'; (try k_sweep)))))
        | ((with_reducible show wpAny _ _ (exec (Stmt.For ..) _) _ _ _); first | (with_reducible (k_here; (rename Fr _ _ _ _ => lF'); (with_unfolding_all refine' For_invVF lF' ?k1 ?k2 ?_; (case k1 => exact rfl); (case k2 => exact rfl); k_whole))) | (k_here; (rename Fr _ _ _ _ => lF'); (with_unfolding_all refine' For_invVF lF' ?k1 ?k2 ?_; (case k1 => exact rfl); (case k2 => exact rfl); k_whole)))
        | (with_reducible ((with_reducible show wpAny _ _ (subscriptTail _ (PySem.Expr.Slice _ _ none _) (Value.ref _) (Value.ref _)) _ _ _); k_dflt (refine slice_list (by k_asm) (by k_asm) (News.isList (by k_asm) (by k_mem)) (by first | exact .none | exact .int _ _) (by first | exact .none | exact .int _ _) ?_ (hsz := by first | exact lst_small (by with_reducible assumption) (by omega) | exact Nat.le_of_ble_eq_true rfl)); intro _ _ _))
        | (with_reducible (k_here; (with_reducible show wpAny _ _ (exec (Stmt.Assign _ (Expr.ListComp _ _ _ _) _) _) (DueQ _ _ _ _ _ _ _ _ _ _) _ _); lcf_look; lcg_calm; k_dflt (refine LCg.Assign_ListComp_U (F₀ := by k_asm) (by rfl) (by with_unfolding_all rfl) (by with_unfolding_all rfl) (by decide) (by rfl) (by decide) (by rfl) (by rfl) (by rfl) ?_); k_dflt lcg_toSrc))
        | (with_reducible (k_here; (with_reducible show wpAny _ _ (exec (Stmt.Assign _ (Expr.ListComp _ _ _ _) _) _) _ _ _); (fail_if_success (with_reducible show wpAny _ _ _ (DueQ _ _ _ _ _ _ _ _ _ _) _ _)); k_dflt (refine' merge_due (Str.ofString "due") #[116] ?F ?N ?hA ?RO ?u1 ?u2; (case F => k_asm); (case N => k_asm); (case hA => with_reducible assumption); (case RO => with_reducible assumption)); (case' u1 => (rcases e5' with e5' | e5' | e5') <;> ((first | (replace e5' := add1a e5'; subst e5') | (replace e5' := add1b e5'; subst e5') | (replace e5' := add1c e5'; subst e5')); intro F' N')); (case' u2 => (clear e5'; intro D' h' tk' ys' t1' t2' t3' q1' q2' q3' dn' yl' F' N'; (try k_sweep)))))
        | (with_reducible (k_here; (with_reducible show wpAny _ _ (compareOp CmpOp.NotEq (Value.ref _) (Value.ref _)) _ _ _); k_dflt (first | ((rename RunOut _ _ _ _ _ _ _ _ _ _ => RO'); first | (refine' told_stop1 RO' ?k1 ?k2 ?h1 ?h2 ?mz ?me ?hm ?_; (case k1 => k_asm); (case mz => k_mem); (case me => k_mem); (case k2 => (k_room)); (case h1 => omega); (case h2 => omega); (case hm => omega); clear RO'; k_whole; intro e7') | (refine' told_stop2 RO' ?k1 ?k2 ?hn ?hs ?mz ?me ?hm ?_; (case k1 => k_asm); (case mz => k_mem); (case me => k_mem); (case k2 => (k_room)); (case hn => omega); (case hs => first | exact su_one (by assumption) | exact if_pos (by assumption) | (split <;> omega)); (case hm => omega); clear RO'; k_whole; intro e7') | (refine' told_back RO' ?k1 ?k2 ?hn ?hs ?hx ?mz ?me ?mr ?_; (case k1 => k_asm); (case mz => k_mem); (case me => k_mem); (case mr => k_mem); (case k2 => (k_room)); (case hn => omega); (case hs => first | exact su_zero (by assumption) | exact if_neg (by assumption) | exact if_neg (ne_true_of_eq_false (by assumption)) | (split <;> omega)); (case hx => (first | (refine sub_of ?_; with_reducible (repeat' constructor); done) | ((repeat (refine List.forall_mem_cons.mpr ⟨?_, ?_⟩; k_mem)); exact sub_of (by repeat' constructor)))); clear RO'; k_whole; intro e7')) | (first | (refine' due_take ?k1 ?k2 ?ee ?hA ?hz ?mq ?md ?ho ?hD ?hl ?h1 ?hk ?_; (case k1 => k_asm); (case ee => with_reducible assumption); (case mq => k_mem); (case md => k_mem); (case ho => with_reducible rfl); (case hA => with_reducible assumption); (case hz => ((refine mem_tr (by with_reducible assumption) ?_); (first | (refine sub_of ?_; with_reducible (repeat' constructor); done) | ((repeat (refine List.forall_mem_cons.mpr ⟨?_, ?_⟩; k_mem)); exact sub_of (by repeat' constructor))))); (case k2 => (k_room)); (case hD => (refine' DueN.due ?dN ?ds ?dd; (case dN => k_asm); (case dd => with_reducible assumption); (case ds => (first | (refine sub_of ?_; with_reducible (repeat' constructor); done) | ((repeat (refine List.forall_mem_cons.mpr ⟨?_, ?_⟩; k_mem)); exact sub_of (by repeat' constructor)))))); (case hl => with_reducible assumption); (case h1 => omega); (case hk => first | (simp only [List.length_cons, List.length_nil]; omega) | omega); k_whole) | (refine' due_all ?k1 ?k2 ?ee ?hA ?hz ?mq ?md ?ho ?hD ?hl ?hk ?_; (case k1 => k_asm); (case ee => with_reducible assumption); (case mq => k_mem); (case md => k_mem); (case ho => with_reducible rfl); (case hA => with_reducible assumption); (case hz => ((refine mem_tr (by with_reducible assumption) ?_); (first | (refine sub_of ?_; with_reducible (repeat' constructor); done) | ((repeat (refine List.forall_mem_cons.mpr ⟨?_, ?_⟩; k_mem)); exact sub_of (by repeat' constructor))))); (case k2 => (k_room)); (case hD => (refine' DueN.due ?dN ?ds ?dd; (case dN => k_asm); (case dd => with_reducible assumption); (case ds => (first | (refine sub_of ?_; with_reducible (repeat' constructor); done) | ((repeat (refine List.forall_mem_cons.mpr ⟨?_, ?_⟩; k_mem)); exact sub_of (by repeat' constructor)))))); (case hl => with_reducible assumption); (case hk => first | (simp only [List.length_cons, List.length_nil]; omega) | omega); k_whole)))))
        | ((with_reducible show wpAny _ _ (callWith _ (Value.ref _) _ _ _) _ _ _); first | (with_reducible (k_here; k_dflt (first | (refine' callWith_K ?k1 ?k2 ?_; (case k1 => k_asm); (case k2 => k_is); k_whole) | (refine' callWith_KW ?k1 ?k2 ?k3 ?_; (case k1 => k_asm); (case k2 => k_is); (case k3 => exact rfl); k_whole) | (refine' callWith_KW0 ?k1 ?k2 ?k3 ?_; (case k1 => k_asm); (case k2 => k_is); (case k3 => exact rfl); k_whole)))) | (k_here; k_dflt (first | (refine' callWith_K ?k1 ?k2 ?_; (case k1 => k_asm); (case k2 => k_is); k_whole) | (refine' callWith_KW ?k1 ?k2 ?k3 ?_; (case k1 => k_asm); (case k2 => k_is); (case k3 => exact rfl); k_whole) | (refine' callWith_KW0 ?k1 ?k2 ?k3 ?_; (case k1 => k_asm); (case k2 => k_is); (case k3 => exact rfl); k_whole))))
        | (with_reducible ((with_reducible show wpAny _ _ (exec (Stmt.Assign _ _ ⟨487, _, _, _⟩) _) _ _ _); (fail_if_success (have : Mark 487 := by with_reducible assumption)); (rename News _ _ _ _ => lN'); (replace lN' := Keep.news (Keep.keep (Keep.skip (Keep.skip (Keep.skip (Keep.skip (Keep.keep (Keep.keep (Keep.keep (Keep.skip Keep.all))))))))) lN'); (have : Mark 487 := ⟨⟩)))
        | (with_reducible ((with_reducible show wpAny _ _ (exec (Stmt.Assign _ _ ⟨486, _, _, _⟩) _) _ _ _); (fail_if_success (have : Mark 486 := by with_reducible assumption)); (rename News _ _ _ _ => lN'); (replace lN' := Keep.news (Keep.skip Keep.all) lN'); (have : Mark 486 := ⟨⟩)))
        | (with_reducible ((with_reducible show wpAny _ _ (exec (Stmt.Assign _ _ ⟨485, _, _, _⟩) _) _ _ _); (fail_if_success (have : Mark 485 := by with_reducible assumption)); (rename News _ _ _ _ => lN'); (replace lN' := Keep.news (Keep.keep (Keep.skip (Keep.skip (Keep.skip (Keep.skip (Keep.skip (Keep.skip Keep.all))))))) lN'); (have : Mark 485 := ⟨⟩)))
        | (with_reducible ((with_reducible show wpAny _ _ (exec (Stmt.Assign _ _ ⟨484, _, _, _⟩) _) _ _ _); (fail_if_success (have : Mark 484 := by with_reducible assumption)); (rename News _ _ _ _ => lN'); (replace lN' := Keep.news (Keep.skip Keep.all) lN'); (have : Mark 484 := ⟨⟩)))
        | (with_reducible ((with_reducible show wpAny _ _ (exec (Stmt.Assign _ _ ⟨483, _, _, _⟩) _) _ _ _); (fail_if_success (have : Mark 483 := by with_reducible assumption)); (rename News _ _ _ _ => lN'); (replace lN' := Keep.news (Keep.skip Keep.all) lN'); (have : Mark 483 := ⟨⟩)))
        | (with_reducible (k_here; (with_reducible show wpAny _ _ (eval (Expr.IfExp _ (Expr.Constant _ _ _) (Expr.Name _ _) _) _) _ _ _); (fail_if_success (with_reducible show wpAny _ _ _ (MergeQ _ _ _) _ _)); k_dflt (with_unfolding_all refine' merge_wide ?F ?hm ?hc ?N ?mb ?db ?w1 ?w2; (case F => k_asm); (case hm => rfl); (case hc => rfl); (case N => k_asm); (case mb => k_mem); (case db => with_reducible assumption))))
        | (with_reducible (k_here; (with_reducible show wpAny _ _ (pyIter (Value.ref _)) (fun it s₂ => LoopAtV _ _ _ _ _ (Str.ofString "turn") _ _ _ it s₂) _ _); (rename IsRange _ _ _ _ _ _ _ _ => rgX); (with_unfolding_all refine' law_loop ?hh ?k1 ?k2 ?k3 ?k4 ?k5 ?cc ?k6 ?k7 ?k8 rgX ?hI ?hl ?m1 ?m2 ?m3 ?o1 ?m4 ?m5 ?m6 ?d1 ?d2 ?d3 ?o2 ?o3 ?o4 ?o5 ?turn ?done; (case hh => rfl); (case k1 => k_asm); (case k2 => k_asm); (case k3 => k_asm); (case k4 => k_asm); (case k5 => k_asm); (case cc => assumption); (case k6 => first | exact rfl | assumption); (case k7 => k_room); (case k8 => k_room); (case m1 => k_mem); (case m2 => k_mem); (case m3 => k_mem); (case hI => l_ints); (case hl => omega); (case o1 => omega); (case m4 => k_mem); (case m5 => k_mem); (case m6 => k_mem); (case d1 => k_asm); (case d2 => k_asm); (case d3 => k_asm); (case o2 => omega); (case o3 => omega); (case o4 => omega); (case o5 => omega))))
        | ((with_reducible show wpAny _ _ (newList _) _ _ _); first | (with_reducible (k_here; k_dflt (refine' newList_K ?k1 ?k2 ?_; (case k1 => k_asm); (case k2 => k_asm); k_whole); intro l' h' F' N' l1; (try k_lt l1); (try k_sweep))) | (k_here; k_dflt (refine' newList_K ?k1 ?k2 ?_; (case k1 => k_asm); (case k2 => k_asm); k_whole); intro l' h' F' N' l1; (try k_lt l1); (try k_sweep)))
        | (with_reducible ((with_reducible show DueQ _ _ _ _ _ _ _ _ _ _ _ _); k_dflt (refine' dueQ_intro ?F ?N ?mD ?d ?m1 ?m2 ?m3 ?hk ?hl; (case F => k_asm); (case N => k_asm); (case mD => k_mem); (case d => repeat' (first | exact DueN.nil | (refine' DueN.cons2 ?dN ?dk ?dm ?de ?_; (case dN => k_asm); (case dk => k_mem); (case dm => k_mem); (case de => omega)))); (case m1 => k_mem); (case m2 => k_mem); (case m3 => k_mem); (case hk => (first | (refine sub_of ?_; with_reducible (repeat' constructor); done) | ((repeat (refine List.forall_mem_cons.mpr ⟨?_, ?_⟩; k_mem)); exact sub_of (by repeat' constructor)))); (case hl => first | rfl | (simp; done)))))
        | ((with_reducible show LCg.FinA ..); first | (with_reducible ((unfold LCg.FinA); intro D' h' tk' F' N' o1'; (try simp only [List.nil_append, List.cons_append] at N'); (try dsimp only))) | ((unfold LCg.FinA); intro D' h' tk' F' N' o1'; (try simp only [List.nil_append, List.cons_append] at N'); (try dsimp only)))
        | ((with_reducible show LCg.CompEnd ..); first | (with_reducible (refine' compEnd_one ?F ?off ?N ?mt ?a1 ?a2 ?a3 ?sub ?src ?_; (case F => k_asm); (case off => with_reducible assumption); (case N => k_asm); (case mt => k_mem); (case a1 => omega); (case a2 => omega); (case a3 => omega); (case sub => (first | (refine sub_of ?_; with_reducible (repeat' constructor); done) | ((repeat (refine List.forall_mem_cons.mpr ⟨?_, ?_⟩; k_mem)); exact sub_of (by repeat' constructor)))); (case src => lcg_src))) | (refine' compEnd_one ?F ?off ?N ?mt ?a1 ?a2 ?a3 ?sub ?src ?_; (case F => k_asm); (case off => with_reducible assumption); (case N => k_asm); (case mt => k_mem); (case a1 => omega); (case a2 => omega); (case a3 => omega); (case sub => (first | (refine sub_of ?_; with_reducible (repeat' constructor); done) | ((repeat (refine List.forall_mem_cons.mpr ⟨?_, ?_⟩; k_mem)); exact sub_of (by repeat' constructor)))); (case src => lcg_src)))
        | ((with_reducible show LCg.CompRest ..); first | (with_reducible (with_unfolding_all first | (refine LCg.CompRest.succ ?_; intro v' I' oI' C' oC' D' m' h' tk' E' hv' hC' hx' F' N' off' ne'; (first | lcg_open hv' | (obtain ⟨t9', hv9'⟩ := hv'; subst hv9'))) | refine LCg.CompRest.zero ?_)) | (with_unfolding_all first | (refine LCg.CompRest.succ ?_; intro v' I' oI' C' oC' D' m' h' tk' E' hv' hC' hx' F' N' off' ne'; (first | lcg_open hv' | (obtain ⟨t9', hv9'⟩ := hv'; subst hv9'))) | refine LCg.CompRest.zero ?_))
        | ((with_reducible show MergeQ ..); first | (with_reducible (refine ⟨_, _, _, rfl, rfl, ?_⟩; first | omega | (simp_all; done) | (simp_all; omega))) | (refine ⟨_, _, _, rfl, rfl, ?_⟩; first | omega | (simp_all; done) | (simp_all; omega)))
        | (with_reducible (k_here; (with_reducible show wpAny _ _ (subscriptTail _ _ (Value.ref _) (Value.int _ _)) _ _ _); k_dflt (refine' kim_list ?k1 ?k2 ?k3 ?k4 ?k5 ?k6 ?k7 ?_; (case k1 => k_asm); (case k2 => k_mem); (case k3 => rfl); (case k4 => rfl); (case k5 => decide); (case k6 => decide); (case k7 => rfl); k_whole)))
        | ((with_reducible show wpAny _ _ (subscriptTail _ _ (Value.ref _) (Value.int _ _)) _ _ _); first | (with_reducible (k_here; kim_at)) | (k_here; kim_at))
        | walk1
        | dsimp only
        | (leave1; walk_say "STEP leave1"; try dsimp only)
        | fail "no step")
    all_goals (
      refine' hret _ _ _ [] _ _ _ _ _ _ _ _ _ _ _ _ ?d1 ?d2 ?d3 ?c1 ?c2 ?c3 ?fr ?nw ?map ?t0 ?t1 ?tab ?ce ?cr ?ci ?mem
      case fr => (k_asm)
      case nw => (k_asm)
      case tab => (with_reducible assumption)
      case mem => ((first | (refine sub_of ?_; with_reducible (repeat' constructor); done) | ((repeat (refine List.forall_mem_cons.mpr ⟨?_, ?_⟩; k_mem)); exact sub_of (by repeat' constructor))))
      case d1 => (with_reducible assumption)
      case d2 => (with_reducible assumption)
      case d3 => (with_reducible assumption)
      case c1 => (with_reducible assumption)
      case c2 => (with_reducible assumption)
      case c3 => (with_reducible assumption)
      case t0 => (omega)
      case t1 => (omega)
      case ce => (with_reducible assumption)
      case cr => (with_reducible assumption)
      case ci => (with_reducible assumption)
      case map => ((intro z hz hs; (have n0 := not_stored hs _ (show Str.ofString "moves" ∈ lawStored by simp [lawStored])); (have n1 := not_stored hs _ (show Str.ofString "many" ∈ lawStored by simp [lawStored])); (have n2 := not_stored hs _ (show Str.ofString "is_wide" ∈ lawStored by simp [lawStored])); (have n3 := not_stored hs _ (show Str.ofString "block" ∈ lawStored by simp [lawStored])); (have n4 := not_stored hs _ (show Str.ofString "flush" ∈ lawStored by simp [lawStored])); (have n5 := not_stored hs _ (show Str.ofString "number" ∈ lawStored by simp [lawStored])); (have n6 := not_stored hs _ (show Str.ofString "code" ∈ lawStored by simp [lawStored])); (have n7 := not_stored hs _ (show Str.ofString "is_sum" ∈ lawStored by simp [lawStored])); (have n8 := not_stored hs _ (show Str.ofString "asked" ∈ lawStored by simp [lawStored])); (have n9 := not_stored hs _ (show Str.ofString "registers" ∈ lawStored by simp [lawStored])); (have n10 := not_stored hs _ (show Str.ofString "works" ∈ lawStored by simp [lawStored])); (have n11 := not_stored hs _ (show Str.ofString "told" ∈ lawStored by simp [lawStored])); (have n12 := not_stored hs _ (show Str.ofString "due" ∈ lawStored by simp [lawStored])); (have n13 := not_stored hs _ (show Str.ofString "end" ∈ lawStored by simp [lawStored])); (have n14 := not_stored hs _ (show Str.ofString "spot" ∈ lawStored by simp [lawStored])); (simp only [lawMap, hs, n0, n1, n2, n3, n4, n5, n6, n7, n8, n9, n10, n11, n12, n13, n14, hz, if_false, if_neg, Bool.false_eq_true, not_false_eq_true])))
      )
  case done =>
    intro h' tk' t' tk1' u' ps' hb1' hb2' F' N'
    (try dsimp only)
    repeat' (first
        | (k_unfold; (try dsimp only))
        | (k_end; wrow_close)
        | ((with_reducible show wpAny _ _ (call (Value.ref _) _ _) _ _ _); (first
        | (with_reducible (k_here; (with_reducible show wpAny _ _ (call (Value.ref 538) _) _ _ _); k_dflt (refine' loop_use ?k1 ?k2 ?k3 ?k4 ?k5 ?k6 ?k7 ?k8 ?m1 ?m2 ?hI ?hl ?ht0 ?ht1 ?hlt ?m3 ?ht5 ?_; (case k1 => k_asm); (case k2 => k_asm); (case k3 => k_asm); (case k4 => k_asm); (case k5 => k_asm); (case k6 => first | exact rfl | assumption); (case k7 => k_room); (case k8 => k_room); (case m1 => k_mem); (case m2 => k_mem); (case hI => l_ints); (case hl => omega); (case ht0 => omega); (case ht1 => omega); (case hlt => omega); (case m3 => k_mem); (case ht5 => omega); k_whole); intro h' tk' t' F' N'; (try k_sweep)))
        | (with_reducible (k_here; (with_reducible show wpAny _ _ (call (Value.ref 442) _) _ _ _); k_dflt (refine' run_law ?k1 ?k2 ?k3 ?k4 ?k5 ?k6 ?k7 ?k8 ?P ?m1 ?m2 ?m3 ?m4 ?m5 ?m6 ?m7 ?m8 ?m9 ?m10 ?a1 ?a2 ?hcl ?a3 ?a4 ?a5 ?a6 ?a7 ?a8 ?a9 ?a10 ?a11 ?a12 ?r14 ?r1 ?r2 ?r3 ?r4 ?r5 ?r6 ?r7 ?r8 ?r9 ?r10 ?r11 ?r12 ?r13 ?s1 ?s2 ?s3 ?s4 ?s5 ?s6 ?hC ?hcs ?hW ?hm ?hm3 ?hk0 ?hk1 ?hfl0 ?hfl1 ?hv0 ?hv1 ?hs0 ?hs1 ?hf ?o1 ?o2 ?o3 ?o4 ?o5 ?o6 ?o7 ?o8 ?o9 ?_; (case k1 => k_asm); (case k2 => k_asm); (case k3 => k_asm); (case k4 => k_asm); (case k5 => k_asm); (case k6 => first | exact rfl | assumption); (case k7 => k_room); (case k8 => k_room); (case P => with_reducible assumption); (case m1 => k_mem); (case m2 => k_mem); (case m3 => k_mem); (case m4 => k_mem); (case m5 => k_mem); (case m6 => k_mem); (case m7 => k_mem); (case m8 => k_mem); (case m9 => k_mem); (case m10 => k_mem); (case a1 => k_mem); (case a2 => k_mem); (case hcl => exact rfl); (case a3 => k_mem); (case a4 => k_mem); (case a5 => k_mem); (case a6 => with_reducible assumption); (case a7 => k_mem); (case a8 => k_mem); (case a9 => k_mem); (case a10 => k_mem); (case a11 => k_mem); (case a12 => k_mem); (case r14 => omega); (case r1 => omega); (case r2 => omega); (case r3 => omega); (case r4 => omega); (case r5 => omega); (case r6 => omega); (case r7 => omega); (case r8 => omega); (case r9 => omega); (case r10 => omega); (case r11 => omega); (case r12 => omega); (case r13 => omega); (case s1 => omega); (case s2 => exact cx_ne (by with_reducible assumption) (by omega) (by with_reducible assumption)); (case s3 => exact cx_ne (by with_reducible assumption) (by omega) (by with_reducible assumption)); (case s4 => exact cx_ne (by with_reducible assumption) (by omega) (by with_reducible assumption)); (case s5 => exact cx_ne (by with_reducible assumption) (by omega) (by with_reducible assumption)); (case s6 => exact cx_ne (by with_reducible assumption) (by omega) (by with_reducible assumption)); (case hC => with_reducible assumption); (case hcs => (with_unfolding_all rfl)); (case hW => exact rfl); (case hm => omega); (case hm3 => omega); (case hk0 => omega); (case hk1 => omega); (case hfl0 => omega); (case hfl1 => omega); (case hv0 => omega); (case hv1 => omega); (case hs0 => first | omega | (split <;> omega)); (case hs1 => first | omega | (split <;> omega)); (case hf => exact hf_of (by with_reducible assumption) (by with_reducible assumption) (by with_reducible assumption)); (case o1 => omega); (case o2 => omega); (case o3 => omega); (case o4 => omega); (case o5 => omega); (case o6 => omega); (case o7 => omega); (case o8 => omega); (case o9 => omega); k_whole); intro h' tk' z' z1' z2' z3' z4' p1' p2' p3' p4' A' B' zs' arr' nq' e1' e2' e3' e4' e5' s1' s2' s3' s4' s5' s6' F' N'; (repeat (with_reducible rename _ ∧ _ => lq'; clear lq')); (try k_sweep)))
        | (with_reducible (k_here; (with_reducible show wpAny _ _ (call (Value.ref 508) _) _ _ _); k_dflt (refine' stepper_use ?k1 ?k2 ?k3 ?k4 ?k5 ?k6 ?k7 ?k8 ?m1 ?_; (case k1 => k_asm); (case k2 => k_asm); (case k3 => k_asm); (case k4 => k_asm); (case k5 => k_asm); (case k6 => first | exact rfl | assumption); (case k7 => k_room); (case k8 => k_room); (case m1 => k_mem); k_whole); intro h' tk' x' dx' sk' tk1' tr' tt' tp' l1 l2 l3 F' N'; (try k_lt l1); (try k_lt2 l2); (try k_lt2 l3); (try k_sweep)))
        | (with_reducible (k_here; (with_reducible show wpAny _ _ (call (Value.ref 95) _ _) _ _ _); k_dflt (refine' limits_use ?k1 ?k2 ?k3 ?k4 ?k5 ?k6 ?k7 ?k8  ?_; (case k1 => k_asm); (case k2 => k_asm); (case k3 => k_asm); (case k4 => k_asm); (case k5 => k_asm); (case k6 => first | exact rfl | assumption); (case k7 => k_room); (case k8 => k_room); k_whole); intro h' tk' x' dx' tk1' l1 l2 F' N'; (try k_lt l1); (try k_lt2 l2); (try k_sweep)))
        | (with_reducible (k_here; (with_reducible show wpAny _ _ (call (Value.ref 417) _) _ _ _); k_dflt (refine' works_use ?k1 ?k2 ?k3 ?k4 ?k5 ?k6 ?k7 ?k8  ?_; (case k1 => k_asm); (case k2 => k_asm); (case k3 => k_asm); (case k4 => k_asm); (case k5 => k_asm); (case k6 => first | exact rfl | assumption); (case k7 => k_room); (case k8 => k_room); k_whole); intro h' tk' x' dx' tk1' l1 l2 F' N'; (try k_lt l1); (try k_lt2 l2); (try k_sweep)))
        | (with_reducible (k_here; (with_reducible show wpAny _ _ (call (Value.ref 533) _) _ _ _); k_dflt (refine' mkput_use ?k1 ?k2 ?k3 ?k4 ?k5 ?k6 ?k7 ?k8 ?m1 ?mi ?ht ?m2 ?C ?_; (case k1 => k_asm); (case k2 => k_asm); (case k3 => k_asm); (case k4 => k_asm); (case k5 => k_asm); (case k6 => first | exact rfl | assumption); (case k7 => k_room); (case k8 => k_room); (case m1 => k_mem); (case mi => walk_at "my minus"); (case ht => with_reducible assumption); (case m2 => k_mem); (case C => assumption); k_whole); intro h' tk' f' oc' od' fd' sl' c' oc' c1' o1' c2' o2' tab' F' N' l1 l2' l3' l4' l5' cx' ht' P'; (have l3q := l3'); (try k_lt l1); (try have l5q := or_zq l5' hce1 (by tbn_letter : @LT.lt Nat _ 528 _)); (try k_sweep)))
        | (with_reducible (k_here; (with_reducible show wpAny _ _ (call (Value.ref 519) _) _ _ _); k_dflt (refine' next_use ?k1 ?k2 ?k3 ?k4 ?k5 ?k6 ?k7 ?k8 ?m1 ?m2 ?mi ?i1 ?i2 ?i3 ?i4 ?i5 ?i6 ?i7 ?_; (case k1 => k_asm); (case k2 => k_asm); (case k3 => k_asm); (case k4 => k_asm); (case k5 => k_asm); (case k6 => first | exact rfl | assumption); (case k7 => k_room); (case k8 => k_room); (case m1 => k_mem); (case m2 => k_mem); (case mi => walk_at "my minus"); (case i1 => l_ints); (case i2 => first | assumption | omega); (case i3 => omega); (case i4 => omega); (case i5 => decide); (case i6 => decide); (case i7 => omega); k_whole); intro v' tv' t' h' tk' v0' v1' F' N'; (try k_sweep)))))
        | ((with_reducible show wpAny _ _ (exec (Stmt.For ..) _) _ _ _); first | (with_reducible (k_here; (rename Fr _ _ _ _ => lF'); (with_unfolding_all refine' For_invVF lF' ?k1 ?k2 ?_; (case k1 => exact rfl); (case k2 => exact rfl); k_whole))) | (k_here; (rename Fr _ _ _ _ => lF'); (with_unfolding_all refine' For_invVF lF' ?k1 ?k2 ?_; (case k1 => exact rfl); (case k2 => exact rfl); k_whole)))
        | (with_reducible ((with_reducible show wpAny _ _ (subscriptTail _ (PySem.Expr.Slice _ _ none _) (Value.ref _) (Value.ref _)) _ _ _); k_dflt (refine slice_list (by k_asm) (by k_asm) (News.isList (by k_asm) (by k_mem)) (by first | exact .none | exact .int _ _) (by first | exact .none | exact .int _ _) ?_ (hsz := by first | exact lst_small (by with_reducible assumption) (by omega) | exact Nat.le_of_ble_eq_true rfl)); intro _ _ _))
        | (with_reducible (k_here; (with_reducible show wpAny _ _ (exec (Stmt.Assign _ (Expr.ListComp _ _ _ _) _) _) (DueQ _ _ _ _ _ _ _ _ _ _) _ _); lcf_look; lcg_calm; k_dflt (refine LCg.Assign_ListComp_U (F₀ := by k_asm) (by rfl) (by with_unfolding_all rfl) (by with_unfolding_all rfl) (by decide) (by rfl) (by decide) (by rfl) (by rfl) (by rfl) ?_); k_dflt lcg_toSrc))
        | (with_reducible (k_here; (with_reducible show wpAny _ _ (exec (Stmt.Assign _ (Expr.ListComp _ _ _ _) _) _) _ _ _); (fail_if_success (with_reducible show wpAny _ _ _ (DueQ _ _ _ _ _ _ _ _ _ _) _ _)); k_dflt (refine' merge_due (Str.ofString "due") #[116] ?F ?N ?hA ?RO ?u1 ?u2; (case F => k_asm); (case N => k_asm); (case hA => with_reducible assumption); (case RO => with_reducible assumption)); (case' u1 => (rcases e5' with e5' | e5' | e5') <;> ((first | (replace e5' := add1a e5'; subst e5') | (replace e5' := add1b e5'; subst e5') | (replace e5' := add1c e5'; subst e5')); intro F' N')); (case' u2 => (clear e5'; intro D' h' tk' ys' t1' t2' t3' q1' q2' q3' dn' yl' F' N'; (try k_sweep)))))
        | (with_reducible (k_here; (with_reducible show wpAny _ _ (compareOp CmpOp.NotEq (Value.ref _) (Value.ref _)) _ _ _); k_dflt (first | ((rename RunOut _ _ _ _ _ _ _ _ _ _ => RO'); first | (refine' told_stop1 RO' ?k1 ?k2 ?h1 ?h2 ?mz ?me ?hm ?_; (case k1 => k_asm); (case mz => k_mem); (case me => k_mem); (case k2 => (k_room)); (case h1 => omega); (case h2 => omega); (case hm => omega); clear RO'; k_whole; intro e7') | (refine' told_stop2 RO' ?k1 ?k2 ?hn ?hs ?mz ?me ?hm ?_; (case k1 => k_asm); (case mz => k_mem); (case me => k_mem); (case k2 => (k_room)); (case hn => omega); (case hs => first | exact su_one (by assumption) | exact if_pos (by assumption) | (split <;> omega)); (case hm => omega); clear RO'; k_whole; intro e7') | (refine' told_back RO' ?k1 ?k2 ?hn ?hs ?hx ?mz ?me ?mr ?_; (case k1 => k_asm); (case mz => k_mem); (case me => k_mem); (case mr => k_mem); (case k2 => (k_room)); (case hn => omega); (case hs => first | exact su_zero (by assumption) | exact if_neg (by assumption) | exact if_neg (ne_true_of_eq_false (by assumption)) | (split <;> omega)); (case hx => (first | (refine sub_of ?_; with_reducible (repeat' constructor); done) | ((repeat (refine List.forall_mem_cons.mpr ⟨?_, ?_⟩; k_mem)); exact sub_of (by repeat' constructor)))); clear RO'; k_whole; intro e7')) | (first | (refine' due_take ?k1 ?k2 ?ee ?hA ?hz ?mq ?md ?ho ?hD ?hl ?h1 ?hk ?_; (case k1 => k_asm); (case ee => with_reducible assumption); (case mq => k_mem); (case md => k_mem); (case ho => with_reducible rfl); (case hA => with_reducible assumption); (case hz => ((refine mem_tr (by with_reducible assumption) ?_); (first | (refine sub_of ?_; with_reducible (repeat' constructor); done) | ((repeat (refine List.forall_mem_cons.mpr ⟨?_, ?_⟩; k_mem)); exact sub_of (by repeat' constructor))))); (case k2 => (k_room)); (case hD => (refine' DueN.due ?dN ?ds ?dd; (case dN => k_asm); (case dd => with_reducible assumption); (case ds => (first | (refine sub_of ?_; with_reducible (repeat' constructor); done) | ((repeat (refine List.forall_mem_cons.mpr ⟨?_, ?_⟩; k_mem)); exact sub_of (by repeat' constructor)))))); (case hl => with_reducible assumption); (case h1 => omega); (case hk => first | (simp only [List.length_cons, List.length_nil]; omega) | omega); k_whole) | (refine' due_all ?k1 ?k2 ?ee ?hA ?hz ?mq ?md ?ho ?hD ?hl ?hk ?_; (case k1 => k_asm); (case ee => with_reducible assumption); (case mq => k_mem); (case md => k_mem); (case ho => with_reducible rfl); (case hA => with_reducible assumption); (case hz => ((refine mem_tr (by with_reducible assumption) ?_); (first | (refine sub_of ?_; with_reducible (repeat' constructor); done) | ((repeat (refine List.forall_mem_cons.mpr ⟨?_, ?_⟩; k_mem)); exact sub_of (by repeat' constructor))))); (case k2 => (k_room)); (case hD => (refine' DueN.due ?dN ?ds ?dd; (case dN => k_asm); (case dd => with_reducible assumption); (case ds => (first | (refine sub_of ?_; with_reducible (repeat' constructor); done) | ((repeat (refine List.forall_mem_cons.mpr ⟨?_, ?_⟩; k_mem)); exact sub_of (by repeat' constructor)))))); (case hl => with_reducible assumption); (case hk => first | (simp only [List.length_cons, List.length_nil]; omega) | omega); k_whole)))))
        | ((with_reducible show wpAny _ _ (callWith _ (Value.ref _) _ _ _) _ _ _); first | (with_reducible (k_here; k_dflt (first | (refine' callWith_K ?k1 ?k2 ?_; (case k1 => k_asm); (case k2 => k_is); k_whole) | (refine' callWith_KW ?k1 ?k2 ?k3 ?_; (case k1 => k_asm); (case k2 => k_is); (case k3 => exact rfl); k_whole) | (refine' callWith_KW0 ?k1 ?k2 ?k3 ?_; (case k1 => k_asm); (case k2 => k_is); (case k3 => exact rfl); k_whole)))) | (k_here; k_dflt (first | (refine' callWith_K ?k1 ?k2 ?_; (case k1 => k_asm); (case k2 => k_is); k_whole) | (refine' callWith_KW ?k1 ?k2 ?k3 ?_; (case k1 => k_asm); (case k2 => k_is); (case k3 => exact rfl); k_whole) | (refine' callWith_KW0 ?k1 ?k2 ?k3 ?_; (case k1 => k_asm); (case k2 => k_is); (case k3 => exact rfl); k_whole))))
        | (with_reducible ((with_reducible show wpAny _ _ (exec (Stmt.Assign _ _ ⟨487, _, _, _⟩) _) _ _ _); (fail_if_success (have : Mark 487 := by with_reducible assumption)); (rename News _ _ _ _ => lN'); (replace lN' := Keep.news (Keep.keep (Keep.skip (Keep.skip (Keep.skip (Keep.skip (Keep.keep (Keep.keep (Keep.keep (Keep.skip Keep.all))))))))) lN'); (have : Mark 487 := ⟨⟩)))
        | (with_reducible ((with_reducible show wpAny _ _ (exec (Stmt.Assign _ _ ⟨486, _, _, _⟩) _) _ _ _); (fail_if_success (have : Mark 486 := by with_reducible assumption)); (rename News _ _ _ _ => lN'); (replace lN' := Keep.news (Keep.skip Keep.all) lN'); (have : Mark 486 := ⟨⟩)))
        | (with_reducible ((with_reducible show wpAny _ _ (exec (Stmt.Assign _ _ ⟨485, _, _, _⟩) _) _ _ _); (fail_if_success (have : Mark 485 := by with_reducible assumption)); (rename News _ _ _ _ => lN'); (replace lN' := Keep.news (Keep.keep (Keep.skip (Keep.skip (Keep.skip (Keep.skip (Keep.skip (Keep.skip Keep.all))))))) lN'); (have : Mark 485 := ⟨⟩)))
        | (with_reducible ((with_reducible show wpAny _ _ (exec (Stmt.Assign _ _ ⟨484, _, _, _⟩) _) _ _ _); (fail_if_success (have : Mark 484 := by with_reducible assumption)); (rename News _ _ _ _ => lN'); (replace lN' := Keep.news (Keep.skip Keep.all) lN'); (have : Mark 484 := ⟨⟩)))
        | (with_reducible ((with_reducible show wpAny _ _ (exec (Stmt.Assign _ _ ⟨483, _, _, _⟩) _) _ _ _); (fail_if_success (have : Mark 483 := by with_reducible assumption)); (rename News _ _ _ _ => lN'); (replace lN' := Keep.news (Keep.skip Keep.all) lN'); (have : Mark 483 := ⟨⟩)))
        | (with_reducible (k_here; (with_reducible show wpAny _ _ (eval (Expr.IfExp _ (Expr.Constant _ _ _) (Expr.Name _ _) _) _) _ _ _); (fail_if_success (with_reducible show wpAny _ _ _ (MergeQ _ _ _) _ _)); k_dflt (with_unfolding_all refine' merge_wide ?F ?hm ?hc ?N ?mb ?db ?w1 ?w2; (case F => k_asm); (case hm => rfl); (case hc => rfl); (case N => k_asm); (case mb => k_mem); (case db => with_reducible assumption))))
        | (with_reducible (k_here; (with_reducible show wpAny _ _ (pyIter (Value.ref _)) (fun it s₂ => LoopAtV _ _ _ _ _ (Str.ofString "turn") _ _ _ it s₂) _ _); (rename IsRange _ _ _ _ _ _ _ _ => rgX); (with_unfolding_all refine' law_loop ?hh ?k1 ?k2 ?k3 ?k4 ?k5 ?cc ?k6 ?k7 ?k8 rgX ?hI ?hl ?m1 ?m2 ?m3 ?o1 ?m4 ?m5 ?m6 ?d1 ?d2 ?d3 ?o2 ?o3 ?o4 ?o5 ?turn ?done; (case hh => rfl); (case k1 => k_asm); (case k2 => k_asm); (case k3 => k_asm); (case k4 => k_asm); (case k5 => k_asm); (case cc => assumption); (case k6 => first | exact rfl | assumption); (case k7 => k_room); (case k8 => k_room); (case m1 => k_mem); (case m2 => k_mem); (case m3 => k_mem); (case hI => l_ints); (case hl => omega); (case o1 => omega); (case m4 => k_mem); (case m5 => k_mem); (case m6 => k_mem); (case d1 => k_asm); (case d2 => k_asm); (case d3 => k_asm); (case o2 => omega); (case o3 => omega); (case o4 => omega); (case o5 => omega))))
        | ((with_reducible show wpAny _ _ (newList _) _ _ _); first | (with_reducible (k_here; k_dflt (refine' newList_K ?k1 ?k2 ?_; (case k1 => k_asm); (case k2 => k_asm); k_whole); intro l' h' F' N' l1; (try k_lt l1); (try k_sweep))) | (k_here; k_dflt (refine' newList_K ?k1 ?k2 ?_; (case k1 => k_asm); (case k2 => k_asm); k_whole); intro l' h' F' N' l1; (try k_lt l1); (try k_sweep)))
        | (with_reducible ((with_reducible show DueQ _ _ _ _ _ _ _ _ _ _ _ _); k_dflt (refine' dueQ_intro ?F ?N ?mD ?d ?m1 ?m2 ?m3 ?hk ?hl; (case F => k_asm); (case N => k_asm); (case mD => k_mem); (case d => repeat' (first | exact DueN.nil | (refine' DueN.cons2 ?dN ?dk ?dm ?de ?_; (case dN => k_asm); (case dk => k_mem); (case dm => k_mem); (case de => omega)))); (case m1 => k_mem); (case m2 => k_mem); (case m3 => k_mem); (case hk => (first | (refine sub_of ?_; with_reducible (repeat' constructor); done) | ((repeat (refine List.forall_mem_cons.mpr ⟨?_, ?_⟩; k_mem)); exact sub_of (by repeat' constructor)))); (case hl => first | rfl | (simp; done)))))
        | ((with_reducible show LCg.FinA ..); first | (with_reducible ((unfold LCg.FinA); intro D' h' tk' F' N' o1'; (try simp only [List.nil_append, List.cons_append] at N'); (try dsimp only))) | ((unfold LCg.FinA); intro D' h' tk' F' N' o1'; (try simp only [List.nil_append, List.cons_append] at N'); (try dsimp only)))
        | ((with_reducible show LCg.CompEnd ..); first | (with_reducible (refine' compEnd_one ?F ?off ?N ?mt ?a1 ?a2 ?a3 ?sub ?src ?_; (case F => k_asm); (case off => with_reducible assumption); (case N => k_asm); (case mt => k_mem); (case a1 => omega); (case a2 => omega); (case a3 => omega); (case sub => (first | (refine sub_of ?_; with_reducible (repeat' constructor); done) | ((repeat (refine List.forall_mem_cons.mpr ⟨?_, ?_⟩; k_mem)); exact sub_of (by repeat' constructor)))); (case src => lcg_src))) | (refine' compEnd_one ?F ?off ?N ?mt ?a1 ?a2 ?a3 ?sub ?src ?_; (case F => k_asm); (case off => with_reducible assumption); (case N => k_asm); (case mt => k_mem); (case a1 => omega); (case a2 => omega); (case a3 => omega); (case sub => (first | (refine sub_of ?_; with_reducible (repeat' constructor); done) | ((repeat (refine List.forall_mem_cons.mpr ⟨?_, ?_⟩; k_mem)); exact sub_of (by repeat' constructor)))); (case src => lcg_src)))
        | ((with_reducible show LCg.CompRest ..); first | (with_reducible (with_unfolding_all first | (refine LCg.CompRest.succ ?_; intro v' I' oI' C' oC' D' m' h' tk' E' hv' hC' hx' F' N' off' ne'; (first | lcg_open hv' | (obtain ⟨t9', hv9'⟩ := hv'; subst hv9'))) | refine LCg.CompRest.zero ?_)) | (with_unfolding_all first | (refine LCg.CompRest.succ ?_; intro v' I' oI' C' oC' D' m' h' tk' E' hv' hC' hx' F' N' off' ne'; (first | lcg_open hv' | (obtain ⟨t9', hv9'⟩ := hv'; subst hv9'))) | refine LCg.CompRest.zero ?_))
        | ((with_reducible show MergeQ ..); first | (with_reducible (refine ⟨_, _, _, rfl, rfl, ?_⟩; first | omega | (simp_all; done) | (simp_all; omega))) | (refine ⟨_, _, _, rfl, rfl, ?_⟩; first | omega | (simp_all; done) | (simp_all; omega)))
        | (with_reducible (k_here; (with_reducible show wpAny _ _ (subscriptTail _ _ (Value.ref _) (Value.int _ _)) _ _ _); k_dflt (refine' kim_list ?k1 ?k2 ?k3 ?k4 ?k5 ?k6 ?k7 ?_; (case k1 => k_asm); (case k2 => k_mem); (case k3 => rfl); (case k4 => rfl); (case k5 => decide); (case k6 => decide); (case k7 => rfl); k_whole)))
        | ((with_reducible show wpAny _ _ (subscriptTail _ _ (Value.ref _) (Value.int _ _)) _ _ _); first | (with_reducible (k_here; kim_at)) | (k_here; kim_at))
        | walk1
        | dsimp only
        | (leave1; walk_say "STEP leave1"; try dsimp only)
        | fail "no step")


end Mine
theorem PySem.Challenge.cw_rh0164_01_holds : PySem.Challenge.rw_rh0164_01.Holds :=
  Mine.tf
