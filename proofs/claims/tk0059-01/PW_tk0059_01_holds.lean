import PyProof.Rows.All
import Wide.All
import OpenK.AllK
import Wide.FinOn
import Lean
import PySem.Challenge.RW_tk0059_01
open PySem PySem.W PyProof.Rows
set_option Elab.async false
set_option maxRecDepth 100000
set_option maxHeartbeats 0
namespace Mine
local macro_rules | `(tactic| o_head $H) => `(tactic| (refine (fun (_ : Hook) => ?_) $H; assumption))
theorem hd (h : PySem.Challenge.rw_tk0059_01.row.Holds) : PySem.Challenge.rw_tk0059_01.row.Holds := by k_head
abbrev pr : Program := PySem.Challenge.pw_tk0059_01
abbrev S (s : String) : Str := Str.ofString s
noncomputable def E (P : Params) (k : String) (t : Tok) (v : Value) : DictEntry := ⟨PyData.keyHash P (S k), .str (S k) t, v⟩
noncomputable def raw : Obj → Obj
  | ⟨_, _, .func f, _⟩ => ⟨.none, none, .func { name := f.name, qualname := f.qualname, params := f.params, body := f.body, scope := f.scope, globals := 0, closure := [], defaults := .none, kwdefaults := .none }, #[]⟩
  | o => o
noncomputable def own (P : Params) : List Obj := [
  boot_o_0 P,
  boot_o_1 P,
  boot_o_4 P,
  boot_o_5 P,
  boot_o_6 P,
  boot_o_7 P,
  boot_o_8 P,
  boot_o_9 P,
  boot_o_10 P,
  ⟨.type "tuple", none, .seq #[] 0, #[]⟩,
  ⟨.type "code", none, .fields #[.str (S "<module>") 182, .str (S "<module>") 183, .str (S "/claim/cut.py") 184, .int 1 0, .int 0 0, .int 0 0, .int 0 0, .int 0 0, .ref 11, .bool false, .int 181 0, .ref 12, .none, .none, .none, .none, .int 185 0, .int 1 0, .str (S "/claim/cut.py") 186], #[]⟩,
  ⟨.type "frame", none, .plain, #[some (.ref 13), some (.ref 3), some (.ref 3), none, some (.str (S "__main__") 164), none, some (.ref 0)]⟩,
  ⟨.type "tuple", none, .seq #[] 0, #[]⟩,
  ⟨.type "builtin_function_or_method", none, .fields #[.builtin "type.__prepare__", .type "type"], #[]⟩,
  ⟨.type "dict", none, .dict #[E P "__module__" 263 (.str (S "lua.values") 252), E P "__qualname__" 265 (.str (S "Limits") 264), E P "__firstlineno__" 267 (.int 26 266), E P "__init__" 294 (.ref 78), E P "greatest" 301 (.ref 85), E P "least" 308 (.ref 92), E P "__static_attributes__" 319 (.ref 93)] 7, #[]⟩,
  ⟨.type "tuple", none, .seq #[] 0, #[]⟩,
  ⟨.none, none, .fields #[.int 28 0, .int 4 0, .ref 77, .int 40 0, .int 4 0, .ref 84, .int 43 0, .int 4 0, .ref 91], #[]⟩,
  ⟨.type "code", none, .fields #[.str (S "Limits") 258, .str (S "Limits") 259, .str (S "/claim/cut.py") 260, .int 26 0, .int 0 0, .int 0 0, .int 0 0, .int 0 0, .ref 67, .bool false, .int 181 0, .ref 68, .none, .none, .none, .none, .int 261 0, .int 26 0, .str (S "/claim/cut.py") 262], #[]⟩,
  ⟨.type "frame", none, .plain, #[some (.ref 69), some (.ref 3), some (.ref 66), none, some (.str (S "lua.values") 252), none, some (.ref 0)]⟩,
  ⟨.type "super", none, .fields #[.ref 95, .ref 95, .ref 95], #[]⟩,
  ⟨.type "builtin_function_or_method", none, .fields #[.builtin "object.__init_subclass__", .ref 95], #[]⟩,
  ⟨.type "builtin_function_or_method", none, .fields #[.builtin "type.__prepare__", .type "type"], #[]⟩,
  ⟨.type "dict", none, .dict #[E P "__module__" 334 (.str (S "lua.values") 252), E P "__qualname__" 336 (.str (S "LuaError") 335), E P "__firstlineno__" 338 (.int 45 337), E P "__init__" 346 (.ref 113), E P "__static_attributes__" 350 (.ref 114)] 5, #[]⟩,
  ⟨.type "tuple", none, .seq #[] 0, #[]⟩,
  ⟨.none, none, .fields #[.int 47 0, .int 4 0, .ref 112], #[]⟩,
  ⟨.type "code", none, .fields #[.str (S "LuaError") 329, .str (S "LuaError") 330, .str (S "/claim/cut.py") 331, .int 45 0, .int 0 0, .int 0 0, .int 0 0, .int 0 0, .ref 103, .bool false, .int 181 0, .ref 104, .none, .none, .none, .none, .int 332 0, .int 45 0, .str (S "/claim/cut.py") 333], #[]⟩,
  ⟨.type "frame", none, .plain, #[some (.ref 105), some (.ref 3), some (.ref 102), none, some (.str (S "lua.values") 252), none, some (.ref 0)]⟩,
  ⟨.type "super", none, .fields #[.ref 116, .ref 116, .ref 116], #[]⟩,
  ⟨.type "builtin_function_or_method", none, .fields #[.builtin "object.__init_subclass__", .ref 116], #[]⟩,
  ⟨.type "builtin_function_or_method", none, .fields #[.builtin "type.__prepare__", .type "type"], #[]⟩,
  ⟨.type "dict", none, .dict #[E P "__module__" 365 (.str (S "lua.values") 252), E P "__qualname__" 367 (.str (S "ApiError") 366), E P "__firstlineno__" 369 (.int 51 368), E P "__init__" 377 (.ref 133), E P "__static_attributes__" 379 (.ref 134)] 5, #[]⟩,
  ⟨.type "tuple", none, .seq #[] 0, #[]⟩,
  ⟨.none, none, .fields #[.int 53 0, .int 4 0, .ref 132], #[]⟩,
  ⟨.type "code", none, .fields #[.str (S "ApiError") 360, .str (S "ApiError") 361, .str (S "/claim/cut.py") 362, .int 51 0, .int 0 0, .int 0 0, .int 0 0, .int 0 0, .ref 123, .bool false, .int 181 0, .ref 124, .none, .none, .none, .none, .int 363 0, .int 51 0, .str (S "/claim/cut.py") 364], #[]⟩,
  ⟨.type "frame", none, .plain, #[some (.ref 125), some (.ref 3), some (.ref 122), none, some (.str (S "lua.values") 252), none, some (.ref 0)]⟩,
  ⟨.type "super", none, .fields #[.ref 136, .ref 136, .ref 136], #[]⟩,
  ⟨.type "builtin_function_or_method", none, .fields #[.builtin "object.__init_subclass__", .ref 136], #[]⟩,
  ⟨.type "tuple", none, .seq #[] 0, #[]⟩,
  ⟨.type "builtin_function_or_method", none, .fields #[.builtin "type.__prepare__", .type "type"], #[]⟩,
  ⟨.type "dict", none, .dict #[E P "__module__" 785 (.str (S "lua.stepper") 770), E P "__qualname__" 787 (.str (S "Works") 786), E P "__firstlineno__" 789 (.int 290 788), E P "__init__" 802 (.ref 414), E P "__static_attributes__" 809 (.ref 415)] 5, #[]⟩,
  ⟨.type "tuple", none, .seq #[] 0, #[]⟩,
  ⟨.none, none, .fields #[.int 292 0, .int 4 0, .ref 413], #[]⟩,
  ⟨.type "code", none, .fields #[.str (S "Works") 780, .str (S "Works") 781, .str (S "/claim/cut.py") 782, .int 290 0, .int 0 0, .int 0 0, .int 0 0, .int 0 0, .ref 404, .bool false, .int 181 0, .ref 405, .none, .none, .none, .none, .int 783 0, .int 290 0, .str (S "/claim/cut.py") 784], #[]⟩,
  ⟨.type "frame", none, .plain, #[some (.ref 406), some (.ref 3), some (.ref 403), none, some (.str (S "lua.stepper") 770), none, some (.ref 0)]⟩,
  ⟨.type "super", none, .fields #[.ref 417, .ref 417, .ref 417], #[]⟩,
  ⟨.type "builtin_function_or_method", none, .fields #[.builtin "object.__init_subclass__", .ref 417], #[]⟩,
  ⟨.type "tuple", none, .seq #[] 0, #[]⟩,
  ⟨.type "builtin_function_or_method", none, .fields #[.builtin "type.__prepare__", .type "type"], #[]⟩,
  ⟨.type "dict", none, .dict #[E P "__module__" 824 (.str (S "lua.stepper") 770), E P "__qualname__" 826 (.str (S "Stepper") 825), E P "__firstlineno__" 828 (.int 299 827), E P "__init__" 840 (.ref 435), E P "run" 851 (.ref 442), E P "done" 860 (.ref 449), E P "done_table" 878 (.ref 456), E P "done_reckoning" 894 (.ref 463), E P "done_join" 907 (.ref 470), E P "done_jump" 922 (.ref 477), E P "done_other" 934 (.ref 484), E P "call_at" 948 (.ref 491), E P "done_call" 958 (.ref 498), E P "done_list" 972 (.ref 505), E P "__static_attributes__" 982 (.ref 506)] 15, #[]⟩,
  ⟨.type "tuple", none, .seq #[] 0, #[]⟩,
  ⟨.none, none, .fields #[.int 301 0, .int 4 0, .ref 434, .int 312 0, .int 4 0, .ref 441, .int 323 0, .int 4 0, .ref 448, .int 337 0, .int 4 0, .ref 455, .int 357 0, .int 4 0, .ref 462, .int 375 0, .int 4 0, .ref 469, .int 386 0, .int 4 0, .ref 476, .int 405 0, .int 4 0, .ref 483, .int 430 0, .int 4 0, .ref 490, .int 440 0, .int 4 0, .ref 497, .int 446 0, .int 4 0, .ref 504], #[]⟩,
  ⟨.type "code", none, .fields #[.str (S "Stepper") 819, .str (S "Stepper") 820, .str (S "/claim/cut.py") 821, .int 299 0, .int 0 0, .int 0 0, .int 0 0, .int 0 0, .ref 425, .bool false, .int 181 0, .ref 426, .none, .none, .none, .none, .int 822 0, .int 299 0, .str (S "/claim/cut.py") 823], #[]⟩,
  ⟨.type "frame", none, .plain, #[some (.ref 427), some (.ref 3), some (.ref 424), none, some (.str (S "lua.stepper") 770), none, some (.ref 0)]⟩,
  ⟨.type "super", none, .fields #[.ref 508, .ref 508, .ref 508], #[]⟩,
  ⟨.type "builtin_function_or_method", none, .fields #[.builtin "object.__init_subclass__", .ref 508], #[]⟩]
noncomputable def o12 : Obj := ⟨.none, none, .fields #[.int 1 0, .int 0 0, .ref 20, .int 12 0, .int 0 0, .ref 27, .int 14 0, .int 0 0, .ref 34, .int 16 0, .int 0 0, .ref 41, .int 18 0, .int 0 0, .ref 48, .int 20 0, .int 0 0, .ref 55, .int 22 0, .int 0 0, .ref 62, .int 26 0, .int 0 0, .ref 69, .int 45 0, .int 0 0, .ref 105, .int 51 0, .int 0 0, .ref 125, .int 55 0, .int 0 0, .ref 145, .int 57 0, .int 0 0, .ref 152, .int 61 0, .int 0 0, .ref 159, .int 66 0, .int 0 0, .ref 166, .int 69 0, .int 0 0, .ref 173, .int 83 0, .int 0 0, .ref 180, .int 102 0, .int 0 0, .ref 187, .int 104 0, .int 0 0, .ref 194, .int 112 0, .int 0 0, .ref 201, .int 121 0, .int 0 0, .ref 208, .int 125 0, .int 0 0, .ref 215, .int 127 0, .int 0 0, .ref 222, .int 139 0, .int 0 0, .ref 229, .int 145 0, .int 0 0, .ref 236, .int 155 0, .int 0 0, .ref 243, .int 161 0, .int 0 0, .ref 250, .int 170 0, .int 0 0, .ref 257, .int 178 0, .int 0 0, .ref 262, .int 189 0, .int 0 0, .ref 267, .int 191 0, .int 0 0, .ref 274, .int 196 0, .int 0 0, .ref 281, .int 198 0, .int 0 0, .ref 288, .int 202 0, .int 0 0, .ref 295, .int 206 0, .int 0 0, .ref 302, .int 219 0, .int 0 0, .ref 309, .int 223 0, .int 0 0, .ref 316, .int 226 0, .int 0 0, .ref 323, .int 228 0, .int 0 0, .ref 330, .int 230 0, .int 0 0, .ref 337, .int 232 0, .int 0 0, .ref 344, .int 234 0, .int 0 0, .ref 351, .int 241 0, .int 0 0, .ref 358, .int 249 0, .int 0 0, .ref 363, .int 251 0, .int 0 0, .ref 370, .int 258 0, .int 0 0, .ref 377, .int 262 0, .int 0 0, .ref 384, .int 275 0, .int 0 0, .ref 392, .int 279 0, .int 0 0, .ref 399, .int 290 0, .int 0 0, .ref 406, .int 299 0, .int 0 0, .ref 427, .int 457 0, .int 0 0, .ref 518, .int 461 0, .int 0 0, .ref 525, .int 463 0, .int 0 0, .ref 532, .int 465 0, .int 0 0, .ref 539, .int 467 0, .int 0 0, .ref 546, .int 480 0, .int 0 0, .ref 553, .int 490 0, .int 0 0, .ref 560, .int 495 0, .int 0 0, .ref 567, .int 500 0, .int 0 0, .ref 574, .int 506 0, .int 0 0, .ref 581, .int 515 0, .int 0 0, .ref 588, .int 524 0, .int 0 0, .ref 595], #[]⟩
noncomputable def kinds : List Nat := [0, 0, 7, 6, 0, 0, 0, 0, 0, 0, 0, 0, 5, 0, 0, 1, 2, 1, 1, 3, 1, 1, 1, 2, 1, 1, 3, 1, 1, 1, 2, 1, 1, 3, 1, 1, 1, 2, 1, 1, 3, 1, 1, 1, 2, 1, 1, 3, 1, 1, 1, 2, 1, 1, 3, 1, 1, 1, 2, 1,
  1, 3, 1, 1, 0, 0, 0, 0, 0, 0, 0, 1, 1, 2, 1, 1, 3, 1, 1, 1, 2, 1, 1, 3, 1, 1, 1, 2, 1, 1, 3, 1, 1, 1, 1, 1, 1, 1, 0, 0, 1, 0, 0, 0, 0, 0, 0, 1, 2, 1, 1, 3, 1, 1, 1, 1, 1, 1, 0, 0,
  1, 0, 0, 0, 0, 0, 0, 1, 2, 1, 1, 3, 1, 1, 1, 1, 1, 1, 0, 0, 1, 2, 1, 1, 3, 1, 1, 1, 2, 1, 1, 3, 1, 1, 1, 2, 1, 1, 3, 1, 1, 1, 2, 1, 1, 3, 1, 1, 1, 2, 1, 1, 3, 1, 1, 1, 2, 1, 1, 3,
  1, 1, 1, 2, 1, 1, 3, 1, 1, 1, 2, 1, 1, 3, 1, 1, 1, 2, 1, 1, 3, 1, 1, 1, 2, 1, 1, 3, 1, 1, 1, 2, 1, 1, 3, 1, 1, 1, 2, 1, 1, 3, 1, 1, 1, 2, 1, 1, 3, 1, 1, 1, 2, 1, 1, 3, 1, 1, 1, 2,
  1, 1, 3, 1, 1, 1, 2, 1, 1, 3, 1, 1, 1, 2, 1, 1, 3, 1, 1, 1, 2, 3, 1, 1, 1, 2, 3, 1, 1, 1, 2, 1, 1, 3, 1, 1, 1, 2, 1, 1, 3, 1, 1, 1, 2, 1, 1, 3, 1, 1, 1, 2, 1, 1, 3, 1, 1, 1, 2, 1,
  1, 3, 1, 1, 1, 2, 1, 1, 3, 1, 1, 1, 2, 1, 1, 3, 1, 1, 1, 2, 1, 1, 3, 1, 1, 1, 2, 1, 1, 3, 1, 1, 1, 2, 1, 1, 3, 1, 1, 1, 2, 1, 1, 3, 1, 1, 1, 2, 1, 1, 3, 1, 1, 1, 2, 1, 1, 3, 1, 1,
  1, 2, 3, 1, 1, 1, 2, 1, 1, 3, 1, 1, 1, 2, 1, 1, 3, 1, 1, 1, 2, 1, 1, 3, 1, 1, 1, 1, 2, 1, 1, 3, 1, 1, 1, 2, 1, 1, 3, 1, 1, 0, 0, 0, 0, 0, 0, 0, 1, 2, 1, 1, 3, 1, 1, 1, 1, 1, 1, 1,
  0, 0, 0, 0, 0, 0, 0, 0, 0, 1, 2, 1, 1, 3, 1, 1, 1, 2, 1, 1, 3, 1, 1, 1, 2, 1, 1, 3, 1, 1, 1, 2, 1, 1, 3, 1, 1, 1, 2, 1, 1, 3, 1, 1, 1, 2, 1, 1, 3, 1, 1, 1, 2, 1, 1, 3, 1, 1, 1, 2,
  1, 1, 3, 1, 1, 1, 2, 1, 1, 3, 1, 1, 1, 2, 1, 1, 3, 1, 1, 1, 2, 1, 1, 3, 1, 1, 1, 1, 1, 1, 1, 0, 0, 1, 2, 1, 1, 3, 1, 1, 1, 2, 1, 1, 3, 1, 1, 1, 2, 1, 1, 3, 1, 1, 1, 2, 1, 1, 3, 1,
  1, 1, 2, 1, 1, 3, 1, 1, 1, 2, 1, 1, 3, 1, 1, 1, 2, 1, 1, 3, 1, 1, 1, 2, 1, 1, 3, 1, 1, 1, 2, 1, 1, 3, 1, 1, 1, 2, 1, 1, 3, 1, 1, 1, 2, 1, 1, 3, 1, 1, 1, 2, 1, 1, 3, 1, 1]
noncomputable def lay (x2 x3 x12 : Obj) : List Nat → Frag → List Obj → List Obj
  | [], _, _ => []
  | c :: cs, K, os => match c with
    | 0 => match os with
      | o :: os => o :: lay x2 x3 x12 cs K os
      | [] => []
    | 1 => match K with
      | (_, o) :: K => o :: lay x2 x3 x12 cs K os
      | [] => []
    | 2 => ⟨.none, none, .fields #[], #[]⟩ :: lay x2 x3 x12 cs K os
    | 3 => match K with
      | _ :: (_, o) :: _ => raw o :: lay x2 x3 x12 cs K os
      | _ => []
    | 5 => x12 :: lay x2 x3 x12 cs K os
    | 7 => x2 :: lay x2 x3 x12 cs K.tail os
    | _ => x3 :: lay x2 x3 x12 cs K.tail os
noncomputable def evens : List Obj → List Obj
  | x :: _ :: r => x :: evens r
  | l => l
noncomputable def ofL : Nat → List Obj → BT
  | 0, _ => .nil
  | _ + 1, [] => .nil
  | n + 1, x :: r => .node x (ofL n (evens r)) (ofL n (evens r.tail))
noncomputable def firstOf (K : Frag) : Obj := match K with
  | (_, o) :: _ => o
  | [] => default
noncomputable def secondOf (K : Frag) : Obj := match K with
  | _ :: (_, o) :: _ => o
  | _ => default
noncomputable def mainAt (o : Obj) (k : Nat) (nm : String) (t : Tok) : Obj := match o with
  | ⟨c, d, .dict es _, s⟩ => match es.toList with
    | e :: r => ⟨c, d, .dict (⟨e.hash, e.key, .str (S nm) t⟩ :: r.take (k - 1)).toArray k, s⟩
    | [] => o
  | o => o
noncomputable def codesAt (k : Nat) : Obj := match o12 with
  | ⟨c, d, .fields vs, s⟩ => ⟨c, d, .fields (vs.toList.take k).toArray, s⟩
  | o => o
structure Cut where
  n : Nat
  toks : Nat
  k : Nat
  nm : String
  t : Tok
  k12 : Nat
  late : Bool
noncomputable def listAt (P : Params) (c : Cut) : List Obj :=
  (lay (match c.late with | true => firstOf (hd.heap_1 P) | false => boot_o_2 P) (mainAt (secondOf (hd.heap_1 P)) c.k c.nm c.t) (codesAt c.k12) kinds (hd.heap_1 P) (own P)).take c.n
noncomputable def stAt (P : Params) (c : Cut) (os : OsState) : SharedT := ⟨ofL 11 (listAt P c), c.n, {}, #[], {}, c.toks, os⟩
noncomputable def envB : Env := { scope := pr.main.scope, locals := mainNs, globals := mainNs, cells := [], code := .ref 13, frame := some 14 }
noncomputable def p0 : Pos := ⟨0, 0, 0, 0⟩
noncomputable abbrev cB : Code := .body (behindTheImports pr) envB
noncomputable def cut0 : Cut := ⟨15, 187, 9, "__main__", 164, 0, false⟩
noncomputable def pos0 : Pos := ⟨0, 0, 0, 0⟩
noncomputable def cut1 : Cut := ⟨64, 256, 24, "lua.values", 252, 21, false⟩
noncomputable def pos1 : Pos := ⟨25, 0, 25, 6⟩
noncomputable def cut2 : Cut := ⟨140, 387, 27, "lua.values", 252, 30, true⟩
noncomputable def pos2 : Pos := ⟨51, 0, 54, 24⟩
noncomputable def cut3 : Cut := ⟨264, 556, 48, "lua.joins", 530, 84, true⟩
noncomputable def pos3 : Pos := ⟨178, 0, 187, 44⟩
noncomputable def cut4 : Cut := ⟨386, 727, 66, "lua.orders", 602, 138, true⟩
noncomputable def pos4 : Pos := ⟨262, 0, 266, 15⟩
noncomputable def cut5 : Cut := ⟨422, 817, 79, "lua.stepper", 770, 147, true⟩
noncomputable def pos5 : Pos := ⟨290, 0, 298, 28⟩
noncomputable def cut6 : Cut := ⟨513, 990, 80, "lua.stepper", 770, 150, true⟩
noncomputable def pos6 : Pos := ⟨299, 0, 455, 19⟩
noncomputable def cut7 : Cut := ⟨597, 1118, 92, "law_tk0059_01", 990, 186, true⟩
noncomputable def pos7 : Pos := ⟨524, 0, 543, 16⟩
theorem piece0 (w : World) : (fun os => segRunT treeTable pr w 11 (some (.ref 6)) 1 294 (stAt w.params cut0 os) (piecesOf (((behindTheImports pr).drop 0).take 17) envB cB pos0 [topFrame p0])) =
    fun os => some (.next, stAt w.params cut1 os, cB, pos1) := by
  unfold piecesOf
  rw [PySem.W.Fast.te10110043849684766642, PySem.W.Fast.te14364793385576792824, PySem.W.Fast.te12563942051412417395]
  kernel_rfl
theorem piece1 (w : World) : (fun os => segRunT treeTable pr w 11 (some (.ref 6)) 1 772 (stAt w.params cut1 os) (piecesOf (((behindTheImports pr).drop 17).take 3) envB cB pos1 [topFrame p0])) =
    fun os => some (.next, stAt w.params cut2 os, cB, pos2) := by
  unfold piecesOf
  rw [PySem.W.Fast.te10110043849684766642, PySem.W.Fast.te14364793385576792824, PySem.W.Fast.te12563942051412417395]
  kernel_rfl
theorem piece2 (w : World) : (fun os => segRunT treeTable pr w 11 (some (.ref 6)) 1 592 (stAt w.params cut2 os) (piecesOf (((behindTheImports pr).drop 20).take 22) envB cB pos2 [topFrame p0])) =
    fun os => some (.next, stAt w.params cut3 os, cB, pos3) := by
  unfold piecesOf
  rw [PySem.W.Fast.te10110043849684766642, PySem.W.Fast.te14364793385576792824, PySem.W.Fast.te12563942051412417395]
  kernel_rfl
theorem piece3 (w : World) : (fun os => segRunT treeTable pr w 11 (some (.ref 6)) 1 578 (stAt w.params cut3 os) (piecesOf (((behindTheImports pr).drop 42).take 20) envB cB pos3 [topFrame p0])) =
    fun os => some (.next, stAt w.params cut4 os, cB, pos4) := by
  unfold piecesOf
  rw [PySem.W.Fast.te10110043849684766642, PySem.W.Fast.te14364793385576792824, PySem.W.Fast.te12563942051412417395]
  kernel_rfl
theorem piece4 (w : World) : (fun os => segRunT treeTable pr w 11 (some (.ref 6)) 1 414 (stAt w.params cut4 os) (piecesOf (((behindTheImports pr).drop 62).take 15) envB cB pos4 [topFrame p0])) =
    fun os => some (.next, stAt w.params cut5 os, cB, pos5) := by
  unfold piecesOf
  rw [PySem.W.Fast.te10110043849684766642, PySem.W.Fast.te14364793385576792824, PySem.W.Fast.te12563942051412417395]
  kernel_rfl
theorem piece5 (w : World) : (fun os => segRunT treeTable pr w 11 (some (.ref 6)) 1 607 (stAt w.params cut5 os) (piecesOf (((behindTheImports pr).drop 77).take 1) envB cB pos5 [topFrame p0])) =
    fun os => some (.next, stAt w.params cut6 os, cB, pos6) := by
  unfold piecesOf
  rw [PySem.W.Fast.te10110043849684766642, PySem.W.Fast.te14364793385576792824, PySem.W.Fast.te12563942051412417395]
  kernel_rfl
theorem piece6 (w : World) : (fun os => segRunT treeTable pr w 11 (some (.ref 6)) 1 400 (stAt w.params cut6 os) (piecesOf (((behindTheImports pr).drop 78).take 13) envB cB pos6 [topFrame p0])) =
    fun os => some (.next, stAt w.params cut7 os, cB, pos7) := by
  unfold piecesOf
  rw [PySem.W.Fast.te10110043849684766642, PySem.W.Fast.te14364793385576792824, PySem.W.Fast.te12563942051412417395]
  kernel_rfl
theorem open0 : ∀ w : World, (fencedOpening treeTable pr w 7426).map (fun s => (s.heap, s.gens, s.drawn, s.toks)) = some (boot_heap w.params, Array.mk [], boot_drawn, boot_toks) :=
  boot_open (by kernel_rfl) (by kernel_rfl) (by intro s; kernel_rfl)
noncomputable def heapE (P : Params) : Heap := Heap.mk (Array.mk (listAt P cut7)) {}
theorem size0 (w : World) : ((boot_heap w.params).isNs mainGlobals && (Array.mk ([] : List GenState)).size == 0, (boot_heap w.params).objs.size, (boot_heap w.params).nsMap mainGlobals "__annotations__") = (true, 11, some (.ref 6)) := by
  kernel_rfl
theorem pre0 (w : World) : (fun os => topGo treeTable pr w 11 (some (.ref 6)) 12 ⟨boot_heap w.params, Array.mk [], boot_drawn, boot_toks, os⟩ (topStub pr)) =
    fun os => some ((stAt w.params cut0 os).abs, ⟨denote treeTable cB, cB, p0, [topFrame p0]⟩) := by
  rw [PySem.W.Fast.te15667345088766844465, PySem.W.Fast.te14364793385576792824, PySem.W.Fast.te11892475500146522536]
  kernel_rfl
theorem block0 (w : World) : (fun os => segRun treeTable pr w 11 (some (.ref 6)) 1 1 (stAt w.params cut0 os).abs (blockOf (behindTheImports pr) envB cB p0 [topFrame p0])) =
    fun os => some (.next, (stAt w.params cut0 os).abs, cB, pos0) := by
  unfold blockOf
  rw [PySem.W.Fast.te14374325043358763698, PySem.W.Fast.te14364793385576792824, PySem.W.Fast.te1066825118222455980]
  kernel_rfl
theorem fin0 (w : World) : (fun os => topRun treeTable pr w 11 (some (.ref 6)) 2 (stAt w.params cut7 os).abs ⟨doneF .next, cB, pos7, [topFrame p0]⟩) =
    fun os => some ⟨heapE w.params, #[], {}, 1118, os⟩ := by
  rw [PySem.W.Fast.te14082659384304107361, PySem.W.Fast.te14364793385576792824]
  kernel_rfl
theorem cut_on {p : Program} {w : World} {n₀ : Nat} {ann : Option Value} {env : Env} {q : Pos} {n N i k : Nat} {s s' r : Shared} {b : List Stmt} {c : Code} {pos p' : Pos}
    (h : segRun treeTable p w n₀ ann 1 n s (piecesOf ((b.drop i).take k) env c pos [topFrame q]) = some (.next, s', c, p'))
    (e : topRun treeTable p w n₀ ann N s' (restOf (b.drop (i + k)) env c p' [topFrame q]) = some r) : topRun treeTable p w n₀ ann (n + N) s (restOf (b.drop i) env c pos [topFrame q]) = some r := by
  have x := piece_app h (rest := b.drop (i + k)) e
  rwa [← List.drop_drop, List.take_append_drop] at x
theorem body91 : (behindTheImports pr).drop 91 = [] := by kernel_rfl
theorem run0 (w : World) (os : OsState) : topRun treeTable pr w 11 (some (.ref 6)) (12 + (1 + (294 + (772 + (592 + (578 + (414 + (607 + (400 + 2))))))))) ⟨boot_heap w.params, Array.mk [], boot_drawn, boot_toks, os⟩ (topStub pr) = some ⟨heapE w.params, #[], {}, 1118, os⟩ := by
  refine go_top (congrFun (pre0 w) os) (piece_block (congrFun (block0 w) os) ?_)
  show topRun _ _ _ _ _ _ _ (restOf ((behindTheImports pr).drop 0) _ _ _ _) = _
  refine cut_on (i := 0) (k := 17) (segRun_of (congrFun (piece0 w) os)) ?_
  refine cut_on (i := 17) (k := 3) (segRun_of (congrFun (piece1 w) os)) ?_
  refine cut_on (i := 20) (k := 22) (segRun_of (congrFun (piece2 w) os)) ?_
  refine cut_on (i := 42) (k := 20) (segRun_of (congrFun (piece3 w) os)) ?_
  refine cut_on (i := 62) (k := 15) (segRun_of (congrFun (piece4 w) os)) ?_
  refine cut_on (i := 77) (k := 1) (segRun_of (congrFun (piece5 w) os)) ?_
  refine cut_on (i := 78) (k := 13) (segRun_of (congrFun (piece6 w) os)) ?_
  show topRun _ _ _ _ _ _ _ (restOf ((behindTheImports pr).drop 91) _ _ _ _) = _
  rw [body91]
  exact congrFun (fin0 w) os
def isNm : Stmt → Bool
  | .Assign [.Name x _] _ _ => x == Str.ofString "__name__"
  | _ => false
def vw : Program := { pr with main := { pr.main with body := pr.main.body.filter fun s => !isNm s } }
noncomputable abbrev lo : List Str := [Str.ofString "RECKONINGS"]
noncomputable abbrev sE (w : World) (os : OsState) : Shared := ⟨heapE w.params, #[], {}, 1118, os⟩
noncomputable abbrev Xt0 (s : Shared) : Bool := xlAt vw ([] : List (Str × WData)) s && recOk (RowW.records (PySem.Challenge.rw_tk0059_01.row.toRowW)) s
theorem look0 (w : World) : (fun os => staticsOk (importedModules pr.main.body) (boot_heap w.params) (heapE w.params) && namesBound pr (heapE w.params) && gensDone (sE w os) && laidKept (boot_heap w.params) (heapE w.params)) = fun _ => true := by
  kernel_rfl
theorem look1 (w : World) : (fun os => seen ((recsOf vw).map (·.name)) (ownsOf vw) [] { sE w os with gens := #[] }) = fun _ => expectedOf vw := by
  unfold expectedOf
  rw [PySem.W.Fast.te5160383126252970620, PySem.W.Fast.te3399658132070893891, PySem.W.Fast.te5991557255702980513]
  kernel_rfl
theorem look2 (w : World) : (heapE w.params).bltView = bltViewBooted := by
  kernel_rfl
noncomputable abbrev lw : List Str := [S "RECKONINGS", S "Limits", S "BLANKS"]
theorem loose0 : looseW vw lo = lw := by
  rw [PySem.W.Fast.te821141287760084731]
  kernel_rfl
theorem look3a (w : World) : (heapE w.params).keysOk lw ((recsOf vw).map (·.name)) ((litsOf vw).map (·.1)) ((clssOf vw lw).map (·.name)) = true := by
  rw [PySem.W.Fast.te3399658132070893891, PySem.W.Fast.te7409074990110511671, PySem.W.Fast.te13664370479719496447, PySem.W.Fast.te10880121769531294198]
  kernel_rfl
theorem look3b (w : World) : (heapE w.params).accountedOkI (importedModules pr.main.body) = true := by
  kernel_rfl
theorem look3c (w : World) : (heapE w.params).isNs mainGlobals = true := by
  kernel_rfl
theorem look3d (w : World) : (heapE w.params).isNs builtinsNs = true := by
  kernel_rfl
theorem look3e (w : World) : tablesOk vw (heapE w.params) = true := by
  rw [PySem.W.Fast.te10994771534591457954]
  kernel_rfl
theorem look3f (w : World) : (fun os => Xt0 (sE w os)) = fun _ => true := by
  kernel_rfl
theorem look3 (w : World) : (fun os => (heapE w.params).keysOk (looseW vw lo) ((recsOf vw).map (·.name)) ((litsOf vw).map (·.1)) ((clssOf vw (looseW vw lo)).map (·.name)) && (heapE w.params).accountedOkI (importedModules pr.main.body) && (heapE w.params).isNs mainGlobals && (heapE w.params).isNs builtinsNs && tablesOk vw (heapE w.params) && Xt0 (sE w os) && (#[] : Array GenState).size == 0) = fun _ => true := by
  rw [loose0]
  exact funext fun os => look_both (look_both (look_both (look_both (look_both (look_both (look3a w) (look3b w)) (look3c w)) (look3d w)) (look3e w)) (congrFun (look3f w) os)) rfl
theorem look4 (w : World) : (fun os => tabsOk vw (sE w os)) = fun _ => true := by
  rw [PySem.W.Fast.te479339242167458305]
  kernel_rfl
theorem look5 (w : World) : (fun os => pinSeenD vw (drecsOf vw) (sE w os)) = fun _ => pinGoodD (drecsOf vw) := by
  rw [PySem.W.Fast.te16090120013241838585, PySem.W.Fast.te3247288618530077131]
  kernel_rfl
theorem look6 (w : World) : (fun os => plainSeenE vw (looseW vw lo) (sE w os)) = fun _ => plainGoodE vw (looseW vw lo) := by
  rw [loose0, PySem.W.Fast.te2386780881361962483]
  unfold plainGoodE
  rw [PySem.W.Fast.te210736558901404530]
  kernel_rfl
theorem look7 (w : World) : (fun os => plainSeenD vw lo (sE w os)) = fun _ => plainGoodD vw lo := by
  rw [PySem.W.Fast.te11698064438423848299]
  kernel_rfl
theorem look8 (w : World) : (fun os => wideSeen vw (sE w os)) = fun _ => wideGood vw := by
  unfold wideGood
  rw [PySem.W.Fast.te7317090234206586261, PySem.W.Fast.te694669760492028198]
  kernel_rfl
theorem look9 (w : World) : (fun os => clsSeenW vw lo (sE w os)) = fun _ => clsGoodW vw lo := by
  rw [PySem.W.Fast.te7369524293546568484]
  kernel_rfl
noncomputable def pick : List Obj → Nat → List Addr → List (Option Obj)
  | [], _, l => l.map fun _ => none
  | o :: r, i, l => match l with
    | [] => []
    | a :: t => match Nat.beq a i with
      | true => (match o with | ⟨_, _, .freed, _⟩ => none | o => some o) :: pick r (i + 1) t
      | false => pick r (i + 1) (a :: t)
noncomputable def rises : Nat → List Addr → Bool
  | _, [] => true
  | i, a :: t => match Nat.ble i a with
    | true => rises (a + 1) t
    | false => false
theorem rises_ge : ∀ {i : Nat} {l : List Addr}, rises i l = true → ∀ a ∈ l, i ≤ a
  | _, [], _, _, h => by cases h
  | i, b :: t, h, a, ha => by
    unfold rises at h
    cases e : Nat.ble i b with
    | false => rw [e] at h; cases h
    | true =>
      rw [e] at h
      have hb := Nat.le_of_ble_eq_true e
      rcases List.mem_cons.mp ha with rfl | ha
      · exact hb
      · exact Nat.le_trans (Nat.le_trans hb (Nat.le_succ b)) (rises_ge h a ha)
theorem rises_le {i j : Nat} {l : List Addr} (h : rises i l = true) (hj : ∀ a ∈ l, j ≤ a) : rises j l = true := by
  cases l with
  | nil => rfl
  | cons a t =>
    unfold rises at h ⊢
    cases e : Nat.ble i a with
    | false => rw [e] at h; cases h
    | true =>
      rw [e] at h
      rw [Nat.ble_eq_true_of_le (hj a (List.mem_cons_self ..))]
      exact h
theorem pick_get {life : Life} : ∀ (r pre : List Obj) (l : List Addr), rises pre.length l = true → l.map (Heap.mk (Array.mk (pre ++ r)) life).get? = pick r pre.length l := by
  intro r
  induction r with
  | nil =>
    intro pre l h
    unfold pick
    refine List.map_congr_left fun a ha => ?_
    have := rises_ge h a ha
    unfold Heap.get?
    rw [show (Heap.mk (Array.mk (pre ++ [])) life).objs[a]? = none by simp; omega]
  | cons o r ih =>
    intro pre l h
    have e : pre ++ o :: r = (pre ++ [o]) ++ r := by simp
    have el : pre.length + 1 = (pre ++ [o]).length := by simp
    cases l with
    | nil => rfl
    | cons a t =>
      unfold pick
      dsimp only
      cases hb : Nat.beq a pre.length with
      | true =>
        have ha := Nat.eq_of_beq_eq_true hb
        subst ha
        dsimp only
        rw [List.map_cons]
        congr 1
        · unfold Heap.get?
          rw [show (Heap.mk (Array.mk (pre ++ o :: r)) life).objs[pre.length]? = some o by simp]
          obtain ⟨c, d, dt, s⟩ := o
          cases dt <;> rfl
        · rw [e, el]
          refine ih _ _ ?_
          unfold rises at h
          rw [Nat.ble_eq_true_of_le (Nat.le_refl _)] at h
          rw [← el]; exact h
      | false =>
        dsimp only
        have ha := Nat.ne_of_beq_eq_false hb
        rw [e, el]
        refine ih _ _ (rises_le h fun b hb => ?_)
        rw [← el]
        have hge := rises_ge h
        rcases List.mem_cons.mp hb with rfl | hb'
        · exact Nat.lt_of_le_of_ne (hge _ (List.mem_cons_self ..)) (Ne.symm ha)
        · unfold rises at h
          cases e2 : Nat.ble pre.length a with
          | false => rw [e2] at h; cases h
          | true =>
            rw [e2] at h
            have := rises_ge h b hb'
            have := Nat.le_of_ble_eq_true e2
            omega
theorem looka (w : World) : ([2, 3, 15, 17, 18, 20, 21, 22, 24, 25, 27, 28, 29, 31, 32, 34, 35, 36, 38, 39, 41, 42, 43, 45, 46, 48, 49, 50, 52, 53, 55, 56, 57, 59, 60, 62, 63, 71, 72, 74, 75, 77, 78, 79, 81, 82, 84, 85, 86, 88, 89, 91, 92, 93, 94, 95, 96, 97, 100, 107, 109, 110, 112, 113, 114, 115, 116, 117, 120, 127, 129, 130, 132, 133, 134, 135, 136, 137, 140, 142, 143, 145, 146, 147, 149, 150, 152, 153, 154, 156, 157, 159, 160, 161, 163, 164, 166, 167, 168, 170, 171, 173, 174, 175, 177, 178, 180, 181, 182, 184, 185, 187, 188, 189, 191, 192, 194, 195, 196, 198, 199, 201, 202, 203, 205, 206, 208, 209, 210, 212, 213, 215, 216, 217, 219, 220, 222, 223, 224, 226, 227, 229, 230, 231, 233, 234, 236, 237, 238, 240, 241, 243, 244, 245, 247, 248, 250, 251, 252, 254, 255, 257, 258, 259, 262, 263, 264, 267, 268, 269, 271, 272, 274, 275, 276, 278, 279, 281, 282, 283, 285, 286, 288, 289, 290, 292, 293, 295, 296, 297, 299, 300, 302, 303, 304, 306, 307, 309, 310, 311, 313, 314, 316, 317, 318, 320, 321, 323, 324, 325, 327, 328, 330, 331, 332, 334, 335, 337, 338, 339, 341, 342, 344, 345, 346, 348, 349, 351, 352, 353, 355, 356, 358, 359, 360, 363, 364, 365, 367, 368, 370, 371, 372, 374, 375, 377, 378, 379, 381, 382, 384, 385, 386, 387, 389, 390, 392, 393, 394, 396, 397, 399, 400, 408, 410, 411, 413, 414, 415, 416, 417, 418, 419, 429, 431, 432, 434, 435, 436, 438, 439, 441, 442, 443, 445, 446, 448, 449, 450, 452, 453, 455, 456, 457, 459, 460, 462, 463, 464, 466, 467, 469, 470, 471, 473, 474, 476, 477, 478, 480, 481, 483, 484, 485, 487, 488, 490, 491, 492, 494, 495, 497, 498, 499, 501, 502, 504, 505, 506, 507, 508, 509, 510, 513, 515, 516, 518, 519, 520, 522, 523, 525, 526, 527, 529, 530, 532, 533, 534, 536, 537, 539, 540, 541, 543, 544, 546, 547, 548, 550, 551, 553, 554, 555, 557, 558, 560, 561, 562, 564, 565, 567, 568, 569, 571, 572, 574, 575, 576, 578, 579, 581, 582, 583, 585, 586, 588, 589, 590, 592, 593, 595, 596] : List Addr).map (heapE w.params).get? = (hd.heap_1 w.params).map fun p => some p.2 := by
  have h := pick_get (life := {}) (listAt w.params cut7) [] [2, 3, 15, 17, 18, 20, 21, 22, 24, 25, 27, 28, 29, 31, 32, 34, 35, 36, 38, 39, 41, 42, 43, 45, 46, 48, 49, 50, 52, 53, 55, 56, 57, 59, 60, 62, 63, 71, 72, 74, 75, 77, 78, 79, 81, 82, 84, 85, 86, 88, 89, 91, 92, 93, 94, 95, 96, 97, 100, 107, 109, 110, 112, 113, 114, 115, 116, 117, 120, 127, 129, 130, 132, 133, 134, 135, 136, 137, 140, 142, 143, 145, 146, 147, 149, 150, 152, 153, 154, 156, 157, 159, 160, 161, 163, 164, 166, 167, 168, 170, 171, 173, 174, 175, 177, 178, 180, 181, 182, 184, 185, 187, 188, 189, 191, 192, 194, 195, 196, 198, 199, 201, 202, 203, 205, 206, 208, 209, 210, 212, 213, 215, 216, 217, 219, 220, 222, 223, 224, 226, 227, 229, 230, 231, 233, 234, 236, 237, 238, 240, 241, 243, 244, 245, 247, 248, 250, 251, 252, 254, 255, 257, 258, 259, 262, 263, 264, 267, 268, 269, 271, 272, 274, 275, 276, 278, 279, 281, 282, 283, 285, 286, 288, 289, 290, 292, 293, 295, 296, 297, 299, 300, 302, 303, 304, 306, 307, 309, 310, 311, 313, 314, 316, 317, 318, 320, 321, 323, 324, 325, 327, 328, 330, 331, 332, 334, 335, 337, 338, 339, 341, 342, 344, 345, 346, 348, 349, 351, 352, 353, 355, 356, 358, 359, 360, 363, 364, 365, 367, 368, 370, 371, 372, 374, 375, 377, 378, 379, 381, 382, 384, 385, 386, 387, 389, 390, 392, 393, 394, 396, 397, 399, 400, 408, 410, 411, 413, 414, 415, 416, 417, 418, 419, 429, 431, 432, 434, 435, 436, 438, 439, 441, 442, 443, 445, 446, 448, 449, 450, 452, 453, 455, 456, 457, 459, 460, 462, 463, 464, 466, 467, 469, 470, 471, 473, 474, 476, 477, 478, 480, 481, 483, 484, 485, 487, 488, 490, 491, 492, 494, 495, 497, 498, 499, 501, 502, 504, 505, 506, 507, 508, 509, 510, 513, 515, 516, 518, 519, 520, 522, 523, 525, 526, 527, 529, 530, 532, 533, 534, 536, 537, 539, 540, 541, 543, 544, 546, 547, 548, 550, 551, 553, 554, 555, 557, 558, 560, 561, 562, 564, 565, 567, 568, 569, 571, 572, 574, 575, 576, 578, 579, 581, 582, 583, 585, 586, 588, 589, 590, 592, 593, 595, 596] (by kernel_rfl)
  refine Eq.trans h ?_
  kernel_rfl
theorem lookb (w : World) : ([535] : List Addr).map (heapE w.params).get? = ([535] : List Addr).map fun _ => some (tabObj #[]) := by
  kernel_rfl
theorem pairs {α β : Type} {a a' : α} {b b' : β} (x : a = a') (y : b = b') : (a, b) = (a', b') := by rw [x, y]
theorem looks (w : World) : (fun os => ((staticsOk (importedModules pr.main.body) (boot_heap w.params) (heapE w.params) && namesBound pr (heapE w.params) && gensDone (sE w os) && laidKept (boot_heap w.params) (heapE w.params)),
    openSeen vw lo (importedModules pr.main.body) Xt0 true (sE w os), (([2, 3, 15, 17, 18, 20, 21, 22, 24, 25, 27, 28, 29, 31, 32, 34, 35, 36, 38, 39, 41, 42, 43, 45, 46, 48, 49, 50, 52, 53, 55, 56, 57, 59, 60, 62, 63, 71, 72, 74, 75, 77, 78, 79, 81, 82, 84, 85, 86, 88, 89, 91, 92, 93, 94, 95, 96, 97, 100, 107, 109, 110, 112, 113, 114, 115, 116, 117, 120, 127, 129, 130, 132, 133, 134, 135, 136, 137, 140, 142, 143, 145, 146, 147, 149, 150, 152, 153, 154, 156, 157, 159, 160, 161, 163, 164, 166, 167, 168, 170, 171, 173, 174, 175, 177, 178, 180, 181, 182, 184, 185, 187, 188, 189, 191, 192, 194, 195, 196, 198, 199, 201, 202, 203, 205, 206, 208, 209, 210, 212, 213, 215, 216, 217, 219, 220, 222, 223, 224, 226, 227, 229, 230, 231, 233, 234, 236, 237, 238, 240, 241, 243, 244, 245, 247, 248, 250, 251, 252, 254, 255, 257, 258, 259, 262, 263, 264, 267, 268, 269, 271, 272, 274, 275, 276, 278, 279, 281, 282, 283, 285, 286, 288, 289, 290, 292, 293, 295, 296, 297, 299, 300, 302, 303, 304, 306, 307, 309, 310, 311, 313, 314, 316, 317, 318, 320, 321, 323, 324, 325, 327, 328, 330, 331, 332, 334, 335, 337, 338, 339, 341, 342, 344, 345, 346, 348, 349, 351, 352, 353, 355, 356, 358, 359, 360, 363, 364, 365, 367, 368, 370, 371, 372, 374, 375, 377, 378, 379, 381, 382, 384, 385, 386, 387, 389, 390, 392, 393, 394, 396, 397, 399, 400, 408, 410, 411, 413, 414, 415, 416, 417, 418, 419, 429, 431, 432, 434, 435, 436, 438, 439, 441, 442, 443, 445, 446, 448, 449, 450, 452, 453, 455, 456, 457, 459, 460, 462, 463, 464, 466, 467, 469, 470, 471, 473, 474, 476, 477, 478, 480, 481, 483, 484, 485, 487, 488, 490, 491, 492, 494, 495, 497, 498, 499, 501, 502, 504, 505, 506, 507, 508, 509, 510, 513, 515, 516, 518, 519, 520, 522, 523, 525, 526, 527, 529, 530, 532, 533, 534, 536, 537, 539, 540, 541, 543, 544, 546, 547, 548, 550, 551, 553, 554, 555, 557, 558, 560, 561, 562, 564, 565, 567, 568, 569, 571, 572, 574, 575, 576, 578, 579, 581, 582, 583, 585, 586, 588, 589, 590, 592, 593, 595, 596] : List Addr).map (sE w os).heap.get?, ([535] : List Addr).map (sE w os).heap.get?))) =
    fun _ => (true, openGood vw lo, ((hd.heap_1 w.params).map fun p => some p.2, ([535] : List Addr).map fun _ => some (tabObj #[]))) := by
  funext os
  unfold openSeen openGood
  dsimp only
  have h0 := congrFun (look0 w) os
  have h1 := congrFun (look1 w) os
  have h3 := congrFun (look3 w) os
  have h4 := congrFun (look4 w) os
  have h5 := congrFun (look5 w) os
  have h6 := congrFun (look6 w) os
  have h7 := congrFun (look7 w) os
  have h8 := congrFun (look8 w) os
  have h9 := congrFun (look9 w) os
  exact pairs h0 (pairs (pairs h1 (pairs (look2 w) (pairs h3 (pairs h4 (pairs h5 (pairs h6 (pairs h7 (pairs h8 h9)))))))) (pairs (looka w) (lookb w)))
theorem addrs (P : Params) : ([2, 3, 15, 17, 18, 20, 21, 22, 24, 25, 27, 28, 29, 31, 32, 34, 35, 36, 38, 39, 41, 42, 43, 45, 46, 48, 49, 50, 52, 53, 55, 56, 57, 59, 60, 62, 63, 71, 72, 74, 75, 77, 78, 79, 81, 82, 84, 85, 86, 88, 89, 91, 92, 93, 94, 95, 96, 97, 100, 107, 109, 110, 112, 113, 114, 115, 116, 117, 120, 127, 129, 130, 132, 133, 134, 135, 136, 137, 140, 142, 143, 145, 146, 147, 149, 150, 152, 153, 154, 156, 157, 159, 160, 161, 163, 164, 166, 167, 168, 170, 171, 173, 174, 175, 177, 178, 180, 181, 182, 184, 185, 187, 188, 189, 191, 192, 194, 195, 196, 198, 199, 201, 202, 203, 205, 206, 208, 209, 210, 212, 213, 215, 216, 217, 219, 220, 222, 223, 224, 226, 227, 229, 230, 231, 233, 234, 236, 237, 238, 240, 241, 243, 244, 245, 247, 248, 250, 251, 252, 254, 255, 257, 258, 259, 262, 263, 264, 267, 268, 269, 271, 272, 274, 275, 276, 278, 279, 281, 282, 283, 285, 286, 288, 289, 290, 292, 293, 295, 296, 297, 299, 300, 302, 303, 304, 306, 307, 309, 310, 311, 313, 314, 316, 317, 318, 320, 321, 323, 324, 325, 327, 328, 330, 331, 332, 334, 335, 337, 338, 339, 341, 342, 344, 345, 346, 348, 349, 351, 352, 353, 355, 356, 358, 359, 360, 363, 364, 365, 367, 368, 370, 371, 372, 374, 375, 377, 378, 379, 381, 382, 384, 385, 386, 387, 389, 390, 392, 393, 394, 396, 397, 399, 400, 408, 410, 411, 413, 414, 415, 416, 417, 418, 419, 429, 431, 432, 434, 435, 436, 438, 439, 441, 442, 443, 445, 446, 448, 449, 450, 452, 453, 455, 456, 457, 459, 460, 462, 463, 464, 466, 467, 469, 470, 471, 473, 474, 476, 477, 478, 480, 481, 483, 484, 485, 487, 488, 490, 491, 492, 494, 495, 497, 498, 499, 501, 502, 504, 505, 506, 507, 508, 509, 510, 513, 515, 516, 518, 519, 520, 522, 523, 525, 526, 527, 529, 530, 532, 533, 534, 536, 537, 539, 540, 541, 543, 544, 546, 547, 548, 550, 551, 553, 554, 555, 557, 558, 560, 561, 562, 564, 565, 567, 568, 569, 571, 572, 574, 575, 576, 578, 579, 581, 582, 583, 585, 586, 588, 589, 590, 592, 593, 595, 596] : List Addr) = (hd.heap_1 P).map (·.1) := by kernel_rfl
noncomputable abbrev hook0 : Hook := kmHook hd.heap_1 [2, 3, 15, 17, 18, 20, 21, 22, 24, 25, 27, 28, 29, 31, 32, 34, 35, 36, 38, 39, 41, 42, 43, 45, 46, 48, 49, 50, 52, 53, 55, 56, 57, 59, 60, 62, 63, 71, 72, 74, 75, 77, 78, 79, 81, 82, 84, 85, 86, 88, 89, 91, 92, 93, 94, 95, 96, 97, 100, 107, 109, 110, 112, 113, 114, 115, 116, 117, 120, 127, 129, 130, 132, 133, 134, 135, 136, 137, 140, 142, 143, 145, 146, 147, 149, 150, 152, 153, 154, 156, 157, 159, 160, 161, 163, 164, 166, 167, 168, 170, 171, 173, 174, 175, 177, 178, 180, 181, 182, 184, 185, 187, 188, 189, 191, 192, 194, 195, 196, 198, 199, 201, 202, 203, 205, 206, 208, 209, 210, 212, 213, 215, 216, 217, 219, 220, 222, 223, 224, 226, 227, 229, 230, 231, 233, 234, 236, 237, 238, 240, 241, 243, 244, 245, 247, 248, 250, 251, 252, 254, 255, 257, 258, 259, 262, 263, 264, 267, 268, 269, 271, 272, 274, 275, 276, 278, 279, 281, 282, 283, 285, 286, 288, 289, 290, 292, 293, 295, 296, 297, 299, 300, 302, 303, 304, 306, 307, 309, 310, 311, 313, 314, 316, 317, 318, 320, 321, 323, 324, 325, 327, 328, 330, 331, 332, 334, 335, 337, 338, 339, 341, 342, 344, 345, 346, 348, 349, 351, 352, 353, 355, 356, 358, 359, 360, 363, 364, 365, 367, 368, 370, 371, 372, 374, 375, 377, 378, 379, 381, 382, 384, 385, 386, 387, 389, 390, 392, 393, 394, 396, 397, 399, 400, 408, 410, 411, 413, 414, 415, 416, 417, 418, 419, 429, 431, 432, 434, 435, 436, 438, 439, 441, 442, 443, 445, 446, 448, 449, 450, 452, 453, 455, 456, 457, 459, 460, 462, 463, 464, 466, 467, 469, 470, 471, 473, 474, 476, 477, 478, 480, 481, 483, 484, 485, 487, 488, 490, 491, 492, 494, 495, 497, 498, 499, 501, 502, 504, 505, 506, 507, 508, 509, 510, 513, 515, 516, 518, 519, 520, 522, 523, 525, 526, 527, 529, 530, 532, 533, 534, 536, 537, 539, 540, 541, 543, 544, 546, 547, 548, 550, 551, 553, 554, 555, 557, 558, 560, 561, 562, 564, 565, 567, 568, 569, 571, 572, 574, 575, 576, 578, 579, 581, 582, 583, 585, 586, 588, 589, 590, 592, 593, 595, 596] addrs [535]
theorem leafA : namesResolve pr = true := by rw [PySem.W.Fast.te8377067652309620493]; kernel_rfl
theorem leafB1 : ((importedModules pr.main.body).all cThrough.contains) = true := by kernel_rfl
theorem leafB2 : (["vars", "dir", "locals"] : List Str).filter (readsOut pr pr.main.body) = [] := by kernel_rfl
theorem leafB : noRoadLSs { strict := !(importedModules pr.main.body).all cThrough.contains, foot := none, bare := (["vars", "dir", "locals"] : List Str).filter (readsOut pr pr.main.body) } pr.main.body = true := by
  rw [leafB1, leafB2, PySem.W.Fast.te8326940854005059898]; kernel_rfl
theorem leafC : namesMeet pr pr.main.body (fun _ n => attrL n) = true := by rw [PySem.W.Fast.te17119622794617984870]; kernel_rfl
theorem leafD : sreFenced pr.main = true := by kernel_rfl
theorem leafE : ((moduleNames pr.main.body).isEmpty || lookedIntoSs (moduleNames pr.main.body) pr.main.body) = true := by kernel_rfl
theorem leafF : pr.boundNames.all (fun n => !worldNames.contains n) = true := by kernel_rfl
theorem looks0 : looksOpen pr = true := by unfold looksOpen; exact look_both (look_both (look_both (look_both (look_both leafD leafE) leafA) leafF) leafB) leafC
theorem whole0 : pr.tablesWhole = true := by
  unfold Program.tablesWhole TablesWhole.wProgram
  try rw [PySem.W.Fast.te6116379765354995101]
  kernel_rfl
theorem said0 : PySem.Challenge.rw_tk0059_01.wellSaid = true := by
  rw [PySem.W.Fast.te9446332074065402090]
  unfold PySem.W.Fast.tw9446332074065402090
  iterate 18 refine look_both ?_ ?_
  unfold PySem.W.Fast.tw17960256430627541270
  iterate 2 refine look_both ?_ ?_
  unfold PySem.W.Fast.tw2436336058641802641
  iterate 13 refine look_both ?_ ?_
  · rw [← PySem.W.Fast.te12908688711261696721]
    exact looks0
  all_goals kernel_rfl
theorem theDef0 : (defOf vw (Str.ofString "law")).map (fun x => (x.1.params, x.1.body, x.1.scope)) = pr.theDef (Str.ofString "law") := by kernel_rfl
theorem theKw0 : (defOf vw (Str.ofString "law")).map (fun x => kwWritten? x.1.params.kwonlyargs x.1.params.kw_defaults) = some (some []) := by kernel_rfl
local macro_rules | `(tactic| walk_at $s:str) => `(tactic| k_extra $s)
local macro_rules | `(tactic| k_room) => `(tactic| ktr_room)
local macro_rules | `(tactic| k_units) => `(tactic| ktr_units)
local macro_rules | `(tactic| k_lt $h:ident) => `(tactic| (replace $h := allLt_of $h; simp only [AllLt, and_true] at $h:ident; (repeat (have hlt9 := And.left $h; replace $h := And.right $h))))
local macro_rules | `(tactic| k_ne) => `(tactic| (refine neN ?_; (try dsimp only); with_reducible (first | exact Nat.ne_of_gt (by assumption) | exact Nat.ne_of_lt (by assumption) | assumption | exact Ne.symm (by assumption))))
local macro_rules | `(tactic| kn_triples) => `(tactic| (simp [TriplesOk, rawInt]; done))
local macro_rules | `(tactic| kn_among) => `(tactic| (simp [codeAmong, rawInt]; done))
local macro_rules | `(tactic| k_mem) => `(tactic| first | exact List.Mem.head _ | assumption | (refine List.mem_cons_of_mem _ ?_; k_mem))
local macro_rules | `(tactic| k_in) => `(tactic| exact in_of_fr (by with_reducible assumption) (by with_reducible assumption))
local macro_rules | `(tactic| kst_facts1) => `(tactic| first | exact IntsAre.nil | exact IntsAre.append (by assumption) (.cons _ _ .nil))
theorem w_C1_1 : True := by
  k_with_none
  trivial

def wrp (n : Int) : Int := if 32768 ≤ n % 65536 then n % 65536 - 65536 else n % 65536
theorem mask16 : (1 * 2 ^ Int.toNat 16 - 1 : Int) = 65535 := by decide
theorem wrap_a {n : Int} (h : Builtin.bitAnd n (1 * 2 ^ Int.toNat 16 - 1) ≥ 1 * 2 ^ (Int.toNat (16 - 1))) : Builtin.bitAnd n (1 * 2 ^ Int.toNat 16 - 1) - 1 * 2 ^ Int.toNat 16 = wrp n := by
  rw [mask16, bitAnd_m16] at *
  have e1 : (1 * 2 ^ Int.toNat 16 : Int) = 65536 := by decide
  have e2 : (1 * 2 ^ (Int.toNat (16 - 1)) : Int) = 32768 := by decide
  rw [e2] at h; rw [e1]; unfold wrp; rw [if_pos h]
theorem wrap_b {n : Int} (h : ¬ Builtin.bitAnd n (1 * 2 ^ Int.toNat 16 - 1) ≥ 1 * 2 ^ (Int.toNat (16 - 1))) : Builtin.bitAnd n (1 * 2 ^ Int.toNat 16 - 1) = wrp n := by
  rw [mask16, bitAnd_m16] at *
  have e2 : (1 * 2 ^ (Int.toNat (16 - 1)) : Int) = 32768 := by decide
  rw [e2] at h; unfold wrp; rw [if_neg (by omega)]
theorem wrp_lo (n : Int) : -32768 ≤ wrp n := by unfold wrp; split <;> omega
theorem wrp_hi (n : Int) : wrp n < 32768 := by unfold wrp; split <;> omega
theorem wrap_ok {w : World} {p : Program} {loose : List Str} {mean : ExcName → Option Value} {mg mb : Str → Option Value} {dp un : Nat} {gd : Option (List Code)} {cn : Str} {nms : List (Str × NameKind)} {ig ic : Bool} {mo : List (Str × Const)} {a : Addr} {ccd : Value} {cl : List (Str × Addr)} {outer : List Env} {A₀ : Around} {base h₀ : Heap} {L : Addr} {m : Str → Option Value} {s : Shared} {Q E : Value → Shared → Prop} {news : List (Addr × Obj)} {n : Int} {t u : Tok}
    (B : Below A₀ base outer h₀) (F : Fr h₀ L s.heap m) (X : (hd.heap_1 w.params).In h₀) (N : News h₀ L s.heap (news)) (T : Top p loose mean mg mb h₀) (hdp : dp + 8 < recursionLimit) (hun : un + 64 < cLine)
    
    (hret : ∀ (v : Int) (t : Tok) (h' : Heap) (tk' : Nat), v = wrp n → Fr h₀ L h' m → News h₀ L h' news → Q (.int v t) { s with heap := h', toks := tk' }) :
    wpAny (model PySem.Challenge.rw_tk0059_01.row.prog w) (ktrTop dp un gd cn (Scope.mk ScopeKind.function nms ig ic mo) L a ccd cl outer) (call (.ref 160) [.int n t, .int 16 u]) Q E s := by
  revert X; k_fill; intro X
  have hk : (Scope.mk ScopeKind.function nms ig ic mo).kind = ScopeKind.function := rfl
  refine wpAny_call ?_
  k_dflt cell_enter
  k_steps
  all_goals first
    | exact hret _ _ _ _ (wrap_a (by assumption)) (by k_asm) (by k_asm)
    | exact hret _ _ _ _ (wrap_b (by assumption)) (by k_asm) (by k_asm)
    | trace_state
theorem w_C2_1 : True := by
  k_with_none
  trivial
theorem poured_ok {w : World} {p : Program} {loose : List Str} {mean : ExcName → Option Value} {mg mb : Str → Option Value} {dp un : Nat} {gd : Option (List Code)} {cn : Str} {nms : List (Str × NameKind)} {ig ic : Bool} {mo : List (Str × Const)} {a : Addr} {ccd : Value} {cl : List (Str × Addr)} {outer : List Env} {A₀ : Around} {base h₀ : Heap} {L : Addr} {m : Str → Option Value} {s : Shared} {Q E : Value → Shared → Prop} {cup cells : Addr} {k many : Int} {tk tm : Tok} {n0 n1 : Nat} {vs : List Value} {ns : List Int} {rest : List (Addr × Obj)}
    (B : Below A₀ base outer h₀) (F : Fr h₀ L s.heap m) (X : (hd.heap_1 w.params).In h₀) (N : News h₀ L s.heap ((cup, listOf [Value.ref cells, Value.int k tk].toArray n0) :: (cells, listOf vs.toArray n1) :: rest)) (T : Top p loose mean mg mb h₀) (hdp : dp + 8 < recursionLimit) (hun : un + 64 < cLine)
    (hi : IntsAre vs ns) (hfit : ns.length ≤ 6) (h0 : 0 ≤ k) (h1 : k ≤ 6) (hm0 : 0 < many) (hm1 : many ≤ 3000) (hc : cells ≠ cup) (hoff : OwnOff rest [cup])
    (hret : ∀ (r : Int) (t tk2 : Tok) (h' : Heap) (tk' : Nat), 0 ≤ r → r < many → Fr h₀ L h' m → News h₀ L h' ((cup, listOf [Value.ref cells, Value.int (k + 1) tk2].toArray n0) :: (cells, listOf vs.toArray n1) :: rest) → Q (.int r t) { s with heap := h', toks := tk' }) :
    wpAny (model PySem.Challenge.rw_tk0059_01.row.prog w) (ktrTop dp un gd cn (Scope.mk ScopeKind.function nms ig ic mo) L a ccd cl outer) (call (.ref 519) [.ref cup, .int many tm]) Q E s := by
  revert X; k_fill; intro X
  have hk : (Scope.mk ScopeKind.function nms ig ic mo).kind = ScopeKind.function := rfl
  have hMk := kstMark
  refine wpAny_call ?_
  k_dflt cell_enter
  k_steps
  all_goals exact hret _ _ _ _ _ (by rw [Int.fmod_eq_emod_of_nonneg _ (by omega)]; exact Int.emod_nonneg _ (by omega)) (Int.fmod_lt_of_pos _ hm0) (by k_asm) (by k_asm)
theorem poured_use {w : World} {p : Program} {loose : List Str} {mean : ExcName → Option Value} {mg mb : Str → Option Value} {dp un : Nat} {gd : Option (List Code)} {cn : Str} {nms : List (Str × NameKind)} {ig ic : Bool} {mo : List (Str × Const)} {a : Addr} {ccd : Value} {cl : List (Str × Addr)} {outer : List Env} {A₀ : Around} {base h₀ : Heap} {L : Addr} {m : Str → Option Value} {s : Shared} {Q E : Value → Shared → Prop} {cup cells : Addr} {k many : Int} {tk tm : Tok} {n0 n1 : Nat} {vs : List Value} {ns : List Int} {news : List (Addr × Obj)} {g : Obj → List (Addr × Obj)}
    (B : Below A₀ base outer h₀) (F : Fr h₀ L s.heap m) (X : (hd.heap_1 w.params).In h₀) (N : News h₀ L s.heap (news)) (T : Top p loose mean mg mb h₀) (hdp : dp + 8 < recursionLimit) (hun : un + 64 < cLine)
    (U : UpdF cup (listOf [Value.ref cells, Value.int k tk].toArray n0) news g) (hcm : (cells, listOf vs.toArray n1) ∈ news) (hi : IntsAre vs ns) (hfit : ns.length ≤ 6) (h0 : 0 ≤ k) (h1 : k ≤ 6) (hm0 : 0 < many) (hm1 : many ≤ 3000) (hc : cells ≠ cup)
    (hret : ∀ (r : Int) (t tk2 : Tok) (h' : Heap) (tk' : Nat), 0 ≤ r → r < many → Fr h₀ L h' m → News h₀ L h' (g (listOf [Value.ref cells, Value.int (k + 1) tk2].toArray n0)) → Q (.int r t) { s with heap := h', toks := tk' }) :
    wpAny (model PySem.Challenge.rw_tk0059_01.row.prog w) (ktrTop dp un gd cn (Scope.mk ScopeKind.function nms ig ic mo) L a ccd cl outer) (call (.ref 519) [.ref cup, .int many tm]) Q E s := by
  obtain ⟨own, rest, rfl, hgr, h2, h3⟩ := U.split
  have N2 : News h₀ L s.heap ((cup, listOf [Value.ref cells, Value.int k tk].toArray n0) :: (cells, listOf vs.toArray n1) :: (own ++ rest)) := by
    intro q hq
    rcases List.mem_cons.mp hq with rfl | hq
    · exact N _ (by simp)
    · rcases List.mem_cons.mp hq with rfl | hq
      · exact N _ hcm
      · rcases List.mem_append.mp hq with hq | hq
        · exact N _ (List.mem_append_left _ hq)
        · exact N _ (List.mem_append_right _ (List.mem_cons_of_mem _ hq))
  refine poured_ok B F X N2 T hdp hun hi hfit h0 h1 hm0 hm1 hc ?_ ?_
  · intro q hq b hb
    rw [List.mem_singleton.mp hb]
    rcases List.mem_append.mp hq with hq | hq
    · exact h2 q hq
    · exact h3 q hq
  · intro r t tk2 h' tk' hr0 hr1 F' N'
    refine hret r t tk2 h' tk' hr0 hr1 F' ?_
    rw [hgr]
    intro q hq
    rcases List.mem_append.mp hq with hq | hq
    · exact N' _ (by simp [hq])
    · rcases List.mem_cons.mp hq with rfl | hq
      · exact N' _ (by simp)
      · exact N' _ (by simp [hq])
theorem w_C3_1 : True := by
  k_with_none
  trivial
theorem bitAnd_m9 (x : Int) : Builtin.bitAnd x 511 = x % 512 := by
  have h := kbt_mask x 9
  exact h
theorem retv {h₀ h' : Heap} {L : Addr} {m : Str → Option Value} {news : List (Addr × Obj)} {s : Shared} {Q : Value → Shared → Prop} {v v' : Int} {t : Tok} {tk' : Nat}
   (hret : ∀ (t : Tok) (h' : Heap) (tk' : Nat), Fr h₀ L h' m → News h₀ L h' news → Q (.int v t) { s with heap := h', toks := tk' }) (e : v' = v) (F : Fr h₀ L h' m) (N : News h₀ L h' news) : Q (.int v' t) { s with heap := h', toks := tk' } := by
  subst e; exact hret _ _ _ F N
theorem word_ok {w : World} {p : Program} {loose : List Str} {mean : ExcName → Option Value} {mg mb : Str → Option Value} {dp un : Nat} {gd : Option (List Code)} {cn : Str} {nms : List (Str × NameKind)} {ig ic : Bool} {mo : List (Str × Const)} {a : Addr} {ccd : Value} {cl : List (Str × Addr)} {outer : List Env} {A₀ : Around} {base h₀ : Heap} {L : Addr} {m : Str → Option Value} {s : Shared} {Q E : Value → Shared → Prop} {news : List (Addr × Obj)} {o a1 b c v : Int} {t0 t1 t2 t3 : Tok}
    (B : Below A₀ base outer h₀) (F : Fr h₀ L s.heap m) (X : (hd.heap_1 w.params).In h₀) (N : News h₀ L s.heap (news)) (T : Top p loose mean mg mb h₀) (hdp : dp + 8 < recursionLimit) (hun : un + 64 < cLine)
    (e : o + 64 * a1 + 16384 * c + 8388608 * b = v) (ho : 0 ≤ o) (ho2 : o < 64) (ha : 0 ≤ a1) (ha2 : a1 < 256) (hb : 0 ≤ b) (hb2 : b < 512) (hc : 0 ≤ c) (hc2 : c < 512)
    (hret : ∀ (t : Tok) (h' : Heap) (tk' : Nat), Fr h₀ L h' m → News h₀ L h' news → Q (.int v t) { s with heap := h', toks := tk' }) :
    wpAny (model PySem.Challenge.rw_tk0059_01.row.prog w) (ktrTop dp un gd cn (Scope.mk ScopeKind.function nms ig ic mo) L a ccd cl outer) (call (.ref 526) [.int o t0, .int a1 t1, .int b t2, .int c t3]) Q E s := by
  revert X; k_fill; intro X
  have hk : (Scope.mk ScopeKind.function nms ig ic mo).kind = ScopeKind.function := rfl
  refine wpAny_call ?_
  k_dflt cell_enter
  k_steps
  all_goals first
    | (exact hret _ _ _ (by k_asm) (by k_asm))
    | (refine retv hret ?_ (by k_asm) (by k_asm); (try simp only [bitAnd_m8, bitAnd_m8', bitAnd_m6, bitAnd_m9]); omega)
    | trace_state
theorem jump_ok {w : World} {p : Program} {loose : List Str} {mean : ExcName → Option Value} {mg mb : Str → Option Value} {dp un : Nat} {gd : Option (List Code)} {cn : Str} {nms : List (Str × NameKind)} {ig ic : Bool} {mo : List (Str × Const)} {a : Addr} {ccd : Value} {cl : List (Str × Addr)} {outer : List Env} {A₀ : Around} {base h₀ : Heap} {L : Addr} {m : Str → Option Value} {s : Shared} {Q E : Value → Shared → Prop} {news : List (Addr × Obj)} {a1 b v : Int} {t0 t1 : Tok}
    (B : Below A₀ base outer h₀) (F : Fr h₀ L s.heap m) (X : (hd.heap_1 w.params).In h₀) (N : News h₀ L s.heap (news)) (T : Top p loose mean mg mb h₀) (hdp : dp + 8 < recursionLimit) (hun : un + 64 < cLine)
    (e : 22 + 16384 * (b - a1 - 1 + 131071) = v) (ha : 0 ≤ a1) (ha2 : a1 < 256) (hb : 0 ≤ b) (hb2 : b < 512)
    (hret : ∀ (t : Tok) (h' : Heap) (tk' : Nat), Fr h₀ L h' m → News h₀ L h' news → Q (.int v t) { s with heap := h', toks := tk' }) :
    wpAny (model PySem.Challenge.rw_tk0059_01.row.prog w) (ktrTop dp un gd cn (Scope.mk ScopeKind.function nms ig ic mo) L a ccd cl outer) (call (.ref 533) [.int a1 t0, .int b t1]) Q E s := by
  revert X; k_fill; intro X
  have hk : (Scope.mk ScopeKind.function nms ig ic mo).kind = ScopeKind.function := rfl
  refine wpAny_call ?_
  k_dflt cell_enter
  k_steps
  all_goals first
    | (exact hret _ _ _ (by k_asm) (by k_asm))
    | (refine retv hret ?_ (by k_asm) (by k_asm); (try simp only [bitAnd_m8, bitAnd_m8', bitAnd_m6, bitAnd_m9]); omega)
    | trace_state
theorem op_of_ok {w : World} {p : Program} {loose : List Str} {mean : ExcName → Option Value} {mg mb : Str → Option Value} {dp un : Nat} {gd : Option (List Code)} {cn : Str} {nms : List (Str × NameKind)} {ig ic : Bool} {mo : List (Str × Const)} {a : Addr} {ccd : Value} {cl : List (Str × Addr)} {outer : List Env} {A₀ : Around} {base h₀ : Heap} {L : Addr} {m : Str → Option Value} {s : Shared} {Q E : Value → Shared → Prop} {news : List (Addr × Obj)} {i v : Int} {t0 : Tok}
    (B : Below A₀ base outer h₀) (F : Fr h₀ L s.heap m) (X : (hd.heap_1 w.params).In h₀) (N : News h₀ L s.heap (news)) (T : Top p loose mean mg mb h₀) (hdp : dp + 8 < recursionLimit) (hun : un + 64 < cLine)
    (e : i % 64 = v) (h0 : 0 ≤ i) (h1 : i < 4294967296)
    (hret : ∀ (t : Tok) (h' : Heap) (tk' : Nat), Fr h₀ L h' m → News h₀ L h' news → Q (.int v t) { s with heap := h', toks := tk' }) :
    wpAny (model PySem.Challenge.rw_tk0059_01.row.prog w) (ktrTop dp un gd cn (Scope.mk ScopeKind.function nms ig ic mo) L a ccd cl outer) (call (.ref 28) [.int i t0]) Q E s := by
  revert X; k_fill; intro X
  have hk : (Scope.mk ScopeKind.function nms ig ic mo).kind = ScopeKind.function := rfl
  refine wpAny_call ?_
  k_dflt cell_enter
  k_steps
  all_goals first
    | (exact hret _ _ _ (by k_asm) (by k_asm))
    | (refine retv hret ?_ (by k_asm) (by k_asm); (try simp only [bitAnd_m8, bitAnd_m8', bitAnd_m6, bitAnd_m9]); (first | omega | (subst e; simp [Int.fdiv_eq_ediv_of_nonneg, Int.toNat]; done) | (subst e; first | rfl | (congr 1; done) | trace_state)))
    | trace_state
theorem a_of_ok {w : World} {p : Program} {loose : List Str} {mean : ExcName → Option Value} {mg mb : Str → Option Value} {dp un : Nat} {gd : Option (List Code)} {cn : Str} {nms : List (Str × NameKind)} {ig ic : Bool} {mo : List (Str × Const)} {a : Addr} {ccd : Value} {cl : List (Str × Addr)} {outer : List Env} {A₀ : Around} {base h₀ : Heap} {L : Addr} {m : Str → Option Value} {s : Shared} {Q E : Value → Shared → Prop} {news : List (Addr × Obj)} {i v : Int} {t0 : Tok}
    (B : Below A₀ base outer h₀) (F : Fr h₀ L s.heap m) (X : (hd.heap_1 w.params).In h₀) (N : News h₀ L s.heap (news)) (T : Top p loose mean mg mb h₀) (hdp : dp + 8 < recursionLimit) (hun : un + 64 < cLine)
    (e : i / 64 % 256 = v) (h0 : 0 ≤ i) (h1 : i < 4294967296)
    (hret : ∀ (t : Tok) (h' : Heap) (tk' : Nat), Fr h₀ L h' m → News h₀ L h' news → Q (.int v t) { s with heap := h', toks := tk' }) :
    wpAny (model PySem.Challenge.rw_tk0059_01.row.prog w) (ktrTop dp un gd cn (Scope.mk ScopeKind.function nms ig ic mo) L a ccd cl outer) (call (.ref 35) [.int i t0]) Q E s := by
  revert X; k_fill; intro X
  have hk : (Scope.mk ScopeKind.function nms ig ic mo).kind = ScopeKind.function := rfl
  refine wpAny_call ?_
  k_dflt cell_enter
  k_steps
  all_goals first
    | (exact hret _ _ _ (by k_asm) (by k_asm))
    | (refine retv hret ?_ (by k_asm) (by k_asm); (try simp only [bitAnd_m8, bitAnd_m8', bitAnd_m6, bitAnd_m9]); (first | omega | (subst e; simp [Int.fdiv_eq_ediv_of_nonneg, Int.toNat]; done) | (subst e; first | rfl | (congr 1; done) | trace_state)))
    | trace_state
theorem b_of_ok {w : World} {p : Program} {loose : List Str} {mean : ExcName → Option Value} {mg mb : Str → Option Value} {dp un : Nat} {gd : Option (List Code)} {cn : Str} {nms : List (Str × NameKind)} {ig ic : Bool} {mo : List (Str × Const)} {a : Addr} {ccd : Value} {cl : List (Str × Addr)} {outer : List Env} {A₀ : Around} {base h₀ : Heap} {L : Addr} {m : Str → Option Value} {s : Shared} {Q E : Value → Shared → Prop} {news : List (Addr × Obj)} {i v : Int} {t0 : Tok}
    (B : Below A₀ base outer h₀) (F : Fr h₀ L s.heap m) (X : (hd.heap_1 w.params).In h₀) (N : News h₀ L s.heap (news)) (T : Top p loose mean mg mb h₀) (hdp : dp + 8 < recursionLimit) (hun : un + 64 < cLine)
    (e : i / 8388608 = v) (h0 : 0 ≤ i) (h1 : i < 4294967296)
    (hret : ∀ (t : Tok) (h' : Heap) (tk' : Nat), Fr h₀ L h' m → News h₀ L h' news → Q (.int v t) { s with heap := h', toks := tk' }) :
    wpAny (model PySem.Challenge.rw_tk0059_01.row.prog w) (ktrTop dp un gd cn (Scope.mk ScopeKind.function nms ig ic mo) L a ccd cl outer) (call (.ref 42) [.int i t0]) Q E s := by
  revert X; k_fill; intro X
  have hk : (Scope.mk ScopeKind.function nms ig ic mo).kind = ScopeKind.function := rfl
  refine wpAny_call ?_
  k_dflt cell_enter
  k_steps
  all_goals first
    | (exact hret _ _ _ (by k_asm) (by k_asm))
    | (refine retv hret ?_ (by k_asm) (by k_asm); (try simp only [bitAnd_m8, bitAnd_m8', bitAnd_m6, bitAnd_m9]); (first | omega | (subst e; simp [Int.fdiv_eq_ediv_of_nonneg, Int.toNat]; done) | (subst e; first | rfl | (congr 1; done) | trace_state)))
    | trace_state
theorem c_of_ok {w : World} {p : Program} {loose : List Str} {mean : ExcName → Option Value} {mg mb : Str → Option Value} {dp un : Nat} {gd : Option (List Code)} {cn : Str} {nms : List (Str × NameKind)} {ig ic : Bool} {mo : List (Str × Const)} {a : Addr} {ccd : Value} {cl : List (Str × Addr)} {outer : List Env} {A₀ : Around} {base h₀ : Heap} {L : Addr} {m : Str → Option Value} {s : Shared} {Q E : Value → Shared → Prop} {news : List (Addr × Obj)} {i v : Int} {t0 : Tok}
    (B : Below A₀ base outer h₀) (F : Fr h₀ L s.heap m) (X : (hd.heap_1 w.params).In h₀) (N : News h₀ L s.heap (news)) (T : Top p loose mean mg mb h₀) (hdp : dp + 8 < recursionLimit) (hun : un + 64 < cLine)
    (e : i / 16384 % 512 = v) (h0 : 0 ≤ i) (h1 : i < 4294967296)
    (hret : ∀ (t : Tok) (h' : Heap) (tk' : Nat), Fr h₀ L h' m → News h₀ L h' news → Q (.int v t) { s with heap := h', toks := tk' }) :
    wpAny (model PySem.Challenge.rw_tk0059_01.row.prog w) (ktrTop dp un gd cn (Scope.mk ScopeKind.function nms ig ic mo) L a ccd cl outer) (call (.ref 49) [.int i t0]) Q E s := by
  revert X; k_fill; intro X
  have hk : (Scope.mk ScopeKind.function nms ig ic mo).kind = ScopeKind.function := rfl
  refine wpAny_call ?_
  k_dflt cell_enter
  k_steps
  all_goals first
    | (exact hret _ _ _ (by k_asm) (by k_asm))
    | (refine retv hret ?_ (by k_asm) (by k_asm); (try simp only [bitAnd_m8, bitAnd_m8', bitAnd_m6, bitAnd_m9]); (first | omega | (subst e; simp [Int.fdiv_eq_ediv_of_nonneg, Int.toNat]; done) | (subst e; first | rfl | (congr 1; done) | trace_state)))
    | trace_state
theorem jump_of_ok {w : World} {p : Program} {loose : List Str} {mean : ExcName → Option Value} {mg mb : Str → Option Value} {dp un : Nat} {gd : Option (List Code)} {cn : Str} {nms : List (Str × NameKind)} {ig ic : Bool} {mo : List (Str × Const)} {a : Addr} {ccd : Value} {cl : List (Str × Addr)} {outer : List Env} {A₀ : Around} {base h₀ : Heap} {L : Addr} {m : Str → Option Value} {s : Shared} {Q E : Value → Shared → Prop} {news : List (Addr × Obj)} {i v : Int} {t0 : Tok}
    (B : Below A₀ base outer h₀) (F : Fr h₀ L s.heap m) (X : (hd.heap_1 w.params).In h₀) (N : News h₀ L s.heap (news)) (T : Top p loose mean mg mb h₀) (hdp : dp + 8 < recursionLimit) (hun : un + 64 < cLine)
    (e : i / 16384 - 131071 = v) (h0 : 0 ≤ i) (h1 : i < 4294967296)
    (hret : ∀ (t : Tok) (h' : Heap) (tk' : Nat), Fr h₀ L h' m → News h₀ L h' news → Q (.int v t) { s with heap := h', toks := tk' }) :
    wpAny (model PySem.Challenge.rw_tk0059_01.row.prog w) (ktrTop dp un gd cn (Scope.mk ScopeKind.function nms ig ic mo) L a ccd cl outer) (call (.ref 63) [.int i t0]) Q E s := by
  revert X; k_fill; intro X
  have hk : (Scope.mk ScopeKind.function nms ig ic mo).kind = ScopeKind.function := rfl
  refine wpAny_call ?_
  k_dflt cell_enter
  k_steps
  all_goals first
    | (exact hret _ _ _ (by k_asm) (by k_asm))
    | (refine retv hret ?_ (by k_asm) (by k_asm); (try simp only [bitAnd_m8, bitAnd_m8', bitAnd_m6, bitAnd_m9]); (first | omega | (subst e; simp [Int.fdiv_eq_ediv_of_nonneg, Int.toNat]; done) | (subst e; first | rfl | (congr 1; done) | trace_state)))
    | trace_state
theorem w_C4_1 : True := by
  k_with_none
  trivial
theorem fr_look {h₀ h : Heap} {L : Addr} {l l' : List (Str × Value)} (F : Fr h₀ L h (fun y => List.lookup y l)) (e : l = l') : Fr h₀ L h (fun y => List.lookup y l') := e ▸ F
theorem limits_ok {w : World} {p : Program} {loose : List Str} {mean : ExcName → Option Value} {mg mb : Str → Option Value} {dp un : Nat} {gd : Option (List Code)} {cn : Str} {nms : List (Str × NameKind)} {ig ic : Bool} {mo : List (Str × Const)} {a : Addr} {ccd : Value} {cl : List (Str × Addr)} {outer : List Env} {A₀ : Around} {base h₀ : Heap} {L : Addr} {m : Str → Option Value} {s : Shared} {Q E : Value → Shared → Prop} {news : List (Addr × Obj)} {t0 : Tok}
    (B : Below A₀ base outer h₀) (F : Fr h₀ L s.heap m) (X : (hd.heap_1 w.params).In h₀) (N : News h₀ L s.heap (news)) (T : Top p loose mean mg mb h₀) (hdp : dp + 8 < recursionLimit) (hun : un + 64 < cLine)
    
    (hret : ∀ (x dx : Addr) (ka0 kb0 ka1 kb1 ka2 kb2 ka3 kb3 ka4 kb4 ka5 kb5 ka6 kb6 ka7 kb7 ka8 kb8 ka9 kb9 : Tok) (h' : Heap) (tk' : Nat), (∀ p ∈ news, p.1 < dx) → dx < x → Fr h₀ L h' m → News h₀ L h' ((x, instObj 95 dx) :: (dx, dictOf [⟨PyData.keyHash w.params (Str.ofString "width"), .str (Str.ofString "width") ka0, .int 16 kb0⟩, ⟨PyData.keyHash w.params (Str.ofString "registers"), .str (Str.ofString "registers") ka1, .int 250 kb1⟩, ⟨PyData.keyHash w.params (Str.ofString "upvalues"), .str (Str.ofString "upvalues") ka2, .int 60 kb2⟩, ⟨PyData.keyHash w.params (Str.ofString "local_names"), .str (Str.ofString "local_names") ka3, .int 200 kb3⟩, ⟨PyData.keyHash w.params (Str.ofString "ccalls"), .str (Str.ofString "ccalls") ka4, .int 40 kb4⟩, ⟨PyData.keyHash w.params (Str.ofString "frames"), .str (Str.ofString "frames") ka5, .int 200 kb5⟩, ⟨PyData.keyHash w.params (Str.ofString "stack"), .str (Str.ofString "stack") ka6, .int 2000 kb6⟩, ⟨PyData.keyHash w.params (Str.ofString "flush"), .str (Str.ofString "flush") ka7, .int 50 kb7⟩, ⟨PyData.keyHash w.params (Str.ofString "steps"), .str (Str.ofString "steps") ka8, .int 1000000000 kb8⟩, ⟨PyData.keyHash w.params (Str.ofString "text"), .str (Str.ofString "text") ka9, .int 1000000 kb9⟩] 10) :: news) → Q (.ref x) { s with heap := h', toks := tk' }) :
    wpAny (model PySem.Challenge.rw_tk0059_01.row.prog w) (ktrTop dp un gd cn (Scope.mk ScopeKind.function nms ig ic mo) L a ccd cl outer) (call (.ref 95) [] [(Str.ofString "width", .int 16 t0)]) Q E s := by
  revert X; k_fill; intro X
  have hk : (Scope.mk ScopeKind.function nms ig ic mo).kind = ScopeKind.function := rfl
  have hMk := kstMark
  walk1
  (rename Fr _ _ _ (fun y => List.lookup y _) => F0)
  (replace F0 := fr_look (l' := [(Str.ofString "text", _), (Str.ofString "steps", _), (Str.ofString "flush", _), (Str.ofString "stack", _), (Str.ofString "frames", _), (Str.ofString "ccalls", _), (Str.ofString "local_names", _), (Str.ofString "upvalues", _), (Str.ofString "registers", _), (Str.ofString "width", _), (Str.ofString "self", _)]) F0 (by rfl))
  k_steps
  all_goals (refine' hret _ _ _ _ _ _ _ _ _ _ _ _ _ _ _ _ _ _ _ _ _ _ _ _ ?l1 ?l2 ?F9 ?N9; (case N9 => (rename News _ _ _ _ => nE; exact nE)); (case F9 => (rename Fr _ _ _ _ => fE; exact fE)); (case l1 => first | assumption | exact kst_ltOf (by assumption)); (case l2 => assumption))
theorem w_C5_1 : True := by
  k_with_none
  trivial
theorem sub_cons {x : Addr × Obj} {l l' : List (Addr × Obj)} (h1 : x ∈ l') (h2 : ∀ p ∈ l, p ∈ l') : ∀ p ∈ x :: l, p ∈ l' := fun p hp => (List.mem_cons.mp hp).elim (fun e => e ▸ h1) (h2 p)
theorem w_C5_2 : True := by
  k_with "binaryOp Mult ref int" => (k_here; (with_reducible show wpAny _ _ (binaryOp Operator.Mult (Value.ref _) (Value.int _ _)) _ _ _); k_dflt (refine' KMa.mul ?F ?N ?l ?lo ?hi ?z ?e ?_; (case F => k_asm); (case N => k_asm); (case l => exact News.isList (by k_asm) (by k_mem)); (case lo => first | omega | decide); (case hi => first | omega | decide); (case z => (simp only [List.length_cons, List.length_nil]; decide)); (case e => (simp only [Int.reduceToNat, List.replicate_succ, List.replicate_zero, List.flatten_cons, List.flatten_nil, List.cons_append, List.nil_append, List.append_nil]; first | done | exact rfl)); k_whole); intro D' h' F' N' l1; (try k_lt l1); (try k_sweep))
  k_with "binaryOp Add ref ref" => (k_here; (with_reducible show wpAny _ _ (binaryOp _ (Value.ref _) (Value.ref _)) _ _ _); k_dflt (refine' kmk_add_lit ?F ?N ?a ?b ?e ?_ ?z; (case F => k_asm); (case N => k_asm); (case a => exact News.isList (by k_asm) (by k_mem)); (case b => exact News.isList (by k_asm) (by k_mem)); (case e => exact rfl); (case z => exact Nat.le_of_ble_eq_true rfl)); intro D' h' F' N' l1; (try k_lt l1); (try k_sweep))
  trivial
theorem works_new {w : World} {p : Program} {loose : List Str} {mean : ExcName → Option Value} {mg mb : Str → Option Value} {dp un : Nat} {gd : Option (List Code)} {cn : Str} {nms : List (Str × NameKind)} {ig ic : Bool} {mo : List (Str × Const)} {a : Addr} {ccd : Value} {cl : List (Str × Addr)} {outer : List Env} {A₀ : Around} {base h₀ : Heap} {L : Addr} {m : Str → Option Value} {s : Shared} {Q E : Value → Shared → Prop} {news : List (Addr × Obj)} {f0 f1 f2 f3 f4 f5 : Addr}
    (B : Below A₀ base outer h₀) (F : Fr h₀ L s.heap m) (X : (hd.heap_1 w.params).In h₀) (N : News h₀ L s.heap (news)) (T : Top p loose mean mg mb h₀) (hdp : dp + 8 < recursionLimit) (hun : un + 64 < cLine)
    
    (hret : ∀ (x dx : Addr) (ka0 ka1 ka2 ka3 ka4 ka5 : Tok) (h' : Heap) (tk' : Nat), (∀ p ∈ news, p.1 < dx) → dx < x → Fr h₀ L h' m → News h₀ L h' ((x, instObj 417 dx) :: (dx, dictOf [⟨PyData.keyHash w.params (Str.ofString "new_table"), .str (Str.ofString "new_table") ka0, .ref f0⟩, ⟨PyData.keyHash w.params (Str.ofString "index"), .str (Str.ofString "index") ka1, .ref f1⟩, ⟨PyData.keyHash w.params (Str.ofString "put"), .str (Str.ofString "put") ka2, .ref f2⟩, ⟨PyData.keyHash w.params (Str.ofString "length"), .str (Str.ofString "length") ka3, .ref f3⟩, ⟨PyData.keyHash w.params (Str.ofString "compared"), .str (Str.ofString "compared") ka4, .ref f4⟩, ⟨PyData.keyHash w.params (Str.ofString "called"), .str (Str.ofString "called") ka5, .ref f5⟩] 6) :: news) → Q (.ref x) { s with heap := h', toks := tk' }) :
    wpAny (model PySem.Challenge.rw_tk0059_01.row.prog w) (ktrTop dp un gd cn (Scope.mk ScopeKind.function nms ig ic mo) L a ccd cl outer) (call (.ref 417) [.ref f0, .ref f1, .ref f2, .ref f3, .ref f4, .ref f5]) Q E s := by
  revert X; k_fill; intro X
  have hk : (Scope.mk ScopeKind.function nms ig ic mo).kind = ScopeKind.function := rfl
  have hMk := kstMark
  k_steps
  all_goals (refine' hret _ _ _ _ _ _ _ _  _ _ ?l1 ?l2 ?F9 ?N9; (case N9 => (rename News _ _ _ _ => nE; exact nE)); (case F9 => (rename Fr _ _ _ _ => fE; exact fE)); (case l1 => first | assumption | exact kst_ltOf (by assumption)); (case l2 => assumption))
theorem stepper_new {w : World} {p : Program} {loose : List Str} {mean : ExcName → Option Value} {mg mb : Str → Option Value} {dp un : Nat} {gd : Option (List Code)} {cn : Str} {nms : List (Str × NameKind)} {ig ic : Bool} {mo : List (Str × Const)} {a : Addr} {ccd : Value} {cl : List (Str × Addr)} {outer : List Env} {A₀ : Around} {base h₀ : Heap} {L : Addr} {m : Str → Option Value} {s : Shared} {Q E : Value → Shared → Prop} {rest : List (Addr × Obj)} {lc lk lr lm wk : Addr} {v0 v1 v2 v3 v4 : Value} {nr : Nat}
    (B : Below A₀ base outer h₀) (F : Fr h₀ L s.heap m) (X : (hd.heap_1 w.params).In h₀) (N : News h₀ L s.heap ((lr, listOf [v0, v1, v2, v3, v4].toArray nr) :: rest)) (T : Top p loose mean mg mb h₀) (hdp : dp + 8 < recursionLimit) (hun : un + 64 < cLine)
    
    (hret : ∀ (x dx ls : Addr) (ka0 ka1 ka2 ka3 ka4 ka5 ka6 ka7 ka8 kr kp kt : Tok) (h' : Heap) (tk' : Nat), (∀ p ∈ rest, p.1 < dx) → dx < x → x < ls → Fr h₀ L h' m → News h₀ L h' ((ls, listOf [v0, v1, v2, v3, v4, .none, .none, .none, .none, .none, .none, .none, .none, .none, .none, .none, .none].toArray 0) :: (x, instObj 508 dx) :: (dx, dictOf [⟨PyData.keyHash w.params (Str.ofString "code"), .str (Str.ofString "code") ka0, .ref lc⟩, ⟨PyData.keyHash w.params (Str.ofString "constants"), .str (Str.ofString "constants") ka1, .ref lk⟩, ⟨PyData.keyHash w.params (Str.ofString "stack"), .str (Str.ofString "stack") ka2, .ref ls⟩, ⟨PyData.keyHash w.params (Str.ofString "room"), .str (Str.ofString "room") ka3, .int 5 kr⟩, ⟨PyData.keyHash w.params (Str.ofString "limits"), .str (Str.ofString "limits") ka4, .ref lm⟩, ⟨PyData.keyHash w.params (Str.ofString "works"), .str (Str.ofString "works") ka5, .ref wk⟩, ⟨PyData.keyHash w.params (Str.ofString "pc"), .str (Str.ofString "pc") ka6, .int 0 kp⟩, ⟨PyData.keyHash w.params (Str.ofString "top"), .str (Str.ofString "top") ka7, .int 5 kt⟩, ⟨PyData.keyHash w.params (Str.ofString "result"), .str (Str.ofString "result") ka8, .none⟩] 9) :: rest) → Q (.ref x) { s with heap := h', toks := tk' }) :
    wpAny (model PySem.Challenge.rw_tk0059_01.row.prog w) (ktrTop dp un gd cn (Scope.mk ScopeKind.function nms ig ic mo) L a ccd cl outer) (call (.ref 508) [.ref lc, .ref lk, .ref lr, .ref lm, .ref wk]) Q E s := by
  revert X; k_fill; intro X
  have hk : (Scope.mk ScopeKind.function nms ig ic mo).kind = ScopeKind.function := rfl
  have hMk := kstMark
  k_steps
  all_goals (refine' hret _ _ _ _ _ _ _ _ _ _ _ _ _ _ _  _ _ ?l1 ?l2 ?l3 ?F9 ?N9; (case N9 => (rename News _ _ _ _ => nE; refine kst_newsOf nE ?_; ((repeat (refine sub_cons (by k_memK) ?_)); first | exact List.forall_mem_nil _ | (intro p hp; k_ownIn)))); (case F9 => (rename Fr _ _ _ _ => fE; exact fE)); (case l1 => first | assumption | exact kst_ltOf (by assumption)); (case l2 => assumption); (case l3 => assumption))
theorem w_C6_1 : True := by
  k_with_none
  trivial

theorem w_C6_2 : True := by
  k_with "eval Call" => ((with_reducible show wpAny _ _ (eval (Expr.Call (Expr.Name _ _) _ [] _) _) _ _ _); k_dflt (refine Call_ ?_))
  k_with "binaryOp Mult ref int" => (k_here; (with_reducible show wpAny _ _ (binaryOp Operator.Mult (Value.ref _) (Value.int _ _)) _ _ _); k_dflt (refine' KMa.mul ?F ?N ?l ?lo ?hi ?z ?e ?_; (case F => k_asm); (case N => k_asm); (case l => exact News.isList (by k_asm) (by k_mem)); (case lo => first | omega | decide); (case hi => first | omega | decide); (case z => (simp only [List.length_cons, List.length_nil]; decide)); (case e => (simp only [Int.reduceToNat, List.replicate_succ, List.replicate_zero, List.flatten_cons, List.flatten_nil, List.cons_append, List.nil_append, List.append_nil]; first | done | exact rfl)); k_whole); intro D' h' F' N' l1; (try k_lt l1); (try k_sweep))
  k_with "binaryOp Add ref ref" => (k_here; (with_reducible show wpAny _ _ (binaryOp _ (Value.ref _) (Value.ref _)) _ _ _); k_dflt (refine' kmk_add_lit ?F ?N ?a ?b ?e ?_ ?z; (case F => k_asm); (case N => k_asm); (case a => exact News.isList (by k_asm) (by k_mem)); (case b => exact News.isList (by k_asm) (by k_mem)); (case e => exact rfl); (case z => exact Nat.le_of_ble_eq_true rfl)); intro D' h' F' N' l1; (try k_lt l1); (try k_sweep))
  k_with "call ref" => (k_here; (with_reducible show wpAny _ _ (call (Value.ref 417) _) _ _ _); k_dflt (refine' works_new ?B ?F ?X ?N ?T ?hdp ?hun  ?_; (case B => k_asm); (case F => k_asm); (case X => k_asm); (case N => k_asm); (case T => k_asm); (case hdp => ktr_room); (case hun => ktr_units); k_whole); intro x9 d9 t90 t91 t92 t93 t94 t95 h9 tk9 l1 l2 F9 N9; (try k_lt l1); (try k_lt2 l2); (try dsimp only); (try k_sweep); (try k_fold))
  trivial
def CodeOf (of : Obj) (c : Addr) : Prop := ∃ fd, of.data = .func fd ∧ fd.code = .ref c
def CmpTells (w : World) (p : Program) (loose : List Str) (mean : ExcName → Option Value) (mg mb : Str → Option Value) (f c : Addr) (of oc : Obj) : Prop :=
  ∀ (dp un : Nat) (gd : Option (List Code)) (cn : Str) (nms : List (Str × NameKind)) (ig ic : Bool) (mo : List (Str × Const)) (a : Addr) (ccd : Value) (cl : List (Str × Addr)) (outer : List Env) (A₀ : Around) (base h₀ : Heap) (L : Addr) (m : Str → Option Value) (s : Shared) (Q E : Value → Shared → Prop) (news : List (Addr × Obj)) (x y : Int) (t0 t1 t2 : Tok),
    Below A₀ base outer h₀ → Fr h₀ L s.heap m → (hd.heap_1 w.params).In h₀ → News h₀ L s.heap news → Top p loose mean mg mb h₀ → (f, of) ∈ news → (c, oc) ∈ news → dp + 8 < recursionLimit → un + 64 < cLine →
    (∀ (h' : Heap) (tk' : Nat), Fr h₀ L h' m → News h₀ L h' news → Q (.bool (x == y)) { s with heap := h', toks := tk' }) →
    wpAny (model PySem.Challenge.rw_tk0059_01.row.prog w) (ktrTop dp un gd cn (Scope.mk ScopeKind.function nms ig ic mo) L a ccd cl outer) (call (.ref f) [.int 23 t0, .int x t1, .int y t2]) Q E s
theorem lawworks_ok {w : World} {p : Program} {loose : List Str} {mean : ExcName → Option Value} {mg mb : Str → Option Value} {dp un : Nat} {gd : Option (List Code)} {cn : Str} {nms : List (Str × NameKind)} {ig ic : Bool} {mo : List (Str × Const)} {a : Addr} {ccd : Value} {cl : List (Str × Addr)} {outer : List Env} {A₀ : Around} {base h₀ : Heap} {L : Addr} {m : Str → Option Value} {s : Shared} {Q E : Value → Shared → Prop} {rest : List (Addr × Obj)}
    (B : Below A₀ base outer h₀) (F : Fr h₀ L s.heap m) (X : (hd.heap_1 w.params).In h₀) (N : News h₀ L s.heap ((535, tabObj #[]) :: rest)) (T : Top p loose mean mg mb h₀) (hdp : dp + 20 < recursionLimit) (hun : un + 200 < cLine)
    (C : CodeHd base (539, 535).fst (539, 535).snd) (hoff : OwnOff rest [535])
    (hret : ∀ (x dx f0 f1 f2 f3 f4 f5 c4 : Addr) (of oc : Obj) (ka0 ka1 ka2 ka3 ka4 ka5 : Tok) (ps : Array Value) (h' : Heap) (tk' : Nat), CodeOf of c4 → CmpTells w p loose mean mg mb f4 c4 of oc → Fr h₀ L h' m → News h₀ L h' ((x, instObj 417 dx) :: (dx, dictOf [⟨PyData.keyHash w.params (Str.ofString "new_table"), .str (Str.ofString "new_table") ka0, .ref f0⟩, ⟨PyData.keyHash w.params (Str.ofString "index"), .str (Str.ofString "index") ka1, .ref f1⟩, ⟨PyData.keyHash w.params (Str.ofString "put"), .str (Str.ofString "put") ka2, .ref f2⟩, ⟨PyData.keyHash w.params (Str.ofString "length"), .str (Str.ofString "length") ka3, .ref f3⟩, ⟨PyData.keyHash w.params (Str.ofString "compared"), .str (Str.ofString "compared") ka4, .ref f4⟩, ⟨PyData.keyHash w.params (Str.ofString "called"), .str (Str.ofString "called") ka5, .ref f5⟩] 6) :: (f4, of) :: (c4, oc) :: (535, tabObj ps) :: rest) → Q (.ref x) { s with heap := h', toks := tk' }) :
    wpAny (model PySem.Challenge.rw_tk0059_01.row.prog w) (ktrTop dp un gd cn (Scope.mk ScopeKind.function nms ig ic mo) L a ccd cl outer) (call (.ref 540) []) Q E s := by
  revert X; k_fill; intro X
  have hk : (Scope.mk ScopeKind.function nms ig ic mo).kind = ScopeKind.function := rfl
  have hMk := kstMark
  k_steps
  all_goals (refine' hret _ _ _ _ _ _ _ _ _ _ _ _ _ _ _ _ _ _ _ _ ?Cd ?Beh ?F9 ?N9)
  case' N9 =>
    (rename News _ _ _ _ => nE)
    refine kst_newsOf nE (sub_cons (by k_memK) (sub_cons (by k_memK) (sub_cons (by k_memK) (sub_cons ?c4m (sub_cons ?p5m ?r4m)))))
  case Cd => (refine ⟨_, rfl, ?_⟩; exact rfl)
  case c4m => k_memK
  case p5m => k_memK
  case r4m => (intro p hp; k_ownIn)
  case F9 => (rename Fr _ _ _ _ => fE; exact fE)
  case Beh =>
    clear B F X N T
    intro dp un gd cn nms ig ic mo a ccd cl outer A₀ base h₀ L m s Q E news x y t0 t1 t2 B F X N T hm1 hm2 hdp hun hret
    k_steps
    all_goals exact hret _ _ (by (rename Fr _ _ _ _ => fE; exact fE)) (by (rename News _ _ _ _ => nE; exact nE))
theorem w_C7_1 : True := by
  k_with_none
  trivial
theorem w_C7_2 : True := by
  k_with "call ref" => (k_here; (with_reducible show wpAny _ _ (call (Value.ref 160) [Value.int _ _, Value.int _ _]) _ _ _); k_dflt (refine' wrap_ok ?B ?F ?X ?N ?T ?hdp ?hun  ?_; (case B => k_asm); (case F => k_asm); (case X => k_asm); (case N => k_asm); (case T => k_asm); (case hdp => ktr_room); (case hun => ktr_units); k_whole); intro v9 t9 h9 tk9 e9 F9 N9; (try dsimp only); (try k_sweep); (try k_fold))
  trivial
theorem is_number_ok {w : World} {p : Program} {loose : List Str} {mean : ExcName → Option Value} {mg mb : Str → Option Value} {dp un : Nat} {gd : Option (List Code)} {cn : Str} {nms : List (Str × NameKind)} {ig ic : Bool} {mo : List (Str × Const)} {a : Addr} {ccd : Value} {cl : List (Str × Addr)} {outer : List Env} {A₀ : Around} {base h₀ : Heap} {L : Addr} {m : Str → Option Value} {s : Shared} {Q E : Value → Shared → Prop} {news : List (Addr × Obj)} {x : Int} {tx : Tok}
    (B : Below A₀ base outer h₀) (F : Fr h₀ L s.heap m) (X : (hd.heap_1 w.params).In h₀) (N : News h₀ L s.heap (news)) (T : Top p loose mean mg mb h₀) (hdp : dp + 8 < recursionLimit) (hun : un + 64 < cLine)
    
    (hret : ∀ (h' : Heap) (tk' : Nat), Fr h₀ L h' m → News h₀ L h' news → Q (.bool true) { s with heap := h', toks := tk' }) :
    wpAny (model PySem.Challenge.rw_tk0059_01.row.prog w) (ktrTop dp un gd cn (Scope.mk ScopeKind.function nms ig ic mo) L a ccd cl outer) (call (.ref 146) [.int x tx]) Q E s := by
  revert X; k_fill; intro X
  have hk : (Scope.mk ScopeKind.function nms ig ic mo).kind = ScopeKind.function := rfl
  have hMk := kstMark
  refine wpAny_call ?_
  k_dflt cell_enter
  k_steps
  all_goals first
    | exact hret _ _ (by (rename Fr _ _ _ _ => fE; exact fE)) (by (rename News _ _ _ _ => nE; exact nE))
    | (exfalso; simp_all; done)
    | trace_state
theorem w_C7_3 : True := by
  k_with "call ref" => (k_here; (with_reducible show wpAny _ _ (call (Value.ref 146) [Value.int _ _]) _ _ _); k_dflt (refine' is_number_ok ?B ?F ?X ?N ?T ?hdp ?hun  ?_; (case B => k_asm); (case F => k_asm); (case X => k_asm); (case N => k_asm); (case T => k_asm); (case hdp => ktr_room); (case hun => ktr_units); k_whole); intro h9 tk9 F9 N9; (try dsimp only); (try k_sweep); (try k_fold))
  trivial
theorem to_number_ok {w : World} {p : Program} {loose : List Str} {mean : ExcName → Option Value} {mg mb : Str → Option Value} {dp un : Nat} {gd : Option (List Code)} {cn : Str} {nms : List (Str × NameKind)} {ig ic : Bool} {mo : List (Str × Const)} {a : Addr} {ccd : Value} {cl : List (Str × Addr)} {outer : List Env} {A₀ : Around} {base h₀ : Heap} {L : Addr} {m : Str → Option Value} {s : Shared} {Q E : Value → Shared → Prop} {news : List (Addr × Obj)} {x : Int} {tx : Tok} {lm : Value}
    (B : Below A₀ base outer h₀) (F : Fr h₀ L s.heap m) (X : (hd.heap_1 w.params).In h₀) (N : News h₀ L s.heap (news)) (T : Top p loose mean mg mb h₀) (hdp : dp + 16 < recursionLimit) (hun : un + 150 < cLine)
    
    (hret : ∀ (t : Tok) (h' : Heap) (tk' : Nat), Fr h₀ L h' m → News h₀ L h' news → Q (.int x t) { s with heap := h', toks := tk' }) :
    wpAny (model PySem.Challenge.rw_tk0059_01.row.prog w) (ktrTop dp un gd cn (Scope.mk ScopeKind.function nms ig ic mo) L a ccd cl outer) (call (.ref 230) [.int x tx, lm]) Q E s := by
  revert X; k_fill; intro X
  have hk : (Scope.mk ScopeKind.function nms ig ic mo).kind = ScopeKind.function := rfl
  have hMk := kstMark
  refine wpAny_call ?_
  k_dflt cell_enter
  k_steps
  all_goals first
    | exact hret _ _ _ (by (rename Fr _ _ _ _ => fE; exact fE)) (by (rename News _ _ _ _ => nE; exact nE))
    | (exfalso; simp_all; done)
    | trace_state
theorem retb {h₀ h' : Heap} {L : Addr} {m : Str → Option Value} {news : List (Addr × Obj)} {s : Shared} {Q : Value → Shared → Prop} {b b' : Bool} {tk' : Nat}
   (hret : ∀ (h' : Heap) (tk' : Nat), Fr h₀ L h' m → News h₀ L h' news → Q (.bool b) { s with heap := h', toks := tk' }) (e : b' = b) (F : Fr h₀ L h' m) (N : News h₀ L h' news) : Q (.bool b') { s with heap := h', toks := tk' } := by
  subst e; exact hret _ _ F N
theorem reti {h₀ h' : Heap} {L : Addr} {m : Str → Option Value} {news : List (Addr × Obj)} {s : Shared} {Q : Value → Shared → Prop} {v v' : Int} {t : Tok} {tk' : Nat}
   (hret : ∀ (t : Tok) (h' : Heap) (tk' : Nat), Fr h₀ L h' m → News h₀ L h' news → Q (.int v t) { s with heap := h', toks := tk' }) (e : v' = v) (F : Fr h₀ L h' m) (N : News h₀ L h' news) : Q (.int v' t) { s with heap := h', toks := tk' } := by
  subst e; exact hret _ _ _ F N
theorem has_no_ok {w : World} {p : Program} {loose : List Str} {mean : ExcName → Option Value} {mg mb : Str → Option Value} {dp un : Nat} {gd : Option (List Code)} {cn : Str} {nms : List (Str × NameKind)} {ig ic : Bool} {mo : List (Str × Const)} {a : Addr} {ccd : Value} {cl : List (Str × Addr)} {outer : List Env} {A₀ : Around} {base h₀ : Heap} {L : Addr} {m : Str → Option Value} {s : Shared} {Q E : Value → Shared → Prop} {news : List (Addr × Obj)} {pl x y : Int} {tp tx ty : Tok}
    (B : Below A₀ base outer h₀) (F : Fr h₀ L s.heap m) (X : (hd.heap_1 w.params).In h₀) (N : News h₀ L s.heap (news)) (T : Top p loose mean mg mb h₀) (hdp : dp + 8 < recursionLimit) (hun : un + 64 < cLine)
    (hp : pl = 0 ∨ pl = 2 ∨ pl = 3 ∨ pl = 4) (hy : (pl = 3 ∨ pl = 4) → y ≠ 0)
    (hret : ∀ (h' : Heap) (tk' : Nat), Fr h₀ L h' m → News h₀ L h' news → Q (.bool false) { s with heap := h', toks := tk' }) :
    wpAny (model PySem.Challenge.rw_tk0059_01.row.prog w) (ktrTop dp un gd cn (Scope.mk ScopeKind.function nms ig ic mo) L a ccd cl outer) (call (.ref 393) [.int pl tp, .int x tx, .int y ty]) Q E s := by
  revert X; k_fill; intro X
  have hk : (Scope.mk ScopeKind.function nms ig ic mo).kind = ScopeKind.function := rfl
  have hMk := kstMark
  refine wpAny_call ?_
  k_dflt cell_enter
  k_steps
  all_goals (refine retb hret ?_ (by (rename Fr _ _ _ _ => fE; exact fE)) (by (rename News _ _ _ _ => nE; exact nE)))
  all_goals (simp at *; omega)
theorem divide_ok {w : World} {p : Program} {loose : List Str} {mean : ExcName → Option Value} {mg mb : Str → Option Value} {dp un : Nat} {gd : Option (List Code)} {cn : Str} {nms : List (Str × NameKind)} {ig ic : Bool} {mo : List (Str × Const)} {a : Addr} {ccd : Value} {cl : List (Str × Addr)} {outer : List Env} {A₀ : Around} {base h₀ : Heap} {L : Addr} {m : Str → Option Value} {s : Shared} {Q E : Value → Shared → Prop} {news : List (Addr × Obj)} {x y : Int} {tx ty : Tok}
    (B : Below A₀ base outer h₀) (F : Fr h₀ L s.heap m) (X : (hd.heap_1 w.params).In h₀) (N : News h₀ L s.heap (news)) (T : Top p loose mean mg mb h₀) (hdp : dp + 8 < recursionLimit) (hun : un + 64 < cLine)
    (h0 : 0 ≤ x) (h1 : 0 < y) (h2 : x < 65536) (h3 : y < 65536)
    (hret : ∀ (t : Tok) (h' : Heap) (tk' : Nat), Fr h₀ L h' m → News h₀ L h' news → Q (.int (x / y) t) { s with heap := h', toks := tk' }) :
    wpAny (model PySem.Challenge.rw_tk0059_01.row.prog w) (ktrTop dp un gd cn (Scope.mk ScopeKind.function nms ig ic mo) L a ccd cl outer) (call (.ref 167) [.int x tx, .int y ty]) Q E s := by
  revert X; k_fill; intro X
  have hk : (Scope.mk ScopeKind.function nms ig ic mo).kind = ScopeKind.function := rfl
  have hMk := kstMark
  refine wpAny_call ?_
  k_dflt cell_enter
  k_steps
  all_goals (try (exfalso; simp at *; omega))
  all_goals (refine reti hret ?_ (by (rename Fr _ _ _ _ => fE; exact fE)) (by (rename News _ _ _ _ => nE; exact nE)))
  all_goals (rw [if_neg (by omega : ¬ x < 0), if_neg (by omega : ¬ y < 0)]; exact Int.fdiv_eq_ediv_of_nonneg _ (by omega))
theorem w_C8_1 : True := by
  k_with_none
  trivial
theorem w_C8_2 : True := by
  k_with "eval Call" => ((with_reducible show wpAny _ _ (eval (Expr.Call (Expr.Name _ _) _ [] _) _) _ _ _); k_dflt (refine Call_ ?_))
  k_with "call ref" => (k_here; (with_reducible show wpAny _ _ (call (Value.ref 160) [Value.int _ _, Value.int _ _]) _ _ _); k_dflt (refine' wrap_ok ?B ?F ?X ?N ?T ?hdp ?hun  ?_; (case B => k_asm); (case F => k_asm); (case X => k_asm); (case N => k_asm); (case T => k_asm); (case hdp => ktr_room); (case hun => ktr_units); k_whole); intro v9 t9 h9 tk9 e9 F9 N9; (try dsimp only); (try k_sweep); (try k_fold))
  k_with "call ref" => (k_here; (with_reducible show wpAny _ _ (call (Value.ref 167) [Value.int _ _, Value.int _ _]) _ _ _); k_dflt (refine' divide_ok ?B ?F ?X ?N ?T ?hdp ?hun ?h0 ?h1 ?h2 ?h3 ?_; (case B => k_asm); (case F => k_asm); (case X => k_asm); (case N => k_asm); (case T => k_asm); (case hdp => ktr_room); (case hun => ktr_units); (case h0 => first | omega | decide | assumption); (case h1 => first | omega | decide | assumption); (case h2 => first | omega | decide | assumption); (case h3 => first | omega | decide | assumption); k_whole); intro t9 h9 tk9 F9 N9; (try dsimp only); (try k_sweep); (try k_fold))
  trivial
theorem arith_add {w : World} {p : Program} {loose : List Str} {mean : ExcName → Option Value} {mg mb : Str → Option Value} {dp un : Nat} {gd : Option (List Code)} {cn : Str} {nms : List (Str × NameKind)} {ig ic : Bool} {mo : List (Str × Const)} {a : Addr} {ccd : Value} {cl : List (Str × Addr)} {outer : List Env} {A₀ : Around} {base h₀ : Heap} {L : Addr} {m : Str → Option Value} {s : Shared} {Q E : Value → Shared → Prop} {news : List (Addr × Obj)} {lm dlm : Addr} {x y : Int} {tp tx ty : Tok} {bs : Array UInt8} {ka0 kb0 ka1 kb1 ka2 kb2 ka3 kb3 ka4 kb4 ka5 kb5 ka6 kb6 ka7 kb7 ka8 kb8 ka9 kb9 : Tok}
    (B : Below A₀ base outer h₀) (F : Fr h₀ L s.heap m) (X : (hd.heap_1 w.params).In h₀) (N : News h₀ L s.heap (news)) (T : Top p loose mean mg mb h₀) (hdp : dp + 20 < recursionLimit) (hun : un + 200 < cLine)
    (hlm : (lm, instObj 95 dlm) ∈ news) (hdlm : (dlm, dictOf [⟨PyData.keyHash w.params (Str.ofString "width"), .str (Str.ofString "width") ka0, .int 16 kb0⟩, ⟨PyData.keyHash w.params (Str.ofString "registers"), .str (Str.ofString "registers") ka1, .int 250 kb1⟩, ⟨PyData.keyHash w.params (Str.ofString "upvalues"), .str (Str.ofString "upvalues") ka2, .int 60 kb2⟩, ⟨PyData.keyHash w.params (Str.ofString "local_names"), .str (Str.ofString "local_names") ka3, .int 200 kb3⟩, ⟨PyData.keyHash w.params (Str.ofString "ccalls"), .str (Str.ofString "ccalls") ka4, .int 40 kb4⟩, ⟨PyData.keyHash w.params (Str.ofString "frames"), .str (Str.ofString "frames") ka5, .int 200 kb5⟩, ⟨PyData.keyHash w.params (Str.ofString "stack"), .str (Str.ofString "stack") ka6, .int 2000 kb6⟩, ⟨PyData.keyHash w.params (Str.ofString "flush"), .str (Str.ofString "flush") ka7, .int 50 kb7⟩, ⟨PyData.keyHash w.params (Str.ofString "steps"), .str (Str.ofString "steps") ka8, .int 1000000000 kb8⟩, ⟨PyData.keyHash w.params (Str.ofString "text"), .str (Str.ofString "text") ka9, .int 1000000 kb9⟩] 10) ∈ news) (hb : bs = #[97, 100, 100]) (hpre : -70000 < x ∧ x < 70000 ∧ -70000 < y ∧ y < 70000)
    (hret : ∀ (v : Int) (t : Tok) (h' : Heap) (tk' : Nat), v = wrp (x + y) → Fr h₀ L h' m → News h₀ L h' news → Q (.int v t) { s with heap := h', toks := tk' }) :
    wpAny (model PySem.Challenge.rw_tk0059_01.row.prog w) (ktrTop dp un gd cn (Scope.mk ScopeKind.function nms ig ic mo) L a ccd cl outer) (call (.ref 181) [.bytes bs tp, .int x tx, .int y ty, .ref lm]) Q E s := by
  subst hb
  obtain ⟨hp1, hp2⟩ := hpre
  revert X; k_fill; intro X
  have hk : (Scope.mk ScopeKind.function nms ig ic mo).kind = ScopeKind.function := rfl
  have hMk := kstMark
  refine wpAny_call ?_
  k_dflt cell_enter
  k_steps
  all_goals first
    | exact hret _ _ _ _ (by subst_vars; rfl) (by (rename Fr _ _ _ _ => fE; exact fE)) (by (rename News _ _ _ _ => nE; exact nE))
    | (exfalso; omega)
    | (refine hret _ _ _ _ (by rw [Int.fmod_eq_emod_of_nonneg _ (by omega)] at *; assumption) (by (rename Fr _ _ _ _ => fE; exact fE)) (by (rename News _ _ _ _ => nE; exact nE)))
    | trace_state

theorem arith_mul {w : World} {p : Program} {loose : List Str} {mean : ExcName → Option Value} {mg mb : Str → Option Value} {dp un : Nat} {gd : Option (List Code)} {cn : Str} {nms : List (Str × NameKind)} {ig ic : Bool} {mo : List (Str × Const)} {a : Addr} {ccd : Value} {cl : List (Str × Addr)} {outer : List Env} {A₀ : Around} {base h₀ : Heap} {L : Addr} {m : Str → Option Value} {s : Shared} {Q E : Value → Shared → Prop} {news : List (Addr × Obj)} {lm dlm : Addr} {x y : Int} {tp tx ty : Tok} {bs : Array UInt8} {ka0 kb0 ka1 kb1 ka2 kb2 ka3 kb3 ka4 kb4 ka5 kb5 ka6 kb6 ka7 kb7 ka8 kb8 ka9 kb9 : Tok}
    (B : Below A₀ base outer h₀) (F : Fr h₀ L s.heap m) (X : (hd.heap_1 w.params).In h₀) (N : News h₀ L s.heap (news)) (T : Top p loose mean mg mb h₀) (hdp : dp + 20 < recursionLimit) (hun : un + 200 < cLine)
    (hlm : (lm, instObj 95 dlm) ∈ news) (hdlm : (dlm, dictOf [⟨PyData.keyHash w.params (Str.ofString "width"), .str (Str.ofString "width") ka0, .int 16 kb0⟩, ⟨PyData.keyHash w.params (Str.ofString "registers"), .str (Str.ofString "registers") ka1, .int 250 kb1⟩, ⟨PyData.keyHash w.params (Str.ofString "upvalues"), .str (Str.ofString "upvalues") ka2, .int 60 kb2⟩, ⟨PyData.keyHash w.params (Str.ofString "local_names"), .str (Str.ofString "local_names") ka3, .int 200 kb3⟩, ⟨PyData.keyHash w.params (Str.ofString "ccalls"), .str (Str.ofString "ccalls") ka4, .int 40 kb4⟩, ⟨PyData.keyHash w.params (Str.ofString "frames"), .str (Str.ofString "frames") ka5, .int 200 kb5⟩, ⟨PyData.keyHash w.params (Str.ofString "stack"), .str (Str.ofString "stack") ka6, .int 2000 kb6⟩, ⟨PyData.keyHash w.params (Str.ofString "flush"), .str (Str.ofString "flush") ka7, .int 50 kb7⟩, ⟨PyData.keyHash w.params (Str.ofString "steps"), .str (Str.ofString "steps") ka8, .int 1000000000 kb8⟩, ⟨PyData.keyHash w.params (Str.ofString "text"), .str (Str.ofString "text") ka9, .int 1000000 kb9⟩] 10) ∈ news) (hb : bs = #[109, 117, 108]) (hpre : -32768 ≤ x ∧ x < 32768 ∧ -32768 ≤ y ∧ y < 32768)
    (hret : ∀ (v : Int) (t : Tok) (h' : Heap) (tk' : Nat), v = wrp (x * y) → Fr h₀ L h' m → News h₀ L h' news → Q (.int v t) { s with heap := h', toks := tk' }) :
    wpAny (model PySem.Challenge.rw_tk0059_01.row.prog w) (ktrTop dp un gd cn (Scope.mk ScopeKind.function nms ig ic mo) L a ccd cl outer) (call (.ref 181) [.bytes bs tp, .int x tx, .int y ty, .ref lm]) Q E s := by
  subst hb
  obtain ⟨hp1, hp2⟩ := hpre
  revert X; k_fill; intro X
  have hk : (Scope.mk ScopeKind.function nms ig ic mo).kind = ScopeKind.function := rfl
  have hMk := kstMark
  refine wpAny_call ?_
  k_dflt cell_enter
  k_steps
  all_goals first
    | exact hret _ _ _ _ (by subst_vars; rfl) (by (rename Fr _ _ _ _ => fE; exact fE)) (by (rename News _ _ _ _ => nE; exact nE))
    | (exfalso; omega)
    | (refine hret _ _ _ _ (by rw [Int.fmod_eq_emod_of_nonneg _ (by omega)] at *; assumption) (by (rename Fr _ _ _ _ => fE; exact fE)) (by (rename News _ _ _ _ => nE; exact nE)))
    | trace_state

theorem arith_div {w : World} {p : Program} {loose : List Str} {mean : ExcName → Option Value} {mg mb : Str → Option Value} {dp un : Nat} {gd : Option (List Code)} {cn : Str} {nms : List (Str × NameKind)} {ig ic : Bool} {mo : List (Str × Const)} {a : Addr} {ccd : Value} {cl : List (Str × Addr)} {outer : List Env} {A₀ : Around} {base h₀ : Heap} {L : Addr} {m : Str → Option Value} {s : Shared} {Q E : Value → Shared → Prop} {news : List (Addr × Obj)} {lm dlm : Addr} {x y : Int} {tp tx ty : Tok} {bs : Array UInt8} {ka0 kb0 ka1 kb1 ka2 kb2 ka3 kb3 ka4 kb4 ka5 kb5 ka6 kb6 ka7 kb7 ka8 kb8 ka9 kb9 : Tok}
    (B : Below A₀ base outer h₀) (F : Fr h₀ L s.heap m) (X : (hd.heap_1 w.params).In h₀) (N : News h₀ L s.heap (news)) (T : Top p loose mean mg mb h₀) (hdp : dp + 20 < recursionLimit) (hun : un + 200 < cLine)
    (hlm : (lm, instObj 95 dlm) ∈ news) (hdlm : (dlm, dictOf [⟨PyData.keyHash w.params (Str.ofString "width"), .str (Str.ofString "width") ka0, .int 16 kb0⟩, ⟨PyData.keyHash w.params (Str.ofString "registers"), .str (Str.ofString "registers") ka1, .int 250 kb1⟩, ⟨PyData.keyHash w.params (Str.ofString "upvalues"), .str (Str.ofString "upvalues") ka2, .int 60 kb2⟩, ⟨PyData.keyHash w.params (Str.ofString "local_names"), .str (Str.ofString "local_names") ka3, .int 200 kb3⟩, ⟨PyData.keyHash w.params (Str.ofString "ccalls"), .str (Str.ofString "ccalls") ka4, .int 40 kb4⟩, ⟨PyData.keyHash w.params (Str.ofString "frames"), .str (Str.ofString "frames") ka5, .int 200 kb5⟩, ⟨PyData.keyHash w.params (Str.ofString "stack"), .str (Str.ofString "stack") ka6, .int 2000 kb6⟩, ⟨PyData.keyHash w.params (Str.ofString "flush"), .str (Str.ofString "flush") ka7, .int 50 kb7⟩, ⟨PyData.keyHash w.params (Str.ofString "steps"), .str (Str.ofString "steps") ka8, .int 1000000000 kb8⟩, ⟨PyData.keyHash w.params (Str.ofString "text"), .str (Str.ofString "text") ka9, .int 1000000 kb9⟩] 10) ∈ news) (hb : bs = #[100, 105, 118]) (hpre : 0 ≤ x ∧ 0 < y ∧ x < 65536 ∧ y < 65536)
    (hret : ∀ (v : Int) (t : Tok) (h' : Heap) (tk' : Nat), v = wrp (x / y) → Fr h₀ L h' m → News h₀ L h' news → Q (.int v t) { s with heap := h', toks := tk' }) :
    wpAny (model PySem.Challenge.rw_tk0059_01.row.prog w) (ktrTop dp un gd cn (Scope.mk ScopeKind.function nms ig ic mo) L a ccd cl outer) (call (.ref 181) [.bytes bs tp, .int x tx, .int y ty, .ref lm]) Q E s := by
  subst hb
  obtain ⟨hp1, hp2⟩ := hpre
  revert X; k_fill; intro X
  have hk : (Scope.mk ScopeKind.function nms ig ic mo).kind = ScopeKind.function := rfl
  have hMk := kstMark
  refine wpAny_call ?_
  k_dflt cell_enter
  k_steps
  all_goals first
    | exact hret _ _ _ _ (by subst_vars; rfl) (by (rename Fr _ _ _ _ => fE; exact fE)) (by (rename News _ _ _ _ => nE; exact nE))
    | (exfalso; omega)
    | (refine hret _ _ _ _ (by rw [Int.fmod_eq_emod_of_nonneg _ (by omega)] at *; assumption) (by (rename Fr _ _ _ _ => fE; exact fE)) (by (rename News _ _ _ _ => nE; exact nE)))
    | trace_state

theorem arith_mod {w : World} {p : Program} {loose : List Str} {mean : ExcName → Option Value} {mg mb : Str → Option Value} {dp un : Nat} {gd : Option (List Code)} {cn : Str} {nms : List (Str × NameKind)} {ig ic : Bool} {mo : List (Str × Const)} {a : Addr} {ccd : Value} {cl : List (Str × Addr)} {outer : List Env} {A₀ : Around} {base h₀ : Heap} {L : Addr} {m : Str → Option Value} {s : Shared} {Q E : Value → Shared → Prop} {news : List (Addr × Obj)} {lm dlm : Addr} {x y : Int} {tp tx ty : Tok} {bs : Array UInt8} {ka0 kb0 ka1 kb1 ka2 kb2 ka3 kb3 ka4 kb4 ka5 kb5 ka6 kb6 ka7 kb7 ka8 kb8 ka9 kb9 : Tok}
    (B : Below A₀ base outer h₀) (F : Fr h₀ L s.heap m) (X : (hd.heap_1 w.params).In h₀) (N : News h₀ L s.heap (news)) (T : Top p loose mean mg mb h₀) (hdp : dp + 20 < recursionLimit) (hun : un + 200 < cLine)
    (hlm : (lm, instObj 95 dlm) ∈ news) (hdlm : (dlm, dictOf [⟨PyData.keyHash w.params (Str.ofString "width"), .str (Str.ofString "width") ka0, .int 16 kb0⟩, ⟨PyData.keyHash w.params (Str.ofString "registers"), .str (Str.ofString "registers") ka1, .int 250 kb1⟩, ⟨PyData.keyHash w.params (Str.ofString "upvalues"), .str (Str.ofString "upvalues") ka2, .int 60 kb2⟩, ⟨PyData.keyHash w.params (Str.ofString "local_names"), .str (Str.ofString "local_names") ka3, .int 200 kb3⟩, ⟨PyData.keyHash w.params (Str.ofString "ccalls"), .str (Str.ofString "ccalls") ka4, .int 40 kb4⟩, ⟨PyData.keyHash w.params (Str.ofString "frames"), .str (Str.ofString "frames") ka5, .int 200 kb5⟩, ⟨PyData.keyHash w.params (Str.ofString "stack"), .str (Str.ofString "stack") ka6, .int 2000 kb6⟩, ⟨PyData.keyHash w.params (Str.ofString "flush"), .str (Str.ofString "flush") ka7, .int 50 kb7⟩, ⟨PyData.keyHash w.params (Str.ofString "steps"), .str (Str.ofString "steps") ka8, .int 1000000000 kb8⟩, ⟨PyData.keyHash w.params (Str.ofString "text"), .str (Str.ofString "text") ka9, .int 1000000 kb9⟩] 10) ∈ news) (hb : bs = #[109, 111, 100]) (hpre : 0 < y ∧ -65536 < x ∧ x < 65536 ∧ y < 65536)
    (hret : ∀ (v : Int) (t : Tok) (h' : Heap) (tk' : Nat), v = wrp (x % y) → Fr h₀ L h' m → News h₀ L h' news → Q (.int v t) { s with heap := h', toks := tk' }) :
    wpAny (model PySem.Challenge.rw_tk0059_01.row.prog w) (ktrTop dp un gd cn (Scope.mk ScopeKind.function nms ig ic mo) L a ccd cl outer) (call (.ref 181) [.bytes bs tp, .int x tx, .int y ty, .ref lm]) Q E s := by
  subst hb
  obtain ⟨hp1, hp2⟩ := hpre
  revert X; k_fill; intro X
  have hk : (Scope.mk ScopeKind.function nms ig ic mo).kind = ScopeKind.function := rfl
  have hMk := kstMark
  refine wpAny_call ?_
  k_dflt cell_enter
  k_steps
  all_goals first
    | exact hret _ _ _ _ (by subst_vars; rfl) (by (rename Fr _ _ _ _ => fE; exact fE)) (by (rename News _ _ _ _ => nE; exact nE))
    | (exfalso; omega)
    | (refine hret _ _ _ _ (by rw [Int.fmod_eq_emod_of_nonneg _ (by omega)] at *; assumption) (by (rename Fr _ _ _ _ => fE; exact fE)) (by (rename News _ _ _ _ => nE; exact nE)))
    | trace_state
theorem w_C9_1 : True := by
  k_with_none
  trivial
theorem w_C9_2 : True := by
  k_with "eval Call" => ((with_reducible show wpAny _ _ (eval (Expr.Call (Expr.Name _ _) _ [] _) _) _ _ _); k_dflt (refine Call_ ?_))
  k_with "subscriptTail Name Name ref int" => (k_here; (with_reducible show wpAny _ _ (subscriptTail _ _ (Value.ref _) (Value.int _ _)) _ _ _); k_dflt (refine' topList_K ?F ?X ?l ?a ?b ?d ?_; (case F => k_asm); (case X => k_asm); (case l => k_is); (case a => decide); (case b => decide); (case d => rfl); k_whole))
  k_with "call ref" => (k_here; (with_reducible show wpAny _ _ (call (Value.ref 230) [Value.int _ _, _]) _ _ _); k_dflt (refine' to_number_ok ?B ?F ?X ?N ?T ?hdp ?hun  ?_; (case B => k_asm); (case F => k_asm); (case X => k_asm); (case N => k_asm); (case T => k_asm); (case hdp => ktr_room); (case hun => ktr_units); k_whole); intro t9 h9 tk9 F9 N9; (try dsimp only); (try k_sweep); (try k_fold))
  k_with "call ref" => (k_here; (with_reducible show wpAny _ _ (call (Value.ref 393) [Value.int _ _, Value.int _ _, Value.int _ _]) _ _ _); k_dflt (refine' has_no_ok ?B ?F ?X ?N ?T ?hdp ?hun ?hp ?hy ?_; (case B => k_asm); (case F => k_asm); (case X => k_asm); (case N => k_asm); (case T => k_asm); (case hdp => ktr_room); (case hun => ktr_units); (case hp => decide); (case hy => first | (intro _; omega) | (intro q; exfalso; omega)); k_whole); intro h9 tk9 F9 N9; (try dsimp only); (try k_sweep); (try k_fold))
  k_with "call ref" => (k_here; (with_reducible show wpAny _ _ (call (Value.ref 181) [Value.bytes _ _, Value.int _ _, Value.int _ _, Value.ref _]) _ _ _); k_dflt (refine' arith_add ?B ?F ?X ?N ?T ?hdp ?hun ?hlm ?hdlm ?hb ?hpre ?_; (case B => k_asm); (case F => k_asm); (case X => k_asm); (case N => k_asm); (case T => k_asm); (case hdp => ktr_room); (case hun => ktr_units); (case hlm => k_mem); (case hdlm => k_mem); (case hb => exact rfl); (case hpre => assumption); k_whole); intro v9 t9 h9 tk9 e9 F9 N9; (try dsimp only); (try k_sweep); (try k_fold))
  k_with "call ref" => (k_here; (with_reducible show wpAny _ _ (call (Value.ref 181) [Value.bytes _ _, Value.int _ _, Value.int _ _, Value.ref _]) _ _ _); k_dflt (refine' arith_mul ?B ?F ?X ?N ?T ?hdp ?hun ?hlm ?hdlm ?hb ?hpre ?_; (case B => k_asm); (case F => k_asm); (case X => k_asm); (case N => k_asm); (case T => k_asm); (case hdp => ktr_room); (case hun => ktr_units); (case hlm => k_mem); (case hdlm => k_mem); (case hb => exact rfl); (case hpre => assumption); k_whole); intro v9 t9 h9 tk9 e9 F9 N9; (try dsimp only); (try k_sweep); (try k_fold))
  k_with "call ref" => (k_here; (with_reducible show wpAny _ _ (call (Value.ref 181) [Value.bytes _ _, Value.int _ _, Value.int _ _, Value.ref _]) _ _ _); k_dflt (refine' arith_div ?B ?F ?X ?N ?T ?hdp ?hun ?hlm ?hdlm ?hb ?hpre ?_; (case B => k_asm); (case F => k_asm); (case X => k_asm); (case N => k_asm); (case T => k_asm); (case hdp => ktr_room); (case hun => ktr_units); (case hlm => k_mem); (case hdlm => k_mem); (case hb => exact rfl); (case hpre => assumption); k_whole); intro v9 t9 h9 tk9 e9 F9 N9; (try dsimp only); (try k_sweep); (try k_fold))
  k_with "call ref" => (k_here; (with_reducible show wpAny _ _ (call (Value.ref 181) [Value.bytes _ _, Value.int _ _, Value.int _ _, Value.ref _]) _ _ _); k_dflt (refine' arith_mod ?B ?F ?X ?N ?T ?hdp ?hun ?hlm ?hdlm ?hb ?hpre ?_; (case B => k_asm); (case F => k_asm); (case X => k_asm); (case N => k_asm); (case T => k_asm); (case hdp => ktr_room); (case hun => ktr_units); (case hlm => k_mem); (case hdlm => k_mem); (case hb => exact rfl); (case hpre => assumption); k_whole); intro v9 t9 h9 tk9 e9 F9 N9; (try dsimp only); (try k_sweep); (try k_fold))
  trivial
theorem reckon_add {w : World} {p : Program} {loose : List Str} {mean : ExcName → Option Value} {mg mb : Str → Option Value} {dp un : Nat} {gd : Option (List Code)} {cn : Str} {nms : List (Str × NameKind)} {ig ic : Bool} {mo : List (Str × Const)} {a : Addr} {ccd : Value} {cl : List (Str × Addr)} {outer : List Env} {A₀ : Around} {base h₀ : Heap} {L : Addr} {m : Str → Option Value} {s : Shared} {Q E : Value → Shared → Prop} {news : List (Addr × Obj)} {lm dlm : Addr} {x y : Int} {tp tx ty : Tok} {ka0 kb0 ka1 kb1 ka2 kb2 ka3 kb3 ka4 kb4 ka5 kb5 ka6 kb6 ka7 kb7 ka8 kb8 ka9 kb9 : Tok}
    (B : Below A₀ base outer h₀) (F : Fr h₀ L s.heap m) (X : (hd.heap_1 w.params).In h₀) (N : News h₀ L s.heap (news)) (T : Top p loose mean mg mb h₀) (hdp : dp + 40 < recursionLimit) (hun : un + 400 < cLine)
    (hlm : (lm, instObj 95 dlm) ∈ news) (hdlm : (dlm, dictOf [⟨PyData.keyHash w.params (Str.ofString "width"), .str (Str.ofString "width") ka0, .int 16 kb0⟩, ⟨PyData.keyHash w.params (Str.ofString "registers"), .str (Str.ofString "registers") ka1, .int 250 kb1⟩, ⟨PyData.keyHash w.params (Str.ofString "upvalues"), .str (Str.ofString "upvalues") ka2, .int 60 kb2⟩, ⟨PyData.keyHash w.params (Str.ofString "local_names"), .str (Str.ofString "local_names") ka3, .int 200 kb3⟩, ⟨PyData.keyHash w.params (Str.ofString "ccalls"), .str (Str.ofString "ccalls") ka4, .int 40 kb4⟩, ⟨PyData.keyHash w.params (Str.ofString "frames"), .str (Str.ofString "frames") ka5, .int 200 kb5⟩, ⟨PyData.keyHash w.params (Str.ofString "stack"), .str (Str.ofString "stack") ka6, .int 2000 kb6⟩, ⟨PyData.keyHash w.params (Str.ofString "flush"), .str (Str.ofString "flush") ka7, .int 50 kb7⟩, ⟨PyData.keyHash w.params (Str.ofString "steps"), .str (Str.ofString "steps") ka8, .int 1000000000 kb8⟩, ⟨PyData.keyHash w.params (Str.ofString "text"), .str (Str.ofString "text") ka9, .int 1000000 kb9⟩] 10) ∈ news) (hpre : -70000 < x ∧ x < 70000 ∧ -70000 < y ∧ y < 70000)
    (hret : ∀ (q : Addr) (v : Int) (t1 t2 : Tok) (h' : Heap) (tk' : Nat), v = wrp (x + y) → (∀ p ∈ news, p.1 < q) → Fr h₀ L h' m → News h₀ L h' ((q, { cls := .type "tuple", data := .seq #[.int 0 t1, .int v t2] }) :: news) → Q (.ref q) { s with heap := h', toks := tk' }) :
    wpAny (model PySem.Challenge.rw_tk0059_01.row.prog w) (ktrTop dp un gd cn (Scope.mk ScopeKind.function nms ig ic mo) L a ccd cl outer) (call (.ref 400) [.int 0 tp, .int x tx, .int y ty, .ref lm]) Q E s := by
  revert X; k_fill; intro X
  have hk : (Scope.mk ScopeKind.function nms ig ic mo).kind = ScopeKind.function := rfl
  have hMk := kstMark
  refine wpAny_call ?_
  k_dflt cell_enter
  k_steps
  all_goals first
    | (refine' hret _ _ _ _ _ _ ?e9 ?l9 ?F9 ?N9; (case N9 => (rename News _ _ _ _ => nE; refine kst_newsOf nE ?_; ((repeat (refine sub_cons (by k_memK) ?_)); first | exact List.forall_mem_nil _ | (intro p hp; k_ownIn)))); (case F9 => (rename Fr _ _ _ _ => fE; exact fE)); (case e9 => assumption); (case l9 => first | assumption | exact kst_ltOf (by assumption)))
    | trace_state

theorem reckon_mul {w : World} {p : Program} {loose : List Str} {mean : ExcName → Option Value} {mg mb : Str → Option Value} {dp un : Nat} {gd : Option (List Code)} {cn : Str} {nms : List (Str × NameKind)} {ig ic : Bool} {mo : List (Str × Const)} {a : Addr} {ccd : Value} {cl : List (Str × Addr)} {outer : List Env} {A₀ : Around} {base h₀ : Heap} {L : Addr} {m : Str → Option Value} {s : Shared} {Q E : Value → Shared → Prop} {news : List (Addr × Obj)} {lm dlm : Addr} {x y : Int} {tp tx ty : Tok} {ka0 kb0 ka1 kb1 ka2 kb2 ka3 kb3 ka4 kb4 ka5 kb5 ka6 kb6 ka7 kb7 ka8 kb8 ka9 kb9 : Tok}
    (B : Below A₀ base outer h₀) (F : Fr h₀ L s.heap m) (X : (hd.heap_1 w.params).In h₀) (N : News h₀ L s.heap (news)) (T : Top p loose mean mg mb h₀) (hdp : dp + 40 < recursionLimit) (hun : un + 400 < cLine)
    (hlm : (lm, instObj 95 dlm) ∈ news) (hdlm : (dlm, dictOf [⟨PyData.keyHash w.params (Str.ofString "width"), .str (Str.ofString "width") ka0, .int 16 kb0⟩, ⟨PyData.keyHash w.params (Str.ofString "registers"), .str (Str.ofString "registers") ka1, .int 250 kb1⟩, ⟨PyData.keyHash w.params (Str.ofString "upvalues"), .str (Str.ofString "upvalues") ka2, .int 60 kb2⟩, ⟨PyData.keyHash w.params (Str.ofString "local_names"), .str (Str.ofString "local_names") ka3, .int 200 kb3⟩, ⟨PyData.keyHash w.params (Str.ofString "ccalls"), .str (Str.ofString "ccalls") ka4, .int 40 kb4⟩, ⟨PyData.keyHash w.params (Str.ofString "frames"), .str (Str.ofString "frames") ka5, .int 200 kb5⟩, ⟨PyData.keyHash w.params (Str.ofString "stack"), .str (Str.ofString "stack") ka6, .int 2000 kb6⟩, ⟨PyData.keyHash w.params (Str.ofString "flush"), .str (Str.ofString "flush") ka7, .int 50 kb7⟩, ⟨PyData.keyHash w.params (Str.ofString "steps"), .str (Str.ofString "steps") ka8, .int 1000000000 kb8⟩, ⟨PyData.keyHash w.params (Str.ofString "text"), .str (Str.ofString "text") ka9, .int 1000000 kb9⟩] 10) ∈ news) (hpre : -32768 ≤ x ∧ x < 32768 ∧ -32768 ≤ y ∧ y < 32768)
    (hret : ∀ (q : Addr) (v : Int) (t1 t2 : Tok) (h' : Heap) (tk' : Nat), v = wrp (x * y) → (∀ p ∈ news, p.1 < q) → Fr h₀ L h' m → News h₀ L h' ((q, { cls := .type "tuple", data := .seq #[.int 0 t1, .int v t2] }) :: news) → Q (.ref q) { s with heap := h', toks := tk' }) :
    wpAny (model PySem.Challenge.rw_tk0059_01.row.prog w) (ktrTop dp un gd cn (Scope.mk ScopeKind.function nms ig ic mo) L a ccd cl outer) (call (.ref 400) [.int 2 tp, .int x tx, .int y ty, .ref lm]) Q E s := by
  revert X; k_fill; intro X
  have hk : (Scope.mk ScopeKind.function nms ig ic mo).kind = ScopeKind.function := rfl
  have hMk := kstMark
  refine wpAny_call ?_
  k_dflt cell_enter
  k_steps
  all_goals first
    | (refine' hret _ _ _ _ _ _ ?e9 ?l9 ?F9 ?N9; (case N9 => (rename News _ _ _ _ => nE; refine kst_newsOf nE ?_; ((repeat (refine sub_cons (by k_memK) ?_)); first | exact List.forall_mem_nil _ | (intro p hp; k_ownIn)))); (case F9 => (rename Fr _ _ _ _ => fE; exact fE)); (case e9 => assumption); (case l9 => first | assumption | exact kst_ltOf (by assumption)))
    | trace_state

theorem reckon_div {w : World} {p : Program} {loose : List Str} {mean : ExcName → Option Value} {mg mb : Str → Option Value} {dp un : Nat} {gd : Option (List Code)} {cn : Str} {nms : List (Str × NameKind)} {ig ic : Bool} {mo : List (Str × Const)} {a : Addr} {ccd : Value} {cl : List (Str × Addr)} {outer : List Env} {A₀ : Around} {base h₀ : Heap} {L : Addr} {m : Str → Option Value} {s : Shared} {Q E : Value → Shared → Prop} {news : List (Addr × Obj)} {lm dlm : Addr} {x y : Int} {tp tx ty : Tok} {ka0 kb0 ka1 kb1 ka2 kb2 ka3 kb3 ka4 kb4 ka5 kb5 ka6 kb6 ka7 kb7 ka8 kb8 ka9 kb9 : Tok}
    (B : Below A₀ base outer h₀) (F : Fr h₀ L s.heap m) (X : (hd.heap_1 w.params).In h₀) (N : News h₀ L s.heap (news)) (T : Top p loose mean mg mb h₀) (hdp : dp + 40 < recursionLimit) (hun : un + 400 < cLine)
    (hlm : (lm, instObj 95 dlm) ∈ news) (hdlm : (dlm, dictOf [⟨PyData.keyHash w.params (Str.ofString "width"), .str (Str.ofString "width") ka0, .int 16 kb0⟩, ⟨PyData.keyHash w.params (Str.ofString "registers"), .str (Str.ofString "registers") ka1, .int 250 kb1⟩, ⟨PyData.keyHash w.params (Str.ofString "upvalues"), .str (Str.ofString "upvalues") ka2, .int 60 kb2⟩, ⟨PyData.keyHash w.params (Str.ofString "local_names"), .str (Str.ofString "local_names") ka3, .int 200 kb3⟩, ⟨PyData.keyHash w.params (Str.ofString "ccalls"), .str (Str.ofString "ccalls") ka4, .int 40 kb4⟩, ⟨PyData.keyHash w.params (Str.ofString "frames"), .str (Str.ofString "frames") ka5, .int 200 kb5⟩, ⟨PyData.keyHash w.params (Str.ofString "stack"), .str (Str.ofString "stack") ka6, .int 2000 kb6⟩, ⟨PyData.keyHash w.params (Str.ofString "flush"), .str (Str.ofString "flush") ka7, .int 50 kb7⟩, ⟨PyData.keyHash w.params (Str.ofString "steps"), .str (Str.ofString "steps") ka8, .int 1000000000 kb8⟩, ⟨PyData.keyHash w.params (Str.ofString "text"), .str (Str.ofString "text") ka9, .int 1000000 kb9⟩] 10) ∈ news) (hpre : 0 ≤ x ∧ 0 < y ∧ x < 65536 ∧ y < 65536)
    (hret : ∀ (q : Addr) (v : Int) (t1 t2 : Tok) (h' : Heap) (tk' : Nat), v = wrp (x / y) → (∀ p ∈ news, p.1 < q) → Fr h₀ L h' m → News h₀ L h' ((q, { cls := .type "tuple", data := .seq #[.int 0 t1, .int v t2] }) :: news) → Q (.ref q) { s with heap := h', toks := tk' }) :
    wpAny (model PySem.Challenge.rw_tk0059_01.row.prog w) (ktrTop dp un gd cn (Scope.mk ScopeKind.function nms ig ic mo) L a ccd cl outer) (call (.ref 400) [.int 3 tp, .int x tx, .int y ty, .ref lm]) Q E s := by
  revert X; k_fill; intro X
  have hk : (Scope.mk ScopeKind.function nms ig ic mo).kind = ScopeKind.function := rfl
  have hMk := kstMark
  refine wpAny_call ?_
  k_dflt cell_enter
  k_steps
  all_goals first
    | (refine' hret _ _ _ _ _ _ ?e9 ?l9 ?F9 ?N9; (case N9 => (rename News _ _ _ _ => nE; refine kst_newsOf nE ?_; ((repeat (refine sub_cons (by k_memK) ?_)); first | exact List.forall_mem_nil _ | (intro p hp; k_ownIn)))); (case F9 => (rename Fr _ _ _ _ => fE; exact fE)); (case e9 => assumption); (case l9 => first | assumption | exact kst_ltOf (by assumption)))
    | trace_state

theorem reckon_mod {w : World} {p : Program} {loose : List Str} {mean : ExcName → Option Value} {mg mb : Str → Option Value} {dp un : Nat} {gd : Option (List Code)} {cn : Str} {nms : List (Str × NameKind)} {ig ic : Bool} {mo : List (Str × Const)} {a : Addr} {ccd : Value} {cl : List (Str × Addr)} {outer : List Env} {A₀ : Around} {base h₀ : Heap} {L : Addr} {m : Str → Option Value} {s : Shared} {Q E : Value → Shared → Prop} {news : List (Addr × Obj)} {lm dlm : Addr} {x y : Int} {tp tx ty : Tok} {ka0 kb0 ka1 kb1 ka2 kb2 ka3 kb3 ka4 kb4 ka5 kb5 ka6 kb6 ka7 kb7 ka8 kb8 ka9 kb9 : Tok}
    (B : Below A₀ base outer h₀) (F : Fr h₀ L s.heap m) (X : (hd.heap_1 w.params).In h₀) (N : News h₀ L s.heap (news)) (T : Top p loose mean mg mb h₀) (hdp : dp + 40 < recursionLimit) (hun : un + 400 < cLine)
    (hlm : (lm, instObj 95 dlm) ∈ news) (hdlm : (dlm, dictOf [⟨PyData.keyHash w.params (Str.ofString "width"), .str (Str.ofString "width") ka0, .int 16 kb0⟩, ⟨PyData.keyHash w.params (Str.ofString "registers"), .str (Str.ofString "registers") ka1, .int 250 kb1⟩, ⟨PyData.keyHash w.params (Str.ofString "upvalues"), .str (Str.ofString "upvalues") ka2, .int 60 kb2⟩, ⟨PyData.keyHash w.params (Str.ofString "local_names"), .str (Str.ofString "local_names") ka3, .int 200 kb3⟩, ⟨PyData.keyHash w.params (Str.ofString "ccalls"), .str (Str.ofString "ccalls") ka4, .int 40 kb4⟩, ⟨PyData.keyHash w.params (Str.ofString "frames"), .str (Str.ofString "frames") ka5, .int 200 kb5⟩, ⟨PyData.keyHash w.params (Str.ofString "stack"), .str (Str.ofString "stack") ka6, .int 2000 kb6⟩, ⟨PyData.keyHash w.params (Str.ofString "flush"), .str (Str.ofString "flush") ka7, .int 50 kb7⟩, ⟨PyData.keyHash w.params (Str.ofString "steps"), .str (Str.ofString "steps") ka8, .int 1000000000 kb8⟩, ⟨PyData.keyHash w.params (Str.ofString "text"), .str (Str.ofString "text") ka9, .int 1000000 kb9⟩] 10) ∈ news) (hpre : 0 < y ∧ -65536 < x ∧ x < 65536 ∧ y < 65536)
    (hret : ∀ (q : Addr) (v : Int) (t1 t2 : Tok) (h' : Heap) (tk' : Nat), v = wrp (x % y) → (∀ p ∈ news, p.1 < q) → Fr h₀ L h' m → News h₀ L h' ((q, { cls := .type "tuple", data := .seq #[.int 0 t1, .int v t2] }) :: news) → Q (.ref q) { s with heap := h', toks := tk' }) :
    wpAny (model PySem.Challenge.rw_tk0059_01.row.prog w) (ktrTop dp un gd cn (Scope.mk ScopeKind.function nms ig ic mo) L a ccd cl outer) (call (.ref 400) [.int 4 tp, .int x tx, .int y ty, .ref lm]) Q E s := by
  revert X; k_fill; intro X
  have hk : (Scope.mk ScopeKind.function nms ig ic mo).kind = ScopeKind.function := rfl
  have hMk := kstMark
  refine wpAny_call ?_
  k_dflt cell_enter
  k_steps
  all_goals first
    | (refine' hret _ _ _ _ _ _ ?e9 ?l9 ?F9 ?N9; (case N9 => (rename News _ _ _ _ => nE; refine kst_newsOf nE ?_; ((repeat (refine sub_cons (by k_memK) ?_)); first | exact List.forall_mem_nil _ | (intro p hp; k_ownIn)))); (case F9 => (rename Fr _ _ _ _ => fE; exact fE)); (case e9 => assumption); (case l9 => first | assumption | exact kst_ltOf (by assumption)))
    | trace_state
theorem w_C10_1 : True := by
  k_with_none
  trivial
theorem my_item {prog : Program} {w : World} {A : Around} {E : Value → Shared → Prop} {s : Shared} {value slice : Expr} {l : Addr} {vs : List Value} {k : Int} {u : Tok} {v : Value} {Q : Value → Shared → Prop}
    (hl : s.heap.IsList l vs.toArray) (h0 : 0 ≤ k) (hhi : k < 2 ^ 63) (hx : vs[k.toNat]? = some v) (h : Q v s)
    (hs : subscripted slice false (.ref l) (.int k u) = operate [.ref l, .int k u] (getItem (.ref l) (.int k u)) := by with_unfolding_all rfl) :
    wpAny (model prog w) A (subscriptTail value slice (.ref l) (.int k u)) Q E s :=
  PyProof.Rows.tail_any hl.typeIs slot_list_getitem.lookup (wpAny_getItem_list hl h0 hhi (by simpa using hx) h) hs
def OpV (vs ks : List Value) (p : Int) (v : Value) : Prop := (Builtin.bitAnd p 256 = 0 ∧ 0 ≤ p ∧ p < 256 ∧ vs[(0 + p).toNat]? = some v) ∨ (256 ≤ p ∧ p < 512 ∧ Builtin.bitAnd p 256 ≠ 0 ∧ ks[(p - 256).toNat]? = some v)
theorem w_C10_2 : True := by
  k_with "eval Call" => ((with_reducible show wpAny _ _ (eval (Expr.Call (Expr.Name _ _) _ [] _) _) _ _ _); k_dflt (refine Call_ ?_))
  k_with "subscriptTail" => (k_here; (with_reducible show wpAny _ _ (subscriptTail _ _ (Value.ref _) (Value.int _ _)) _ _ _); k_dflt (refine' my_item ?l ?a ?b ?d ?_; (case l => exact News.isList (by k_asm) (by k_mem)); (case a => first | omega | decide); (case b => first | omega | decide); (case d => first | rfl | assumption); k_whole))
  k_with "subscriptTail Name BinOp ref int" => (k_here; (with_reducible show wpAny _ _ (subscriptTail _ _ (Value.ref _) (Value.int _ _)) _ _ _); k_dflt (refine' my_item ?l ?a ?b ?d ?_; (case l => exact News.isList (by k_asm) (by k_mem)); (case a => first | omega | decide); (case b => first | omega | decide); (case d => first | rfl | assumption); k_whole))
  k_with "subscriptTail Name Name ref int" => (k_here; (with_reducible show wpAny _ _ (subscriptTail _ _ (Value.ref _) (Value.int _ _)) _ _ _); k_dflt (refine' my_item ?l ?a ?b ?d ?_; (case l => exact News.isList (by k_asm) (by k_mem)); (case a => first | omega | decide); (case b => first | omega | decide); (case d => first | rfl | assumption); k_whole))
  k_with "subscriptTail Attribute Name ref int" => (k_here; (with_reducible show wpAny _ _ (subscriptTail _ _ (Value.ref _) (Value.int _ _)) _ _ _); k_dflt (refine' my_item ?l ?a ?b ?d ?_; (case l => exact News.isList (by k_asm) (by k_mem)); (case a => first | omega | decide); (case b => first | omega | decide); (case d => first | rfl | assumption); k_whole))
  k_with "subscriptTail Name Call ref int" => (k_here; (with_reducible show wpAny _ _ (subscriptTail _ _ (Value.ref _) (Value.int _ _)) _ _ _); k_dflt (refine' my_item ?l ?a ?b ?d ?_; (case l => exact News.isList (by k_asm) (by k_mem)); (case a => first | omega | decide); (case b => first | omega | decide); (case d => first | rfl | assumption); k_whole))
  k_with "subscriptTail Attribute Call ref int" => (k_here; (with_reducible show wpAny _ _ (subscriptTail _ _ (Value.ref _) (Value.int _ _)) _ _ _); k_dflt (refine' my_item ?l ?a ?b ?d ?_; (case l => exact News.isList (by k_asm) (by k_mem)); (case a => first | omega | decide); (case b => first | omega | decide); (case d => first | rfl | assumption); k_whole))
  k_with "subscriptTail Attribute BinOp ref int" => (k_here; (with_reducible show wpAny _ _ (subscriptTail _ _ (Value.ref _) (Value.int _ _)) _ _ _); k_dflt (refine' my_item ?l ?a ?b ?d ?_; (case l => exact News.isList (by k_asm) (by k_mem)); (case a => first | omega | decide); (case b => first | omega | decide); (case d => first | rfl | assumption); k_whole))
  k_with "subscriptTail Name Constant ref int" => (k_here; (with_reducible show wpAny _ _ (subscriptTail _ _ (Value.ref _) (Value.int _ _)) _ _ _); k_dflt (refine' my_item ?l ?a ?b ?d ?_; (case l => exact News.isList (by k_asm) (by k_mem)); (case a => first | omega | decide); (case b => first | omega | decide); (case d => first | rfl | assumption); k_whole))
  k_with "subscriptTail Attribute IfExp ref int" => (k_here; (with_reducible show wpAny _ _ (subscriptTail _ _ (Value.ref _) (Value.int _ _)) _ _ _); k_dflt (refine' my_item ?l ?a ?b ?d ?_; (case l => exact News.isList (by k_asm) (by k_mem)); (case a => first | omega | decide); (case b => first | omega | decide); (case d => first | rfl | assumption); k_whole))
  k_with "subscriptTail Name Subscript ref int" => (k_here; (with_reducible show wpAny _ _ (subscriptTail _ _ (Value.ref _) (Value.int _ _)) _ _ _); k_dflt (refine' my_item ?l ?a ?b ?d ?_; (case l => exact News.isList (by k_asm) (by k_mem)); (case a => first | omega | decide); (case b => first | omega | decide); (case d => first | rfl | assumption); k_whole))
  trivial
theorem operand_ok {w : World} {p : Program} {loose : List Str} {mean : ExcName → Option Value} {mg mb : Str → Option Value} {dp un : Nat} {gd : Option (List Code)} {cn : Str} {nms : List (Str × NameKind)} {ig ic : Bool} {mo : List (Str × Const)} {a : Addr} {ccd : Value} {cl : List (Str × Addr)} {outer : List Env} {A₀ : Around} {base h₀ : Heap} {L : Addr} {m : Str → Option Value} {s : Shared} {Q E : Value → Shared → Prop} {news : List (Addr × Obj)} {ls lk : Addr} {vs ks : List Value} {ns nk : Nat} {pl : Int} {v : Value} {t0 t1 : Tok}
    (B : Below A₀ base outer h₀) (F : Fr h₀ L s.heap m) (X : (hd.heap_1 w.params).In h₀) (N : News h₀ L s.heap (news)) (T : Top p loose mean mg mb h₀) (hdp : dp + 8 < recursionLimit) (hun : un + 64 < cLine)
    (hls : (ls, listOf vs.toArray ns) ∈ news) (hlk : (lk, listOf ks.toArray nk) ∈ news) (hv : OpV vs ks pl v)
    (hret : ∀ (h' : Heap) (tk' : Nat), Fr h₀ L h' m → News h₀ L h' news → Q v { s with heap := h', toks := tk' }) :
    wpAny (model PySem.Challenge.rw_tk0059_01.row.prog w) (ktrTop dp un gd cn (Scope.mk ScopeKind.function nms ig ic mo) L a ccd cl outer) (call (.ref 310) [.ref ls, .int 0 t0, .ref lk, .int pl t1]) Q E s := by
  rcases hv with ⟨hb, hp0, hp1, hx⟩ | ⟨hp0, hp1, hb, hx⟩
  all_goals (
    revert X; k_fill; intro X
    have hk : (Scope.mk ScopeKind.function nms ig ic mo).kind = ScopeKind.function := rfl
    have hMk := kstMark
    refine wpAny_call ?_
    k_dflt cell_enter
    k_steps
    all_goals first
      | exact hret _ _ (by (rename Fr _ _ _ _ => fE; exact fE)) (by (rename News _ _ _ _ => nE; exact nE))
      | (exfalso; simp_all; done)
      | trace_state)
theorem w_C11_1 : True := by
  k_with_none
  trivial
theorem w_C11_2 : True := by
  k_with "eval Call" => ((with_reducible show wpAny _ _ (eval (Expr.Call (Expr.Name _ _) _ [] _) _) _ _ _); k_dflt (refine Call_ ?_))
  k_with "call ref" => (k_here; (with_reducible show wpAny _ _ (call (Value.ref 28) [Value.int _ _]) _ _ _); k_dflt (refine' op_of_ok ?B ?F ?X ?N ?T ?hdp ?hun ?e ?h0 ?h1 ?_; (case B => k_asm); (case F => k_asm); (case X => k_asm); (case N => k_asm); (case T => k_asm); (case hdp => ktr_room); (case hun => ktr_units); (case e => assumption); (case h0 => first | decide | assumption | omega); (case h1 => first | decide | assumption | omega); k_whole); intro t9 h9 tk9 F9 N9; (try dsimp only); (try k_sweep); (try k_fold))
  k_with "call ref" => (k_here; (with_reducible show wpAny _ _ (call (Value.ref 35) [Value.int _ _]) _ _ _); k_dflt (refine' a_of_ok ?B ?F ?X ?N ?T ?hdp ?hun ?e ?h0 ?h1 ?_; (case B => k_asm); (case F => k_asm); (case X => k_asm); (case N => k_asm); (case T => k_asm); (case hdp => ktr_room); (case hun => ktr_units); (case e => assumption); (case h0 => first | decide | assumption | omega); (case h1 => first | decide | assumption | omega); k_whole); intro t9 h9 tk9 F9 N9; (try dsimp only); (try k_sweep); (try k_fold))
  k_with "call ref" => (k_here; (with_reducible show wpAny _ _ (call (Value.ref 42) [Value.int _ _]) _ _ _); k_dflt (refine' b_of_ok ?B ?F ?X ?N ?T ?hdp ?hun ?e ?h0 ?h1 ?_; (case B => k_asm); (case F => k_asm); (case X => k_asm); (case N => k_asm); (case T => k_asm); (case hdp => ktr_room); (case hun => ktr_units); (case e => assumption); (case h0 => first | decide | assumption | omega); (case h1 => first | decide | assumption | omega); k_whole); intro t9 h9 tk9 F9 N9; (try dsimp only); (try k_sweep); (try k_fold))
  k_with "call ref" => (k_here; (with_reducible show wpAny _ _ (call (Value.ref 49) [Value.int _ _]) _ _ _); k_dflt (refine' c_of_ok ?B ?F ?X ?N ?T ?hdp ?hun ?e ?h0 ?h1 ?_; (case B => k_asm); (case F => k_asm); (case X => k_asm); (case N => k_asm); (case T => k_asm); (case hdp => ktr_room); (case hun => ktr_units); (case e => assumption); (case h0 => first | decide | assumption | omega); (case h1 => first | decide | assumption | omega); k_whole); intro t9 h9 tk9 F9 N9; (try dsimp only); (try k_sweep); (try k_fold))
  k_with "call ref" => (k_here; (with_reducible show wpAny _ _ (call (Value.ref 63) [Value.int _ _]) _ _ _); k_dflt (refine' jump_of_ok ?B ?F ?X ?N ?T ?hdp ?hun ?e ?h0 ?h1 ?_; (case B => k_asm); (case F => k_asm); (case X => k_asm); (case N => k_asm); (case T => k_asm); (case hdp => ktr_room); (case hun => ktr_units); (case e => assumption); (case h0 => first | decide | assumption | omega); (case h1 => first | decide | assumption | omega); k_whole); intro t9 h9 tk9 F9 N9; (try dsimp only); (try k_sweep); (try k_fold))
  k_with "call ref" => (k_here; (with_reducible show wpAny _ _ (call (Value.ref 310) [Value.ref _, Value.int _ _, Value.ref _, Value.int _ _]) _ _ _); k_dflt (refine' operand_ok ?B ?F ?X ?N ?T ?hdp ?hun ?hls ?hlk ?hv ?_; (case B => k_asm); (case F => k_asm); (case X => k_asm); (case N => k_asm); (case T => k_asm); (case hdp => ktr_room); (case hun => ktr_units); (case hls => k_mem); (case hlk => k_mem); (case hv => first | assumption | (exact Or.inl ⟨by decide, by decide, by decide, rfl⟩) | (exact Or.inr ⟨by decide, by decide, by decide, rfl⟩)); k_whole); intro h9 tk9 F9 N9; (try dsimp only); (try k_sweep); (try k_fold))
  trivial
theorem two_ok {w : World} {p : Program} {loose : List Str} {mean : ExcName → Option Value} {mg mb : Str → Option Value} {dp un : Nat} {gd : Option (List Code)} {cn : Str} {nms : List (Str × NameKind)} {ig ic : Bool} {mo : List (Str × Const)} {a : Addr} {ccd : Value} {cl : List (Str × Addr)} {outer : List Env} {A₀ : Around} {base h₀ : Heap} {L : Addr} {m : Str → Option Value} {s : Shared} {Q E : Value → Shared → Prop} {news : List (Addr × Obj)} {ls lk : Addr} {vs ks : List Value} {ns nk : Nat} {i xb xc : Int} {v u : Value} {t0 t1 : Tok}
    (B : Below A₀ base outer h₀) (F : Fr h₀ L s.heap m) (X : (hd.heap_1 w.params).In h₀) (N : News h₀ L s.heap (news)) (T : Top p loose mean mg mb h₀) (hdp : dp + 20 < recursionLimit) (hun : un + 200 < cLine)
    (hls : (ls, listOf vs.toArray ns) ∈ news) (hlk : (lk, listOf ks.toArray nk) ∈ news) (hi0 : 0 ≤ i) (hi1 : i < 4294967296) (eb : i / 8388608 = xb) (ec : i / 16384 % 512 = xc) (hv : OpV vs ks xb v) (hu : OpV vs ks xc u)
    (hret : ∀ (q : Addr) (h' : Heap) (tk' : Nat), (∀ p ∈ news, p.1 < q) → Fr h₀ L h' m → News h₀ L h' ((q, { cls := .type "tuple", data := .seq #[v, u] }) :: news) → Q (.ref q) { s with heap := h', toks := tk' }) :
    wpAny (model PySem.Challenge.rw_tk0059_01.row.prog w) (ktrTop dp un gd cn (Scope.mk ScopeKind.function nms ig ic mo) L a ccd cl outer) (call (.ref 317) [.int i t0, .ref ls, .int 0 t1, .ref lk]) Q E s := by
  revert X; k_fill; intro X
  have hk : (Scope.mk ScopeKind.function nms ig ic mo).kind = ScopeKind.function := rfl
  have hMk := kstMark
  refine wpAny_call ?_
  k_dflt cell_enter
  k_steps
  all_goals first
    | (refine' hret _ _ _ ?l9 ?F9 ?N9; (case N9 => (rename News _ _ _ _ => nE; exact nE)); (case F9 => (rename Fr _ _ _ _ => fE; exact fE)); (case l9 => first | assumption | exact kst_ltOf (by assumption)))
    | trace_state
theorem w_I2_1 : True := by
  k_with_none
  trivial
theorem w_I2_2 : True := by
  k_with "eval Call" => ((with_reducible show wpAny _ _ (eval (Expr.Call (Expr.Name _ _) _ [] _) _) _ _ _); k_dflt (refine Call_ ?_))
  k_with "subscriptTail" => (k_here; (with_reducible show wpAny _ _ (subscriptTail _ _ (Value.ref _) (Value.int _ _)) _ _ _); k_dflt (refine' my_item ?l ?a ?b ?d ?_; (case l => exact News.isList (by k_asm) (by k_mem)); (case a => decide); (case b => decide); (case d => rfl); k_whole))
  k_with "subscriptTail Name BinOp ref int" => (k_here; (with_reducible show wpAny _ _ (subscriptTail _ _ (Value.ref _) (Value.int _ _)) _ _ _); k_dflt (refine' my_item ?l ?a ?b ?d ?_; (case l => exact News.isList (by k_asm) (by k_mem)); (case a => decide); (case b => decide); (case d => rfl); k_whole))
  k_with "subscriptTail Name Name ref int" => (k_here; (with_reducible show wpAny _ _ (subscriptTail _ _ (Value.ref _) (Value.int _ _)) _ _ _); k_dflt (refine' my_item ?l ?a ?b ?d ?_; (case l => exact News.isList (by k_asm) (by k_mem)); (case a => decide); (case b => decide); (case d => rfl); k_whole))
  k_with "subscriptTail Attribute Name ref int" => (k_here; (with_reducible show wpAny _ _ (subscriptTail _ _ (Value.ref _) (Value.int _ _)) _ _ _); k_dflt (refine' my_item ?l ?a ?b ?d ?_; (case l => exact News.isList (by k_asm) (by k_mem)); (case a => decide); (case b => decide); (case d => rfl); k_whole))
  k_with "subscriptTail Name Call ref int" => (k_here; (with_reducible show wpAny _ _ (subscriptTail _ _ (Value.ref _) (Value.int _ _)) _ _ _); k_dflt (refine' my_item ?l ?a ?b ?d ?_; (case l => exact News.isList (by k_asm) (by k_mem)); (case a => decide); (case b => decide); (case d => rfl); k_whole))
  k_with "subscriptTail Attribute Call ref int" => (k_here; (with_reducible show wpAny _ _ (subscriptTail _ _ (Value.ref _) (Value.int _ _)) _ _ _); k_dflt (refine' my_item ?l ?a ?b ?d ?_; (case l => exact News.isList (by k_asm) (by k_mem)); (case a => decide); (case b => decide); (case d => rfl); k_whole))
  k_with "subscriptTail Attribute BinOp ref int" => (k_here; (with_reducible show wpAny _ _ (subscriptTail _ _ (Value.ref _) (Value.int _ _)) _ _ _); k_dflt (refine' my_item ?l ?a ?b ?d ?_; (case l => exact News.isList (by k_asm) (by k_mem)); (case a => decide); (case b => decide); (case d => rfl); k_whole))
  k_with "subscriptTail Name Constant ref int" => (k_here; (with_reducible show wpAny _ _ (subscriptTail _ _ (Value.ref _) (Value.int _ _)) _ _ _); k_dflt (refine' my_item ?l ?a ?b ?d ?_; (case l => exact News.isList (by k_asm) (by k_mem)); (case a => decide); (case b => decide); (case d => rfl); k_whole))
  k_with "subscriptTail Attribute IfExp ref int" => (k_here; (with_reducible show wpAny _ _ (subscriptTail _ _ (Value.ref _) (Value.int _ _)) _ _ _); k_dflt (refine' my_item ?l ?a ?b ?d ?_; (case l => exact News.isList (by k_asm) (by k_mem)); (case a => decide); (case b => decide); (case d => rfl); k_whole))
  k_with "subscriptTail Name Subscript ref int" => (k_here; (with_reducible show wpAny _ _ (subscriptTail _ _ (Value.ref _) (Value.int _ _)) _ _ _); k_dflt (refine' my_item ?l ?a ?b ?d ?_; (case l => exact News.isList (by k_asm) (by k_mem)); (case a => decide); (case b => decide); (case d => rfl); k_whole))
  k_with "call ref" => (k_here; (with_reducible show wpAny _ _ (call (Value.ref 28) [Value.int _ _]) _ _ _); k_dflt (refine' op_of_ok ?B ?F ?X ?N ?T ?hdp ?hun ?e ?h0 ?h1 ?_; (case B => k_asm); (case F => k_asm); (case X => k_asm); (case N => k_asm); (case T => k_asm); (case hdp => ktr_room); (case hun => ktr_units); (case e => first | (simp only [Int.reduceMul, Int.reduceAdd, Int.reduceSub, Int.reduceDiv, Int.reduceMod]; done) | (simp only [Int.reduceMul, Int.reduceAdd, Int.reduceSub, Int.reduceDiv, Int.reduceMod]; rfl)); (case h0 => decide); (case h1 => decide); k_whole); intro t9 h9 tk9 F9 N9; (try dsimp only); (try k_sweep); (try k_fold))
  k_with "call ref" => (k_here; (with_reducible show wpAny _ _ (call (Value.ref 35) [Value.int _ _]) _ _ _); k_dflt (refine' a_of_ok ?B ?F ?X ?N ?T ?hdp ?hun ?e ?h0 ?h1 ?_; (case B => k_asm); (case F => k_asm); (case X => k_asm); (case N => k_asm); (case T => k_asm); (case hdp => ktr_room); (case hun => ktr_units); (case e => first | (simp only [Int.reduceMul, Int.reduceAdd, Int.reduceSub, Int.reduceDiv, Int.reduceMod]; done) | (simp only [Int.reduceMul, Int.reduceAdd, Int.reduceSub, Int.reduceDiv, Int.reduceMod]; rfl)); (case h0 => decide); (case h1 => decide); k_whole); intro t9 h9 tk9 F9 N9; (try dsimp only); (try k_sweep); (try k_fold))
  k_with "call ref" => (k_here; (with_reducible show wpAny _ _ (call (Value.ref 42) [Value.int _ _]) _ _ _); k_dflt (refine' b_of_ok ?B ?F ?X ?N ?T ?hdp ?hun ?e ?h0 ?h1 ?_; (case B => k_asm); (case F => k_asm); (case X => k_asm); (case N => k_asm); (case T => k_asm); (case hdp => ktr_room); (case hun => ktr_units); (case e => first | (simp only [Int.reduceMul, Int.reduceAdd, Int.reduceSub, Int.reduceDiv, Int.reduceMod]; done) | (simp only [Int.reduceMul, Int.reduceAdd, Int.reduceSub, Int.reduceDiv, Int.reduceMod]; rfl)); (case h0 => decide); (case h1 => decide); k_whole); intro t9 h9 tk9 F9 N9; (try dsimp only); (try k_sweep); (try k_fold))
  k_with "call ref" => (k_here; (with_reducible show wpAny _ _ (call (Value.ref 49) [Value.int _ _]) _ _ _); k_dflt (refine' c_of_ok ?B ?F ?X ?N ?T ?hdp ?hun ?e ?h0 ?h1 ?_; (case B => k_asm); (case F => k_asm); (case X => k_asm); (case N => k_asm); (case T => k_asm); (case hdp => ktr_room); (case hun => ktr_units); (case e => first | (simp only [Int.reduceMul, Int.reduceAdd, Int.reduceSub, Int.reduceDiv, Int.reduceMod]; done) | (simp only [Int.reduceMul, Int.reduceAdd, Int.reduceSub, Int.reduceDiv, Int.reduceMod]; rfl)); (case h0 => decide); (case h1 => decide); k_whole); intro t9 h9 tk9 F9 N9; (try dsimp only); (try k_sweep); (try k_fold))
  k_with "call ref" => (k_here; (with_reducible show wpAny _ _ (call (Value.ref 63) [Value.int _ _]) _ _ _); k_dflt (refine' jump_of_ok ?B ?F ?X ?N ?T ?hdp ?hun ?e ?h0 ?h1 ?_; (case B => k_asm); (case F => k_asm); (case X => k_asm); (case N => k_asm); (case T => k_asm); (case hdp => ktr_room); (case hun => ktr_units); (case e => first | (simp only [Int.reduceMul, Int.reduceAdd, Int.reduceSub, Int.reduceDiv, Int.reduceMod]; done) | (simp only [Int.reduceMul, Int.reduceAdd, Int.reduceSub, Int.reduceDiv, Int.reduceMod]; rfl)); (case h0 => decide); (case h1 => decide); k_whole); intro t9 h9 tk9 F9 N9; (try dsimp only); (try k_sweep); (try k_fold))
  k_with "call ref" => (k_here; (with_reducible show wpAny _ _ (call (Value.ref 400) [Value.int (12 - 12) _, Value.int _ _, Value.int _ _, Value.ref _]) _ _ _); k_dflt (refine' reckon_add ?B ?F ?X ?N ?T ?hdp ?hun ?hlm ?hdlm ?hpre ?_; (case B => k_asm); (case F => k_asm); (case X => k_asm); (case N => k_asm); (case T => k_asm); (case hdp => ktr_room); (case hun => ktr_units); (case hlm => k_mem); (case hdlm => k_mem); (case hpre => first | assumption | omega); k_whole); intro q9 v9 t9 u9 h9 tk9 e9 l9 F9 N9; (try k_lt l9); (try dsimp only); (try k_sweep); (try k_fold))
  k_with "call ref" => (k_here; (with_reducible show wpAny _ _ (call (Value.ref 400) [Value.int (14 - 12) _, Value.int _ _, Value.int _ _, Value.ref _]) _ _ _); k_dflt (refine' reckon_mul ?B ?F ?X ?N ?T ?hdp ?hun ?hlm ?hdlm ?hpre ?_; (case B => k_asm); (case F => k_asm); (case X => k_asm); (case N => k_asm); (case T => k_asm); (case hdp => ktr_room); (case hun => ktr_units); (case hlm => k_mem); (case hdlm => k_mem); (case hpre => first | assumption | omega); k_whole); intro q9 v9 t9 u9 h9 tk9 e9 l9 F9 N9; (try k_lt l9); (try dsimp only); (try k_sweep); (try k_fold))
  k_with "call ref" => (k_here; (with_reducible show wpAny _ _ (call (Value.ref 400) [Value.int (15 - 12) _, Value.int _ _, Value.int _ _, Value.ref _]) _ _ _); k_dflt (refine' reckon_div ?B ?F ?X ?N ?T ?hdp ?hun ?hlm ?hdlm ?hpre ?_; (case B => k_asm); (case F => k_asm); (case X => k_asm); (case N => k_asm); (case T => k_asm); (case hdp => ktr_room); (case hun => ktr_units); (case hlm => k_mem); (case hdlm => k_mem); (case hpre => first | assumption | omega); k_whole); intro q9 v9 t9 u9 h9 tk9 e9 l9 F9 N9; (try k_lt l9); (try dsimp only); (try k_sweep); (try k_fold))
  k_with "call ref" => (k_here; (with_reducible show wpAny _ _ (call (Value.ref 400) [Value.int (16 - 12) _, Value.int _ _, Value.int _ _, Value.ref _]) _ _ _); k_dflt (refine' reckon_mod ?B ?F ?X ?N ?T ?hdp ?hun ?hlm ?hdlm ?hpre ?_; (case B => k_asm); (case F => k_asm); (case X => k_asm); (case N => k_asm); (case T => k_asm); (case hdp => ktr_room); (case hun => ktr_units); (case hlm => k_mem); (case hdlm => k_mem); (case hpre => first | assumption | omega); k_whole); intro q9 v9 t9 u9 h9 tk9 e9 l9 F9 N9; (try k_lt l9); (try dsimp only); (try k_sweep); (try k_fold))
  k_with "call ref" => (k_here; (with_reducible show wpAny _ _ (call (Value.ref 317) [Value.int _ _, Value.ref _, Value.int _ _, Value.ref _]) _ _ _); k_dflt (refine' two_ok ?B ?F ?X ?N ?T ?hdp ?hun ?hls ?hlk ?hi0 ?hi1 ?eb ?ec ?hv ?hu ?_; (case B => k_asm); (case F => k_asm); (case X => k_asm); (case N => k_asm); (case T => k_asm); (case hdp => ktr_room); (case hun => ktr_units); (case hls => k_mem); (case hlk => k_mem); (case hi0 => decide); (case hi1 => decide); (case eb => first | (simp only [Int.reduceMul, Int.reduceAdd, Int.reduceSub, Int.reduceDiv, Int.reduceMod]; done) | (simp only [Int.reduceMul, Int.reduceAdd, Int.reduceSub, Int.reduceDiv, Int.reduceMod]; rfl)); (case ec => first | (simp only [Int.reduceMul, Int.reduceAdd, Int.reduceSub, Int.reduceDiv, Int.reduceMod]; done) | (simp only [Int.reduceMul, Int.reduceAdd, Int.reduceSub, Int.reduceDiv, Int.reduceMod]; rfl)); (case hv => first | exact Or.inl ⟨by decide, by decide, by decide, rfl⟩ | exact Or.inr ⟨by decide, by decide, by decide, rfl⟩); (case hu => first | exact Or.inl ⟨by decide, by decide, by decide, rfl⟩ | exact Or.inr ⟨by decide, by decide, by decide, rfl⟩); k_whole); intro q9 h9 tk9 l9 F9 N9; (try k_lt l9); (try dsimp only); (try k_sweep); (try k_fold))
  trivial
theorem dr_0_2 {w : World} {p : Program} {loose : List Str} {mean : ExcName → Option Value} {mg mb : Str → Option Value} {dp un : Nat} {gd : Option (List Code)} {cn : Str} {nms : List (Str × NameKind)} {ig ic : Bool} {mo : List (Str × Const)} {a : Addr} {ccd : Value} {cl : List (Str × Addr)} {outer : List Env} {A₀ : Around} {base h₀ : Heap} {L : Addr} {m : Str → Option Value} {s : Shared} {Q E : Value → Shared → Prop} {sp dsp ls lc lk lm dlm wk : Addr} {ks0 ks1 ks2 ks3 ks4 ks5 ks6 ks7 ks8 kr kt tp z0 z1 z2 t0 t1 : Tok} {ka0 kb0 ka1 kb1 ka2 kb2 ka3 kb3 ka4 kb4 ka5 kb5 ka6 kb6 ka7 kb7 ka8 kb8 ka9 kb9 : Tok} {ra rb rc rd re pc : Int} {tra trb trc trd tre : Tok} {nk ns : Nat} {rest : List (Addr × Obj)}
    (B : Below A₀ base outer h₀) (F : Fr h₀ L s.heap m) (X : (hd.heap_1 w.params).In h₀) (N : News h₀ L s.heap ((dsp, dictOf [⟨PyData.keyHash w.params (Str.ofString "code"), .str (Str.ofString "code") ks0, .ref lc⟩, ⟨PyData.keyHash w.params (Str.ofString "constants"), .str (Str.ofString "constants") ks1, .ref lk⟩, ⟨PyData.keyHash w.params (Str.ofString "stack"), .str (Str.ofString "stack") ks2, .ref ls⟩, ⟨PyData.keyHash w.params (Str.ofString "room"), .str (Str.ofString "room") ks3, .int 5 kr⟩, ⟨PyData.keyHash w.params (Str.ofString "limits"), .str (Str.ofString "limits") ks4, .ref lm⟩, ⟨PyData.keyHash w.params (Str.ofString "works"), .str (Str.ofString "works") ks5, .ref wk⟩, ⟨PyData.keyHash w.params (Str.ofString "pc"), .str (Str.ofString "pc") ks6, .int pc tp⟩, ⟨PyData.keyHash w.params (Str.ofString "top"), .str (Str.ofString "top") ks7, .int 5 kt⟩, ⟨PyData.keyHash w.params (Str.ofString "result"), .str (Str.ofString "result") ks8, .none⟩] 9) :: (ls, listOf [.int ra tra, .int rb trb, .int rc trc, .int rd trd, .int re tre, .none, .none, .none, .none, .none, .none, .none, .none, .none, .none, .none, .none].toArray ns) :: rest)) (T : Top p loose mean mg mb h₀) (hdp : dp + 60 < recursionLimit) (hun : un + 600 < cLine)
    (hoff : OwnOff rest [dsp, ls]) (hne : dsp ≠ ls) (hsp : (sp, instObj 508 dsp) ∈ rest) (hlk : (lk, listOf [.int 0 z0, .int 2 z1, .int 10 z2].toArray nk) ∈ rest) (hlm : (lm, instObj 95 dlm) ∈ rest) (hdlm : (dlm, dictOf [⟨PyData.keyHash w.params (Str.ofString "width"), .str (Str.ofString "width") ka0, .int 16 kb0⟩, ⟨PyData.keyHash w.params (Str.ofString "registers"), .str (Str.ofString "registers") ka1, .int 250 kb1⟩, ⟨PyData.keyHash w.params (Str.ofString "upvalues"), .str (Str.ofString "upvalues") ka2, .int 60 kb2⟩, ⟨PyData.keyHash w.params (Str.ofString "local_names"), .str (Str.ofString "local_names") ka3, .int 200 kb3⟩, ⟨PyData.keyHash w.params (Str.ofString "ccalls"), .str (Str.ofString "ccalls") ka4, .int 40 kb4⟩, ⟨PyData.keyHash w.params (Str.ofString "frames"), .str (Str.ofString "frames") ka5, .int 200 kb5⟩, ⟨PyData.keyHash w.params (Str.ofString "stack"), .str (Str.ofString "stack") ka6, .int 2000 kb6⟩, ⟨PyData.keyHash w.params (Str.ofString "flush"), .str (Str.ofString "flush") ka7, .int 50 kb7⟩, ⟨PyData.keyHash w.params (Str.ofString "steps"), .str (Str.ofString "steps") ka8, .int 1000000000 kb8⟩, ⟨PyData.keyHash w.params (Str.ofString "text"), .str (Str.ofString "text") ka9, .int 1000000 kb9⟩] 10) ∈ rest) (hpre : 0 < rb ∧ -65536 < ra ∧ ra < 65536 ∧ rb < 65536)
    (hret : ∀ (v : Int) (tv : Tok) (h' : Heap) (tk' : Nat), v = wrp (ra % rb) → Fr h₀ L h' m → News h₀ L h' ((dsp, dictOf [⟨PyData.keyHash w.params (Str.ofString "code"), .str (Str.ofString "code") ks0, .ref lc⟩, ⟨PyData.keyHash w.params (Str.ofString "constants"), .str (Str.ofString "constants") ks1, .ref lk⟩, ⟨PyData.keyHash w.params (Str.ofString "stack"), .str (Str.ofString "stack") ks2, .ref ls⟩, ⟨PyData.keyHash w.params (Str.ofString "room"), .str (Str.ofString "room") ks3, .int 5 kr⟩, ⟨PyData.keyHash w.params (Str.ofString "limits"), .str (Str.ofString "limits") ks4, .ref lm⟩, ⟨PyData.keyHash w.params (Str.ofString "works"), .str (Str.ofString "works") ks5, .ref wk⟩, ⟨PyData.keyHash w.params (Str.ofString "pc"), .str (Str.ofString "pc") ks6, .int pc tp⟩, ⟨PyData.keyHash w.params (Str.ofString "top"), .str (Str.ofString "top") ks7, .int 5 kt⟩, ⟨PyData.keyHash w.params (Str.ofString "result"), .str (Str.ofString "result") ks8, .none⟩] 9) :: (ls, listOf [.int ra tra, .int rb trb, .int v tv, .int rd trd, .int re tre, .none, .none, .none, .none, .none, .none, .none, .none, .none, .none, .none, .none].toArray ns) :: rest) → Q (.bool true) { s with heap := h', toks := tk' }) :
    wpAny (model PySem.Challenge.rw_tk0059_01.row.prog w) (ktrTop dp un gd cn (Scope.mk ScopeKind.function nms ig ic mo) L a ccd cl outer) (call (.ref 463) [.ref sp, .int 16 t0, .int 16528 t1]) Q E s := by
  revert X; k_fill; intro X
  have hk : (Scope.mk ScopeKind.function nms ig ic mo).kind = ScopeKind.function := rfl
  have hMk := kstMark
  refine wpAny_call ?_
  k_dflt cell_enter
  k_steps
  all_goals first
    | (refine' hret _ _ _ _ ?e9 ?F9 ?N9; (case N9 => (rename News _ _ _ _ => nE; refine kst_newsOf nE ?_; ((repeat (refine sub_cons (by k_memK) ?_)); first | exact List.forall_mem_nil _ | (intro p hp; k_ownIn)))); (case F9 => (rename Fr _ _ _ _ => fE; exact fE)); (case e9 => assumption))
    | trace_state

theorem dr_1_2 {w : World} {p : Program} {loose : List Str} {mean : ExcName → Option Value} {mg mb : Str → Option Value} {dp un : Nat} {gd : Option (List Code)} {cn : Str} {nms : List (Str × NameKind)} {ig ic : Bool} {mo : List (Str × Const)} {a : Addr} {ccd : Value} {cl : List (Str × Addr)} {outer : List Env} {A₀ : Around} {base h₀ : Heap} {L : Addr} {m : Str → Option Value} {s : Shared} {Q E : Value → Shared → Prop} {sp dsp ls lc lk lm dlm wk : Addr} {ks0 ks1 ks2 ks3 ks4 ks5 ks6 ks7 ks8 kr kt tp z0 z1 z2 t0 t1 : Tok} {ka0 kb0 ka1 kb1 ka2 kb2 ka3 kb3 ka4 kb4 ka5 kb5 ka6 kb6 ka7 kb7 ka8 kb8 ka9 kb9 : Tok} {ra rb rc rd re pc : Int} {tra trb trc trd tre : Tok} {nk ns : Nat} {rest : List (Addr × Obj)}
    (B : Below A₀ base outer h₀) (F : Fr h₀ L s.heap m) (X : (hd.heap_1 w.params).In h₀) (N : News h₀ L s.heap ((dsp, dictOf [⟨PyData.keyHash w.params (Str.ofString "code"), .str (Str.ofString "code") ks0, .ref lc⟩, ⟨PyData.keyHash w.params (Str.ofString "constants"), .str (Str.ofString "constants") ks1, .ref lk⟩, ⟨PyData.keyHash w.params (Str.ofString "stack"), .str (Str.ofString "stack") ks2, .ref ls⟩, ⟨PyData.keyHash w.params (Str.ofString "room"), .str (Str.ofString "room") ks3, .int 5 kr⟩, ⟨PyData.keyHash w.params (Str.ofString "limits"), .str (Str.ofString "limits") ks4, .ref lm⟩, ⟨PyData.keyHash w.params (Str.ofString "works"), .str (Str.ofString "works") ks5, .ref wk⟩, ⟨PyData.keyHash w.params (Str.ofString "pc"), .str (Str.ofString "pc") ks6, .int pc tp⟩, ⟨PyData.keyHash w.params (Str.ofString "top"), .str (Str.ofString "top") ks7, .int 5 kt⟩, ⟨PyData.keyHash w.params (Str.ofString "result"), .str (Str.ofString "result") ks8, .none⟩] 9) :: (ls, listOf [.int ra tra, .int rb trb, .int rc trc, .int rd trd, .int re tre, .none, .none, .none, .none, .none, .none, .none, .none, .none, .none, .none, .none].toArray ns) :: rest)) (T : Top p loose mean mg mb h₀) (hdp : dp + 60 < recursionLimit) (hun : un + 600 < cLine)
    (hoff : OwnOff rest [dsp, ls]) (hne : dsp ≠ ls) (hsp : (sp, instObj 508 dsp) ∈ rest) (hlk : (lk, listOf [.int 0 z0, .int 2 z1, .int 10 z2].toArray nk) ∈ rest) (hlm : (lm, instObj 95 dlm) ∈ rest) (hdlm : (dlm, dictOf [⟨PyData.keyHash w.params (Str.ofString "width"), .str (Str.ofString "width") ka0, .int 16 kb0⟩, ⟨PyData.keyHash w.params (Str.ofString "registers"), .str (Str.ofString "registers") ka1, .int 250 kb1⟩, ⟨PyData.keyHash w.params (Str.ofString "upvalues"), .str (Str.ofString "upvalues") ka2, .int 60 kb2⟩, ⟨PyData.keyHash w.params (Str.ofString "local_names"), .str (Str.ofString "local_names") ka3, .int 200 kb3⟩, ⟨PyData.keyHash w.params (Str.ofString "ccalls"), .str (Str.ofString "ccalls") ka4, .int 40 kb4⟩, ⟨PyData.keyHash w.params (Str.ofString "frames"), .str (Str.ofString "frames") ka5, .int 200 kb5⟩, ⟨PyData.keyHash w.params (Str.ofString "stack"), .str (Str.ofString "stack") ka6, .int 2000 kb6⟩, ⟨PyData.keyHash w.params (Str.ofString "flush"), .str (Str.ofString "flush") ka7, .int 50 kb7⟩, ⟨PyData.keyHash w.params (Str.ofString "steps"), .str (Str.ofString "steps") ka8, .int 1000000000 kb8⟩, ⟨PyData.keyHash w.params (Str.ofString "text"), .str (Str.ofString "text") ka9, .int 1000000 kb9⟩] 10) ∈ rest) (hpre : 0 < 2 ∧ -65536 < rb ∧ rb < 65536 ∧ 2 < 65536)
    (hret : ∀ (v : Int) (tv : Tok) (h' : Heap) (tk' : Nat), v = wrp (rb % 2) → Fr h₀ L h' m → News h₀ L h' ((dsp, dictOf [⟨PyData.keyHash w.params (Str.ofString "code"), .str (Str.ofString "code") ks0, .ref lc⟩, ⟨PyData.keyHash w.params (Str.ofString "constants"), .str (Str.ofString "constants") ks1, .ref lk⟩, ⟨PyData.keyHash w.params (Str.ofString "stack"), .str (Str.ofString "stack") ks2, .ref ls⟩, ⟨PyData.keyHash w.params (Str.ofString "room"), .str (Str.ofString "room") ks3, .int 5 kr⟩, ⟨PyData.keyHash w.params (Str.ofString "limits"), .str (Str.ofString "limits") ks4, .ref lm⟩, ⟨PyData.keyHash w.params (Str.ofString "works"), .str (Str.ofString "works") ks5, .ref wk⟩, ⟨PyData.keyHash w.params (Str.ofString "pc"), .str (Str.ofString "pc") ks6, .int pc tp⟩, ⟨PyData.keyHash w.params (Str.ofString "top"), .str (Str.ofString "top") ks7, .int 5 kt⟩, ⟨PyData.keyHash w.params (Str.ofString "result"), .str (Str.ofString "result") ks8, .none⟩] 9) :: (ls, listOf [.int ra tra, .int rb trb, .int rc trc, .int v tv, .int re tre, .none, .none, .none, .none, .none, .none, .none, .none, .none, .none, .none, .none].toArray ns) :: rest) → Q (.bool true) { s with heap := h', toks := tk' }) :
    wpAny (model PySem.Challenge.rw_tk0059_01.row.prog w) (ktrTop dp un gd cn (Scope.mk ScopeKind.function nms ig ic mo) L a ccd cl outer) (call (.ref 463) [.ref sp, .int 16 t0, .int 12599504 t1]) Q E s := by
  revert X; k_fill; intro X
  have hk : (Scope.mk ScopeKind.function nms ig ic mo).kind = ScopeKind.function := rfl
  have hMk := kstMark
  refine wpAny_call ?_
  k_dflt cell_enter
  k_steps
  all_goals first
    | (refine' hret _ _ _ _ ?e9 ?F9 ?N9; (case N9 => (rename News _ _ _ _ => nE; refine kst_newsOf nE ?_; ((repeat (refine sub_cons (by k_memK) ?_)); first | exact List.forall_mem_nil _ | (intro p hp; k_ownIn)))); (case F9 => (rename Fr _ _ _ _ => fE; exact fE)); (case e9 => assumption))
    | trace_state

theorem dr_1_5 {w : World} {p : Program} {loose : List Str} {mean : ExcName → Option Value} {mg mb : Str → Option Value} {dp un : Nat} {gd : Option (List Code)} {cn : Str} {nms : List (Str × NameKind)} {ig ic : Bool} {mo : List (Str × Const)} {a : Addr} {ccd : Value} {cl : List (Str × Addr)} {outer : List Env} {A₀ : Around} {base h₀ : Heap} {L : Addr} {m : Str → Option Value} {s : Shared} {Q E : Value → Shared → Prop} {sp dsp ls lc lk lm dlm wk : Addr} {ks0 ks1 ks2 ks3 ks4 ks5 ks6 ks7 ks8 kr kt tp z0 z1 z2 t0 t1 : Tok} {ka0 kb0 ka1 kb1 ka2 kb2 ka3 kb3 ka4 kb4 ka5 kb5 ka6 kb6 ka7 kb7 ka8 kb8 ka9 kb9 : Tok} {ra rb rc rd re pc : Int} {tra trb trc trd tre : Tok} {nk ns : Nat} {rest : List (Addr × Obj)}
    (B : Below A₀ base outer h₀) (F : Fr h₀ L s.heap m) (X : (hd.heap_1 w.params).In h₀) (N : News h₀ L s.heap ((dsp, dictOf [⟨PyData.keyHash w.params (Str.ofString "code"), .str (Str.ofString "code") ks0, .ref lc⟩, ⟨PyData.keyHash w.params (Str.ofString "constants"), .str (Str.ofString "constants") ks1, .ref lk⟩, ⟨PyData.keyHash w.params (Str.ofString "stack"), .str (Str.ofString "stack") ks2, .ref ls⟩, ⟨PyData.keyHash w.params (Str.ofString "room"), .str (Str.ofString "room") ks3, .int 5 kr⟩, ⟨PyData.keyHash w.params (Str.ofString "limits"), .str (Str.ofString "limits") ks4, .ref lm⟩, ⟨PyData.keyHash w.params (Str.ofString "works"), .str (Str.ofString "works") ks5, .ref wk⟩, ⟨PyData.keyHash w.params (Str.ofString "pc"), .str (Str.ofString "pc") ks6, .int pc tp⟩, ⟨PyData.keyHash w.params (Str.ofString "top"), .str (Str.ofString "top") ks7, .int 5 kt⟩, ⟨PyData.keyHash w.params (Str.ofString "result"), .str (Str.ofString "result") ks8, .none⟩] 9) :: (ls, listOf [.int ra tra, .int rb trb, .int rc trc, .int rd trd, .int re tre, .none, .none, .none, .none, .none, .none, .none, .none, .none, .none, .none, .none].toArray ns) :: rest)) (T : Top p loose mean mg mb h₀) (hdp : dp + 60 < recursionLimit) (hun : un + 600 < cLine)
    (hoff : OwnOff rest [dsp, ls]) (hne : dsp ≠ ls) (hsp : (sp, instObj 508 dsp) ∈ rest) (hlk : (lk, listOf [.int 0 z0, .int 2 z1, .int 10 z2].toArray nk) ∈ rest) (hlm : (lm, instObj 95 dlm) ∈ rest) (hdlm : (dlm, dictOf [⟨PyData.keyHash w.params (Str.ofString "width"), .str (Str.ofString "width") ka0, .int 16 kb0⟩, ⟨PyData.keyHash w.params (Str.ofString "registers"), .str (Str.ofString "registers") ka1, .int 250 kb1⟩, ⟨PyData.keyHash w.params (Str.ofString "upvalues"), .str (Str.ofString "upvalues") ka2, .int 60 kb2⟩, ⟨PyData.keyHash w.params (Str.ofString "local_names"), .str (Str.ofString "local_names") ka3, .int 200 kb3⟩, ⟨PyData.keyHash w.params (Str.ofString "ccalls"), .str (Str.ofString "ccalls") ka4, .int 40 kb4⟩, ⟨PyData.keyHash w.params (Str.ofString "frames"), .str (Str.ofString "frames") ka5, .int 200 kb5⟩, ⟨PyData.keyHash w.params (Str.ofString "stack"), .str (Str.ofString "stack") ka6, .int 2000 kb6⟩, ⟨PyData.keyHash w.params (Str.ofString "flush"), .str (Str.ofString "flush") ka7, .int 50 kb7⟩, ⟨PyData.keyHash w.params (Str.ofString "steps"), .str (Str.ofString "steps") ka8, .int 1000000000 kb8⟩, ⟨PyData.keyHash w.params (Str.ofString "text"), .str (Str.ofString "text") ka9, .int 1000000 kb9⟩] 10) ∈ rest) (hpre : -32768 ≤ rc ∧ rc < 32768 ∧ -32768 ≤ ra ∧ ra < 32768)
    (hret : ∀ (v : Int) (tv : Tok) (h' : Heap) (tk' : Nat), v = wrp (rc * ra) → Fr h₀ L h' m → News h₀ L h' ((dsp, dictOf [⟨PyData.keyHash w.params (Str.ofString "code"), .str (Str.ofString "code") ks0, .ref lc⟩, ⟨PyData.keyHash w.params (Str.ofString "constants"), .str (Str.ofString "constants") ks1, .ref lk⟩, ⟨PyData.keyHash w.params (Str.ofString "stack"), .str (Str.ofString "stack") ks2, .ref ls⟩, ⟨PyData.keyHash w.params (Str.ofString "room"), .str (Str.ofString "room") ks3, .int 5 kr⟩, ⟨PyData.keyHash w.params (Str.ofString "limits"), .str (Str.ofString "limits") ks4, .ref lm⟩, ⟨PyData.keyHash w.params (Str.ofString "works"), .str (Str.ofString "works") ks5, .ref wk⟩, ⟨PyData.keyHash w.params (Str.ofString "pc"), .str (Str.ofString "pc") ks6, .int pc tp⟩, ⟨PyData.keyHash w.params (Str.ofString "top"), .str (Str.ofString "top") ks7, .int 5 kt⟩, ⟨PyData.keyHash w.params (Str.ofString "result"), .str (Str.ofString "result") ks8, .none⟩] 9) :: (ls, listOf [.int ra tra, .int rb trb, .int v tv, .int rd trd, .int re tre, .none, .none, .none, .none, .none, .none, .none, .none, .none, .none, .none, .none].toArray ns) :: rest) → Q (.bool true) { s with heap := h', toks := tk' }) :
    wpAny (model PySem.Challenge.rw_tk0059_01.row.prog w) (ktrTop dp un gd cn (Scope.mk ScopeKind.function nms ig ic mo) L a ccd cl outer) (call (.ref 463) [.ref sp, .int 14 t0, .int 16777358 t1]) Q E s := by
  revert X; k_fill; intro X
  have hk : (Scope.mk ScopeKind.function nms ig ic mo).kind = ScopeKind.function := rfl
  have hMk := kstMark
  refine wpAny_call ?_
  k_dflt cell_enter
  k_steps
  all_goals first
    | (refine' hret _ _ _ _ ?e9 ?F9 ?N9; (case N9 => (rename News _ _ _ _ => nE; refine kst_newsOf nE ?_; ((repeat (refine sub_cons (by k_memK) ?_)); first | exact List.forall_mem_nil _ | (intro p hp; k_ownIn)))); (case F9 => (rename Fr _ _ _ _ => fE; exact fE)); (case e9 => assumption))
    | trace_state

theorem dr_1_6 {w : World} {p : Program} {loose : List Str} {mean : ExcName → Option Value} {mg mb : Str → Option Value} {dp un : Nat} {gd : Option (List Code)} {cn : Str} {nms : List (Str × NameKind)} {ig ic : Bool} {mo : List (Str × Const)} {a : Addr} {ccd : Value} {cl : List (Str × Addr)} {outer : List Env} {A₀ : Around} {base h₀ : Heap} {L : Addr} {m : Str → Option Value} {s : Shared} {Q E : Value → Shared → Prop} {sp dsp ls lc lk lm dlm wk : Addr} {ks0 ks1 ks2 ks3 ks4 ks5 ks6 ks7 ks8 kr kt tp z0 z1 z2 t0 t1 : Tok} {ka0 kb0 ka1 kb1 ka2 kb2 ka3 kb3 ka4 kb4 ka5 kb5 ka6 kb6 ka7 kb7 ka8 kb8 ka9 kb9 : Tok} {ra rb rc rd re pc : Int} {tra trb trc trd tre : Tok} {nk ns : Nat} {rest : List (Addr × Obj)}
    (B : Below A₀ base outer h₀) (F : Fr h₀ L s.heap m) (X : (hd.heap_1 w.params).In h₀) (N : News h₀ L s.heap ((dsp, dictOf [⟨PyData.keyHash w.params (Str.ofString "code"), .str (Str.ofString "code") ks0, .ref lc⟩, ⟨PyData.keyHash w.params (Str.ofString "constants"), .str (Str.ofString "constants") ks1, .ref lk⟩, ⟨PyData.keyHash w.params (Str.ofString "stack"), .str (Str.ofString "stack") ks2, .ref ls⟩, ⟨PyData.keyHash w.params (Str.ofString "room"), .str (Str.ofString "room") ks3, .int 5 kr⟩, ⟨PyData.keyHash w.params (Str.ofString "limits"), .str (Str.ofString "limits") ks4, .ref lm⟩, ⟨PyData.keyHash w.params (Str.ofString "works"), .str (Str.ofString "works") ks5, .ref wk⟩, ⟨PyData.keyHash w.params (Str.ofString "pc"), .str (Str.ofString "pc") ks6, .int pc tp⟩, ⟨PyData.keyHash w.params (Str.ofString "top"), .str (Str.ofString "top") ks7, .int 5 kt⟩, ⟨PyData.keyHash w.params (Str.ofString "result"), .str (Str.ofString "result") ks8, .none⟩] 9) :: (ls, listOf [.int ra tra, .int rb trb, .int rc trc, .int rd trd, .int re tre, .none, .none, .none, .none, .none, .none, .none, .none, .none, .none, .none, .none].toArray ns) :: rest)) (T : Top p loose mean mg mb h₀) (hdp : dp + 60 < recursionLimit) (hun : un + 600 < cLine)
    (hoff : OwnOff rest [dsp, ls]) (hne : dsp ≠ ls) (hsp : (sp, instObj 508 dsp) ∈ rest) (hlk : (lk, listOf [.int 0 z0, .int 2 z1, .int 10 z2].toArray nk) ∈ rest) (hlm : (lm, instObj 95 dlm) ∈ rest) (hdlm : (dlm, dictOf [⟨PyData.keyHash w.params (Str.ofString "width"), .str (Str.ofString "width") ka0, .int 16 kb0⟩, ⟨PyData.keyHash w.params (Str.ofString "registers"), .str (Str.ofString "registers") ka1, .int 250 kb1⟩, ⟨PyData.keyHash w.params (Str.ofString "upvalues"), .str (Str.ofString "upvalues") ka2, .int 60 kb2⟩, ⟨PyData.keyHash w.params (Str.ofString "local_names"), .str (Str.ofString "local_names") ka3, .int 200 kb3⟩, ⟨PyData.keyHash w.params (Str.ofString "ccalls"), .str (Str.ofString "ccalls") ka4, .int 40 kb4⟩, ⟨PyData.keyHash w.params (Str.ofString "frames"), .str (Str.ofString "frames") ka5, .int 200 kb5⟩, ⟨PyData.keyHash w.params (Str.ofString "stack"), .str (Str.ofString "stack") ka6, .int 2000 kb6⟩, ⟨PyData.keyHash w.params (Str.ofString "flush"), .str (Str.ofString "flush") ka7, .int 50 kb7⟩, ⟨PyData.keyHash w.params (Str.ofString "steps"), .str (Str.ofString "steps") ka8, .int 1000000000 kb8⟩, ⟨PyData.keyHash w.params (Str.ofString "text"), .str (Str.ofString "text") ka9, .int 1000000 kb9⟩] 10) ∈ rest) (hpre : -32768 ≤ ra ∧ ra < 32768 ∧ -32768 ≤ ra ∧ ra < 32768)
    (hret : ∀ (v : Int) (tv : Tok) (h' : Heap) (tk' : Nat), v = wrp (ra * ra) → Fr h₀ L h' m → News h₀ L h' ((dsp, dictOf [⟨PyData.keyHash w.params (Str.ofString "code"), .str (Str.ofString "code") ks0, .ref lc⟩, ⟨PyData.keyHash w.params (Str.ofString "constants"), .str (Str.ofString "constants") ks1, .ref lk⟩, ⟨PyData.keyHash w.params (Str.ofString "stack"), .str (Str.ofString "stack") ks2, .ref ls⟩, ⟨PyData.keyHash w.params (Str.ofString "room"), .str (Str.ofString "room") ks3, .int 5 kr⟩, ⟨PyData.keyHash w.params (Str.ofString "limits"), .str (Str.ofString "limits") ks4, .ref lm⟩, ⟨PyData.keyHash w.params (Str.ofString "works"), .str (Str.ofString "works") ks5, .ref wk⟩, ⟨PyData.keyHash w.params (Str.ofString "pc"), .str (Str.ofString "pc") ks6, .int pc tp⟩, ⟨PyData.keyHash w.params (Str.ofString "top"), .str (Str.ofString "top") ks7, .int 5 kt⟩, ⟨PyData.keyHash w.params (Str.ofString "result"), .str (Str.ofString "result") ks8, .none⟩] 9) :: (ls, listOf [.int v tv, .int rb trb, .int rc trc, .int rd trd, .int re tre, .none, .none, .none, .none, .none, .none, .none, .none, .none, .none, .none, .none].toArray ns) :: rest) → Q (.bool true) { s with heap := h', toks := tk' }) :
    wpAny (model PySem.Challenge.rw_tk0059_01.row.prog w) (ktrTop dp un gd cn (Scope.mk ScopeKind.function nms ig ic mo) L a ccd cl outer) (call (.ref 463) [.ref sp, .int 14 t0, .int 14 t1]) Q E s := by
  revert X; k_fill; intro X
  have hk : (Scope.mk ScopeKind.function nms ig ic mo).kind = ScopeKind.function := rfl
  have hMk := kstMark
  refine wpAny_call ?_
  k_dflt cell_enter
  k_steps
  all_goals first
    | (refine' hret _ _ _ _ ?e9 ?F9 ?N9; (case N9 => (rename News _ _ _ _ => nE; refine kst_newsOf nE ?_; ((repeat (refine sub_cons (by k_memK) ?_)); first | exact List.forall_mem_nil _ | (intro p hp; k_ownIn)))); (case F9 => (rename Fr _ _ _ _ => fE; exact fE)); (case e9 => assumption))
    | trace_state

theorem dr_1_7 {w : World} {p : Program} {loose : List Str} {mean : ExcName → Option Value} {mg mb : Str → Option Value} {dp un : Nat} {gd : Option (List Code)} {cn : Str} {nms : List (Str × NameKind)} {ig ic : Bool} {mo : List (Str × Const)} {a : Addr} {ccd : Value} {cl : List (Str × Addr)} {outer : List Env} {A₀ : Around} {base h₀ : Heap} {L : Addr} {m : Str → Option Value} {s : Shared} {Q E : Value → Shared → Prop} {sp dsp ls lc lk lm dlm wk : Addr} {ks0 ks1 ks2 ks3 ks4 ks5 ks6 ks7 ks8 kr kt tp z0 z1 z2 t0 t1 : Tok} {ka0 kb0 ka1 kb1 ka2 kb2 ka3 kb3 ka4 kb4 ka5 kb5 ka6 kb6 ka7 kb7 ka8 kb8 ka9 kb9 : Tok} {ra rb rc rd re pc : Int} {tra trb trc trd tre : Tok} {nk ns : Nat} {rest : List (Addr × Obj)}
    (B : Below A₀ base outer h₀) (F : Fr h₀ L s.heap m) (X : (hd.heap_1 w.params).In h₀) (N : News h₀ L s.heap ((dsp, dictOf [⟨PyData.keyHash w.params (Str.ofString "code"), .str (Str.ofString "code") ks0, .ref lc⟩, ⟨PyData.keyHash w.params (Str.ofString "constants"), .str (Str.ofString "constants") ks1, .ref lk⟩, ⟨PyData.keyHash w.params (Str.ofString "stack"), .str (Str.ofString "stack") ks2, .ref ls⟩, ⟨PyData.keyHash w.params (Str.ofString "room"), .str (Str.ofString "room") ks3, .int 5 kr⟩, ⟨PyData.keyHash w.params (Str.ofString "limits"), .str (Str.ofString "limits") ks4, .ref lm⟩, ⟨PyData.keyHash w.params (Str.ofString "works"), .str (Str.ofString "works") ks5, .ref wk⟩, ⟨PyData.keyHash w.params (Str.ofString "pc"), .str (Str.ofString "pc") ks6, .int pc tp⟩, ⟨PyData.keyHash w.params (Str.ofString "top"), .str (Str.ofString "top") ks7, .int 5 kt⟩, ⟨PyData.keyHash w.params (Str.ofString "result"), .str (Str.ofString "result") ks8, .none⟩] 9) :: (ls, listOf [.int ra tra, .int rb trb, .int rc trc, .int rd trd, .int re tre, .none, .none, .none, .none, .none, .none, .none, .none, .none, .none, .none, .none].toArray ns) :: rest)) (T : Top p loose mean mg mb h₀) (hdp : dp + 60 < recursionLimit) (hun : un + 600 < cLine)
    (hoff : OwnOff rest [dsp, ls]) (hne : dsp ≠ ls) (hsp : (sp, instObj 508 dsp) ∈ rest) (hlk : (lk, listOf [.int 0 z0, .int 2 z1, .int 10 z2].toArray nk) ∈ rest) (hlm : (lm, instObj 95 dlm) ∈ rest) (hdlm : (dlm, dictOf [⟨PyData.keyHash w.params (Str.ofString "width"), .str (Str.ofString "width") ka0, .int 16 kb0⟩, ⟨PyData.keyHash w.params (Str.ofString "registers"), .str (Str.ofString "registers") ka1, .int 250 kb1⟩, ⟨PyData.keyHash w.params (Str.ofString "upvalues"), .str (Str.ofString "upvalues") ka2, .int 60 kb2⟩, ⟨PyData.keyHash w.params (Str.ofString "local_names"), .str (Str.ofString "local_names") ka3, .int 200 kb3⟩, ⟨PyData.keyHash w.params (Str.ofString "ccalls"), .str (Str.ofString "ccalls") ka4, .int 40 kb4⟩, ⟨PyData.keyHash w.params (Str.ofString "frames"), .str (Str.ofString "frames") ka5, .int 200 kb5⟩, ⟨PyData.keyHash w.params (Str.ofString "stack"), .str (Str.ofString "stack") ka6, .int 2000 kb6⟩, ⟨PyData.keyHash w.params (Str.ofString "flush"), .str (Str.ofString "flush") ka7, .int 50 kb7⟩, ⟨PyData.keyHash w.params (Str.ofString "steps"), .str (Str.ofString "steps") ka8, .int 1000000000 kb8⟩, ⟨PyData.keyHash w.params (Str.ofString "text"), .str (Str.ofString "text") ka9, .int 1000000 kb9⟩] 10) ∈ rest) (hpre : 0 ≤ rb ∧ 0 < 2 ∧ rb < 65536 ∧ 2 < 65536)
    (hret : ∀ (v : Int) (tv : Tok) (h' : Heap) (tk' : Nat), v = wrp (rb / 2) → Fr h₀ L h' m → News h₀ L h' ((dsp, dictOf [⟨PyData.keyHash w.params (Str.ofString "code"), .str (Str.ofString "code") ks0, .ref lc⟩, ⟨PyData.keyHash w.params (Str.ofString "constants"), .str (Str.ofString "constants") ks1, .ref lk⟩, ⟨PyData.keyHash w.params (Str.ofString "stack"), .str (Str.ofString "stack") ks2, .ref ls⟩, ⟨PyData.keyHash w.params (Str.ofString "room"), .str (Str.ofString "room") ks3, .int 5 kr⟩, ⟨PyData.keyHash w.params (Str.ofString "limits"), .str (Str.ofString "limits") ks4, .ref lm⟩, ⟨PyData.keyHash w.params (Str.ofString "works"), .str (Str.ofString "works") ks5, .ref wk⟩, ⟨PyData.keyHash w.params (Str.ofString "pc"), .str (Str.ofString "pc") ks6, .int pc tp⟩, ⟨PyData.keyHash w.params (Str.ofString "top"), .str (Str.ofString "top") ks7, .int 5 kt⟩, ⟨PyData.keyHash w.params (Str.ofString "result"), .str (Str.ofString "result") ks8, .none⟩] 9) :: (ls, listOf [.int ra tra, .int v tv, .int rc trc, .int rd trd, .int re tre, .none, .none, .none, .none, .none, .none, .none, .none, .none, .none, .none, .none].toArray ns) :: rest) → Q (.bool true) { s with heap := h', toks := tk' }) :
    wpAny (model PySem.Challenge.rw_tk0059_01.row.prog w) (ktrTop dp un gd cn (Scope.mk ScopeKind.function nms ig ic mo) L a ccd cl outer) (call (.ref 463) [.ref sp, .int 15 t0, .int 12599375 t1]) Q E s := by
  revert X; k_fill; intro X
  have hk : (Scope.mk ScopeKind.function nms ig ic mo).kind = ScopeKind.function := rfl
  have hMk := kstMark
  refine wpAny_call ?_
  k_dflt cell_enter
  k_steps
  all_goals first
    | (refine' hret _ _ _ _ ?e9 ?F9 ?N9; (case N9 => (rename News _ _ _ _ => nE; refine kst_newsOf nE ?_; ((repeat (refine sub_cons (by k_memK) ?_)); first | exact List.forall_mem_nil _ | (intro p hp; k_ownIn)))); (case F9 => (rename Fr _ _ _ _ => fE; exact fE)); (case e9 => assumption))
    | trace_state

theorem dr_2_1 {w : World} {p : Program} {loose : List Str} {mean : ExcName → Option Value} {mg mb : Str → Option Value} {dp un : Nat} {gd : Option (List Code)} {cn : Str} {nms : List (Str × NameKind)} {ig ic : Bool} {mo : List (Str × Const)} {a : Addr} {ccd : Value} {cl : List (Str × Addr)} {outer : List Env} {A₀ : Around} {base h₀ : Heap} {L : Addr} {m : Str → Option Value} {s : Shared} {Q E : Value → Shared → Prop} {sp dsp ls lc lk lm dlm wk : Addr} {ks0 ks1 ks2 ks3 ks4 ks5 ks6 ks7 ks8 kr kt tp z0 z1 z2 t0 t1 : Tok} {ka0 kb0 ka1 kb1 ka2 kb2 ka3 kb3 ka4 kb4 ka5 kb5 ka6 kb6 ka7 kb7 ka8 kb8 ka9 kb9 : Tok} {ra rb rc rd re pc : Int} {tra trb trc trd tre : Tok} {nk ns : Nat} {rest : List (Addr × Obj)}
    (B : Below A₀ base outer h₀) (F : Fr h₀ L s.heap m) (X : (hd.heap_1 w.params).In h₀) (N : News h₀ L s.heap ((dsp, dictOf [⟨PyData.keyHash w.params (Str.ofString "code"), .str (Str.ofString "code") ks0, .ref lc⟩, ⟨PyData.keyHash w.params (Str.ofString "constants"), .str (Str.ofString "constants") ks1, .ref lk⟩, ⟨PyData.keyHash w.params (Str.ofString "stack"), .str (Str.ofString "stack") ks2, .ref ls⟩, ⟨PyData.keyHash w.params (Str.ofString "room"), .str (Str.ofString "room") ks3, .int 5 kr⟩, ⟨PyData.keyHash w.params (Str.ofString "limits"), .str (Str.ofString "limits") ks4, .ref lm⟩, ⟨PyData.keyHash w.params (Str.ofString "works"), .str (Str.ofString "works") ks5, .ref wk⟩, ⟨PyData.keyHash w.params (Str.ofString "pc"), .str (Str.ofString "pc") ks6, .int pc tp⟩, ⟨PyData.keyHash w.params (Str.ofString "top"), .str (Str.ofString "top") ks7, .int 5 kt⟩, ⟨PyData.keyHash w.params (Str.ofString "result"), .str (Str.ofString "result") ks8, .none⟩] 9) :: (ls, listOf [.int ra tra, .int rb trb, .int rc trc, .int rd trd, .int re tre, .none, .none, .none, .none, .none, .none, .none, .none, .none, .none, .none, .none].toArray ns) :: rest)) (T : Top p loose mean mg mb h₀) (hdp : dp + 60 < recursionLimit) (hun : un + 600 < cLine)
    (hoff : OwnOff rest [dsp, ls]) (hne : dsp ≠ ls) (hsp : (sp, instObj 508 dsp) ∈ rest) (hlk : (lk, listOf [.int 0 z0, .int 2 z1, .int 10 z2].toArray nk) ∈ rest) (hlm : (lm, instObj 95 dlm) ∈ rest) (hdlm : (dlm, dictOf [⟨PyData.keyHash w.params (Str.ofString "width"), .str (Str.ofString "width") ka0, .int 16 kb0⟩, ⟨PyData.keyHash w.params (Str.ofString "registers"), .str (Str.ofString "registers") ka1, .int 250 kb1⟩, ⟨PyData.keyHash w.params (Str.ofString "upvalues"), .str (Str.ofString "upvalues") ka2, .int 60 kb2⟩, ⟨PyData.keyHash w.params (Str.ofString "local_names"), .str (Str.ofString "local_names") ka3, .int 200 kb3⟩, ⟨PyData.keyHash w.params (Str.ofString "ccalls"), .str (Str.ofString "ccalls") ka4, .int 40 kb4⟩, ⟨PyData.keyHash w.params (Str.ofString "frames"), .str (Str.ofString "frames") ka5, .int 200 kb5⟩, ⟨PyData.keyHash w.params (Str.ofString "stack"), .str (Str.ofString "stack") ka6, .int 2000 kb6⟩, ⟨PyData.keyHash w.params (Str.ofString "flush"), .str (Str.ofString "flush") ka7, .int 50 kb7⟩, ⟨PyData.keyHash w.params (Str.ofString "steps"), .str (Str.ofString "steps") ka8, .int 1000000000 kb8⟩, ⟨PyData.keyHash w.params (Str.ofString "text"), .str (Str.ofString "text") ka9, .int 1000000 kb9⟩] 10) ∈ rest) (hpre : -70000 < ra ∧ ra < 70000 ∧ -70000 < re ∧ re < 70000)
    (hret : ∀ (v : Int) (tv : Tok) (h' : Heap) (tk' : Nat), v = wrp (ra + re) → Fr h₀ L h' m → News h₀ L h' ((dsp, dictOf [⟨PyData.keyHash w.params (Str.ofString "code"), .str (Str.ofString "code") ks0, .ref lc⟩, ⟨PyData.keyHash w.params (Str.ofString "constants"), .str (Str.ofString "constants") ks1, .ref lk⟩, ⟨PyData.keyHash w.params (Str.ofString "stack"), .str (Str.ofString "stack") ks2, .ref ls⟩, ⟨PyData.keyHash w.params (Str.ofString "room"), .str (Str.ofString "room") ks3, .int 5 kr⟩, ⟨PyData.keyHash w.params (Str.ofString "limits"), .str (Str.ofString "limits") ks4, .ref lm⟩, ⟨PyData.keyHash w.params (Str.ofString "works"), .str (Str.ofString "works") ks5, .ref wk⟩, ⟨PyData.keyHash w.params (Str.ofString "pc"), .str (Str.ofString "pc") ks6, .int pc tp⟩, ⟨PyData.keyHash w.params (Str.ofString "top"), .str (Str.ofString "top") ks7, .int 5 kt⟩, ⟨PyData.keyHash w.params (Str.ofString "result"), .str (Str.ofString "result") ks8, .none⟩] 9) :: (ls, listOf [.int v tv, .int rb trb, .int rc trc, .int rd trd, .int re tre, .none, .none, .none, .none, .none, .none, .none, .none, .none, .none, .none, .none].toArray ns) :: rest) → Q (.bool true) { s with heap := h', toks := tk' }) :
    wpAny (model PySem.Challenge.rw_tk0059_01.row.prog w) (ktrTop dp un gd cn (Scope.mk ScopeKind.function nms ig ic mo) L a ccd cl outer) (call (.ref 463) [.ref sp, .int 12 t0, .int 65548 t1]) Q E s := by
  revert X; k_fill; intro X
  have hk : (Scope.mk ScopeKind.function nms ig ic mo).kind = ScopeKind.function := rfl
  have hMk := kstMark
  refine wpAny_call ?_
  k_dflt cell_enter
  k_steps
  all_goals first
    | (refine' hret _ _ _ _ ?e9 ?F9 ?N9; (case N9 => (rename News _ _ _ _ => nE; refine kst_newsOf nE ?_; ((repeat (refine sub_cons (by k_memK) ?_)); first | exact List.forall_mem_nil _ | (intro p hp; k_ownIn)))); (case F9 => (rename Fr _ _ _ _ => fE; exact fE)); (case e9 => assumption))
    | trace_state

theorem dr_3_2 {w : World} {p : Program} {loose : List Str} {mean : ExcName → Option Value} {mg mb : Str → Option Value} {dp un : Nat} {gd : Option (List Code)} {cn : Str} {nms : List (Str × NameKind)} {ig ic : Bool} {mo : List (Str × Const)} {a : Addr} {ccd : Value} {cl : List (Str × Addr)} {outer : List Env} {A₀ : Around} {base h₀ : Heap} {L : Addr} {m : Str → Option Value} {s : Shared} {Q E : Value → Shared → Prop} {sp dsp ls lc lk lm dlm wk : Addr} {ks0 ks1 ks2 ks3 ks4 ks5 ks6 ks7 ks8 kr kt tp z0 z1 z2 t0 t1 : Tok} {ka0 kb0 ka1 kb1 ka2 kb2 ka3 kb3 ka4 kb4 ka5 kb5 ka6 kb6 ka7 kb7 ka8 kb8 ka9 kb9 : Tok} {ra rb rc rd re pc : Int} {tra trb trc trd tre : Tok} {nk ns : Nat} {rest : List (Addr × Obj)}
    (B : Below A₀ base outer h₀) (F : Fr h₀ L s.heap m) (X : (hd.heap_1 w.params).In h₀) (N : News h₀ L s.heap ((dsp, dictOf [⟨PyData.keyHash w.params (Str.ofString "code"), .str (Str.ofString "code") ks0, .ref lc⟩, ⟨PyData.keyHash w.params (Str.ofString "constants"), .str (Str.ofString "constants") ks1, .ref lk⟩, ⟨PyData.keyHash w.params (Str.ofString "stack"), .str (Str.ofString "stack") ks2, .ref ls⟩, ⟨PyData.keyHash w.params (Str.ofString "room"), .str (Str.ofString "room") ks3, .int 5 kr⟩, ⟨PyData.keyHash w.params (Str.ofString "limits"), .str (Str.ofString "limits") ks4, .ref lm⟩, ⟨PyData.keyHash w.params (Str.ofString "works"), .str (Str.ofString "works") ks5, .ref wk⟩, ⟨PyData.keyHash w.params (Str.ofString "pc"), .str (Str.ofString "pc") ks6, .int pc tp⟩, ⟨PyData.keyHash w.params (Str.ofString "top"), .str (Str.ofString "top") ks7, .int 5 kt⟩, ⟨PyData.keyHash w.params (Str.ofString "result"), .str (Str.ofString "result") ks8, .none⟩] 9) :: (ls, listOf [.int ra tra, .int rb trb, .int rc trc, .int rd trd, .int re tre, .none, .none, .none, .none, .none, .none, .none, .none, .none, .none, .none, .none].toArray ns) :: rest)) (T : Top p loose mean mg mb h₀) (hdp : dp + 60 < recursionLimit) (hun : un + 600 < cLine)
    (hoff : OwnOff rest [dsp, ls]) (hne : dsp ≠ ls) (hsp : (sp, instObj 508 dsp) ∈ rest) (hlk : (lk, listOf [.int 0 z0, .int 2 z1, .int 10 z2].toArray nk) ∈ rest) (hlm : (lm, instObj 95 dlm) ∈ rest) (hdlm : (dlm, dictOf [⟨PyData.keyHash w.params (Str.ofString "width"), .str (Str.ofString "width") ka0, .int 16 kb0⟩, ⟨PyData.keyHash w.params (Str.ofString "registers"), .str (Str.ofString "registers") ka1, .int 250 kb1⟩, ⟨PyData.keyHash w.params (Str.ofString "upvalues"), .str (Str.ofString "upvalues") ka2, .int 60 kb2⟩, ⟨PyData.keyHash w.params (Str.ofString "local_names"), .str (Str.ofString "local_names") ka3, .int 200 kb3⟩, ⟨PyData.keyHash w.params (Str.ofString "ccalls"), .str (Str.ofString "ccalls") ka4, .int 40 kb4⟩, ⟨PyData.keyHash w.params (Str.ofString "frames"), .str (Str.ofString "frames") ka5, .int 200 kb5⟩, ⟨PyData.keyHash w.params (Str.ofString "stack"), .str (Str.ofString "stack") ka6, .int 2000 kb6⟩, ⟨PyData.keyHash w.params (Str.ofString "flush"), .str (Str.ofString "flush") ka7, .int 50 kb7⟩, ⟨PyData.keyHash w.params (Str.ofString "steps"), .str (Str.ofString "steps") ka8, .int 1000000000 kb8⟩, ⟨PyData.keyHash w.params (Str.ofString "text"), .str (Str.ofString "text") ka9, .int 1000000 kb9⟩] 10) ∈ rest) (hpre : 0 < 10 ∧ -65536 < ra ∧ ra < 65536 ∧ 10 < 65536)
    (hret : ∀ (v : Int) (tv : Tok) (h' : Heap) (tk' : Nat), v = wrp (ra % 10) → Fr h₀ L h' m → News h₀ L h' ((dsp, dictOf [⟨PyData.keyHash w.params (Str.ofString "code"), .str (Str.ofString "code") ks0, .ref lc⟩, ⟨PyData.keyHash w.params (Str.ofString "constants"), .str (Str.ofString "constants") ks1, .ref lk⟩, ⟨PyData.keyHash w.params (Str.ofString "stack"), .str (Str.ofString "stack") ks2, .ref ls⟩, ⟨PyData.keyHash w.params (Str.ofString "room"), .str (Str.ofString "room") ks3, .int 5 kr⟩, ⟨PyData.keyHash w.params (Str.ofString "limits"), .str (Str.ofString "limits") ks4, .ref lm⟩, ⟨PyData.keyHash w.params (Str.ofString "works"), .str (Str.ofString "works") ks5, .ref wk⟩, ⟨PyData.keyHash w.params (Str.ofString "pc"), .str (Str.ofString "pc") ks6, .int pc tp⟩, ⟨PyData.keyHash w.params (Str.ofString "top"), .str (Str.ofString "top") ks7, .int 5 kt⟩, ⟨PyData.keyHash w.params (Str.ofString "result"), .str (Str.ofString "result") ks8, .none⟩] 9) :: (ls, listOf [.int ra tra, .int rb trb, .int v tv, .int rd trd, .int re tre, .none, .none, .none, .none, .none, .none, .none, .none, .none, .none, .none, .none].toArray ns) :: rest) → Q (.bool true) { s with heap := h', toks := tk' }) :
    wpAny (model PySem.Challenge.rw_tk0059_01.row.prog w) (ktrTop dp un gd cn (Scope.mk ScopeKind.function nms ig ic mo) L a ccd cl outer) (call (.ref 463) [.ref sp, .int 16 t0, .int 4227216 t1]) Q E s := by
  revert X; k_fill; intro X
  have hk : (Scope.mk ScopeKind.function nms ig ic mo).kind = ScopeKind.function := rfl
  have hMk := kstMark
  refine wpAny_call ?_
  k_dflt cell_enter
  k_steps
  all_goals first
    | (refine' hret _ _ _ _ ?e9 ?F9 ?N9; (case N9 => (rename News _ _ _ _ => nE; refine kst_newsOf nE ?_; ((repeat (refine sub_cons (by k_memK) ?_)); first | exact List.forall_mem_nil _ | (intro p hp; k_ownIn)))); (case F9 => (rename Fr _ _ _ _ => fE; exact fE)); (case e9 => assumption))
    | trace_state

theorem dr_3_3 {w : World} {p : Program} {loose : List Str} {mean : ExcName → Option Value} {mg mb : Str → Option Value} {dp un : Nat} {gd : Option (List Code)} {cn : Str} {nms : List (Str × NameKind)} {ig ic : Bool} {mo : List (Str × Const)} {a : Addr} {ccd : Value} {cl : List (Str × Addr)} {outer : List Env} {A₀ : Around} {base h₀ : Heap} {L : Addr} {m : Str → Option Value} {s : Shared} {Q E : Value → Shared → Prop} {sp dsp ls lc lk lm dlm wk : Addr} {ks0 ks1 ks2 ks3 ks4 ks5 ks6 ks7 ks8 kr kt tp z0 z1 z2 t0 t1 : Tok} {ka0 kb0 ka1 kb1 ka2 kb2 ka3 kb3 ka4 kb4 ka5 kb5 ka6 kb6 ka7 kb7 ka8 kb8 ka9 kb9 : Tok} {ra rb rc rd re pc : Int} {tra trb trc trd tre : Tok} {nk ns : Nat} {rest : List (Addr × Obj)}
    (B : Below A₀ base outer h₀) (F : Fr h₀ L s.heap m) (X : (hd.heap_1 w.params).In h₀) (N : News h₀ L s.heap ((dsp, dictOf [⟨PyData.keyHash w.params (Str.ofString "code"), .str (Str.ofString "code") ks0, .ref lc⟩, ⟨PyData.keyHash w.params (Str.ofString "constants"), .str (Str.ofString "constants") ks1, .ref lk⟩, ⟨PyData.keyHash w.params (Str.ofString "stack"), .str (Str.ofString "stack") ks2, .ref ls⟩, ⟨PyData.keyHash w.params (Str.ofString "room"), .str (Str.ofString "room") ks3, .int 5 kr⟩, ⟨PyData.keyHash w.params (Str.ofString "limits"), .str (Str.ofString "limits") ks4, .ref lm⟩, ⟨PyData.keyHash w.params (Str.ofString "works"), .str (Str.ofString "works") ks5, .ref wk⟩, ⟨PyData.keyHash w.params (Str.ofString "pc"), .str (Str.ofString "pc") ks6, .int pc tp⟩, ⟨PyData.keyHash w.params (Str.ofString "top"), .str (Str.ofString "top") ks7, .int 5 kt⟩, ⟨PyData.keyHash w.params (Str.ofString "result"), .str (Str.ofString "result") ks8, .none⟩] 9) :: (ls, listOf [.int ra tra, .int rb trb, .int rc trc, .int rd trd, .int re tre, .none, .none, .none, .none, .none, .none, .none, .none, .none, .none, .none, .none].toArray ns) :: rest)) (T : Top p loose mean mg mb h₀) (hdp : dp + 60 < recursionLimit) (hun : un + 600 < cLine)
    (hoff : OwnOff rest [dsp, ls]) (hne : dsp ≠ ls) (hsp : (sp, instObj 508 dsp) ∈ rest) (hlk : (lk, listOf [.int 0 z0, .int 2 z1, .int 10 z2].toArray nk) ∈ rest) (hlm : (lm, instObj 95 dlm) ∈ rest) (hdlm : (dlm, dictOf [⟨PyData.keyHash w.params (Str.ofString "width"), .str (Str.ofString "width") ka0, .int 16 kb0⟩, ⟨PyData.keyHash w.params (Str.ofString "registers"), .str (Str.ofString "registers") ka1, .int 250 kb1⟩, ⟨PyData.keyHash w.params (Str.ofString "upvalues"), .str (Str.ofString "upvalues") ka2, .int 60 kb2⟩, ⟨PyData.keyHash w.params (Str.ofString "local_names"), .str (Str.ofString "local_names") ka3, .int 200 kb3⟩, ⟨PyData.keyHash w.params (Str.ofString "ccalls"), .str (Str.ofString "ccalls") ka4, .int 40 kb4⟩, ⟨PyData.keyHash w.params (Str.ofString "frames"), .str (Str.ofString "frames") ka5, .int 200 kb5⟩, ⟨PyData.keyHash w.params (Str.ofString "stack"), .str (Str.ofString "stack") ka6, .int 2000 kb6⟩, ⟨PyData.keyHash w.params (Str.ofString "flush"), .str (Str.ofString "flush") ka7, .int 50 kb7⟩, ⟨PyData.keyHash w.params (Str.ofString "steps"), .str (Str.ofString "steps") ka8, .int 1000000000 kb8⟩, ⟨PyData.keyHash w.params (Str.ofString "text"), .str (Str.ofString "text") ka9, .int 1000000 kb9⟩] 10) ∈ rest) (hpre : -32768 ≤ rb ∧ rb < 32768 ∧ -32768 ≤ 10 ∧ 10 < 32768)
    (hret : ∀ (v : Int) (tv : Tok) (h' : Heap) (tk' : Nat), v = wrp (rb * 10) → Fr h₀ L h' m → News h₀ L h' ((dsp, dictOf [⟨PyData.keyHash w.params (Str.ofString "code"), .str (Str.ofString "code") ks0, .ref lc⟩, ⟨PyData.keyHash w.params (Str.ofString "constants"), .str (Str.ofString "constants") ks1, .ref lk⟩, ⟨PyData.keyHash w.params (Str.ofString "stack"), .str (Str.ofString "stack") ks2, .ref ls⟩, ⟨PyData.keyHash w.params (Str.ofString "room"), .str (Str.ofString "room") ks3, .int 5 kr⟩, ⟨PyData.keyHash w.params (Str.ofString "limits"), .str (Str.ofString "limits") ks4, .ref lm⟩, ⟨PyData.keyHash w.params (Str.ofString "works"), .str (Str.ofString "works") ks5, .ref wk⟩, ⟨PyData.keyHash w.params (Str.ofString "pc"), .str (Str.ofString "pc") ks6, .int pc tp⟩, ⟨PyData.keyHash w.params (Str.ofString "top"), .str (Str.ofString "top") ks7, .int 5 kt⟩, ⟨PyData.keyHash w.params (Str.ofString "result"), .str (Str.ofString "result") ks8, .none⟩] 9) :: (ls, listOf [.int ra tra, .int v tv, .int rc trc, .int rd trd, .int re tre, .none, .none, .none, .none, .none, .none, .none, .none, .none, .none, .none, .none].toArray ns) :: rest) → Q (.bool true) { s with heap := h', toks := tk' }) :
    wpAny (model PySem.Challenge.rw_tk0059_01.row.prog w) (ktrTop dp un gd cn (Scope.mk ScopeKind.function nms ig ic mo) L a ccd cl outer) (call (.ref 463) [.ref sp, .int 14 t0, .int 12615758 t1]) Q E s := by
  revert X; k_fill; intro X
  have hk : (Scope.mk ScopeKind.function nms ig ic mo).kind = ScopeKind.function := rfl
  have hMk := kstMark
  refine wpAny_call ?_
  k_dflt cell_enter
  k_steps
  all_goals first
    | (refine' hret _ _ _ _ ?e9 ?F9 ?N9; (case N9 => (rename News _ _ _ _ => nE; refine kst_newsOf nE ?_; ((repeat (refine sub_cons (by k_memK) ?_)); first | exact List.forall_mem_nil _ | (intro p hp; k_ownIn)))); (case F9 => (rename Fr _ _ _ _ => fE; exact fE)); (case e9 => assumption))
    | trace_state

theorem dr_3_4 {w : World} {p : Program} {loose : List Str} {mean : ExcName → Option Value} {mg mb : Str → Option Value} {dp un : Nat} {gd : Option (List Code)} {cn : Str} {nms : List (Str × NameKind)} {ig ic : Bool} {mo : List (Str × Const)} {a : Addr} {ccd : Value} {cl : List (Str × Addr)} {outer : List Env} {A₀ : Around} {base h₀ : Heap} {L : Addr} {m : Str → Option Value} {s : Shared} {Q E : Value → Shared → Prop} {sp dsp ls lc lk lm dlm wk : Addr} {ks0 ks1 ks2 ks3 ks4 ks5 ks6 ks7 ks8 kr kt tp z0 z1 z2 t0 t1 : Tok} {ka0 kb0 ka1 kb1 ka2 kb2 ka3 kb3 ka4 kb4 ka5 kb5 ka6 kb6 ka7 kb7 ka8 kb8 ka9 kb9 : Tok} {ra rb rc rd re pc : Int} {tra trb trc trd tre : Tok} {nk ns : Nat} {rest : List (Addr × Obj)}
    (B : Below A₀ base outer h₀) (F : Fr h₀ L s.heap m) (X : (hd.heap_1 w.params).In h₀) (N : News h₀ L s.heap ((dsp, dictOf [⟨PyData.keyHash w.params (Str.ofString "code"), .str (Str.ofString "code") ks0, .ref lc⟩, ⟨PyData.keyHash w.params (Str.ofString "constants"), .str (Str.ofString "constants") ks1, .ref lk⟩, ⟨PyData.keyHash w.params (Str.ofString "stack"), .str (Str.ofString "stack") ks2, .ref ls⟩, ⟨PyData.keyHash w.params (Str.ofString "room"), .str (Str.ofString "room") ks3, .int 5 kr⟩, ⟨PyData.keyHash w.params (Str.ofString "limits"), .str (Str.ofString "limits") ks4, .ref lm⟩, ⟨PyData.keyHash w.params (Str.ofString "works"), .str (Str.ofString "works") ks5, .ref wk⟩, ⟨PyData.keyHash w.params (Str.ofString "pc"), .str (Str.ofString "pc") ks6, .int pc tp⟩, ⟨PyData.keyHash w.params (Str.ofString "top"), .str (Str.ofString "top") ks7, .int 5 kt⟩, ⟨PyData.keyHash w.params (Str.ofString "result"), .str (Str.ofString "result") ks8, .none⟩] 9) :: (ls, listOf [.int ra tra, .int rb trb, .int rc trc, .int rd trd, .int re tre, .none, .none, .none, .none, .none, .none, .none, .none, .none, .none, .none, .none].toArray ns) :: rest)) (T : Top p loose mean mg mb h₀) (hdp : dp + 60 < recursionLimit) (hun : un + 600 < cLine)
    (hoff : OwnOff rest [dsp, ls]) (hne : dsp ≠ ls) (hsp : (sp, instObj 508 dsp) ∈ rest) (hlk : (lk, listOf [.int 0 z0, .int 2 z1, .int 10 z2].toArray nk) ∈ rest) (hlm : (lm, instObj 95 dlm) ∈ rest) (hdlm : (dlm, dictOf [⟨PyData.keyHash w.params (Str.ofString "width"), .str (Str.ofString "width") ka0, .int 16 kb0⟩, ⟨PyData.keyHash w.params (Str.ofString "registers"), .str (Str.ofString "registers") ka1, .int 250 kb1⟩, ⟨PyData.keyHash w.params (Str.ofString "upvalues"), .str (Str.ofString "upvalues") ka2, .int 60 kb2⟩, ⟨PyData.keyHash w.params (Str.ofString "local_names"), .str (Str.ofString "local_names") ka3, .int 200 kb3⟩, ⟨PyData.keyHash w.params (Str.ofString "ccalls"), .str (Str.ofString "ccalls") ka4, .int 40 kb4⟩, ⟨PyData.keyHash w.params (Str.ofString "frames"), .str (Str.ofString "frames") ka5, .int 200 kb5⟩, ⟨PyData.keyHash w.params (Str.ofString "stack"), .str (Str.ofString "stack") ka6, .int 2000 kb6⟩, ⟨PyData.keyHash w.params (Str.ofString "flush"), .str (Str.ofString "flush") ka7, .int 50 kb7⟩, ⟨PyData.keyHash w.params (Str.ofString "steps"), .str (Str.ofString "steps") ka8, .int 1000000000 kb8⟩, ⟨PyData.keyHash w.params (Str.ofString "text"), .str (Str.ofString "text") ka9, .int 1000000 kb9⟩] 10) ∈ rest) (hpre : -70000 < rb ∧ rb < 70000 ∧ -70000 < rc ∧ rc < 70000)
    (hret : ∀ (v : Int) (tv : Tok) (h' : Heap) (tk' : Nat), v = wrp (rb + rc) → Fr h₀ L h' m → News h₀ L h' ((dsp, dictOf [⟨PyData.keyHash w.params (Str.ofString "code"), .str (Str.ofString "code") ks0, .ref lc⟩, ⟨PyData.keyHash w.params (Str.ofString "constants"), .str (Str.ofString "constants") ks1, .ref lk⟩, ⟨PyData.keyHash w.params (Str.ofString "stack"), .str (Str.ofString "stack") ks2, .ref ls⟩, ⟨PyData.keyHash w.params (Str.ofString "room"), .str (Str.ofString "room") ks3, .int 5 kr⟩, ⟨PyData.keyHash w.params (Str.ofString "limits"), .str (Str.ofString "limits") ks4, .ref lm⟩, ⟨PyData.keyHash w.params (Str.ofString "works"), .str (Str.ofString "works") ks5, .ref wk⟩, ⟨PyData.keyHash w.params (Str.ofString "pc"), .str (Str.ofString "pc") ks6, .int pc tp⟩, ⟨PyData.keyHash w.params (Str.ofString "top"), .str (Str.ofString "top") ks7, .int 5 kt⟩, ⟨PyData.keyHash w.params (Str.ofString "result"), .str (Str.ofString "result") ks8, .none⟩] 9) :: (ls, listOf [.int ra tra, .int v tv, .int rc trc, .int rd trd, .int re tre, .none, .none, .none, .none, .none, .none, .none, .none, .none, .none, .none, .none].toArray ns) :: rest) → Q (.bool true) { s with heap := h', toks := tk' }) :
    wpAny (model PySem.Challenge.rw_tk0059_01.row.prog w) (ktrTop dp un gd cn (Scope.mk ScopeKind.function nms ig ic mo) L a ccd cl outer) (call (.ref 463) [.ref sp, .int 12 t0, .int 8421452 t1]) Q E s := by
  revert X; k_fill; intro X
  have hk : (Scope.mk ScopeKind.function nms ig ic mo).kind = ScopeKind.function := rfl
  have hMk := kstMark
  refine wpAny_call ?_
  k_dflt cell_enter
  k_steps
  all_goals first
    | (refine' hret _ _ _ _ ?e9 ?F9 ?N9; (case N9 => (rename News _ _ _ _ => nE; refine kst_newsOf nE ?_; ((repeat (refine sub_cons (by k_memK) ?_)); first | exact List.forall_mem_nil _ | (intro p hp; k_ownIn)))); (case F9 => (rename Fr _ _ _ _ => fE; exact fE)); (case e9 => assumption))
    | trace_state

theorem dr_3_5 {w : World} {p : Program} {loose : List Str} {mean : ExcName → Option Value} {mg mb : Str → Option Value} {dp un : Nat} {gd : Option (List Code)} {cn : Str} {nms : List (Str × NameKind)} {ig ic : Bool} {mo : List (Str × Const)} {a : Addr} {ccd : Value} {cl : List (Str × Addr)} {outer : List Env} {A₀ : Around} {base h₀ : Heap} {L : Addr} {m : Str → Option Value} {s : Shared} {Q E : Value → Shared → Prop} {sp dsp ls lc lk lm dlm wk : Addr} {ks0 ks1 ks2 ks3 ks4 ks5 ks6 ks7 ks8 kr kt tp z0 z1 z2 t0 t1 : Tok} {ka0 kb0 ka1 kb1 ka2 kb2 ka3 kb3 ka4 kb4 ka5 kb5 ka6 kb6 ka7 kb7 ka8 kb8 ka9 kb9 : Tok} {ra rb rc rd re pc : Int} {tra trb trc trd tre : Tok} {nk ns : Nat} {rest : List (Addr × Obj)}
    (B : Below A₀ base outer h₀) (F : Fr h₀ L s.heap m) (X : (hd.heap_1 w.params).In h₀) (N : News h₀ L s.heap ((dsp, dictOf [⟨PyData.keyHash w.params (Str.ofString "code"), .str (Str.ofString "code") ks0, .ref lc⟩, ⟨PyData.keyHash w.params (Str.ofString "constants"), .str (Str.ofString "constants") ks1, .ref lk⟩, ⟨PyData.keyHash w.params (Str.ofString "stack"), .str (Str.ofString "stack") ks2, .ref ls⟩, ⟨PyData.keyHash w.params (Str.ofString "room"), .str (Str.ofString "room") ks3, .int 5 kr⟩, ⟨PyData.keyHash w.params (Str.ofString "limits"), .str (Str.ofString "limits") ks4, .ref lm⟩, ⟨PyData.keyHash w.params (Str.ofString "works"), .str (Str.ofString "works") ks5, .ref wk⟩, ⟨PyData.keyHash w.params (Str.ofString "pc"), .str (Str.ofString "pc") ks6, .int pc tp⟩, ⟨PyData.keyHash w.params (Str.ofString "top"), .str (Str.ofString "top") ks7, .int 5 kt⟩, ⟨PyData.keyHash w.params (Str.ofString "result"), .str (Str.ofString "result") ks8, .none⟩] 9) :: (ls, listOf [.int ra tra, .int rb trb, .int rc trc, .int rd trd, .int re tre, .none, .none, .none, .none, .none, .none, .none, .none, .none, .none, .none, .none].toArray ns) :: rest)) (T : Top p loose mean mg mb h₀) (hdp : dp + 60 < recursionLimit) (hun : un + 600 < cLine)
    (hoff : OwnOff rest [dsp, ls]) (hne : dsp ≠ ls) (hsp : (sp, instObj 508 dsp) ∈ rest) (hlk : (lk, listOf [.int 0 z0, .int 2 z1, .int 10 z2].toArray nk) ∈ rest) (hlm : (lm, instObj 95 dlm) ∈ rest) (hdlm : (dlm, dictOf [⟨PyData.keyHash w.params (Str.ofString "width"), .str (Str.ofString "width") ka0, .int 16 kb0⟩, ⟨PyData.keyHash w.params (Str.ofString "registers"), .str (Str.ofString "registers") ka1, .int 250 kb1⟩, ⟨PyData.keyHash w.params (Str.ofString "upvalues"), .str (Str.ofString "upvalues") ka2, .int 60 kb2⟩, ⟨PyData.keyHash w.params (Str.ofString "local_names"), .str (Str.ofString "local_names") ka3, .int 200 kb3⟩, ⟨PyData.keyHash w.params (Str.ofString "ccalls"), .str (Str.ofString "ccalls") ka4, .int 40 kb4⟩, ⟨PyData.keyHash w.params (Str.ofString "frames"), .str (Str.ofString "frames") ka5, .int 200 kb5⟩, ⟨PyData.keyHash w.params (Str.ofString "stack"), .str (Str.ofString "stack") ka6, .int 2000 kb6⟩, ⟨PyData.keyHash w.params (Str.ofString "flush"), .str (Str.ofString "flush") ka7, .int 50 kb7⟩, ⟨PyData.keyHash w.params (Str.ofString "steps"), .str (Str.ofString "steps") ka8, .int 1000000000 kb8⟩, ⟨PyData.keyHash w.params (Str.ofString "text"), .str (Str.ofString "text") ka9, .int 1000000 kb9⟩] 10) ∈ rest) (hpre : 0 ≤ ra ∧ 0 < 10 ∧ ra < 65536 ∧ 10 < 65536)
    (hret : ∀ (v : Int) (tv : Tok) (h' : Heap) (tk' : Nat), v = wrp (ra / 10) → Fr h₀ L h' m → News h₀ L h' ((dsp, dictOf [⟨PyData.keyHash w.params (Str.ofString "code"), .str (Str.ofString "code") ks0, .ref lc⟩, ⟨PyData.keyHash w.params (Str.ofString "constants"), .str (Str.ofString "constants") ks1, .ref lk⟩, ⟨PyData.keyHash w.params (Str.ofString "stack"), .str (Str.ofString "stack") ks2, .ref ls⟩, ⟨PyData.keyHash w.params (Str.ofString "room"), .str (Str.ofString "room") ks3, .int 5 kr⟩, ⟨PyData.keyHash w.params (Str.ofString "limits"), .str (Str.ofString "limits") ks4, .ref lm⟩, ⟨PyData.keyHash w.params (Str.ofString "works"), .str (Str.ofString "works") ks5, .ref wk⟩, ⟨PyData.keyHash w.params (Str.ofString "pc"), .str (Str.ofString "pc") ks6, .int pc tp⟩, ⟨PyData.keyHash w.params (Str.ofString "top"), .str (Str.ofString "top") ks7, .int 5 kt⟩, ⟨PyData.keyHash w.params (Str.ofString "result"), .str (Str.ofString "result") ks8, .none⟩] 9) :: (ls, listOf [.int v tv, .int rb trb, .int rc trc, .int rd trd, .int re tre, .none, .none, .none, .none, .none, .none, .none, .none, .none, .none, .none, .none].toArray ns) :: rest) → Q (.bool true) { s with heap := h', toks := tk' }) :
    wpAny (model PySem.Challenge.rw_tk0059_01.row.prog w) (ktrTop dp un gd cn (Scope.mk ScopeKind.function nms ig ic mo) L a ccd cl outer) (call (.ref 463) [.ref sp, .int 15 t0, .int 4227087 t1]) Q E s := by
  revert X; k_fill; intro X
  have hk : (Scope.mk ScopeKind.function nms ig ic mo).kind = ScopeKind.function := rfl
  have hMk := kstMark
  refine wpAny_call ?_
  k_dflt cell_enter
  k_steps
  all_goals first
    | (refine' hret _ _ _ _ ?e9 ?F9 ?N9; (case N9 => (rename News _ _ _ _ => nE; refine kst_newsOf nE ?_; ((repeat (refine sub_cons (by k_memK) ?_)); first | exact List.forall_mem_nil _ | (intro p hp; k_ownIn)))); (case F9 => (rename Fr _ _ _ _ => fE; exact fE)); (case e9 => assumption))
    | trace_state
theorem w_I3_1 : True := by
  k_with_none
  trivial
theorem fnAt_code {h₀ h : Heap} {L q c : Addr} {of : Obj} {news : List (Addr × Obj)} (C : CodeOf of c) (N : News h₀ L h news) (hm : (q, of) ∈ news) : FnAt q h := by
  obtain ⟨fd, hd, _⟩ := C
  obtain ⟨oc, od, dt, sl⟩ := of
  dsimp only at hd
  subst hd
  exact ⟨oc, od, fd, sl, (N _ hm).1⟩
theorem w_I3_2 : True := by
  k_with "eval Call" => ((with_reducible show wpAny _ _ (eval (Expr.Call (Expr.Name _ _) _ [] _) _) _ _ _); k_dflt (refine Call_ ?_))
  k_with "callWith ref" => (k_here; (rename CodeOf _ _ => hCdo); k_dflt (refine' callWith_F ?k1 ?_; (case k1 => exact fnAt_code hCdo (by k_asm) (by k_mem)); k_whole))
  k_with "And" => ((with_reducible show FnAt _ _ ∧ _); (rename CodeOf _ _ => hCdo); refine ⟨fnAt_code hCdo (by k_asm) (by k_mem), ?_⟩; (try dsimp only [List.nil_append, List.cons_append]))
  k_with "subscriptTail" => (k_here; (with_reducible show wpAny _ _ (subscriptTail _ _ (Value.ref _) (Value.int _ _)) _ _ _); k_dflt (refine' my_item ?l ?a ?b ?d ?_; (case l => exact News.isList (by k_asm) (by k_mem)); (case a => first | assumption | omega | decide); (case b => first | assumption | omega | decide); (case d => first | rfl | assumption); k_whole))
  k_with "subscriptTail Name BinOp ref int" => (k_here; (with_reducible show wpAny _ _ (subscriptTail _ _ (Value.ref _) (Value.int _ _)) _ _ _); k_dflt (refine' my_item ?l ?a ?b ?d ?_; (case l => exact News.isList (by k_asm) (by k_mem)); (case a => first | assumption | omega | decide); (case b => first | assumption | omega | decide); (case d => first | rfl | assumption); k_whole))
  k_with "subscriptTail Name Name ref int" => (k_here; (with_reducible show wpAny _ _ (subscriptTail _ _ (Value.ref _) (Value.int _ _)) _ _ _); k_dflt (refine' my_item ?l ?a ?b ?d ?_; (case l => exact News.isList (by k_asm) (by k_mem)); (case a => first | assumption | omega | decide); (case b => first | assumption | omega | decide); (case d => first | rfl | assumption); k_whole))
  k_with "subscriptTail Attribute Name ref int" => (k_here; (with_reducible show wpAny _ _ (subscriptTail _ _ (Value.ref _) (Value.int _ _)) _ _ _); k_dflt (refine' my_item ?l ?a ?b ?d ?_; (case l => exact News.isList (by k_asm) (by k_mem)); (case a => first | assumption | omega | decide); (case b => first | assumption | omega | decide); (case d => first | rfl | assumption); k_whole))
  k_with "subscriptTail Name Call ref int" => (k_here; (with_reducible show wpAny _ _ (subscriptTail _ _ (Value.ref _) (Value.int _ _)) _ _ _); k_dflt (refine' my_item ?l ?a ?b ?d ?_; (case l => exact News.isList (by k_asm) (by k_mem)); (case a => first | assumption | omega | decide); (case b => first | assumption | omega | decide); (case d => first | rfl | assumption); k_whole))
  k_with "subscriptTail Attribute Call ref int" => (k_here; (with_reducible show wpAny _ _ (subscriptTail _ _ (Value.ref _) (Value.int _ _)) _ _ _); k_dflt (refine' my_item ?l ?a ?b ?d ?_; (case l => exact News.isList (by k_asm) (by k_mem)); (case a => first | assumption | omega | decide); (case b => first | assumption | omega | decide); (case d => first | rfl | assumption); k_whole))
  k_with "subscriptTail Attribute BinOp ref int" => (k_here; (with_reducible show wpAny _ _ (subscriptTail _ _ (Value.ref _) (Value.int _ _)) _ _ _); k_dflt (refine' my_item ?l ?a ?b ?d ?_; (case l => exact News.isList (by k_asm) (by k_mem)); (case a => first | assumption | omega | decide); (case b => first | assumption | omega | decide); (case d => first | rfl | assumption); k_whole))
  k_with "subscriptTail Name Constant ref int" => (k_here; (with_reducible show wpAny _ _ (subscriptTail _ _ (Value.ref _) (Value.int _ _)) _ _ _); k_dflt (refine' my_item ?l ?a ?b ?d ?_; (case l => exact News.isList (by k_asm) (by k_mem)); (case a => first | assumption | omega | decide); (case b => first | assumption | omega | decide); (case d => first | rfl | assumption); k_whole))
  k_with "subscriptTail Attribute IfExp ref int" => (k_here; (with_reducible show wpAny _ _ (subscriptTail _ _ (Value.ref _) (Value.int _ _)) _ _ _); k_dflt (refine' my_item ?l ?a ?b ?d ?_; (case l => exact News.isList (by k_asm) (by k_mem)); (case a => first | assumption | omega | decide); (case b => first | assumption | omega | decide); (case d => first | rfl | assumption); k_whole))
  k_with "subscriptTail Name Subscript ref int" => (k_here; (with_reducible show wpAny _ _ (subscriptTail _ _ (Value.ref _) (Value.int _ _)) _ _ _); k_dflt (refine' my_item ?l ?a ?b ?d ?_; (case l => exact News.isList (by k_asm) (by k_mem)); (case a => first | assumption | omega | decide); (case b => first | assumption | omega | decide); (case d => first | rfl | assumption); k_whole))
  k_with "call ref" => (k_here; (with_reducible show wpAny _ _ (call (Value.ref 28) [Value.int _ _]) _ _ _); k_dflt (refine' op_of_ok ?B ?F ?X ?N ?T ?hdp ?hun ?e ?h0 ?h1 ?_; (case B => k_asm); (case F => k_asm); (case X => k_asm); (case N => k_asm); (case T => k_asm); (case hdp => ktr_room); (case hun => ktr_units); (case e => assumption); (case h0 => first | decide | assumption | omega); (case h1 => first | decide | assumption | omega); k_whole); intro t9 h9 tk9 F9 N9; (try dsimp only); (try k_sweep); (try k_fold))
  k_with "call ref" => (k_here; (with_reducible show wpAny _ _ (call (Value.ref 35) [Value.int _ _]) _ _ _); k_dflt (refine' a_of_ok ?B ?F ?X ?N ?T ?hdp ?hun ?e ?h0 ?h1 ?_; (case B => k_asm); (case F => k_asm); (case X => k_asm); (case N => k_asm); (case T => k_asm); (case hdp => ktr_room); (case hun => ktr_units); (case e => assumption); (case h0 => first | decide | assumption | omega); (case h1 => first | decide | assumption | omega); k_whole); intro t9 h9 tk9 F9 N9; (try dsimp only); (try k_sweep); (try k_fold))
  k_with "call ref" => (k_here; (with_reducible show wpAny _ _ (call (Value.ref 42) [Value.int _ _]) _ _ _); k_dflt (refine' b_of_ok ?B ?F ?X ?N ?T ?hdp ?hun ?e ?h0 ?h1 ?_; (case B => k_asm); (case F => k_asm); (case X => k_asm); (case N => k_asm); (case T => k_asm); (case hdp => ktr_room); (case hun => ktr_units); (case e => assumption); (case h0 => first | decide | assumption | omega); (case h1 => first | decide | assumption | omega); k_whole); intro t9 h9 tk9 F9 N9; (try dsimp only); (try k_sweep); (try k_fold))
  k_with "call ref" => (k_here; (with_reducible show wpAny _ _ (call (Value.ref 49) [Value.int _ _]) _ _ _); k_dflt (refine' c_of_ok ?B ?F ?X ?N ?T ?hdp ?hun ?e ?h0 ?h1 ?_; (case B => k_asm); (case F => k_asm); (case X => k_asm); (case N => k_asm); (case T => k_asm); (case hdp => ktr_room); (case hun => ktr_units); (case e => assumption); (case h0 => first | decide | assumption | omega); (case h1 => first | decide | assumption | omega); k_whole); intro t9 h9 tk9 F9 N9; (try dsimp only); (try k_sweep); (try k_fold))
  k_with "call ref" => (k_here; (with_reducible show wpAny _ _ (call (Value.ref 63) [Value.int _ _]) _ _ _); k_dflt (refine' jump_of_ok ?B ?F ?X ?N ?T ?hdp ?hun ?e ?h0 ?h1 ?_; (case B => k_asm); (case F => k_asm); (case X => k_asm); (case N => k_asm); (case T => k_asm); (case hdp => ktr_room); (case hun => ktr_units); (case e => assumption); (case h0 => first | decide | assumption | omega); (case h1 => first | decide | assumption | omega); k_whole); intro t9 h9 tk9 F9 N9; (try dsimp only); (try k_sweep); (try k_fold))
  k_with "call ref" => (k_here; (with_reducible show wpAny _ _ (call (Value.ref 317) [Value.int _ _, Value.ref _, Value.int _ _, Value.ref _]) _ _ _); k_dflt (refine' two_ok ?B ?F ?X ?N ?T ?hdp ?hun ?hls ?hlk ?hi0 ?hi1 ?eb ?ec ?hv ?hu ?_; (case B => k_asm); (case F => k_asm); (case X => k_asm); (case N => k_asm); (case T => k_asm); (case hdp => ktr_room); (case hun => ktr_units); (case hls => k_mem); (case hlk => k_mem); (case hi0 => assumption); (case hi1 => assumption); (case eb => assumption); (case ec => assumption); (case hv => assumption); (case hu => assumption); k_whole); intro q9 h9 tk9 l9 F9 N9; (try k_lt l9); (try dsimp only); (try k_sweep); (try k_fold))
  k_with "call ref" => (k_here; (with_reducible show wpAny _ _ (call (Value.ref _) [Value.int 23 _, Value.int _ _, Value.int _ _]) _ _ _); (rename CmpTells _ _ _ _ _ _ _ _ _ _ => hCmp); k_dflt (refine' hCmp _ _ _ _ _ _ _ _ _ _ _ _ _ _ _ _ _ _ _ _ _ _ _ _ _ _ ?B ?F ?X ?N ?T ?m1 ?m2 ?hdp ?hun ?_; (case B => k_asm); (case F => k_asm); (case X => k_asm); (case N => k_asm); (case T => k_asm); (case m1 => k_mem); (case m2 => k_mem); (case hdp => ktr_room); (case hun => ktr_units); k_whole); intro h9 tk9 F9 N9; (try dsimp only); (try k_sweep); (try k_fold))
  trivial
theorem dj_eq {w : World} {p : Program} {loose : List Str} {mean : ExcName → Option Value} {mg mb : Str → Option Value} {dp un : Nat} {gd : Option (List Code)} {cn : Str} {nms : List (Str × NameKind)} {ig ic : Bool} {mo : List (Str × Const)} {a : Addr} {ccd : Value} {cl : List (Str × Addr)} {outer : List Env} {A₀ : Around} {base h₀ : Heap} {L : Addr} {m : Str → Option Value} {s : Shared} {Q E : Value → Shared → Prop} {sp dsp ls lc lk lm wk dwk f0 f1 f2 f3 f4 f5 c4 : Addr} {of oc : Obj} {ks0 ks1 ks2 ks3 ks4 ks5 ks6 ks7 ks8 kr kt tp z0 z1 z2 t0 t1 : Tok} {kw0 kw1 kw2 kw3 kw4 kw5 : Tok} {pc i : Int} {vs cs : List Value} {nc nk ns : Nat} {rest : List (Addr × Obj)} {xb xc x dj j pc' : Int} {tx tz tj : Tok}
    (B : Below A₀ base outer h₀) (F : Fr h₀ L s.heap m) (X : (hd.heap_1 w.params).In h₀) (N : News h₀ L s.heap ((dsp, dictOf [⟨PyData.keyHash w.params (Str.ofString "code"), .str (Str.ofString "code") ks0, .ref lc⟩, ⟨PyData.keyHash w.params (Str.ofString "constants"), .str (Str.ofString "constants") ks1, .ref lk⟩, ⟨PyData.keyHash w.params (Str.ofString "stack"), .str (Str.ofString "stack") ks2, .ref ls⟩, ⟨PyData.keyHash w.params (Str.ofString "room"), .str (Str.ofString "room") ks3, .int 5 kr⟩, ⟨PyData.keyHash w.params (Str.ofString "limits"), .str (Str.ofString "limits") ks4, .ref lm⟩, ⟨PyData.keyHash w.params (Str.ofString "works"), .str (Str.ofString "works") ks5, .ref wk⟩, ⟨PyData.keyHash w.params (Str.ofString "pc"), .str (Str.ofString "pc") ks6, .int pc tp⟩, ⟨PyData.keyHash w.params (Str.ofString "top"), .str (Str.ofString "top") ks7, .int 5 kt⟩, ⟨PyData.keyHash w.params (Str.ofString "result"), .str (Str.ofString "result") ks8, .none⟩] 9) :: (ls, listOf vs.toArray ns) :: rest)) (T : Top p loose mean mg mb h₀) (hdp : dp + 60 < recursionLimit) (hun : un + 600 < cLine)
    (hoff : OwnOff rest [dsp, ls]) (hne : dsp ≠ ls) (hsp : (sp, instObj 508 dsp) ∈ rest) (hlk : (lk, listOf [.int 0 z0, .int 2 z1, .int 10 z2].toArray nk) ∈ rest) (hwk : (wk, instObj 417 dwk) ∈ rest) (hdwk : (dwk, dictOf [⟨PyData.keyHash w.params (Str.ofString "new_table"), .str (Str.ofString "new_table") kw0, .ref f0⟩, ⟨PyData.keyHash w.params (Str.ofString "index"), .str (Str.ofString "index") kw1, .ref f1⟩, ⟨PyData.keyHash w.params (Str.ofString "put"), .str (Str.ofString "put") kw2, .ref f2⟩, ⟨PyData.keyHash w.params (Str.ofString "length"), .str (Str.ofString "length") kw3, .ref f3⟩, ⟨PyData.keyHash w.params (Str.ofString "compared"), .str (Str.ofString "compared") kw4, .ref f4⟩, ⟨PyData.keyHash w.params (Str.ofString "called"), .str (Str.ofString "called") kw5, .ref f5⟩] 6) ∈ rest) (hf4 : (f4, of) ∈ rest) (hc4 : (c4, oc) ∈ rest) (hlc : (lc, listOf cs.toArray nc) ∈ rest) (hcd : CodeOf of c4) (hcmp : CmpTells w p loose mean mg mb f4 c4 of oc) (hi0 : 0 ≤ i) (hi1 : i < 4294967296) (eb : i / 8388608 = xb) (ec : i / 16384 % 512 = xc) (ea : i / 64 % 256 = 1) (hv : OpV vs [.int 0 z0, .int 2 z1, .int 10 z2] xb (.int x tx)) (hu : OpV vs [.int 0 z0, .int 2 z1, .int 10 z2] xc (.int 0 tz)) (hpc0 : 0 ≤ pc) (hpc1 : pc < 2 ^ 63) (hj : cs[pc.toNat]? = some (.int j tj)) (hj0 : 0 ≤ j) (hj1 : j < 4294967296) (ej : j / 16384 - 131071 = dj)
    (hret : ∀ (pc' : Int) (tp' : Tok) (h' : Heap) (tk' : Nat), (x = 0 → pc' = pc + 1 + dj) → (x ≠ 0 → pc' = pc + 1) → Fr h₀ L h' m → News h₀ L h' ((dsp, dictOf [⟨PyData.keyHash w.params (Str.ofString "code"), .str (Str.ofString "code") ks0, .ref lc⟩, ⟨PyData.keyHash w.params (Str.ofString "constants"), .str (Str.ofString "constants") ks1, .ref lk⟩, ⟨PyData.keyHash w.params (Str.ofString "stack"), .str (Str.ofString "stack") ks2, .ref ls⟩, ⟨PyData.keyHash w.params (Str.ofString "room"), .str (Str.ofString "room") ks3, .int 5 kr⟩, ⟨PyData.keyHash w.params (Str.ofString "limits"), .str (Str.ofString "limits") ks4, .ref lm⟩, ⟨PyData.keyHash w.params (Str.ofString "works"), .str (Str.ofString "works") ks5, .ref wk⟩, ⟨PyData.keyHash w.params (Str.ofString "pc"), .str (Str.ofString "pc") ks6, .int pc' tp'⟩, ⟨PyData.keyHash w.params (Str.ofString "top"), .str (Str.ofString "top") ks7, .int 5 kt⟩, ⟨PyData.keyHash w.params (Str.ofString "result"), .str (Str.ofString "result") ks8, .none⟩] 9) :: (ls, listOf vs.toArray ns) :: rest) → Q (.bool true) { s with heap := h', toks := tk' }) :
    wpAny (model PySem.Challenge.rw_tk0059_01.row.prog w) (ktrTop dp un gd cn (Scope.mk ScopeKind.function nms ig ic mo) L a ccd cl outer) (call (.ref 477) [.ref sp, .int 23 t0, .int i t1]) Q E s := by
  revert X; k_fill; intro X
  have hk : (Scope.mk ScopeKind.function nms ig ic mo).kind = ScopeKind.function := rfl
  have hMk := kstMark
  refine wpAny_call ?_
  k_dflt cell_enter
  k_steps
  all_goals first
    | (refine' hret _ _ _ _ ?e8 ?e9 ?F9 ?N9; (case N9 => (rename News _ _ _ _ => nE; refine kst_newsOf nE ?_; ((repeat (refine sub_cons (by k_memK) ?_)); first | exact List.forall_mem_nil _ | (intro p hp; k_ownIn)))); (case F9 => (rename Fr _ _ _ _ => fE; exact fE)); (case e8 => (intro hx; first | rfl | (subst_vars; rfl) | (exfalso; simp_all; done))); (case e9 => (intro hx; first | rfl | (subst_vars; rfl) | (exfalso; simp_all; done))))
    | trace_state
theorem w_I4_1 : True := by
  k_with_none
  trivial
theorem w_I4_2 : True := by
  k_with "eval Call" => ((with_reducible show wpAny _ _ (eval (Expr.Call (Expr.Name _ _) _ [] _) _) _ _ _); k_dflt (refine Call_ ?_))
  k_with "subscriptTail" => (k_here; (with_reducible show wpAny _ _ (subscriptTail _ _ (Value.ref _) (Value.int _ _)) _ _ _); k_dflt (refine' my_item ?l ?a ?b ?d ?_; (case l => exact News.isList (by k_asm) (by k_mem)); (case a => first | assumption | omega | decide); (case b => first | assumption | omega | decide); (case d => first | rfl | assumption); k_whole))
  k_with "subscriptTail Name BinOp ref int" => (k_here; (with_reducible show wpAny _ _ (subscriptTail _ _ (Value.ref _) (Value.int _ _)) _ _ _); k_dflt (refine' my_item ?l ?a ?b ?d ?_; (case l => exact News.isList (by k_asm) (by k_mem)); (case a => first | assumption | omega | decide); (case b => first | assumption | omega | decide); (case d => first | rfl | assumption); k_whole))
  k_with "subscriptTail Name Name ref int" => (k_here; (with_reducible show wpAny _ _ (subscriptTail _ _ (Value.ref _) (Value.int _ _)) _ _ _); k_dflt (refine' my_item ?l ?a ?b ?d ?_; (case l => exact News.isList (by k_asm) (by k_mem)); (case a => first | assumption | omega | decide); (case b => first | assumption | omega | decide); (case d => first | rfl | assumption); k_whole))
  k_with "subscriptTail Attribute Name ref int" => (k_here; (with_reducible show wpAny _ _ (subscriptTail _ _ (Value.ref _) (Value.int _ _)) _ _ _); k_dflt (refine' my_item ?l ?a ?b ?d ?_; (case l => exact News.isList (by k_asm) (by k_mem)); (case a => first | assumption | omega | decide); (case b => first | assumption | omega | decide); (case d => first | rfl | assumption); k_whole))
  k_with "subscriptTail Name Call ref int" => (k_here; (with_reducible show wpAny _ _ (subscriptTail _ _ (Value.ref _) (Value.int _ _)) _ _ _); k_dflt (refine' my_item ?l ?a ?b ?d ?_; (case l => exact News.isList (by k_asm) (by k_mem)); (case a => first | assumption | omega | decide); (case b => first | assumption | omega | decide); (case d => first | rfl | assumption); k_whole))
  k_with "subscriptTail Attribute Call ref int" => (k_here; (with_reducible show wpAny _ _ (subscriptTail _ _ (Value.ref _) (Value.int _ _)) _ _ _); k_dflt (refine' my_item ?l ?a ?b ?d ?_; (case l => exact News.isList (by k_asm) (by k_mem)); (case a => first | assumption | omega | decide); (case b => first | assumption | omega | decide); (case d => first | rfl | assumption); k_whole))
  k_with "subscriptTail Attribute BinOp ref int" => (k_here; (with_reducible show wpAny _ _ (subscriptTail _ _ (Value.ref _) (Value.int _ _)) _ _ _); k_dflt (refine' my_item ?l ?a ?b ?d ?_; (case l => exact News.isList (by k_asm) (by k_mem)); (case a => first | assumption | omega | decide); (case b => first | assumption | omega | decide); (case d => first | rfl | assumption); k_whole))
  k_with "subscriptTail Name Constant ref int" => (k_here; (with_reducible show wpAny _ _ (subscriptTail _ _ (Value.ref _) (Value.int _ _)) _ _ _); k_dflt (refine' my_item ?l ?a ?b ?d ?_; (case l => exact News.isList (by k_asm) (by k_mem)); (case a => first | assumption | omega | decide); (case b => first | assumption | omega | decide); (case d => first | rfl | assumption); k_whole))
  k_with "subscriptTail Attribute IfExp ref int" => (k_here; (with_reducible show wpAny _ _ (subscriptTail _ _ (Value.ref _) (Value.int _ _)) _ _ _); k_dflt (refine' my_item ?l ?a ?b ?d ?_; (case l => exact News.isList (by k_asm) (by k_mem)); (case a => first | assumption | omega | decide); (case b => first | assumption | omega | decide); (case d => first | rfl | assumption); k_whole))
  k_with "subscriptTail Name Subscript ref int" => (k_here; (with_reducible show wpAny _ _ (subscriptTail _ _ (Value.ref _) (Value.int _ _)) _ _ _); k_dflt (refine' my_item ?l ?a ?b ?d ?_; (case l => exact News.isList (by k_asm) (by k_mem)); (case a => first | assumption | omega | decide); (case b => first | assumption | omega | decide); (case d => first | rfl | assumption); k_whole))
  k_with "call ref" => (k_here; (with_reducible show wpAny _ _ (call (Value.ref 28) [Value.int _ _]) _ _ _); k_dflt (refine' op_of_ok ?B ?F ?X ?N ?T ?hdp ?hun ?e ?h0 ?h1 ?_; (case B => k_asm); (case F => k_asm); (case X => k_asm); (case N => k_asm); (case T => k_asm); (case hdp => ktr_room); (case hun => ktr_units); (case e => assumption); (case h0 => first | decide | assumption | omega); (case h1 => first | decide | assumption | omega); k_whole); intro t9 h9 tk9 F9 N9; (try dsimp only); (try k_sweep); (try k_fold))
  k_with "call ref" => (k_here; (with_reducible show wpAny _ _ (call (Value.ref 35) [Value.int _ _]) _ _ _); k_dflt (refine' a_of_ok ?B ?F ?X ?N ?T ?hdp ?hun ?e ?h0 ?h1 ?_; (case B => k_asm); (case F => k_asm); (case X => k_asm); (case N => k_asm); (case T => k_asm); (case hdp => ktr_room); (case hun => ktr_units); (case e => assumption); (case h0 => first | decide | assumption | omega); (case h1 => first | decide | assumption | omega); k_whole); intro t9 h9 tk9 F9 N9; (try dsimp only); (try k_sweep); (try k_fold))
  k_with "call ref" => (k_here; (with_reducible show wpAny _ _ (call (Value.ref 42) [Value.int _ _]) _ _ _); k_dflt (refine' b_of_ok ?B ?F ?X ?N ?T ?hdp ?hun ?e ?h0 ?h1 ?_; (case B => k_asm); (case F => k_asm); (case X => k_asm); (case N => k_asm); (case T => k_asm); (case hdp => ktr_room); (case hun => ktr_units); (case e => assumption); (case h0 => first | decide | assumption | omega); (case h1 => first | decide | assumption | omega); k_whole); intro t9 h9 tk9 F9 N9; (try dsimp only); (try k_sweep); (try k_fold))
  k_with "call ref" => (k_here; (with_reducible show wpAny _ _ (call (Value.ref 49) [Value.int _ _]) _ _ _); k_dflt (refine' c_of_ok ?B ?F ?X ?N ?T ?hdp ?hun ?e ?h0 ?h1 ?_; (case B => k_asm); (case F => k_asm); (case X => k_asm); (case N => k_asm); (case T => k_asm); (case hdp => ktr_room); (case hun => ktr_units); (case e => assumption); (case h0 => first | decide | assumption | omega); (case h1 => first | decide | assumption | omega); k_whole); intro t9 h9 tk9 F9 N9; (try dsimp only); (try k_sweep); (try k_fold))
  k_with "call ref" => (k_here; (with_reducible show wpAny _ _ (call (Value.ref 63) [Value.int _ _]) _ _ _); k_dflt (refine' jump_of_ok ?B ?F ?X ?N ?T ?hdp ?hun ?e ?h0 ?h1 ?_; (case B => k_asm); (case F => k_asm); (case X => k_asm); (case N => k_asm); (case T => k_asm); (case hdp => ktr_room); (case hun => ktr_units); (case e => assumption); (case h0 => first | decide | assumption | omega); (case h1 => first | decide | assumption | omega); k_whole); intro t9 h9 tk9 F9 N9; (try dsimp only); (try k_sweep); (try k_fold))
  trivial
theorem dj_jump {w : World} {p : Program} {loose : List Str} {mean : ExcName → Option Value} {mg mb : Str → Option Value} {dp un : Nat} {gd : Option (List Code)} {cn : Str} {nms : List (Str × NameKind)} {ig ic : Bool} {mo : List (Str × Const)} {a : Addr} {ccd : Value} {cl : List (Str × Addr)} {outer : List Env} {A₀ : Around} {base h₀ : Heap} {L : Addr} {m : Str → Option Value} {s : Shared} {Q E : Value → Shared → Prop} {sp dsp ls lc lk lm wk : Addr} {ks0 ks1 ks2 ks3 ks4 ks5 ks6 ks7 ks8 kr kt tp t0 t1 : Tok} {pc i : Int} {vs : List Value} {ns : Nat} {rest : List (Addr × Obj)} {dj : Int}
    (B : Below A₀ base outer h₀) (F : Fr h₀ L s.heap m) (X : (hd.heap_1 w.params).In h₀) (N : News h₀ L s.heap ((dsp, dictOf [⟨PyData.keyHash w.params (Str.ofString "code"), .str (Str.ofString "code") ks0, .ref lc⟩, ⟨PyData.keyHash w.params (Str.ofString "constants"), .str (Str.ofString "constants") ks1, .ref lk⟩, ⟨PyData.keyHash w.params (Str.ofString "stack"), .str (Str.ofString "stack") ks2, .ref ls⟩, ⟨PyData.keyHash w.params (Str.ofString "room"), .str (Str.ofString "room") ks3, .int 5 kr⟩, ⟨PyData.keyHash w.params (Str.ofString "limits"), .str (Str.ofString "limits") ks4, .ref lm⟩, ⟨PyData.keyHash w.params (Str.ofString "works"), .str (Str.ofString "works") ks5, .ref wk⟩, ⟨PyData.keyHash w.params (Str.ofString "pc"), .str (Str.ofString "pc") ks6, .int pc tp⟩, ⟨PyData.keyHash w.params (Str.ofString "top"), .str (Str.ofString "top") ks7, .int 5 kt⟩, ⟨PyData.keyHash w.params (Str.ofString "result"), .str (Str.ofString "result") ks8, .none⟩] 9) :: (ls, listOf vs.toArray ns) :: rest)) (T : Top p loose mean mg mb h₀) (hdp : dp + 60 < recursionLimit) (hun : un + 600 < cLine)
    (hoff : OwnOff rest [dsp, ls]) (hne : dsp ≠ ls) (hsp : (sp, instObj 508 dsp) ∈ rest) (hi0 : 0 ≤ i) (hi1 : i < 4294967296) (ej : i / 16384 - 131071 = dj)
    (hret : ∀ (pc' : Int) (tp' : Tok) (h' : Heap) (tk' : Nat), pc' = pc + dj → Fr h₀ L h' m → News h₀ L h' ((dsp, dictOf [⟨PyData.keyHash w.params (Str.ofString "code"), .str (Str.ofString "code") ks0, .ref lc⟩, ⟨PyData.keyHash w.params (Str.ofString "constants"), .str (Str.ofString "constants") ks1, .ref lk⟩, ⟨PyData.keyHash w.params (Str.ofString "stack"), .str (Str.ofString "stack") ks2, .ref ls⟩, ⟨PyData.keyHash w.params (Str.ofString "room"), .str (Str.ofString "room") ks3, .int 5 kr⟩, ⟨PyData.keyHash w.params (Str.ofString "limits"), .str (Str.ofString "limits") ks4, .ref lm⟩, ⟨PyData.keyHash w.params (Str.ofString "works"), .str (Str.ofString "works") ks5, .ref wk⟩, ⟨PyData.keyHash w.params (Str.ofString "pc"), .str (Str.ofString "pc") ks6, .int pc' tp'⟩, ⟨PyData.keyHash w.params (Str.ofString "top"), .str (Str.ofString "top") ks7, .int 5 kt⟩, ⟨PyData.keyHash w.params (Str.ofString "result"), .str (Str.ofString "result") ks8, .none⟩] 9) :: (ls, listOf vs.toArray ns) :: rest) → Q (.bool true) { s with heap := h', toks := tk' }) :
    wpAny (model PySem.Challenge.rw_tk0059_01.row.prog w) (ktrTop dp un gd cn (Scope.mk ScopeKind.function nms ig ic mo) L a ccd cl outer) (call (.ref 477) [.ref sp, .int 22 t0, .int i t1]) Q E s := by
  revert X; k_fill; intro X
  have hk : (Scope.mk ScopeKind.function nms ig ic mo).kind = ScopeKind.function := rfl
  have hMk := kstMark
  refine wpAny_call ?_
  k_dflt cell_enter
  k_steps
  all_goals first
    | (refine' hret _ _ _ _ ?e9 ?F9 ?N9; (case N9 => (rename News _ _ _ _ => nE; refine kst_newsOf nE ?_; ((repeat (refine sub_cons (by k_memK) ?_)); first | exact List.forall_mem_nil _ | (intro p hp; k_ownIn)))); (case F9 => (rename Fr _ _ _ _ => fE; exact fE)); (case e9 => first | rfl | (subst_vars; rfl)))
    | trace_state
theorem w_I5_1 : True := by
  k_with_none
  trivial
theorem w_I5_2 : True := by
  k_with "eval Call" => ((with_reducible show wpAny _ _ (eval (Expr.Call (Expr.Name _ _) _ [] _) _) _ _ _); k_dflt (refine Call_ ?_))
  k_with "subscriptTail" => (k_here; (with_reducible show wpAny _ _ (subscriptTail _ _ (Value.ref _) (Value.int _ _)) _ _ _); k_dflt (refine' my_item ?l ?a ?b ?d ?_; (case l => exact News.isList (by k_asm) (by k_mem)); (case a => decide); (case b => decide); (case d => rfl); k_whole))
  k_with "subscriptTail Name BinOp ref int" => (k_here; (with_reducible show wpAny _ _ (subscriptTail _ _ (Value.ref _) (Value.int _ _)) _ _ _); k_dflt (refine' my_item ?l ?a ?b ?d ?_; (case l => exact News.isList (by k_asm) (by k_mem)); (case a => decide); (case b => decide); (case d => rfl); k_whole))
  k_with "subscriptTail Name Name ref int" => (k_here; (with_reducible show wpAny _ _ (subscriptTail _ _ (Value.ref _) (Value.int _ _)) _ _ _); k_dflt (refine' my_item ?l ?a ?b ?d ?_; (case l => exact News.isList (by k_asm) (by k_mem)); (case a => decide); (case b => decide); (case d => rfl); k_whole))
  k_with "subscriptTail Attribute Name ref int" => (k_here; (with_reducible show wpAny _ _ (subscriptTail _ _ (Value.ref _) (Value.int _ _)) _ _ _); k_dflt (refine' my_item ?l ?a ?b ?d ?_; (case l => exact News.isList (by k_asm) (by k_mem)); (case a => decide); (case b => decide); (case d => rfl); k_whole))
  k_with "subscriptTail Name Call ref int" => (k_here; (with_reducible show wpAny _ _ (subscriptTail _ _ (Value.ref _) (Value.int _ _)) _ _ _); k_dflt (refine' my_item ?l ?a ?b ?d ?_; (case l => exact News.isList (by k_asm) (by k_mem)); (case a => decide); (case b => decide); (case d => rfl); k_whole))
  k_with "subscriptTail Attribute Call ref int" => (k_here; (with_reducible show wpAny _ _ (subscriptTail _ _ (Value.ref _) (Value.int _ _)) _ _ _); k_dflt (refine' my_item ?l ?a ?b ?d ?_; (case l => exact News.isList (by k_asm) (by k_mem)); (case a => decide); (case b => decide); (case d => rfl); k_whole))
  k_with "subscriptTail Attribute BinOp ref int" => (k_here; (with_reducible show wpAny _ _ (subscriptTail _ _ (Value.ref _) (Value.int _ _)) _ _ _); k_dflt (refine' my_item ?l ?a ?b ?d ?_; (case l => exact News.isList (by k_asm) (by k_mem)); (case a => decide); (case b => decide); (case d => rfl); k_whole))
  k_with "subscriptTail Name Constant ref int" => (k_here; (with_reducible show wpAny _ _ (subscriptTail _ _ (Value.ref _) (Value.int _ _)) _ _ _); k_dflt (refine' my_item ?l ?a ?b ?d ?_; (case l => exact News.isList (by k_asm) (by k_mem)); (case a => decide); (case b => decide); (case d => rfl); k_whole))
  k_with "subscriptTail Attribute IfExp ref int" => (k_here; (with_reducible show wpAny _ _ (subscriptTail _ _ (Value.ref _) (Value.int _ _)) _ _ _); k_dflt (refine' my_item ?l ?a ?b ?d ?_; (case l => exact News.isList (by k_asm) (by k_mem)); (case a => decide); (case b => decide); (case d => rfl); k_whole))
  k_with "subscriptTail Name Subscript ref int" => (k_here; (with_reducible show wpAny _ _ (subscriptTail _ _ (Value.ref _) (Value.int _ _)) _ _ _); k_dflt (refine' my_item ?l ?a ?b ?d ?_; (case l => exact News.isList (by k_asm) (by k_mem)); (case a => decide); (case b => decide); (case d => rfl); k_whole))
  k_with "call ref" => (k_here; (with_reducible show wpAny _ _ (call (Value.ref 28) [Value.int _ _]) _ _ _); k_dflt (refine' op_of_ok ?B ?F ?X ?N ?T ?hdp ?hun ?e ?h0 ?h1 ?_; (case B => k_asm); (case F => k_asm); (case X => k_asm); (case N => k_asm); (case T => k_asm); (case hdp => ktr_room); (case hun => ktr_units); (case e => first | (simp only [Int.reduceMul, Int.reduceAdd, Int.reduceSub, Int.reduceDiv, Int.reduceMod]; done) | (simp only [Int.reduceMul, Int.reduceAdd, Int.reduceSub, Int.reduceDiv, Int.reduceMod]; rfl)); (case h0 => decide); (case h1 => decide); k_whole); intro t9 h9 tk9 F9 N9; (try dsimp only); (try k_sweep); (try k_fold))
  k_with "call ref" => (k_here; (with_reducible show wpAny _ _ (call (Value.ref 35) [Value.int _ _]) _ _ _); k_dflt (refine' a_of_ok ?B ?F ?X ?N ?T ?hdp ?hun ?e ?h0 ?h1 ?_; (case B => k_asm); (case F => k_asm); (case X => k_asm); (case N => k_asm); (case T => k_asm); (case hdp => ktr_room); (case hun => ktr_units); (case e => first | (simp only [Int.reduceMul, Int.reduceAdd, Int.reduceSub, Int.reduceDiv, Int.reduceMod]; done) | (simp only [Int.reduceMul, Int.reduceAdd, Int.reduceSub, Int.reduceDiv, Int.reduceMod]; rfl)); (case h0 => decide); (case h1 => decide); k_whole); intro t9 h9 tk9 F9 N9; (try dsimp only); (try k_sweep); (try k_fold))
  k_with "call ref" => (k_here; (with_reducible show wpAny _ _ (call (Value.ref 42) [Value.int _ _]) _ _ _); k_dflt (refine' b_of_ok ?B ?F ?X ?N ?T ?hdp ?hun ?e ?h0 ?h1 ?_; (case B => k_asm); (case F => k_asm); (case X => k_asm); (case N => k_asm); (case T => k_asm); (case hdp => ktr_room); (case hun => ktr_units); (case e => first | (simp only [Int.reduceMul, Int.reduceAdd, Int.reduceSub, Int.reduceDiv, Int.reduceMod]; done) | (simp only [Int.reduceMul, Int.reduceAdd, Int.reduceSub, Int.reduceDiv, Int.reduceMod]; rfl)); (case h0 => decide); (case h1 => decide); k_whole); intro t9 h9 tk9 F9 N9; (try dsimp only); (try k_sweep); (try k_fold))
  k_with "call ref" => (k_here; (with_reducible show wpAny _ _ (call (Value.ref 49) [Value.int _ _]) _ _ _); k_dflt (refine' c_of_ok ?B ?F ?X ?N ?T ?hdp ?hun ?e ?h0 ?h1 ?_; (case B => k_asm); (case F => k_asm); (case X => k_asm); (case N => k_asm); (case T => k_asm); (case hdp => ktr_room); (case hun => ktr_units); (case e => first | (simp only [Int.reduceMul, Int.reduceAdd, Int.reduceSub, Int.reduceDiv, Int.reduceMod]; done) | (simp only [Int.reduceMul, Int.reduceAdd, Int.reduceSub, Int.reduceDiv, Int.reduceMod]; rfl)); (case h0 => decide); (case h1 => decide); k_whole); intro t9 h9 tk9 F9 N9; (try dsimp only); (try k_sweep); (try k_fold))
  k_with "call ref" => (k_here; (with_reducible show wpAny _ _ (call (Value.ref 63) [Value.int _ _]) _ _ _); k_dflt (refine' jump_of_ok ?B ?F ?X ?N ?T ?hdp ?hun ?e ?h0 ?h1 ?_; (case B => k_asm); (case F => k_asm); (case X => k_asm); (case N => k_asm); (case T => k_asm); (case hdp => ktr_room); (case hun => ktr_units); (case e => first | (simp only [Int.reduceMul, Int.reduceAdd, Int.reduceSub, Int.reduceDiv, Int.reduceMod]; done) | (simp only [Int.reduceMul, Int.reduceAdd, Int.reduceSub, Int.reduceDiv, Int.reduceMod]; rfl)); (case h0 => decide); (case h1 => decide); k_whole); intro t9 h9 tk9 F9 N9; (try dsimp only); (try k_sweep); (try k_fold))
  trivial
theorem ld_0_3 {w : World} {p : Program} {loose : List Str} {mean : ExcName → Option Value} {mg mb : Str → Option Value} {dp un : Nat} {gd : Option (List Code)} {cn : Str} {nms : List (Str × NameKind)} {ig ic : Bool} {mo : List (Str × Const)} {a : Addr} {ccd : Value} {cl : List (Str × Addr)} {outer : List Env} {A₀ : Around} {base h₀ : Heap} {L : Addr} {m : Str → Option Value} {s : Shared} {Q E : Value → Shared → Prop} {dsp ls lc lk lm wk : Addr} {ks0 ks1 ks2 ks3 ks4 ks5 ks6 ks7 ks8 kr kt tp z0 t0 t1 : Tok} {ra rb rc rd re pc : Int} {tra trb trc trd tre : Tok} {ns : Nat} {rest : List (Addr × Obj)}
    (B : Below A₀ base outer h₀) (F : Fr h₀ L s.heap m) (X : (hd.heap_1 w.params).In h₀) (N : News h₀ L s.heap ((dsp, dictOf [⟨PyData.keyHash w.params (Str.ofString "code"), .str (Str.ofString "code") ks0, .ref lc⟩, ⟨PyData.keyHash w.params (Str.ofString "constants"), .str (Str.ofString "constants") ks1, .ref lk⟩, ⟨PyData.keyHash w.params (Str.ofString "stack"), .str (Str.ofString "stack") ks2, .ref ls⟩, ⟨PyData.keyHash w.params (Str.ofString "room"), .str (Str.ofString "room") ks3, .int 5 kr⟩, ⟨PyData.keyHash w.params (Str.ofString "limits"), .str (Str.ofString "limits") ks4, .ref lm⟩, ⟨PyData.keyHash w.params (Str.ofString "works"), .str (Str.ofString "works") ks5, .ref wk⟩, ⟨PyData.keyHash w.params (Str.ofString "pc"), .str (Str.ofString "pc") ks6, .int pc tp⟩, ⟨PyData.keyHash w.params (Str.ofString "top"), .str (Str.ofString "top") ks7, .int 5 kt⟩, ⟨PyData.keyHash w.params (Str.ofString "result"), .str (Str.ofString "result") ks8, .none⟩] 9) :: (ls, listOf [.int ra tra, .int rb trb, .int rc trc, .int rd trd, .int re tre, .none, .none, .none, .none, .none, .none, .none, .none, .none, .none, .none, .none].toArray ns) :: rest)) (T : Top p loose mean mg mb h₀) (hdp : dp + 40 < recursionLimit) (hun : un + 400 < cLine)
    (hoff : OwnOff rest [dsp, ls]) (hne : dsp ≠ ls) 
    (hret : ∀ (t : Tok) (h' : Heap) (tk' : Nat), Fr h₀ L h' m → News h₀ L h' ((dsp, dictOf [⟨PyData.keyHash w.params (Str.ofString "code"), .str (Str.ofString "code") ks0, .ref lc⟩, ⟨PyData.keyHash w.params (Str.ofString "constants"), .str (Str.ofString "constants") ks1, .ref lk⟩, ⟨PyData.keyHash w.params (Str.ofString "stack"), .str (Str.ofString "stack") ks2, .ref ls⟩, ⟨PyData.keyHash w.params (Str.ofString "room"), .str (Str.ofString "room") ks3, .int 5 kr⟩, ⟨PyData.keyHash w.params (Str.ofString "limits"), .str (Str.ofString "limits") ks4, .ref lm⟩, ⟨PyData.keyHash w.params (Str.ofString "works"), .str (Str.ofString "works") ks5, .ref wk⟩, ⟨PyData.keyHash w.params (Str.ofString "pc"), .str (Str.ofString "pc") ks6, .int pc tp⟩, ⟨PyData.keyHash w.params (Str.ofString "top"), .str (Str.ofString "top") ks7, .int 5 kt⟩, ⟨PyData.keyHash w.params (Str.ofString "result"), .str (Str.ofString "result") ks8, .none⟩] 9) :: (ls, listOf [.int rb trb, .int rb trb, .int rc trc, .int rd trd, .int re tre, .none, .none, .none, .none, .none, .none, .none, .none, .none, .none, .none, .none].toArray ns) :: rest) → Q (.int 0 t) { s with heap := h', toks := tk' }) :
    wpAny (model PySem.Challenge.rw_tk0059_01.row.prog w) (ktrTop dp un gd cn (Scope.mk ScopeKind.function nms ig ic mo) L a ccd cl outer) (call (.ref 303) [.int 0 t0, .int 8388608 t1, .ref ls, .int 0 z0, .ref lk]) Q E s := by
  revert X; k_fill; intro X
  have hk : (Scope.mk ScopeKind.function nms ig ic mo).kind = ScopeKind.function := rfl
  have hMk := kstMark
  refine wpAny_call ?_
  k_dflt cell_enter
  k_steps
  all_goals first
    | (refine' hret _ _ _ ?F9 ?N9; (case N9 => (rename News _ _ _ _ => nE; refine kst_newsOf nE ?_; ((repeat (refine sub_cons (by k_memK) ?_)); first | exact List.forall_mem_nil _ | (intro p hp; k_ownIn)))); (case F9 => (rename Fr _ _ _ _ => fE; exact fE)))
    | trace_state

theorem ld_0_4 {w : World} {p : Program} {loose : List Str} {mean : ExcName → Option Value} {mg mb : Str → Option Value} {dp un : Nat} {gd : Option (List Code)} {cn : Str} {nms : List (Str × NameKind)} {ig ic : Bool} {mo : List (Str × Const)} {a : Addr} {ccd : Value} {cl : List (Str × Addr)} {outer : List Env} {A₀ : Around} {base h₀ : Heap} {L : Addr} {m : Str → Option Value} {s : Shared} {Q E : Value → Shared → Prop} {dsp ls lc lk lm wk : Addr} {ks0 ks1 ks2 ks3 ks4 ks5 ks6 ks7 ks8 kr kt tp z0 t0 t1 : Tok} {ra rb rc rd re pc : Int} {tra trb trc trd tre : Tok} {ns : Nat} {rest : List (Addr × Obj)}
    (B : Below A₀ base outer h₀) (F : Fr h₀ L s.heap m) (X : (hd.heap_1 w.params).In h₀) (N : News h₀ L s.heap ((dsp, dictOf [⟨PyData.keyHash w.params (Str.ofString "code"), .str (Str.ofString "code") ks0, .ref lc⟩, ⟨PyData.keyHash w.params (Str.ofString "constants"), .str (Str.ofString "constants") ks1, .ref lk⟩, ⟨PyData.keyHash w.params (Str.ofString "stack"), .str (Str.ofString "stack") ks2, .ref ls⟩, ⟨PyData.keyHash w.params (Str.ofString "room"), .str (Str.ofString "room") ks3, .int 5 kr⟩, ⟨PyData.keyHash w.params (Str.ofString "limits"), .str (Str.ofString "limits") ks4, .ref lm⟩, ⟨PyData.keyHash w.params (Str.ofString "works"), .str (Str.ofString "works") ks5, .ref wk⟩, ⟨PyData.keyHash w.params (Str.ofString "pc"), .str (Str.ofString "pc") ks6, .int pc tp⟩, ⟨PyData.keyHash w.params (Str.ofString "top"), .str (Str.ofString "top") ks7, .int 5 kt⟩, ⟨PyData.keyHash w.params (Str.ofString "result"), .str (Str.ofString "result") ks8, .none⟩] 9) :: (ls, listOf [.int ra tra, .int rb trb, .int rc trc, .int rd trd, .int re tre, .none, .none, .none, .none, .none, .none, .none, .none, .none, .none, .none, .none].toArray ns) :: rest)) (T : Top p loose mean mg mb h₀) (hdp : dp + 40 < recursionLimit) (hun : un + 400 < cLine)
    (hoff : OwnOff rest [dsp, ls]) (hne : dsp ≠ ls) 
    (hret : ∀ (t : Tok) (h' : Heap) (tk' : Nat), Fr h₀ L h' m → News h₀ L h' ((dsp, dictOf [⟨PyData.keyHash w.params (Str.ofString "code"), .str (Str.ofString "code") ks0, .ref lc⟩, ⟨PyData.keyHash w.params (Str.ofString "constants"), .str (Str.ofString "constants") ks1, .ref lk⟩, ⟨PyData.keyHash w.params (Str.ofString "stack"), .str (Str.ofString "stack") ks2, .ref ls⟩, ⟨PyData.keyHash w.params (Str.ofString "room"), .str (Str.ofString "room") ks3, .int 5 kr⟩, ⟨PyData.keyHash w.params (Str.ofString "limits"), .str (Str.ofString "limits") ks4, .ref lm⟩, ⟨PyData.keyHash w.params (Str.ofString "works"), .str (Str.ofString "works") ks5, .ref wk⟩, ⟨PyData.keyHash w.params (Str.ofString "pc"), .str (Str.ofString "pc") ks6, .int pc tp⟩, ⟨PyData.keyHash w.params (Str.ofString "top"), .str (Str.ofString "top") ks7, .int 5 kt⟩, ⟨PyData.keyHash w.params (Str.ofString "result"), .str (Str.ofString "result") ks8, .none⟩] 9) :: (ls, listOf [.int ra tra, .int rc trc, .int rc trc, .int rd trd, .int re tre, .none, .none, .none, .none, .none, .none, .none, .none, .none, .none, .none, .none].toArray ns) :: rest) → Q (.int 0 t) { s with heap := h', toks := tk' }) :
    wpAny (model PySem.Challenge.rw_tk0059_01.row.prog w) (ktrTop dp un gd cn (Scope.mk ScopeKind.function nms ig ic mo) L a ccd cl outer) (call (.ref 303) [.int 0 t0, .int 16777280 t1, .ref ls, .int 0 z0, .ref lk]) Q E s := by
  revert X; k_fill; intro X
  have hk : (Scope.mk ScopeKind.function nms ig ic mo).kind = ScopeKind.function := rfl
  have hMk := kstMark
  refine wpAny_call ?_
  k_dflt cell_enter
  k_steps
  all_goals first
    | (refine' hret _ _ _ ?F9 ?N9; (case N9 => (rename News _ _ _ _ => nE; refine kst_newsOf nE ?_; ((repeat (refine sub_cons (by k_memK) ?_)); first | exact List.forall_mem_nil _ | (intro p hp; k_ownIn)))); (case F9 => (rename Fr _ _ _ _ => fE; exact fE)))
    | trace_state
theorem w_I6_1 : True := by
  k_with_none
  trivial
theorem w_I6_2 : True := by
  k_with "eval Call" => ((with_reducible show wpAny _ _ (eval (Expr.Call (Expr.Name _ _) _ [] _) _) _ _ _); k_dflt (refine Call_ ?_))
  k_with "subscriptTail" => (k_here; (with_reducible show wpAny _ _ (subscriptTail _ _ (Value.ref _) (Value.int _ _)) _ _ _); k_dflt (refine' my_item ?l ?a ?b ?d ?_; (case l => exact News.isList (by k_asm) (by k_mem)); (case a => decide); (case b => decide); (case d => rfl); k_whole))
  k_with "subscriptTail Name BinOp ref int" => (k_here; (with_reducible show wpAny _ _ (subscriptTail _ _ (Value.ref _) (Value.int _ _)) _ _ _); k_dflt (refine' my_item ?l ?a ?b ?d ?_; (case l => exact News.isList (by k_asm) (by k_mem)); (case a => decide); (case b => decide); (case d => rfl); k_whole))
  k_with "subscriptTail Name Name ref int" => (k_here; (with_reducible show wpAny _ _ (subscriptTail _ _ (Value.ref _) (Value.int _ _)) _ _ _); k_dflt (refine' my_item ?l ?a ?b ?d ?_; (case l => exact News.isList (by k_asm) (by k_mem)); (case a => decide); (case b => decide); (case d => rfl); k_whole))
  k_with "subscriptTail Attribute Name ref int" => (k_here; (with_reducible show wpAny _ _ (subscriptTail _ _ (Value.ref _) (Value.int _ _)) _ _ _); k_dflt (refine' my_item ?l ?a ?b ?d ?_; (case l => exact News.isList (by k_asm) (by k_mem)); (case a => decide); (case b => decide); (case d => rfl); k_whole))
  k_with "subscriptTail Name Call ref int" => (k_here; (with_reducible show wpAny _ _ (subscriptTail _ _ (Value.ref _) (Value.int _ _)) _ _ _); k_dflt (refine' my_item ?l ?a ?b ?d ?_; (case l => exact News.isList (by k_asm) (by k_mem)); (case a => decide); (case b => decide); (case d => rfl); k_whole))
  k_with "subscriptTail Attribute Call ref int" => (k_here; (with_reducible show wpAny _ _ (subscriptTail _ _ (Value.ref _) (Value.int _ _)) _ _ _); k_dflt (refine' my_item ?l ?a ?b ?d ?_; (case l => exact News.isList (by k_asm) (by k_mem)); (case a => decide); (case b => decide); (case d => rfl); k_whole))
  k_with "subscriptTail Attribute BinOp ref int" => (k_here; (with_reducible show wpAny _ _ (subscriptTail _ _ (Value.ref _) (Value.int _ _)) _ _ _); k_dflt (refine' my_item ?l ?a ?b ?d ?_; (case l => exact News.isList (by k_asm) (by k_mem)); (case a => decide); (case b => decide); (case d => rfl); k_whole))
  k_with "subscriptTail Name Constant ref int" => (k_here; (with_reducible show wpAny _ _ (subscriptTail _ _ (Value.ref _) (Value.int _ _)) _ _ _); k_dflt (refine' my_item ?l ?a ?b ?d ?_; (case l => exact News.isList (by k_asm) (by k_mem)); (case a => decide); (case b => decide); (case d => rfl); k_whole))
  k_with "subscriptTail Attribute IfExp ref int" => (k_here; (with_reducible show wpAny _ _ (subscriptTail _ _ (Value.ref _) (Value.int _ _)) _ _ _); k_dflt (refine' my_item ?l ?a ?b ?d ?_; (case l => exact News.isList (by k_asm) (by k_mem)); (case a => decide); (case b => decide); (case d => rfl); k_whole))
  k_with "subscriptTail Name Subscript ref int" => (k_here; (with_reducible show wpAny _ _ (subscriptTail _ _ (Value.ref _) (Value.int _ _)) _ _ _); k_dflt (refine' my_item ?l ?a ?b ?d ?_; (case l => exact News.isList (by k_asm) (by k_mem)); (case a => decide); (case b => decide); (case d => rfl); k_whole))
  k_with "call ref" => (k_here; (with_reducible show wpAny _ _ (call (Value.ref 28) [Value.int _ _]) _ _ _); k_dflt (refine' op_of_ok ?B ?F ?X ?N ?T ?hdp ?hun ?e ?h0 ?h1 ?_; (case B => k_asm); (case F => k_asm); (case X => k_asm); (case N => k_asm); (case T => k_asm); (case hdp => ktr_room); (case hun => ktr_units); (case e => first | (simp only [Int.reduceMul, Int.reduceAdd, Int.reduceSub, Int.reduceDiv, Int.reduceMod]; done) | (simp only [Int.reduceMul, Int.reduceAdd, Int.reduceSub, Int.reduceDiv, Int.reduceMod]; rfl)); (case h0 => decide); (case h1 => decide); k_whole); intro t9 h9 tk9 F9 N9; (try dsimp only); (try k_sweep); (try k_fold))
  k_with "call ref" => (k_here; (with_reducible show wpAny _ _ (call (Value.ref 35) [Value.int _ _]) _ _ _); k_dflt (refine' a_of_ok ?B ?F ?X ?N ?T ?hdp ?hun ?e ?h0 ?h1 ?_; (case B => k_asm); (case F => k_asm); (case X => k_asm); (case N => k_asm); (case T => k_asm); (case hdp => ktr_room); (case hun => ktr_units); (case e => first | (simp only [Int.reduceMul, Int.reduceAdd, Int.reduceSub, Int.reduceDiv, Int.reduceMod]; done) | (simp only [Int.reduceMul, Int.reduceAdd, Int.reduceSub, Int.reduceDiv, Int.reduceMod]; rfl)); (case h0 => decide); (case h1 => decide); k_whole); intro t9 h9 tk9 F9 N9; (try dsimp only); (try k_sweep); (try k_fold))
  k_with "call ref" => (k_here; (with_reducible show wpAny _ _ (call (Value.ref 42) [Value.int _ _]) _ _ _); k_dflt (refine' b_of_ok ?B ?F ?X ?N ?T ?hdp ?hun ?e ?h0 ?h1 ?_; (case B => k_asm); (case F => k_asm); (case X => k_asm); (case N => k_asm); (case T => k_asm); (case hdp => ktr_room); (case hun => ktr_units); (case e => first | (simp only [Int.reduceMul, Int.reduceAdd, Int.reduceSub, Int.reduceDiv, Int.reduceMod]; done) | (simp only [Int.reduceMul, Int.reduceAdd, Int.reduceSub, Int.reduceDiv, Int.reduceMod]; rfl)); (case h0 => decide); (case h1 => decide); k_whole); intro t9 h9 tk9 F9 N9; (try dsimp only); (try k_sweep); (try k_fold))
  k_with "call ref" => (k_here; (with_reducible show wpAny _ _ (call (Value.ref 49) [Value.int _ _]) _ _ _); k_dflt (refine' c_of_ok ?B ?F ?X ?N ?T ?hdp ?hun ?e ?h0 ?h1 ?_; (case B => k_asm); (case F => k_asm); (case X => k_asm); (case N => k_asm); (case T => k_asm); (case hdp => ktr_room); (case hun => ktr_units); (case e => first | (simp only [Int.reduceMul, Int.reduceAdd, Int.reduceSub, Int.reduceDiv, Int.reduceMod]; done) | (simp only [Int.reduceMul, Int.reduceAdd, Int.reduceSub, Int.reduceDiv, Int.reduceMod]; rfl)); (case h0 => decide); (case h1 => decide); k_whole); intro t9 h9 tk9 F9 N9; (try dsimp only); (try k_sweep); (try k_fold))
  k_with "call ref" => (k_here; (with_reducible show wpAny _ _ (call (Value.ref 63) [Value.int _ _]) _ _ _); k_dflt (refine' jump_of_ok ?B ?F ?X ?N ?T ?hdp ?hun ?e ?h0 ?h1 ?_; (case B => k_asm); (case F => k_asm); (case X => k_asm); (case N => k_asm); (case T => k_asm); (case hdp => ktr_room); (case hun => ktr_units); (case e => first | (simp only [Int.reduceMul, Int.reduceAdd, Int.reduceSub, Int.reduceDiv, Int.reduceMod]; done) | (simp only [Int.reduceMul, Int.reduceAdd, Int.reduceSub, Int.reduceDiv, Int.reduceMod]; rfl)); (case h0 => decide); (case h1 => decide); k_whole); intro t9 h9 tk9 F9 N9; (try dsimp only); (try k_sweep); (try k_fold))
  trivial
theorem do_ret {w : World} {p : Program} {loose : List Str} {mean : ExcName → Option Value} {mg mb : Str → Option Value} {dp un : Nat} {gd : Option (List Code)} {cn : Str} {nms : List (Str × NameKind)} {ig ic : Bool} {mo : List (Str × Const)} {a : Addr} {ccd : Value} {cl : List (Str × Addr)} {outer : List Env} {A₀ : Around} {base h₀ : Heap} {L : Addr} {m : Str → Option Value} {s : Shared} {Q E : Value → Shared → Prop} {sp dsp ls lc lk lm wk : Addr} {ks0 ks1 ks2 ks3 ks4 ks5 ks6 ks7 ks8 kr kt tp t0 t1 : Tok} {ra rb rc rd re pc : Int} {tra trb trc trd tre : Tok} {ns : Nat} {rest : List (Addr × Obj)}
    (B : Below A₀ base outer h₀) (F : Fr h₀ L s.heap m) (X : (hd.heap_1 w.params).In h₀) (N : News h₀ L s.heap ((dsp, dictOf [⟨PyData.keyHash w.params (Str.ofString "code"), .str (Str.ofString "code") ks0, .ref lc⟩, ⟨PyData.keyHash w.params (Str.ofString "constants"), .str (Str.ofString "constants") ks1, .ref lk⟩, ⟨PyData.keyHash w.params (Str.ofString "stack"), .str (Str.ofString "stack") ks2, .ref ls⟩, ⟨PyData.keyHash w.params (Str.ofString "room"), .str (Str.ofString "room") ks3, .int 5 kr⟩, ⟨PyData.keyHash w.params (Str.ofString "limits"), .str (Str.ofString "limits") ks4, .ref lm⟩, ⟨PyData.keyHash w.params (Str.ofString "works"), .str (Str.ofString "works") ks5, .ref wk⟩, ⟨PyData.keyHash w.params (Str.ofString "pc"), .str (Str.ofString "pc") ks6, .int pc tp⟩, ⟨PyData.keyHash w.params (Str.ofString "top"), .str (Str.ofString "top") ks7, .int 5 kt⟩, ⟨PyData.keyHash w.params (Str.ofString "result"), .str (Str.ofString "result") ks8, .none⟩] 9) :: (ls, listOf [.int ra tra, .int rb trb, .int rc trc, .int rd trd, .int re tre, .none, .none, .none, .none, .none, .none, .none, .none, .none, .none, .none, .none].toArray ns) :: rest)) (T : Top p loose mean mg mb h₀) (hdp : dp + 60 < recursionLimit) (hun : un + 600 < cLine)
    (hoff : OwnOff rest [dsp, ls]) (hne : dsp ≠ ls) (hsp : (sp, instObj 508 dsp) ∈ rest)
    (hret : ∀ (lr : Addr) (h' : Heap) (tk' : Nat), Fr h₀ L h' m → News h₀ L h' ((lr, listOf [.int ra tra, .int rb trb, .int rc trc, .int rd trd].toArray 0) :: (dsp, dictOf [⟨PyData.keyHash w.params (Str.ofString "code"), .str (Str.ofString "code") ks0, .ref lc⟩, ⟨PyData.keyHash w.params (Str.ofString "constants"), .str (Str.ofString "constants") ks1, .ref lk⟩, ⟨PyData.keyHash w.params (Str.ofString "stack"), .str (Str.ofString "stack") ks2, .ref ls⟩, ⟨PyData.keyHash w.params (Str.ofString "room"), .str (Str.ofString "room") ks3, .int 5 kr⟩, ⟨PyData.keyHash w.params (Str.ofString "limits"), .str (Str.ofString "limits") ks4, .ref lm⟩, ⟨PyData.keyHash w.params (Str.ofString "works"), .str (Str.ofString "works") ks5, .ref wk⟩, ⟨PyData.keyHash w.params (Str.ofString "pc"), .str (Str.ofString "pc") ks6, .int pc tp⟩, ⟨PyData.keyHash w.params (Str.ofString "top"), .str (Str.ofString "top") ks7, .int 5 kt⟩, ⟨PyData.keyHash w.params (Str.ofString "result"), .str (Str.ofString "result") ks8, .ref lr⟩] 9) :: (ls, listOf [.int ra tra, .int rb trb, .int rc trc, .int rd trd, .int re tre, .none, .none, .none, .none, .none, .none, .none, .none, .none, .none, .none, .none].toArray ns) :: rest) → Q (.bool true) { s with heap := h', toks := tk' }) :
    wpAny (model PySem.Challenge.rw_tk0059_01.row.prog w) (ktrTop dp un gd cn (Scope.mk ScopeKind.function nms ig ic mo) L a ccd cl outer) (call (.ref 484) [.ref sp, .int 30 t0, .int 41943070 t1]) Q E s := by
  revert X; k_fill; intro X
  have hk : (Scope.mk ScopeKind.function nms ig ic mo).kind = ScopeKind.function := rfl
  have hMk := kstMark
  refine wpAny_call ?_
  k_dflt cell_enter
  k_steps
  all_goals first
    | (refine' hret _ _ _ ?F9 ?N9; (case N9 => (rename News _ _ _ _ => nE; refine kst_newsOf nE ?_; ((repeat (refine sub_cons (by k_memK) ?_)); first | exact List.forall_mem_nil _ | (intro p hp; k_ownIn)))); (case F9 => (rename Fr _ _ _ _ => fE; exact fE)))
    | trace_state
theorem w_I7_1 : True := by
  k_with_none
  trivial
theorem unr_enum {h₀ : Heap} {L I : Addr} {oe oi : Obj} {rest : (Str → Option Value) → List (Addr × Obj) → Prop} {s₁ : Shared} {h' : Heap} {tk : Nat} {m' : Str → Option Value} {news' : List (Addr × Obj)} (F : Fr h₀ L h' m')
    (N : News h₀ L h' ((I + 1, oe) :: (I, oi) :: news')) (hlt : ∀ p ∈ news', p.1 < I) (r : rest m' news') : UnrEndW h₀ L s₁ [(I + 1, oe), (I, oi)] rest { s₁ with heap := h', toks := tk } :=
  ⟨h', tk, m', news', rfl, F, N, fun p hp q hq => by
    have h1 := hlt p hp
    rcases List.mem_cons.mp hq with rfl | hq
    · exact Nat.ne_of_lt (Nat.lt_succ_of_lt h1)
    · rw [List.mem_singleton.mp hq]; exact Nat.ne_of_lt h1, r⟩
theorem w_I7_2 : True := by
  k_with "eval Call" => ((with_reducible show wpAny _ _ (eval (Expr.Call (Expr.Name _ _) _ [] _) _) _ _ _); k_dflt (refine Call_ ?_))
  k_with "exec For Tuple Call cons nil" => (k_here; (rename Fr _ _ _ _ => lF'); (with_unfolding_all refine' For_turns lF' ?_; k_whole))
  k_with "call type:enumerate" => (k_here; (rename Fr _ _ _ _ => lF'); (rename News _ _ _ _ => lN'); (with_unfolding_all refine' ktu_enum (lo := listOf [Value.int _ _, Value.int _ _, Value.int _ _].toArray _) (vs := [Value.int _ _, Value.int _ _, Value.int _ _]) (xs := [Itm.pair (fun t => Value.int (0 : Int) t) (Value.int _ _), Itm.pair (fun t => Value.int (1 : Int) t) (Value.int _ _), Itm.pair (fun t => Value.int (2 : Int) t) (Value.int _ _)]) ?q1 lF' lN' ?q2 ?q3 ?q4 ?q5 ?_; (case q2 => k_mem); (case q1 => rfl); (case q3 => rfl); (case q4 => rfl); (case q5 => rfl)); clear lF'; intro i' l1)
  k_with "UnrEndW" => ((rename News _ _ _ _ => nE); refine unr_enum (by assumption) (kst_newsOf nE ?sb) (by assumption) ?_; (case sb => ((repeat (refine sub_cons (by k_memK) ?_)); first | exact List.forall_mem_nil _ | (intro p hp; k_ownIn))); refine ⟨And.intro (by k_mem) trivial, ?_⟩)
  trivial
theorem wrong_ok {w : World} {p : Program} {loose : List Str} {mean : ExcName → Option Value} {mg mb : Str → Option Value} {dp un : Nat} {gd : Option (List Code)} {cn : Str} {nms : List (Str × NameKind)} {ig ic : Bool} {mo : List (Str × Const)} {a : Addr} {ccd : Value} {cl : List (Str × Addr)} {outer : List Env} {A₀ : Around} {base h₀ : Heap} {L : Addr} {m : Str → Option Value} {s : Shared} {Q E : Value → Shared → Prop} {news : List (Addr × Obj)} {l : Addr} {x y z : Int} {tx ty tz : Tok} {nl : Nat}
    (B : Below A₀ base outer h₀) (F : Fr h₀ L s.heap m) (X : (hd.heap_1 w.params).In h₀) (N : News h₀ L s.heap (news)) (T : Top p loose mean mg mb h₀) (hdp : dp + 20 < recursionLimit) (hun : un + 200 < cLine)
    (hl : (l, listOf [Value.int x tx, Value.int y ty, Value.int z tz].toArray nl) ∈ news)
    (hret : ∀ (t : Tok) (h' : Heap) (tk' : Nat), Fr h₀ L h' m → News h₀ L h' news → Q (.int (-1) t) { s with heap := h', toks := tk' }) :
    wpAny (model PySem.Challenge.rw_tk0059_01.row.prog w) (ktrTop dp un gd cn (Scope.mk ScopeKind.function nms ig ic mo) L a ccd cl outer) (call (.ref 275) [.ref l]) Q E s := by
  revert X; k_fill; intro X
  have hk : (Scope.mk ScopeKind.function nms ig ic mo).kind = ScopeKind.function := rfl
  have hMk := kstMark
  refine wpAny_call ?_
  k_dflt cell_enter
  k_steps
  all_goals exact hret _ _ _ (by (rename Fr _ _ _ _ => fE; exact fE)) (by (rename News _ _ _ _ => nE; exact nE))
theorem w_I8_1 : True := by
  k_with_none
  trivial
theorem w_I8_2 : True := by
  k_with "eval Call" => ((with_reducible show wpAny _ _ (eval (Expr.Call (Expr.Name _ _) _ [] _) _) _ _ _); k_dflt (refine Call_ ?_))
  k_with "subscriptTail" => (k_here; (with_reducible show wpAny _ _ (subscriptTail _ _ (Value.ref _) (Value.int _ _)) _ _ _); k_dflt (refine' my_item ?l ?a ?b ?d ?_; (case l => exact News.isList (by k_asm) (by k_mem)); (case a => decide); (case b => decide); (case d => rfl); k_whole))
  k_with "subscriptTail Name BinOp ref int" => (k_here; (with_reducible show wpAny _ _ (subscriptTail _ _ (Value.ref _) (Value.int _ _)) _ _ _); k_dflt (refine' my_item ?l ?a ?b ?d ?_; (case l => exact News.isList (by k_asm) (by k_mem)); (case a => decide); (case b => decide); (case d => rfl); k_whole))
  k_with "subscriptTail Name Name ref int" => (k_here; (with_reducible show wpAny _ _ (subscriptTail _ _ (Value.ref _) (Value.int _ _)) _ _ _); k_dflt (refine' my_item ?l ?a ?b ?d ?_; (case l => exact News.isList (by k_asm) (by k_mem)); (case a => decide); (case b => decide); (case d => rfl); k_whole))
  k_with "subscriptTail Attribute Name ref int" => (k_here; (with_reducible show wpAny _ _ (subscriptTail _ _ (Value.ref _) (Value.int _ _)) _ _ _); k_dflt (refine' my_item ?l ?a ?b ?d ?_; (case l => exact News.isList (by k_asm) (by k_mem)); (case a => decide); (case b => decide); (case d => rfl); k_whole))
  k_with "subscriptTail Name Call ref int" => (k_here; (with_reducible show wpAny _ _ (subscriptTail _ _ (Value.ref _) (Value.int _ _)) _ _ _); k_dflt (refine' my_item ?l ?a ?b ?d ?_; (case l => exact News.isList (by k_asm) (by k_mem)); (case a => decide); (case b => decide); (case d => rfl); k_whole))
  k_with "subscriptTail Attribute Call ref int" => (k_here; (with_reducible show wpAny _ _ (subscriptTail _ _ (Value.ref _) (Value.int _ _)) _ _ _); k_dflt (refine' my_item ?l ?a ?b ?d ?_; (case l => exact News.isList (by k_asm) (by k_mem)); (case a => decide); (case b => decide); (case d => rfl); k_whole))
  k_with "subscriptTail Attribute BinOp ref int" => (k_here; (with_reducible show wpAny _ _ (subscriptTail _ _ (Value.ref _) (Value.int _ _)) _ _ _); k_dflt (refine' my_item ?l ?a ?b ?d ?_; (case l => exact News.isList (by k_asm) (by k_mem)); (case a => decide); (case b => decide); (case d => rfl); k_whole))
  k_with "subscriptTail Name Constant ref int" => (k_here; (with_reducible show wpAny _ _ (subscriptTail _ _ (Value.ref _) (Value.int _ _)) _ _ _); k_dflt (refine' my_item ?l ?a ?b ?d ?_; (case l => exact News.isList (by k_asm) (by k_mem)); (case a => decide); (case b => decide); (case d => rfl); k_whole))
  k_with "subscriptTail Attribute IfExp ref int" => (k_here; (with_reducible show wpAny _ _ (subscriptTail _ _ (Value.ref _) (Value.int _ _)) _ _ _); k_dflt (refine' my_item ?l ?a ?b ?d ?_; (case l => exact News.isList (by k_asm) (by k_mem)); (case a => decide); (case b => decide); (case d => rfl); k_whole))
  k_with "subscriptTail Name Subscript ref int" => (k_here; (with_reducible show wpAny _ _ (subscriptTail _ _ (Value.ref _) (Value.int _ _)) _ _ _); k_dflt (refine' my_item ?l ?a ?b ?d ?_; (case l => exact News.isList (by k_asm) (by k_mem)); (case a => decide); (case b => decide); (case d => rfl); k_whole))
  k_with "call ref" => (k_here; (with_reducible show wpAny _ _ (call (Value.ref 230) [Value.int _ _, _]) _ _ _); k_dflt (refine' to_number_ok ?B ?F ?X ?N ?T ?hdp ?hun  ?_; (case B => k_asm); (case F => k_asm); (case X => k_asm); (case N => k_asm); (case T => k_asm); (case hdp => ktr_room); (case hun => ktr_units); k_whole); intro t9 h9 tk9 F9 N9; (try dsimp only); (try k_sweep); (try k_fold))
  k_with "CompEnd" => ((rename News _ _ _ _ => nE); refine LCg.CompEnd.intro (by assumption) nE _ (fun _ hp => hp) ?of ?sr ?_; (case of => first | assumption | (simp only [LCg.Off3, and_true]; assumption)); (case sr => first | assumption | lcg_src))
  trivial
theorem nums_ok {w : World} {p : Program} {loose : List Str} {mean : ExcName → Option Value} {mg mb : Str → Option Value} {dp un : Nat} {gd : Option (List Code)} {cn : Str} {nms : List (Str × NameKind)} {ig ic : Bool} {mo : List (Str × Const)} {a : Addr} {ccd : Value} {cl : List (Str × Addr)} {outer : List Env} {A₀ : Around} {base h₀ : Heap} {L : Addr} {m : Str → Option Value} {s : Shared} {Q E : Value → Shared → Prop} {news : List (Addr × Obj)} {l : Addr} {lm : Value} {x y z : Int} {tx ty tz : Tok} {nl : Nat}
    (B : Below A₀ base outer h₀) (F : Fr h₀ L s.heap m) (X : (hd.heap_1 w.params).In h₀) (N : News h₀ L s.heap (news)) (T : Top p loose mean mg mb h₀) (hdp : dp + 30 < recursionLimit) (hun : un + 300 < cLine)
    (hl : (l, listOf [Value.int x tx, Value.int y ty, Value.int z tz].toArray nl) ∈ news)
    (hret : ∀ (q : Addr) (tx' ty' tz' : Tok) (nl' : Nat) (h' : Heap) (tk' : Nat), LCg.Off1 q news → Fr h₀ L h' m → News h₀ L h' ((q, listOf [Value.int x tx', Value.int y ty', Value.int z tz'].toArray nl') :: news) → Q (.ref q) { s with heap := h', toks := tk' }) :
    wpAny (model PySem.Challenge.rw_tk0059_01.row.prog w) (ktrTop dp un gd cn (Scope.mk ScopeKind.function nms ig ic mo) L a ccd cl outer) (call (.ref 268) [.ref l, lm]) Q E s := by
  revert X; k_fill; intro X
  have hk : (Scope.mk ScopeKind.function nms ig ic mo).kind = ScopeKind.function := rfl
  have hMk := kstMark
  k_steps
  (rename IntsAre _ _ => hI; rename _ ∧ LCg.Off1 _ _ => hO; simp only [List.map] at hI)
  cases hI with | cons n1 t1 hI =>
  cases hI with | cons n2 t2 hI =>
  cases hI with | cons n3 t3 hI =>
  cases hI
  exact hret _ _ _ _ _ _ _ hO.2 (by (rename Fr _ _ _ _ => fE; exact fE)) (by (rename News _ _ _ _ => nE; exact kst_newsOf nE (sub_cons (List.Mem.head _) fun p hp => List.Mem.tail _ (List.Mem.tail _ hp))))
theorem w_I9_1 : True := by
  k_with_none
  trivial
theorem w_I9_2 : True := by
  k_with "eval Call" => ((with_reducible show wpAny _ _ (eval (Expr.Call (Expr.Name _ _) _ [] _) _) _ _ _); k_dflt (refine Call_ ?_))
  k_with "subscriptTail" => (k_here; (with_reducible show wpAny _ _ (subscriptTail _ _ (Value.ref _) (Value.int _ _)) _ _ _); k_dflt (refine' my_item ?l ?a ?b ?d ?_; (case l => exact News.isList (by k_asm) (by k_mem)); (case a => decide); (case b => decide); (case d => rfl); k_whole))
  k_with "subscriptTail Name BinOp ref int" => (k_here; (with_reducible show wpAny _ _ (subscriptTail _ _ (Value.ref _) (Value.int _ _)) _ _ _); k_dflt (refine' my_item ?l ?a ?b ?d ?_; (case l => exact News.isList (by k_asm) (by k_mem)); (case a => decide); (case b => decide); (case d => rfl); k_whole))
  k_with "subscriptTail Name Name ref int" => (k_here; (with_reducible show wpAny _ _ (subscriptTail _ _ (Value.ref _) (Value.int _ _)) _ _ _); k_dflt (refine' my_item ?l ?a ?b ?d ?_; (case l => exact News.isList (by k_asm) (by k_mem)); (case a => decide); (case b => decide); (case d => rfl); k_whole))
  k_with "subscriptTail Attribute Name ref int" => (k_here; (with_reducible show wpAny _ _ (subscriptTail _ _ (Value.ref _) (Value.int _ _)) _ _ _); k_dflt (refine' my_item ?l ?a ?b ?d ?_; (case l => exact News.isList (by k_asm) (by k_mem)); (case a => decide); (case b => decide); (case d => rfl); k_whole))
  k_with "subscriptTail Name Call ref int" => (k_here; (with_reducible show wpAny _ _ (subscriptTail _ _ (Value.ref _) (Value.int _ _)) _ _ _); k_dflt (refine' my_item ?l ?a ?b ?d ?_; (case l => exact News.isList (by k_asm) (by k_mem)); (case a => decide); (case b => decide); (case d => rfl); k_whole))
  k_with "subscriptTail Attribute Call ref int" => (k_here; (with_reducible show wpAny _ _ (subscriptTail _ _ (Value.ref _) (Value.int _ _)) _ _ _); k_dflt (refine' my_item ?l ?a ?b ?d ?_; (case l => exact News.isList (by k_asm) (by k_mem)); (case a => decide); (case b => decide); (case d => rfl); k_whole))
  k_with "subscriptTail Attribute BinOp ref int" => (k_here; (with_reducible show wpAny _ _ (subscriptTail _ _ (Value.ref _) (Value.int _ _)) _ _ _); k_dflt (refine' my_item ?l ?a ?b ?d ?_; (case l => exact News.isList (by k_asm) (by k_mem)); (case a => decide); (case b => decide); (case d => rfl); k_whole))
  k_with "subscriptTail Name Constant ref int" => (k_here; (with_reducible show wpAny _ _ (subscriptTail _ _ (Value.ref _) (Value.int _ _)) _ _ _); k_dflt (refine' my_item ?l ?a ?b ?d ?_; (case l => exact News.isList (by k_asm) (by k_mem)); (case a => decide); (case b => decide); (case d => rfl); k_whole))
  k_with "subscriptTail Attribute IfExp ref int" => (k_here; (with_reducible show wpAny _ _ (subscriptTail _ _ (Value.ref _) (Value.int _ _)) _ _ _); k_dflt (refine' my_item ?l ?a ?b ?d ?_; (case l => exact News.isList (by k_asm) (by k_mem)); (case a => decide); (case b => decide); (case d => rfl); k_whole))
  k_with "subscriptTail Name Subscript ref int" => (k_here; (with_reducible show wpAny _ _ (subscriptTail _ _ (Value.ref _) (Value.int _ _)) _ _ _); k_dflt (refine' my_item ?l ?a ?b ?d ?_; (case l => exact News.isList (by k_asm) (by k_mem)); (case a => decide); (case b => decide); (case d => rfl); k_whole))
  k_with "call ref" => (k_here; (with_reducible show wpAny _ _ (call (Value.ref 160) [Value.int _ _, Value.int _ _]) _ _ _); k_dflt (refine' wrap_ok ?B ?F ?X ?N ?T ?hdp ?hun  ?_; (case B => k_asm); (case F => k_asm); (case X => k_asm); (case N => k_asm); (case T => k_asm); (case hdp => ktr_room); (case hun => ktr_units); k_whole); intro v9 t9 h9 tk9 e9 F9 N9; (try dsimp only); (try k_sweep); (try k_fold))
  k_with "call ref" => (k_here; (with_reducible show wpAny _ _ (call (Value.ref 275) [Value.ref _]) _ _ _); k_dflt (refine' wrong_ok ?B ?F ?X ?N ?T ?hdp ?hun ?hl ?_; (case B => k_asm); (case F => k_asm); (case X => k_asm); (case N => k_asm); (case T => k_asm); (case hdp => ktr_room); (case hun => ktr_units); (case hl => k_mem); k_whole); intro t9 h9 tk9 F9 N9; (try dsimp only); (try k_sweep); (try k_fold))
  k_with "call ref" => (k_here; (with_reducible show wpAny _ _ (call (Value.ref 268) [Value.ref _, Value.ref _]) _ _ _); k_dflt (refine' nums_ok ?B ?F ?X ?N ?T ?hdp ?hun ?hl ?_; (case B => k_asm); (case F => k_asm); (case X => k_asm); (case N => k_asm); (case T => k_asm); (case hdp => ktr_room); (case hun => ktr_units); (case hl => k_mem); k_whole); intro q9 x9 y9 z9 n9 h9 tk9 o9 F9 N9; (simp only [LCg.Off1] at o9); (repeat (have hne9 := And.left o9; replace o9 := And.right o9)); (try dsimp only); (try k_sweep); (try k_fold))
  trivial
theorem rb_ok {w : World} {p : Program} {loose : List Str} {mean : ExcName → Option Value} {mg mb : Str → Option Value} {dp un : Nat} {gd : Option (List Code)} {cn : Str} {nms : List (Str × NameKind)} {ig ic : Bool} {mo : List (Str × Const)} {a : Addr} {ccd : Value} {cl : List (Str × Addr)} {outer : List Env} {A₀ : Around} {base h₀ : Heap} {L : Addr} {m : Str → Option Value} {s : Shared} {Q E : Value → Shared → Prop} {dsp ls lc lk lm dlm wk : Addr} {ks0 ks1 ks2 ks3 ks4 ks5 ks6 ks7 ks8 kr kt tp t1 : Tok} {ka0 kb0 ka1 kb1 ka2 kb2 ka3 kb3 ka4 kb4 ka5 kb5 ka6 kb6 ka7 kb7 ka8 kb8 ka9 kb9 : Tok} {ra rb rc rd re pc : Int} {tra trb trc trd tre : Tok} {ns : Nat} {rest : List (Addr × Obj)}
    (B : Below A₀ base outer h₀) (F : Fr h₀ L s.heap m) (X : (hd.heap_1 w.params).In h₀) (N : News h₀ L s.heap ((dsp, dictOf [⟨PyData.keyHash w.params (Str.ofString "code"), .str (Str.ofString "code") ks0, .ref lc⟩, ⟨PyData.keyHash w.params (Str.ofString "constants"), .str (Str.ofString "constants") ks1, .ref lk⟩, ⟨PyData.keyHash w.params (Str.ofString "stack"), .str (Str.ofString "stack") ks2, .ref ls⟩, ⟨PyData.keyHash w.params (Str.ofString "room"), .str (Str.ofString "room") ks3, .int 5 kr⟩, ⟨PyData.keyHash w.params (Str.ofString "limits"), .str (Str.ofString "limits") ks4, .ref lm⟩, ⟨PyData.keyHash w.params (Str.ofString "works"), .str (Str.ofString "works") ks5, .ref wk⟩, ⟨PyData.keyHash w.params (Str.ofString "pc"), .str (Str.ofString "pc") ks6, .int pc tp⟩, ⟨PyData.keyHash w.params (Str.ofString "top"), .str (Str.ofString "top") ks7, .int 5 kt⟩, ⟨PyData.keyHash w.params (Str.ofString "result"), .str (Str.ofString "result") ks8, .none⟩] 9) :: (ls, listOf [.int ra tra, .int rb trb, .int rc trc, .int rd trd, .int re tre, .none, .none, .none, .none, .none, .none, .none, .none, .none, .none, .none, .none].toArray ns) :: rest)) (T : Top p loose mean mg mb h₀) (hdp : dp + 50 < recursionLimit) (hun : un + 500 < cLine)
    (hoff : OwnOff rest [dsp, ls]) (hne : dsp ≠ ls) (hlm : (lm, instObj 95 dlm) ∈ rest) (hdlm : (dlm, dictOf [⟨PyData.keyHash w.params (Str.ofString "width"), .str (Str.ofString "width") ka0, .int 16 kb0⟩, ⟨PyData.keyHash w.params (Str.ofString "registers"), .str (Str.ofString "registers") ka1, .int 250 kb1⟩, ⟨PyData.keyHash w.params (Str.ofString "upvalues"), .str (Str.ofString "upvalues") ka2, .int 60 kb2⟩, ⟨PyData.keyHash w.params (Str.ofString "local_names"), .str (Str.ofString "local_names") ka3, .int 200 kb3⟩, ⟨PyData.keyHash w.params (Str.ofString "ccalls"), .str (Str.ofString "ccalls") ka4, .int 40 kb4⟩, ⟨PyData.keyHash w.params (Str.ofString "frames"), .str (Str.ofString "frames") ka5, .int 200 kb5⟩, ⟨PyData.keyHash w.params (Str.ofString "stack"), .str (Str.ofString "stack") ka6, .int 2000 kb6⟩, ⟨PyData.keyHash w.params (Str.ofString "flush"), .str (Str.ofString "flush") ka7, .int 50 kb7⟩, ⟨PyData.keyHash w.params (Str.ofString "steps"), .str (Str.ofString "steps") ka8, .int 1000000000 kb8⟩, ⟨PyData.keyHash w.params (Str.ofString "text"), .str (Str.ofString "text") ka9, .int 1000000 kb9⟩] 10) ∈ rest)
    (hret : ∀ (t : Tok) (v : Int) (tv ty tz : Tok) (h' : Heap) (tk' : Nat), v = wrp (rb - rd) → Fr h₀ L h' m → News h₀ L h' ((dsp, dictOf [⟨PyData.keyHash w.params (Str.ofString "code"), .str (Str.ofString "code") ks0, .ref lc⟩, ⟨PyData.keyHash w.params (Str.ofString "constants"), .str (Str.ofString "constants") ks1, .ref lk⟩, ⟨PyData.keyHash w.params (Str.ofString "stack"), .str (Str.ofString "stack") ks2, .ref ls⟩, ⟨PyData.keyHash w.params (Str.ofString "room"), .str (Str.ofString "room") ks3, .int 5 kr⟩, ⟨PyData.keyHash w.params (Str.ofString "limits"), .str (Str.ofString "limits") ks4, .ref lm⟩, ⟨PyData.keyHash w.params (Str.ofString "works"), .str (Str.ofString "works") ks5, .ref wk⟩, ⟨PyData.keyHash w.params (Str.ofString "pc"), .str (Str.ofString "pc") ks6, .int pc tp⟩, ⟨PyData.keyHash w.params (Str.ofString "top"), .str (Str.ofString "top") ks7, .int 5 kt⟩, ⟨PyData.keyHash w.params (Str.ofString "result"), .str (Str.ofString "result") ks8, .none⟩] 9) :: (ls, listOf [.int ra tra, .int v tv, .int rc ty, .int rd tz, .int re tre, .none, .none, .none, .none, .none, .none, .none, .none, .none, .none, .none, .none].toArray ns) :: rest) → Q (.int (-1) t) { s with heap := h', toks := tk' }) :
    wpAny (model PySem.Challenge.rw_tk0059_01.row.prog w) (ktrTop dp un gd cn (Scope.mk ScopeKind.function nms ig ic mo) L a ccd cl outer) (call (.ref 359) [.ref ls, .int 1 t1, .ref lm]) Q E s := by
  revert X; k_fill; intro X
  have hk : (Scope.mk ScopeKind.function nms ig ic mo).kind = ScopeKind.function := rfl
  have hMk := kstMark
  refine wpAny_call ?_
  k_dflt cell_enter
  k_steps
  all_goals first
    | (refine' hret _ _ _ _ _ _ _ ?e9 ?F9 ?N9; (case N9 => (rename News _ _ _ _ => nE; refine kst_newsOf nE ?_; ((repeat (refine sub_cons (by k_memK) ?_)); first | exact List.forall_mem_nil _ | (intro p hp; k_ownIn)))); (case e9 => assumption); (case F9 => (rename Fr _ _ _ _ => fE; exact fE)))
    | trace_state
theorem w_I10_1 : True := by
  k_with_none
  trivial
theorem w_I10_2 : True := by
  k_with "eval Call" => ((with_reducible show wpAny _ _ (eval (Expr.Call (Expr.Name _ _) _ [] _) _) _ _ _); k_dflt (refine Call_ ?_))
  k_with "subscriptTail" => (k_here; (with_reducible show wpAny _ _ (subscriptTail _ _ (Value.ref _) (Value.int _ _)) _ _ _); k_dflt (refine' my_item ?l ?a ?b ?d ?_; (case l => exact News.isList (by k_asm) (by k_mem)); (case a => decide); (case b => decide); (case d => rfl); k_whole))
  k_with "subscriptTail Name BinOp ref int" => (k_here; (with_reducible show wpAny _ _ (subscriptTail _ _ (Value.ref _) (Value.int _ _)) _ _ _); k_dflt (refine' my_item ?l ?a ?b ?d ?_; (case l => exact News.isList (by k_asm) (by k_mem)); (case a => decide); (case b => decide); (case d => rfl); k_whole))
  k_with "subscriptTail Name Name ref int" => (k_here; (with_reducible show wpAny _ _ (subscriptTail _ _ (Value.ref _) (Value.int _ _)) _ _ _); k_dflt (refine' my_item ?l ?a ?b ?d ?_; (case l => exact News.isList (by k_asm) (by k_mem)); (case a => decide); (case b => decide); (case d => rfl); k_whole))
  k_with "subscriptTail Attribute Name ref int" => (k_here; (with_reducible show wpAny _ _ (subscriptTail _ _ (Value.ref _) (Value.int _ _)) _ _ _); k_dflt (refine' my_item ?l ?a ?b ?d ?_; (case l => exact News.isList (by k_asm) (by k_mem)); (case a => decide); (case b => decide); (case d => rfl); k_whole))
  k_with "subscriptTail Name Call ref int" => (k_here; (with_reducible show wpAny _ _ (subscriptTail _ _ (Value.ref _) (Value.int _ _)) _ _ _); k_dflt (refine' my_item ?l ?a ?b ?d ?_; (case l => exact News.isList (by k_asm) (by k_mem)); (case a => decide); (case b => decide); (case d => rfl); k_whole))
  k_with "subscriptTail Attribute Call ref int" => (k_here; (with_reducible show wpAny _ _ (subscriptTail _ _ (Value.ref _) (Value.int _ _)) _ _ _); k_dflt (refine' my_item ?l ?a ?b ?d ?_; (case l => exact News.isList (by k_asm) (by k_mem)); (case a => decide); (case b => decide); (case d => rfl); k_whole))
  k_with "subscriptTail Attribute BinOp ref int" => (k_here; (with_reducible show wpAny _ _ (subscriptTail _ _ (Value.ref _) (Value.int _ _)) _ _ _); k_dflt (refine' my_item ?l ?a ?b ?d ?_; (case l => exact News.isList (by k_asm) (by k_mem)); (case a => decide); (case b => decide); (case d => rfl); k_whole))
  k_with "subscriptTail Name Constant ref int" => (k_here; (with_reducible show wpAny _ _ (subscriptTail _ _ (Value.ref _) (Value.int _ _)) _ _ _); k_dflt (refine' my_item ?l ?a ?b ?d ?_; (case l => exact News.isList (by k_asm) (by k_mem)); (case a => decide); (case b => decide); (case d => rfl); k_whole))
  k_with "subscriptTail Attribute IfExp ref int" => (k_here; (with_reducible show wpAny _ _ (subscriptTail _ _ (Value.ref _) (Value.int _ _)) _ _ _); k_dflt (refine' my_item ?l ?a ?b ?d ?_; (case l => exact News.isList (by k_asm) (by k_mem)); (case a => decide); (case b => decide); (case d => rfl); k_whole))
  k_with "subscriptTail Name Subscript ref int" => (k_here; (with_reducible show wpAny _ _ (subscriptTail _ _ (Value.ref _) (Value.int _ _)) _ _ _); k_dflt (refine' my_item ?l ?a ?b ?d ?_; (case l => exact News.isList (by k_asm) (by k_mem)); (case a => decide); (case b => decide); (case d => rfl); k_whole))
  k_with "call ref" => (k_here; (with_reducible show wpAny _ _ (call (Value.ref 160) [Value.int _ _, Value.int _ _]) _ _ _); k_dflt (refine' wrap_ok ?B ?F ?X ?N ?T ?hdp ?hun  ?_; (case B => k_asm); (case F => k_asm); (case X => k_asm); (case N => k_asm); (case T => k_asm); (case hdp => ktr_room); (case hun => ktr_units); k_whole); intro v9 t9 h9 tk9 e9 F9 N9; (try dsimp only); (try k_sweep); (try k_fold))
  k_with "call ref" => (k_here; (with_reducible show wpAny _ _ (call (Value.ref 275) [Value.ref _]) _ _ _); (try (rename IntsAre _ _ => hI; simp only [List.map] at hI; (cases hI with | cons n1 t1 hI => cases hI with | cons n2 t2 hI => cases hI with | cons n3 t3 hI => cases hI))); k_dflt (refine' wrong_ok ?B ?F ?X ?N ?T ?hdp ?hun ?hl ?_; (case B => k_asm); (case F => k_asm); (case X => k_asm); (case N => k_asm); (case T => k_asm); (case hdp => ktr_room); (case hun => ktr_units); (case hl => k_mem); k_whole); intro t9 h9 tk9 F9 N9; (try dsimp only); (try k_sweep); (try k_fold))
  k_with "call ref" => (k_here; (with_reducible show wpAny _ _ (call (Value.ref 146) [Value.int _ _]) _ _ _); k_dflt (refine' is_number_ok ?B ?F ?X ?N ?T ?hdp ?hun  ?_; (case B => k_asm); (case F => k_asm); (case X => k_asm); (case N => k_asm); (case T => k_asm); (case hdp => ktr_room); (case hun => ktr_units); k_whole); intro h9 tk9 F9 N9; (try dsimp only); (try k_sweep); (try k_fold))
  k_with "CompEnd" => ((rename News _ _ _ _ => nE); refine LCg.CompEnd.intro (by assumption) nE _ (fun _ hp => hp) ?of ?sr ?_; (case of => first | assumption | (simp only [LCg.Off3, and_true]; assumption)); (case sr => first | assumption | lcg_src))
  trivial
theorem rw_ok {w : World} {p : Program} {loose : List Str} {mean : ExcName → Option Value} {mg mb : Str → Option Value} {dp un : Nat} {gd : Option (List Code)} {cn : Str} {nms : List (Str × NameKind)} {ig ic : Bool} {mo : List (Str × Const)} {a : Addr} {ccd : Value} {cl : List (Str × Addr)} {outer : List Env} {A₀ : Around} {base h₀ : Heap} {L : Addr} {m : Str → Option Value} {s : Shared} {Q E : Value → Shared → Prop} {dsp ls lc lk lm wk : Addr} {ks0 ks1 ks2 ks3 ks4 ks5 ks6 ks7 ks8 kr kt tp t1 : Tok} {ra rb rc rd re pc : Int} {tra trb trc trd tre : Tok} {ns : Nat} {rest : List (Addr × Obj)}
    (B : Below A₀ base outer h₀) (F : Fr h₀ L s.heap m) (X : (hd.heap_1 w.params).In h₀) (N : News h₀ L s.heap ((dsp, dictOf [⟨PyData.keyHash w.params (Str.ofString "code"), .str (Str.ofString "code") ks0, .ref lc⟩, ⟨PyData.keyHash w.params (Str.ofString "constants"), .str (Str.ofString "constants") ks1, .ref lk⟩, ⟨PyData.keyHash w.params (Str.ofString "stack"), .str (Str.ofString "stack") ks2, .ref ls⟩, ⟨PyData.keyHash w.params (Str.ofString "room"), .str (Str.ofString "room") ks3, .int 5 kr⟩, ⟨PyData.keyHash w.params (Str.ofString "limits"), .str (Str.ofString "limits") ks4, .ref lm⟩, ⟨PyData.keyHash w.params (Str.ofString "works"), .str (Str.ofString "works") ks5, .ref wk⟩, ⟨PyData.keyHash w.params (Str.ofString "pc"), .str (Str.ofString "pc") ks6, .int pc tp⟩, ⟨PyData.keyHash w.params (Str.ofString "top"), .str (Str.ofString "top") ks7, .int 5 kt⟩, ⟨PyData.keyHash w.params (Str.ofString "result"), .str (Str.ofString "result") ks8, .none⟩] 9) :: (ls, listOf [.int ra tra, .int rb trb, .int rc trc, .int rd trd, .int re tre, .none, .none, .none, .none, .none, .none, .none, .none, .none, .none, .none, .none].toArray ns) :: rest)) (T : Top p loose mean mg mb h₀) (hdp : dp + 50 < recursionLimit) (hun : un + 500 < cLine)
    (hoff : OwnOff rest [dsp, ls]) (hne : dsp ≠ ls) 
    (hret : ∀ (t : Tok) (h' : Heap) (tk' : Nat), Fr h₀ L h' m → News h₀ L h' ((dsp, dictOf [⟨PyData.keyHash w.params (Str.ofString "code"), .str (Str.ofString "code") ks0, .ref lc⟩, ⟨PyData.keyHash w.params (Str.ofString "constants"), .str (Str.ofString "constants") ks1, .ref lk⟩, ⟨PyData.keyHash w.params (Str.ofString "stack"), .str (Str.ofString "stack") ks2, .ref ls⟩, ⟨PyData.keyHash w.params (Str.ofString "room"), .str (Str.ofString "room") ks3, .int 5 kr⟩, ⟨PyData.keyHash w.params (Str.ofString "limits"), .str (Str.ofString "limits") ks4, .ref lm⟩, ⟨PyData.keyHash w.params (Str.ofString "works"), .str (Str.ofString "works") ks5, .ref wk⟩, ⟨PyData.keyHash w.params (Str.ofString "pc"), .str (Str.ofString "pc") ks6, .int pc tp⟩, ⟨PyData.keyHash w.params (Str.ofString "top"), .str (Str.ofString "top") ks7, .int 5 kt⟩, ⟨PyData.keyHash w.params (Str.ofString "result"), .str (Str.ofString "result") ks8, .none⟩] 9) :: (ls, listOf [.int ra tra, .int rb trb, .int rc trc, .int rd trd, .int re tre, .none, .none, .none, .none, .none, .none, .none, .none, .none, .none, .none, .none].toArray ns) :: rest) → Q (.int (-1) t) { s with heap := h', toks := tk' }) :
    wpAny (model PySem.Challenge.rw_tk0059_01.row.prog w) (ktrTop dp un gd cn (Scope.mk ScopeKind.function nms ig ic mo) L a ccd cl outer) (call (.ref 364) [.ref ls, .int 1 t1]) Q E s := by
  revert X; k_fill; intro X
  have hk : (Scope.mk ScopeKind.function nms ig ic mo).kind = ScopeKind.function := rfl
  have hMk := kstMark
  k_steps
  all_goals first
    | (refine' hret _ _ _ ?F9 ?N9; (case N9 => (rename News _ _ _ _ => nE; refine kst_newsOf nE ?_; ((repeat (refine sub_cons (by k_memK) ?_)); first | exact List.forall_mem_nil _ | (intro p hp; k_ownIn)))); (case F9 => (rename Fr _ _ _ _ => fE; exact fE)))
    | trace_state

theorem rg_ok {w : World} {p : Program} {loose : List Str} {mean : ExcName → Option Value} {mg mb : Str → Option Value} {dp un : Nat} {gd : Option (List Code)} {cn : Str} {nms : List (Str × NameKind)} {ig ic : Bool} {mo : List (Str × Const)} {a : Addr} {ccd : Value} {cl : List (Str × Addr)} {outer : List Env} {A₀ : Around} {base h₀ : Heap} {L : Addr} {m : Str → Option Value} {s : Shared} {Q E : Value → Shared → Prop} {dsp ls lc lk lm dlm wk : Addr} {ks0 ks1 ks2 ks3 ks4 ks5 ks6 ks7 ks8 kr kt tp t1 : Tok} {ka0 kb0 ka1 kb1 ka2 kb2 ka3 kb3 ka4 kb4 ka5 kb5 ka6 kb6 ka7 kb7 ka8 kb8 ka9 kb9 : Tok} {ra rb rc rd re pc : Int} {tra trb trc trd tre : Tok} {ns : Nat} {rest : List (Addr × Obj)}
    (B : Below A₀ base outer h₀) (F : Fr h₀ L s.heap m) (X : (hd.heap_1 w.params).In h₀) (N : News h₀ L s.heap ((dsp, dictOf [⟨PyData.keyHash w.params (Str.ofString "code"), .str (Str.ofString "code") ks0, .ref lc⟩, ⟨PyData.keyHash w.params (Str.ofString "constants"), .str (Str.ofString "constants") ks1, .ref lk⟩, ⟨PyData.keyHash w.params (Str.ofString "stack"), .str (Str.ofString "stack") ks2, .ref ls⟩, ⟨PyData.keyHash w.params (Str.ofString "room"), .str (Str.ofString "room") ks3, .int 5 kr⟩, ⟨PyData.keyHash w.params (Str.ofString "limits"), .str (Str.ofString "limits") ks4, .ref lm⟩, ⟨PyData.keyHash w.params (Str.ofString "works"), .str (Str.ofString "works") ks5, .ref wk⟩, ⟨PyData.keyHash w.params (Str.ofString "pc"), .str (Str.ofString "pc") ks6, .int pc tp⟩, ⟨PyData.keyHash w.params (Str.ofString "top"), .str (Str.ofString "top") ks7, .int 5 kt⟩, ⟨PyData.keyHash w.params (Str.ofString "result"), .str (Str.ofString "result") ks8, .none⟩] 9) :: (ls, listOf [.int ra tra, .int rb trb, .int rc trc, .int rd trd, .int re tre, .none, .none, .none, .none, .none, .none, .none, .none, .none, .none, .none, .none].toArray ns) :: rest)) (T : Top p loose mean mg mb h₀) (hdp : dp + 50 < recursionLimit) (hun : un + 500 < cLine)
    (hoff : OwnOff rest [dsp, ls]) (hne : dsp ≠ ls) (hlm : (lm, instObj 95 dlm) ∈ rest) (hdlm : (dlm, dictOf [⟨PyData.keyHash w.params (Str.ofString "width"), .str (Str.ofString "width") ka0, .int 16 kb0⟩, ⟨PyData.keyHash w.params (Str.ofString "registers"), .str (Str.ofString "registers") ka1, .int 250 kb1⟩, ⟨PyData.keyHash w.params (Str.ofString "upvalues"), .str (Str.ofString "upvalues") ka2, .int 60 kb2⟩, ⟨PyData.keyHash w.params (Str.ofString "local_names"), .str (Str.ofString "local_names") ka3, .int 200 kb3⟩, ⟨PyData.keyHash w.params (Str.ofString "ccalls"), .str (Str.ofString "ccalls") ka4, .int 40 kb4⟩, ⟨PyData.keyHash w.params (Str.ofString "frames"), .str (Str.ofString "frames") ka5, .int 200 kb5⟩, ⟨PyData.keyHash w.params (Str.ofString "stack"), .str (Str.ofString "stack") ka6, .int 2000 kb6⟩, ⟨PyData.keyHash w.params (Str.ofString "flush"), .str (Str.ofString "flush") ka7, .int 50 kb7⟩, ⟨PyData.keyHash w.params (Str.ofString "steps"), .str (Str.ofString "steps") ka8, .int 1000000000 kb8⟩, ⟨PyData.keyHash w.params (Str.ofString "text"), .str (Str.ofString "text") ka9, .int 1000000 kb9⟩] 10) ∈ rest) (hretT : ∀ (v : Int) (tv tw : Tok) (h' : Heap) (tk' : Nat), v = wrp (rb + rd) → ((0 < rd ∧ v ≤ rc) ∨ (rd ≤ 0 ∧ rc ≤ v)) → Fr h₀ L h' m → News h₀ L h' ((dsp, dictOf [⟨PyData.keyHash w.params (Str.ofString "code"), .str (Str.ofString "code") ks0, .ref lc⟩, ⟨PyData.keyHash w.params (Str.ofString "constants"), .str (Str.ofString "constants") ks1, .ref lk⟩, ⟨PyData.keyHash w.params (Str.ofString "stack"), .str (Str.ofString "stack") ks2, .ref ls⟩, ⟨PyData.keyHash w.params (Str.ofString "room"), .str (Str.ofString "room") ks3, .int 5 kr⟩, ⟨PyData.keyHash w.params (Str.ofString "limits"), .str (Str.ofString "limits") ks4, .ref lm⟩, ⟨PyData.keyHash w.params (Str.ofString "works"), .str (Str.ofString "works") ks5, .ref wk⟩, ⟨PyData.keyHash w.params (Str.ofString "pc"), .str (Str.ofString "pc") ks6, .int pc tp⟩, ⟨PyData.keyHash w.params (Str.ofString "top"), .str (Str.ofString "top") ks7, .int 5 kt⟩, ⟨PyData.keyHash w.params (Str.ofString "result"), .str (Str.ofString "result") ks8, .none⟩] 9) :: (ls, listOf [.int ra tra, .int v tv, .int rc trc, .int rd trd, .int v tw, .none, .none, .none, .none, .none, .none, .none, .none, .none, .none, .none, .none].toArray ns) :: rest) → Q (.bool true) { s with heap := h', toks := tk' })
    (hret : ∀ (v : Int) (h' : Heap) (tk' : Nat), v = wrp (rb + rd) → ¬ ((0 < rd ∧ v ≤ rc) ∨ (rd ≤ 0 ∧ rc ≤ v)) → Fr h₀ L h' m → News h₀ L h' ((dsp, dictOf [⟨PyData.keyHash w.params (Str.ofString "code"), .str (Str.ofString "code") ks0, .ref lc⟩, ⟨PyData.keyHash w.params (Str.ofString "constants"), .str (Str.ofString "constants") ks1, .ref lk⟩, ⟨PyData.keyHash w.params (Str.ofString "stack"), .str (Str.ofString "stack") ks2, .ref ls⟩, ⟨PyData.keyHash w.params (Str.ofString "room"), .str (Str.ofString "room") ks3, .int 5 kr⟩, ⟨PyData.keyHash w.params (Str.ofString "limits"), .str (Str.ofString "limits") ks4, .ref lm⟩, ⟨PyData.keyHash w.params (Str.ofString "works"), .str (Str.ofString "works") ks5, .ref wk⟩, ⟨PyData.keyHash w.params (Str.ofString "pc"), .str (Str.ofString "pc") ks6, .int pc tp⟩, ⟨PyData.keyHash w.params (Str.ofString "top"), .str (Str.ofString "top") ks7, .int 5 kt⟩, ⟨PyData.keyHash w.params (Str.ofString "result"), .str (Str.ofString "result") ks8, .none⟩] 9) :: (ls, listOf [.int ra tra, .int rb trb, .int rc trc, .int rd trd, .int re tre, .none, .none, .none, .none, .none, .none, .none, .none, .none, .none, .none, .none].toArray ns) :: rest) → Q (.bool false) { s with heap := h', toks := tk' }) :
    wpAny (model PySem.Challenge.rw_tk0059_01.row.prog w) (ktrTop dp un gd cn (Scope.mk ScopeKind.function nms ig ic mo) L a ccd cl outer) (call (.ref 371) [.ref ls, .int 1 t1, .ref lm]) Q E s := by
  revert X; k_fill; intro X
  have hk : (Scope.mk ScopeKind.function nms ig ic mo).kind = ScopeKind.function := rfl
  have hMk := kstMark
  refine wpAny_call ?_
  k_dflt cell_enter
  k_steps
  all_goals first
    | (refine' hretT _ _ _ _ _ ?e9 ?g9 ?F9 ?N9; (case N9 => (rename News _ _ _ _ => nE; refine kst_newsOf nE ?_; ((repeat (refine sub_cons (by k_memK) ?_)); first | exact List.forall_mem_nil _ | (intro p hp; k_ownIn)))); (case F9 => (rename Fr _ _ _ _ => fE; exact fE)); (case e9 => assumption); (case g9 => omega))
    | (refine' hret _ _ _ ?e9 ?g9 ?F9 ?N9; (case N9 => (rename News _ _ _ _ => nE; refine kst_newsOf nE ?_; ((repeat (refine sub_cons (by k_memK) ?_)); first | exact List.forall_mem_nil _ | (intro p hp; k_ownIn)))); (case F9 => (rename Fr _ _ _ _ => fE; exact fE)); (case e9 => assumption); (case g9 => omega))
    | trace_state
theorem w_I11_1 : True := by
  k_with_none
  trivial
theorem w_I11_2 : True := by
  k_with "eval Call" => ((with_reducible show wpAny _ _ (eval (Expr.Call (Expr.Name _ _) _ [] _) _) _ _ _); k_dflt (refine Call_ ?_))
  k_with "subscriptTail" => (k_here; (with_reducible show wpAny _ _ (subscriptTail _ _ (Value.ref _) (Value.int _ _)) _ _ _); k_dflt (refine' my_item ?l ?a ?b ?d ?_; (case l => exact News.isList (by k_asm) (by k_mem)); (case a => decide); (case b => decide); (case d => rfl); k_whole))
  k_with "subscriptTail Name BinOp ref int" => (k_here; (with_reducible show wpAny _ _ (subscriptTail _ _ (Value.ref _) (Value.int _ _)) _ _ _); k_dflt (refine' my_item ?l ?a ?b ?d ?_; (case l => exact News.isList (by k_asm) (by k_mem)); (case a => decide); (case b => decide); (case d => rfl); k_whole))
  k_with "subscriptTail Name Name ref int" => (k_here; (with_reducible show wpAny _ _ (subscriptTail _ _ (Value.ref _) (Value.int _ _)) _ _ _); k_dflt (refine' my_item ?l ?a ?b ?d ?_; (case l => exact News.isList (by k_asm) (by k_mem)); (case a => decide); (case b => decide); (case d => rfl); k_whole))
  k_with "subscriptTail Attribute Name ref int" => (k_here; (with_reducible show wpAny _ _ (subscriptTail _ _ (Value.ref _) (Value.int _ _)) _ _ _); k_dflt (refine' my_item ?l ?a ?b ?d ?_; (case l => exact News.isList (by k_asm) (by k_mem)); (case a => decide); (case b => decide); (case d => rfl); k_whole))
  k_with "subscriptTail Name Call ref int" => (k_here; (with_reducible show wpAny _ _ (subscriptTail _ _ (Value.ref _) (Value.int _ _)) _ _ _); k_dflt (refine' my_item ?l ?a ?b ?d ?_; (case l => exact News.isList (by k_asm) (by k_mem)); (case a => decide); (case b => decide); (case d => rfl); k_whole))
  k_with "subscriptTail Attribute Call ref int" => (k_here; (with_reducible show wpAny _ _ (subscriptTail _ _ (Value.ref _) (Value.int _ _)) _ _ _); k_dflt (refine' my_item ?l ?a ?b ?d ?_; (case l => exact News.isList (by k_asm) (by k_mem)); (case a => decide); (case b => decide); (case d => rfl); k_whole))
  k_with "subscriptTail Attribute BinOp ref int" => (k_here; (with_reducible show wpAny _ _ (subscriptTail _ _ (Value.ref _) (Value.int _ _)) _ _ _); k_dflt (refine' my_item ?l ?a ?b ?d ?_; (case l => exact News.isList (by k_asm) (by k_mem)); (case a => decide); (case b => decide); (case d => rfl); k_whole))
  k_with "subscriptTail Name Constant ref int" => (k_here; (with_reducible show wpAny _ _ (subscriptTail _ _ (Value.ref _) (Value.int _ _)) _ _ _); k_dflt (refine' my_item ?l ?a ?b ?d ?_; (case l => exact News.isList (by k_asm) (by k_mem)); (case a => decide); (case b => decide); (case d => rfl); k_whole))
  k_with "subscriptTail Attribute IfExp ref int" => (k_here; (with_reducible show wpAny _ _ (subscriptTail _ _ (Value.ref _) (Value.int _ _)) _ _ _); k_dflt (refine' my_item ?l ?a ?b ?d ?_; (case l => exact News.isList (by k_asm) (by k_mem)); (case a => decide); (case b => decide); (case d => rfl); k_whole))
  k_with "subscriptTail Name Subscript ref int" => (k_here; (with_reducible show wpAny _ _ (subscriptTail _ _ (Value.ref _) (Value.int _ _)) _ _ _); k_dflt (refine' my_item ?l ?a ?b ?d ?_; (case l => exact News.isList (by k_asm) (by k_mem)); (case a => decide); (case b => decide); (case d => rfl); k_whole))
  k_with "call ref" => (k_here; (with_reducible show wpAny _ _ (call (Value.ref 28) [Value.int _ _]) _ _ _); k_dflt (refine' op_of_ok ?B ?F ?X ?N ?T ?hdp ?hun ?e ?h0 ?h1 ?_; (case B => k_asm); (case F => k_asm); (case X => k_asm); (case N => k_asm); (case T => k_asm); (case hdp => ktr_room); (case hun => ktr_units); (case e => first | (simp only [Int.reduceMul, Int.reduceAdd, Int.reduceSub, Int.reduceDiv, Int.reduceMod]; done) | (simp only [Int.reduceMul, Int.reduceAdd, Int.reduceSub, Int.reduceDiv, Int.reduceMod]; rfl)); (case h0 => decide); (case h1 => decide); k_whole); intro t9 h9 tk9 F9 N9; (try dsimp only); (try k_sweep); (try k_fold))
  k_with "call ref" => (k_here; (with_reducible show wpAny _ _ (call (Value.ref 35) [Value.int _ _]) _ _ _); k_dflt (refine' a_of_ok ?B ?F ?X ?N ?T ?hdp ?hun ?e ?h0 ?h1 ?_; (case B => k_asm); (case F => k_asm); (case X => k_asm); (case N => k_asm); (case T => k_asm); (case hdp => ktr_room); (case hun => ktr_units); (case e => first | (simp only [Int.reduceMul, Int.reduceAdd, Int.reduceSub, Int.reduceDiv, Int.reduceMod]; done) | (simp only [Int.reduceMul, Int.reduceAdd, Int.reduceSub, Int.reduceDiv, Int.reduceMod]; rfl)); (case h0 => decide); (case h1 => decide); k_whole); intro t9 h9 tk9 F9 N9; (try dsimp only); (try k_sweep); (try k_fold))
  k_with "call ref" => (k_here; (with_reducible show wpAny _ _ (call (Value.ref 42) [Value.int _ _]) _ _ _); k_dflt (refine' b_of_ok ?B ?F ?X ?N ?T ?hdp ?hun ?e ?h0 ?h1 ?_; (case B => k_asm); (case F => k_asm); (case X => k_asm); (case N => k_asm); (case T => k_asm); (case hdp => ktr_room); (case hun => ktr_units); (case e => first | (simp only [Int.reduceMul, Int.reduceAdd, Int.reduceSub, Int.reduceDiv, Int.reduceMod]; done) | (simp only [Int.reduceMul, Int.reduceAdd, Int.reduceSub, Int.reduceDiv, Int.reduceMod]; rfl)); (case h0 => decide); (case h1 => decide); k_whole); intro t9 h9 tk9 F9 N9; (try dsimp only); (try k_sweep); (try k_fold))
  k_with "call ref" => (k_here; (with_reducible show wpAny _ _ (call (Value.ref 49) [Value.int _ _]) _ _ _); k_dflt (refine' c_of_ok ?B ?F ?X ?N ?T ?hdp ?hun ?e ?h0 ?h1 ?_; (case B => k_asm); (case F => k_asm); (case X => k_asm); (case N => k_asm); (case T => k_asm); (case hdp => ktr_room); (case hun => ktr_units); (case e => first | (simp only [Int.reduceMul, Int.reduceAdd, Int.reduceSub, Int.reduceDiv, Int.reduceMod]; done) | (simp only [Int.reduceMul, Int.reduceAdd, Int.reduceSub, Int.reduceDiv, Int.reduceMod]; rfl)); (case h0 => decide); (case h1 => decide); k_whole); intro t9 h9 tk9 F9 N9; (try dsimp only); (try k_sweep); (try k_fold))
  k_with "call ref" => (k_here; (with_reducible show wpAny _ _ (call (Value.ref 63) [Value.int _ _]) _ _ _); k_dflt (refine' jump_of_ok ?B ?F ?X ?N ?T ?hdp ?hun ?e ?h0 ?h1 ?_; (case B => k_asm); (case F => k_asm); (case X => k_asm); (case N => k_asm); (case T => k_asm); (case hdp => ktr_room); (case hun => ktr_units); (case e => first | (simp only [Int.reduceMul, Int.reduceAdd, Int.reduceSub, Int.reduceDiv, Int.reduceMod]; done) | (simp only [Int.reduceMul, Int.reduceAdd, Int.reduceSub, Int.reduceDiv, Int.reduceMod]; rfl)); (case h0 => decide); (case h1 => decide); k_whole); intro t9 h9 tk9 F9 N9; (try dsimp only); (try k_sweep); (try k_fold))
  k_with "call ref" => (k_here; (with_reducible show wpAny _ _ (call (Value.ref 359) [Value.ref _, Value.int _ _, Value.ref _]) _ _ _); k_dflt (refine' rb_ok ?B ?F ?X ?N ?T ?hdp ?hun ?hoff ?hne ?hlm ?hdlm ?_; (case B => k_asm); (case F => k_asm); (case X => k_asm); (case N => k_asm); (case T => k_asm); (case hdp => ktr_room); (case hun => ktr_units); (case hoff => assumption); (case hne => assumption); (case hlm => k_mem); (case hdlm => k_mem); k_whole); intro t9 v9 a9 b9 c9 h9 tk9 e9 F9 N9; (try dsimp only at N9); (try dsimp only); (try k_sweep); (try k_fold))
  k_with "call ref" => (k_here; (with_reducible show wpAny _ _ (call (Value.ref 364) [Value.ref _, Value.int _ _]) _ _ _); k_dflt (refine' rw_ok ?B ?F ?X ?N ?T ?hdp ?hun ?hoff ?hne ?_; (case B => k_asm); (case F => k_asm); (case X => k_asm); (case N => k_asm); (case T => k_asm); (case hdp => ktr_room); (case hun => ktr_units); (case hoff => assumption); (case hne => assumption); k_whole); intro t9 h9 tk9 F9 N9; (try dsimp only at N9); (try dsimp only); (try k_sweep); (try k_fold))
  k_with "call ref" => (k_here; (with_reducible show wpAny _ _ (call (Value.ref 371) [Value.ref _, Value.int _ _, Value.ref _]) _ _ _); k_dflt (refine' rg_ok ?B ?F ?X ?N ?T ?hdp ?hun ?hoff ?hne ?hlm ?hdlm ?hT ?hF; (case B => k_asm); (case F => k_asm); (case X => k_asm); (case N => k_asm); (case T => k_asm); (case hdp => ktr_room); (case hun => ktr_units); (case hoff => assumption); (case hne => assumption); (case hlm => k_mem); (case hdlm => k_mem)); (case' hT => (k_whole; intro v9 t9 u9 h9 tk9 e9 g9 F9 N9; (try dsimp only); (try dsimp only at N9); (try k_sweep); (try k_fold))); (case' hF => (k_whole; intro v9 h9 tk9 e9 g9 F9 N9; (try dsimp only); (try dsimp only at N9); (try k_sweep); (try k_fold))))
  trivial
theorem do_prep {w : World} {p : Program} {loose : List Str} {mean : ExcName → Option Value} {mg mb : Str → Option Value} {dp un : Nat} {gd : Option (List Code)} {cn : Str} {nms : List (Str × NameKind)} {ig ic : Bool} {mo : List (Str × Const)} {a : Addr} {ccd : Value} {cl : List (Str × Addr)} {outer : List Env} {A₀ : Around} {base h₀ : Heap} {L : Addr} {m : Str → Option Value} {s : Shared} {Q E : Value → Shared → Prop} {sp dsp ls lc lk lm dlm wk : Addr} {ks0 ks1 ks2 ks3 ks4 ks5 ks6 ks7 ks8 kr kt tp t0 t1 : Tok} {ka0 kb0 ka1 kb1 ka2 kb2 ka3 kb3 ka4 kb4 ka5 kb5 ka6 kb6 ka7 kb7 ka8 kb8 ka9 kb9 : Tok} {ra rb rc rd re pc : Int} {tra trb trc trd tre : Tok} {ns : Nat} {rest : List (Addr × Obj)}
    (B : Below A₀ base outer h₀) (F : Fr h₀ L s.heap m) (X : (hd.heap_1 w.params).In h₀) (N : News h₀ L s.heap ((dsp, dictOf [⟨PyData.keyHash w.params (Str.ofString "code"), .str (Str.ofString "code") ks0, .ref lc⟩, ⟨PyData.keyHash w.params (Str.ofString "constants"), .str (Str.ofString "constants") ks1, .ref lk⟩, ⟨PyData.keyHash w.params (Str.ofString "stack"), .str (Str.ofString "stack") ks2, .ref ls⟩, ⟨PyData.keyHash w.params (Str.ofString "room"), .str (Str.ofString "room") ks3, .int 5 kr⟩, ⟨PyData.keyHash w.params (Str.ofString "limits"), .str (Str.ofString "limits") ks4, .ref lm⟩, ⟨PyData.keyHash w.params (Str.ofString "works"), .str (Str.ofString "works") ks5, .ref wk⟩, ⟨PyData.keyHash w.params (Str.ofString "pc"), .str (Str.ofString "pc") ks6, .int pc tp⟩, ⟨PyData.keyHash w.params (Str.ofString "top"), .str (Str.ofString "top") ks7, .int 5 kt⟩, ⟨PyData.keyHash w.params (Str.ofString "result"), .str (Str.ofString "result") ks8, .none⟩] 9) :: (ls, listOf [.int ra tra, .int rb trb, .int rc trc, .int rd trd, .int re tre, .none, .none, .none, .none, .none, .none, .none, .none, .none, .none, .none, .none].toArray ns) :: rest)) (T : Top p loose mean mg mb h₀) (hdp : dp + 70 < recursionLimit) (hun : un + 700 < cLine)
    (hoff : OwnOff rest [dsp, ls]) (hne : dsp ≠ ls) (hsp : (sp, instObj 508 dsp) ∈ rest) (hlm : (lm, instObj 95 dlm) ∈ rest) (hdlm : (dlm, dictOf [⟨PyData.keyHash w.params (Str.ofString "width"), .str (Str.ofString "width") ka0, .int 16 kb0⟩, ⟨PyData.keyHash w.params (Str.ofString "registers"), .str (Str.ofString "registers") ka1, .int 250 kb1⟩, ⟨PyData.keyHash w.params (Str.ofString "upvalues"), .str (Str.ofString "upvalues") ka2, .int 60 kb2⟩, ⟨PyData.keyHash w.params (Str.ofString "local_names"), .str (Str.ofString "local_names") ka3, .int 200 kb3⟩, ⟨PyData.keyHash w.params (Str.ofString "ccalls"), .str (Str.ofString "ccalls") ka4, .int 40 kb4⟩, ⟨PyData.keyHash w.params (Str.ofString "frames"), .str (Str.ofString "frames") ka5, .int 200 kb5⟩, ⟨PyData.keyHash w.params (Str.ofString "stack"), .str (Str.ofString "stack") ka6, .int 2000 kb6⟩, ⟨PyData.keyHash w.params (Str.ofString "flush"), .str (Str.ofString "flush") ka7, .int 50 kb7⟩, ⟨PyData.keyHash w.params (Str.ofString "steps"), .str (Str.ofString "steps") ka8, .int 1000000000 kb8⟩, ⟨PyData.keyHash w.params (Str.ofString "text"), .str (Str.ofString "text") ka9, .int 1000000 kb9⟩] 10) ∈ rest)
    (hret : ∀ (v : Int) (tv ty tz tp' : Tok) (h' : Heap) (tk' : Nat), v = wrp (rb - rd) → Fr h₀ L h' m → News h₀ L h' ((dsp, dictOf [⟨PyData.keyHash w.params (Str.ofString "code"), .str (Str.ofString "code") ks0, .ref lc⟩, ⟨PyData.keyHash w.params (Str.ofString "constants"), .str (Str.ofString "constants") ks1, .ref lk⟩, ⟨PyData.keyHash w.params (Str.ofString "stack"), .str (Str.ofString "stack") ks2, .ref ls⟩, ⟨PyData.keyHash w.params (Str.ofString "room"), .str (Str.ofString "room") ks3, .int 5 kr⟩, ⟨PyData.keyHash w.params (Str.ofString "limits"), .str (Str.ofString "limits") ks4, .ref lm⟩, ⟨PyData.keyHash w.params (Str.ofString "works"), .str (Str.ofString "works") ks5, .ref wk⟩, ⟨PyData.keyHash w.params (Str.ofString "pc"), .str (Str.ofString "pc") ks6, .int (pc + 1) tp'⟩, ⟨PyData.keyHash w.params (Str.ofString "top"), .str (Str.ofString "top") ks7, .int 5 kt⟩, ⟨PyData.keyHash w.params (Str.ofString "result"), .str (Str.ofString "result") ks8, .none⟩] 9) :: (ls, listOf [.int ra tra, .int v tv, .int rc ty, .int rd tz, .int re tre, .none, .none, .none, .none, .none, .none, .none, .none, .none, .none, .none, .none].toArray ns) :: rest) → Q (.bool true) { s with heap := h', toks := tk' }) :
    wpAny (model PySem.Challenge.rw_tk0059_01.row.prog w) (ktrTop dp un gd cn (Scope.mk ScopeKind.function nms ig ic mo) L a ccd cl outer) (call (.ref 484) [.ref sp, .int 32 t0, .int 2147483744 t1]) Q E s := by
  revert X; k_fill; intro X
  have hk : (Scope.mk ScopeKind.function nms ig ic mo).kind = ScopeKind.function := rfl
  have hMk := kstMark
  refine wpAny_call ?_
  k_dflt cell_enter
  k_steps
  all_goals first
    | (refine' hret _ _ _ _ _ _ _ ?e9 ?F9 ?N9; (case N9 => (rename News _ _ _ _ => nE; refine kst_newsOf nE ?_; ((repeat (refine sub_cons (by k_memK) ?_)); first | exact List.forall_mem_nil _ | (intro p hp; k_ownIn)))); (case F9 => (rename Fr _ _ _ _ => fE; exact fE)); (case e9 => assumption))
    | trace_state

theorem do_loop {w : World} {p : Program} {loose : List Str} {mean : ExcName → Option Value} {mg mb : Str → Option Value} {dp un : Nat} {gd : Option (List Code)} {cn : Str} {nms : List (Str × NameKind)} {ig ic : Bool} {mo : List (Str × Const)} {a : Addr} {ccd : Value} {cl : List (Str × Addr)} {outer : List Env} {A₀ : Around} {base h₀ : Heap} {L : Addr} {m : Str → Option Value} {s : Shared} {Q E : Value → Shared → Prop} {sp dsp ls lc lk lm dlm wk : Addr} {ks0 ks1 ks2 ks3 ks4 ks5 ks6 ks7 ks8 kr kt tp t0 t1 : Tok} {ka0 kb0 ka1 kb1 ka2 kb2 ka3 kb3 ka4 kb4 ka5 kb5 ka6 kb6 ka7 kb7 ka8 kb8 ka9 kb9 : Tok} {ra rb rc rd re pc : Int} {tra trb trc trd tre : Tok} {ns : Nat} {rest : List (Addr × Obj)}
    (B : Below A₀ base outer h₀) (F : Fr h₀ L s.heap m) (X : (hd.heap_1 w.params).In h₀) (N : News h₀ L s.heap ((dsp, dictOf [⟨PyData.keyHash w.params (Str.ofString "code"), .str (Str.ofString "code") ks0, .ref lc⟩, ⟨PyData.keyHash w.params (Str.ofString "constants"), .str (Str.ofString "constants") ks1, .ref lk⟩, ⟨PyData.keyHash w.params (Str.ofString "stack"), .str (Str.ofString "stack") ks2, .ref ls⟩, ⟨PyData.keyHash w.params (Str.ofString "room"), .str (Str.ofString "room") ks3, .int 5 kr⟩, ⟨PyData.keyHash w.params (Str.ofString "limits"), .str (Str.ofString "limits") ks4, .ref lm⟩, ⟨PyData.keyHash w.params (Str.ofString "works"), .str (Str.ofString "works") ks5, .ref wk⟩, ⟨PyData.keyHash w.params (Str.ofString "pc"), .str (Str.ofString "pc") ks6, .int pc tp⟩, ⟨PyData.keyHash w.params (Str.ofString "top"), .str (Str.ofString "top") ks7, .int 5 kt⟩, ⟨PyData.keyHash w.params (Str.ofString "result"), .str (Str.ofString "result") ks8, .none⟩] 9) :: (ls, listOf [.int ra tra, .int rb trb, .int rc trc, .int rd trd, .int re tre, .none, .none, .none, .none, .none, .none, .none, .none, .none, .none, .none, .none].toArray ns) :: rest)) (T : Top p loose mean mg mb h₀) (hdp : dp + 70 < recursionLimit) (hun : un + 700 < cLine)
    (hoff : OwnOff rest [dsp, ls]) (hne : dsp ≠ ls) (hsp : (sp, instObj 508 dsp) ∈ rest) (hlm : (lm, instObj 95 dlm) ∈ rest) (hdlm : (dlm, dictOf [⟨PyData.keyHash w.params (Str.ofString "width"), .str (Str.ofString "width") ka0, .int 16 kb0⟩, ⟨PyData.keyHash w.params (Str.ofString "registers"), .str (Str.ofString "registers") ka1, .int 250 kb1⟩, ⟨PyData.keyHash w.params (Str.ofString "upvalues"), .str (Str.ofString "upvalues") ka2, .int 60 kb2⟩, ⟨PyData.keyHash w.params (Str.ofString "local_names"), .str (Str.ofString "local_names") ka3, .int 200 kb3⟩, ⟨PyData.keyHash w.params (Str.ofString "ccalls"), .str (Str.ofString "ccalls") ka4, .int 40 kb4⟩, ⟨PyData.keyHash w.params (Str.ofString "frames"), .str (Str.ofString "frames") ka5, .int 200 kb5⟩, ⟨PyData.keyHash w.params (Str.ofString "stack"), .str (Str.ofString "stack") ka6, .int 2000 kb6⟩, ⟨PyData.keyHash w.params (Str.ofString "flush"), .str (Str.ofString "flush") ka7, .int 50 kb7⟩, ⟨PyData.keyHash w.params (Str.ofString "steps"), .str (Str.ofString "steps") ka8, .int 1000000000 kb8⟩, ⟨PyData.keyHash w.params (Str.ofString "text"), .str (Str.ofString "text") ka9, .int 1000000 kb9⟩] 10) ∈ rest) (hretT : ∀ (v : Int) (tv tw tp' : Tok) (h' : Heap) (tk' : Nat), v = wrp (rb + rd) → ((0 < rd ∧ v ≤ rc) ∨ (rd ≤ 0 ∧ rc ≤ v)) → Fr h₀ L h' m → News h₀ L h' ((dsp, dictOf [⟨PyData.keyHash w.params (Str.ofString "code"), .str (Str.ofString "code") ks0, .ref lc⟩, ⟨PyData.keyHash w.params (Str.ofString "constants"), .str (Str.ofString "constants") ks1, .ref lk⟩, ⟨PyData.keyHash w.params (Str.ofString "stack"), .str (Str.ofString "stack") ks2, .ref ls⟩, ⟨PyData.keyHash w.params (Str.ofString "room"), .str (Str.ofString "room") ks3, .int 5 kr⟩, ⟨PyData.keyHash w.params (Str.ofString "limits"), .str (Str.ofString "limits") ks4, .ref lm⟩, ⟨PyData.keyHash w.params (Str.ofString "works"), .str (Str.ofString "works") ks5, .ref wk⟩, ⟨PyData.keyHash w.params (Str.ofString "pc"), .str (Str.ofString "pc") ks6, .int (pc + -2) tp'⟩, ⟨PyData.keyHash w.params (Str.ofString "top"), .str (Str.ofString "top") ks7, .int 5 kt⟩, ⟨PyData.keyHash w.params (Str.ofString "result"), .str (Str.ofString "result") ks8, .none⟩] 9) :: (ls, listOf [.int ra tra, .int v tv, .int rc trc, .int rd trd, .int v tw, .none, .none, .none, .none, .none, .none, .none, .none, .none, .none, .none, .none].toArray ns) :: rest) → Q (.bool true) { s with heap := h', toks := tk' })
    (hret : ∀ (v : Int) (tp' : Tok) (h' : Heap) (tk' : Nat), v = wrp (rb + rd) → ¬ ((0 < rd ∧ v ≤ rc) ∨ (rd ≤ 0 ∧ rc ≤ v)) → Fr h₀ L h' m → News h₀ L h' ((dsp, dictOf [⟨PyData.keyHash w.params (Str.ofString "code"), .str (Str.ofString "code") ks0, .ref lc⟩, ⟨PyData.keyHash w.params (Str.ofString "constants"), .str (Str.ofString "constants") ks1, .ref lk⟩, ⟨PyData.keyHash w.params (Str.ofString "stack"), .str (Str.ofString "stack") ks2, .ref ls⟩, ⟨PyData.keyHash w.params (Str.ofString "room"), .str (Str.ofString "room") ks3, .int 5 kr⟩, ⟨PyData.keyHash w.params (Str.ofString "limits"), .str (Str.ofString "limits") ks4, .ref lm⟩, ⟨PyData.keyHash w.params (Str.ofString "works"), .str (Str.ofString "works") ks5, .ref wk⟩, ⟨PyData.keyHash w.params (Str.ofString "pc"), .str (Str.ofString "pc") ks6, .int (pc + 0) tp'⟩, ⟨PyData.keyHash w.params (Str.ofString "top"), .str (Str.ofString "top") ks7, .int 5 kt⟩, ⟨PyData.keyHash w.params (Str.ofString "result"), .str (Str.ofString "result") ks8, .none⟩] 9) :: (ls, listOf [.int ra tra, .int rb trb, .int rc trc, .int rd trd, .int re tre, .none, .none, .none, .none, .none, .none, .none, .none, .none, .none, .none, .none].toArray ns) :: rest) → Q (.bool true) { s with heap := h', toks := tk' }) :
    wpAny (model PySem.Challenge.rw_tk0059_01.row.prog w) (ktrTop dp un gd cn (Scope.mk ScopeKind.function nms ig ic mo) L a ccd cl outer) (call (.ref 484) [.ref sp, .int 31 t0, .int 2147434591 t1]) Q E s := by
  revert X; k_fill; intro X
  have hk : (Scope.mk ScopeKind.function nms ig ic mo).kind = ScopeKind.function := rfl
  have hMk := kstMark
  refine wpAny_call ?_
  k_dflt cell_enter
  k_steps
  all_goals first
    | (refine' hretT _ _ _ _ _ _ ?e9 ?g9 ?F9 ?N9; (case N9 => (rename News _ _ _ _ => nE; refine kst_newsOf nE ?_; ((repeat (refine sub_cons (by k_memK) ?_)); first | exact List.forall_mem_nil _ | (intro p hp; k_ownIn)))); (case F9 => (rename Fr _ _ _ _ => fE; exact fE)); (case e9 => assumption); (case g9 => assumption))
    | (refine' hret _ _ _ _ ?e9 ?g9 ?F9 ?N9; (case N9 => (rename News _ _ _ _ => nE; refine kst_newsOf nE ?_; ((repeat (refine sub_cons (by k_memK) ?_)); first | exact List.forall_mem_nil _ | (intro p hp; k_ownIn)))); (case F9 => (rename Fr _ _ _ _ => fE; exact fE)); (case e9 => assumption); (case g9 => assumption))
    | trace_state
theorem w_D1_1 : True := by
  k_with_none
  trivial
def DoTells (w : World) (p : Program) (loose : List Str) (mean : ExcName → Option Value) (mg mb : Str → Option Value) (sp dsp ls lc lk lm wk : Addr) (ks0 ks1 ks2 ks3 ks4 ks5 ks6 ks7 ks8 kr kt : Tok) (ns : Nat) (rest : List (Addr × Obj)) (f : Addr) (d u : Nat) (op i pc : Int) (vs : List Value) (R : Int → List Value → Prop) : Prop :=
  ∀ (dp un : Nat) (gd : Option (List Code)) (cn : Str) (nms : List (Str × NameKind)) (ig ic : Bool) (mo : List (Str × Const)) (a : Addr) (ccd : Value) (cl : List (Str × Addr)) (outer : List Env) (A₀ : Around) (base h₀ : Heap) (L : Addr) (m : Str → Option Value) (s : Shared) (Q E : Value → Shared → Prop) (tp t0 t1 : Tok), Below A₀ base outer h₀ → Fr h₀ L s.heap m → (hd.heap_1 w.params).In h₀ → News h₀ L s.heap ((dsp, dictOf [⟨PyData.keyHash w.params (Str.ofString "code"), .str (Str.ofString "code") ks0, .ref lc⟩, ⟨PyData.keyHash w.params (Str.ofString "constants"), .str (Str.ofString "constants") ks1, .ref lk⟩, ⟨PyData.keyHash w.params (Str.ofString "stack"), .str (Str.ofString "stack") ks2, .ref ls⟩, ⟨PyData.keyHash w.params (Str.ofString "room"), .str (Str.ofString "room") ks3, .int 5 kr⟩, ⟨PyData.keyHash w.params (Str.ofString "limits"), .str (Str.ofString "limits") ks4, .ref lm⟩, ⟨PyData.keyHash w.params (Str.ofString "works"), .str (Str.ofString "works") ks5, .ref wk⟩, ⟨PyData.keyHash w.params (Str.ofString "pc"), .str (Str.ofString "pc") ks6, .int pc tp⟩, ⟨PyData.keyHash w.params (Str.ofString "top"), .str (Str.ofString "top") ks7, .int 5 kt⟩, ⟨PyData.keyHash w.params (Str.ofString "result"), .str (Str.ofString "result") ks8, .none⟩] 9) :: (ls, listOf vs.toArray ns) :: rest) → Top p loose mean mg mb h₀ → dp + d < recursionLimit → un + u < cLine →
    (∀ (pc' : Int) (vs' : List Value) (tp' : Tok) (h' : Heap) (tk' : Nat), R pc' vs' → Fr h₀ L h' m → News h₀ L h' ((dsp, dictOf [⟨PyData.keyHash w.params (Str.ofString "code"), .str (Str.ofString "code") ks0, .ref lc⟩, ⟨PyData.keyHash w.params (Str.ofString "constants"), .str (Str.ofString "constants") ks1, .ref lk⟩, ⟨PyData.keyHash w.params (Str.ofString "stack"), .str (Str.ofString "stack") ks2, .ref ls⟩, ⟨PyData.keyHash w.params (Str.ofString "room"), .str (Str.ofString "room") ks3, .int 5 kr⟩, ⟨PyData.keyHash w.params (Str.ofString "limits"), .str (Str.ofString "limits") ks4, .ref lm⟩, ⟨PyData.keyHash w.params (Str.ofString "works"), .str (Str.ofString "works") ks5, .ref wk⟩, ⟨PyData.keyHash w.params (Str.ofString "pc"), .str (Str.ofString "pc") ks6, .int pc' tp'⟩, ⟨PyData.keyHash w.params (Str.ofString "top"), .str (Str.ofString "top") ks7, .int 5 kt⟩, ⟨PyData.keyHash w.params (Str.ofString "result"), .str (Str.ofString "result") ks8, .none⟩] 9) :: (ls, listOf vs'.toArray ns) :: rest) → Q (.bool true) { s with heap := h', toks := tk' }) →
    wpAny (model PySem.Challenge.rw_tk0059_01.row.prog w) (ktrTop dp un gd cn (Scope.mk ScopeKind.function nms ig ic mo) L a ccd cl outer) (call (.ref f) [.ref sp, .int op t0, .int i t1]) Q E s
def LdTells (w : World) (p : Program) (loose : List Str) (mean : ExcName → Option Value) (mg mb : Str → Option Value) (sp dsp ls lc lk lm wk : Addr) (ks0 ks1 ks2 ks3 ks4 ks5 ks6 ks7 ks8 kr kt : Tok) (ns : Nat) (rest : List (Addr × Obj)) (d u : Nat) (op i pc : Int) (vs : List Value) (R : List Value → Prop) : Prop :=
  ∀ (dp un : Nat) (gd : Option (List Code)) (cn : Str) (nms : List (Str × NameKind)) (ig ic : Bool) (mo : List (Str × Const)) (a : Addr) (ccd : Value) (cl : List (Str × Addr)) (outer : List Env) (A₀ : Around) (base h₀ : Heap) (L : Addr) (m : Str → Option Value) (s : Shared) (Q E : Value → Shared → Prop) (tp t0 t1 t2 : Tok), Below A₀ base outer h₀ → Fr h₀ L s.heap m → (hd.heap_1 w.params).In h₀ → News h₀ L s.heap ((dsp, dictOf [⟨PyData.keyHash w.params (Str.ofString "code"), .str (Str.ofString "code") ks0, .ref lc⟩, ⟨PyData.keyHash w.params (Str.ofString "constants"), .str (Str.ofString "constants") ks1, .ref lk⟩, ⟨PyData.keyHash w.params (Str.ofString "stack"), .str (Str.ofString "stack") ks2, .ref ls⟩, ⟨PyData.keyHash w.params (Str.ofString "room"), .str (Str.ofString "room") ks3, .int 5 kr⟩, ⟨PyData.keyHash w.params (Str.ofString "limits"), .str (Str.ofString "limits") ks4, .ref lm⟩, ⟨PyData.keyHash w.params (Str.ofString "works"), .str (Str.ofString "works") ks5, .ref wk⟩, ⟨PyData.keyHash w.params (Str.ofString "pc"), .str (Str.ofString "pc") ks6, .int pc tp⟩, ⟨PyData.keyHash w.params (Str.ofString "top"), .str (Str.ofString "top") ks7, .int 5 kt⟩, ⟨PyData.keyHash w.params (Str.ofString "result"), .str (Str.ofString "result") ks8, .none⟩] 9) :: (ls, listOf vs.toArray ns) :: rest) → Top p loose mean mg mb h₀ → dp + d < recursionLimit → un + u < cLine →
    (∀ (vs' : List Value) (t : Tok) (h' : Heap) (tk' : Nat), R vs' → Fr h₀ L h' m → News h₀ L h' ((dsp, dictOf [⟨PyData.keyHash w.params (Str.ofString "code"), .str (Str.ofString "code") ks0, .ref lc⟩, ⟨PyData.keyHash w.params (Str.ofString "constants"), .str (Str.ofString "constants") ks1, .ref lk⟩, ⟨PyData.keyHash w.params (Str.ofString "stack"), .str (Str.ofString "stack") ks2, .ref ls⟩, ⟨PyData.keyHash w.params (Str.ofString "room"), .str (Str.ofString "room") ks3, .int 5 kr⟩, ⟨PyData.keyHash w.params (Str.ofString "limits"), .str (Str.ofString "limits") ks4, .ref lm⟩, ⟨PyData.keyHash w.params (Str.ofString "works"), .str (Str.ofString "works") ks5, .ref wk⟩, ⟨PyData.keyHash w.params (Str.ofString "pc"), .str (Str.ofString "pc") ks6, .int pc tp⟩, ⟨PyData.keyHash w.params (Str.ofString "top"), .str (Str.ofString "top") ks7, .int 5 kt⟩, ⟨PyData.keyHash w.params (Str.ofString "result"), .str (Str.ofString "result") ks8, .none⟩] 9) :: (ls, listOf vs'.toArray ns) :: rest) → Q (.int 0 t) { s with heap := h', toks := tk' }) →
    wpAny (model PySem.Challenge.rw_tk0059_01.row.prog w) (ktrTop dp un gd cn (Scope.mk ScopeKind.function nms ig ic mo) L a ccd cl outer) (call (.ref 303) [.int op t0, .int i t1, .ref ls, .int 0 t2, .ref lk]) Q E s
def BkTells (w : World) (p : Program) (loose : List Str) (mean : ExcName → Option Value) (mg mb : Str → Option Value) (sp dsp ls lc lk lm wk : Addr) (ks0 ks1 ks2 ks3 ks4 ks5 ks6 ks7 ks8 kr kt : Tok) (ns : Nat) (rest : List (Addr × Obj)) (f : Addr) (d u : Nat) (i pc : Int) (vs rs : List Value) : Prop :=
  ∀ (dp un : Nat) (gd : Option (List Code)) (cn : Str) (nms : List (Str × NameKind)) (ig ic : Bool) (mo : List (Str × Const)) (a : Addr) (ccd : Value) (cl : List (Str × Addr)) (outer : List Env) (A₀ : Around) (base h₀ : Heap) (L : Addr) (m : Str → Option Value) (s : Shared) (Q E : Value → Shared → Prop) (tp t0 t1 : Tok), Below A₀ base outer h₀ → Fr h₀ L s.heap m → (hd.heap_1 w.params).In h₀ → News h₀ L s.heap ((dsp, dictOf [⟨PyData.keyHash w.params (Str.ofString "code"), .str (Str.ofString "code") ks0, .ref lc⟩, ⟨PyData.keyHash w.params (Str.ofString "constants"), .str (Str.ofString "constants") ks1, .ref lk⟩, ⟨PyData.keyHash w.params (Str.ofString "stack"), .str (Str.ofString "stack") ks2, .ref ls⟩, ⟨PyData.keyHash w.params (Str.ofString "room"), .str (Str.ofString "room") ks3, .int 5 kr⟩, ⟨PyData.keyHash w.params (Str.ofString "limits"), .str (Str.ofString "limits") ks4, .ref lm⟩, ⟨PyData.keyHash w.params (Str.ofString "works"), .str (Str.ofString "works") ks5, .ref wk⟩, ⟨PyData.keyHash w.params (Str.ofString "pc"), .str (Str.ofString "pc") ks6, .int pc tp⟩, ⟨PyData.keyHash w.params (Str.ofString "top"), .str (Str.ofString "top") ks7, .int 5 kt⟩, ⟨PyData.keyHash w.params (Str.ofString "result"), .str (Str.ofString "result") ks8, .none⟩] 9) :: (ls, listOf vs.toArray ns) :: rest) → Top p loose mean mg mb h₀ → dp + d < recursionLimit → un + u < cLine →
    (∀ (lr : Addr) (h' : Heap) (tk' : Nat), Fr h₀ L h' m → News h₀ L h' ((lr, listOf rs.toArray 0) :: (dsp, dictOf [⟨PyData.keyHash w.params (Str.ofString "code"), .str (Str.ofString "code") ks0, .ref lc⟩, ⟨PyData.keyHash w.params (Str.ofString "constants"), .str (Str.ofString "constants") ks1, .ref lk⟩, ⟨PyData.keyHash w.params (Str.ofString "stack"), .str (Str.ofString "stack") ks2, .ref ls⟩, ⟨PyData.keyHash w.params (Str.ofString "room"), .str (Str.ofString "room") ks3, .int 5 kr⟩, ⟨PyData.keyHash w.params (Str.ofString "limits"), .str (Str.ofString "limits") ks4, .ref lm⟩, ⟨PyData.keyHash w.params (Str.ofString "works"), .str (Str.ofString "works") ks5, .ref wk⟩, ⟨PyData.keyHash w.params (Str.ofString "pc"), .str (Str.ofString "pc") ks6, .int pc tp⟩, ⟨PyData.keyHash w.params (Str.ofString "top"), .str (Str.ofString "top") ks7, .int 5 kt⟩, ⟨PyData.keyHash w.params (Str.ofString "result"), .str (Str.ofString "result") ks8, .ref lr⟩] 9) :: (ls, listOf vs.toArray ns) :: rest) → Q (.bool true) { s with heap := h', toks := tk' }) →
    wpAny (model PySem.Challenge.rw_tk0059_01.row.prog w) (ktrTop dp un gd cn (Scope.mk ScopeKind.function nms ig ic mo) L a ccd cl outer) (call (.ref f) [.ref sp, .int 30 t0, .int i t1]) Q E s
theorem w_D1_2 : True := by
  k_with "eval Call" => ((with_reducible show wpAny _ _ (eval (Expr.Call (Expr.Name _ _) _ [] _) _) _ _ _); k_dflt (refine Call_ ?_))
  k_with "call ref" => (k_here; (with_reducible show wpAny _ _ (call (Value.ref _) [Value.ref _, Value.int _ _, Value.int _ _]) _ _ _); (rename DoTells _ _ _ _ _ _ _ _ _ _ _ _ _ _ _ _ _ _ _ _ _ _ _ _ _ _ _ _ _ _ _ _ _ _ => hTl); k_dflt (refine' hTl _ _ _ _ _ _ _ _ _ _ _ _ _ _ _ _ _ _ _ _ _ _ _ ?B ?F ?X ?N ?T ?hdp ?hun ?_; (case B => k_asm); (case F => k_asm); (case X => k_asm); (case N => k_asm); (case T => k_asm); (case hdp => ktr_room); (case hun => ktr_units); k_whole); intro p9 v9 t9 h9 tk9 r9 F9 N9; (try dsimp only); (try k_sweep); (try k_fold))
  k_with "call ref" => (k_here; (with_reducible show wpAny _ _ (call (Value.ref _) [Value.int _ _, Value.int _ _, Value.ref _, Value.int _ _, Value.ref _]) _ _ _); (rename LdTells _ _ _ _ _ _ _ _ _ _ _ _ _ _ _ _ _ _ _ _ _ _ _ _ _ _ _ _ _ _ _ _ _ => hTl); k_dflt (refine' hTl _ _ _ _ _ _ _ _ _ _ _ _ _ _ _ _ _ _ _ _ _ _ _ _ ?B ?F ?X ?N ?T ?hdp ?hun ?_; (case B => k_asm); (case F => k_asm); (case X => k_asm); (case N => k_asm); (case T => k_asm); (case hdp => ktr_room); (case hun => ktr_units); k_whole); intro v9 t9 h9 tk9 r9 F9 N9; (try dsimp only); (try k_sweep); (try k_fold))
  k_with "call ref" => (k_here; (with_reducible show wpAny _ _ (call (Value.ref _) [Value.ref _, Value.int _ _, Value.int _ _]) _ _ _); (rename BkTells _ _ _ _ _ _ _ _ _ _ _ _ _ _ _ _ _ _ _ _ _ _ _ _ _ _ _ _ _ _ _ _ _ => hTl); k_dflt (refine' hTl _ _ _ _ _ _ _ _ _ _ _ _ _ _ _ _ _ _ _ _ _ _ _ ?B ?F ?X ?N ?T ?hdp ?hun ?_; (case B => k_asm); (case F => k_asm); (case X => k_asm); (case N => k_asm); (case T => k_asm); (case hdp => ktr_room); (case hun => ktr_units); k_whole); intro l9 h9 tk9 F9 N9; (try dsimp only); (try k_sweep); (try k_fold))
  trivial
theorem done_reck {w : World} {p : Program} {loose : List Str} {mean : ExcName → Option Value} {mg mb : Str → Option Value} {sp dsp ls lc lk lm wk : Addr} {ks0 ks1 ks2 ks3 ks4 ks5 ks6 ks7 ks8 kr kt : Tok} {ns : Nat} {rest : List (Addr × Obj)} {op i pc : Int} {vs : List Value} {R : Int → List Value → Prop} (hoff : OwnOff rest [dsp, ls]) (hne : dsp ≠ ls) (hsp : (sp, instObj 508 dsp) ∈ rest) (hT : DoTells w p loose mean mg mb sp dsp ls lc lk lm wk ks0 ks1 ks2 ks3 ks4 ks5 ks6 ks7 ks8 kr kt ns rest 463 70 700 op i pc vs R) (h0 : 12 ≤ op) (h1 : op < 21) : DoTells w p loose mean mg mb sp dsp ls lc lk lm wk ks0 ks1 ks2 ks3 ks4 ks5 ks6 ks7 ks8 kr kt ns rest 449 80 800 op i pc vs R := by
  intro dp un gd cn nms ig ic mo a ccd cl outer A₀ base h₀ L m s Q E tp t0 t1 B F X N T hdp hun hret
  revert X; k_fill; intro X
  have hk : (Scope.mk ScopeKind.function nms ig ic mo).kind = ScopeKind.function := rfl
  have hMk := kstMark
  refine wpAny_call ?_
  k_dflt cell_enter
  k_steps
  all_goals first
    | (refine' hret _ _ _ _ _ ?r9 ?F9 ?N9; (case N9 => (rename News _ _ _ _ => nE; refine kst_newsOf nE ?_; ((repeat (refine sub_cons (by k_memK) ?_)); first | exact List.forall_mem_nil _ | (intro p hp; k_ownIn)))); (case F9 => (rename Fr _ _ _ _ => fE; exact fE)); (case r9 => first | assumption ))
    | trace_state

theorem done_jump {w : World} {p : Program} {loose : List Str} {mean : ExcName → Option Value} {mg mb : Str → Option Value} {sp dsp ls lc lk lm wk : Addr} {ks0 ks1 ks2 ks3 ks4 ks5 ks6 ks7 ks8 kr kt : Tok} {ns : Nat} {rest : List (Addr × Obj)} {op i pc : Int} {vs : List Value} {R : Int → List Value → Prop} (hoff : OwnOff rest [dsp, ls]) (hne : dsp ≠ ls) (hsp : (sp, instObj 508 dsp) ∈ rest) (hT : DoTells w p loose mean mg mb sp dsp ls lc lk lm wk ks0 ks1 ks2 ks3 ks4 ks5 ks6 ks7 ks8 kr kt ns rest 477 70 700 op i pc vs R) (h0 : op = 22 ∨ op = 23) : DoTells w p loose mean mg mb sp dsp ls lc lk lm wk ks0 ks1 ks2 ks3 ks4 ks5 ks6 ks7 ks8 kr kt ns rest 449 80 800 op i pc vs R := by
  rcases h0 with rfl | rfl
  all_goals (
    intro dp un gd cn nms ig ic mo a ccd cl outer A₀ base h₀ L m s Q E tp t0 t1 B F X N T hdp hun hret
    revert X; k_fill; intro X
    have hk : (Scope.mk ScopeKind.function nms ig ic mo).kind = ScopeKind.function := rfl
    have hMk := kstMark
    refine wpAny_call ?_
    k_dflt cell_enter
    k_steps
    all_goals first
      | (refine' hret _ _ _ _ _ ?r9 ?F9 ?N9; (case N9 => (rename News _ _ _ _ => nE; refine kst_newsOf nE ?_; ((repeat (refine sub_cons (by k_memK) ?_)); first | exact List.forall_mem_nil _ | (intro p hp; k_ownIn)))); (case F9 => (rename Fr _ _ _ _ => fE; exact fE)); (case r9 => first | assumption ))
      | trace_state)
theorem done_other {w : World} {p : Program} {loose : List Str} {mean : ExcName → Option Value} {mg mb : Str → Option Value} {sp dsp ls lc lk lm wk : Addr} {ks0 ks1 ks2 ks3 ks4 ks5 ks6 ks7 ks8 kr kt : Tok} {ns : Nat} {rest : List (Addr × Obj)} {op i pc : Int} {vs : List Value} {R : Int → List Value → Prop} (hoff : OwnOff rest [dsp, ls]) (hne : dsp ≠ ls) (hsp : (sp, instObj 508 dsp) ∈ rest) (hT : DoTells w p loose mean mg mb sp dsp ls lc lk lm wk ks0 ks1 ks2 ks3 ks4 ks5 ks6 ks7 ks8 kr kt ns rest 484 70 700 op i pc vs R) (h0 : op = 31 ∨ op = 32) : DoTells w p loose mean mg mb sp dsp ls lc lk lm wk ks0 ks1 ks2 ks3 ks4 ks5 ks6 ks7 ks8 kr kt ns rest 449 80 800 op i pc vs R := by
  rcases h0 with rfl | rfl
  all_goals (
    intro dp un gd cn nms ig ic mo a ccd cl outer A₀ base h₀ L m s Q E tp t0 t1 B F X N T hdp hun hret
    revert X; k_fill; intro X
    have hk : (Scope.mk ScopeKind.function nms ig ic mo).kind = ScopeKind.function := rfl
    have hMk := kstMark
    refine wpAny_call ?_
    k_dflt cell_enter
    k_steps
    all_goals first
      | (refine' hret _ _ _ _ _ ?r9 ?F9 ?N9; (case N9 => (rename News _ _ _ _ => nE; refine kst_newsOf nE ?_; ((repeat (refine sub_cons (by k_memK) ?_)); first | exact List.forall_mem_nil _ | (intro p hp; k_ownIn)))); (case F9 => (rename Fr _ _ _ _ => fE; exact fE)); (case r9 => first | assumption ))
      | trace_state)
theorem done_load {w : World} {p : Program} {loose : List Str} {mean : ExcName → Option Value} {mg mb : Str → Option Value} {sp dsp ls lc lk lm wk : Addr} {ks0 ks1 ks2 ks3 ks4 ks5 ks6 ks7 ks8 kr kt : Tok} {ns : Nat} {rest : List (Addr × Obj)} {op i pc : Int} {vs : List Value} {R : List Value → Prop} (hoff : OwnOff rest [dsp, ls]) (hne : dsp ≠ ls) (hsp : (sp, instObj 508 dsp) ∈ rest) (hT : LdTells w p loose mean mg mb sp dsp ls lc lk lm wk ks0 ks1 ks2 ks3 ks4 ks5 ks6 ks7 ks8 kr kt ns rest 70 700 op i pc vs R) (h0 : op < 4) : DoTells w p loose mean mg mb sp dsp ls lc lk lm wk ks0 ks1 ks2 ks3 ks4 ks5 ks6 ks7 ks8 kr kt ns rest 449 80 800 op i pc vs (fun pc' vs' => pc' = pc + 0 ∧ R vs') := by
  intro dp un gd cn nms ig ic mo a ccd cl outer A₀ base h₀ L m s Q E tp t0 t1 B F X N T hdp hun hret
  revert X; k_fill; intro X
  have hk : (Scope.mk ScopeKind.function nms ig ic mo).kind = ScopeKind.function := rfl
  have hMk := kstMark
  refine wpAny_call ?_
  k_dflt cell_enter
  k_steps
  all_goals first
    | (refine' hret _ _ _ _ _ ?r9 ?F9 ?N9; (case N9 => (rename News _ _ _ _ => nE; refine kst_newsOf nE ?_; ((repeat (refine sub_cons (by k_memK) ?_)); first | exact List.forall_mem_nil _ | (intro p hp; k_ownIn)))); (case F9 => (rename Fr _ _ _ _ => fE; exact fE)); (case r9 => first | assumption | exact And.intro rfl (by assumption)))
    | trace_state

theorem done_back {w : World} {p : Program} {loose : List Str} {mean : ExcName → Option Value} {mg mb : Str → Option Value} {sp dsp ls lc lk lm wk : Addr} {ks0 ks1 ks2 ks3 ks4 ks5 ks6 ks7 ks8 kr kt : Tok} {ns : Nat} {rest : List (Addr × Obj)} {i pc : Int} {vs rs : List Value} (hoff : OwnOff rest [dsp, ls]) (hne : dsp ≠ ls) (hsp : (sp, instObj 508 dsp) ∈ rest) (hT : BkTells w p loose mean mg mb sp dsp ls lc lk lm wk ks0 ks1 ks2 ks3 ks4 ks5 ks6 ks7 ks8 kr kt ns rest 484 70 700 i pc vs rs) : BkTells w p loose mean mg mb sp dsp ls lc lk lm wk ks0 ks1 ks2 ks3 ks4 ks5 ks6 ks7 ks8 kr kt ns rest 449 80 800 i pc vs rs := by
  intro dp un gd cn nms ig ic mo a ccd cl outer A₀ base h₀ L m s Q E tp t0 t1 B F X N T hdp hun hret
  revert X; k_fill; intro X
  have hk : (Scope.mk ScopeKind.function nms ig ic mo).kind = ScopeKind.function := rfl
  have hMk := kstMark
  refine wpAny_call ?_
  k_dflt cell_enter
  k_steps
  all_goals first
    | (refine' hret _ _ _ ?F9 ?N9; (case N9 => (rename News _ _ _ _ => nE; refine kst_newsOf nE ?_; ((repeat (refine sub_cons (by k_memK) ?_)); first | exact List.forall_mem_nil _ | (intro p hp; k_ownIn)))); (case F9 => (rename Fr _ _ _ _ => fE; exact fE)))
    | trace_state
theorem w_D2_1 : True := by
  k_with_none
  trivial
def DoTellsX (w : World) (p : Program) (loose : List Str) (mean : ExcName → Option Value) (mg mb : Str → Option Value) (sp dsp ls lc lk lm wk : Addr) (ks0 ks1 ks2 ks3 ks4 ks5 ks6 ks7 ks8 kr kt : Tok) (ns : Nat) (rest : List (Addr × Obj)) (f : Addr) (d u : Nat) (op i pc : Int) (vs : List Value) (R : Int → List Value → Prop) : Prop :=
  ∀ (dp un : Nat) (gd : Option (List Code)) (cn : Str) (nms : List (Str × NameKind)) (ig ic : Bool) (mo : List (Str × Const)) (a : Addr) (ccd : Value) (cl : List (Str × Addr)) (outer : List Env) (A₀ : Around) (base h₀ : Heap) (L : Addr) (m : Str → Option Value) (s : Shared) (Q E : Value → Shared → Prop) (x : Addr) (ox : Obj) (tp t0 t1 : Tok), x ≠ dsp → x ≠ ls → Below A₀ base outer h₀ → Fr h₀ L s.heap m → (hd.heap_1 w.params).In h₀ → News h₀ L s.heap ((x, ox) :: (dsp, dictOf [⟨PyData.keyHash w.params (Str.ofString "code"), .str (Str.ofString "code") ks0, .ref lc⟩, ⟨PyData.keyHash w.params (Str.ofString "constants"), .str (Str.ofString "constants") ks1, .ref lk⟩, ⟨PyData.keyHash w.params (Str.ofString "stack"), .str (Str.ofString "stack") ks2, .ref ls⟩, ⟨PyData.keyHash w.params (Str.ofString "room"), .str (Str.ofString "room") ks3, .int 5 kr⟩, ⟨PyData.keyHash w.params (Str.ofString "limits"), .str (Str.ofString "limits") ks4, .ref lm⟩, ⟨PyData.keyHash w.params (Str.ofString "works"), .str (Str.ofString "works") ks5, .ref wk⟩, ⟨PyData.keyHash w.params (Str.ofString "pc"), .str (Str.ofString "pc") ks6, .int pc tp⟩, ⟨PyData.keyHash w.params (Str.ofString "top"), .str (Str.ofString "top") ks7, .int 5 kt⟩, ⟨PyData.keyHash w.params (Str.ofString "result"), .str (Str.ofString "result") ks8, .none⟩] 9) :: (ls, listOf vs.toArray ns) :: rest) → Top p loose mean mg mb h₀ → dp + d < recursionLimit → un + u < cLine →
    (∀ (pc' : Int) (vs' : List Value) (tp' : Tok) (h' : Heap) (tk' : Nat), R pc' vs' → Fr h₀ L h' m → News h₀ L h' ((x, ox) :: (dsp, dictOf [⟨PyData.keyHash w.params (Str.ofString "code"), .str (Str.ofString "code") ks0, .ref lc⟩, ⟨PyData.keyHash w.params (Str.ofString "constants"), .str (Str.ofString "constants") ks1, .ref lk⟩, ⟨PyData.keyHash w.params (Str.ofString "stack"), .str (Str.ofString "stack") ks2, .ref ls⟩, ⟨PyData.keyHash w.params (Str.ofString "room"), .str (Str.ofString "room") ks3, .int 5 kr⟩, ⟨PyData.keyHash w.params (Str.ofString "limits"), .str (Str.ofString "limits") ks4, .ref lm⟩, ⟨PyData.keyHash w.params (Str.ofString "works"), .str (Str.ofString "works") ks5, .ref wk⟩, ⟨PyData.keyHash w.params (Str.ofString "pc"), .str (Str.ofString "pc") ks6, .int pc' tp'⟩, ⟨PyData.keyHash w.params (Str.ofString "top"), .str (Str.ofString "top") ks7, .int 5 kt⟩, ⟨PyData.keyHash w.params (Str.ofString "result"), .str (Str.ofString "result") ks8, .none⟩] 9) :: (ls, listOf vs'.toArray ns) :: rest) → Q (.bool true) { s with heap := h', toks := tk' }) →
    wpAny (model PySem.Challenge.rw_tk0059_01.row.prog w) (ktrTop dp un gd cn (Scope.mk ScopeKind.function nms ig ic mo) L a ccd cl outer) (call (.ref f) [.ref sp, .int op t0, .int i t1]) Q E s
def BkTellsX (w : World) (p : Program) (loose : List Str) (mean : ExcName → Option Value) (mg mb : Str → Option Value) (sp dsp ls lc lk lm wk : Addr) (ks0 ks1 ks2 ks3 ks4 ks5 ks6 ks7 ks8 kr kt : Tok) (ns : Nat) (rest : List (Addr × Obj)) (f : Addr) (d u : Nat) (i pc : Int) (vs rs : List Value) : Prop :=
  ∀ (dp un : Nat) (gd : Option (List Code)) (cn : Str) (nms : List (Str × NameKind)) (ig ic : Bool) (mo : List (Str × Const)) (a : Addr) (ccd : Value) (cl : List (Str × Addr)) (outer : List Env) (A₀ : Around) (base h₀ : Heap) (L : Addr) (m : Str → Option Value) (s : Shared) (Q E : Value → Shared → Prop) (x : Addr) (ox : Obj) (tp t0 t1 : Tok), x ≠ dsp → x ≠ ls → Below A₀ base outer h₀ → Fr h₀ L s.heap m → (hd.heap_1 w.params).In h₀ → News h₀ L s.heap ((x, ox) :: (dsp, dictOf [⟨PyData.keyHash w.params (Str.ofString "code"), .str (Str.ofString "code") ks0, .ref lc⟩, ⟨PyData.keyHash w.params (Str.ofString "constants"), .str (Str.ofString "constants") ks1, .ref lk⟩, ⟨PyData.keyHash w.params (Str.ofString "stack"), .str (Str.ofString "stack") ks2, .ref ls⟩, ⟨PyData.keyHash w.params (Str.ofString "room"), .str (Str.ofString "room") ks3, .int 5 kr⟩, ⟨PyData.keyHash w.params (Str.ofString "limits"), .str (Str.ofString "limits") ks4, .ref lm⟩, ⟨PyData.keyHash w.params (Str.ofString "works"), .str (Str.ofString "works") ks5, .ref wk⟩, ⟨PyData.keyHash w.params (Str.ofString "pc"), .str (Str.ofString "pc") ks6, .int pc tp⟩, ⟨PyData.keyHash w.params (Str.ofString "top"), .str (Str.ofString "top") ks7, .int 5 kt⟩, ⟨PyData.keyHash w.params (Str.ofString "result"), .str (Str.ofString "result") ks8, .none⟩] 9) :: (ls, listOf vs.toArray ns) :: rest) → Top p loose mean mg mb h₀ → dp + d < recursionLimit → un + u < cLine →
    (∀ (lr : Addr) (h' : Heap) (tk' : Nat), Fr h₀ L h' m → News h₀ L h' ((lr, listOf rs.toArray 0) :: (x, ox) :: (dsp, dictOf [⟨PyData.keyHash w.params (Str.ofString "code"), .str (Str.ofString "code") ks0, .ref lc⟩, ⟨PyData.keyHash w.params (Str.ofString "constants"), .str (Str.ofString "constants") ks1, .ref lk⟩, ⟨PyData.keyHash w.params (Str.ofString "stack"), .str (Str.ofString "stack") ks2, .ref ls⟩, ⟨PyData.keyHash w.params (Str.ofString "room"), .str (Str.ofString "room") ks3, .int 5 kr⟩, ⟨PyData.keyHash w.params (Str.ofString "limits"), .str (Str.ofString "limits") ks4, .ref lm⟩, ⟨PyData.keyHash w.params (Str.ofString "works"), .str (Str.ofString "works") ks5, .ref wk⟩, ⟨PyData.keyHash w.params (Str.ofString "pc"), .str (Str.ofString "pc") ks6, .int pc tp⟩, ⟨PyData.keyHash w.params (Str.ofString "top"), .str (Str.ofString "top") ks7, .int 5 kt⟩, ⟨PyData.keyHash w.params (Str.ofString "result"), .str (Str.ofString "result") ks8, .ref lr⟩] 9) :: (ls, listOf vs.toArray ns) :: rest) → Q (.bool true) { s with heap := h', toks := tk' }) →
    wpAny (model PySem.Challenge.rw_tk0059_01.row.prog w) (ktrTop dp un gd cn (Scope.mk ScopeKind.function nms ig ic mo) L a ccd cl outer) (call (.ref f) [.ref sp, .int 30 t0, .int i t1]) Q E s
def RunTells (w : World) (p : Program) (loose : List Str) (mean : ExcName → Option Value) (mg mb : Str → Option Value) (sp dsp ls lc lk lm wk : Addr) (ks0 ks1 ks2 ks3 ks4 ks5 ks6 ks7 ks8 kr kt : Tok) (ns : Nat) (rest : List (Addr × Obj)) (d u : Nat) (pc : Int) (vs : List Value) (R : Int → List Value → Prop) : Prop :=
  ∀ (dp un : Nat) (gd : Option (List Code)) (cn : Str) (nms : List (Str × NameKind)) (ig ic : Bool) (mo : List (Str × Const)) (a : Addr) (ccd : Value) (cl : List (Str × Addr)) (outer : List Env) (A₀ : Around) (base h₀ : Heap) (L : Addr) (m : Str → Option Value) (s : Shared) (Q E : Value → Shared → Prop) (tp t0 : Tok), Below A₀ base outer h₀ → Fr h₀ L s.heap m → (hd.heap_1 w.params).In h₀ → News h₀ L s.heap ((dsp, dictOf [⟨PyData.keyHash w.params (Str.ofString "code"), .str (Str.ofString "code") ks0, .ref lc⟩, ⟨PyData.keyHash w.params (Str.ofString "constants"), .str (Str.ofString "constants") ks1, .ref lk⟩, ⟨PyData.keyHash w.params (Str.ofString "stack"), .str (Str.ofString "stack") ks2, .ref ls⟩, ⟨PyData.keyHash w.params (Str.ofString "room"), .str (Str.ofString "room") ks3, .int 5 kr⟩, ⟨PyData.keyHash w.params (Str.ofString "limits"), .str (Str.ofString "limits") ks4, .ref lm⟩, ⟨PyData.keyHash w.params (Str.ofString "works"), .str (Str.ofString "works") ks5, .ref wk⟩, ⟨PyData.keyHash w.params (Str.ofString "pc"), .str (Str.ofString "pc") ks6, .int pc tp⟩, ⟨PyData.keyHash w.params (Str.ofString "top"), .str (Str.ofString "top") ks7, .int 5 kt⟩, ⟨PyData.keyHash w.params (Str.ofString "result"), .str (Str.ofString "result") ks8, .none⟩] 9) :: (ls, listOf vs.toArray ns) :: rest) → Top p loose mean mg mb h₀ → dp + d < recursionLimit → un + u < cLine →
    (∀ (q : Addr) (pc' : Int) (vs' : List Value) (tp' ts : Tok) (h' : Heap) (tk' : Nat), R pc' vs' → Fr h₀ L h' m → News h₀ L h' ((q, { cls := .type "tuple", data := .seq #[.str (Str.ofString "steps") ts, .int pc' tp'] }) :: (dsp, dictOf [⟨PyData.keyHash w.params (Str.ofString "code"), .str (Str.ofString "code") ks0, .ref lc⟩, ⟨PyData.keyHash w.params (Str.ofString "constants"), .str (Str.ofString "constants") ks1, .ref lk⟩, ⟨PyData.keyHash w.params (Str.ofString "stack"), .str (Str.ofString "stack") ks2, .ref ls⟩, ⟨PyData.keyHash w.params (Str.ofString "room"), .str (Str.ofString "room") ks3, .int 5 kr⟩, ⟨PyData.keyHash w.params (Str.ofString "limits"), .str (Str.ofString "limits") ks4, .ref lm⟩, ⟨PyData.keyHash w.params (Str.ofString "works"), .str (Str.ofString "works") ks5, .ref wk⟩, ⟨PyData.keyHash w.params (Str.ofString "pc"), .str (Str.ofString "pc") ks6, .int pc' tp'⟩, ⟨PyData.keyHash w.params (Str.ofString "top"), .str (Str.ofString "top") ks7, .int 5 kt⟩, ⟨PyData.keyHash w.params (Str.ofString "result"), .str (Str.ofString "result") ks8, .none⟩] 9) :: (ls, listOf vs'.toArray ns) :: rest) → Q (.ref q) { s with heap := h', toks := tk' }) →
    wpAny (model PySem.Challenge.rw_tk0059_01.row.prog w) (ktrTop dp un gd cn (Scope.mk ScopeKind.function nms ig ic mo) L a ccd cl outer) (call (.ref 442) [.ref sp, .int 1 t0]) Q E s
def RbkTells (w : World) (p : Program) (loose : List Str) (mean : ExcName → Option Value) (mg mb : Str → Option Value) (sp dsp ls lc lk lm wk : Addr) (ks0 ks1 ks2 ks3 ks4 ks5 ks6 ks7 ks8 kr kt : Tok) (ns : Nat) (rest : List (Addr × Obj)) (d u : Nat) (pc : Int) (vs rs : List Value) : Prop :=
  ∀ (dp un : Nat) (gd : Option (List Code)) (cn : Str) (nms : List (Str × NameKind)) (ig ic : Bool) (mo : List (Str × Const)) (a : Addr) (ccd : Value) (cl : List (Str × Addr)) (outer : List Env) (A₀ : Around) (base h₀ : Heap) (L : Addr) (m : Str → Option Value) (s : Shared) (Q E : Value → Shared → Prop) (tp t0 : Tok), Below A₀ base outer h₀ → Fr h₀ L s.heap m → (hd.heap_1 w.params).In h₀ → News h₀ L s.heap ((dsp, dictOf [⟨PyData.keyHash w.params (Str.ofString "code"), .str (Str.ofString "code") ks0, .ref lc⟩, ⟨PyData.keyHash w.params (Str.ofString "constants"), .str (Str.ofString "constants") ks1, .ref lk⟩, ⟨PyData.keyHash w.params (Str.ofString "stack"), .str (Str.ofString "stack") ks2, .ref ls⟩, ⟨PyData.keyHash w.params (Str.ofString "room"), .str (Str.ofString "room") ks3, .int 5 kr⟩, ⟨PyData.keyHash w.params (Str.ofString "limits"), .str (Str.ofString "limits") ks4, .ref lm⟩, ⟨PyData.keyHash w.params (Str.ofString "works"), .str (Str.ofString "works") ks5, .ref wk⟩, ⟨PyData.keyHash w.params (Str.ofString "pc"), .str (Str.ofString "pc") ks6, .int pc tp⟩, ⟨PyData.keyHash w.params (Str.ofString "top"), .str (Str.ofString "top") ks7, .int 5 kt⟩, ⟨PyData.keyHash w.params (Str.ofString "result"), .str (Str.ofString "result") ks8, .none⟩] 9) :: (ls, listOf vs.toArray ns) :: rest) → Top p loose mean mg mb h₀ → dp + d < recursionLimit → un + u < cLine →
    (∀ (q lr : Addr) (ts : Tok) (h' : Heap) (tk' : Nat), Fr h₀ L h' m → News h₀ L h' ((q, { cls := .type "tuple", data := .seq #[.str (Str.ofString "back") ts, .ref lr] }) :: (lr, listOf rs.toArray 0) :: rest) → Q (.ref q) { s with heap := h', toks := tk' }) →
    wpAny (model PySem.Challenge.rw_tk0059_01.row.prog w) (ktrTop dp un gd cn (Scope.mk ScopeKind.function nms ig ic mo) L a ccd cl outer) (call (.ref 442) [.ref sp, .int 1 t0]) Q E s
theorem w_D2_2 : True := by
  k_with "eval Call" => ((with_reducible show wpAny _ _ (eval (Expr.Call (Expr.Name _ _) _ [] _) _) _ _ _); k_dflt (refine Call_ ?_))
  trivial
theorem dotells_ext {w : World} {p : Program} {loose : List Str} {mean : ExcName → Option Value} {mg mb : Str → Option Value} {sp dsp ls lc lk lm wk : Addr} {ks0 ks1 ks2 ks3 ks4 ks5 ks6 ks7 ks8 kr kt : Tok} {ns : Nat} {rest : List (Addr × Obj)} {f : Addr} {d u : Nat} {op i pc : Int} {vs : List Value} {R : Int → List Value → Prop} (hoff : OwnOff rest [dsp, ls]) (hT : ∀ rest' : List (Addr × Obj), (∀ p ∈ rest, p ∈ rest') → OwnOff rest' [dsp, ls] → DoTells w p loose mean mg mb sp dsp ls lc lk lm wk ks0 ks1 ks2 ks3 ks4 ks5 ks6 ks7 ks8 kr kt ns rest' f d u op i pc vs R) : DoTellsX w p loose mean mg mb sp dsp ls lc lk lm wk ks0 ks1 ks2 ks3 ks4 ks5 ks6 ks7 ks8 kr kt ns rest f d u op i pc vs R := by
  intro dp un gd cn nms ig ic mo a ccd cl outer A₀ base h₀ L m s Q E x ox tp t0 t1 hx hy B F X N T hdp hun hret
  refine hT ((x, ox) :: rest) (fun p hp => List.Mem.tail _ hp) ?off dp un gd cn nms ig ic mo a ccd cl outer A₀ base h₀ L m s Q E tp t0 t1 B F X (kst_newsOf N ?sub) T hdp hun ?ret
  case off => (intro p hp q hq; rcases List.mem_cons.mp hp with rfl | hp; (rcases List.mem_cons.mp hq with rfl | hq; exact hx; (rw [List.mem_singleton.mp hq]; exact hy)); exact hoff p hp q hq)
  case sub => ((repeat (refine sub_cons (by k_memK) ?_)); first | exact List.forall_mem_nil _ | (intro p hp; k_ownIn))
  case ret => (intro pc' vs' tp' h' tk' r9 F9 N9; exact hret pc' vs' tp' h' tk' r9 F9 (kst_newsOf N9 (by ((repeat (refine sub_cons (by k_memK) ?_)); first | exact List.forall_mem_nil _ | (intro p hp; k_ownIn)))))
theorem bktells_ext {w : World} {p : Program} {loose : List Str} {mean : ExcName → Option Value} {mg mb : Str → Option Value} {sp dsp ls lc lk lm wk : Addr} {ks0 ks1 ks2 ks3 ks4 ks5 ks6 ks7 ks8 kr kt : Tok} {ns : Nat} {rest : List (Addr × Obj)} {f : Addr} {d u : Nat} {i pc : Int} {vs rs : List Value} (hoff : OwnOff rest [dsp, ls]) (hT : ∀ rest' : List (Addr × Obj), (∀ p ∈ rest, p ∈ rest') → OwnOff rest' [dsp, ls] → BkTells w p loose mean mg mb sp dsp ls lc lk lm wk ks0 ks1 ks2 ks3 ks4 ks5 ks6 ks7 ks8 kr kt ns rest' f d u i pc vs rs) : BkTellsX w p loose mean mg mb sp dsp ls lc lk lm wk ks0 ks1 ks2 ks3 ks4 ks5 ks6 ks7 ks8 kr kt ns rest f d u i pc vs rs := by
  intro dp un gd cn nms ig ic mo a ccd cl outer A₀ base h₀ L m s Q E x ox tp t0 t1 hx hy B F X N T hdp hun hret
  refine hT ((x, ox) :: rest) (fun p hp => List.Mem.tail _ hp) ?off dp un gd cn nms ig ic mo a ccd cl outer A₀ base h₀ L m s Q E tp t0 t1 B F X (kst_newsOf N ?sub) T hdp hun ?ret
  case off => (intro p hp q hq; rcases List.mem_cons.mp hp with rfl | hp; (rcases List.mem_cons.mp hq with rfl | hq; exact hx; (rw [List.mem_singleton.mp hq]; exact hy)); exact hoff p hp q hq)
  case sub => ((repeat (refine sub_cons (by k_memK) ?_)); first | exact List.forall_mem_nil _ | (intro p hp; k_ownIn))
  case ret => (intro lr h' tk' F9 N9; exact hret lr h' tk' F9 (kst_newsOf N9 (by ((repeat (refine sub_cons (by k_memK) ?_)); first | exact List.forall_mem_nil _ | (intro p hp; k_ownIn)))))
theorem w_D2_3 : True := by
  k_with "UnrEnd" => ((rename News _ _ _ _ => nE); refine UnrEnd.intro (by assumption) nE _ (fun _ hp => hp) (tbn_neAll ?al) ?_; (case al => exact And.intro (by assumption) (And.intro (by assumption) (by assumption))))
  k_with "subscriptTail" => (k_here; (with_reducible show wpAny _ _ (subscriptTail _ _ (Value.ref _) (Value.int _ _)) _ _ _); k_dflt (refine' my_item ?l ?a ?b ?d ?_; (case l => exact News.isList (by k_asm) (by k_mem)); (case a => first | assumption | omega | decide); (case b => first | assumption | omega | decide); (case d => first | rfl | assumption); k_whole))
  k_with "subscriptTail Name BinOp ref int" => (k_here; (with_reducible show wpAny _ _ (subscriptTail _ _ (Value.ref _) (Value.int _ _)) _ _ _); k_dflt (refine' my_item ?l ?a ?b ?d ?_; (case l => exact News.isList (by k_asm) (by k_mem)); (case a => first | assumption | omega | decide); (case b => first | assumption | omega | decide); (case d => first | rfl | assumption); k_whole))
  k_with "subscriptTail Name Name ref int" => (k_here; (with_reducible show wpAny _ _ (subscriptTail _ _ (Value.ref _) (Value.int _ _)) _ _ _); k_dflt (refine' my_item ?l ?a ?b ?d ?_; (case l => exact News.isList (by k_asm) (by k_mem)); (case a => first | assumption | omega | decide); (case b => first | assumption | omega | decide); (case d => first | rfl | assumption); k_whole))
  k_with "subscriptTail Attribute Name ref int" => (k_here; (with_reducible show wpAny _ _ (subscriptTail _ _ (Value.ref _) (Value.int _ _)) _ _ _); k_dflt (refine' my_item ?l ?a ?b ?d ?_; (case l => exact News.isList (by k_asm) (by k_mem)); (case a => first | assumption | omega | decide); (case b => first | assumption | omega | decide); (case d => first | rfl | assumption); k_whole))
  k_with "subscriptTail Name Call ref int" => (k_here; (with_reducible show wpAny _ _ (subscriptTail _ _ (Value.ref _) (Value.int _ _)) _ _ _); k_dflt (refine' my_item ?l ?a ?b ?d ?_; (case l => exact News.isList (by k_asm) (by k_mem)); (case a => first | assumption | omega | decide); (case b => first | assumption | omega | decide); (case d => first | rfl | assumption); k_whole))
  k_with "subscriptTail Attribute Call ref int" => (k_here; (with_reducible show wpAny _ _ (subscriptTail _ _ (Value.ref _) (Value.int _ _)) _ _ _); k_dflt (refine' my_item ?l ?a ?b ?d ?_; (case l => exact News.isList (by k_asm) (by k_mem)); (case a => first | assumption | omega | decide); (case b => first | assumption | omega | decide); (case d => first | rfl | assumption); k_whole))
  k_with "subscriptTail Attribute BinOp ref int" => (k_here; (with_reducible show wpAny _ _ (subscriptTail _ _ (Value.ref _) (Value.int _ _)) _ _ _); k_dflt (refine' my_item ?l ?a ?b ?d ?_; (case l => exact News.isList (by k_asm) (by k_mem)); (case a => first | assumption | omega | decide); (case b => first | assumption | omega | decide); (case d => first | rfl | assumption); k_whole))
  k_with "subscriptTail Name Constant ref int" => (k_here; (with_reducible show wpAny _ _ (subscriptTail _ _ (Value.ref _) (Value.int _ _)) _ _ _); k_dflt (refine' my_item ?l ?a ?b ?d ?_; (case l => exact News.isList (by k_asm) (by k_mem)); (case a => first | assumption | omega | decide); (case b => first | assumption | omega | decide); (case d => first | rfl | assumption); k_whole))
  k_with "subscriptTail Attribute IfExp ref int" => (k_here; (with_reducible show wpAny _ _ (subscriptTail _ _ (Value.ref _) (Value.int _ _)) _ _ _); k_dflt (refine' my_item ?l ?a ?b ?d ?_; (case l => exact News.isList (by k_asm) (by k_mem)); (case a => first | assumption | omega | decide); (case b => first | assumption | omega | decide); (case d => first | rfl | assumption); k_whole))
  k_with "subscriptTail Name Subscript ref int" => (k_here; (with_reducible show wpAny _ _ (subscriptTail _ _ (Value.ref _) (Value.int _ _)) _ _ _); k_dflt (refine' my_item ?l ?a ?b ?d ?_; (case l => exact News.isList (by k_asm) (by k_mem)); (case a => first | assumption | omega | decide); (case b => first | assumption | omega | decide); (case d => first | rfl | assumption); k_whole))
  k_with "call ref" => (k_here; (with_reducible show wpAny _ _ (call (Value.ref 28) [Value.int _ _]) _ _ _); k_dflt (refine' op_of_ok ?B ?F ?X ?N ?T ?hdp ?hun ?e ?h0 ?h1 ?_; (case B => k_asm); (case F => k_asm); (case X => k_asm); (case N => k_asm); (case T => k_asm); (case hdp => ktr_room); (case hun => ktr_units); (case e => assumption); (case h0 => first | decide | assumption | omega); (case h1 => first | decide | assumption | omega); k_whole); intro t9 h9 tk9 F9 N9; (try dsimp only); (try k_sweep); (try k_fold))
  k_with "call ref" => (k_here; (with_reducible show wpAny _ _ (call (Value.ref 35) [Value.int _ _]) _ _ _); k_dflt (refine' a_of_ok ?B ?F ?X ?N ?T ?hdp ?hun ?e ?h0 ?h1 ?_; (case B => k_asm); (case F => k_asm); (case X => k_asm); (case N => k_asm); (case T => k_asm); (case hdp => ktr_room); (case hun => ktr_units); (case e => assumption); (case h0 => first | decide | assumption | omega); (case h1 => first | decide | assumption | omega); k_whole); intro t9 h9 tk9 F9 N9; (try dsimp only); (try k_sweep); (try k_fold))
  k_with "call ref" => (k_here; (with_reducible show wpAny _ _ (call (Value.ref 42) [Value.int _ _]) _ _ _); k_dflt (refine' b_of_ok ?B ?F ?X ?N ?T ?hdp ?hun ?e ?h0 ?h1 ?_; (case B => k_asm); (case F => k_asm); (case X => k_asm); (case N => k_asm); (case T => k_asm); (case hdp => ktr_room); (case hun => ktr_units); (case e => assumption); (case h0 => first | decide | assumption | omega); (case h1 => first | decide | assumption | omega); k_whole); intro t9 h9 tk9 F9 N9; (try dsimp only); (try k_sweep); (try k_fold))
  k_with "call ref" => (k_here; (with_reducible show wpAny _ _ (call (Value.ref 49) [Value.int _ _]) _ _ _); k_dflt (refine' c_of_ok ?B ?F ?X ?N ?T ?hdp ?hun ?e ?h0 ?h1 ?_; (case B => k_asm); (case F => k_asm); (case X => k_asm); (case N => k_asm); (case T => k_asm); (case hdp => ktr_room); (case hun => ktr_units); (case e => assumption); (case h0 => first | decide | assumption | omega); (case h1 => first | decide | assumption | omega); k_whole); intro t9 h9 tk9 F9 N9; (try dsimp only); (try k_sweep); (try k_fold))
  k_with "call ref" => (k_here; (with_reducible show wpAny _ _ (call (Value.ref 63) [Value.int _ _]) _ _ _); k_dflt (refine' jump_of_ok ?B ?F ?X ?N ?T ?hdp ?hun ?e ?h0 ?h1 ?_; (case B => k_asm); (case F => k_asm); (case X => k_asm); (case N => k_asm); (case T => k_asm); (case hdp => ktr_room); (case hun => ktr_units); (case e => assumption); (case h0 => first | decide | assumption | omega); (case h1 => first | decide | assumption | omega); k_whole); intro t9 h9 tk9 F9 N9; (try dsimp only); (try k_sweep); (try k_fold))
  k_with "call ref" => (k_here; (with_reducible show wpAny _ _ (call (Value.ref _) [Value.ref _, Value.int _ _, Value.int _ _]) _ _ _); (rename DoTellsX _ _ _ _ _ _ _ _ _ _ _ _ _ _ _ _ _ _ _ _ _ _ _ _ _ _ _ _ _ _ _ _ _ _ => hTl); k_dflt (refine' hTl _ _ _ _ _ _ _ _ _ _ _ _ _ _ _ _ _ _ _ _ _ _ _ _ _ ?hx ?hy ?B ?F ?X ?N ?T ?hdp ?hun ?_; (case hx => k_ne); (case hy => k_ne); (case B => k_asm); (case F => k_asm); (case X => k_asm); (case N => k_asm); (case T => k_asm); (case hdp => ktr_room); (case hun => ktr_units); k_whole); intro p9 v9 t9 h9 tk9 r9 F9 N9; (try dsimp only); (try k_sweep); (try k_fold))
  k_with "call ref" => (k_here; (with_reducible show wpAny _ _ (call (Value.ref _) [Value.ref _, Value.int _ _, Value.int _ _]) _ _ _); (rename BkTellsX _ _ _ _ _ _ _ _ _ _ _ _ _ _ _ _ _ _ _ _ _ _ _ _ _ _ _ _ _ _ _ _ _ => hTl); k_dflt (refine' hTl _ _ _ _ _ _ _ _ _ _ _ _ _ _ _ _ _ _ _ _ _ _ _ _ _ ?hx ?hy ?B ?F ?X ?N ?T ?hdp ?hun ?_; (case hx => k_ne); (case hy => k_ne); (case B => k_asm); (case F => k_asm); (case X => k_asm); (case N => k_asm); (case T => k_asm); (case hdp => ktr_room); (case hun => ktr_units); k_whole); intro l9 h9 tk9 F9 N9; (try dsimp only); (try k_sweep); (try k_fold))
  trivial
theorem run_ok {w : World} {p : Program} {loose : List Str} {mean : ExcName → Option Value} {mg mb : Str → Option Value} {sp dsp ls lc lk lm wk : Addr} {ks0 ks1 ks2 ks3 ks4 ks5 ks6 ks7 ks8 kr kt : Tok} {ns : Nat} {rest : List (Addr × Obj)} {op i pc : Int} {cs vs : List Value} {nc : Nat} {tj : Tok} {R : Int → List Value → Prop} (hoff : OwnOff rest [dsp, ls]) (hne : dsp ≠ ls) (hsp : (sp, instObj 508 dsp) ∈ rest) (hlc : (lc, listOf cs.toArray nc) ∈ rest) (h0 : 0 ≤ pc) (h1 : pc < 1000) (hi0 : 0 ≤ i) (hi1 : i < 4294967296) (hx : cs[pc.toNat]? = some (.int i tj)) (e : i % 64 = op) (hT : DoTellsX w p loose mean mg mb sp dsp ls lc lk lm wk ks0 ks1 ks2 ks3 ks4 ks5 ks6 ks7 ks8 kr kt ns rest 449 80 800 op i (pc + 1) vs R) : RunTells w p loose mean mg mb sp dsp ls lc lk lm wk ks0 ks1 ks2 ks3 ks4 ks5 ks6 ks7 ks8 kr kt ns rest 100 1000 pc vs R := by
  intro dp un gd cn nms ig ic mo a ccd cl outer A₀ base h₀ L m s Q E tp t0 B F X N T hdp hun hret
  revert X; k_fill; intro X
  have hk : (Scope.mk ScopeKind.function nms ig ic mo).kind = ScopeKind.function := rfl
  have hMk := kstMark
  refine wpAny_call ?_
  k_dflt cell_enter
  k_steps
  all_goals first
    | (refine' hret _ _ _ _ _ _ _ ?r9 ?F9 ?N9; (case N9 => (rename News _ _ _ _ => nE; refine kst_newsOf nE ?_; ((repeat (refine sub_cons (by k_memK) ?_)); first | exact List.forall_mem_nil _ | (intro p hp; k_ownIn)))); (case F9 => (rename Fr _ _ _ _ => fE; exact fE)); (case r9 => assumption))
    | trace_state
theorem run_back {w : World} {p : Program} {loose : List Str} {mean : ExcName → Option Value} {mg mb : Str → Option Value} {sp dsp ls lc lk lm wk : Addr} {ks0 ks1 ks2 ks3 ks4 ks5 ks6 ks7 ks8 kr kt : Tok} {ns : Nat} {rest : List (Addr × Obj)} {i pc : Int} {cs vs : List Value} {nc : Nat} {tj : Tok} {rs : List Value} (hoff : OwnOff rest [dsp, ls]) (hne : dsp ≠ ls) (hsp : (sp, instObj 508 dsp) ∈ rest) (hlc : (lc, listOf cs.toArray nc) ∈ rest) (h0 : 0 ≤ pc) (h1 : pc < 1000) (hi0 : 0 ≤ i) (hi1 : i < 4294967296) (hx : cs[pc.toNat]? = some (.int i tj)) (e : i % 64 = 30) (hT : BkTellsX w p loose mean mg mb sp dsp ls lc lk lm wk ks0 ks1 ks2 ks3 ks4 ks5 ks6 ks7 ks8 kr kt ns rest 449 80 800 i (pc + 1) vs rs) : RbkTells w p loose mean mg mb sp dsp ls lc lk lm wk ks0 ks1 ks2 ks3 ks4 ks5 ks6 ks7 ks8 kr kt ns rest 100 1000 pc vs rs := by
  intro dp un gd cn nms ig ic mo a ccd cl outer A₀ base h₀ L m s Q E tp t0 B F X N T hdp hun hret
  revert X; k_fill; intro X
  have hk : (Scope.mk ScopeKind.function nms ig ic mo).kind = ScopeKind.function := rfl
  have hMk := kstMark
  refine wpAny_call ?_
  k_dflt cell_enter
  k_steps
  all_goals first
    | (refine' hret _ _ _ _ _ ?F9 ?N9; (case N9 => (rename News _ _ _ _ => nE; refine kst_newsOf nE ?_; ((repeat (refine sub_cons (by k_memK) ?_)); first | exact List.forall_mem_nil _ | (intro p hp; k_ownIn)))); (case F9 => (rename Fr _ _ _ _ => fE; exact fE)))
    | trace_state
theorem w_B1_1 : True := by
  k_with_none
  trivial
theorem w_B1_2 : True := by
  k_with "eval Call" => ((with_reducible show wpAny _ _ (eval (Expr.Call (Expr.Name _ _) _ [] _) _) _ _ _); k_dflt (refine Call_ ?_))
  trivial
theorem beg2 {a b c d : Int} (a0 : 0 ≤ a) (a1 : a < 4) (b0 : 0 ≤ b) (b1 : b < 21) (c0 : 0 ≤ c) (c1 : c < 2) (d0 : 0 ≤ d) (d1 : d < 25) :
    (0 : Int) = 0 ∧ -10 ≤ b - 10 ∧ b - 10 ≤ 10 ∧ ((0 < (1 - 2 * c) * (1 + a) ∧ (1 - 2 * c) * (1 + a) ≤ 4 ∧ b - 10 ≤ b - 10 + (1 - 2 * c) * d ∧ b - 10 + (1 - 2 * c) * d < b - 10 + 25) ∨ ((1 - 2 * c) * (1 + a) < 0 ∧ -4 ≤ (1 - 2 * c) * (1 + a) ∧ b - 10 + (1 - 2 * c) * d ≤ b - 10 ∧ b - 10 - 25 < b - 10 + (1 - 2 * c) * d)) := by
  have h : c = 0 ∨ c = 1 := by omega
  rcases h with rfl | rfl
  · exact ⟨rfl, by omega, by omega, Or.inl (by omega)⟩
  · exact ⟨rfl, by omega, by omega, Or.inr (by omega)⟩
theorem w_B1_3 : True := by
  k_with "call ref" => (k_here; (with_reducible show wpAny _ _ (call (Value.ref 519) [Value.ref _, Value.int _ _]) _ _ _); k_dflt (refine' poured_use ?B ?F ?X ?N ?T ?hdp ?hun ?U ?hcm ?hi ?hfit ?h0 ?h1 ?hm0 ?hm1 ?hc ?_; (case B => k_asm); (case F => k_asm); (case X => k_asm); (case N => k_asm); (case T => k_asm); (case hdp => ktr_room); (case hun => ktr_units); (case U => k_updF); (case hcm => k_mem); (case hi => first | assumption | l_ints); (case hfit => first | assumption | omega | (simp; omega)); (case h0 => first | omega | decide | assumption); (case h1 => first | omega | decide | assumption); (case hm0 => first | omega | decide | assumption); (case hm1 => first | omega | decide | assumption); (case hc => k_ne); k_whole); intro r9 t9 tk9 h9 tk8 hr0 hr1 F9 N9; (try dsimp only at N9); (try dsimp only); (try k_sweep); (try k_fold))
  trivial
theorem begun_0 {w : World} {p : Program} {loose : List Str} {mean : ExcName → Option Value} {mg mb : Str → Option Value} {dp un : Nat} {gd : Option (List Code)} {cn : Str} {nms : List (Str × NameKind)} {ig ic : Bool} {mo : List (Str × Const)} {a : Addr} {ccd : Value} {cl : List (Str × Addr)} {outer : List Env} {A₀ : Around} {base h₀ : Heap} {L : Addr} {m : Str → Option Value} {s : Shared} {Q E : Value → Shared → Prop} {cup cells : Addr} {tk tf : Tok} {n0 n1 : Nat} {vs : List Value} {ns : List Int} {rest : List (Addr × Obj)}
    (B : Below A₀ base outer h₀) (F : Fr h₀ L s.heap m) (X : (hd.heap_1 w.params).In h₀) (N : News h₀ L s.heap ((cup, listOf [Value.ref cells, Value.int (0 + 1) tk].toArray n0) :: (cells, listOf vs.toArray n1) :: rest)) (T : Top p loose mean mg mb h₀) (hdp : dp + 20 < recursionLimit) (hun : un + 200 < cLine)
    (hi : IntsAre vs ns) (hfit : ns.length ≤ 6) (hc : cells < cup) (hoff : OwnOff rest [cup])
    (hret : ∀ (q : Addr) (v0 v1 v2 v3 k' : Int) (t0 t1 t2 t3 tk2 : Tok) (h' : Heap) (tk' : Nat), 1 ≤ v0 ∧ v0 ≤ 40 ∧ 0 ≤ v1 ∧ v1 < 40 ∧ v2 = 0 ∧ v3 = 0 → (∀ p ∈ (cup, listOf [Value.ref cells, Value.int (0 + 1) tk].toArray n0) :: (cells, listOf vs.toArray n1) :: rest, p.1 < q) → Fr h₀ L h' m → News h₀ L h' ((q, listOf [.int v0 t0, .int v1 t1, .int v2 t2, .int v3 t3].toArray 0) :: (cup, listOf [Value.ref cells, Value.int k' tk2].toArray n0) :: (cells, listOf vs.toArray n1) :: rest) → Q (.ref q) { s with heap := h', toks := tk' }) :
    wpAny (model PySem.Challenge.rw_tk0059_01.row.prog w) (ktrTop dp un gd cn (Scope.mk ScopeKind.function nms ig ic mo) L a ccd cl outer) (call (.ref 554) [.int 0 tf, .ref cup]) Q E s := by
  revert X; k_fill; intro X
  have hk : (Scope.mk ScopeKind.function nms ig ic mo).kind = ScopeKind.function := rfl
  have hMk := kstMark
  have hcell : cells ≠ cup := Nat.ne_of_lt hc
  refine wpAny_call ?_
  k_dflt cell_enter
  k_steps
  all_goals first
    | (refine' hret _ _ _ _ _ _ _ _ _ _ _ _ _ ?b9 ?l9 ?F9 ?N9; (case N9 => (rename News _ _ _ _ => nE; refine kst_newsOf nE ?_; ((repeat (refine sub_cons (by k_memK) ?_)); first | exact List.forall_mem_nil _ | (intro p hp; k_ownIn)))); (case F9 => (rename Fr _ _ _ _ => fE; exact fE)); (case l9 => first | assumption | exact kst_ltOf (by assumption) | exact List.forall_mem_cons.mpr ⟨by assumption, List.forall_mem_cons.mpr ⟨by assumption, kst_ltOf (by assumption)⟩⟩); (case b9 => first | omega | exact beg2 (by assumption) (by assumption) (by assumption) (by assumption) (by assumption) (by assumption) (by assumption) (by assumption)))
    | trace_state

theorem begun_1 {w : World} {p : Program} {loose : List Str} {mean : ExcName → Option Value} {mg mb : Str → Option Value} {dp un : Nat} {gd : Option (List Code)} {cn : Str} {nms : List (Str × NameKind)} {ig ic : Bool} {mo : List (Str × Const)} {a : Addr} {ccd : Value} {cl : List (Str × Addr)} {outer : List Env} {A₀ : Around} {base h₀ : Heap} {L : Addr} {m : Str → Option Value} {s : Shared} {Q E : Value → Shared → Prop} {cup cells : Addr} {tk tf : Tok} {n0 n1 : Nat} {vs : List Value} {ns : List Int} {rest : List (Addr × Obj)}
    (B : Below A₀ base outer h₀) (F : Fr h₀ L s.heap m) (X : (hd.heap_1 w.params).In h₀) (N : News h₀ L s.heap ((cup, listOf [Value.ref cells, Value.int (0 + 1) tk].toArray n0) :: (cells, listOf vs.toArray n1) :: rest)) (T : Top p loose mean mg mb h₀) (hdp : dp + 20 < recursionLimit) (hun : un + 200 < cLine)
    (hi : IntsAre vs ns) (hfit : ns.length ≤ 6) (hc : cells < cup) (hoff : OwnOff rest [cup])
    (hret : ∀ (q : Addr) (v0 v1 v2 v3 k' : Int) (t0 t1 t2 t3 tk2 : Tok) (h' : Heap) (tk' : Nat), -10 ≤ v0 ∧ v0 ≤ 10 ∧ 0 ≤ v1 ∧ v1 < 20 ∧ v2 = 1 ∧ v3 = 0 → (∀ p ∈ (cup, listOf [Value.ref cells, Value.int (0 + 1) tk].toArray n0) :: (cells, listOf vs.toArray n1) :: rest, p.1 < q) → Fr h₀ L h' m → News h₀ L h' ((q, listOf [.int v0 t0, .int v1 t1, .int v2 t2, .int v3 t3].toArray 0) :: (cup, listOf [Value.ref cells, Value.int k' tk2].toArray n0) :: (cells, listOf vs.toArray n1) :: rest) → Q (.ref q) { s with heap := h', toks := tk' }) :
    wpAny (model PySem.Challenge.rw_tk0059_01.row.prog w) (ktrTop dp un gd cn (Scope.mk ScopeKind.function nms ig ic mo) L a ccd cl outer) (call (.ref 554) [.int 1 tf, .ref cup]) Q E s := by
  revert X; k_fill; intro X
  have hk : (Scope.mk ScopeKind.function nms ig ic mo).kind = ScopeKind.function := rfl
  have hMk := kstMark
  have hcell : cells ≠ cup := Nat.ne_of_lt hc
  refine wpAny_call ?_
  k_dflt cell_enter
  k_steps
  all_goals first
    | (refine' hret _ _ _ _ _ _ _ _ _ _ _ _ _ ?b9 ?l9 ?F9 ?N9; (case N9 => (rename News _ _ _ _ => nE; refine kst_newsOf nE ?_; ((repeat (refine sub_cons (by k_memK) ?_)); first | exact List.forall_mem_nil _ | (intro p hp; k_ownIn)))); (case F9 => (rename Fr _ _ _ _ => fE; exact fE)); (case l9 => first | assumption | exact kst_ltOf (by assumption) | exact List.forall_mem_cons.mpr ⟨by assumption, List.forall_mem_cons.mpr ⟨by assumption, kst_ltOf (by assumption)⟩⟩); (case b9 => first | omega | exact beg2 (by assumption) (by assumption) (by assumption) (by assumption) (by assumption) (by assumption) (by assumption) (by assumption)))
    | trace_state

theorem begun_2 {w : World} {p : Program} {loose : List Str} {mean : ExcName → Option Value} {mg mb : Str → Option Value} {dp un : Nat} {gd : Option (List Code)} {cn : Str} {nms : List (Str × NameKind)} {ig ic : Bool} {mo : List (Str × Const)} {a : Addr} {ccd : Value} {cl : List (Str × Addr)} {outer : List Env} {A₀ : Around} {base h₀ : Heap} {L : Addr} {m : Str → Option Value} {s : Shared} {Q E : Value → Shared → Prop} {cup cells : Addr} {tk tf : Tok} {n0 n1 : Nat} {vs : List Value} {ns : List Int} {rest : List (Addr × Obj)}
    (B : Below A₀ base outer h₀) (F : Fr h₀ L s.heap m) (X : (hd.heap_1 w.params).In h₀) (N : News h₀ L s.heap ((cup, listOf [Value.ref cells, Value.int (0 + 1) tk].toArray n0) :: (cells, listOf vs.toArray n1) :: rest)) (T : Top p loose mean mg mb h₀) (hdp : dp + 20 < recursionLimit) (hun : un + 200 < cLine)
    (hi : IntsAre vs ns) (hfit : ns.length ≤ 6) (hc : cells < cup) (hoff : OwnOff rest [cup])
    (hret : ∀ (q : Addr) (v0 v1 v2 v3 k' : Int) (t0 t1 t2 t3 tk2 : Tok) (h' : Heap) (tk' : Nat), v0 = 0 ∧ -10 ≤ v1 ∧ v1 ≤ 10 ∧ ((0 < v3 ∧ v3 ≤ 4 ∧ v1 ≤ v2 ∧ v2 < v1 + 25) ∨ (v3 < 0 ∧ -4 ≤ v3 ∧ v2 ≤ v1 ∧ v1 - 25 < v2)) → (∀ p ∈ (cup, listOf [Value.ref cells, Value.int (0 + 1) tk].toArray n0) :: (cells, listOf vs.toArray n1) :: rest, p.1 < q) → Fr h₀ L h' m → News h₀ L h' ((q, listOf [.int v0 t0, .int v1 t1, .int v2 t2, .int v3 t3].toArray 0) :: (cup, listOf [Value.ref cells, Value.int k' tk2].toArray n0) :: (cells, listOf vs.toArray n1) :: rest) → Q (.ref q) { s with heap := h', toks := tk' }) :
    wpAny (model PySem.Challenge.rw_tk0059_01.row.prog w) (ktrTop dp un gd cn (Scope.mk ScopeKind.function nms ig ic mo) L a ccd cl outer) (call (.ref 554) [.int 2 tf, .ref cup]) Q E s := by
  revert X; k_fill; intro X
  have hk : (Scope.mk ScopeKind.function nms ig ic mo).kind = ScopeKind.function := rfl
  have hMk := kstMark
  have hcell : cells ≠ cup := Nat.ne_of_lt hc
  refine wpAny_call ?_
  k_dflt cell_enter
  k_steps
  all_goals first
    | (refine' hret _ _ _ _ _ _ _ _ _ _ _ _ _ ?b9 ?l9 ?F9 ?N9; (case N9 => (rename News _ _ _ _ => nE; refine kst_newsOf nE ?_; ((repeat (refine sub_cons (by k_memK) ?_)); first | exact List.forall_mem_nil _ | (intro p hp; k_ownIn)))); (case F9 => (rename Fr _ _ _ _ => fE; exact fE)); (case l9 => first | assumption | exact kst_ltOf (by assumption) | exact List.forall_mem_cons.mpr ⟨by assumption, List.forall_mem_cons.mpr ⟨by assumption, kst_ltOf (by assumption)⟩⟩); (case b9 => first | omega | exact beg2 (by assumption) (by assumption) (by assumption) (by assumption) (by assumption) (by assumption) (by assumption) (by assumption)))
    | trace_state

theorem begun_3 {w : World} {p : Program} {loose : List Str} {mean : ExcName → Option Value} {mg mb : Str → Option Value} {dp un : Nat} {gd : Option (List Code)} {cn : Str} {nms : List (Str × NameKind)} {ig ic : Bool} {mo : List (Str × Const)} {a : Addr} {ccd : Value} {cl : List (Str × Addr)} {outer : List Env} {A₀ : Around} {base h₀ : Heap} {L : Addr} {m : Str → Option Value} {s : Shared} {Q E : Value → Shared → Prop} {cup cells : Addr} {tk tf : Tok} {n0 n1 : Nat} {vs : List Value} {ns : List Int} {rest : List (Addr × Obj)}
    (B : Below A₀ base outer h₀) (F : Fr h₀ L s.heap m) (X : (hd.heap_1 w.params).In h₀) (N : News h₀ L s.heap ((cup, listOf [Value.ref cells, Value.int (0 + 1) tk].toArray n0) :: (cells, listOf vs.toArray n1) :: rest)) (T : Top p loose mean mg mb h₀) (hdp : dp + 20 < recursionLimit) (hun : un + 200 < cLine)
    (hi : IntsAre vs ns) (hfit : ns.length ≤ 6) (hc : cells < cup) (hoff : OwnOff rest [cup])
    (hret : ∀ (q : Addr) (v0 v1 v2 v3 k' : Int) (t0 t1 t2 t3 tk2 : Tok) (h' : Heap) (tk' : Nat), 0 ≤ v0 ∧ v0 < 3000 ∧ v1 = 0 ∧ v2 = 0 ∧ v3 = 0 → (∀ p ∈ (cup, listOf [Value.ref cells, Value.int (0 + 1) tk].toArray n0) :: (cells, listOf vs.toArray n1) :: rest, p.1 < q) → Fr h₀ L h' m → News h₀ L h' ((q, listOf [.int v0 t0, .int v1 t1, .int v2 t2, .int v3 t3].toArray 0) :: (cup, listOf [Value.ref cells, Value.int k' tk2].toArray n0) :: (cells, listOf vs.toArray n1) :: rest) → Q (.ref q) { s with heap := h', toks := tk' }) :
    wpAny (model PySem.Challenge.rw_tk0059_01.row.prog w) (ktrTop dp un gd cn (Scope.mk ScopeKind.function nms ig ic mo) L a ccd cl outer) (call (.ref 554) [.int 3 tf, .ref cup]) Q E s := by
  revert X; k_fill; intro X
  have hk : (Scope.mk ScopeKind.function nms ig ic mo).kind = ScopeKind.function := rfl
  have hMk := kstMark
  have hcell : cells ≠ cup := Nat.ne_of_lt hc
  refine wpAny_call ?_
  k_dflt cell_enter
  k_steps
  all_goals first
    | (refine' hret _ _ _ _ _ _ _ _ _ _ _ _ _ ?b9 ?l9 ?F9 ?N9; (case N9 => (rename News _ _ _ _ => nE; refine kst_newsOf nE ?_; ((repeat (refine sub_cons (by k_memK) ?_)); first | exact List.forall_mem_nil _ | (intro p hp; k_ownIn)))); (case F9 => (rename Fr _ _ _ _ => fE; exact fE)); (case l9 => first | assumption | exact kst_ltOf (by assumption) | exact List.forall_mem_cons.mpr ⟨by assumption, List.forall_mem_cons.mpr ⟨by assumption, kst_ltOf (by assumption)⟩⟩); (case b9 => first | omega | exact beg2 (by assumption) (by assumption) (by assumption) (by assumption) (by assumption) (by assumption) (by assumption) (by assumption)))
    | trace_state
theorem w_B2_1 : True := by
  k_with_none
  trivial
theorem w_B2_2 : True := by
  k_with "eval Call" => ((with_reducible show wpAny _ _ (eval (Expr.Call (Expr.Name _ _) _ [] _) _) _ _ _); k_dflt (refine Call_ ?_))
  k_with "call ref" => (k_here; (with_reducible show wpAny _ _ (call (Value.ref 526) [Value.int _ _, Value.int _ _, Value.int _ _, Value.int _ _]) _ _ _); k_dflt (refine' word_ok ?B ?F ?X ?N ?T ?hdp ?hun ?e ?ho ?ho2 ?ha ?ha2 ?hb ?hb2 ?hc ?hc2 ?_; (case B => k_asm); (case F => k_asm); (case X => k_asm); (case N => k_asm); (case T => k_asm); (case hdp => ktr_room); (case hun => ktr_units); (case e => first | (simp only [Int.reduceMul, Int.reduceAdd, Int.reduceSub, Int.reduceDiv, Int.reduceMod]; done) | (simp only [Int.reduceMul, Int.reduceAdd, Int.reduceSub, Int.reduceDiv, Int.reduceMod]; rfl)); (case ho => decide); (case ho2 => decide); (case ha => decide); (case ha2 => decide); (case hb => decide); (case hb2 => decide); (case hc => decide); (case hc2 => decide); k_whole); intro t9 h9 tk9 F9 N9; (try dsimp only); (try k_sweep); (try k_fold))
  k_with "call ref" => (k_here; (with_reducible show wpAny _ _ (call (Value.ref 533) [Value.int _ _, Value.int _ _]) _ _ _); k_dflt (refine' jump_ok ?B ?F ?X ?N ?T ?hdp ?hun ?e ?ha ?ha2 ?hb ?hb2 ?_; (case B => k_asm); (case F => k_asm); (case X => k_asm); (case N => k_asm); (case T => k_asm); (case hdp => ktr_room); (case hun => ktr_units); (case e => first | (simp only [Int.reduceMul, Int.reduceAdd, Int.reduceSub, Int.reduceDiv, Int.reduceMod]; done) | (simp only [Int.reduceMul, Int.reduceAdd, Int.reduceSub, Int.reduceDiv, Int.reduceMod]; rfl)); (case ha => decide); (case ha2 => decide); (case hb => decide); (case hb2 => decide); k_whole); intro t9 h9 tk9 F9 N9; (try dsimp only); (try k_sweep); (try k_fold))
  k_with "binaryOp Mult ref int" => (k_here; (with_reducible show wpAny _ _ (binaryOp Operator.Mult (Value.ref _) (Value.int _ _)) _ _ _); k_dflt (refine' KMa.mul ?F ?N ?l ?lo ?hi ?z ?e ?_; (case F => k_asm); (case N => k_asm); (case l => exact News.isList (by k_asm) (by k_mem)); (case lo => first | omega | decide); (case hi => first | omega | decide); (case z => (simp only [List.length_cons, List.length_nil]; decide)); (case e => (simp only [Int.reduceToNat, List.replicate_succ, List.replicate_zero, List.flatten_cons, List.flatten_nil, List.cons_append, List.nil_append, List.append_nil]; first | done | exact rfl)); k_whole); intro D' h' F' N' l1; (try k_lt l1); (try k_sweep))
  k_with "binaryOp Add ref ref" => (k_here; (with_reducible show wpAny _ _ (binaryOp _ (Value.ref _) (Value.ref _)) _ _ _); k_dflt (refine' kmk_add_lit ?F ?N ?a ?b ?e ?_ ?z; (case F => k_asm); (case N => k_asm); (case a => exact News.isList (by k_asm) (by k_mem)); (case b => exact News.isList (by k_asm) (by k_mem)); (case e => exact rfl); (case z => exact Nat.le_of_ble_eq_true rfl)); intro D' h' F' N' l1; (try k_lt l1); (try k_sweep))
  trivial
theorem code_0 {w : World} {p : Program} {loose : List Str} {mean : ExcName → Option Value} {mg mb : Str → Option Value} {dp un : Nat} {gd : Option (List Code)} {cn : Str} {nms : List (Str × NameKind)} {ig ic : Bool} {mo : List (Str × Const)} {a : Addr} {ccd : Value} {cl : List (Str × Addr)} {outer : List Env} {A₀ : Around} {base h₀ : Heap} {L : Addr} {m : Str → Option Value} {s : Shared} {Q E : Value → Shared → Prop} {tf : Tok} {news : List (Addr × Obj)}
    (B : Below A₀ base outer h₀) (F : Fr h₀ L s.heap m) (X : (hd.heap_1 w.params).In h₀) (N : News h₀ L s.heap (news)) (T : Top p loose mean mg mb h₀) (hdp : dp + 20 < recursionLimit) (hun : un + 200 < cLine)
    
    (hret : ∀ (q lw : Addr) (q0 q1 q2 q3 q4 q5 q6 th : Tok) (h' : Heap) (tk' : Nat), (∀ p ∈ news, p.1 < lw) → lw < q → Fr h₀ L h' m → News h₀ L h' ((q, { cls := .type "tuple", data := .seq #[.ref lw, .int 0 th] }) :: (lw, listOf [.int 12582999 q0, .int 2147532822 q1, .int 16528 q2, .int 8388608 q3, .int 16777280 q4, .int 2147368982 q5, .int 41943070 q6].toArray 0) :: news) → Q (.ref q) { s with heap := h', toks := tk' }) :
    wpAny (model PySem.Challenge.rw_tk0059_01.row.prog w) (ktrTop dp un gd cn (Scope.mk ScopeKind.function nms ig ic mo) L a ccd cl outer) (call (.ref 547) [.int 0 tf]) Q E s := by
  revert X; k_fill; intro X
  have hk : (Scope.mk ScopeKind.function nms ig ic mo).kind = ScopeKind.function := rfl
  have hMk := kstMark
  refine wpAny_call ?_
  k_dflt cell_enter
  k_steps
  all_goals first
    | (refine' hret _ _ _ _ _ _ _ _ _ _ _ _ ?l8 ?l9 ?F9 ?N9; (case N9 => (rename News _ _ _ _ => nE; refine kst_newsOf nE ?_; ((repeat (refine sub_cons (by k_memK) ?_)); first | exact List.forall_mem_nil _ | (intro p hp; k_ownIn)))); (case F9 => (rename Fr _ _ _ _ => fE; exact fE)); (case l8 => first | assumption | exact kst_ltOf (by assumption)); (case l9 => assumption))
    | trace_state

theorem code_1 {w : World} {p : Program} {loose : List Str} {mean : ExcName → Option Value} {mg mb : Str → Option Value} {dp un : Nat} {gd : Option (List Code)} {cn : Str} {nms : List (Str × NameKind)} {ig ic : Bool} {mo : List (Str × Const)} {a : Addr} {ccd : Value} {cl : List (Str × Addr)} {outer : List Env} {A₀ : Around} {base h₀ : Heap} {L : Addr} {m : Str → Option Value} {s : Shared} {Q E : Value → Shared → Prop} {tf : Tok} {news : List (Addr × Obj)}
    (B : Below A₀ base outer h₀) (F : Fr h₀ L s.heap m) (X : (hd.heap_1 w.params).In h₀) (N : News h₀ L s.heap (news)) (T : Top p loose mean mg mb h₀) (hdp : dp + 20 < recursionLimit) (hun : un + 200 < cLine)
    
    (hret : ∀ (q lw : Addr) (q0 q1 q2 q3 q4 q5 q6 q7 q8 q9 th : Tok) (h' : Heap) (tk' : Nat), (∀ p ∈ news, p.1 < lw) → lw < q → Fr h₀ L h' m → News h₀ L h' ((q, { cls := .type "tuple", data := .seq #[.ref lw, .int 0 th] }) :: (lw, listOf [.int 12582999 q0, .int 2147581974 q1, .int 12599504 q2, .int 29360215 q3, .int 2147483670 q4, .int 16777358 q5, .int 14 q6, .int 12599375 q7, .int 2147319830 q8, .int 41943070 q9].toArray 0) :: news) → Q (.ref q) { s with heap := h', toks := tk' }) :
    wpAny (model PySem.Challenge.rw_tk0059_01.row.prog w) (ktrTop dp un gd cn (Scope.mk ScopeKind.function nms ig ic mo) L a ccd cl outer) (call (.ref 547) [.int 1 tf]) Q E s := by
  revert X; k_fill; intro X
  have hk : (Scope.mk ScopeKind.function nms ig ic mo).kind = ScopeKind.function := rfl
  have hMk := kstMark
  refine wpAny_call ?_
  k_dflt cell_enter
  k_steps
  all_goals first
    | (refine' hret _ _ _ _ _ _ _ _ _ _ _ _ _ _ _ ?l8 ?l9 ?F9 ?N9; (case N9 => (rename News _ _ _ _ => nE; refine kst_newsOf nE ?_; ((repeat (refine sub_cons (by k_memK) ?_)); first | exact List.forall_mem_nil _ | (intro p hp; k_ownIn)))); (case F9 => (rename Fr _ _ _ _ => fE; exact fE)); (case l8 => first | assumption | exact kst_ltOf (by assumption)); (case l9 => assumption))
    | trace_state

theorem code_2 {w : World} {p : Program} {loose : List Str} {mean : ExcName → Option Value} {mg mb : Str → Option Value} {dp un : Nat} {gd : Option (List Code)} {cn : Str} {nms : List (Str × NameKind)} {ig ic : Bool} {mo : List (Str × Const)} {a : Addr} {ccd : Value} {cl : List (Str × Addr)} {outer : List Env} {A₀ : Around} {base h₀ : Heap} {L : Addr} {m : Str → Option Value} {s : Shared} {Q E : Value → Shared → Prop} {tf : Tok} {news : List (Addr × Obj)}
    (B : Below A₀ base outer h₀) (F : Fr h₀ L s.heap m) (X : (hd.heap_1 w.params).In h₀) (N : News h₀ L s.heap (news)) (T : Top p loose mean mg mb h₀) (hdp : dp + 20 < recursionLimit) (hun : un + 200 < cLine)
    
    (hret : ∀ (q lw : Addr) (q0 q1 q2 q3 th : Tok) (h' : Heap) (tk' : Nat), (∀ p ∈ news, p.1 < lw) → lw < q → Fr h₀ L h' m → News h₀ L h' ((q, { cls := .type "tuple", data := .seq #[.ref lw, .int 1 th] }) :: (lw, listOf [.int 2147483744 q0, .int 65548 q1, .int 2147434591 q2, .int 41943070 q3].toArray 0) :: news) → Q (.ref q) { s with heap := h', toks := tk' }) :
    wpAny (model PySem.Challenge.rw_tk0059_01.row.prog w) (ktrTop dp un gd cn (Scope.mk ScopeKind.function nms ig ic mo) L a ccd cl outer) (call (.ref 547) [.int 2 tf]) Q E s := by
  revert X; k_fill; intro X
  have hk : (Scope.mk ScopeKind.function nms ig ic mo).kind = ScopeKind.function := rfl
  have hMk := kstMark
  refine wpAny_call ?_
  k_dflt cell_enter
  k_steps
  all_goals first
    | (refine' hret _ _ _ _ _ _ _ _ _ ?l8 ?l9 ?F9 ?N9; (case N9 => (rename News _ _ _ _ => nE; refine kst_newsOf nE ?_; ((repeat (refine sub_cons (by k_memK) ?_)); first | exact List.forall_mem_nil _ | (intro p hp; k_ownIn)))); (case F9 => (rename Fr _ _ _ _ => fE; exact fE)); (case l8 => first | assumption | exact kst_ltOf (by assumption)); (case l9 => assumption))
    | trace_state

theorem code_3 {w : World} {p : Program} {loose : List Str} {mean : ExcName → Option Value} {mg mb : Str → Option Value} {dp un : Nat} {gd : Option (List Code)} {cn : Str} {nms : List (Str × NameKind)} {ig ic : Bool} {mo : List (Str × Const)} {a : Addr} {ccd : Value} {cl : List (Str × Addr)} {outer : List Env} {A₀ : Around} {base h₀ : Heap} {L : Addr} {m : Str → Option Value} {s : Shared} {Q E : Value → Shared → Prop} {tf : Tok} {news : List (Addr × Obj)}
    (B : Below A₀ base outer h₀) (F : Fr h₀ L s.heap m) (X : (hd.heap_1 w.params).In h₀) (N : News h₀ L s.heap (news)) (T : Top p loose mean mg mb h₀) (hdp : dp + 20 < recursionLimit) (hun : un + 200 < cLine)
    
    (hret : ∀ (q lw : Addr) (q0 q1 q2 q3 q4 q5 q6 q7 th : Tok) (h' : Heap) (tk' : Nat), (∀ p ∈ news, p.1 < lw) → lw < q → Fr h₀ L h' m → News h₀ L h' ((q, { cls := .type "tuple", data := .seq #[.ref lw, .int 0 th] }) :: (lw, listOf [.int 4194391 q0, .int 2147549206 q1, .int 4227216 q2, .int 12615758 q3, .int 8421452 q4, .int 4227087 q5, .int 2147352598 q6, .int 41943070 q7].toArray 0) :: news) → Q (.ref q) { s with heap := h', toks := tk' }) :
    wpAny (model PySem.Challenge.rw_tk0059_01.row.prog w) (ktrTop dp un gd cn (Scope.mk ScopeKind.function nms ig ic mo) L a ccd cl outer) (call (.ref 547) [.int 3 tf]) Q E s := by
  revert X; k_fill; intro X
  have hk : (Scope.mk ScopeKind.function nms ig ic mo).kind = ScopeKind.function := rfl
  have hMk := kstMark
  refine wpAny_call ?_
  k_dflt cell_enter
  k_steps
  all_goals first
    | (refine' hret _ _ _ _ _ _ _ _ _ _ _ _ _ ?l8 ?l9 ?F9 ?N9; (case N9 => (rename News _ _ _ _ => nE; refine kst_newsOf nE ?_; ((repeat (refine sub_cons (by k_memK) ?_)); first | exact List.forall_mem_nil _ | (intro p hp; k_ownIn)))); (case F9 => (rename Fr _ _ _ _ => fE; exact fE)); (case l8 => first | assumption | exact kst_ltOf (by assumption)); (case l9 => assumption))
    | trace_state
theorem w_G4_1 : True := by
  k_with_none
  trivial
def lawParts : List Stmt × Scope := match PySem.Challenge.pw_tk0059_01.main.body.getLast? with
  | some (Stmt.FunctionDef _ _ b _ _ _ sc _ _ _) => (b, sc)
  | _ => ([], default)
structure LSt where
  pc : Int
  tp : Tok
  a : Int
  b : Int
  c : Int
  d : Int
  e : Int
  ta : Tok
  tb : Tok
  tc : Tok
  td : Tok
  te : Tok
  turn : Int
  tt : Tok
  left : Value
def LSt.vs (c : LSt) : List Value := [.int c.a c.ta, .int c.b c.tb, .int c.c c.tc, .int c.d c.td, .int c.e c.te, .none, .none, .none, .none, .none, .none, .none, .none, .none, .none, .none, .none]
def forBody : List Stmt := match lawParts.1.drop 6 with
  | Stmt.For _ _ b _ _ :: _ => b
  | _ => []
theorem kstB_self {m : Str → Option Value} {z : Str} {ps : List (Str × Value)} (h : ∀ p ∈ ps, m p.1 = some p.2) : kstB m ps z = m z := kstB_eq h fun _ => rfl
theorem fr_kstB {h₀ h : Heap} {L : Addr} {m : Str → Option Value} (ps : List (Str × Value)) (hm : ∀ p ∈ ps, m p.1 = some p.2) (F : Fr h₀ L h m) : Fr h₀ L h (kstB m ps) := by
  have e : kstB m ps = m := funext fun z => kstB_self hm
  rw [e]; exact F
theorem in_of_fr {K : Frag} {h₀ h : Heap} {L : Addr} {m : Str → Option Value} (F : Fr h₀ L h m) (X : K.In h₀) : K.In h := Frag.In.keeps X (Fr.keep F)
def MsTells (va vb turn form ms : Int) (ta tb : Tok) : Prop := ∀ tk : Tok, ∃ tl, ([.int vb tb, .int vb tb, .int (0 - turn) tk, .int va ta] : List Value)[form.toNat]? = some (.int ms tl)
def RunAll (w : World) (p : Program) (loose : List Str) (mean : ExcName → Option Value) (mg mb : Str → Option Value) (sp dsp ls lc lk lm wk : Addr) (ks0 ks1 ks2 ks3 ks4 ks5 ks6 ks7 ks8 kr kt : Tok) (ns : Nat) (rest : List (Addr × Obj)) (d u : Nat) (pc : Int) (vs : List Value) (R : Int → List Value → Prop) : Prop := ∀ rest' : List (Addr × Obj), (∀ p ∈ rest, p ∈ rest') → OwnOff rest' [dsp, ls] → RunTells w p loose mean mg mb sp dsp ls lc lk lm wk ks0 ks1 ks2 ks3 ks4 ks5 ks6 ks7 ks8 kr kt ns rest' d u pc vs R
def RbkAll (w : World) (p : Program) (loose : List Str) (mean : ExcName → Option Value) (mg mb : Str → Option Value) (sp dsp ls lc lk lm wk : Addr) (ks0 ks1 ks2 ks3 ks4 ks5 ks6 ks7 ks8 kr kt : Tok) (ns : Nat) (rest : List (Addr × Obj)) (d u : Nat) (pc : Int) (vs rs : List Value) : Prop := ∀ rest' : List (Addr × Obj), (∀ p ∈ rest, p ∈ rest') → OwnOff rest' [dsp, ls] → RbkTells w p loose mean mg mb sp dsp ls lc lk lm wk ks0 ks1 ks2 ks3 ks4 ks5 ks6 ks7 ks8 kr kt ns rest' d u pc vs rs
theorem news_swap3 {h₀ h : Heap} {L : Addr} {x y z v d l : Addr × Obj} {rest : List (Addr × Obj)} (N : News h₀ L h (x :: y :: z :: v :: d :: l :: rest)) : News h₀ L h (d :: l :: x :: y :: z :: v :: rest) := kst_newsOf N (by
  intro p hp; simp only [List.mem_cons] at hp ⊢; rcases hp with h | h | h | h | h | h | h <;> simp [h])
theorem sub3 {x y z v : Addr × Obj} {rest : List (Addr × Obj)} : ∀ p ∈ rest, p ∈ x :: y :: z :: v :: rest := fun p hp => List.mem_cons_of_mem _ (List.mem_cons_of_mem _ (List.mem_cons_of_mem _ (List.mem_cons_of_mem _ hp)))
theorem off3 {x y z v : Addr × Obj} {rest : List (Addr × Obj)} {dsp ls : Addr} (h : OwnOff rest [dsp, ls]) (x1 : x.1 ≠ dsp) (x2 : x.1 ≠ ls) (y1 : y.1 ≠ dsp) (y2 : y.1 ≠ ls) (z1 : z.1 ≠ dsp) (z2 : z.1 ≠ ls) (v1 : v.1 ≠ dsp) (v2 : v.1 ≠ ls) : OwnOff (x :: y :: z :: v :: rest) [dsp, ls] := by
  intro p hp q hq
  simp only [List.mem_cons, List.not_mem_nil, or_false] at hp hq
  rcases hp with h1 | h1 | h1 | h1 | h1
  · rcases hq with h2 | h2 <;> rw [h1, h2] <;> assumption
  · rcases hq with h2 | h2 <;> rw [h1, h2] <;> assumption
  · rcases hq with h2 | h2 <;> rw [h1, h2] <;> assumption
  · rcases hq with h2 | h2 <;> rw [h1, h2] <;> assumption
  · exact h p h1 q (by simp only [List.mem_cons, List.not_mem_nil, or_false]; exact hq)
def DueTells (w : World) (p : Program) (loose : List Str) (mean : ExcName → Option Value) (mg mb : Str → Option Value) (lf : Addr) (fs rs : List Value) (form turn : Int) (d u : Nat) : Prop :=
  ∀ (dp un : Nat) (gd : Option (List Code)) (cn : Str) (nms : List (Str × NameKind)) (ig ic : Bool) (mo : List (Str × Const)) (a : Addr) (ccd : Value) (cl : List (Str × Addr)) (outer : List Env) (A₀ : Around) (base h₀ : Heap) (L : Addr) (m : Str → Option Value) (s : Shared) (Q E : Value → Shared → Prop) (news : List (Addr × Obj)) (lr : Addr) (t0 t1 : Tok), Below A₀ base outer h₀ → Fr h₀ L s.heap m → (hd.heap_1 w.params).In h₀ → News h₀ L s.heap news → Top p loose mean mg mb h₀ → (lf, listOf fs.toArray 0) ∈ news → (lr, listOf rs.toArray 0) ∈ news → dp + d < recursionLimit → un + u < cLine →
    (∀ (h' : Heap) (tk' : Nat), Fr h₀ L h' m → News h₀ L h' news → Q (.bool true) { s with heap := h', toks := tk' }) →
    wpAny (model PySem.Challenge.rw_tk0059_01.row.prog w) (ktrTop dp un gd cn (Scope.mk ScopeKind.function nms ig ic mo) L a ccd cl outer) (call (.ref 589) [.int form t0, .ref lf, .ref lr, .int turn t1]) Q E s
def HoldsTells (w : World) (p : Program) (loose : List Str) (mean : ExcName → Option Value) (mg mb : Str → Option Value) (lf : Addr) (fs ws : List Value) (form turn : Int) (d u : Nat) : Prop :=
  ∀ (dp un : Nat) (gd : Option (List Code)) (cn : Str) (nms : List (Str × NameKind)) (ig ic : Bool) (mo : List (Str × Const)) (a : Addr) (ccd : Value) (cl : List (Str × Addr)) (outer : List Env) (A₀ : Around) (base h₀ : Heap) (L : Addr) (m : Str → Option Value) (s : Shared) (Q E : Value → Shared → Prop) (news : List (Addr × Obj)) (ln : Addr) (nn : Nat) (t0 t1 : Tok), Below A₀ base outer h₀ → Fr h₀ L s.heap m → (hd.heap_1 w.params).In h₀ → News h₀ L s.heap news → Top p loose mean mg mb h₀ → (lf, listOf fs.toArray 0) ∈ news → (ln, listOf ws.toArray nn) ∈ news → dp + d < recursionLimit → un + u < cLine →
    (∀ (h' : Heap) (tk' : Nat), Fr h₀ L h' m → News h₀ L h' news → Q (.bool true) { s with heap := h', toks := tk' }) →
    wpAny (model PySem.Challenge.rw_tk0059_01.row.prog w) (ktrTop dp un gd cn (Scope.mk ScopeKind.function nms ig ic mo) L a ccd cl outer) (call (.ref 582) [.int form t0, .ref lf, .ref ln, .int turn t1]) Q E s
def Plan (w : World) (p : Program) (loose : List Str) (mean : ExcName → Option Value) (mg mb : Str → Option Value) (sp dsp ls lc lk lm wk : Addr) (ks0 ks1 ks2 ks3 ks4 ks5 ks6 ks7 ks8 kr kt : Tok) (ns : Nat) (rest : List (Addr × Obj)) (lf : Addr) (fs : List Value) (form head : Int) (Iv : LSt → Prop) (c : LSt) : Prop :=
    (c.pc ≠ head ∧ ∃ R, RunAll w p loose mean mg mb sp dsp ls lc lk lm wk ks0 ks1 ks2 ks3 ks4 ks5 ks6 ks7 ks8 kr kt ns rest 100 1000 c.pc c.vs R ∧ ∀ pc' vs' tp', R pc' vs' → ∃ c' : LSt, c'.pc = pc' ∧ c'.tp = tp' ∧ c'.vs = vs' ∧ c'.turn = c.turn ∧ c'.tt = c.tt ∧ c'.left = c.left ∧ Iv c')
  ∨ (c.pc ≠ head ∧ ∃ rs, RbkAll w p loose mean mg mb sp dsp ls lc lk lm wk ks0 ks1 ks2 ks3 ks4 ks5 ks6 ks7 ks8 kr kt ns rest 100 1000 c.pc c.vs rs ∧ DueTells w p loose mean mg mb lf fs rs form c.turn 100 1000)
  ∨ (c.pc = head ∧ 0 ≤ c.turn ∧ c.turn < 1000 ∧ ∃ ms R, MsTells c.a c.b c.turn form ms c.ta c.tb ∧ (c.left = .none ∨ ∃ ml tl, c.left = .int ml tl ∧ ms < ml) ∧ RunAll w p loose mean mg mb sp dsp ls lc lk lm wk ks0 ks1 ks2 ks3 ks4 ks5 ks6 ks7 ks8 kr kt ns rest 100 1000 head c.vs R ∧ HoldsTells w p loose mean mg mb lf fs [.int c.a c.ta, .int c.b c.tb, .int c.c c.tc, .int c.d c.td, .int c.e c.te] form c.turn 100 1000 ∧ ∀ pc' vs' tp' tt' tl', R pc' vs' → ∃ c' : LSt, c'.pc = pc' ∧ c'.tp = tp' ∧ c'.vs = vs' ∧ c'.turn = c.turn + 1 ∧ c'.tt = tt' ∧ c'.left = .int ms tl' ∧ Iv c')
theorem ne_stored {l : List Str} {z a : Str} (h : l.contains z = false) (ha : l.contains a = true) : z ≠ a := by rintro rfl; rw [h] at ha; cases ha
theorem off_app {rest own : List (Addr × Obj)} {l : List Addr} {dsp ls : Addr} (h : OwnOff rest [dsp, ls]) (h2 : OwnOff own (dsp :: ls :: l)) : OwnOff (rest ++ own) [dsp, ls] := by
  intro p hp q hq
  rcases List.mem_append.mp hp with hp | hp
  · exact h p hp q hq
  · refine h2 p hp q ?_
    simp only [List.mem_cons, List.not_mem_nil, or_false] at hq ⊢
    rcases hq with h | h <;> simp [h]
theorem w_G4_2 : True := by
  k_with "eval Call" => ((with_reducible show wpAny _ _ (eval (Expr.Call (Expr.Name _ _) _ [] _) _) _ _ _); k_dflt (refine Call_ ?_))
  k_with "callWith ref" => (k_here; (first | (with_reducible show wpAny _ _ (callWith _ (Value.ref 519) _ _ _) _ _ _) | (with_reducible show wpAny _ _ (callWith _ (Value.ref 554) _ _ _) _ _ _) | (with_reducible show wpAny _ _ (callWith _ (Value.ref 547) _ _ _) _ _ _) | (with_reducible show wpAny _ _ (callWith _ (Value.ref 540) _ _ _) _ _ _) | (with_reducible show wpAny _ _ (callWith _ (Value.ref 508) _ _ _) _ _ _) | (with_reducible show wpAny _ _ (callWith _ (Value.ref 95) _ _ _) _ _ _) | (with_reducible show wpAny _ _ (callWith _ (Value.ref 582) _ _ _) _ _ _) | (with_reducible show wpAny _ _ (callWith _ (Value.ref 589) _ _ _) _ _ _) | (with_reducible show wpAny _ _ (callWith _ (Value.ref 442) _ _ _) _ _ _) | (with_reducible show wpAny _ _ (callWith _ (Value.ref 561) _ _ _) _ _ _) | (with_reducible show wpAny _ _ (callWith _ (Value.ref 568) _ _ _) _ _ _) | (with_reducible show wpAny _ _ (callWith _ (Value.ref 575) _ _ _) _ _ _)); k_dflt (first | refine' callWith_K ?k1 ?k2 ?_; (case k1 => k_asm); (case k2 => k_is); k_whole | refine' callWith_K0 ?k1 ?k2 ?_; (case k1 => k_in); (case k2 => k_is); k_whole | refine' callWith_KW0 ?k1 ?k2 ?k3 ?_; (case k1 => k_in); (case k2 => k_is); (case k3 => exact rfl); k_whole))
  k_with "call ref" => (k_here; (with_reducible show wpAny _ _ (call (Value.ref 442) [Value.ref _, Value.int _ _]) _ _ _); (rename RunTells _ _ _ _ _ _ _ _ _ _ _ _ _ _ _ _ _ _ _ _ _ _ _ _ _ _ _ _ _ _ _ => hTl); k_dflt (refine' hTl _ _ _ _ _ _ _ _ _ _ _ _ _ _ _ _ _ _ _ _ _ _ ?B ?F ?X ?N ?T ?hdp ?hun ?_; (case B => k_asm); (case F => k_asm); (case X => k_asm); (case N => k_asm); (case T => k_asm); (case hdp => ktr_room); (case hun => ktr_units); k_whole); intro q9 p9 v9 t9 s9 h9 tk9 r9 F9 N9; (try dsimp only); (try k_sweep); (try k_fold))
  k_with "call ref" => (k_here; (with_reducible show wpAny _ _ (call (Value.ref 442) [Value.ref _, Value.int _ _]) _ _ _); (rename RbkTells _ _ _ _ _ _ _ _ _ _ _ _ _ _ _ _ _ _ _ _ _ _ _ _ _ _ _ _ _ _ _ => hTl); k_dflt (refine' hTl _ _ _ _ _ _ _ _ _ _ _ _ _ _ _ _ _ _ _ _ _ _ ?B ?F ?X ?N ?T ?hdp ?hun ?_; (case B => k_asm); (case F => k_asm); (case X => k_asm); (case N => k_asm); (case T => k_asm); (case hdp => ktr_room); (case hun => ktr_units); k_whole); intro q9 l9 s9 h9 tk9 F9 N9; (try dsimp only); (try k_sweep); (try k_fold))
  k_with "call ref" => (k_here; (with_reducible show wpAny _ _ (call (Value.ref 589) [Value.int _ _, Value.ref _, Value.ref _, Value.int _ _]) _ _ _); (rename DueTells _ _ _ _ _ _ _ _ _ _ _ _ _  => hTl); k_dflt (refine' hTl _ _ _ _ _ _ _ _ _ _ _ _ _ _ _ _ _ _ _ _ _ _ _ _  ?B ?F ?X ?N ?T ?m1 ?m2 ?hdp ?hun ?_; (case B => k_asm); (case F => k_asm); (case X => k_asm); (case N => k_asm); (case T => k_asm); (case hdp => ktr_room); (case hun => ktr_units); (case m1 => k_mem); (case m2 => k_mem); k_whole); intro h9 tk9 F9 N9; (try dsimp only); (try k_sweep); (try k_fold))
  k_with "call ref" => (k_here; (with_reducible show wpAny _ _ (call (Value.ref 582) [Value.int _ _, Value.ref _, Value.ref _, Value.int _ _]) _ _ _); (rename HoldsTells _ _ _ _ _ _ _ _ _ _ _ _ _  => hTl); k_dflt (refine' hTl _ _ _ _ _ _ _ _ _ _ _ _ _ _ _ _ _ _ _ _ _ _ _ _ _  ?B ?F ?X ?N ?T ?m1 ?m2 ?hdp ?hun ?_; (case B => k_asm); (case F => k_asm); (case X => k_asm); (case N => k_asm); (case T => k_asm); (case hdp => ktr_room); (case hun => ktr_units); (case m1 => k_mem); (case m2 => k_mem); k_whole); intro h9 tk9 F9 N9; (try dsimp only); (try k_sweep); (try k_fold))
  trivial
theorem turn_away {w : World} {p : Program} {loose : List Str} {mean : ExcName → Option Value} {mg mb : Str → Option Value} {dp un : Nat} {gd : Option (List Code)} {LS : Scope} {b : List Stmt} {a : Addr} {ccd : Value} {outer : List Env} {A₀ : Around} {base h₀ : Heap} {L : Addr} {m : Str → Option Value} {s : Shared} {Q : Flow → Shared → Prop} {E : Value → Shared → Prop} {sp dsp ls lc lk lm wk : Addr} {ks0 ks1 ks2 ks3 ks4 ks5 ks6 ks7 ks8 kr kt : Tok} {ns : Nat} {rest : List (Addr × Obj)} {head pc : Int} {th tp : Tok} {vs : List Value} {R : Int → List Value → Prop}
    (hb : b = forBody) (hLS : LS = lawParts.2) (B : Below A₀ base outer h₀) (F : Fr h₀ L s.heap m) (X : (hd.heap_1 w.params).In h₀) (N : News h₀ L s.heap ((dsp, dictOf [⟨PyData.keyHash w.params (Str.ofString "code"), .str (Str.ofString "code") ks0, .ref lc⟩, ⟨PyData.keyHash w.params (Str.ofString "constants"), .str (Str.ofString "constants") ks1, .ref lk⟩, ⟨PyData.keyHash w.params (Str.ofString "stack"), .str (Str.ofString "stack") ks2, .ref ls⟩, ⟨PyData.keyHash w.params (Str.ofString "room"), .str (Str.ofString "room") ks3, .int 5 kr⟩, ⟨PyData.keyHash w.params (Str.ofString "limits"), .str (Str.ofString "limits") ks4, .ref lm⟩, ⟨PyData.keyHash w.params (Str.ofString "works"), .str (Str.ofString "works") ks5, .ref wk⟩, ⟨PyData.keyHash w.params (Str.ofString "pc"), .str (Str.ofString "pc") ks6, .int pc tp⟩, ⟨PyData.keyHash w.params (Str.ofString "top"), .str (Str.ofString "top") ks7, .int 5 kt⟩, ⟨PyData.keyHash w.params (Str.ofString "result"), .str (Str.ofString "result") ks8, .none⟩] 9) :: (ls, listOf vs.toArray ns) :: rest)) (T : Top p loose mean mg mb h₀) (hdp : dp + 120 < recursionLimit) (hun : un + 1200 < cLine)
    (hm : ∀ p ∈ ([(Str.ofString "stepper", .ref sp), (Str.ofString "head", .int head th)] : List (Str × Value)), m p.1 = some p.2)
    (hoff : OwnOff rest [dsp, ls]) (hne : dsp ≠ ls) (hsp : (sp, instObj 508 dsp) ∈ rest) (hne1 : pc ≠ head) (hT : RunTells w p loose mean mg mb sp dsp ls lc lk lm wk ks0 ks1 ks2 ks3 ks4 ks5 ks6 ks7 ks8 kr kt ns rest 100 1000 pc vs R)
    (hret : ∀ (m' : Str → Option Value) (pc' : Int) (vs' : List Value) (tp' : Tok) (h' : Heap) (tk' : Nat), R pc' vs' → (∀ z, z ≠ Str.ofString "word" → z ≠ Str.ofString "found" → m' z = m z) → Fr h₀ L h' m' → News h₀ L h' ((dsp, dictOf [⟨PyData.keyHash w.params (Str.ofString "code"), .str (Str.ofString "code") ks0, .ref lc⟩, ⟨PyData.keyHash w.params (Str.ofString "constants"), .str (Str.ofString "constants") ks1, .ref lk⟩, ⟨PyData.keyHash w.params (Str.ofString "stack"), .str (Str.ofString "stack") ks2, .ref ls⟩, ⟨PyData.keyHash w.params (Str.ofString "room"), .str (Str.ofString "room") ks3, .int 5 kr⟩, ⟨PyData.keyHash w.params (Str.ofString "limits"), .str (Str.ofString "limits") ks4, .ref lm⟩, ⟨PyData.keyHash w.params (Str.ofString "works"), .str (Str.ofString "works") ks5, .ref wk⟩, ⟨PyData.keyHash w.params (Str.ofString "pc"), .str (Str.ofString "pc") ks6, .int pc' tp'⟩, ⟨PyData.keyHash w.params (Str.ofString "top"), .str (Str.ofString "top") ks7, .int 5 kt⟩, ⟨PyData.keyHash w.params (Str.ofString "result"), .str (Str.ofString "result") ks8, .none⟩] 9) :: (ls, listOf vs'.toArray ns) :: rest) → Q .next { s with heap := h', toks := tk' }) :
    wpAny (model PySem.Challenge.rw_tk0059_01.row.prog w) (ktrTop dp un gd (Str.ofString "law") LS L a ccd [] outer) (execs b (envX (Str.ofString "law") LS L a ccd [])) Q E s := by
  conv at hb => rhs; whnf
  conv at hLS => rhs; whnf
  subst hb hLS
  have F0 := fr_kstB _ hm F
  dsimp only [kstB] at F0
  clear F
  revert X; k_fill; intro X
  have hMk := kstMark
  iterate 10 (first | (k_unfold; (try dsimp only)) | walk1 | (dsimp only; walk1))
  all_goals (try (exfalso; exact hne1 (by assumption)))
  k_steps
  all_goals first
    | (refine' hret _ _ _ _ _ _ ?r9 ?m9 ?F9 ?N9; (case N9 => (rename News _ _ _ _ => nE; refine kst_newsOf nE ?_; ((repeat (refine sub_cons (by k_memK) ?_)); first | exact List.forall_mem_nil _ | (intro p hp; k_ownIn)))); (case F9 => (rename Fr _ _ _ _ => fE; exact fE)); (case r9 => assumption); (case m9 => (intro z hz1 hz2; (try dsimp only); rw [if_neg hz2, if_neg hz1]; exact kstB_self hm)))
    | trace_state

theorem turn_back {w : World} {p : Program} {loose : List Str} {mean : ExcName → Option Value} {mg mb : Str → Option Value} {dp un : Nat} {gd : Option (List Code)} {LS : Scope} {b : List Stmt} {a : Addr} {ccd : Value} {outer : List Env} {A₀ : Around} {base h₀ : Heap} {L : Addr} {m : Str → Option Value} {s : Shared} {Q : Flow → Shared → Prop} {E : Value → Shared → Prop} {sp dsp ls lc lk lm wk : Addr} {ks0 ks1 ks2 ks3 ks4 ks5 ks6 ks7 ks8 kr kt : Tok} {ns : Nat} {rest : List (Addr × Obj)} {lf : Addr} {head form turn pc : Int} {th tf tt tp : Tok} {vs : List Value} {fs rs : List Value}
    (hb : b = forBody) (hLS : LS = lawParts.2) (B : Below A₀ base outer h₀) (F : Fr h₀ L s.heap m) (X : (hd.heap_1 w.params).In h₀) (N : News h₀ L s.heap ((dsp, dictOf [⟨PyData.keyHash w.params (Str.ofString "code"), .str (Str.ofString "code") ks0, .ref lc⟩, ⟨PyData.keyHash w.params (Str.ofString "constants"), .str (Str.ofString "constants") ks1, .ref lk⟩, ⟨PyData.keyHash w.params (Str.ofString "stack"), .str (Str.ofString "stack") ks2, .ref ls⟩, ⟨PyData.keyHash w.params (Str.ofString "room"), .str (Str.ofString "room") ks3, .int 5 kr⟩, ⟨PyData.keyHash w.params (Str.ofString "limits"), .str (Str.ofString "limits") ks4, .ref lm⟩, ⟨PyData.keyHash w.params (Str.ofString "works"), .str (Str.ofString "works") ks5, .ref wk⟩, ⟨PyData.keyHash w.params (Str.ofString "pc"), .str (Str.ofString "pc") ks6, .int pc tp⟩, ⟨PyData.keyHash w.params (Str.ofString "top"), .str (Str.ofString "top") ks7, .int 5 kt⟩, ⟨PyData.keyHash w.params (Str.ofString "result"), .str (Str.ofString "result") ks8, .none⟩] 9) :: (ls, listOf vs.toArray ns) :: rest)) (T : Top p loose mean mg mb h₀) (hdp : dp + 120 < recursionLimit) (hun : un + 1200 < cLine)
    (hm : ∀ p ∈ ([(Str.ofString "stepper", .ref sp), (Str.ofString "head", .int head th), (Str.ofString "form", .int form tf), (Str.ofString "first", .ref lf), (Str.ofString "turn", .int turn tt)] : List (Str × Value)), m p.1 = some p.2)
    (hoff : OwnOff rest [dsp, ls]) (hne : dsp ≠ ls) (hsp : (sp, instObj 508 dsp) ∈ rest) (hlf : (lf, listOf fs.toArray 0) ∈ rest) (hne1 : pc ≠ head) (hT : RbkTells w p loose mean mg mb sp dsp ls lc lk lm wk ks0 ks1 ks2 ks3 ks4 ks5 ks6 ks7 ks8 kr kt ns rest 100 1000 pc vs rs) (hD : DueTells w p loose mean mg mb lf fs rs form turn 100 1000)
    (hret : ∀ (v : Value) (m' : Str → Option Value) (h' : Heap) (tk' : Nat), Fr h₀ L h' m' → News h₀ L h' rest → v = .bool true → Q (.ret v) { s with heap := h', toks := tk' }) :
    wpAny (model PySem.Challenge.rw_tk0059_01.row.prog w) (ktrTop dp un gd (Str.ofString "law") LS L a ccd [] outer) (execs b (envX (Str.ofString "law") LS L a ccd [])) Q E s := by
  conv at hb => rhs; whnf
  conv at hLS => rhs; whnf
  subst hb hLS
  have F0 := fr_kstB _ hm F
  dsimp only [kstB] at F0
  clear F
  revert X; k_fill; intro X
  have hMk := kstMark
  iterate 10 (first | (k_unfold; (try dsimp only)) | walk1 | (dsimp only; walk1))
  all_goals (try (exfalso; exact hne1 (by assumption)))
  k_steps
  all_goals first
    | (refine' hret _ _ _ _ ?F9 ?N9 rfl; (case N9 => (rename News _ _ _ _ => nE; exact kst_newsOf nE (by intro p hp; first | exact hp | ((repeat (refine List.mem_cons_of_mem _ ?_)); exact hp)))); (case F9 => (rename Fr _ _ _ _ => fE; exact fE)))
    | trace_state

theorem w_G4_3 : True := by
  k_with "subscriptTail" => (k_here; (with_reducible show wpAny _ _ (subscriptTail _ _ (Value.ref _) (Value.int _ _)) _ _ _); k_dflt (refine' my_item ?l ?a ?b ?d ?_; (case l => exact News.isList (by k_asm) (by k_mem)); (case a => decide); (case b => decide); (case d => rfl); k_whole))
  k_with "subscriptTail Name BinOp ref int" => (k_here; (with_reducible show wpAny _ _ (subscriptTail _ _ (Value.ref _) (Value.int _ _)) _ _ _); k_dflt (refine' my_item ?l ?a ?b ?d ?_; (case l => exact News.isList (by k_asm) (by k_mem)); (case a => decide); (case b => decide); (case d => rfl); k_whole))
  k_with "subscriptTail Name Name ref int" => (k_here; (with_reducible show wpAny _ _ (subscriptTail _ _ (Value.ref _) (Value.int _ _)) _ _ _); k_dflt (refine' my_item ?l ?a ?b ?d ?_; (case l => exact News.isList (by k_asm) (by k_mem)); (case a => decide); (case b => decide); (case d => rfl); k_whole))
  k_with "subscriptTail Attribute Name ref int" => (k_here; (with_reducible show wpAny _ _ (subscriptTail _ _ (Value.ref _) (Value.int _ _)) _ _ _); k_dflt (refine' my_item ?l ?a ?b ?d ?_; (case l => exact News.isList (by k_asm) (by k_mem)); (case a => decide); (case b => decide); (case d => rfl); k_whole))
  k_with "subscriptTail Name Call ref int" => (k_here; (with_reducible show wpAny _ _ (subscriptTail _ _ (Value.ref _) (Value.int _ _)) _ _ _); k_dflt (refine' my_item ?l ?a ?b ?d ?_; (case l => exact News.isList (by k_asm) (by k_mem)); (case a => decide); (case b => decide); (case d => rfl); k_whole))
  k_with "subscriptTail Attribute Call ref int" => (k_here; (with_reducible show wpAny _ _ (subscriptTail _ _ (Value.ref _) (Value.int _ _)) _ _ _); k_dflt (refine' my_item ?l ?a ?b ?d ?_; (case l => exact News.isList (by k_asm) (by k_mem)); (case a => decide); (case b => decide); (case d => rfl); k_whole))
  k_with "subscriptTail Attribute BinOp ref int" => (k_here; (with_reducible show wpAny _ _ (subscriptTail _ _ (Value.ref _) (Value.int _ _)) _ _ _); k_dflt (refine' my_item ?l ?a ?b ?d ?_; (case l => exact News.isList (by k_asm) (by k_mem)); (case a => decide); (case b => decide); (case d => rfl); k_whole))
  k_with "subscriptTail Name Constant ref int" => (k_here; (with_reducible show wpAny _ _ (subscriptTail _ _ (Value.ref _) (Value.int _ _)) _ _ _); k_dflt (refine' my_item ?l ?a ?b ?d ?_; (case l => exact News.isList (by k_asm) (by k_mem)); (case a => decide); (case b => decide); (case d => rfl); k_whole))
  k_with "subscriptTail Attribute IfExp ref int" => (k_here; (with_reducible show wpAny _ _ (subscriptTail _ _ (Value.ref _) (Value.int _ _)) _ _ _); k_dflt (refine' my_item ?l ?a ?b ?d ?_; (case l => exact News.isList (by k_asm) (by k_mem)); (case a => decide); (case b => decide); (case d => rfl); k_whole))
  k_with "subscriptTail Name Subscript ref int" => (k_here; (with_reducible show wpAny _ _ (subscriptTail _ _ (Value.ref _) (Value.int _ _)) _ _ _); k_dflt (refine' my_item ?l ?a ?b ?d ?_; (case l => exact News.isList (by k_asm) (by k_mem)); (case a => decide); (case b => decide); (case d => rfl); k_whole))
  k_with "subscriptTail" => (k_here; (with_reducible show wpAny _ _ (subscriptTail _ _ (Value.ref _) (Value.int _ _)) _ _ _); (rename MsTells _ _ _ _ _ _ _ => hMs); k_dflt (refine' my_item ?l ?a ?b ?d ?_; (case l => exact News.isList (by k_asm) (by k_mem)); (case a => assumption); (case b => omega); (case d => exact (hMs _).choose_spec); k_whole))
  k_with "subscriptTail List Name ref int" => (k_here; (with_reducible show wpAny _ _ (subscriptTail _ _ (Value.ref _) (Value.int _ _)) _ _ _); (rename MsTells _ _ _ _ _ _ _ => hMs); k_dflt (refine' my_item ?l ?a ?b ?d ?_; (case l => exact News.isList (by k_asm) (by k_mem)); (case a => assumption); (case b => omega); (case d => exact (hMs _).choose_spec); k_whole))
  k_with "call ref" => (k_here; (with_reducible show wpAny _ _ (call (Value.ref 442) [Value.ref _, Value.int _ _]) _ _ _); (rename RunAll _ _ _ _ _ _ _ _ _ _ _ _ _ _ _ _ _ _ _ _ _ _ _ _ _ _ _ _ _ _ _  => hTra); k_dflt (refine' hTra _ ?sub ?off _ _ _ _ _ _ _ _ _ _ _ _ _ _ _ _ _ _ _ _ _ _  ?B ?F ?X ?N ?T ?hdp ?hun ?_; (case N => exact news_swap3 (by k_asm)); (case sub => exact sub3); (case off => exact off3 (by assumption) (by k_ne) (by k_ne) (by k_ne) (by k_ne) (by k_ne) (by k_ne) (by k_ne) (by k_ne)); (case B => k_asm); (case F => k_asm); (case X => k_asm); (case T => k_asm); (case hdp => ktr_room); (case hun => ktr_units); k_whole); intro q9 p9 v9 t9 s9 h9 tk9 r9 F9 N9; (try dsimp only); (try k_sweep); (try k_fold))
  trivial
theorem turn_head_none {w : World} {p : Program} {loose : List Str} {mean : ExcName → Option Value} {mg mb : Str → Option Value} {dp un : Nat} {gd : Option (List Code)} {LS : Scope} {b : List Stmt} {a : Addr} {ccd : Value} {outer : List Env} {A₀ : Around} {base h₀ : Heap} {L : Addr} {m : Str → Option Value} {s : Shared} {Q : Flow → Shared → Prop} {E : Value → Shared → Prop} {sp dsp ls lc lk lm wk : Addr} {ks0 ks1 ks2 ks3 ks4 ks5 ks6 ks7 ks8 kr kt : Tok} {ns : Nat} {rest : List (Addr × Obj)} {lf : Addr} {head form turn va vb vc vd ve ms : Int} {th tf tt tp ta tb tc td te : Tok} {fs : List Value} {R : Int → List Value → Prop}
    (hb : b = forBody) (hLS : LS = lawParts.2) (B : Below A₀ base outer h₀) (F : Fr h₀ L s.heap m) (X : (hd.heap_1 w.params).In h₀) (N : News h₀ L s.heap ((dsp, dictOf [⟨PyData.keyHash w.params (Str.ofString "code"), .str (Str.ofString "code") ks0, .ref lc⟩, ⟨PyData.keyHash w.params (Str.ofString "constants"), .str (Str.ofString "constants") ks1, .ref lk⟩, ⟨PyData.keyHash w.params (Str.ofString "stack"), .str (Str.ofString "stack") ks2, .ref ls⟩, ⟨PyData.keyHash w.params (Str.ofString "room"), .str (Str.ofString "room") ks3, .int 5 kr⟩, ⟨PyData.keyHash w.params (Str.ofString "limits"), .str (Str.ofString "limits") ks4, .ref lm⟩, ⟨PyData.keyHash w.params (Str.ofString "works"), .str (Str.ofString "works") ks5, .ref wk⟩, ⟨PyData.keyHash w.params (Str.ofString "pc"), .str (Str.ofString "pc") ks6, .int head tp⟩, ⟨PyData.keyHash w.params (Str.ofString "top"), .str (Str.ofString "top") ks7, .int 5 kt⟩, ⟨PyData.keyHash w.params (Str.ofString "result"), .str (Str.ofString "result") ks8, .none⟩] 9) :: (ls, listOf [.int va ta, .int vb tb, .int vc tc, .int vd td, .int ve te, .none, .none, .none, .none, .none, .none, .none, .none, .none, .none, .none, .none].toArray ns) :: rest)) (T : Top p loose mean mg mb h₀) (hdp : dp + 120 < recursionLimit) (hun : un + 1200 < cLine)
    (hm : ∀ p ∈ ([(Str.ofString "stepper", .ref sp), (Str.ofString "head", .int head th), (Str.ofString "form", .int form tf), (Str.ofString "first", .ref lf), (Str.ofString "turn", .int turn tt), (Str.ofString "left", .none)] : List (Str × Value)), m p.1 = some p.2)
    (hoff : OwnOff rest [dsp, ls]) (hne : dsp ≠ ls) (hsp : (sp, instObj 508 dsp) ∈ rest) (hlf : (lf, listOf fs.toArray 0) ∈ rest) (hf0 : 0 ≤ form) (hf1 : form < 4) (ht0 : 0 ≤ turn) (ht1 : turn < 1000) (hms : MsTells va vb turn form ms ta tb)  (hT : RunAll w p loose mean mg mb sp dsp ls lc lk lm wk ks0 ks1 ks2 ks3 ks4 ks5 ks6 ks7 ks8 kr kt ns rest 100 1000 head [.int va ta, .int vb tb, .int vc tc, .int vd td, .int ve te, .none, .none, .none, .none, .none, .none, .none, .none, .none, .none, .none, .none] R) (hH : HoldsTells w p loose mean mg mb lf fs [.int va ta, .int vb tb, .int vc tc, .int vd td, .int ve te] form turn 100 1000)
    (hret : ∀ (m' : Str → Option Value) (pc' : Int) (vs' : List Value) (tp' tt' tl' : Tok) (h' : Heap) (tk' : Nat), R pc' vs' → m' (Str.ofString "turn") = some (.int (turn + 1) tt') → m' (Str.ofString "left") = some (.int ms tl') → (∀ z, z ≠ Str.ofString "word" → z ≠ Str.ofString "found" → z ≠ Str.ofString "now" → z ≠ Str.ofString "measure" → z ≠ Str.ofString "turn" → z ≠ Str.ofString "left" → m' z = m z) → Fr h₀ L h' m' → News h₀ L h' ((dsp, dictOf [⟨PyData.keyHash w.params (Str.ofString "code"), .str (Str.ofString "code") ks0, .ref lc⟩, ⟨PyData.keyHash w.params (Str.ofString "constants"), .str (Str.ofString "constants") ks1, .ref lk⟩, ⟨PyData.keyHash w.params (Str.ofString "stack"), .str (Str.ofString "stack") ks2, .ref ls⟩, ⟨PyData.keyHash w.params (Str.ofString "room"), .str (Str.ofString "room") ks3, .int 5 kr⟩, ⟨PyData.keyHash w.params (Str.ofString "limits"), .str (Str.ofString "limits") ks4, .ref lm⟩, ⟨PyData.keyHash w.params (Str.ofString "works"), .str (Str.ofString "works") ks5, .ref wk⟩, ⟨PyData.keyHash w.params (Str.ofString "pc"), .str (Str.ofString "pc") ks6, .int pc' tp'⟩, ⟨PyData.keyHash w.params (Str.ofString "top"), .str (Str.ofString "top") ks7, .int 5 kt⟩, ⟨PyData.keyHash w.params (Str.ofString "result"), .str (Str.ofString "result") ks8, .none⟩] 9) :: (ls, listOf vs'.toArray ns) :: rest) → Q .next { s with heap := h', toks := tk' }) :
    wpAny (model PySem.Challenge.rw_tk0059_01.row.prog w) (ktrTop dp un gd (Str.ofString "law") LS L a ccd [] outer) (execs b (envX (Str.ofString "law") LS L a ccd [])) Q E s := by
  conv at hb => rhs; whnf
  conv at hLS => rhs; whnf
  subst hb hLS
  have F0 := fr_kstB _ hm F
  dsimp only [kstB] at F0
  clear F
  revert X; k_fill; intro X
  have hMk := kstMark
  iterate 10 (first | (k_unfold; (try dsimp only)) | walk1 | (dsimp only; walk1))
  all_goals (try (exfalso; exact absurd rfl (by assumption)))
  k_steps
  all_goals first
    | (refine' hret _ _ _ _ _ _ _ _ ?r9 ?m7 ?m8 ?m9 ?F9 ?N9; (case N9 => (rename News _ _ _ _ => nE; refine kst_newsOf nE ?_; ((repeat (refine sub_cons (by k_memK) ?_)); first | exact List.forall_mem_nil _ | (intro p hp; k_ownIn)))); (case F9 => (rename Fr _ _ _ _ => fE; exact fE)); (case r9 => assumption); (case m7 => rfl); (case m8 => rfl); (case m9 => (intro z hz1 hz2 hz3 hz4 hz5 hz6; (try dsimp only); simp only [if_neg hz1, if_neg hz2, if_neg hz3, if_neg hz4, if_neg hz5, if_neg hz6]; exact kstB_self (ps := [(Str.ofString "stepper", .ref sp), (Str.ofString "head", .int head th), (Str.ofString "form", .int form tf), (Str.ofString "first", .ref lf)]) (fun p hp => hm p (List.mem_append_left ([(Str.ofString "turn", .int turn tt), (Str.ofString "left", .none)] : List (Str × Value)) hp)))))
    | trace_state

theorem turn_head_some {w : World} {p : Program} {loose : List Str} {mean : ExcName → Option Value} {mg mb : Str → Option Value} {dp un : Nat} {gd : Option (List Code)} {LS : Scope} {b : List Stmt} {a : Addr} {ccd : Value} {outer : List Env} {A₀ : Around} {base h₀ : Heap} {L : Addr} {m : Str → Option Value} {s : Shared} {Q : Flow → Shared → Prop} {E : Value → Shared → Prop} {sp dsp ls lc lk lm wk : Addr} {ks0 ks1 ks2 ks3 ks4 ks5 ks6 ks7 ks8 kr kt : Tok} {ns : Nat} {rest : List (Addr × Obj)} {lf : Addr} {head form turn va vb vc vd ve ms ml : Int} {th tf tt tp ta tb tc td te tl : Tok} {fs : List Value} {R : Int → List Value → Prop}
    (hb : b = forBody) (hLS : LS = lawParts.2) (B : Below A₀ base outer h₀) (F : Fr h₀ L s.heap m) (X : (hd.heap_1 w.params).In h₀) (N : News h₀ L s.heap ((dsp, dictOf [⟨PyData.keyHash w.params (Str.ofString "code"), .str (Str.ofString "code") ks0, .ref lc⟩, ⟨PyData.keyHash w.params (Str.ofString "constants"), .str (Str.ofString "constants") ks1, .ref lk⟩, ⟨PyData.keyHash w.params (Str.ofString "stack"), .str (Str.ofString "stack") ks2, .ref ls⟩, ⟨PyData.keyHash w.params (Str.ofString "room"), .str (Str.ofString "room") ks3, .int 5 kr⟩, ⟨PyData.keyHash w.params (Str.ofString "limits"), .str (Str.ofString "limits") ks4, .ref lm⟩, ⟨PyData.keyHash w.params (Str.ofString "works"), .str (Str.ofString "works") ks5, .ref wk⟩, ⟨PyData.keyHash w.params (Str.ofString "pc"), .str (Str.ofString "pc") ks6, .int head tp⟩, ⟨PyData.keyHash w.params (Str.ofString "top"), .str (Str.ofString "top") ks7, .int 5 kt⟩, ⟨PyData.keyHash w.params (Str.ofString "result"), .str (Str.ofString "result") ks8, .none⟩] 9) :: (ls, listOf [.int va ta, .int vb tb, .int vc tc, .int vd td, .int ve te, .none, .none, .none, .none, .none, .none, .none, .none, .none, .none, .none, .none].toArray ns) :: rest)) (T : Top p loose mean mg mb h₀) (hdp : dp + 120 < recursionLimit) (hun : un + 1200 < cLine)
    (hm : ∀ p ∈ ([(Str.ofString "stepper", .ref sp), (Str.ofString "head", .int head th), (Str.ofString "form", .int form tf), (Str.ofString "first", .ref lf), (Str.ofString "turn", .int turn tt), (Str.ofString "left", .int ml tl)] : List (Str × Value)), m p.1 = some p.2)
    (hoff : OwnOff rest [dsp, ls]) (hne : dsp ≠ ls) (hsp : (sp, instObj 508 dsp) ∈ rest) (hlf : (lf, listOf fs.toArray 0) ∈ rest) (hf0 : 0 ≤ form) (hf1 : form < 4) (ht0 : 0 ≤ turn) (ht1 : turn < 1000) (hms : MsTells va vb turn form ms ta tb) (hl : ms < ml) (hT : RunAll w p loose mean mg mb sp dsp ls lc lk lm wk ks0 ks1 ks2 ks3 ks4 ks5 ks6 ks7 ks8 kr kt ns rest 100 1000 head [.int va ta, .int vb tb, .int vc tc, .int vd td, .int ve te, .none, .none, .none, .none, .none, .none, .none, .none, .none, .none, .none, .none] R) (hH : HoldsTells w p loose mean mg mb lf fs [.int va ta, .int vb tb, .int vc tc, .int vd td, .int ve te] form turn 100 1000)
    (hret : ∀ (m' : Str → Option Value) (pc' : Int) (vs' : List Value) (tp' tt' tl' : Tok) (h' : Heap) (tk' : Nat), R pc' vs' → m' (Str.ofString "turn") = some (.int (turn + 1) tt') → m' (Str.ofString "left") = some (.int ms tl') → (∀ z, z ≠ Str.ofString "word" → z ≠ Str.ofString "found" → z ≠ Str.ofString "now" → z ≠ Str.ofString "measure" → z ≠ Str.ofString "turn" → z ≠ Str.ofString "left" → m' z = m z) → Fr h₀ L h' m' → News h₀ L h' ((dsp, dictOf [⟨PyData.keyHash w.params (Str.ofString "code"), .str (Str.ofString "code") ks0, .ref lc⟩, ⟨PyData.keyHash w.params (Str.ofString "constants"), .str (Str.ofString "constants") ks1, .ref lk⟩, ⟨PyData.keyHash w.params (Str.ofString "stack"), .str (Str.ofString "stack") ks2, .ref ls⟩, ⟨PyData.keyHash w.params (Str.ofString "room"), .str (Str.ofString "room") ks3, .int 5 kr⟩, ⟨PyData.keyHash w.params (Str.ofString "limits"), .str (Str.ofString "limits") ks4, .ref lm⟩, ⟨PyData.keyHash w.params (Str.ofString "works"), .str (Str.ofString "works") ks5, .ref wk⟩, ⟨PyData.keyHash w.params (Str.ofString "pc"), .str (Str.ofString "pc") ks6, .int pc' tp'⟩, ⟨PyData.keyHash w.params (Str.ofString "top"), .str (Str.ofString "top") ks7, .int 5 kt⟩, ⟨PyData.keyHash w.params (Str.ofString "result"), .str (Str.ofString "result") ks8, .none⟩] 9) :: (ls, listOf vs'.toArray ns) :: rest) → Q .next { s with heap := h', toks := tk' }) :
    wpAny (model PySem.Challenge.rw_tk0059_01.row.prog w) (ktrTop dp un gd (Str.ofString "law") LS L a ccd [] outer) (execs b (envX (Str.ofString "law") LS L a ccd [])) Q E s := by
  conv at hb => rhs; whnf
  conv at hLS => rhs; whnf
  subst hb hLS
  have F0 := fr_kstB _ hm F
  dsimp only [kstB] at F0
  clear F
  revert X; k_fill; intro X
  have hMk := kstMark
  iterate 10 (first | (k_unfold; (try dsimp only)) | walk1 | (dsimp only; walk1))
  all_goals (try (exfalso; exact absurd rfl (by assumption)))
  k_steps
  all_goals first
    | (refine' hret _ _ _ _ _ _ _ _ ?r9 ?m7 ?m8 ?m9 ?F9 ?N9; (case N9 => (rename News _ _ _ _ => nE; refine kst_newsOf nE ?_; ((repeat (refine sub_cons (by k_memK) ?_)); first | exact List.forall_mem_nil _ | (intro p hp; k_ownIn)))); (case F9 => (rename Fr _ _ _ _ => fE; exact fE)); (case r9 => assumption); (case m7 => rfl); (case m8 => rfl); (case m9 => (intro z hz1 hz2 hz3 hz4 hz5 hz6; (try dsimp only); simp only [if_neg hz1, if_neg hz2, if_neg hz3, if_neg hz4, if_neg hz5, if_neg hz6]; exact kstB_self (ps := [(Str.ofString "stepper", .ref sp), (Str.ofString "head", .int head th), (Str.ofString "form", .int form tf), (Str.ofString "first", .ref lf)]) (fun p hp => hm p (List.mem_append_left ([(Str.ofString "turn", .int turn tt), (Str.ofString "left", .int ml tl)] : List (Str × Value)) hp)))))
    | trace_state

theorem law_loop {w : World} {p : Program} {loose : List Str} {mean : ExcName → Option Value} {mg mb : Str → Option Value} {dp un : Nat} {gd : Option (List Code)} {LS : Scope} {b : List Stmt} {a : Addr} {ccd : Value} {outer : List Env} {A₀ : Around} {base h₀ : Heap} {L : Addr} {m : Str → Option Value} {s : Shared} {Q : Flow → Shared → Prop} {E : Value → Shared → Prop} {sp dsp ls lc lk lm wk : Addr} {ks0 ks1 ks2 ks3 ks4 ks5 ks6 ks7 ks8 kr kt : Tok} {ns : Nat} {rest : List (Addr × Obj)} {lf : Addr} {head form : Int} {th tf : Tok} {fs : List Value} {Iv : Nat → LSt → Prop}
    (hb : b = lawParts.1.drop 6) (hLS : LS = lawParts.2) (B : Below A₀ base outer h₀) (F : Fr h₀ L s.heap m) (X : (hd.heap_1 w.params).In h₀) (N : News h₀ L s.heap ((dsp, dictOf [⟨PyData.keyHash w.params (Str.ofString "code"), .str (Str.ofString "code") ks0, .ref lc⟩, ⟨PyData.keyHash w.params (Str.ofString "constants"), .str (Str.ofString "constants") ks1, .ref lk⟩, ⟨PyData.keyHash w.params (Str.ofString "stack"), .str (Str.ofString "stack") ks2, .ref ls⟩, ⟨PyData.keyHash w.params (Str.ofString "room"), .str (Str.ofString "room") ks3, .int 5 kr⟩, ⟨PyData.keyHash w.params (Str.ofString "limits"), .str (Str.ofString "limits") ks4, .ref lm⟩, ⟨PyData.keyHash w.params (Str.ofString "works"), .str (Str.ofString "works") ks5, .ref wk⟩, ⟨PyData.keyHash w.params (Str.ofString "pc"), .str (Str.ofString "pc") ks6, .int c₀.pc c₀.tp⟩, ⟨PyData.keyHash w.params (Str.ofString "top"), .str (Str.ofString "top") ks7, .int 5 kt⟩, ⟨PyData.keyHash w.params (Str.ofString "result"), .str (Str.ofString "result") ks8, .none⟩] 9) :: (ls, listOf c₀.vs.toArray ns) :: rest)) (T : Top p loose mean mg mb h₀) (hdp : dp + 120 < recursionLimit) (hun : un + 1200 < cLine)
    (hm : ∀ p ∈ ([(Str.ofString "stepper", .ref sp), (Str.ofString "head", .int head th), (Str.ofString "form", .int form tf), (Str.ofString "first", .ref lf), (Str.ofString "turn", .int c₀.turn c₀.tt), (Str.ofString "left", c₀.left)] : List (Str × Value)), m p.1 = some p.2)
    (hoff : OwnOff rest [dsp, ls]) (hne : dsp ≠ ls) (hsp : (sp, instObj 508 dsp) ∈ rest) (hlf : (lf, listOf fs.toArray 0) ∈ rest) (hf0 : 0 ≤ form) (hf1 : form < 4) (htl : c₀.turn = 0 ∧ c₀.left = .none) (hE : PassesOwn (model PySem.Challenge.rw_tk0059_01.row.prog w) (ktrTop dp un gd (Str.ofString "law") LS L a ccd [] outer) (envX (Str.ofString "law") LS L a ccd []) E) (h0 : Iv 0 c₀) (hdone : ∀ c, ¬ Iv 200 c) (plan : ∀ k c, Iv k c → k < 200 → Plan w p loose mean mg mb sp dsp ls lc lk lm wk ks0 ks1 ks2 ks3 ks4 ks5 ks6 ks7 ks8 kr kt ns rest lf fs form head (Iv (k + 1)) c)
    (hret : ∀ (v : Value) (m' : Str → Option Value) (h' : Heap) (tk' : Nat), Fr h₀ L h' m' → News h₀ L h' rest → v = .bool true → Q (.ret v) { s with heap := h', toks := tk' }) :
    wpAny (model PySem.Challenge.rw_tk0059_01.row.prog w) (ktrTop dp un gd (Str.ofString "law") LS L a ccd [] outer) (execs b (envX (Str.ofString "law") LS L a ccd [])) Q E s := by
  conv at hb => rhs; whnf
  conv at hLS => rhs; whnf
  subst hb hLS
  have F0 := fr_kstB _ hm F
  dsimp only [kstB] at F0
  clear F
  revert X; k_fill; intro X
  have hMk := kstMark
  (first | (k_unfold; (try dsimp only)) | walk1 | (dsimp only; walk1))
  rename Fr _ _ _ _ => lF9
  (with_unfolding_all refine' For_invVF lF9 ?k1 ?k2 ?_ (hE := hE))
  case k1 => exact rfl
  case k2 => exact rfl
  repeat ((fail_if_success (with_reducible show wpAny _ _ (pyIter _) _ _ _)); (first | (k_unfold; (try dsimp only)) | walk1 | (dsimp only; walk1)))
  rename IsRange _ _ _ _ _ _ _ _ => rgX
  rename Fr _ _ _ _ => fE
  rename News _ _ _ _ => nE
  (with_unfolding_all refine' kst_range (n := 200) (fun c : LSt => (dsp, dictOf [⟨PyData.keyHash w.params (Str.ofString "code"), .str (Str.ofString "code") ks0, .ref lc⟩, ⟨PyData.keyHash w.params (Str.ofString "constants"), .str (Str.ofString "constants") ks1, .ref lk⟩, ⟨PyData.keyHash w.params (Str.ofString "stack"), .str (Str.ofString "stack") ks2, .ref ls⟩, ⟨PyData.keyHash w.params (Str.ofString "room"), .str (Str.ofString "room") ks3, .int 5 kr⟩, ⟨PyData.keyHash w.params (Str.ofString "limits"), .str (Str.ofString "limits") ks4, .ref lm⟩, ⟨PyData.keyHash w.params (Str.ofString "works"), .str (Str.ofString "works") ks5, .ref wk⟩, ⟨PyData.keyHash w.params (Str.ofString "pc"), .str (Str.ofString "pc") ks6, .int c.pc c.tp⟩, ⟨PyData.keyHash w.params (Str.ofString "top"), .str (Str.ofString "top") ks7, .int 5 kt⟩, ⟨PyData.keyHash w.params (Str.ofString "result"), .str (Str.ofString "result") ks8, .none⟩] 9) :: (ls, listOf c.vs.toArray ns) :: rest) (fun c => [(Str.ofString "turn", Value.int c.turn c.tt), (Str.ofString "left", c.left)]) (fun _ => True) [Str.ofString "now", Str.ofString "measure", Str.ofString "word", Str.ofString "found"] (fun pre c => Iv pre.length c) c₀ (by rfl) (by first | exact rgX | assumption) (by decide) (by rfl) fE ?kn trivial ?kk h0 ?turn ?done)
  case kn => exact nE
  case kk => (intro p hp; simp only [List.mem_cons, List.not_mem_nil, or_false] at hp; rcases hp with rfl | rfl <;> rfl)
  case done => (intro c u h tk _ hI; exact absurd (by simpa [rangeKs_length] using hI) (hdone c))
  case turn =>
    intro c pre k t u h tk own ek hlt hown _ hI F N
    have hoff' : OwnOff (rest ++ own) [dsp, ls] := off_app (l := rest.map (fun p : Addr × Obj => p.1)) hoff hown
    have N' : News h₀ L h ((dsp, dictOf [⟨PyData.keyHash w.params (Str.ofString "code"), .str (Str.ofString "code") ks0, .ref lc⟩, ⟨PyData.keyHash w.params (Str.ofString "constants"), .str (Str.ofString "constants") ks1, .ref lk⟩, ⟨PyData.keyHash w.params (Str.ofString "stack"), .str (Str.ofString "stack") ks2, .ref ls⟩, ⟨PyData.keyHash w.params (Str.ofString "room"), .str (Str.ofString "room") ks3, .int 5 kr⟩, ⟨PyData.keyHash w.params (Str.ofString "limits"), .str (Str.ofString "limits") ks4, .ref lm⟩, ⟨PyData.keyHash w.params (Str.ofString "works"), .str (Str.ofString "works") ks5, .ref wk⟩, ⟨PyData.keyHash w.params (Str.ofString "pc"), .str (Str.ofString "pc") ks6, .int c.pc c.tp⟩, ⟨PyData.keyHash w.params (Str.ofString "top"), .str (Str.ofString "top") ks7, .int 5 kt⟩, ⟨PyData.keyHash w.params (Str.ofString "result"), .str (Str.ofString "result") ks8, .none⟩] 9) :: (ls, listOf c.vs.toArray ns) :: (rest ++ own)) := N
    have hlen : (pre ++ [k]).length = pre.length + 1 := by simp
    rcases plan _ c hI hlt with ⟨hne1, R, hT, hR⟩ | ⟨hne1, rs, hT, hD⟩ | ⟨hpc, ht0, ht1, ms, R, hms, hl, hT, hH, hR⟩
    · refine turn_away (dp := dp) (un := un) rfl rfl B F X N' T hdp hun (by intro p hp; simp only [List.mem_cons, List.not_mem_nil, or_false] at hp; rcases hp with rfl | rfl <;> first | rfl | (cases c; rfl)) hoff' hne (List.mem_append_left _ hsp) hne1 (hT _ (fun p hp => List.mem_append_left _ hp) hoff') ?_
      intro m' pc' vs' tp' h' tk' r hmq F' N''
      obtain ⟨c', rfl, rfl, rfl, e1, e2, e3, hI'⟩ := hR pc' vs' tp' r
      refine kst_end c' F' N'' ?hn ?ho rfl trivial ?hk ?hr (by rw [hlen]; exact hI')
      case hn => (intro p hp; rcases List.mem_cons.mp hp with rfl | hp; exact List.mem_cons_self; rcases List.mem_cons.mp hp with rfl | hp; exact List.mem_cons_of_mem _ List.mem_cons_self; exact List.mem_cons_of_mem _ (List.mem_cons_of_mem _ (List.mem_append_left _ hp)))
      case ho => (intro p hp; exact List.mem_cons_of_mem _ (List.mem_cons_of_mem _ (List.mem_append_right _ hp)))
      case hk => (intro p hp; simp only [List.mem_cons, List.not_mem_nil, or_false] at hp; rw [e1, e2, e3] at hp; rcases hp with rfl | rfl; exact (hmq (Str.ofString "turn") (by decide) (by decide)).trans rfl; exact (hmq (Str.ofString "left") (by decide) (by decide)).trans rfl)
      case hr =>
        intro z hz hps hst
        have h1 := hps _ List.mem_cons_self
        have h2 := hps _ (List.mem_cons_of_mem _ List.mem_cons_self)
        rw [hmq z (ne_stored hst (by decide)) (ne_stored hst (by decide))]
        (try dsimp only [kstB])
        rw [if_neg hz, if_neg h1, if_neg h2, hst]
        rfl
    · refine turn_back (dp := dp) (un := un) rfl rfl B F X N' T hdp hun (by intro p hp; simp only [List.mem_cons, List.not_mem_nil, or_false] at hp; rcases hp with rfl | rfl | rfl | rfl | rfl <;> first | rfl | (cases c; rfl)) hoff' hne (List.mem_append_left _ hsp) (List.mem_append_left _ hlf) hne1 (hT _ (fun p hp => List.mem_append_left _ hp) hoff') hD ?_
      intro v m' h' tk' F' N'' e
      exact hret v m' h' tk' F' (kst_newsOf N'' (fun p hp => List.mem_append_left _ hp)) e
    · have fin : ∀ (m' : Str → Option Value) (pc' : Int) (vs' : List Value) (tp' tt' tl' : Tok) (h' : Heap) (tk' : Nat), R pc' vs' → m' (Str.ofString "turn") = some (.int (c.turn + 1) tt') → m' (Str.ofString "left") = some (.int ms tl') → (∀ z, z ≠ Str.ofString "word" → z ≠ Str.ofString "found" → z ≠ Str.ofString "now" → z ≠ Str.ofString "measure" → z ≠ Str.ofString "turn" → z ≠ Str.ofString "left" → m' z = (fun y => if y = Str.ofString "step" then some (Value.int k t) else kstB (fun z => if ([Str.ofString "now", Str.ofString "measure", Str.ofString "word", Str.ofString "found"] : List Str).contains z then u z else (fun z => if z = Str.ofString "stepper" then some (.ref sp) else if z = Str.ofString "head" then some (.int head th) else if z = Str.ofString "form" then some (.int form tf) else if z = Str.ofString "first" then some (.ref lf) else if z = Str.ofString "turn" then some (.int c₀.turn c₀.tt) else if z = Str.ofString "left" then some c₀.left else m z) z) [(Str.ofString "turn", Value.int c.turn c.tt), (Str.ofString "left", c.left)] y) z) → Fr h₀ L h' m' → News h₀ L h' ((dsp, dictOf [⟨PyData.keyHash w.params (Str.ofString "code"), .str (Str.ofString "code") ks0, .ref lc⟩, ⟨PyData.keyHash w.params (Str.ofString "constants"), .str (Str.ofString "constants") ks1, .ref lk⟩, ⟨PyData.keyHash w.params (Str.ofString "stack"), .str (Str.ofString "stack") ks2, .ref ls⟩, ⟨PyData.keyHash w.params (Str.ofString "room"), .str (Str.ofString "room") ks3, .int 5 kr⟩, ⟨PyData.keyHash w.params (Str.ofString "limits"), .str (Str.ofString "limits") ks4, .ref lm⟩, ⟨PyData.keyHash w.params (Str.ofString "works"), .str (Str.ofString "works") ks5, .ref wk⟩, ⟨PyData.keyHash w.params (Str.ofString "pc"), .str (Str.ofString "pc") ks6, .int pc' tp'⟩, ⟨PyData.keyHash w.params (Str.ofString "top"), .str (Str.ofString "top") ks7, .int 5 kt⟩, ⟨PyData.keyHash w.params (Str.ofString "result"), .str (Str.ofString "result") ks8, .none⟩] 9) :: (ls, listOf vs'.toArray ns) :: (rest ++ own)) → InvEndN h₀ L (KstS (fun c : LSt => (dsp, dictOf [⟨PyData.keyHash w.params (Str.ofString "code"), .str (Str.ofString "code") ks0, .ref lc⟩, ⟨PyData.keyHash w.params (Str.ofString "constants"), .str (Str.ofString "constants") ks1, .ref lk⟩, ⟨PyData.keyHash w.params (Str.ofString "stack"), .str (Str.ofString "stack") ks2, .ref ls⟩, ⟨PyData.keyHash w.params (Str.ofString "room"), .str (Str.ofString "room") ks3, .int 5 kr⟩, ⟨PyData.keyHash w.params (Str.ofString "limits"), .str (Str.ofString "limits") ks4, .ref lm⟩, ⟨PyData.keyHash w.params (Str.ofString "works"), .str (Str.ofString "works") ks5, .ref wk⟩, ⟨PyData.keyHash w.params (Str.ofString "pc"), .str (Str.ofString "pc") ks6, .int c.pc c.tp⟩, ⟨PyData.keyHash w.params (Str.ofString "top"), .str (Str.ofString "top") ks7, .int 5 kt⟩, ⟨PyData.keyHash w.params (Str.ofString "result"), .str (Str.ofString "result") ks8, .none⟩] 9) :: (ls, listOf c.vs.toArray ns) :: rest) (fun c => [(Str.ofString "turn", Value.int c.turn c.tt), (Str.ofString "left", c.left)]) (fun _ => True) (Str.ofString "step") [Str.ofString "now", Str.ofString "measure", Str.ofString "word", Str.ofString "found"] (fun z => if z = Str.ofString "stepper" then some (.ref sp) else if z = Str.ofString "head" then some (.int head th) else if z = Str.ofString "form" then some (.int form tf) else if z = Str.ofString "first" then some (.ref lf) else if z = Str.ofString "turn" then some (.int c₀.turn c₀.tt) else if z = Str.ofString "left" then some c₀.left else m z) (fun pre c => Iv pre.length c) (pre ++ [k])) own (List.map (·.1) ((fun c : LSt => (dsp, dictOf [⟨PyData.keyHash w.params (Str.ofString "code"), .str (Str.ofString "code") ks0, .ref lc⟩, ⟨PyData.keyHash w.params (Str.ofString "constants"), .str (Str.ofString "constants") ks1, .ref lk⟩, ⟨PyData.keyHash w.params (Str.ofString "stack"), .str (Str.ofString "stack") ks2, .ref ls⟩, ⟨PyData.keyHash w.params (Str.ofString "room"), .str (Str.ofString "room") ks3, .int 5 kr⟩, ⟨PyData.keyHash w.params (Str.ofString "limits"), .str (Str.ofString "limits") ks4, .ref lm⟩, ⟨PyData.keyHash w.params (Str.ofString "works"), .str (Str.ofString "works") ks5, .ref wk⟩, ⟨PyData.keyHash w.params (Str.ofString "pc"), .str (Str.ofString "pc") ks6, .int c.pc c.tp⟩, ⟨PyData.keyHash w.params (Str.ofString "top"), .str (Str.ofString "top") ks7, .int 5 kt⟩, ⟨PyData.keyHash w.params (Str.ofString "result"), .str (Str.ofString "result") ks8, .none⟩] 9) :: (ls, listOf c.vs.toArray ns) :: rest) c₀)) { s with heap := h, toks := tk } { s with heap := h', toks := tk' } := by
        intro m' pc' vs' tp' tt' tl' h' tk' r hmt hml hmq F' N''
        obtain ⟨c', rfl, rfl, rfl, e1, rfl, e3, hI'⟩ := hR pc' vs' tp' tt' tl' r
        refine kst_end c' F' N'' ?hn ?ho rfl trivial ?hk ?hr (by rw [hlen]; exact hI')
        case hn => (intro p hp; rcases List.mem_cons.mp hp with rfl | hp; exact List.mem_cons_self; rcases List.mem_cons.mp hp with rfl | hp; exact List.mem_cons_of_mem _ List.mem_cons_self; exact List.mem_cons_of_mem _ (List.mem_cons_of_mem _ (List.mem_append_left _ hp)))
        case ho => (intro p hp; exact List.mem_cons_of_mem _ (List.mem_cons_of_mem _ (List.mem_append_right _ hp)))
        case hk => (intro p hp; simp only [List.mem_cons, List.not_mem_nil, or_false] at hp; rw [e1, e3] at hp; rcases hp with rfl | rfl; exact hmt; exact hml)
        case hr =>
          intro z hz hps hst
          have h1 := hps _ List.mem_cons_self
          have h2 := hps _ (List.mem_cons_of_mem _ List.mem_cons_self)
          rw [hmq z (ne_stored hst (by decide)) (ne_stored hst (by decide)) (ne_stored hst (by decide)) (ne_stored hst (by decide)) h1 h2]
          (try dsimp only [kstB])
          rw [if_neg hz, if_neg h1, if_neg h2, hst]
          rfl
      obtain ⟨pc, tp, va, vb, vc, vd, ve, ta, tb, tc, td, te, turn, tt, left⟩ := c
      dsimp only at hpc hms hl hT hH N' F ht0 ht1 fin
      subst hpc
      rcases hl with rfl | ⟨ml, tl, rfl, hml⟩
      · refine turn_head_none (dp := dp) (un := un) rfl rfl B F X N' T hdp hun (by intro p hp; simp only [List.mem_cons, List.not_mem_nil, or_false] at hp; rcases hp with rfl | rfl | rfl | rfl | rfl | rfl <;> first | rfl | (cases c; rfl)) hoff' hne (List.mem_append_left _ hsp) (List.mem_append_left _ hlf) hf0 hf1 ht0 ht1 hms ?hTT hH fin
        case hTT => (intro r' hs ho; exact hT r' (fun p hp => hs p (List.mem_append_left _ hp)) ho)
      · refine turn_head_some (dp := dp) (un := un) rfl rfl B F X N' T hdp hun (by intro p hp; simp only [List.mem_cons, List.not_mem_nil, or_false] at hp; rcases hp with rfl | rfl | rfl | rfl | rfl | rfl <;> first | rfl | (cases c; rfl)) hoff' hne (List.mem_append_left _ hsp) (List.mem_append_left _ hlf) hf0 hf1 ht0 ht1 hms hml ?hTU hH fin
        case hTU => (intro r' hs ho; exact hT r' (fun p hp => hs p (List.mem_append_left _ hp)) ho)
theorem w_F1_1 : True := by
  k_with_none
  trivial
structure Sea (w : World) (p : Program) (loose : List Str) (mean : ExcName → Option Value) (mg mb : Str → Option Value) (sp dsp ls lc lk lm dlm wk dwk f0 f1 f2 f3 f4 f5 c4 : Addr) (of oc : Obj) (ks0 ks1 ks2 ks3 ks4 ks5 ks6 ks7 ks8 kr kt z0 z1 z2 ka0 kb0 ka1 kb1 ka2 kb2 ka3 kb3 ka4 kb4 ka5 kb5 ka6 kb6 ka7 kb7 ka8 kb8 ka9 kb9 kw0 kw1 kw2 kw3 kw4 kw5 : Tok) (nc nk ns : Nat) (cs : List Value) (rest : List (Addr × Obj)) : Prop where
  hne : dsp ≠ ls
  hsp : (sp, instObj 508 dsp) ∈ rest
  hlk : (lk, listOf [.int 0 z0, .int 2 z1, .int 10 z2].toArray nk) ∈ rest
  hlm : (lm, instObj 95 dlm) ∈ rest
  hdlm : (dlm, dictOf [⟨PyData.keyHash w.params (Str.ofString "width"), .str (Str.ofString "width") ka0, .int 16 kb0⟩, ⟨PyData.keyHash w.params (Str.ofString "registers"), .str (Str.ofString "registers") ka1, .int 250 kb1⟩, ⟨PyData.keyHash w.params (Str.ofString "upvalues"), .str (Str.ofString "upvalues") ka2, .int 60 kb2⟩, ⟨PyData.keyHash w.params (Str.ofString "local_names"), .str (Str.ofString "local_names") ka3, .int 200 kb3⟩, ⟨PyData.keyHash w.params (Str.ofString "ccalls"), .str (Str.ofString "ccalls") ka4, .int 40 kb4⟩, ⟨PyData.keyHash w.params (Str.ofString "frames"), .str (Str.ofString "frames") ka5, .int 200 kb5⟩, ⟨PyData.keyHash w.params (Str.ofString "stack"), .str (Str.ofString "stack") ka6, .int 2000 kb6⟩, ⟨PyData.keyHash w.params (Str.ofString "flush"), .str (Str.ofString "flush") ka7, .int 50 kb7⟩, ⟨PyData.keyHash w.params (Str.ofString "steps"), .str (Str.ofString "steps") ka8, .int 1000000000 kb8⟩, ⟨PyData.keyHash w.params (Str.ofString "text"), .str (Str.ofString "text") ka9, .int 1000000 kb9⟩] 10) ∈ rest
  hwk : (wk, instObj 417 dwk) ∈ rest
  hdwk : (dwk, dictOf [⟨PyData.keyHash w.params (Str.ofString "new_table"), .str (Str.ofString "new_table") kw0, .ref f0⟩, ⟨PyData.keyHash w.params (Str.ofString "index"), .str (Str.ofString "index") kw1, .ref f1⟩, ⟨PyData.keyHash w.params (Str.ofString "put"), .str (Str.ofString "put") kw2, .ref f2⟩, ⟨PyData.keyHash w.params (Str.ofString "length"), .str (Str.ofString "length") kw3, .ref f3⟩, ⟨PyData.keyHash w.params (Str.ofString "compared"), .str (Str.ofString "compared") kw4, .ref f4⟩, ⟨PyData.keyHash w.params (Str.ofString "called"), .str (Str.ofString "called") kw5, .ref f5⟩] 6) ∈ rest
  hf4 : (f4, of) ∈ rest
  hc4 : (c4, oc) ∈ rest
  hlc : (lc, listOf cs.toArray nc) ∈ rest
  hcd : CodeOf of c4
  hcmp : CmpTells w p loose mean mg mb f4 c4 of oc
theorem Sea.mono {w : World} {p : Program} {loose : List Str} {mean : ExcName → Option Value} {mg mb : Str → Option Value} {sp dsp ls lc lk lm dlm wk dwk f0 f1 f2 f3 f4 f5 c4 : Addr} {of oc : Obj} {ks0 ks1 ks2 ks3 ks4 ks5 ks6 ks7 ks8 kr kt z0 z1 z2 ka0 kb0 ka1 kb1 ka2 kb2 ka3 kb3 ka4 kb4 ka5 kb5 ka6 kb6 ka7 kb7 ka8 kb8 ka9 kb9 kw0 kw1 kw2 kw3 kw4 kw5 : Tok} {nc nk ns : Nat} {cs : List Value} {rest : List (Addr × Obj)} {rest' : List (Addr × Obj)} (S : Sea w p loose mean mg mb sp dsp ls lc lk lm dlm wk dwk f0 f1 f2 f3 f4 f5 c4 of oc ks0 ks1 ks2 ks3 ks4 ks5 ks6 ks7 ks8 kr kt z0 z1 z2 ka0 kb0 ka1 kb1 ka2 kb2 ka3 kb3 ka4 kb4 ka5 kb5 ka6 kb6 ka7 kb7 ka8 kb8 ka9 kb9 kw0 kw1 kw2 kw3 kw4 kw5 nc nk ns cs rest) (hs : ∀ p ∈ rest, p ∈ rest') : Sea w p loose mean mg mb sp dsp ls lc lk lm dlm wk dwk f0 f1 f2 f3 f4 f5 c4 of oc ks0 ks1 ks2 ks3 ks4 ks5 ks6 ks7 ks8 kr kt z0 z1 z2 ka0 kb0 ka1 kb1 ka2 kb2 ka3 kb3 ka4 kb4 ka5 kb5 ka6 kb6 ka7 kb7 ka8 kb8 ka9 kb9 kw0 kw1 kw2 kw3 kw4 kw5 nc nk ns cs rest' :=
  ⟨S.hne, hs _ S.hsp, hs _ S.hlk, hs _ S.hlm, hs _ S.hdlm, hs _ S.hwk, hs _ S.hdwk, hs _ S.hf4, hs _ S.hc4, hs _ S.hlc, S.hcd, S.hcmp⟩
theorem run_all {w : World} {p : Program} {loose : List Str} {mean : ExcName → Option Value} {mg mb : Str → Option Value} {sp dsp ls lc lk lm dlm wk dwk f0 f1 f2 f3 f4 f5 c4 : Addr} {of oc : Obj} {ks0 ks1 ks2 ks3 ks4 ks5 ks6 ks7 ks8 kr kt z0 z1 z2 ka0 kb0 ka1 kb1 ka2 kb2 ka3 kb3 ka4 kb4 ka5 kb5 ka6 kb6 ka7 kb7 ka8 kb8 ka9 kb9 kw0 kw1 kw2 kw3 kw4 kw5 : Tok} {nc nk ns : Nat} {cs : List Value} {rest : List (Addr × Obj)} {op i pc : Int} {vs : List Value} {tj : Tok} {R : Int → List Value → Prop} (S : Sea w p loose mean mg mb sp dsp ls lc lk lm dlm wk dwk f0 f1 f2 f3 f4 f5 c4 of oc ks0 ks1 ks2 ks3 ks4 ks5 ks6 ks7 ks8 kr kt z0 z1 z2 ka0 kb0 ka1 kb1 ka2 kb2 ka3 kb3 ka4 kb4 ka5 kb5 ka6 kb6 ka7 kb7 ka8 kb8 ka9 kb9 kw0 kw1 kw2 kw3 kw4 kw5 nc nk ns cs rest) (h0 : 0 ≤ pc) (h1 : pc < 1000) (hi0 : 0 ≤ i) (hi1 : i < 4294967296) (hx : cs[pc.toNat]? = some (.int i tj)) (e : i % 64 = op)
    (hD : ∀ rest', Sea w p loose mean mg mb sp dsp ls lc lk lm dlm wk dwk f0 f1 f2 f3 f4 f5 c4 of oc ks0 ks1 ks2 ks3 ks4 ks5 ks6 ks7 ks8 kr kt z0 z1 z2 ka0 kb0 ka1 kb1 ka2 kb2 ka3 kb3 ka4 kb4 ka5 kb5 ka6 kb6 ka7 kb7 ka8 kb8 ka9 kb9 kw0 kw1 kw2 kw3 kw4 kw5 nc nk ns cs rest' → OwnOff rest' [dsp, ls] → DoTells w p loose mean mg mb sp dsp ls lc lk lm wk ks0 ks1 ks2 ks3 ks4 ks5 ks6 ks7 ks8 kr kt ns rest' 449 80 800 op i (pc + 1) vs R) : RunAll w p loose mean mg mb sp dsp ls lc lk lm wk ks0 ks1 ks2 ks3 ks4 ks5 ks6 ks7 ks8 kr kt ns rest 100 1000 pc vs R := by
  intro rest' hs hoff
  exact run_ok hoff S.hne (hs _ S.hsp) (hs _ S.hlc) h0 h1 hi0 hi1 hx e (dotells_ext hoff (fun rest'' hs' hoff' => hD rest'' ((S.mono hs).mono hs') hoff'))
theorem back_all {w : World} {p : Program} {loose : List Str} {mean : ExcName → Option Value} {mg mb : Str → Option Value} {sp dsp ls lc lk lm dlm wk dwk f0 f1 f2 f3 f4 f5 c4 : Addr} {of oc : Obj} {ks0 ks1 ks2 ks3 ks4 ks5 ks6 ks7 ks8 kr kt z0 z1 z2 ka0 kb0 ka1 kb1 ka2 kb2 ka3 kb3 ka4 kb4 ka5 kb5 ka6 kb6 ka7 kb7 ka8 kb8 ka9 kb9 kw0 kw1 kw2 kw3 kw4 kw5 : Tok} {nc nk ns : Nat} {cs : List Value} {rest : List (Addr × Obj)} {i pc : Int} {vs rs : List Value} {tj : Tok} (S : Sea w p loose mean mg mb sp dsp ls lc lk lm dlm wk dwk f0 f1 f2 f3 f4 f5 c4 of oc ks0 ks1 ks2 ks3 ks4 ks5 ks6 ks7 ks8 kr kt z0 z1 z2 ka0 kb0 ka1 kb1 ka2 kb2 ka3 kb3 ka4 kb4 ka5 kb5 ka6 kb6 ka7 kb7 ka8 kb8 ka9 kb9 kw0 kw1 kw2 kw3 kw4 kw5 nc nk ns cs rest) (h0 : 0 ≤ pc) (h1 : pc < 1000) (hi0 : 0 ≤ i) (hi1 : i < 4294967296) (hx : cs[pc.toNat]? = some (.int i tj)) (e : i % 64 = 30)
    (hD : ∀ rest', Sea w p loose mean mg mb sp dsp ls lc lk lm dlm wk dwk f0 f1 f2 f3 f4 f5 c4 of oc ks0 ks1 ks2 ks3 ks4 ks5 ks6 ks7 ks8 kr kt z0 z1 z2 ka0 kb0 ka1 kb1 ka2 kb2 ka3 kb3 ka4 kb4 ka5 kb5 ka6 kb6 ka7 kb7 ka8 kb8 ka9 kb9 kw0 kw1 kw2 kw3 kw4 kw5 nc nk ns cs rest' → OwnOff rest' [dsp, ls] → BkTells w p loose mean mg mb sp dsp ls lc lk lm wk ks0 ks1 ks2 ks3 ks4 ks5 ks6 ks7 ks8 kr kt ns rest' 449 80 800 i (pc + 1) vs rs) : RbkAll w p loose mean mg mb sp dsp ls lc lk lm wk ks0 ks1 ks2 ks3 ks4 ks5 ks6 ks7 ks8 kr kt ns rest 100 1000 pc vs rs := by
  intro rest' hs hoff
  exact run_back hoff S.hne (hs _ S.hsp) (hs _ S.hlc) h0 h1 hi0 hi1 hx e (bktells_ext hoff (fun rest'' hs' hoff' => hD rest'' ((S.mono hs).mono hs') hoff'))
theorem ra_0_0 {w : World} {p : Program} {loose : List Str} {mean : ExcName → Option Value} {mg mb : Str → Option Value} {sp dsp ls lc lk lm dlm wk dwk f0 f1 f2 f3 f4 f5 c4 : Addr} {of oc : Obj} {ks0 ks1 ks2 ks3 ks4 ks5 ks6 ks7 ks8 kr kt z0 z1 z2 ka0 kb0 ka1 kb1 ka2 kb2 ka3 kb3 ka4 kb4 ka5 kb5 ka6 kb6 ka7 kb7 ka8 kb8 ka9 kb9 kw0 kw1 kw2 kw3 kw4 kw5 : Tok} {nc nk ns : Nat} {rest : List (Addr × Obj)} {q0 q1 q2 q3 q4 q5 q6 : Tok} {ra rb rc rd re : Int} {tra trb trc trd tre : Tok} (S : Sea w p loose mean mg mb sp dsp ls lc lk lm dlm wk dwk f0 f1 f2 f3 f4 f5 c4 of oc ks0 ks1 ks2 ks3 ks4 ks5 ks6 ks7 ks8 kr kt z0 z1 z2 ka0 kb0 ka1 kb1 ka2 kb2 ka3 kb3 ka4 kb4 ka5 kb5 ka6 kb6 ka7 kb7 ka8 kb8 ka9 kb9 kw0 kw1 kw2 kw3 kw4 kw5 nc nk ns [.int 12582999 q0, .int 2147532822 q1, .int 16528 q2, .int 8388608 q3, .int 16777280 q4, .int 2147368982 q5, .int 41943070 q6] rest)  : RunAll w p loose mean mg mb sp dsp ls lc lk lm wk ks0 ks1 ks2 ks3 ks4 ks5 ks6 ks7 ks8 kr kt ns rest 100 1000 0 [.int ra tra, .int rb trb, .int rc trc, .int rd trd, .int re tre, .none, .none, .none, .none, .none, .none, .none, .none, .none, .none, .none, .none] (fun pc' vs' => ((rb = 0 → pc' = 6) ∧ (rb ≠ 0 → pc' = 2)) ∧ vs' = [.int ra tra, .int rb trb, .int rc trc, .int rd trd, .int re tre, .none, .none, .none, .none, .none, .none, .none, .none, .none, .none, .none, .none]) := by
  refine run_all S (by decide) (by decide) (by decide) (by decide) rfl (op := 23) (by decide) ?_
  intro rest' S' hoff
  refine done_jump hoff S'.hne S'.hsp ?_ (Or.inr rfl)
  intro dp un gd cn nms ig ic mo a ccd cl outer A₀ base h₀ L m s Q E tp t0 t1 B F X N T hdp hun hret
  exact dj_eq (pc' := 0) (xb := 1) (xc := 256) (x := rb) (j := 2147532822) (dj := 4) B F X N T (by omega) (by omega) hoff S'.hne S'.hsp S'.hlk S'.hwk S'.hdwk S'.hf4 S'.hc4 S'.hlc S'.hcd S'.hcmp (by decide) (by decide) (by decide) (by decide) (by decide) (Or.inl ⟨by decide, by decide, by decide, rfl⟩) (Or.inr ⟨by decide, by decide, by decide, rfl⟩) (by decide) (by decide) rfl (by decide) (by decide) (by decide) (fun pc' tp' h' tk' e1 e2 F N => hret _ _ _ h' tk' ⟨⟨fun e => by have := e1 e; omega, fun e => by have := e2 e; omega⟩, rfl⟩ F N)
theorem ra_0_5 {w : World} {p : Program} {loose : List Str} {mean : ExcName → Option Value} {mg mb : Str → Option Value} {sp dsp ls lc lk lm dlm wk dwk f0 f1 f2 f3 f4 f5 c4 : Addr} {of oc : Obj} {ks0 ks1 ks2 ks3 ks4 ks5 ks6 ks7 ks8 kr kt z0 z1 z2 ka0 kb0 ka1 kb1 ka2 kb2 ka3 kb3 ka4 kb4 ka5 kb5 ka6 kb6 ka7 kb7 ka8 kb8 ka9 kb9 kw0 kw1 kw2 kw3 kw4 kw5 : Tok} {nc nk ns : Nat} {rest : List (Addr × Obj)} {q0 q1 q2 q3 q4 q5 q6 : Tok} {ra rb rc rd re : Int} {tra trb trc trd tre : Tok} (S : Sea w p loose mean mg mb sp dsp ls lc lk lm dlm wk dwk f0 f1 f2 f3 f4 f5 c4 of oc ks0 ks1 ks2 ks3 ks4 ks5 ks6 ks7 ks8 kr kt z0 z1 z2 ka0 kb0 ka1 kb1 ka2 kb2 ka3 kb3 ka4 kb4 ka5 kb5 ka6 kb6 ka7 kb7 ka8 kb8 ka9 kb9 kw0 kw1 kw2 kw3 kw4 kw5 nc nk ns [.int 12582999 q0, .int 2147532822 q1, .int 16528 q2, .int 8388608 q3, .int 16777280 q4, .int 2147368982 q5, .int 41943070 q6] rest)  : RunAll w p loose mean mg mb sp dsp ls lc lk lm wk ks0 ks1 ks2 ks3 ks4 ks5 ks6 ks7 ks8 kr kt ns rest 100 1000 5 [.int ra tra, .int rb trb, .int rc trc, .int rd trd, .int re tre, .none, .none, .none, .none, .none, .none, .none, .none, .none, .none, .none, .none] (fun pc' vs' => pc' = 0 ∧ vs' = [.int ra tra, .int rb trb, .int rc trc, .int rd trd, .int re tre, .none, .none, .none, .none, .none, .none, .none, .none, .none, .none, .none, .none]) := by
  refine run_all S (by decide) (by decide) (by decide) (by decide) rfl (op := 22) (by decide) ?_
  intro rest' S' hoff
  refine done_jump hoff S'.hne S'.hsp ?_ (Or.inl rfl)
  intro dp un gd cn nms ig ic mo a ccd cl outer A₀ base h₀ L m s Q E tp t0 t1 B F X N T hdp hun hret
  exact dj_jump (dj := -6) B F X N T (by omega) (by omega) hoff S'.hne S'.hsp (by decide) (by decide) (by decide) (fun pc' tp' h' tk' e F N => hret _ _ _ h' tk' ⟨by omega, rfl⟩ F N)
theorem ra_0_3 {w : World} {p : Program} {loose : List Str} {mean : ExcName → Option Value} {mg mb : Str → Option Value} {sp dsp ls lc lk lm dlm wk dwk f0 f1 f2 f3 f4 f5 c4 : Addr} {of oc : Obj} {ks0 ks1 ks2 ks3 ks4 ks5 ks6 ks7 ks8 kr kt z0 z1 z2 ka0 kb0 ka1 kb1 ka2 kb2 ka3 kb3 ka4 kb4 ka5 kb5 ka6 kb6 ka7 kb7 ka8 kb8 ka9 kb9 kw0 kw1 kw2 kw3 kw4 kw5 : Tok} {nc nk ns : Nat} {rest : List (Addr × Obj)} {q0 q1 q2 q3 q4 q5 q6 : Tok} {ra rb rc rd re : Int} {tra trb trc trd tre : Tok} (S : Sea w p loose mean mg mb sp dsp ls lc lk lm dlm wk dwk f0 f1 f2 f3 f4 f5 c4 of oc ks0 ks1 ks2 ks3 ks4 ks5 ks6 ks7 ks8 kr kt z0 z1 z2 ka0 kb0 ka1 kb1 ka2 kb2 ka3 kb3 ka4 kb4 ka5 kb5 ka6 kb6 ka7 kb7 ka8 kb8 ka9 kb9 kw0 kw1 kw2 kw3 kw4 kw5 nc nk ns [.int 12582999 q0, .int 2147532822 q1, .int 16528 q2, .int 8388608 q3, .int 16777280 q4, .int 2147368982 q5, .int 41943070 q6] rest)  : RunAll w p loose mean mg mb sp dsp ls lc lk lm wk ks0 ks1 ks2 ks3 ks4 ks5 ks6 ks7 ks8 kr kt ns rest 100 1000 3 [.int ra tra, .int rb trb, .int rc trc, .int rd trd, .int re tre, .none, .none, .none, .none, .none, .none, .none, .none, .none, .none, .none, .none] (fun pc' vs' => pc' = 4 + 0 ∧ vs' = [.int rb trb, .int rb trb, .int rc trc, .int rd trd, .int re tre, .none, .none, .none, .none, .none, .none, .none, .none, .none, .none, .none, .none]) := by
  refine run_all S (by decide) (by decide) (by decide) (by decide) rfl (op := 0) (by decide) ?_
  intro rest' S' hoff
  refine done_load (R := fun vs' => vs' = [.int rb trb, .int rb trb, .int rc trc, .int rd trd, .int re tre, .none, .none, .none, .none, .none, .none, .none, .none, .none, .none, .none, .none]) hoff S'.hne S'.hsp ?_ (by decide)
  intro dp un gd cn nms ig ic mo a ccd cl outer A₀ base h₀ L m s Q E tp t0 t1 t2 B F X N T hdp hun hret
  exact ld_0_3 B F X N T (by omega) (by omega) hoff S'.hne (fun t h' tk' F N => hret _ t h' tk' rfl F N)
theorem ra_0_4 {w : World} {p : Program} {loose : List Str} {mean : ExcName → Option Value} {mg mb : Str → Option Value} {sp dsp ls lc lk lm dlm wk dwk f0 f1 f2 f3 f4 f5 c4 : Addr} {of oc : Obj} {ks0 ks1 ks2 ks3 ks4 ks5 ks6 ks7 ks8 kr kt z0 z1 z2 ka0 kb0 ka1 kb1 ka2 kb2 ka3 kb3 ka4 kb4 ka5 kb5 ka6 kb6 ka7 kb7 ka8 kb8 ka9 kb9 kw0 kw1 kw2 kw3 kw4 kw5 : Tok} {nc nk ns : Nat} {rest : List (Addr × Obj)} {q0 q1 q2 q3 q4 q5 q6 : Tok} {ra rb rc rd re : Int} {tra trb trc trd tre : Tok} (S : Sea w p loose mean mg mb sp dsp ls lc lk lm dlm wk dwk f0 f1 f2 f3 f4 f5 c4 of oc ks0 ks1 ks2 ks3 ks4 ks5 ks6 ks7 ks8 kr kt z0 z1 z2 ka0 kb0 ka1 kb1 ka2 kb2 ka3 kb3 ka4 kb4 ka5 kb5 ka6 kb6 ka7 kb7 ka8 kb8 ka9 kb9 kw0 kw1 kw2 kw3 kw4 kw5 nc nk ns [.int 12582999 q0, .int 2147532822 q1, .int 16528 q2, .int 8388608 q3, .int 16777280 q4, .int 2147368982 q5, .int 41943070 q6] rest)  : RunAll w p loose mean mg mb sp dsp ls lc lk lm wk ks0 ks1 ks2 ks3 ks4 ks5 ks6 ks7 ks8 kr kt ns rest 100 1000 4 [.int ra tra, .int rb trb, .int rc trc, .int rd trd, .int re tre, .none, .none, .none, .none, .none, .none, .none, .none, .none, .none, .none, .none] (fun pc' vs' => pc' = 5 + 0 ∧ vs' = [.int ra tra, .int rc trc, .int rc trc, .int rd trd, .int re tre, .none, .none, .none, .none, .none, .none, .none, .none, .none, .none, .none, .none]) := by
  refine run_all S (by decide) (by decide) (by decide) (by decide) rfl (op := 0) (by decide) ?_
  intro rest' S' hoff
  refine done_load (R := fun vs' => vs' = [.int ra tra, .int rc trc, .int rc trc, .int rd trd, .int re tre, .none, .none, .none, .none, .none, .none, .none, .none, .none, .none, .none, .none]) hoff S'.hne S'.hsp ?_ (by decide)
  intro dp un gd cn nms ig ic mo a ccd cl outer A₀ base h₀ L m s Q E tp t0 t1 t2 B F X N T hdp hun hret
  exact ld_0_4 B F X N T (by omega) (by omega) hoff S'.hne (fun t h' tk' F N => hret _ t h' tk' rfl F N)
theorem ra_1_0 {w : World} {p : Program} {loose : List Str} {mean : ExcName → Option Value} {mg mb : Str → Option Value} {sp dsp ls lc lk lm dlm wk dwk f0 f1 f2 f3 f4 f5 c4 : Addr} {of oc : Obj} {ks0 ks1 ks2 ks3 ks4 ks5 ks6 ks7 ks8 kr kt z0 z1 z2 ka0 kb0 ka1 kb1 ka2 kb2 ka3 kb3 ka4 kb4 ka5 kb5 ka6 kb6 ka7 kb7 ka8 kb8 ka9 kb9 kw0 kw1 kw2 kw3 kw4 kw5 : Tok} {nc nk ns : Nat} {rest : List (Addr × Obj)} {q0 q1 q2 q3 q4 q5 q6 q7 q8 q9 : Tok} {ra rb rc rd re : Int} {tra trb trc trd tre : Tok} (S : Sea w p loose mean mg mb sp dsp ls lc lk lm dlm wk dwk f0 f1 f2 f3 f4 f5 c4 of oc ks0 ks1 ks2 ks3 ks4 ks5 ks6 ks7 ks8 kr kt z0 z1 z2 ka0 kb0 ka1 kb1 ka2 kb2 ka3 kb3 ka4 kb4 ka5 kb5 ka6 kb6 ka7 kb7 ka8 kb8 ka9 kb9 kw0 kw1 kw2 kw3 kw4 kw5 nc nk ns [.int 12582999 q0, .int 2147581974 q1, .int 12599504 q2, .int 29360215 q3, .int 2147483670 q4, .int 16777358 q5, .int 14 q6, .int 12599375 q7, .int 2147319830 q8, .int 41943070 q9] rest)  : RunAll w p loose mean mg mb sp dsp ls lc lk lm wk ks0 ks1 ks2 ks3 ks4 ks5 ks6 ks7 ks8 kr kt ns rest 100 1000 0 [.int ra tra, .int rb trb, .int rc trc, .int rd trd, .int re tre, .none, .none, .none, .none, .none, .none, .none, .none, .none, .none, .none, .none] (fun pc' vs' => ((rb = 0 → pc' = 9) ∧ (rb ≠ 0 → pc' = 2)) ∧ vs' = [.int ra tra, .int rb trb, .int rc trc, .int rd trd, .int re tre, .none, .none, .none, .none, .none, .none, .none, .none, .none, .none, .none, .none]) := by
  refine run_all S (by decide) (by decide) (by decide) (by decide) rfl (op := 23) (by decide) ?_
  intro rest' S' hoff
  refine done_jump hoff S'.hne S'.hsp ?_ (Or.inr rfl)
  intro dp un gd cn nms ig ic mo a ccd cl outer A₀ base h₀ L m s Q E tp t0 t1 B F X N T hdp hun hret
  exact dj_eq (pc' := 0) (xb := 1) (xc := 256) (x := rb) (j := 2147581974) (dj := 7) B F X N T (by omega) (by omega) hoff S'.hne S'.hsp S'.hlk S'.hwk S'.hdwk S'.hf4 S'.hc4 S'.hlc S'.hcd S'.hcmp (by decide) (by decide) (by decide) (by decide) (by decide) (Or.inl ⟨by decide, by decide, by decide, rfl⟩) (Or.inr ⟨by decide, by decide, by decide, rfl⟩) (by decide) (by decide) rfl (by decide) (by decide) (by decide) (fun pc' tp' h' tk' e1 e2 F N => hret _ _ _ h' tk' ⟨⟨fun e => by have := e1 e; omega, fun e => by have := e2 e; omega⟩, rfl⟩ F N)
theorem ra_1_3 {w : World} {p : Program} {loose : List Str} {mean : ExcName → Option Value} {mg mb : Str → Option Value} {sp dsp ls lc lk lm dlm wk dwk f0 f1 f2 f3 f4 f5 c4 : Addr} {of oc : Obj} {ks0 ks1 ks2 ks3 ks4 ks5 ks6 ks7 ks8 kr kt z0 z1 z2 ka0 kb0 ka1 kb1 ka2 kb2 ka3 kb3 ka4 kb4 ka5 kb5 ka6 kb6 ka7 kb7 ka8 kb8 ka9 kb9 kw0 kw1 kw2 kw3 kw4 kw5 : Tok} {nc nk ns : Nat} {rest : List (Addr × Obj)} {q0 q1 q2 q3 q4 q5 q6 q7 q8 q9 : Tok} {ra rb rc rd re : Int} {tra trb trc trd tre : Tok} (S : Sea w p loose mean mg mb sp dsp ls lc lk lm dlm wk dwk f0 f1 f2 f3 f4 f5 c4 of oc ks0 ks1 ks2 ks3 ks4 ks5 ks6 ks7 ks8 kr kt z0 z1 z2 ka0 kb0 ka1 kb1 ka2 kb2 ka3 kb3 ka4 kb4 ka5 kb5 ka6 kb6 ka7 kb7 ka8 kb8 ka9 kb9 kw0 kw1 kw2 kw3 kw4 kw5 nc nk ns [.int 12582999 q0, .int 2147581974 q1, .int 12599504 q2, .int 29360215 q3, .int 2147483670 q4, .int 16777358 q5, .int 14 q6, .int 12599375 q7, .int 2147319830 q8, .int 41943070 q9] rest)  : RunAll w p loose mean mg mb sp dsp ls lc lk lm wk ks0 ks1 ks2 ks3 ks4 ks5 ks6 ks7 ks8 kr kt ns rest 100 1000 3 [.int ra tra, .int rb trb, .int rc trc, .int rd trd, .int re tre, .none, .none, .none, .none, .none, .none, .none, .none, .none, .none, .none, .none] (fun pc' vs' => ((rd = 0 → pc' = 6) ∧ (rd ≠ 0 → pc' = 5)) ∧ vs' = [.int ra tra, .int rb trb, .int rc trc, .int rd trd, .int re tre, .none, .none, .none, .none, .none, .none, .none, .none, .none, .none, .none, .none]) := by
  refine run_all S (by decide) (by decide) (by decide) (by decide) rfl (op := 23) (by decide) ?_
  intro rest' S' hoff
  refine done_jump hoff S'.hne S'.hsp ?_ (Or.inr rfl)
  intro dp un gd cn nms ig ic mo a ccd cl outer A₀ base h₀ L m s Q E tp t0 t1 B F X N T hdp hun hret
  exact dj_eq (pc' := 0) (xb := 3) (xc := 256) (x := rd) (j := 2147483670) (dj := 1) B F X N T (by omega) (by omega) hoff S'.hne S'.hsp S'.hlk S'.hwk S'.hdwk S'.hf4 S'.hc4 S'.hlc S'.hcd S'.hcmp (by decide) (by decide) (by decide) (by decide) (by decide) (Or.inl ⟨by decide, by decide, by decide, rfl⟩) (Or.inr ⟨by decide, by decide, by decide, rfl⟩) (by decide) (by decide) rfl (by decide) (by decide) (by decide) (fun pc' tp' h' tk' e1 e2 F N => hret _ _ _ h' tk' ⟨⟨fun e => by have := e1 e; omega, fun e => by have := e2 e; omega⟩, rfl⟩ F N)
theorem ra_1_8 {w : World} {p : Program} {loose : List Str} {mean : ExcName → Option Value} {mg mb : Str → Option Value} {sp dsp ls lc lk lm dlm wk dwk f0 f1 f2 f3 f4 f5 c4 : Addr} {of oc : Obj} {ks0 ks1 ks2 ks3 ks4 ks5 ks6 ks7 ks8 kr kt z0 z1 z2 ka0 kb0 ka1 kb1 ka2 kb2 ka3 kb3 ka4 kb4 ka5 kb5 ka6 kb6 ka7 kb7 ka8 kb8 ka9 kb9 kw0 kw1 kw2 kw3 kw4 kw5 : Tok} {nc nk ns : Nat} {rest : List (Addr × Obj)} {q0 q1 q2 q3 q4 q5 q6 q7 q8 q9 : Tok} {ra rb rc rd re : Int} {tra trb trc trd tre : Tok} (S : Sea w p loose mean mg mb sp dsp ls lc lk lm dlm wk dwk f0 f1 f2 f3 f4 f5 c4 of oc ks0 ks1 ks2 ks3 ks4 ks5 ks6 ks7 ks8 kr kt z0 z1 z2 ka0 kb0 ka1 kb1 ka2 kb2 ka3 kb3 ka4 kb4 ka5 kb5 ka6 kb6 ka7 kb7 ka8 kb8 ka9 kb9 kw0 kw1 kw2 kw3 kw4 kw5 nc nk ns [.int 12582999 q0, .int 2147581974 q1, .int 12599504 q2, .int 29360215 q3, .int 2147483670 q4, .int 16777358 q5, .int 14 q6, .int 12599375 q7, .int 2147319830 q8, .int 41943070 q9] rest)  : RunAll w p loose mean mg mb sp dsp ls lc lk lm wk ks0 ks1 ks2 ks3 ks4 ks5 ks6 ks7 ks8 kr kt ns rest 100 1000 8 [.int ra tra, .int rb trb, .int rc trc, .int rd trd, .int re tre, .none, .none, .none, .none, .none, .none, .none, .none, .none, .none, .none, .none] (fun pc' vs' => pc' = 0 ∧ vs' = [.int ra tra, .int rb trb, .int rc trc, .int rd trd, .int re tre, .none, .none, .none, .none, .none, .none, .none, .none, .none, .none, .none, .none]) := by
  refine run_all S (by decide) (by decide) (by decide) (by decide) rfl (op := 22) (by decide) ?_
  intro rest' S' hoff
  refine done_jump hoff S'.hne S'.hsp ?_ (Or.inl rfl)
  intro dp un gd cn nms ig ic mo a ccd cl outer A₀ base h₀ L m s Q E tp t0 t1 B F X N T hdp hun hret
  exact dj_jump (dj := -9) B F X N T (by omega) (by omega) hoff S'.hne S'.hsp (by decide) (by decide) (by decide) (fun pc' tp' h' tk' e F N => hret _ _ _ h' tk' ⟨by omega, rfl⟩ F N)
theorem ra_2_0 {w : World} {p : Program} {loose : List Str} {mean : ExcName → Option Value} {mg mb : Str → Option Value} {sp dsp ls lc lk lm dlm wk dwk f0 f1 f2 f3 f4 f5 c4 : Addr} {of oc : Obj} {ks0 ks1 ks2 ks3 ks4 ks5 ks6 ks7 ks8 kr kt z0 z1 z2 ka0 kb0 ka1 kb1 ka2 kb2 ka3 kb3 ka4 kb4 ka5 kb5 ka6 kb6 ka7 kb7 ka8 kb8 ka9 kb9 kw0 kw1 kw2 kw3 kw4 kw5 : Tok} {nc nk ns : Nat} {rest : List (Addr × Obj)} {q0 q1 q2 q3 : Tok} {ra rb rc rd re : Int} {tra trb trc trd tre : Tok} (S : Sea w p loose mean mg mb sp dsp ls lc lk lm dlm wk dwk f0 f1 f2 f3 f4 f5 c4 of oc ks0 ks1 ks2 ks3 ks4 ks5 ks6 ks7 ks8 kr kt z0 z1 z2 ka0 kb0 ka1 kb1 ka2 kb2 ka3 kb3 ka4 kb4 ka5 kb5 ka6 kb6 ka7 kb7 ka8 kb8 ka9 kb9 kw0 kw1 kw2 kw3 kw4 kw5 nc nk ns [.int 2147483744 q0, .int 65548 q1, .int 2147434591 q2, .int 41943070 q3] rest)  : RunAll w p loose mean mg mb sp dsp ls lc lk lm wk ks0 ks1 ks2 ks3 ks4 ks5 ks6 ks7 ks8 kr kt ns rest 100 1000 0 [.int ra tra, .int rb trb, .int rc trc, .int rd trd, .int re tre, .none, .none, .none, .none, .none, .none, .none, .none, .none, .none, .none, .none] (fun pc' vs' => pc' = 2 ∧ ∃ v tv ty tz, v = wrp (rb - rd) ∧ vs' = [.int ra tra, .int v tv, .int rc ty, .int rd tz, .int re tre, .none, .none, .none, .none, .none, .none, .none, .none, .none, .none, .none, .none]) := by
  refine run_all S (by decide) (by decide) (by decide) (by decide) rfl (op := 32) (by decide) ?_
  intro rest' S' hoff
  refine done_other hoff S'.hne S'.hsp ?_ (Or.inr rfl)
  intro dp un gd cn nms ig ic mo a ccd cl outer A₀ base h₀ L m s Q E tp t0 t1 B F X N T hdp hun hret
  exact do_prep B F X N T (by omega) (by omega) hoff S'.hne S'.hsp S'.hlm S'.hdlm (fun v tv ty tz tp' h' tk' e F N => hret _ _ _ h' tk' ⟨by omega, v, tv, ty, tz, e, rfl⟩ F N)
theorem ra_2_2 {w : World} {p : Program} {loose : List Str} {mean : ExcName → Option Value} {mg mb : Str → Option Value} {sp dsp ls lc lk lm dlm wk dwk f0 f1 f2 f3 f4 f5 c4 : Addr} {of oc : Obj} {ks0 ks1 ks2 ks3 ks4 ks5 ks6 ks7 ks8 kr kt z0 z1 z2 ka0 kb0 ka1 kb1 ka2 kb2 ka3 kb3 ka4 kb4 ka5 kb5 ka6 kb6 ka7 kb7 ka8 kb8 ka9 kb9 kw0 kw1 kw2 kw3 kw4 kw5 : Tok} {nc nk ns : Nat} {rest : List (Addr × Obj)} {q0 q1 q2 q3 : Tok} {ra rb rc rd re : Int} {tra trb trc trd tre : Tok} (S : Sea w p loose mean mg mb sp dsp ls lc lk lm dlm wk dwk f0 f1 f2 f3 f4 f5 c4 of oc ks0 ks1 ks2 ks3 ks4 ks5 ks6 ks7 ks8 kr kt z0 z1 z2 ka0 kb0 ka1 kb1 ka2 kb2 ka3 kb3 ka4 kb4 ka5 kb5 ka6 kb6 ka7 kb7 ka8 kb8 ka9 kb9 kw0 kw1 kw2 kw3 kw4 kw5 nc nk ns [.int 2147483744 q0, .int 65548 q1, .int 2147434591 q2, .int 41943070 q3] rest)  : RunAll w p loose mean mg mb sp dsp ls lc lk lm wk ks0 ks1 ks2 ks3 ks4 ks5 ks6 ks7 ks8 kr kt ns rest 100 1000 2 [.int ra tra, .int rb trb, .int rc trc, .int rd trd, .int re tre, .none, .none, .none, .none, .none, .none, .none, .none, .none, .none, .none, .none] (fun pc' vs' => (pc' = 1 ∧ ∃ v tv tw, v = wrp (rb + rd) ∧ ((0 < rd ∧ v ≤ rc) ∨ (rd ≤ 0 ∧ rc ≤ v)) ∧ vs' = [.int ra tra, .int v tv, .int rc trc, .int rd trd, .int v tw, .none, .none, .none, .none, .none, .none, .none, .none, .none, .none, .none, .none]) ∨ (pc' = 3 ∧ (∃ v, v = wrp (rb + rd) ∧ ¬ ((0 < rd ∧ v ≤ rc) ∨ (rd ≤ 0 ∧ rc ≤ v))) ∧ vs' = [.int ra tra, .int rb trb, .int rc trc, .int rd trd, .int re tre, .none, .none, .none, .none, .none, .none, .none, .none, .none, .none, .none, .none])) := by
  refine run_all S (by decide) (by decide) (by decide) (by decide) rfl (op := 31) (by decide) ?_
  intro rest' S' hoff
  refine done_other hoff S'.hne S'.hsp ?_ (Or.inl rfl)
  intro dp un gd cn nms ig ic mo a ccd cl outer A₀ base h₀ L m s Q E tp t0 t1 B F X N T hdp hun hret
  exact do_loop B F X N T (by omega) (by omega) hoff S'.hne S'.hsp S'.hlm S'.hdlm (fun v tv tw tp' h' tk' e g F N => hret _ _ _ h' tk' (Or.inl ⟨by omega, v, tv, tw, e, g, rfl⟩) F N) (fun v tp' h' tk' e g F N => hret _ _ _ h' tk' (Or.inr ⟨by omega, ⟨v, e, g⟩, rfl⟩) F N)
theorem ra_3_0 {w : World} {p : Program} {loose : List Str} {mean : ExcName → Option Value} {mg mb : Str → Option Value} {sp dsp ls lc lk lm dlm wk dwk f0 f1 f2 f3 f4 f5 c4 : Addr} {of oc : Obj} {ks0 ks1 ks2 ks3 ks4 ks5 ks6 ks7 ks8 kr kt z0 z1 z2 ka0 kb0 ka1 kb1 ka2 kb2 ka3 kb3 ka4 kb4 ka5 kb5 ka6 kb6 ka7 kb7 ka8 kb8 ka9 kb9 kw0 kw1 kw2 kw3 kw4 kw5 : Tok} {nc nk ns : Nat} {rest : List (Addr × Obj)} {q0 q1 q2 q3 q4 q5 q6 q7 : Tok} {ra rb rc rd re : Int} {tra trb trc trd tre : Tok} (S : Sea w p loose mean mg mb sp dsp ls lc lk lm dlm wk dwk f0 f1 f2 f3 f4 f5 c4 of oc ks0 ks1 ks2 ks3 ks4 ks5 ks6 ks7 ks8 kr kt z0 z1 z2 ka0 kb0 ka1 kb1 ka2 kb2 ka3 kb3 ka4 kb4 ka5 kb5 ka6 kb6 ka7 kb7 ka8 kb8 ka9 kb9 kw0 kw1 kw2 kw3 kw4 kw5 nc nk ns [.int 4194391 q0, .int 2147549206 q1, .int 4227216 q2, .int 12615758 q3, .int 8421452 q4, .int 4227087 q5, .int 2147352598 q6, .int 41943070 q7] rest)  : RunAll w p loose mean mg mb sp dsp ls lc lk lm wk ks0 ks1 ks2 ks3 ks4 ks5 ks6 ks7 ks8 kr kt ns rest 100 1000 0 [.int ra tra, .int rb trb, .int rc trc, .int rd trd, .int re tre, .none, .none, .none, .none, .none, .none, .none, .none, .none, .none, .none, .none] (fun pc' vs' => ((ra = 0 → pc' = 7) ∧ (ra ≠ 0 → pc' = 2)) ∧ vs' = [.int ra tra, .int rb trb, .int rc trc, .int rd trd, .int re tre, .none, .none, .none, .none, .none, .none, .none, .none, .none, .none, .none, .none]) := by
  refine run_all S (by decide) (by decide) (by decide) (by decide) rfl (op := 23) (by decide) ?_
  intro rest' S' hoff
  refine done_jump hoff S'.hne S'.hsp ?_ (Or.inr rfl)
  intro dp un gd cn nms ig ic mo a ccd cl outer A₀ base h₀ L m s Q E tp t0 t1 B F X N T hdp hun hret
  exact dj_eq (pc' := 0) (xb := 0) (xc := 256) (x := ra) (j := 2147549206) (dj := 5) B F X N T (by omega) (by omega) hoff S'.hne S'.hsp S'.hlk S'.hwk S'.hdwk S'.hf4 S'.hc4 S'.hlc S'.hcd S'.hcmp (by decide) (by decide) (by decide) (by decide) (by decide) (Or.inl ⟨by decide, by decide, by decide, rfl⟩) (Or.inr ⟨by decide, by decide, by decide, rfl⟩) (by decide) (by decide) rfl (by decide) (by decide) (by decide) (fun pc' tp' h' tk' e1 e2 F N => hret _ _ _ h' tk' ⟨⟨fun e => by have := e1 e; omega, fun e => by have := e2 e; omega⟩, rfl⟩ F N)
theorem ra_3_6 {w : World} {p : Program} {loose : List Str} {mean : ExcName → Option Value} {mg mb : Str → Option Value} {sp dsp ls lc lk lm dlm wk dwk f0 f1 f2 f3 f4 f5 c4 : Addr} {of oc : Obj} {ks0 ks1 ks2 ks3 ks4 ks5 ks6 ks7 ks8 kr kt z0 z1 z2 ka0 kb0 ka1 kb1 ka2 kb2 ka3 kb3 ka4 kb4 ka5 kb5 ka6 kb6 ka7 kb7 ka8 kb8 ka9 kb9 kw0 kw1 kw2 kw3 kw4 kw5 : Tok} {nc nk ns : Nat} {rest : List (Addr × Obj)} {q0 q1 q2 q3 q4 q5 q6 q7 : Tok} {ra rb rc rd re : Int} {tra trb trc trd tre : Tok} (S : Sea w p loose mean mg mb sp dsp ls lc lk lm dlm wk dwk f0 f1 f2 f3 f4 f5 c4 of oc ks0 ks1 ks2 ks3 ks4 ks5 ks6 ks7 ks8 kr kt z0 z1 z2 ka0 kb0 ka1 kb1 ka2 kb2 ka3 kb3 ka4 kb4 ka5 kb5 ka6 kb6 ka7 kb7 ka8 kb8 ka9 kb9 kw0 kw1 kw2 kw3 kw4 kw5 nc nk ns [.int 4194391 q0, .int 2147549206 q1, .int 4227216 q2, .int 12615758 q3, .int 8421452 q4, .int 4227087 q5, .int 2147352598 q6, .int 41943070 q7] rest)  : RunAll w p loose mean mg mb sp dsp ls lc lk lm wk ks0 ks1 ks2 ks3 ks4 ks5 ks6 ks7 ks8 kr kt ns rest 100 1000 6 [.int ra tra, .int rb trb, .int rc trc, .int rd trd, .int re tre, .none, .none, .none, .none, .none, .none, .none, .none, .none, .none, .none, .none] (fun pc' vs' => pc' = 0 ∧ vs' = [.int ra tra, .int rb trb, .int rc trc, .int rd trd, .int re tre, .none, .none, .none, .none, .none, .none, .none, .none, .none, .none, .none, .none]) := by
  refine run_all S (by decide) (by decide) (by decide) (by decide) rfl (op := 22) (by decide) ?_
  intro rest' S' hoff
  refine done_jump hoff S'.hne S'.hsp ?_ (Or.inl rfl)
  intro dp un gd cn nms ig ic mo a ccd cl outer A₀ base h₀ L m s Q E tp t0 t1 B F X N T hdp hun hret
  exact dj_jump (dj := -7) B F X N T (by omega) (by omega) hoff S'.hne S'.hsp (by decide) (by decide) (by decide) (fun pc' tp' h' tk' e F N => hret _ _ _ h' tk' ⟨by omega, rfl⟩ F N)
theorem ra_0_2 {w : World} {p : Program} {loose : List Str} {mean : ExcName → Option Value} {mg mb : Str → Option Value} {sp dsp ls lc lk lm dlm wk dwk f0 f1 f2 f3 f4 f5 c4 : Addr} {of oc : Obj} {ks0 ks1 ks2 ks3 ks4 ks5 ks6 ks7 ks8 kr kt z0 z1 z2 ka0 kb0 ka1 kb1 ka2 kb2 ka3 kb3 ka4 kb4 ka5 kb5 ka6 kb6 ka7 kb7 ka8 kb8 ka9 kb9 kw0 kw1 kw2 kw3 kw4 kw5 : Tok} {nc nk ns : Nat} {rest : List (Addr × Obj)} {q0 q1 q2 q3 q4 q5 q6 : Tok} {ra rb rc rd re : Int} {tra trb trc trd tre : Tok} (S : Sea w p loose mean mg mb sp dsp ls lc lk lm dlm wk dwk f0 f1 f2 f3 f4 f5 c4 of oc ks0 ks1 ks2 ks3 ks4 ks5 ks6 ks7 ks8 kr kt z0 z1 z2 ka0 kb0 ka1 kb1 ka2 kb2 ka3 kb3 ka4 kb4 ka5 kb5 ka6 kb6 ka7 kb7 ka8 kb8 ka9 kb9 kw0 kw1 kw2 kw3 kw4 kw5 nc nk ns [.int 12582999 q0, .int 2147532822 q1, .int 16528 q2, .int 8388608 q3, .int 16777280 q4, .int 2147368982 q5, .int 41943070 q6] rest) (hpre : 0 < rb ∧ -65536 < ra ∧ ra < 65536 ∧ rb < 65536) : RunAll w p loose mean mg mb sp dsp ls lc lk lm wk ks0 ks1 ks2 ks3 ks4 ks5 ks6 ks7 ks8 kr kt ns rest 100 1000 2 [.int ra tra, .int rb trb, .int rc trc, .int rd trd, .int re tre, .none, .none, .none, .none, .none, .none, .none, .none, .none, .none, .none, .none] (fun pc' vs' => pc' = 3 ∧ ∃ v tv, v = wrp (ra % rb) ∧ vs' = [.int ra tra, .int rb trb, .int v tv, .int rd trd, .int re tre, .none, .none, .none, .none, .none, .none, .none, .none, .none, .none, .none, .none]) := by
  refine run_all S (by decide) (by decide) (by decide) (by decide) rfl (op := 16) (by decide) ?_
  intro rest' S' hoff
  refine done_reck hoff S'.hne S'.hsp ?_ (by decide) (by decide)
  intro dp un gd cn nms ig ic mo a ccd cl outer A₀ base h₀ L m s Q E tp t0 t1 B F X N T hdp hun hret
  exact dr_0_2 B F X N T (by omega) (by omega) hoff S'.hne S'.hsp S'.hlk S'.hlm S'.hdlm hpre (fun v tv h' tk' e F N => hret _ _ _ h' tk' ⟨by omega, v, tv, e, rfl⟩ F N)
theorem ra_1_2 {w : World} {p : Program} {loose : List Str} {mean : ExcName → Option Value} {mg mb : Str → Option Value} {sp dsp ls lc lk lm dlm wk dwk f0 f1 f2 f3 f4 f5 c4 : Addr} {of oc : Obj} {ks0 ks1 ks2 ks3 ks4 ks5 ks6 ks7 ks8 kr kt z0 z1 z2 ka0 kb0 ka1 kb1 ka2 kb2 ka3 kb3 ka4 kb4 ka5 kb5 ka6 kb6 ka7 kb7 ka8 kb8 ka9 kb9 kw0 kw1 kw2 kw3 kw4 kw5 : Tok} {nc nk ns : Nat} {rest : List (Addr × Obj)} {q0 q1 q2 q3 q4 q5 q6 q7 q8 q9 : Tok} {ra rb rc rd re : Int} {tra trb trc trd tre : Tok} (S : Sea w p loose mean mg mb sp dsp ls lc lk lm dlm wk dwk f0 f1 f2 f3 f4 f5 c4 of oc ks0 ks1 ks2 ks3 ks4 ks5 ks6 ks7 ks8 kr kt z0 z1 z2 ka0 kb0 ka1 kb1 ka2 kb2 ka3 kb3 ka4 kb4 ka5 kb5 ka6 kb6 ka7 kb7 ka8 kb8 ka9 kb9 kw0 kw1 kw2 kw3 kw4 kw5 nc nk ns [.int 12582999 q0, .int 2147581974 q1, .int 12599504 q2, .int 29360215 q3, .int 2147483670 q4, .int 16777358 q5, .int 14 q6, .int 12599375 q7, .int 2147319830 q8, .int 41943070 q9] rest) (hpre : 0 < 2 ∧ -65536 < rb ∧ rb < 65536 ∧ 2 < 65536) : RunAll w p loose mean mg mb sp dsp ls lc lk lm wk ks0 ks1 ks2 ks3 ks4 ks5 ks6 ks7 ks8 kr kt ns rest 100 1000 2 [.int ra tra, .int rb trb, .int rc trc, .int rd trd, .int re tre, .none, .none, .none, .none, .none, .none, .none, .none, .none, .none, .none, .none] (fun pc' vs' => pc' = 3 ∧ ∃ v tv, v = wrp (rb % 2) ∧ vs' = [.int ra tra, .int rb trb, .int rc trc, .int v tv, .int re tre, .none, .none, .none, .none, .none, .none, .none, .none, .none, .none, .none, .none]) := by
  refine run_all S (by decide) (by decide) (by decide) (by decide) rfl (op := 16) (by decide) ?_
  intro rest' S' hoff
  refine done_reck hoff S'.hne S'.hsp ?_ (by decide) (by decide)
  intro dp un gd cn nms ig ic mo a ccd cl outer A₀ base h₀ L m s Q E tp t0 t1 B F X N T hdp hun hret
  exact dr_1_2 B F X N T (by omega) (by omega) hoff S'.hne S'.hsp S'.hlk S'.hlm S'.hdlm hpre (fun v tv h' tk' e F N => hret _ _ _ h' tk' ⟨by omega, v, tv, e, rfl⟩ F N)
theorem ra_1_5 {w : World} {p : Program} {loose : List Str} {mean : ExcName → Option Value} {mg mb : Str → Option Value} {sp dsp ls lc lk lm dlm wk dwk f0 f1 f2 f3 f4 f5 c4 : Addr} {of oc : Obj} {ks0 ks1 ks2 ks3 ks4 ks5 ks6 ks7 ks8 kr kt z0 z1 z2 ka0 kb0 ka1 kb1 ka2 kb2 ka3 kb3 ka4 kb4 ka5 kb5 ka6 kb6 ka7 kb7 ka8 kb8 ka9 kb9 kw0 kw1 kw2 kw3 kw4 kw5 : Tok} {nc nk ns : Nat} {rest : List (Addr × Obj)} {q0 q1 q2 q3 q4 q5 q6 q7 q8 q9 : Tok} {ra rb rc rd re : Int} {tra trb trc trd tre : Tok} (S : Sea w p loose mean mg mb sp dsp ls lc lk lm dlm wk dwk f0 f1 f2 f3 f4 f5 c4 of oc ks0 ks1 ks2 ks3 ks4 ks5 ks6 ks7 ks8 kr kt z0 z1 z2 ka0 kb0 ka1 kb1 ka2 kb2 ka3 kb3 ka4 kb4 ka5 kb5 ka6 kb6 ka7 kb7 ka8 kb8 ka9 kb9 kw0 kw1 kw2 kw3 kw4 kw5 nc nk ns [.int 12582999 q0, .int 2147581974 q1, .int 12599504 q2, .int 29360215 q3, .int 2147483670 q4, .int 16777358 q5, .int 14 q6, .int 12599375 q7, .int 2147319830 q8, .int 41943070 q9] rest) (hpre : -32768 ≤ rc ∧ rc < 32768 ∧ -32768 ≤ ra ∧ ra < 32768) : RunAll w p loose mean mg mb sp dsp ls lc lk lm wk ks0 ks1 ks2 ks3 ks4 ks5 ks6 ks7 ks8 kr kt ns rest 100 1000 5 [.int ra tra, .int rb trb, .int rc trc, .int rd trd, .int re tre, .none, .none, .none, .none, .none, .none, .none, .none, .none, .none, .none, .none] (fun pc' vs' => pc' = 6 ∧ ∃ v tv, v = wrp (rc * ra) ∧ vs' = [.int ra tra, .int rb trb, .int v tv, .int rd trd, .int re tre, .none, .none, .none, .none, .none, .none, .none, .none, .none, .none, .none, .none]) := by
  refine run_all S (by decide) (by decide) (by decide) (by decide) rfl (op := 14) (by decide) ?_
  intro rest' S' hoff
  refine done_reck hoff S'.hne S'.hsp ?_ (by decide) (by decide)
  intro dp un gd cn nms ig ic mo a ccd cl outer A₀ base h₀ L m s Q E tp t0 t1 B F X N T hdp hun hret
  exact dr_1_5 B F X N T (by omega) (by omega) hoff S'.hne S'.hsp S'.hlk S'.hlm S'.hdlm hpre (fun v tv h' tk' e F N => hret _ _ _ h' tk' ⟨by omega, v, tv, e, rfl⟩ F N)
theorem ra_1_6 {w : World} {p : Program} {loose : List Str} {mean : ExcName → Option Value} {mg mb : Str → Option Value} {sp dsp ls lc lk lm dlm wk dwk f0 f1 f2 f3 f4 f5 c4 : Addr} {of oc : Obj} {ks0 ks1 ks2 ks3 ks4 ks5 ks6 ks7 ks8 kr kt z0 z1 z2 ka0 kb0 ka1 kb1 ka2 kb2 ka3 kb3 ka4 kb4 ka5 kb5 ka6 kb6 ka7 kb7 ka8 kb8 ka9 kb9 kw0 kw1 kw2 kw3 kw4 kw5 : Tok} {nc nk ns : Nat} {rest : List (Addr × Obj)} {q0 q1 q2 q3 q4 q5 q6 q7 q8 q9 : Tok} {ra rb rc rd re : Int} {tra trb trc trd tre : Tok} (S : Sea w p loose mean mg mb sp dsp ls lc lk lm dlm wk dwk f0 f1 f2 f3 f4 f5 c4 of oc ks0 ks1 ks2 ks3 ks4 ks5 ks6 ks7 ks8 kr kt z0 z1 z2 ka0 kb0 ka1 kb1 ka2 kb2 ka3 kb3 ka4 kb4 ka5 kb5 ka6 kb6 ka7 kb7 ka8 kb8 ka9 kb9 kw0 kw1 kw2 kw3 kw4 kw5 nc nk ns [.int 12582999 q0, .int 2147581974 q1, .int 12599504 q2, .int 29360215 q3, .int 2147483670 q4, .int 16777358 q5, .int 14 q6, .int 12599375 q7, .int 2147319830 q8, .int 41943070 q9] rest) (hpre : -32768 ≤ ra ∧ ra < 32768 ∧ -32768 ≤ ra ∧ ra < 32768) : RunAll w p loose mean mg mb sp dsp ls lc lk lm wk ks0 ks1 ks2 ks3 ks4 ks5 ks6 ks7 ks8 kr kt ns rest 100 1000 6 [.int ra tra, .int rb trb, .int rc trc, .int rd trd, .int re tre, .none, .none, .none, .none, .none, .none, .none, .none, .none, .none, .none, .none] (fun pc' vs' => pc' = 7 ∧ ∃ v tv, v = wrp (ra * ra) ∧ vs' = [.int v tv, .int rb trb, .int rc trc, .int rd trd, .int re tre, .none, .none, .none, .none, .none, .none, .none, .none, .none, .none, .none, .none]) := by
  refine run_all S (by decide) (by decide) (by decide) (by decide) rfl (op := 14) (by decide) ?_
  intro rest' S' hoff
  refine done_reck hoff S'.hne S'.hsp ?_ (by decide) (by decide)
  intro dp un gd cn nms ig ic mo a ccd cl outer A₀ base h₀ L m s Q E tp t0 t1 B F X N T hdp hun hret
  exact dr_1_6 B F X N T (by omega) (by omega) hoff S'.hne S'.hsp S'.hlk S'.hlm S'.hdlm hpre (fun v tv h' tk' e F N => hret _ _ _ h' tk' ⟨by omega, v, tv, e, rfl⟩ F N)
theorem ra_1_7 {w : World} {p : Program} {loose : List Str} {mean : ExcName → Option Value} {mg mb : Str → Option Value} {sp dsp ls lc lk lm dlm wk dwk f0 f1 f2 f3 f4 f5 c4 : Addr} {of oc : Obj} {ks0 ks1 ks2 ks3 ks4 ks5 ks6 ks7 ks8 kr kt z0 z1 z2 ka0 kb0 ka1 kb1 ka2 kb2 ka3 kb3 ka4 kb4 ka5 kb5 ka6 kb6 ka7 kb7 ka8 kb8 ka9 kb9 kw0 kw1 kw2 kw3 kw4 kw5 : Tok} {nc nk ns : Nat} {rest : List (Addr × Obj)} {q0 q1 q2 q3 q4 q5 q6 q7 q8 q9 : Tok} {ra rb rc rd re : Int} {tra trb trc trd tre : Tok} (S : Sea w p loose mean mg mb sp dsp ls lc lk lm dlm wk dwk f0 f1 f2 f3 f4 f5 c4 of oc ks0 ks1 ks2 ks3 ks4 ks5 ks6 ks7 ks8 kr kt z0 z1 z2 ka0 kb0 ka1 kb1 ka2 kb2 ka3 kb3 ka4 kb4 ka5 kb5 ka6 kb6 ka7 kb7 ka8 kb8 ka9 kb9 kw0 kw1 kw2 kw3 kw4 kw5 nc nk ns [.int 12582999 q0, .int 2147581974 q1, .int 12599504 q2, .int 29360215 q3, .int 2147483670 q4, .int 16777358 q5, .int 14 q6, .int 12599375 q7, .int 2147319830 q8, .int 41943070 q9] rest) (hpre : 0 ≤ rb ∧ 0 < 2 ∧ rb < 65536 ∧ 2 < 65536) : RunAll w p loose mean mg mb sp dsp ls lc lk lm wk ks0 ks1 ks2 ks3 ks4 ks5 ks6 ks7 ks8 kr kt ns rest 100 1000 7 [.int ra tra, .int rb trb, .int rc trc, .int rd trd, .int re tre, .none, .none, .none, .none, .none, .none, .none, .none, .none, .none, .none, .none] (fun pc' vs' => pc' = 8 ∧ ∃ v tv, v = wrp (rb / 2) ∧ vs' = [.int ra tra, .int v tv, .int rc trc, .int rd trd, .int re tre, .none, .none, .none, .none, .none, .none, .none, .none, .none, .none, .none, .none]) := by
  refine run_all S (by decide) (by decide) (by decide) (by decide) rfl (op := 15) (by decide) ?_
  intro rest' S' hoff
  refine done_reck hoff S'.hne S'.hsp ?_ (by decide) (by decide)
  intro dp un gd cn nms ig ic mo a ccd cl outer A₀ base h₀ L m s Q E tp t0 t1 B F X N T hdp hun hret
  exact dr_1_7 B F X N T (by omega) (by omega) hoff S'.hne S'.hsp S'.hlk S'.hlm S'.hdlm hpre (fun v tv h' tk' e F N => hret _ _ _ h' tk' ⟨by omega, v, tv, e, rfl⟩ F N)
theorem ra_2_1 {w : World} {p : Program} {loose : List Str} {mean : ExcName → Option Value} {mg mb : Str → Option Value} {sp dsp ls lc lk lm dlm wk dwk f0 f1 f2 f3 f4 f5 c4 : Addr} {of oc : Obj} {ks0 ks1 ks2 ks3 ks4 ks5 ks6 ks7 ks8 kr kt z0 z1 z2 ka0 kb0 ka1 kb1 ka2 kb2 ka3 kb3 ka4 kb4 ka5 kb5 ka6 kb6 ka7 kb7 ka8 kb8 ka9 kb9 kw0 kw1 kw2 kw3 kw4 kw5 : Tok} {nc nk ns : Nat} {rest : List (Addr × Obj)} {q0 q1 q2 q3 : Tok} {ra rb rc rd re : Int} {tra trb trc trd tre : Tok} (S : Sea w p loose mean mg mb sp dsp ls lc lk lm dlm wk dwk f0 f1 f2 f3 f4 f5 c4 of oc ks0 ks1 ks2 ks3 ks4 ks5 ks6 ks7 ks8 kr kt z0 z1 z2 ka0 kb0 ka1 kb1 ka2 kb2 ka3 kb3 ka4 kb4 ka5 kb5 ka6 kb6 ka7 kb7 ka8 kb8 ka9 kb9 kw0 kw1 kw2 kw3 kw4 kw5 nc nk ns [.int 2147483744 q0, .int 65548 q1, .int 2147434591 q2, .int 41943070 q3] rest) (hpre : -70000 < ra ∧ ra < 70000 ∧ -70000 < re ∧ re < 70000) : RunAll w p loose mean mg mb sp dsp ls lc lk lm wk ks0 ks1 ks2 ks3 ks4 ks5 ks6 ks7 ks8 kr kt ns rest 100 1000 1 [.int ra tra, .int rb trb, .int rc trc, .int rd trd, .int re tre, .none, .none, .none, .none, .none, .none, .none, .none, .none, .none, .none, .none] (fun pc' vs' => pc' = 2 ∧ ∃ v tv, v = wrp (ra + re) ∧ vs' = [.int v tv, .int rb trb, .int rc trc, .int rd trd, .int re tre, .none, .none, .none, .none, .none, .none, .none, .none, .none, .none, .none, .none]) := by
  refine run_all S (by decide) (by decide) (by decide) (by decide) rfl (op := 12) (by decide) ?_
  intro rest' S' hoff
  refine done_reck hoff S'.hne S'.hsp ?_ (by decide) (by decide)
  intro dp un gd cn nms ig ic mo a ccd cl outer A₀ base h₀ L m s Q E tp t0 t1 B F X N T hdp hun hret
  exact dr_2_1 B F X N T (by omega) (by omega) hoff S'.hne S'.hsp S'.hlk S'.hlm S'.hdlm hpre (fun v tv h' tk' e F N => hret _ _ _ h' tk' ⟨by omega, v, tv, e, rfl⟩ F N)
theorem ra_3_2 {w : World} {p : Program} {loose : List Str} {mean : ExcName → Option Value} {mg mb : Str → Option Value} {sp dsp ls lc lk lm dlm wk dwk f0 f1 f2 f3 f4 f5 c4 : Addr} {of oc : Obj} {ks0 ks1 ks2 ks3 ks4 ks5 ks6 ks7 ks8 kr kt z0 z1 z2 ka0 kb0 ka1 kb1 ka2 kb2 ka3 kb3 ka4 kb4 ka5 kb5 ka6 kb6 ka7 kb7 ka8 kb8 ka9 kb9 kw0 kw1 kw2 kw3 kw4 kw5 : Tok} {nc nk ns : Nat} {rest : List (Addr × Obj)} {q0 q1 q2 q3 q4 q5 q6 q7 : Tok} {ra rb rc rd re : Int} {tra trb trc trd tre : Tok} (S : Sea w p loose mean mg mb sp dsp ls lc lk lm dlm wk dwk f0 f1 f2 f3 f4 f5 c4 of oc ks0 ks1 ks2 ks3 ks4 ks5 ks6 ks7 ks8 kr kt z0 z1 z2 ka0 kb0 ka1 kb1 ka2 kb2 ka3 kb3 ka4 kb4 ka5 kb5 ka6 kb6 ka7 kb7 ka8 kb8 ka9 kb9 kw0 kw1 kw2 kw3 kw4 kw5 nc nk ns [.int 4194391 q0, .int 2147549206 q1, .int 4227216 q2, .int 12615758 q3, .int 8421452 q4, .int 4227087 q5, .int 2147352598 q6, .int 41943070 q7] rest) (hpre : 0 < 10 ∧ -65536 < ra ∧ ra < 65536 ∧ 10 < 65536) : RunAll w p loose mean mg mb sp dsp ls lc lk lm wk ks0 ks1 ks2 ks3 ks4 ks5 ks6 ks7 ks8 kr kt ns rest 100 1000 2 [.int ra tra, .int rb trb, .int rc trc, .int rd trd, .int re tre, .none, .none, .none, .none, .none, .none, .none, .none, .none, .none, .none, .none] (fun pc' vs' => pc' = 3 ∧ ∃ v tv, v = wrp (ra % 10) ∧ vs' = [.int ra tra, .int rb trb, .int v tv, .int rd trd, .int re tre, .none, .none, .none, .none, .none, .none, .none, .none, .none, .none, .none, .none]) := by
  refine run_all S (by decide) (by decide) (by decide) (by decide) rfl (op := 16) (by decide) ?_
  intro rest' S' hoff
  refine done_reck hoff S'.hne S'.hsp ?_ (by decide) (by decide)
  intro dp un gd cn nms ig ic mo a ccd cl outer A₀ base h₀ L m s Q E tp t0 t1 B F X N T hdp hun hret
  exact dr_3_2 B F X N T (by omega) (by omega) hoff S'.hne S'.hsp S'.hlk S'.hlm S'.hdlm hpre (fun v tv h' tk' e F N => hret _ _ _ h' tk' ⟨by omega, v, tv, e, rfl⟩ F N)
theorem ra_3_3 {w : World} {p : Program} {loose : List Str} {mean : ExcName → Option Value} {mg mb : Str → Option Value} {sp dsp ls lc lk lm dlm wk dwk f0 f1 f2 f3 f4 f5 c4 : Addr} {of oc : Obj} {ks0 ks1 ks2 ks3 ks4 ks5 ks6 ks7 ks8 kr kt z0 z1 z2 ka0 kb0 ka1 kb1 ka2 kb2 ka3 kb3 ka4 kb4 ka5 kb5 ka6 kb6 ka7 kb7 ka8 kb8 ka9 kb9 kw0 kw1 kw2 kw3 kw4 kw5 : Tok} {nc nk ns : Nat} {rest : List (Addr × Obj)} {q0 q1 q2 q3 q4 q5 q6 q7 : Tok} {ra rb rc rd re : Int} {tra trb trc trd tre : Tok} (S : Sea w p loose mean mg mb sp dsp ls lc lk lm dlm wk dwk f0 f1 f2 f3 f4 f5 c4 of oc ks0 ks1 ks2 ks3 ks4 ks5 ks6 ks7 ks8 kr kt z0 z1 z2 ka0 kb0 ka1 kb1 ka2 kb2 ka3 kb3 ka4 kb4 ka5 kb5 ka6 kb6 ka7 kb7 ka8 kb8 ka9 kb9 kw0 kw1 kw2 kw3 kw4 kw5 nc nk ns [.int 4194391 q0, .int 2147549206 q1, .int 4227216 q2, .int 12615758 q3, .int 8421452 q4, .int 4227087 q5, .int 2147352598 q6, .int 41943070 q7] rest) (hpre : -32768 ≤ rb ∧ rb < 32768 ∧ -32768 ≤ 10 ∧ 10 < 32768) : RunAll w p loose mean mg mb sp dsp ls lc lk lm wk ks0 ks1 ks2 ks3 ks4 ks5 ks6 ks7 ks8 kr kt ns rest 100 1000 3 [.int ra tra, .int rb trb, .int rc trc, .int rd trd, .int re tre, .none, .none, .none, .none, .none, .none, .none, .none, .none, .none, .none, .none] (fun pc' vs' => pc' = 4 ∧ ∃ v tv, v = wrp (rb * 10) ∧ vs' = [.int ra tra, .int v tv, .int rc trc, .int rd trd, .int re tre, .none, .none, .none, .none, .none, .none, .none, .none, .none, .none, .none, .none]) := by
  refine run_all S (by decide) (by decide) (by decide) (by decide) rfl (op := 14) (by decide) ?_
  intro rest' S' hoff
  refine done_reck hoff S'.hne S'.hsp ?_ (by decide) (by decide)
  intro dp un gd cn nms ig ic mo a ccd cl outer A₀ base h₀ L m s Q E tp t0 t1 B F X N T hdp hun hret
  exact dr_3_3 B F X N T (by omega) (by omega) hoff S'.hne S'.hsp S'.hlk S'.hlm S'.hdlm hpre (fun v tv h' tk' e F N => hret _ _ _ h' tk' ⟨by omega, v, tv, e, rfl⟩ F N)
theorem ra_3_4 {w : World} {p : Program} {loose : List Str} {mean : ExcName → Option Value} {mg mb : Str → Option Value} {sp dsp ls lc lk lm dlm wk dwk f0 f1 f2 f3 f4 f5 c4 : Addr} {of oc : Obj} {ks0 ks1 ks2 ks3 ks4 ks5 ks6 ks7 ks8 kr kt z0 z1 z2 ka0 kb0 ka1 kb1 ka2 kb2 ka3 kb3 ka4 kb4 ka5 kb5 ka6 kb6 ka7 kb7 ka8 kb8 ka9 kb9 kw0 kw1 kw2 kw3 kw4 kw5 : Tok} {nc nk ns : Nat} {rest : List (Addr × Obj)} {q0 q1 q2 q3 q4 q5 q6 q7 : Tok} {ra rb rc rd re : Int} {tra trb trc trd tre : Tok} (S : Sea w p loose mean mg mb sp dsp ls lc lk lm dlm wk dwk f0 f1 f2 f3 f4 f5 c4 of oc ks0 ks1 ks2 ks3 ks4 ks5 ks6 ks7 ks8 kr kt z0 z1 z2 ka0 kb0 ka1 kb1 ka2 kb2 ka3 kb3 ka4 kb4 ka5 kb5 ka6 kb6 ka7 kb7 ka8 kb8 ka9 kb9 kw0 kw1 kw2 kw3 kw4 kw5 nc nk ns [.int 4194391 q0, .int 2147549206 q1, .int 4227216 q2, .int 12615758 q3, .int 8421452 q4, .int 4227087 q5, .int 2147352598 q6, .int 41943070 q7] rest) (hpre : -70000 < rb ∧ rb < 70000 ∧ -70000 < rc ∧ rc < 70000) : RunAll w p loose mean mg mb sp dsp ls lc lk lm wk ks0 ks1 ks2 ks3 ks4 ks5 ks6 ks7 ks8 kr kt ns rest 100 1000 4 [.int ra tra, .int rb trb, .int rc trc, .int rd trd, .int re tre, .none, .none, .none, .none, .none, .none, .none, .none, .none, .none, .none, .none] (fun pc' vs' => pc' = 5 ∧ ∃ v tv, v = wrp (rb + rc) ∧ vs' = [.int ra tra, .int v tv, .int rc trc, .int rd trd, .int re tre, .none, .none, .none, .none, .none, .none, .none, .none, .none, .none, .none, .none]) := by
  refine run_all S (by decide) (by decide) (by decide) (by decide) rfl (op := 12) (by decide) ?_
  intro rest' S' hoff
  refine done_reck hoff S'.hne S'.hsp ?_ (by decide) (by decide)
  intro dp un gd cn nms ig ic mo a ccd cl outer A₀ base h₀ L m s Q E tp t0 t1 B F X N T hdp hun hret
  exact dr_3_4 B F X N T (by omega) (by omega) hoff S'.hne S'.hsp S'.hlk S'.hlm S'.hdlm hpre (fun v tv h' tk' e F N => hret _ _ _ h' tk' ⟨by omega, v, tv, e, rfl⟩ F N)
theorem ra_3_5 {w : World} {p : Program} {loose : List Str} {mean : ExcName → Option Value} {mg mb : Str → Option Value} {sp dsp ls lc lk lm dlm wk dwk f0 f1 f2 f3 f4 f5 c4 : Addr} {of oc : Obj} {ks0 ks1 ks2 ks3 ks4 ks5 ks6 ks7 ks8 kr kt z0 z1 z2 ka0 kb0 ka1 kb1 ka2 kb2 ka3 kb3 ka4 kb4 ka5 kb5 ka6 kb6 ka7 kb7 ka8 kb8 ka9 kb9 kw0 kw1 kw2 kw3 kw4 kw5 : Tok} {nc nk ns : Nat} {rest : List (Addr × Obj)} {q0 q1 q2 q3 q4 q5 q6 q7 : Tok} {ra rb rc rd re : Int} {tra trb trc trd tre : Tok} (S : Sea w p loose mean mg mb sp dsp ls lc lk lm dlm wk dwk f0 f1 f2 f3 f4 f5 c4 of oc ks0 ks1 ks2 ks3 ks4 ks5 ks6 ks7 ks8 kr kt z0 z1 z2 ka0 kb0 ka1 kb1 ka2 kb2 ka3 kb3 ka4 kb4 ka5 kb5 ka6 kb6 ka7 kb7 ka8 kb8 ka9 kb9 kw0 kw1 kw2 kw3 kw4 kw5 nc nk ns [.int 4194391 q0, .int 2147549206 q1, .int 4227216 q2, .int 12615758 q3, .int 8421452 q4, .int 4227087 q5, .int 2147352598 q6, .int 41943070 q7] rest) (hpre : 0 ≤ ra ∧ 0 < 10 ∧ ra < 65536 ∧ 10 < 65536) : RunAll w p loose mean mg mb sp dsp ls lc lk lm wk ks0 ks1 ks2 ks3 ks4 ks5 ks6 ks7 ks8 kr kt ns rest 100 1000 5 [.int ra tra, .int rb trb, .int rc trc, .int rd trd, .int re tre, .none, .none, .none, .none, .none, .none, .none, .none, .none, .none, .none, .none] (fun pc' vs' => pc' = 6 ∧ ∃ v tv, v = wrp (ra / 10) ∧ vs' = [.int v tv, .int rb trb, .int rc trc, .int rd trd, .int re tre, .none, .none, .none, .none, .none, .none, .none, .none, .none, .none, .none, .none]) := by
  refine run_all S (by decide) (by decide) (by decide) (by decide) rfl (op := 15) (by decide) ?_
  intro rest' S' hoff
  refine done_reck hoff S'.hne S'.hsp ?_ (by decide) (by decide)
  intro dp un gd cn nms ig ic mo a ccd cl outer A₀ base h₀ L m s Q E tp t0 t1 B F X N T hdp hun hret
  exact dr_3_5 B F X N T (by omega) (by omega) hoff S'.hne S'.hsp S'.hlk S'.hlm S'.hdlm hpre (fun v tv h' tk' e F N => hret _ _ _ h' tk' ⟨by omega, v, tv, e, rfl⟩ F N)
theorem rb_0 {w : World} {p : Program} {loose : List Str} {mean : ExcName → Option Value} {mg mb : Str → Option Value} {sp dsp ls lc lk lm dlm wk dwk f0 f1 f2 f3 f4 f5 c4 : Addr} {of oc : Obj} {ks0 ks1 ks2 ks3 ks4 ks5 ks6 ks7 ks8 kr kt z0 z1 z2 ka0 kb0 ka1 kb1 ka2 kb2 ka3 kb3 ka4 kb4 ka5 kb5 ka6 kb6 ka7 kb7 ka8 kb8 ka9 kb9 kw0 kw1 kw2 kw3 kw4 kw5 : Tok} {nc nk ns : Nat} {rest : List (Addr × Obj)} {q0 q1 q2 q3 q4 q5 q6 : Tok} {ra rb rc rd re : Int} {tra trb trc trd tre : Tok} (S : Sea w p loose mean mg mb sp dsp ls lc lk lm dlm wk dwk f0 f1 f2 f3 f4 f5 c4 of oc ks0 ks1 ks2 ks3 ks4 ks5 ks6 ks7 ks8 kr kt z0 z1 z2 ka0 kb0 ka1 kb1 ka2 kb2 ka3 kb3 ka4 kb4 ka5 kb5 ka6 kb6 ka7 kb7 ka8 kb8 ka9 kb9 kw0 kw1 kw2 kw3 kw4 kw5 nc nk ns [.int 12582999 q0, .int 2147532822 q1, .int 16528 q2, .int 8388608 q3, .int 16777280 q4, .int 2147368982 q5, .int 41943070 q6] rest) : RbkAll w p loose mean mg mb sp dsp ls lc lk lm wk ks0 ks1 ks2 ks3 ks4 ks5 ks6 ks7 ks8 kr kt ns rest 100 1000 6 [.int ra tra, .int rb trb, .int rc trc, .int rd trd, .int re tre, .none, .none, .none, .none, .none, .none, .none, .none, .none, .none, .none, .none] [.int ra tra, .int rb trb, .int rc trc, .int rd trd] := by
  refine back_all S (by decide) (by decide) (by decide) (by decide) rfl (by decide) ?_
  intro rest' S' hoff
  refine done_back hoff S'.hne S'.hsp ?_
  intro dp un gd cn nms ig ic mo a ccd cl outer A₀ base h₀ L m s Q E tp t0 t1 B F X N T hdp hun hret
  exact do_ret B F X N T (by omega) (by omega) hoff S'.hne S'.hsp (fun lr h' tk' F N => hret lr h' tk' F N)
theorem rb_1 {w : World} {p : Program} {loose : List Str} {mean : ExcName → Option Value} {mg mb : Str → Option Value} {sp dsp ls lc lk lm dlm wk dwk f0 f1 f2 f3 f4 f5 c4 : Addr} {of oc : Obj} {ks0 ks1 ks2 ks3 ks4 ks5 ks6 ks7 ks8 kr kt z0 z1 z2 ka0 kb0 ka1 kb1 ka2 kb2 ka3 kb3 ka4 kb4 ka5 kb5 ka6 kb6 ka7 kb7 ka8 kb8 ka9 kb9 kw0 kw1 kw2 kw3 kw4 kw5 : Tok} {nc nk ns : Nat} {rest : List (Addr × Obj)} {q0 q1 q2 q3 q4 q5 q6 q7 q8 q9 : Tok} {ra rb rc rd re : Int} {tra trb trc trd tre : Tok} (S : Sea w p loose mean mg mb sp dsp ls lc lk lm dlm wk dwk f0 f1 f2 f3 f4 f5 c4 of oc ks0 ks1 ks2 ks3 ks4 ks5 ks6 ks7 ks8 kr kt z0 z1 z2 ka0 kb0 ka1 kb1 ka2 kb2 ka3 kb3 ka4 kb4 ka5 kb5 ka6 kb6 ka7 kb7 ka8 kb8 ka9 kb9 kw0 kw1 kw2 kw3 kw4 kw5 nc nk ns [.int 12582999 q0, .int 2147581974 q1, .int 12599504 q2, .int 29360215 q3, .int 2147483670 q4, .int 16777358 q5, .int 14 q6, .int 12599375 q7, .int 2147319830 q8, .int 41943070 q9] rest) : RbkAll w p loose mean mg mb sp dsp ls lc lk lm wk ks0 ks1 ks2 ks3 ks4 ks5 ks6 ks7 ks8 kr kt ns rest 100 1000 9 [.int ra tra, .int rb trb, .int rc trc, .int rd trd, .int re tre, .none, .none, .none, .none, .none, .none, .none, .none, .none, .none, .none, .none] [.int ra tra, .int rb trb, .int rc trc, .int rd trd] := by
  refine back_all S (by decide) (by decide) (by decide) (by decide) rfl (by decide) ?_
  intro rest' S' hoff
  refine done_back hoff S'.hne S'.hsp ?_
  intro dp un gd cn nms ig ic mo a ccd cl outer A₀ base h₀ L m s Q E tp t0 t1 B F X N T hdp hun hret
  exact do_ret B F X N T (by omega) (by omega) hoff S'.hne S'.hsp (fun lr h' tk' F N => hret lr h' tk' F N)
theorem rb_2 {w : World} {p : Program} {loose : List Str} {mean : ExcName → Option Value} {mg mb : Str → Option Value} {sp dsp ls lc lk lm dlm wk dwk f0 f1 f2 f3 f4 f5 c4 : Addr} {of oc : Obj} {ks0 ks1 ks2 ks3 ks4 ks5 ks6 ks7 ks8 kr kt z0 z1 z2 ka0 kb0 ka1 kb1 ka2 kb2 ka3 kb3 ka4 kb4 ka5 kb5 ka6 kb6 ka7 kb7 ka8 kb8 ka9 kb9 kw0 kw1 kw2 kw3 kw4 kw5 : Tok} {nc nk ns : Nat} {rest : List (Addr × Obj)} {q0 q1 q2 q3 : Tok} {ra rb rc rd re : Int} {tra trb trc trd tre : Tok} (S : Sea w p loose mean mg mb sp dsp ls lc lk lm dlm wk dwk f0 f1 f2 f3 f4 f5 c4 of oc ks0 ks1 ks2 ks3 ks4 ks5 ks6 ks7 ks8 kr kt z0 z1 z2 ka0 kb0 ka1 kb1 ka2 kb2 ka3 kb3 ka4 kb4 ka5 kb5 ka6 kb6 ka7 kb7 ka8 kb8 ka9 kb9 kw0 kw1 kw2 kw3 kw4 kw5 nc nk ns [.int 2147483744 q0, .int 65548 q1, .int 2147434591 q2, .int 41943070 q3] rest) : RbkAll w p loose mean mg mb sp dsp ls lc lk lm wk ks0 ks1 ks2 ks3 ks4 ks5 ks6 ks7 ks8 kr kt ns rest 100 1000 3 [.int ra tra, .int rb trb, .int rc trc, .int rd trd, .int re tre, .none, .none, .none, .none, .none, .none, .none, .none, .none, .none, .none, .none] [.int ra tra, .int rb trb, .int rc trc, .int rd trd] := by
  refine back_all S (by decide) (by decide) (by decide) (by decide) rfl (by decide) ?_
  intro rest' S' hoff
  refine done_back hoff S'.hne S'.hsp ?_
  intro dp un gd cn nms ig ic mo a ccd cl outer A₀ base h₀ L m s Q E tp t0 t1 B F X N T hdp hun hret
  exact do_ret B F X N T (by omega) (by omega) hoff S'.hne S'.hsp (fun lr h' tk' F N => hret lr h' tk' F N)
theorem rb_3 {w : World} {p : Program} {loose : List Str} {mean : ExcName → Option Value} {mg mb : Str → Option Value} {sp dsp ls lc lk lm dlm wk dwk f0 f1 f2 f3 f4 f5 c4 : Addr} {of oc : Obj} {ks0 ks1 ks2 ks3 ks4 ks5 ks6 ks7 ks8 kr kt z0 z1 z2 ka0 kb0 ka1 kb1 ka2 kb2 ka3 kb3 ka4 kb4 ka5 kb5 ka6 kb6 ka7 kb7 ka8 kb8 ka9 kb9 kw0 kw1 kw2 kw3 kw4 kw5 : Tok} {nc nk ns : Nat} {rest : List (Addr × Obj)} {q0 q1 q2 q3 q4 q5 q6 q7 : Tok} {ra rb rc rd re : Int} {tra trb trc trd tre : Tok} (S : Sea w p loose mean mg mb sp dsp ls lc lk lm dlm wk dwk f0 f1 f2 f3 f4 f5 c4 of oc ks0 ks1 ks2 ks3 ks4 ks5 ks6 ks7 ks8 kr kt z0 z1 z2 ka0 kb0 ka1 kb1 ka2 kb2 ka3 kb3 ka4 kb4 ka5 kb5 ka6 kb6 ka7 kb7 ka8 kb8 ka9 kb9 kw0 kw1 kw2 kw3 kw4 kw5 nc nk ns [.int 4194391 q0, .int 2147549206 q1, .int 4227216 q2, .int 12615758 q3, .int 8421452 q4, .int 4227087 q5, .int 2147352598 q6, .int 41943070 q7] rest) : RbkAll w p loose mean mg mb sp dsp ls lc lk lm wk ks0 ks1 ks2 ks3 ks4 ks5 ks6 ks7 ks8 kr kt ns rest 100 1000 7 [.int ra tra, .int rb trb, .int rc trc, .int rd trd, .int re tre, .none, .none, .none, .none, .none, .none, .none, .none, .none, .none, .none, .none] [.int ra tra, .int rb trb, .int rc trc, .int rd trd] := by
  refine back_all S (by decide) (by decide) (by decide) (by decide) rfl (by decide) ?_
  intro rest' S' hoff
  refine done_back hoff S'.hne S'.hsp ?_
  intro dp un gd cn nms ig ic mo a ccd cl outer A₀ base h₀ L m s Q E tp t0 t1 B F X N T hdp hun hret
  exact do_ret B F X N T (by omega) (by omega) hoff S'.hne S'.hsp (fun lr h' tk' F N => hret lr h' tk' F N)
theorem w_E1_1 : True := by
  k_with_none
  trivial
def figs (n : Int) (k : Nat) : List Int := (List.range k).map fun i => n / 10 ^ i % 10
theorem figs_snoc (n : Int) (k : Nat) : figs n (k + 1) = figs n k ++ [n / 10 ^ k % 10] := by simp [figs, List.range_succ]
theorem div_step (n : Int) (k : Nat) : n / 10 ^ (k + 1) = n / 10 ^ k / 10 := by rw [Int.pow_succ, Int.ediv_ediv_of_nonneg (by exact Int.pow_nonneg (by decide))]
theorem pow_step {f b : Int} {pre : List Int} {k : Int} (h : f = b ^ pre.length) : f * b = b ^ (pre ++ [k]).length := by rw [h, List.length_append, List.length_singleton, Int.pow_succ]
theorem pow_end {f b n : Int} (h : f = b ^ (rangeKs 0 (n - 0).toNat).length) : f.fmod 65536 = b ^ n.toNat % 65536 := by rw [h, rangeKs_length, Int.sub_zero, Int.fmod_eq_emod_of_nonneg _ (by decide)]
theorem figs_step {fs : Nat → List Int} {gs : Nat → Int} {g k : Int} {f : List Int} {pre : List Int} (hfs : ∀ k, fs (k + 1) = fs k ++ [gs k % 10]) (hgs : ∀ k, gs (k + 1) = gs k / 10) (h1 : f = fs pre.length) (h2 : g = gs pre.length) (h3 : f.length = pre.length) : f ++ [g.fmod 10] = fs (pre ++ [k]).length ∧ g.fdiv 10 = gs (pre ++ [k]).length ∧ (f ++ [g.fmod 10]).length = (pre ++ [k]).length := by
  refine ⟨?_, ?_, by simp [h3]⟩
  · rw [List.length_append, List.length_singleton, hfs, ← h1, ← h2, Int.fmod_eq_emod_of_nonneg _ (by decide)]
  · rw [List.length_append, List.length_singleton, hgs, ← h2, Int.fdiv_eq_ediv_of_nonneg _ (by decide)]
theorem figs_end {fs : Nat → List Int} {vs : List Value} {f : List Int} {k : Int} (hI : IntsAre vs f) (h : f = fs (rangeKs 0 (k - 0).toNat).length) : IntsAre vs (fs k.toNat) := by rw [h, rangeKs_length, Int.sub_zero] at hI; exact hI
theorem off1_of {D : Addr} : ∀ {l : List (Addr × Obj)}, (∀ p ∈ l, p.1 < D) → LCg.Off1 D l
  | [], _ => trivial
  | q :: r, h => ⟨Nat.ne_of_lt (h q (List.Mem.head _)), off1_of fun p hp => h p (List.Mem.tail _ hp)⟩
theorem w_E1_2 : True := by
  k_with "eval Call" => ((with_reducible show wpAny _ _ (eval (Expr.Call (Expr.Name _ _) _ [] _) _) _ _ _); k_dflt (refine Call_ ?_))
  trivial
theorem power_ok {w : World} {p : Program} {loose : List Str} {mean : ExcName → Option Value} {mg mb : Str → Option Value} {dp un : Nat} {gd : Option (List Code)} {cn : Str} {nms : List (Str × NameKind)} {ig ic : Bool} {mo : List (Str × Const)} {a : Addr} {ccd : Value} {cl : List (Str × Addr)} {outer : List Env} {A₀ : Around} {base h₀ : Heap} {L : Addr} {m : Str → Option Value} {s : Shared} {Q E : Value → Shared → Prop} {news : List (Addr × Obj)} {b n : Int} {t0 t1 : Tok}
    (B : Below A₀ base outer h₀) (F : Fr h₀ L s.heap m) (X : (hd.heap_1 w.params).In h₀) (N : News h₀ L s.heap (news)) (T : Top p loose mean mg mb h₀) (hdp : dp + 20 < recursionLimit) (hun : un + 200 < cLine)
    (hb0 : -65536 < b) (hb1 : b < 65536) (hn0 : 0 ≤ n) (hn1 : n < 1000)
    (hret : ∀ (t : Tok) (h' : Heap) (tk' : Nat), Fr h₀ L h' m → News h₀ L h' news → Q (.int (b ^ n.toNat % 65536) t) { s with heap := h', toks := tk' }) :
    wpAny (model PySem.Challenge.rw_tk0059_01.row.prog w) (ktrTop dp un gd cn (Scope.mk ScopeKind.function nms ig ic mo) L a ccd cl outer) (call (.ref 568) [.int b t0, .int n t1]) Q E s := by
  revert X; k_fill; intro X
  have hk : (Scope.mk ScopeKind.function nms ig ic mo).kind = ScopeKind.function := rfl
  have hMk := kstMark
  refine wpAny_call ?_
  k_dflt cell_enter
  k_with "pyIter ref" => k_state (fun pre f => f = b ^ pre.length) "found"
  k_with "state" => first | rfl | exact pow_step (by assumption)
  k_steps
  all_goals (refine reti hret (pow_end (by assumption)) (by (rename Fr _ _ _ _ => fE; exact fE)) (by (rename News _ _ _ _ => nE; exact nE)))

theorem figures_gen {w : World} {p : Program} {loose : List Str} {mean : ExcName → Option Value} {mg mb : Str → Option Value} {dp un : Nat} {gd : Option (List Code)} {cn : Str} {nms : List (Str × NameKind)} {ig ic : Bool} {mo : List (Str × Const)} {a : Addr} {ccd : Value} {cl : List (Str × Addr)} {outer : List Env} {A₀ : Around} {base h₀ : Heap} {L : Addr} {m : Str → Option Value} {s : Shared} {Q E : Value → Shared → Prop} {news : List (Addr × Obj)} {n k : Int} {t0 t1 : Tok} {fs : Nat → List Int} {gs : Nat → Int}
    (B : Below A₀ base outer h₀) (F : Fr h₀ L s.heap m) (X : (hd.heap_1 w.params).In h₀) (N : News h₀ L s.heap (news)) (T : Top p loose mean mg mb h₀) (hdp : dp + 20 < recursionLimit) (hun : un + 200 < cLine)
    (hk0 : 0 ≤ k) (hk1 : k < 1000) (hf0 : fs 0 = []) (hg0 : gs 0 = n) (hfs : ∀ k, fs (k + 1) = fs k ++ [gs k % 10]) (hgs : ∀ k, gs (k + 1) = gs k / 10)
    (hret : ∀ (q : Addr) (vs : List Value) (nn : Nat) (h' : Heap) (tk' : Nat), LCg.Off1 q news → IntsAre vs (fs k.toNat) → Fr h₀ L h' m → News h₀ L h' ((q, listOf vs.toArray nn) :: news) → Q (.ref q) { s with heap := h', toks := tk' }) :
    wpAny (model PySem.Challenge.rw_tk0059_01.row.prog w) (ktrTop dp un gd cn (Scope.mk ScopeKind.function nms ig ic mo) L a ccd cl outer) (call (.ref 575) [.int n t0, .int k t1]) Q E s := by
  revert X; k_fill; intro X
  have hk : (Scope.mk ScopeKind.function nms ig ic mo).kind = ScopeKind.function := rfl
  have hMk := kstMark
  refine wpAny_call ?_
  k_dflt cell_enter
  k_with "pyIter ref" => k_state (fun pre f g => f = fs pre.length ∧ g = gs pre.length ∧ f.length = pre.length) "found" "number"
  k_with "state" => first | exact And.intro hf0.symm (And.intro hg0.symm rfl) | exact figs_step hfs hgs (by assumption) (by assumption) (by assumption)
  k_steps
  all_goals (refine' hret _ _ _ _ _ ?o9 ?i9 ?F9 ?N9; (case o9 => exact off1_of (by assumption)); (case i9 => exact figs_end (by assumption) (by assumption)); (case N9 => (rename News _ _ _ _ => nE; refine kst_newsOf nE ?_; ((repeat (refine sub_cons (by k_memK) ?_)); first | exact List.forall_mem_nil _ | (intro p hp; k_ownIn)))); (case F9 => (rename Fr _ _ _ _ => fE; exact fE)))

theorem figures_ok {w : World} {p : Program} {loose : List Str} {mean : ExcName → Option Value} {mg mb : Str → Option Value} {dp un : Nat} {gd : Option (List Code)} {cn : Str} {nms : List (Str × NameKind)} {ig ic : Bool} {mo : List (Str × Const)} {a : Addr} {ccd : Value} {cl : List (Str × Addr)} {outer : List Env} {A₀ : Around} {base h₀ : Heap} {L : Addr} {m : Str → Option Value} {s : Shared} {Q E : Value → Shared → Prop} {news : List (Addr × Obj)} {n k : Int} {t0 t1 : Tok}
    (B : Below A₀ base outer h₀) (F : Fr h₀ L s.heap m) (X : (hd.heap_1 w.params).In h₀) (N : News h₀ L s.heap (news)) (T : Top p loose mean mg mb h₀) (hdp : dp + 20 < recursionLimit) (hun : un + 200 < cLine)
    (hk0 : 0 ≤ k) (hk1 : k < 1000)
    (hret : ∀ (q : Addr) (vs : List Value) (nn : Nat) (h' : Heap) (tk' : Nat), LCg.Off1 q news → IntsAre vs (figs n k.toNat) → Fr h₀ L h' m → News h₀ L h' ((q, listOf vs.toArray nn) :: news) → Q (.ref q) { s with heap := h', toks := tk' }) :
    wpAny (model PySem.Challenge.rw_tk0059_01.row.prog w) (ktrTop dp un gd cn (Scope.mk ScopeKind.function nms ig ic mo) L a ccd cl outer) (call (.ref 575) [.int n t0, .int k t1]) Q E s := by
  exact figures_gen (fs := figs n) (gs := fun k => n / 10 ^ k) B F X N T hdp hun hk0 hk1 rfl (by simp) (figs_snoc n) (div_step n) hret
theorem w_E2_1 : True := by
  k_with_none
  trivial
theorem gcd_step {a b : Int} (ha : 0 ≤ a) (hb : 0 < b) : Int.gcd b (a % b) = Int.gcd a b := by
  obtain ⟨x, rfl⟩ := Int.eq_ofNat_of_zero_le ha
  obtain ⟨y, rfl⟩ := Int.eq_ofNat_of_zero_le (Int.le_of_lt hb)
  rw [← Int.natCast_emod]
  show Nat.gcd y (x % y) = Nat.gcd x y
  rw [Nat.gcd_comm x y, Nat.gcd_rec y x, Nat.gcd_comm]
theorem gcd_zero {a : Int} (ha : 0 ≤ a) : (Int.gcd a 0 : Int) = a := by
  simp [Int.gcd]; omega
theorem div_found {one other g : Int} (h1 : one % g = 0) (h2 : other % g = 0) (hpos : 0 < one ∨ 0 < other) (hpre : ∀ d, g < d → d ≤ max one other → ¬ (one % d = 0 ∧ other % d = 0)) : g = Int.gcd one other := by
  have d1 : g ∣ one := Int.dvd_of_emod_eq_zero h1
  have d2 : g ∣ other := Int.dvd_of_emod_eq_zero h2
  have hg : g ∣ (Int.gcd one other : Int) := Int.dvd_coe_gcd d1 d2
  have gp : 0 < (Int.gcd one other : Int) := by
    have : Int.gcd one other ≠ 0 := by
      intro h; rw [Int.gcd_eq_zero_iff] at h; omega
    omega
  have le1 : g ≤ Int.gcd one other := Int.le_of_dvd gp hg
  by_cases e : g = Int.gcd one other
  · exact e
  · exfalso
    have gl : (Int.gcd one other : Int) ∣ one := Int.gcd_dvd_left ..
    have gr : (Int.gcd one other : Int) ∣ other := Int.gcd_dvd_right ..
    refine hpre (Int.gcd one other) (by omega) ?_ ⟨Int.emod_eq_zero_of_dvd gl, Int.emod_eq_zero_of_dvd gr⟩
    rcases hpos with h | h
    · have := Int.le_of_dvd h gl; omega
    · have := Int.le_of_dvd h gr; omega
theorem ds_step {one other M k : Int} {pre : List Int} (hk : k = M - (pre.length : Int)) (h : ∀ d, M - (pre.length : Int) < d → d ≤ M → ¬ (one % d = 0 ∧ other % d = 0)) (hn : ¬ (one % k = 0 ∧ other % k = 0)) : ∀ d, M - ((pre ++ [k]).length : Int) < d → d ≤ M → ¬ (one % d = 0 ∧ other % d = 0) := by
  intro d h1 h2
  rw [List.length_append, List.length_singleton] at h1
  by_cases e : d = k
  · rw [e]; exact hn
  · exact h d (by omega) h2
theorem mx_ge {one other : Int} : one ≤ (if other > one then other else one) ∧ other ≤ (if other > one then other else one) := by split <;> omega
theorem mx_lt {one other : Int} (h1 : one < 1000) (h2 : other < 1000) : (if other > one then other else one) < 1000 := by split <;> omega
theorem mx_eq {one other : Int} : (if other > one then other else one) = max one other := by omega
theorem w_E2_2 : True := by
  k_with "eval Call" => ((with_reducible show wpAny _ _ (eval (Expr.Call (Expr.Name _ _) _ [] _) _) _ _ _); k_dflt (refine Call_ ?_))
  trivial
theorem divisor_ok {w : World} {p : Program} {loose : List Str} {mean : ExcName → Option Value} {mg mb : Str → Option Value} {dp un : Nat} {gd : Option (List Code)} {cn : Str} {nms : List (Str × NameKind)} {ig ic : Bool} {mo : List (Str × Const)} {a : Addr} {ccd : Value} {cl : List (Str × Addr)} {outer : List Env} {A₀ : Around} {base h₀ : Heap} {L : Addr} {m : Str → Option Value} {s : Shared} {Q E : Value → Shared → Prop} {news : List (Addr × Obj)} {one other : Int} {t0 t1 : Tok}
    (B : Below A₀ base outer h₀) (F : Fr h₀ L s.heap m) (X : (hd.heap_1 w.params).In h₀) (N : News h₀ L s.heap (news)) (T : Top p loose mean mg mb h₀) (hdp : dp + 20 < recursionLimit) (hun : un + 200 < cLine)
    (h10 : 0 ≤ one) (h11 : one < 1000) (h20 : 0 ≤ other) (h21 : other < 1000) (hpos : 0 < one ∨ 0 < other)
    (hret : ∀ (t : Tok) (h' : Heap) (tk' : Nat), Fr h₀ L h' m → News h₀ L h' news → Q (.int (Int.gcd one other : Int) t) { s with heap := h', toks := tk' }) :
    wpAny (model PySem.Challenge.rw_tk0059_01.row.prog w) (ktrTop dp un gd cn (Scope.mk ScopeKind.function nms ig ic mo) L a ccd cl outer) (call (.ref 561) [.int one t0, .int other t1]) Q E s := by
  revert X; k_fill; intro X
  have hk : (Scope.mk ScopeKind.function nms ig ic mo).kind = ScopeKind.function := rfl
  have hMk := kstMark
  refine wpAny_call ?_
  k_dflt cell_enter
  k_with "pyIter ref" => fail "here"
  repeat ((fail_if_success (with_reducible show wpAny _ _ (pyIter _) _ _ _)); (first | (k_unfold; (try dsimp only)) | walk1 | (dsimp only; walk1)))
  rename IsRange _ _ _ _ _ _ _ _ => rgX
  rename News _ _ _ _ => nE
  rename Fr _ _ _ _ => fE
  have m1 := mx_ge (one := one) (other := other)
  have m2 := mx_lt h11 h21
  generalize hM : (if other > one then other else one) = M at *
  (with_unfolding_all refine' kst_rangeD (n := (M - 0).toNat) (fun _ : Unit => news) (fun _ => []) (fun _ => True) [] (fun pre _ => ∀ d, M - (pre.length : Int) < d → d ≤ M → ¬ (one % d = 0 ∧ other % d = 0)) () (by rfl) (by first | exact rgX | assumption) (small_down (by omega) (by omega) (by omega) (by omega)) (rangeSize_downNat _ _) fE nE trivial (List.forall_mem_nil _) (by intro d h1 h2; simp at h1; omega) ?turn ?done)
  case done =>
    intro c u h tk _ hI F N
    rw [downKs_length] at hI
    exact absurd ⟨Int.emod_one _, Int.emod_one _⟩ (hI 1 (by omega) (by omega))
  case turn =>
    intro c pre k t u h tk own ek hlt hown _ hI F N
    have hk0 : 0 < k := by omega
    have hk1 : k < 1000 := by omega
    dsimp only [kstB] at F
    clear fE nE rgX
    k_steps
    · (refine reti hret (div_found (by rw [← Int.fmod_eq_emod_of_nonneg _ (Int.le_of_lt hk0)]; assumption) (by rw [← Int.fmod_eq_emod_of_nonneg _ (Int.le_of_lt hk0)]; assumption) hpos (fun d h1 h2 => hI d (by omega) (by rw [← hM]; omega))) (by (rename Fr _ _ _ _ => fE; exact fE)) (by (rename News _ _ _ _ => nE; exact kst_newsOf nE (fun p hp => List.mem_append_left _ hp))))
    all_goals (rename News _ _ _ _ => nE'; rename Fr _ _ _ _ => fE'; refine kst_end () fE' nE' (fun p hp => List.mem_append_left _ hp) (fun p hp => List.mem_append_right _ hp) rfl trivial (List.forall_mem_nil _) (fun z hz _ _ => by first | (rw [if_neg hz]; done) | (rw [if_neg hz]; rfl) | (dsimp only; rw [if_neg hz]; done)) (ds_step ek hI (by intro hn9; first | exact (‹Int.fmod one k ≠ 0›) (by rw [Int.fmod_eq_emod_of_nonneg _ (Int.le_of_lt hk0)]; exact hn9.1) | exact (‹Int.fmod other k ≠ 0›) (by rw [Int.fmod_eq_emod_of_nonneg _ (Int.le_of_lt hk0)]; exact hn9.2))))
theorem w_P2_1 : True := by
  k_with_none
  trivial
theorem wrp_id {n : Int} (h0 : -32768 ≤ n) (h1 : n < 32768) : wrp n = n := by unfold wrp; split <;> omega
theorem wrp_mod (n : Int) : wrp n % 65536 = n % 65536 := by unfold wrp; split <;> omega
theorem figs_cons (n : Int) (k : Nat) : figs n (k + 1) = (n % 10) :: figs (n / 10) k := by
  simp only [figs, List.range_succ_eq_map, List.map_cons, List.map_map, Int.pow_zero, Int.ediv_one]
  congr 1
  apply List.map_congr_left
  intro i _
  show n / 10 ^ (i + 1) % 10 = n / 10 / 10 ^ i % 10
  rw [Int.pow_succ, Int.mul_comm, Int.ediv_ediv_of_nonneg (by decide)]
theorem figs_add (n : Int) : ∀ (j k : Nat), figs n (j + k) = figs n j ++ figs (n / 10 ^ j) k
  | 0, k => by simp [figs]
  | j + 1, k => by
    rw [Nat.add_right_comm, figs_cons, figs_cons, figs_add (n / 10) j k, List.cons_append]
    congr 3
    rw [Int.pow_succ, Int.mul_comm, Int.ediv_ediv_of_nonneg (by decide)]
theorem figs_len (n : Int) (k : Nat) : (figs n k).length = k := by simp [figs]
theorem rev_step {f v a : Int} {t : Nat} (ha : a = f / 10 ^ t) (h : figs v t = (figs f t).reverse) : figs (v * 10 + a % 10) (t + 1) = (figs f (t + 1)).reverse := by
  rw [figs_cons, figs_snoc, List.reverse_append, List.reverse_singleton, List.singleton_append, ← ha]
  have e1 : (v * 10 + a % 10) % 10 = a % 10 := by omega
  have e2 : (v * 10 + a % 10) / 10 = v := by omega
  rw [e1, e2, h]
theorem holds3 {f v a : Int} {t : Nat} (ha : a = f / 10 ^ t) (h : figs v t = (figs f t).reverse) : (figs v t).reverse ++ figs a 5 = figs f (5 + t) := by
  rw [h, List.reverse_reverse, Nat.add_comm, figs_add, ha]
-- powers
theorem cong_mul {a b c d : Int} (h1 : a % 65536 = b % 65536) (h2 : c % 65536 = d % 65536) : a * c % 65536 = b * d % 65536 := by rw [Int.mul_emod, h1, h2, ← Int.mul_emod]
theorem cong_pow {a b : Int} (h : a % 65536 = b % 65536) : ∀ n : Nat, a ^ n % 65536 = b ^ n % 65536
  | 0 => by simp
  | n + 1 => by rw [Int.pow_succ, Int.pow_succ]; exact cong_mul (cong_pow h n) h
theorem pow_half (b : Int) (n : Nat) : (b * b) ^ n = b ^ (2 * n) := by
  induction n with
  | zero => simp
  | succ n ih => rw [Int.pow_succ, ih, Nat.mul_add, Int.pow_add]; simp [Int.pow_succ]
-- odd/even step: state v2, b, e ; even
theorem pow_even {v b e T : Int} (he : 0 ≤ e) (h2 : e % 2 = 0) (h : v * (b ^ e.toNat) % 65536 = T) : v * ((wrp (b * b)) ^ (e / 2).toNat) % 65536 = T := by
  rw [← h]
  refine cong_mul rfl ?_
  rw [cong_pow (wrp_mod (b * b)), pow_half]
  congr 2; omega
theorem pow_odd {v b e T : Int} (he : 0 ≤ e) (h2 : e % 2 ≠ 0) (h : v * (b ^ e.toNat) % 65536 = T) : wrp (v * b) * ((wrp (b * b)) ^ (e / 2).toNat) % 65536 = T := by
  rw [← h]
  have e1 : e.toNat = 1 + 2 * (e / 2).toNat := by omega
  rw [e1, Int.pow_add, Int.pow_one, ← Int.mul_assoc]
  refine cong_mul (wrp_mod _) ?_
  rw [cong_pow (wrp_mod (b * b)), pow_half]
-- the contract's power result is b^n % 65536: holds form 1: now2 * (p % M) % M
theorem holds1 {v b : Int} {n : Nat} {T : Int} (h : v * b ^ n % 65536 = T) : v * (b ^ n % 65536) % 65536 = T := by
  rw [← h, Int.mul_emod, Int.emod_emod_of_dvd _ (Int.dvd_refl _), ← Int.mul_emod]
-- form 2
theorem tri_step (t : Int) : (t + 1) * (t + 1 - 1) / 2 = t * (t - 1) / 2 + t := by
  have : (t + 1) * (t + 1 - 1) = t * (t - 1) + t * 2 := by
    rw [Int.add_sub_cancel, Int.mul_sub, Int.add_mul]; omega
  rw [this, Int.add_mul_ediv_right _ _ (by decide)]
theorem w_E3_1 : True := by
  k_with_none
  trivial
theorem w_E3_2 : True := by
  k_with "eval Call" => ((with_reducible show wpAny _ _ (eval (Expr.Call (Expr.Name _ _) _ [] _) _) _ _ _); k_dflt (refine Call_ ?_))
  trivial
theorem figs_size {vs : List Value} {n : Int} {k : Nat} (h : IntsAre vs (figs n k)) (hk : k < 1000) : vs.toArray.size ≤ sizeLine := by
  rw [List.size_toArray, IntsAre.length h, figs_len, sizeLine_eq]; omega
theorem rev_ints {prog : Program} {w : World} {A : Around} {E : Value → Shared → Prop} {s : Shared} {hh h₀ : Heap} {tk : Nat} {L l : Addr} {m : Str → Option Value} {news : List (Addr × Obj)} {value slice : PySem.Expr} {vs : List Value} {ns : List Int} {vk : Value} {ops : List Value} {Q : Value → Shared → Prop}
    (F : Fr h₀ L hh m) (N : News h₀ L hh news) (hl : hh.IsList l vs.toArray) (pk : IsPart vk (some (-1))) (hi : IntsAre vs ns)
    (h : ∀ D ws h', Fr h₀ L h' m → News h₀ L h' ((D, listOf (List.toArray ws) 0) :: news) → (∀ p ∈ news, p.1 < D) → IntsAre ws ns.reverse → Q (.ref D) { s with heap := h', toks := tk })
    (hs : subscripted slice false (.ref l) (.ref hh.objs.size) = operate ops (getItem (.ref l) (.ref hh.objs.size))) (hz : vs.toArray.size ≤ sizeLine) :
    wpAny (model prog w) A (subscriptTail value slice (.ref l) (.ref hh.objs.size)) Q E { s with heap := hh.push { cls := .type "slice", data := .fields #[.none, .none, vk] }, toks := tk } :=
  kba_turn (value' := PySem.Expr.Name (PySem.Str.ofString "_") ⟨0, 0, 0, 0⟩) (fun _ => rfl) (krv_ints (s := { s with heap := hh, toks := tk }) F N hl pk hi (fun D ws h' F' N' l1 hI _ => h D ws h' F' N' l1 hI) hs (fun _ => rfl) hz)
theorem w_E3_3 : True := by
  k_with "subscriptTail Name Slice ref ref" => (k_here; (with_reducible show wpAny _ _ (subscriptTail _ (PySem.Expr.Slice none none (some _) _) (Value.ref _) (Value.ref _)) _ _ _); k_dflt (refine' rev_ints ?F ?N ?l ?k ?i ?_ ?s ?z; (case F => k_asm); (case N => k_asm); (case l => exact News.isList (by k_asm) (by k_mem)); (case k => exact IsPart.int _ _); (case i => assumption); (case s => with_unfolding_all rfl); (case z => exact figs_size (by assumption) (by omega))); intro D9 ws9 h9 F9 N9 l9 hI9; (try k_lt l9); (try k_sweep))
  k_with "binaryOp Add ref ref" => (k_here; (with_reducible show wpAny _ _ (binaryOp _ (Value.ref _) (Value.ref _)) _ _ _); k_dflt (refine' kmk_add_ints ?F ?N ?a ?b ?i ?j ?_ ?z; (case F => k_asm); (case N => k_asm); (case a => exact News.isList (by k_asm) (by k_mem)); (case b => exact News.isList (by k_asm) (by k_mem)); (case i => assumption); (case j => assumption); (case z => (simp only [List.length_reverse, figs_len, sizeLine_eq]; omega))); intro D9 ws9 h9 F9 N9 l9 hI9; (try k_lt l9); (try k_sweep))
  k_with "compareOp Eq ref ref" => (k_here; (with_reducible show wpAny _ _ (compareOp CmpOp.Eq (Value.ref _) (Value.ref _)) _ _ _); k_dflt (refine' ke_eq_ints ?a ?b ?i ?j ?u ?_; (case a => exact News.isList (by k_asm) (by k_mem)); (case b => exact News.isList (by k_asm) (by k_mem)); (case i => assumption); (case j => assumption); (case u => ktr_units); k_whole))
  k_with "subscriptTail" => (k_here; (with_reducible show wpAny _ _ (subscriptTail _ _ (Value.ref _) (Value.int _ _)) _ _ _); k_dflt (refine' my_item ?l ?a ?b ?d ?_; (case l => exact News.isList (by k_asm) (by k_mem)); (case a => decide); (case b => decide); (case d => rfl); k_whole))
  k_with "subscriptTail Name BinOp ref int" => (k_here; (with_reducible show wpAny _ _ (subscriptTail _ _ (Value.ref _) (Value.int _ _)) _ _ _); k_dflt (refine' my_item ?l ?a ?b ?d ?_; (case l => exact News.isList (by k_asm) (by k_mem)); (case a => decide); (case b => decide); (case d => rfl); k_whole))
  k_with "subscriptTail Name Name ref int" => (k_here; (with_reducible show wpAny _ _ (subscriptTail _ _ (Value.ref _) (Value.int _ _)) _ _ _); k_dflt (refine' my_item ?l ?a ?b ?d ?_; (case l => exact News.isList (by k_asm) (by k_mem)); (case a => decide); (case b => decide); (case d => rfl); k_whole))
  k_with "subscriptTail Attribute Name ref int" => (k_here; (with_reducible show wpAny _ _ (subscriptTail _ _ (Value.ref _) (Value.int _ _)) _ _ _); k_dflt (refine' my_item ?l ?a ?b ?d ?_; (case l => exact News.isList (by k_asm) (by k_mem)); (case a => decide); (case b => decide); (case d => rfl); k_whole))
  k_with "subscriptTail Name Call ref int" => (k_here; (with_reducible show wpAny _ _ (subscriptTail _ _ (Value.ref _) (Value.int _ _)) _ _ _); k_dflt (refine' my_item ?l ?a ?b ?d ?_; (case l => exact News.isList (by k_asm) (by k_mem)); (case a => decide); (case b => decide); (case d => rfl); k_whole))
  k_with "subscriptTail Attribute Call ref int" => (k_here; (with_reducible show wpAny _ _ (subscriptTail _ _ (Value.ref _) (Value.int _ _)) _ _ _); k_dflt (refine' my_item ?l ?a ?b ?d ?_; (case l => exact News.isList (by k_asm) (by k_mem)); (case a => decide); (case b => decide); (case d => rfl); k_whole))
  k_with "subscriptTail Attribute BinOp ref int" => (k_here; (with_reducible show wpAny _ _ (subscriptTail _ _ (Value.ref _) (Value.int _ _)) _ _ _); k_dflt (refine' my_item ?l ?a ?b ?d ?_; (case l => exact News.isList (by k_asm) (by k_mem)); (case a => decide); (case b => decide); (case d => rfl); k_whole))
  k_with "subscriptTail Name Constant ref int" => (k_here; (with_reducible show wpAny _ _ (subscriptTail _ _ (Value.ref _) (Value.int _ _)) _ _ _); k_dflt (refine' my_item ?l ?a ?b ?d ?_; (case l => exact News.isList (by k_asm) (by k_mem)); (case a => decide); (case b => decide); (case d => rfl); k_whole))
  k_with "subscriptTail Attribute IfExp ref int" => (k_here; (with_reducible show wpAny _ _ (subscriptTail _ _ (Value.ref _) (Value.int _ _)) _ _ _); k_dflt (refine' my_item ?l ?a ?b ?d ?_; (case l => exact News.isList (by k_asm) (by k_mem)); (case a => decide); (case b => decide); (case d => rfl); k_whole))
  k_with "subscriptTail Name Subscript ref int" => (k_here; (with_reducible show wpAny _ _ (subscriptTail _ _ (Value.ref _) (Value.int _ _)) _ _ _); k_dflt (refine' my_item ?l ?a ?b ?d ?_; (case l => exact News.isList (by k_asm) (by k_mem)); (case a => decide); (case b => decide); (case d => rfl); k_whole))
  k_with "call ref" => (k_here; (with_reducible show wpAny _ _ (call (Value.ref 561) [Value.int _ _, Value.int _ _]) _ _ _); k_dflt (refine' divisor_ok ?B ?F ?X ?N ?T ?hdp ?hun ?h10 ?h11 ?h20 ?h21 ?hpos ?_; (case B => k_asm); (case F => k_asm); (case X => k_asm); (case N => k_asm); (case T => k_asm); (case hdp => ktr_room); (case hun => ktr_units); (case h10 => first | assumption | omega); (case h11 => first | assumption | omega); (case h20 => first | assumption | omega); (case h21 => first | assumption | omega); (case hpos => first | assumption | omega); k_whole); intro t9 h9 tk9 F9 N9; (try dsimp only); (try k_sweep); (try k_fold))
  k_with "call ref" => (k_here; (with_reducible show wpAny _ _ (call (Value.ref 568) [Value.int _ _, Value.int _ _]) _ _ _); k_dflt (refine' power_ok ?B ?F ?X ?N ?T ?hdp ?hun ?hb0 ?hb1 ?hn0 ?hn1 ?_; (case B => k_asm); (case F => k_asm); (case X => k_asm); (case N => k_asm); (case T => k_asm); (case hdp => ktr_room); (case hun => ktr_units); (case hb0 => first | assumption | omega); (case hb1 => first | assumption | omega); (case hn0 => first | assumption | omega); (case hn1 => first | assumption | omega); k_whole); intro t9 h9 tk9 F9 N9; (try dsimp only); (try k_sweep); (try k_fold))
  k_with "call ref" => (k_here; (with_reducible show wpAny _ _ (call (Value.ref 575) [Value.int _ _, Value.int _ _]) _ _ _); k_dflt (refine' figures_ok ?B ?F ?X ?N ?T ?hdp ?hun ?hk0 ?hk1 ?_; (case B => k_asm); (case F => k_asm); (case X => k_asm); (case N => k_asm); (case T => k_asm); (case hdp => ktr_room); (case hun => ktr_units); (case hk0 => first | assumption | omega); (case hk1 => first | assumption | omega); k_whole); intro q9 v9 n9 h9 tk9 o9 i9 F9 N9; (try dsimp only); (try k_sweep); (try k_fold))
  trivial
theorem holds_0 {w : World} {p : Program} {loose : List Str} {mean : ExcName → Option Value} {mg mb : Str → Option Value} {lf : Addr} {f0 f1 f2 f3 va vb vc vd ve turn : Int} {u0 u1 u2 u3 ta tb tc td te : Tok} (hf : 1 ≤ f0 ∧ f0 ≤ 40 ∧ 0 ≤ f1 ∧ f1 < 40) (hv : 1 ≤ va ∧ va ≤ 40 ∧ 0 ≤ vb ∧ vb < 40) (hg : (Int.gcd va vb : Int) = Int.gcd f0 f1) : HoldsTells w p loose mean mg mb lf [.int f0 u0, .int f1 u1, .int f2 u2, .int f3 u3] [.int va ta, .int vb tb, .int vc tc, .int vd td, .int ve te] 0 turn 100 1000 := by
  intro dp un gd cn nms ig ic mo a ccd cl outer A₀ base h₀ L m s Q E news ln nn t0 t1 B F X N T hm1 hm2 hdp hun hret
  revert X; k_fill; intro X
  have hk : (Scope.mk ScopeKind.function nms ig ic mo).kind = ScopeKind.function := rfl
  have hMk := kstMark
  refine wpAny_call ?_
  k_dflt cell_enter
  k_steps
  all_goals first
    | (refine retb hret ?e9 ?F9 ?N9; (case N9 => (rename News _ _ _ _ => nE; refine kst_newsOf nE ?_; ((repeat (refine sub_cons (by k_memK) ?_)); first | exact List.forall_mem_nil _ | (intro p hp; k_ownIn)))); (case F9 => (rename Fr _ _ _ _ => fE; exact fE)); (case e9 => simp [hg]))
    | trace_state

theorem due_0 {w : World} {p : Program} {loose : List Str} {mean : ExcName → Option Value} {mg mb : Str → Option Value} {lf : Addr} {f0 f1 f2 f3 va vb vc vd turn : Int} {u0 u1 u2 u3 ta tb tc td : Tok} (hf : 1 ≤ f0 ∧ f0 ≤ 40 ∧ 0 ≤ f1 ∧ f1 < 40) (hg : va = Int.gcd f0 f1 ∧ vb = 0) : DueTells w p loose mean mg mb lf [.int f0 u0, .int f1 u1, .int f2 u2, .int f3 u3] [.int va ta, .int vb tb, .int vc tc, .int vd td] 0 turn 100 1000 := by
  intro dp un gd cn nms ig ic mo a ccd cl outer A₀ base h₀ L m s Q E news lr t0 t1 B F X N T hm1 hm2 hdp hun hret
  revert X; k_fill; intro X
  have hk : (Scope.mk ScopeKind.function nms ig ic mo).kind = ScopeKind.function := rfl
  have hMk := kstMark
  refine wpAny_call ?_
  k_dflt cell_enter
  k_steps
  all_goals first
    | (refine retb hret ?e9 ?F9 ?N9; (case N9 => (rename News _ _ _ _ => nE; refine kst_newsOf nE ?_; ((repeat (refine sub_cons (by k_memK) ?_)); first | exact List.forall_mem_nil _ | (intro p hp; k_ownIn)))); (case F9 => (rename Fr _ _ _ _ => fE; exact fE)); (case e9 => simp [hg]))
    | trace_state

theorem holds_1 {w : World} {p : Program} {loose : List Str} {mean : ExcName → Option Value} {mg mb : Str → Option Value} {lf : Addr} {f0 f1 f2 f3 va vb vc vd ve turn : Int} {u0 u1 u2 u3 ta tb tc td te : Tok} (hf : -10 ≤ f0 ∧ f0 ≤ 10 ∧ 0 ≤ f1 ∧ f1 < 20) (hv : -32768 ≤ va ∧ va < 32768 ∧ 0 ≤ vb ∧ vb < 20 ∧ -32768 ≤ vc ∧ vc < 32768) (hg : vc * (va ^ vb.toNat % 65536) % 65536 = f0 ^ f1.toNat % 65536) : HoldsTells w p loose mean mg mb lf [.int f0 u0, .int f1 u1, .int f2 u2, .int f3 u3] [.int va ta, .int vb tb, .int vc tc, .int vd td, .int ve te] 1 turn 100 1000 := by
  intro dp un gd cn nms ig ic mo a ccd cl outer A₀ base h₀ L m s Q E news ln nn t0 t1 B F X N T hm1 hm2 hdp hun hret
  revert X; k_fill; intro X
  have hk : (Scope.mk ScopeKind.function nms ig ic mo).kind = ScopeKind.function := rfl
  have hMk := kstMark
  refine wpAny_call ?_
  k_dflt cell_enter
  k_steps
  all_goals first
    | (refine retb hret ?e9 ?F9 ?N9; (case N9 => (rename News _ _ _ _ => nE; refine kst_newsOf nE ?_; ((repeat (refine sub_cons (by k_memK) ?_)); first | exact List.forall_mem_nil _ | (intro p hp; k_ownIn)))); (case F9 => (rename Fr _ _ _ _ => fE; exact fE)); (case e9 => (simp only [Int.fmod_eq_emod_of_nonneg _ (show (0:Int) ≤ 65536 by decide)]; simp [hg])))
    | trace_state

theorem due_1 {w : World} {p : Program} {loose : List Str} {mean : ExcName → Option Value} {mg mb : Str → Option Value} {lf : Addr} {f0 f1 f2 f3 va vb vc vd turn : Int} {u0 u1 u2 u3 ta tb tc td : Tok} (hf : -10 ≤ f0 ∧ f0 ≤ 10 ∧ 0 ≤ f1 ∧ f1 < 20) (hv : -32768 ≤ vc ∧ vc < 32768) (hg : vb = 0 ∧ vc % 65536 = f0 ^ f1.toNat % 65536) : DueTells w p loose mean mg mb lf [.int f0 u0, .int f1 u1, .int f2 u2, .int f3 u3] [.int va ta, .int vb tb, .int vc tc, .int vd td] 1 turn 100 1000 := by
  intro dp un gd cn nms ig ic mo a ccd cl outer A₀ base h₀ L m s Q E news lr t0 t1 B F X N T hm1 hm2 hdp hun hret
  revert X; k_fill; intro X
  have hk : (Scope.mk ScopeKind.function nms ig ic mo).kind = ScopeKind.function := rfl
  have hMk := kstMark
  refine wpAny_call ?_
  k_dflt cell_enter
  k_steps
  all_goals first
    | (refine retb hret ?e9 ?F9 ?N9; (case N9 => (rename News _ _ _ _ => nE; refine kst_newsOf nE ?_; ((repeat (refine sub_cons (by k_memK) ?_)); first | exact List.forall_mem_nil _ | (intro p hp; k_ownIn)))); (case F9 => (rename Fr _ _ _ _ => fE; exact fE)); (case e9 => first | (simp only [Int.fmod_eq_emod_of_nonneg _ (show (0:Int) ≤ 65536 by decide)]; simp [hg]; done) | (simp [hg]; done)))
    | trace_state

theorem holds_2 {w : World} {p : Program} {loose : List Str} {mean : ExcName → Option Value} {mg mb : Str → Option Value} {lf : Addr} {f0 f1 f2 f3 va vb vc vd ve turn : Int} {u0 u1 u2 u3 ta tb tc td te : Tok} (hf : -10 ≤ f1 ∧ f1 ≤ 10 ∧ -4 ≤ f3 ∧ f3 ≤ 4) (ht : 0 ≤ turn ∧ turn < 200) (hg : va = turn * f1 + f3 * (turn * (turn - 1) / 2)) (he : ve = f1 + turn * f3) : HoldsTells w p loose mean mg mb lf [.int f0 u0, .int f1 u1, .int f2 u2, .int f3 u3] [.int va ta, .int vb tb, .int vc tc, .int vd td, .int ve te] 2 turn 100 1000 := by
  intro dp un gd cn nms ig ic mo a ccd cl outer A₀ base h₀ L m s Q E news ln nn t0 t1 B F X N T hm1 hm2 hdp hun hret
  revert X; k_fill; intro X
  have hk : (Scope.mk ScopeKind.function nms ig ic mo).kind = ScopeKind.function := rfl
  have hMk := kstMark
  refine wpAny_call ?_
  k_dflt cell_enter
  k_steps
  all_goals first
    | (refine retb hret ?e9 ?F9 ?N9; (case N9 => (rename News _ _ _ _ => nE; refine kst_newsOf nE ?_; ((repeat (refine sub_cons (by k_memK) ?_)); first | exact List.forall_mem_nil _ | (intro p hp; k_ownIn)))); (case F9 => (rename Fr _ _ _ _ => fE; exact fE)); (case e9 => first | (simp [he]; done) | (simp only [Int.fdiv_eq_ediv_of_nonneg _ (show (0:Int) ≤ 2 by decide)]; simp [hg])))
    | trace_state

theorem due_2 {w : World} {p : Program} {loose : List Str} {mean : ExcName → Option Value} {mg mb : Str → Option Value} {lf : Addr} {f0 f1 f2 f3 va vb vc vd turn : Int} {u0 u1 u2 u3 ta tb tc td : Tok} (hf : -10 ≤ f1 ∧ f1 ≤ 10 ∧ -4 ≤ f3 ∧ f3 ≤ 4 ∧ f3 ≠ 0 ∧ -100 ≤ f2 ∧ f2 ≤ 100) (ht : 0 ≤ turn ∧ turn < 200) (hg : turn = Int.fdiv (f2 - f1) f3 + 1) (hg2 : va = turn * f1 + f3 * (turn * (turn - 1) / 2)) : DueTells w p loose mean mg mb lf [.int f0 u0, .int f1 u1, .int f2 u2, .int f3 u3] [.int va ta, .int vb tb, .int vc tc, .int vd td] 2 turn 100 1000 := by
  intro dp un gd cn nms ig ic mo a ccd cl outer A₀ base h₀ L m s Q E news lr t0 t1 B F X N T hm1 hm2 hdp hun hret
  revert X; k_fill; intro X
  have hk : (Scope.mk ScopeKind.function nms ig ic mo).kind = ScopeKind.function := rfl
  have hMk := kstMark
  refine wpAny_call ?_
  k_dflt cell_enter
  k_steps
  all_goals first
    | (refine retb hret ?e9 ?F9 ?N9; (case N9 => (rename News _ _ _ _ => nE; refine kst_newsOf nE ?_; ((repeat (refine sub_cons (by k_memK) ?_)); first | exact List.forall_mem_nil _ | (intro p hp; k_ownIn)))); (case F9 => (rename Fr _ _ _ _ => fE; exact fE)); (case e9 => first | (simp_all; done) | (simp only [Int.fdiv_eq_ediv_of_nonneg _ (show (0:Int) ≤ 2 by decide)] at *; simp_all; done)))
    | trace_state

theorem holds_3 {w : World} {p : Program} {loose : List Str} {mean : ExcName → Option Value} {mg mb : Str → Option Value} {lf : Addr} {f0 f1 f2 f3 va vb vc vd ve turn : Int} {u0 u1 u2 u3 ta tb tc td te : Tok} (hf : 0 ≤ f0 ∧ f0 < 3000) (hv : 0 ≤ va ∧ va < 3000 ∧ 0 ≤ vb ∧ vb < 10000) (ht : 0 ≤ turn ∧ turn < 200) (hg : (figs vb turn.toNat).reverse ++ figs va 5 = figs f0 (5 + turn.toNat)) : HoldsTells w p loose mean mg mb lf [.int f0 u0, .int f1 u1, .int f2 u2, .int f3 u3] [.int va ta, .int vb tb, .int vc tc, .int vd td, .int ve te] 3 turn 100 1000 := by
  intro dp un gd cn nms ig ic mo a ccd cl outer A₀ base h₀ L m s Q E news ln nn t0 t1 B F X N T hm1 hm2 hdp hun hret
  revert X; k_fill; intro X
  have hk : (Scope.mk ScopeKind.function nms ig ic mo).kind = ScopeKind.function := rfl
  have hMk := kstMark
  refine wpAny_call ?_
  k_dflt cell_enter
  k_steps
  all_goals first
    | (refine retb hret ?e9 ?F9 ?N9; (case N9 => (rename News _ _ _ _ => nE; refine kst_newsOf nE ?_; ((repeat (refine sub_cons (by k_memK) ?_)); first | exact List.forall_mem_nil _ | (intro p hp; k_ownIn)))); (case F9 => (rename Fr _ _ _ _ => fE; exact fE)); (case e9 => exact decide_eq_true (by rw [show (5 + turn).toNat = 5 + turn.toNat by omega]; exact hg)))
    | trace_state

theorem due_3 {w : World} {p : Program} {loose : List Str} {mean : ExcName → Option Value} {mg mb : Str → Option Value} {lf : Addr} {f0 f1 f2 f3 va vb vc vd turn : Int} {u0 u1 u2 u3 ta tb tc td : Tok} (hf : 0 ≤ f0 ∧ f0 < 3000) (hv : va = 0 ∧ 0 ≤ vb ∧ vb < 10000) (ht : 1 ≤ turn ∧ turn < 200) (hg : (figs vb (turn - 1).toNat).reverse = figs f0 (turn - 1).toNat) : DueTells w p loose mean mg mb lf [.int f0 u0, .int f1 u1, .int f2 u2, .int f3 u3] [.int va ta, .int vb tb, .int vc tc, .int vd td] 3 turn 100 1000 := by
  intro dp un gd cn nms ig ic mo a ccd cl outer A₀ base h₀ L m s Q E news lr t0 t1 B F X N T hm1 hm2 hdp hun hret
  revert X; k_fill; intro X
  have hk : (Scope.mk ScopeKind.function nms ig ic mo).kind = ScopeKind.function := rfl
  have hMk := kstMark
  refine wpAny_call ?_
  k_dflt cell_enter
  k_steps
  all_goals first
    | (refine retb hret ?e9 ?F9 ?N9; (case N9 => (rename News _ _ _ _ => nE; refine kst_newsOf nE ?_; ((repeat (refine sub_cons (by k_memK) ?_)); first | exact List.forall_mem_nil _ | (intro p hp; k_ownIn)))); (case F9 => (rename Fr _ _ _ _ => fE; exact fE)); (case e9 => first | exact decide_eq_true hg | (simp [hv.1]; done)))
    | trace_state
theorem w_F2_1 : True := by
  k_with_none
  trivial
theorem pl_away {w : World} {p : Program} {loose : List Str} {mean : ExcName → Option Value} {mg mb : Str → Option Value} {sp dsp ls lc lk lm wk : Addr} {ks0 ks1 ks2 ks3 ks4 ks5 ks6 ks7 ks8 kr kt : Tok} {ns : Nat} {rest : List (Addr × Obj)} {lf : Addr} {fs : List Value} {form head : Int} {Iv : LSt → Prop} {c : LSt} {R}
    (h1 : c.pc ≠ head) (h2 : RunAll w p loose mean mg mb sp dsp ls lc lk lm wk ks0 ks1 ks2 ks3 ks4 ks5 ks6 ks7 ks8 kr kt ns rest 100 1000 c.pc c.vs R) (h3 : ∀ pc' vs' tp', R pc' vs' → ∃ c' : LSt, c'.pc = pc' ∧ c'.tp = tp' ∧ c'.vs = vs' ∧ c'.turn = c.turn ∧ c'.tt = c.tt ∧ c'.left = c.left ∧ Iv c') :
    Plan w p loose mean mg mb sp dsp ls lc lk lm wk ks0 ks1 ks2 ks3 ks4 ks5 ks6 ks7 ks8 kr kt ns rest lf fs form head Iv c := Or.inl ⟨h1, R, h2, h3⟩
theorem pl_back {w : World} {p : Program} {loose : List Str} {mean : ExcName → Option Value} {mg mb : Str → Option Value} {sp dsp ls lc lk lm wk : Addr} {ks0 ks1 ks2 ks3 ks4 ks5 ks6 ks7 ks8 kr kt : Tok} {ns : Nat} {rest : List (Addr × Obj)} {lf : Addr} {fs : List Value} {form head : Int} {Iv : LSt → Prop} {c : LSt} {rs}
    (h1 : c.pc ≠ head) (h2 : RbkAll w p loose mean mg mb sp dsp ls lc lk lm wk ks0 ks1 ks2 ks3 ks4 ks5 ks6 ks7 ks8 kr kt ns rest 100 1000 c.pc c.vs rs) (h3 : DueTells w p loose mean mg mb lf fs rs form c.turn 100 1000) :
    Plan w p loose mean mg mb sp dsp ls lc lk lm wk ks0 ks1 ks2 ks3 ks4 ks5 ks6 ks7 ks8 kr kt ns rest lf fs form head Iv c := Or.inr (Or.inl ⟨h1, rs, h2, h3⟩)
theorem pl_head {w : World} {p : Program} {loose : List Str} {mean : ExcName → Option Value} {mg mb : Str → Option Value} {sp dsp ls lc lk lm wk : Addr} {ks0 ks1 ks2 ks3 ks4 ks5 ks6 ks7 ks8 kr kt : Tok} {ns : Nat} {rest : List (Addr × Obj)} {lf : Addr} {fs : List Value} {form head : Int} {Iv : LSt → Prop} {c : LSt} {R} (ms : Int)
    (h1 : c.pc = head) (h2 : 0 ≤ c.turn) (h3 : c.turn < 1000) (h4 : MsTells c.a c.b c.turn form ms c.ta c.tb) (h5 : c.left = .none ∨ ∃ ml tl, c.left = .int ml tl ∧ ms < ml)
    (h6 : RunAll w p loose mean mg mb sp dsp ls lc lk lm wk ks0 ks1 ks2 ks3 ks4 ks5 ks6 ks7 ks8 kr kt ns rest 100 1000 head c.vs R) (h7 : HoldsTells w p loose mean mg mb lf fs [.int c.a c.ta, .int c.b c.tb, .int c.c c.tc, .int c.d c.td, .int c.e c.te] form c.turn 100 1000)
    (h8 : ∀ pc' vs' tp' tt' tl', R pc' vs' → ∃ c' : LSt, c'.pc = pc' ∧ c'.tp = tp' ∧ c'.vs = vs' ∧ c'.turn = c.turn + 1 ∧ c'.tt = tt' ∧ c'.left = .int ms tl' ∧ Iv c') :
    Plan w p loose mean mg mb sp dsp ls lc lk lm wk ks0 ks1 ks2 ks3 ks4 ks5 ks6 ks7 ks8 kr kt ns rest lf fs form head Iv c := Or.inr (Or.inr ⟨h1, h2, h3, ms, R, h4, h5, h6, h7, h8⟩)
theorem oq1 {a : Int} {k : Nat} (h : a ≤ (k : Int)) : a ≤ ((k + 1 : Nat) : Int) := by omega
theorem oq2 {a : Int} {k : Nat} (h : a ≤ (k : Int)) : a + 1 ≤ ((k + 1 : Nat) : Int) := by omega
theorem oq3 {a : Int} (h : 0 ≤ a) : 0 ≤ a + 1 := by omega
theorem oq4 {a : Int} (h : 0 ≤ a) (h1 : ¬ a = 0) : 1 ≤ a := by omega
theorem oq5 {k : Nat} {x s : Int} (h : (k : Int) + x + 2 ≤ s) : ((k + 1 : Nat) : Int) + x + 1 ≤ s := by omega
theorem oq6 {k : Nat} {x s : Int} (h : (k : Int) + x + 1 ≤ s) : ((k + 1 : Nat) : Int) + x ≤ s := by omega
theorem oq7 {k : Nat} {x : Int} (h : (k : Int) + x ≤ 200) : ((k + 1 : Nat) : Int) + x ≤ 201 := by omega
theorem oq8 {k : Nat} {x : Int} (h : (k : Int) + x ≤ 201) : ((k + 1 : Nat) : Int) + x ≤ 202 := by omega
theorem oq9 {k : Nat} {x : Int} (h : (k : Int) + x ≤ 202) : ((k + 1 : Nat) : Int) + x ≤ 203 := by omega
theorem oqa {k : Nat} {x : Int} (h : (k : Int) + x ≤ 203) : ((k + 1 : Nat) : Int) + x ≤ 204 := by omega
theorem oqb {a : Int} {k : Nat} (h : a ≤ (k : Int)) (h1 : k < 200) : a < 1000 := by omega
theorem oqc {a : Int} (h : 1 ≤ a) : 0 ≤ a := by omega
theorem oqd {a : Int} (h : 1 ≤ a) : 0 < a := by omega
theorem oqe {a : Int} (h : 0 ≤ a) : -32768 ≤ a := by omega
theorem oqf {a : Int} (h : 1 ≤ a) : -65536 < a := by omega
theorem oqg {a : Int} {m n : Int} (h : a < m) (h1 : m ≤ n) : a < n := by omega
theorem oqh {a : Int} {m n : Int} (h : a ≤ m) (h1 : m < n) : a < n := by omega
theorem oqi {a : Int} (h : 1 ≤ a) : a ≠ 0 := by omega
theorem oqj {a : Int} : -32768 ≤ a % 2 := by omega
theorem oqk {a : Int} : a % 2 < 32768 := by omega
theorem oql {a : Int} : -32768 ≤ a % 10 := by omega
theorem oqm {a : Int} : a % 10 < 32768 := by omega

theorem w_F2_2 : True := by
  k_with "om" => (first | assumption | exact oq1 (by assumption) | exact oq2 (by assumption) | exact oq3 (by assumption) | exact oq4 (by assumption) (by assumption) | exact oq5 (by assumption) | exact oq6 (by assumption) | exact oq7 (by assumption) | exact oq8 (by assumption) | exact oq9 (by assumption) | exact oqa (by assumption) | exact oqb (by assumption) (by assumption) | exact oqc (by assumption) | exact oqd (by assumption) | exact oqe (by assumption) | exact oqi (by assumption) | exact oqj | exact oqk | exact oql | exact oqm | exact oqg (by assumption) (by decide) | exact oqh (by assumption) (by decide) | exact oqf (by assumption) | omega | (dsimp only; omega))
  trivial
def Iv0 (G : Int) (k : Nat) (c : LSt) : Prop :=
    (c.pc = 0 ∧ 1 ≤ c.a ∧ c.a ≤ 40 ∧ 0 ≤ c.b ∧ c.b < 40 ∧ (Int.gcd c.a c.b : Int) = G ∧ 0 ≤ c.turn ∧ c.turn ≤ k ∧ (c.left = .none ∨ ∃ ml tl, c.left = .int ml tl ∧ c.b < ml) ∧ k + 5 * c.b + 2 ≤ 200)
  ∨ (c.pc = 2 ∧ 1 ≤ c.a ∧ c.a ≤ 40 ∧ 1 ≤ c.b ∧ c.b < 40 ∧ (Int.gcd c.a c.b : Int) = G ∧ 0 ≤ c.turn ∧ c.turn ≤ k ∧ (∃ tl, c.left = .int c.b tl) ∧ k + 5 * c.b + 1 ≤ 200)
  ∨ (c.pc = 3 ∧ 1 ≤ c.a ∧ c.a ≤ 40 ∧ 1 ≤ c.b ∧ c.b < 40 ∧ (Int.gcd c.b c.c : Int) = G ∧ 0 ≤ c.c ∧ c.c < c.b ∧ 0 ≤ c.turn ∧ c.turn ≤ k ∧ (∃ tl, c.left = .int c.b tl) ∧ k + 5 * c.b ≤ 200)
  ∨ (c.pc = 4 ∧ c.a = c.b ∧ 1 ≤ c.b ∧ c.b < 40 ∧ (Int.gcd c.b c.c : Int) = G ∧ 0 ≤ c.c ∧ c.c < c.b ∧ 0 ≤ c.turn ∧ c.turn ≤ k ∧ (∃ tl, c.left = .int c.b tl) ∧ k + 5 * c.b ≤ 201)
  ∨ (c.pc = 5 ∧ 1 ≤ c.a ∧ c.a < 40 ∧ (Int.gcd c.a c.b : Int) = G ∧ 0 ≤ c.b ∧ c.b < c.a ∧ 0 ≤ c.turn ∧ c.turn ≤ k ∧ (∃ tl, c.left = .int c.a tl) ∧ k + 5 * c.a ≤ 202)
  ∨ (c.pc = 6 ∧ c.b = 0 ∧ c.a = G ∧ 0 ≤ c.turn ∧ c.turn ≤ k ∧ k + 1 ≤ 200)
theorem iv0_cases {P : Prop} {G : Int} {k : Nat} {pc : Int} {tp : Tok} {xa xb xc xd xe : Int} {ta tb tc td te : Tok} {turn : Int} {tt : Tok} {left : Value} (h : Iv0 G k ⟨pc, tp, xa, xb, xc, xd, xe, ta, tb, tc, td, te, turn, tt, left⟩)
    (f0 : pc = 0 → 1 ≤ xa → xa ≤ 40 → 0 ≤ xb → xb < 40 → (Int.gcd xa xb : Int) = G → 0 ≤ turn → turn ≤ k → ((left = .none ∨ ∃ ml tl, left = .int ml tl ∧ xb < ml)) → k + 5 * xb + 2 ≤ 200 → P)
    (f1 : pc = 2 → 1 ≤ xa → xa ≤ 40 → 1 ≤ xb → xb < 40 → (Int.gcd xa xb : Int) = G → 0 ≤ turn → turn ≤ k → ((∃ tl, left = .int xb tl)) → k + 5 * xb + 1 ≤ 200 → P)
    (f2 : pc = 3 → 1 ≤ xa → xa ≤ 40 → 1 ≤ xb → xb < 40 → (Int.gcd xb xc : Int) = G → 0 ≤ xc → xc < xb → 0 ≤ turn → turn ≤ k → ((∃ tl, left = .int xb tl)) → k + 5 * xb ≤ 200 → P)
    (f3 : pc = 4 → xa = xb → 1 ≤ xb → xb < 40 → (Int.gcd xb xc : Int) = G → 0 ≤ xc → xc < xb → 0 ≤ turn → turn ≤ k → ((∃ tl, left = .int xb tl)) → k + 5 * xb ≤ 201 → P)
    (f4 : pc = 5 → 1 ≤ xa → xa < 40 → (Int.gcd xa xb : Int) = G → 0 ≤ xb → xb < xa → 0 ≤ turn → turn ≤ k → ((∃ tl, left = .int xa tl)) → k + 5 * xa ≤ 202 → P)
    (f5 : pc = 6 → xb = 0 → xa = G → 0 ≤ turn → turn ≤ k → k + 1 ≤ 200 → P) : P := by
  rcases h with h | h | h | h | h | h
  · exact f0 h.1 h.2.1 h.2.2.1 h.2.2.2.1 h.2.2.2.2.1 h.2.2.2.2.2.1 h.2.2.2.2.2.2.1 h.2.2.2.2.2.2.2.1 h.2.2.2.2.2.2.2.2.1 h.2.2.2.2.2.2.2.2.2
  · exact f1 h.1 h.2.1 h.2.2.1 h.2.2.2.1 h.2.2.2.2.1 h.2.2.2.2.2.1 h.2.2.2.2.2.2.1 h.2.2.2.2.2.2.2.1 h.2.2.2.2.2.2.2.2.1 h.2.2.2.2.2.2.2.2.2
  · exact f2 h.1 h.2.1 h.2.2.1 h.2.2.2.1 h.2.2.2.2.1 h.2.2.2.2.2.1 h.2.2.2.2.2.2.1 h.2.2.2.2.2.2.2.1 h.2.2.2.2.2.2.2.2.1 h.2.2.2.2.2.2.2.2.2.1 h.2.2.2.2.2.2.2.2.2.2.1 h.2.2.2.2.2.2.2.2.2.2.2
  · exact f3 h.1 h.2.1 h.2.2.1 h.2.2.2.1 h.2.2.2.2.1 h.2.2.2.2.2.1 h.2.2.2.2.2.2.1 h.2.2.2.2.2.2.2.1 h.2.2.2.2.2.2.2.2.1 h.2.2.2.2.2.2.2.2.2.1 h.2.2.2.2.2.2.2.2.2.2
  · exact f4 h.1 h.2.1 h.2.2.1 h.2.2.2.1 h.2.2.2.2.1 h.2.2.2.2.2.1 h.2.2.2.2.2.2.1 h.2.2.2.2.2.2.2.1 h.2.2.2.2.2.2.2.2.1 h.2.2.2.2.2.2.2.2.2
  · exact f5 h.1 h.2.1 h.2.2.1 h.2.2.2.1 h.2.2.2.2.1 h.2.2.2.2.2
theorem iv0_0 {G : Int} {k : Nat} {pc : Int} {tp : Tok} {xa xb xc xd xe : Int} {ta tb tc td te : Tok} {turn : Int} {tt : Tok} {left : Value} (h0 : pc = 0) (h1 : 1 ≤ xa) (h2 : xa ≤ 40) (h3 : 0 ≤ xb) (h4 : xb < 40) (h5 : (Int.gcd xa xb : Int) = G) (h6 : 0 ≤ turn) (h7 : turn ≤ k) (h8 : (left = .none ∨ ∃ ml tl, left = .int ml tl ∧ xb < ml)) (h9 : k + 5 * xb + 2 ≤ 200) : Iv0 G k ⟨pc, tp, xa, xb, xc, xd, xe, ta, tb, tc, td, te, turn, tt, left⟩ := Or.inl ⟨h0, h1, h2, h3, h4, h5, h6, h7, h8, h9⟩
theorem iv0_1 {G : Int} {k : Nat} {pc : Int} {tp : Tok} {xa xb xc xd xe : Int} {ta tb tc td te : Tok} {turn : Int} {tt : Tok} {left : Value} (h0 : pc = 2) (h1 : 1 ≤ xa) (h2 : xa ≤ 40) (h3 : 1 ≤ xb) (h4 : xb < 40) (h5 : (Int.gcd xa xb : Int) = G) (h6 : 0 ≤ turn) (h7 : turn ≤ k) (h8 : (∃ tl, left = .int xb tl)) (h9 : k + 5 * xb + 1 ≤ 200) : Iv0 G k ⟨pc, tp, xa, xb, xc, xd, xe, ta, tb, tc, td, te, turn, tt, left⟩ := Or.inr (Or.inl ⟨h0, h1, h2, h3, h4, h5, h6, h7, h8, h9⟩)
theorem iv0_2 {G : Int} {k : Nat} {pc : Int} {tp : Tok} {xa xb xc xd xe : Int} {ta tb tc td te : Tok} {turn : Int} {tt : Tok} {left : Value} (h0 : pc = 3) (h1 : 1 ≤ xa) (h2 : xa ≤ 40) (h3 : 1 ≤ xb) (h4 : xb < 40) (h5 : (Int.gcd xb xc : Int) = G) (h6 : 0 ≤ xc) (h7 : xc < xb) (h8 : 0 ≤ turn) (h9 : turn ≤ k) (h10 : (∃ tl, left = .int xb tl)) (h11 : k + 5 * xb ≤ 200) : Iv0 G k ⟨pc, tp, xa, xb, xc, xd, xe, ta, tb, tc, td, te, turn, tt, left⟩ := Or.inr (Or.inr (Or.inl ⟨h0, h1, h2, h3, h4, h5, h6, h7, h8, h9, h10, h11⟩))
theorem iv0_3 {G : Int} {k : Nat} {pc : Int} {tp : Tok} {xa xb xc xd xe : Int} {ta tb tc td te : Tok} {turn : Int} {tt : Tok} {left : Value} (h0 : pc = 4) (h1 : xa = xb) (h2 : 1 ≤ xb) (h3 : xb < 40) (h4 : (Int.gcd xb xc : Int) = G) (h5 : 0 ≤ xc) (h6 : xc < xb) (h7 : 0 ≤ turn) (h8 : turn ≤ k) (h9 : (∃ tl, left = .int xb tl)) (h10 : k + 5 * xb ≤ 201) : Iv0 G k ⟨pc, tp, xa, xb, xc, xd, xe, ta, tb, tc, td, te, turn, tt, left⟩ := Or.inr (Or.inr (Or.inr (Or.inl ⟨h0, h1, h2, h3, h4, h5, h6, h7, h8, h9, h10⟩)))
theorem iv0_4 {G : Int} {k : Nat} {pc : Int} {tp : Tok} {xa xb xc xd xe : Int} {ta tb tc td te : Tok} {turn : Int} {tt : Tok} {left : Value} (h0 : pc = 5) (h1 : 1 ≤ xa) (h2 : xa < 40) (h3 : (Int.gcd xa xb : Int) = G) (h4 : 0 ≤ xb) (h5 : xb < xa) (h6 : 0 ≤ turn) (h7 : turn ≤ k) (h8 : (∃ tl, left = .int xa tl)) (h9 : k + 5 * xa ≤ 202) : Iv0 G k ⟨pc, tp, xa, xb, xc, xd, xe, ta, tb, tc, td, te, turn, tt, left⟩ := Or.inr (Or.inr (Or.inr (Or.inr (Or.inl ⟨h0, h1, h2, h3, h4, h5, h6, h7, h8, h9⟩))))
theorem iv0_5 {G : Int} {k : Nat} {pc : Int} {tp : Tok} {xa xb xc xd xe : Int} {ta tb tc td te : Tok} {turn : Int} {tt : Tok} {left : Value} (h0 : pc = 6) (h1 : xb = 0) (h2 : xa = G) (h3 : 0 ≤ turn) (h4 : turn ≤ k) (h5 : k + 1 ≤ 200) : Iv0 G k ⟨pc, tp, xa, xb, xc, xd, xe, ta, tb, tc, td, te, turn, tt, left⟩ := Or.inr (Or.inr (Or.inr (Or.inr (Or.inr (⟨h0, h1, h2, h3, h4, h5⟩)))))
theorem done_0 {G : Int} : ∀ c, ¬ Iv0 G 200 c := by
  intro c h
  rcases h with h | h | h | h | h | h <;> omega
theorem plan_0 {w : World} {p : Program} {loose : List Str} {mean : ExcName → Option Value} {mg mb : Str → Option Value} {sp dsp ls lc lk lm dlm wk dwk f0 f1 f2 f3 f4 f5 c4 : Addr} {of oc : Obj} {ks0 ks1 ks2 ks3 ks4 ks5 ks6 ks7 ks8 kr kt z0 z1 z2 ka0 kb0 ka1 kb1 ka2 kb2 ka3 kb3 ka4 kb4 ka5 kb5 ka6 kb6 ka7 kb7 ka8 kb8 ka9 kb9 kw0 kw1 kw2 kw3 kw4 kw5 : Tok} {nc nk ns : Nat} {rest : List (Addr × Obj)} {q0 q1 q2 q3 q4 q5 q6 : Tok} {lf : Addr} {g0 g1 g2 g3 : Int} {u0 u1 u2 u3 : Tok} (S : Sea w p loose mean mg mb sp dsp ls lc lk lm dlm wk dwk f0 f1 f2 f3 f4 f5 c4 of oc ks0 ks1 ks2 ks3 ks4 ks5 ks6 ks7 ks8 kr kt z0 z1 z2 ka0 kb0 ka1 kb1 ka2 kb2 ka3 kb3 ka4 kb4 ka5 kb5 ka6 kb6 ka7 kb7 ka8 kb8 ka9 kb9 kw0 kw1 kw2 kw3 kw4 kw5 nc nk ns [.int 12582999 q0, .int 2147532822 q1, .int 16528 q2, .int 8388608 q3, .int 16777280 q4, .int 2147368982 q5, .int 41943070 q6] rest) (hf : 1 ≤ g0 ∧ g0 ≤ 40 ∧ 0 ≤ g1 ∧ g1 < 40) : ∀ k c, Iv0 (Int.gcd g0 g1 : Int) k c → k < 200 → Plan w p loose mean mg mb sp dsp ls lc lk lm wk ks0 ks1 ks2 ks3 ks4 ks5 ks6 ks7 ks8 kr kt ns rest lf [.int g0 u0, .int g1 u1, .int g2 u2, .int g3 u3] 0 0 (Iv0 (Int.gcd g0 g1 : Int) (k + 1)) c := by
  intro k c hI hk
  obtain ⟨pc, tp, a, b, c, d, e, ta, tb, tc, td, te, turn, tt, left⟩ := c
  refine iv0_cases hI ?_ ?_ ?_ ?_ ?_ ?_
  · rintro rfl h1 h2 h3 h4 hg h5 h6 hl h7
    refine pl_head (b) rfl (h5) (by walk_at "om") (fun tk => ⟨tb, rfl⟩) (hl) (ra_0_0 (ra := a) (rb := b) (rc := c) (rd := d) (re := e) (tra := ta) (trb := tb) (trc := tc) (trd := td) (tre := te) S) (holds_0 hf ⟨h1, h2, h3, h4⟩ hg) ?_
    rintro pc' vs' tp' tt' tl' ⟨⟨e1, e2⟩, rfl⟩
    by_cases hb : b = 0
    · refine ⟨⟨pc', tp', a, b, c, d, e, ta, tb, tc, td, te, turn + 1, tt', .int b tl'⟩, rfl, rfl, rfl, rfl, rfl, rfl, ?_⟩
      refine iv0_5 (e1 hb) hb ?_ (by walk_at "om") (by walk_at "om") (by walk_at "om")
      rw [hb, gcd_zero (by walk_at "om")] at hg
      exact hg
    · refine ⟨⟨pc', tp', a, b, c, d, e, ta, tb, tc, td, te, turn + 1, tt', .int b tl'⟩, rfl, rfl, rfl, rfl, rfl, rfl, ?_⟩
      exact iv0_1 (e2 hb) h1 h2 (by walk_at "om") h4 hg (by walk_at "om") (by walk_at "om") ⟨tl', rfl⟩ (by walk_at "om")
  · rintro rfl h1 h2 h3 h4 hg h5 h6 ⟨tl, hl⟩ h7
    refine pl_away (show (2 : Int) ≠ 0 by decide) (ra_0_2 (ra := a) (rb := b) (rc := c) (rd := d) (re := e) (tra := ta) (trb := tb) (trc := tc) (trd := td) (tre := te) S ⟨by walk_at "om", by walk_at "om", by walk_at "om", by walk_at "om"⟩) ?_
    rintro pc' vs' tp' ⟨rfl, v, tv, ev, rfl⟩
    have m0 := Int.emod_nonneg a (show b ≠ 0 by walk_at "om")
    have m1 := Int.emod_lt_of_pos a (show 0 < b by walk_at "om")
    rw [wrp_id (by walk_at "om") (by walk_at "om")] at ev
    refine ⟨⟨_, tp', a, b, v, d, e, ta, tb, tv, td, te, turn, tt, left⟩, rfl, rfl, rfl, rfl, rfl, rfl, ?_⟩
    refine iv0_2 rfl h1 h2 h3 h4 ?_ (by walk_at "om") (by walk_at "om") h5 (by walk_at "om") ⟨tl, hl⟩ (by walk_at "om")
    (try dsimp only)
    rw [ev, gcd_step (by walk_at "om") (by walk_at "om")]
    exact hg
  · rintro rfl h1 h2 h3 h4 hg h8 h9 h5 h6 ⟨tl, hl⟩ h7
    refine pl_away (show (3 : Int) ≠ 0 by decide) (ra_0_3 (ra := a) (rb := b) (rc := c) (rd := d) (re := e) (tra := ta) (trb := tb) (trc := tc) (trd := td) (tre := te) S) ?_
    rintro pc' vs' tp' ⟨rfl, rfl⟩
    refine ⟨⟨_, tp', b, b, c, d, e, tb, tb, tc, td, te, turn, tt, left⟩, rfl, rfl, rfl, rfl, rfl, rfl, ?_⟩
    exact iv0_3 rfl rfl h3 h4 hg h8 h9 h5 (by walk_at "om") ⟨tl, hl⟩ (by walk_at "om")
  · rintro rfl h1 h3 h4 hg h8 h9 h5 h6 ⟨tl, hl⟩ h7
    refine pl_away (show (4 : Int) ≠ 0 by decide) (ra_0_4 (ra := a) (rb := b) (rc := c) (rd := d) (re := e) (tra := ta) (trb := tb) (trc := tc) (trd := td) (tre := te) S) ?_
    rintro pc' vs' tp' ⟨rfl, rfl⟩
    refine ⟨⟨_, tp', a, c, c, d, e, ta, tc, tc, td, te, turn, tt, left⟩, rfl, rfl, rfl, rfl, rfl, rfl, ?_⟩
    subst h1
    exact iv0_4 rfl h3 h4 hg h8 h9 h5 (by walk_at "om") ⟨tl, hl⟩ (by walk_at "om")
  · rintro rfl h1 h2 hg h8 h9 h5 h6 ⟨tl, hl⟩ h7
    refine pl_away (show (5 : Int) ≠ 0 by decide) (ra_0_5 (ra := a) (rb := b) (rc := c) (rd := d) (re := e) (tra := ta) (trb := tb) (trc := tc) (trd := td) (tre := te) S) ?_
    rintro pc' vs' tp' ⟨rfl, rfl⟩
    refine ⟨⟨_, tp', a, b, c, d, e, ta, tb, tc, td, te, turn, tt, left⟩, rfl, rfl, rfl, rfl, rfl, rfl, ?_⟩
    exact iv0_0 rfl h1 (by walk_at "om") h8 (by walk_at "om") hg h5 (by walk_at "om") (Or.inr ⟨a, tl, hl, h9⟩) (by walk_at "om")
  · rintro rfl h1 hg h5 h6 h7
    exact pl_back (show (6 : Int) ≠ 0 by decide) (rb_0 (ra := a) (rb := b) (rc := c) (rd := d) (re := e) (tra := ta) (trb := tb) (trc := tc) (trd := td) (tre := te) S) (due_0 hf ⟨hg, h1⟩)
def Rg (x : Int) : Prop := -32768 ≤ x ∧ x < 32768
theorem rg_wrp (n : Int) : Rg (wrp n) := ⟨wrp_lo n, wrp_hi n⟩
def Iv1 (G : Int) (k : Nat) (c : LSt) : Prop :=
    (c.pc = 0 ∧ Rg c.a ∧ Rg c.c ∧ 0 ≤ c.b ∧ c.b < 20 ∧ c.c * c.a ^ c.b.toNat % 65536 = G ∧ 0 ≤ c.turn ∧ c.turn ≤ k ∧ (c.left = .none ∨ ∃ ml tl, c.left = .int ml tl ∧ c.b < ml) ∧ k + 7 * c.b + 2 ≤ 200)
  ∨ (c.pc = 2 ∧ Rg c.a ∧ Rg c.c ∧ 1 ≤ c.b ∧ c.b < 20 ∧ c.c * c.a ^ c.b.toNat % 65536 = G ∧ 0 ≤ c.turn ∧ c.turn ≤ k ∧ (∃ tl, c.left = .int c.b tl) ∧ k + 7 * c.b + 1 ≤ 200)
  ∨ (c.pc = 3 ∧ Rg c.a ∧ Rg c.c ∧ 1 ≤ c.b ∧ c.b < 20 ∧ c.d = c.b % 2 ∧ c.c * c.a ^ c.b.toNat % 65536 = G ∧ 0 ≤ c.turn ∧ c.turn ≤ k ∧ (∃ tl, c.left = .int c.b tl) ∧ k + 7 * c.b ≤ 200)
  ∨ (c.pc = 5 ∧ Rg c.a ∧ Rg c.c ∧ 1 ≤ c.b ∧ c.b < 20 ∧ c.b % 2 ≠ 0 ∧ c.c * c.a ^ c.b.toNat % 65536 = G ∧ 0 ≤ c.turn ∧ c.turn ≤ k ∧ (∃ tl, c.left = .int c.b tl) ∧ k + 7 * c.b ≤ 201)
  ∨ (c.pc = 6 ∧ Rg c.a ∧ Rg c.c ∧ 1 ≤ c.b ∧ c.b < 20 ∧ c.c * (wrp (c.a * c.a)) ^ (c.b / 2).toNat % 65536 = G ∧ 0 ≤ c.turn ∧ c.turn ≤ k ∧ (∃ tl, c.left = .int c.b tl) ∧ k + 7 * c.b ≤ 202)
  ∨ (c.pc = 7 ∧ Rg c.a ∧ Rg c.c ∧ 1 ≤ c.b ∧ c.b < 20 ∧ c.c * c.a ^ (c.b / 2).toNat % 65536 = G ∧ 0 ≤ c.turn ∧ c.turn ≤ k ∧ (∃ tl, c.left = .int c.b tl) ∧ k + 7 * c.b ≤ 203)
  ∨ (c.pc = 8 ∧ Rg c.a ∧ Rg c.c ∧ 0 ≤ c.b ∧ c.b < 20 ∧ c.c * c.a ^ c.b.toNat % 65536 = G ∧ 0 ≤ c.turn ∧ c.turn ≤ k ∧ (∃ ml tl, c.left = .int ml tl ∧ c.b < ml ∧ ml < 20 ∧ k + 7 * ml ≤ 204))
  ∨ (c.pc = 9 ∧ c.b = 0 ∧ Rg c.c ∧ c.c % 65536 = G ∧ 0 ≤ c.turn ∧ c.turn ≤ k ∧ k + 1 ≤ 200)
theorem iv1_cases {P : Prop} {G : Int} {k : Nat} {pc : Int} {tp : Tok} {xa xb xc xd xe : Int} {ta tb tc td te : Tok} {turn : Int} {tt : Tok} {left : Value} (h : Iv1 G k ⟨pc, tp, xa, xb, xc, xd, xe, ta, tb, tc, td, te, turn, tt, left⟩)
    (f0 : pc = 0 → Rg xa → Rg xc → 0 ≤ xb → xb < 20 → xc * xa ^ xb.toNat % 65536 = G → 0 ≤ turn → turn ≤ k → ((left = .none ∨ ∃ ml tl, left = .int ml tl ∧ xb < ml)) → k + 7 * xb + 2 ≤ 200 → P)
    (f1 : pc = 2 → Rg xa → Rg xc → 1 ≤ xb → xb < 20 → xc * xa ^ xb.toNat % 65536 = G → 0 ≤ turn → turn ≤ k → ((∃ tl, left = .int xb tl)) → k + 7 * xb + 1 ≤ 200 → P)
    (f2 : pc = 3 → Rg xa → Rg xc → 1 ≤ xb → xb < 20 → xd = xb % 2 → xc * xa ^ xb.toNat % 65536 = G → 0 ≤ turn → turn ≤ k → ((∃ tl, left = .int xb tl)) → k + 7 * xb ≤ 200 → P)
    (f3 : pc = 5 → Rg xa → Rg xc → 1 ≤ xb → xb < 20 → xb % 2 ≠ 0 → xc * xa ^ xb.toNat % 65536 = G → 0 ≤ turn → turn ≤ k → ((∃ tl, left = .int xb tl)) → k + 7 * xb ≤ 201 → P)
    (f4 : pc = 6 → Rg xa → Rg xc → 1 ≤ xb → xb < 20 → xc * (wrp (xa * xa)) ^ (xb / 2).toNat % 65536 = G → 0 ≤ turn → turn ≤ k → ((∃ tl, left = .int xb tl)) → k + 7 * xb ≤ 202 → P)
    (f5 : pc = 7 → Rg xa → Rg xc → 1 ≤ xb → xb < 20 → xc * xa ^ (xb / 2).toNat % 65536 = G → 0 ≤ turn → turn ≤ k → ((∃ tl, left = .int xb tl)) → k + 7 * xb ≤ 203 → P)
    (f6 : pc = 8 → Rg xa → Rg xc → 0 ≤ xb → xb < 20 → xc * xa ^ xb.toNat % 65536 = G → 0 ≤ turn → turn ≤ k → ((∃ ml tl, left = .int ml tl ∧ xb < ml ∧ ml < 20 ∧ k + 7 * ml ≤ 204)) → P)
    (f7 : pc = 9 → xb = 0 → Rg xc → xc % 65536 = G → 0 ≤ turn → turn ≤ k → k + 1 ≤ 200 → P) : P := by
  rcases h with h | h | h | h | h | h | h | h
  · exact f0 h.1 h.2.1 h.2.2.1 h.2.2.2.1 h.2.2.2.2.1 h.2.2.2.2.2.1 h.2.2.2.2.2.2.1 h.2.2.2.2.2.2.2.1 h.2.2.2.2.2.2.2.2.1 h.2.2.2.2.2.2.2.2.2
  · exact f1 h.1 h.2.1 h.2.2.1 h.2.2.2.1 h.2.2.2.2.1 h.2.2.2.2.2.1 h.2.2.2.2.2.2.1 h.2.2.2.2.2.2.2.1 h.2.2.2.2.2.2.2.2.1 h.2.2.2.2.2.2.2.2.2
  · exact f2 h.1 h.2.1 h.2.2.1 h.2.2.2.1 h.2.2.2.2.1 h.2.2.2.2.2.1 h.2.2.2.2.2.2.1 h.2.2.2.2.2.2.2.1 h.2.2.2.2.2.2.2.2.1 h.2.2.2.2.2.2.2.2.2.1 h.2.2.2.2.2.2.2.2.2.2
  · exact f3 h.1 h.2.1 h.2.2.1 h.2.2.2.1 h.2.2.2.2.1 h.2.2.2.2.2.1 h.2.2.2.2.2.2.1 h.2.2.2.2.2.2.2.1 h.2.2.2.2.2.2.2.2.1 h.2.2.2.2.2.2.2.2.2.1 h.2.2.2.2.2.2.2.2.2.2
  · exact f4 h.1 h.2.1 h.2.2.1 h.2.2.2.1 h.2.2.2.2.1 h.2.2.2.2.2.1 h.2.2.2.2.2.2.1 h.2.2.2.2.2.2.2.1 h.2.2.2.2.2.2.2.2.1 h.2.2.2.2.2.2.2.2.2
  · exact f5 h.1 h.2.1 h.2.2.1 h.2.2.2.1 h.2.2.2.2.1 h.2.2.2.2.2.1 h.2.2.2.2.2.2.1 h.2.2.2.2.2.2.2.1 h.2.2.2.2.2.2.2.2.1 h.2.2.2.2.2.2.2.2.2
  · exact f6 h.1 h.2.1 h.2.2.1 h.2.2.2.1 h.2.2.2.2.1 h.2.2.2.2.2.1 h.2.2.2.2.2.2.1 h.2.2.2.2.2.2.2.1 h.2.2.2.2.2.2.2.2
  · exact f7 h.1 h.2.1 h.2.2.1 h.2.2.2.1 h.2.2.2.2.1 h.2.2.2.2.2.1 h.2.2.2.2.2.2
theorem iv1_0 {G : Int} {k : Nat} {pc : Int} {tp : Tok} {xa xb xc xd xe : Int} {ta tb tc td te : Tok} {turn : Int} {tt : Tok} {left : Value} (h0 : pc = 0) (h1 : Rg xa) (h2 : Rg xc) (h3 : 0 ≤ xb) (h4 : xb < 20) (h5 : xc * xa ^ xb.toNat % 65536 = G) (h6 : 0 ≤ turn) (h7 : turn ≤ k) (h8 : (left = .none ∨ ∃ ml tl, left = .int ml tl ∧ xb < ml)) (h9 : k + 7 * xb + 2 ≤ 200) : Iv1 G k ⟨pc, tp, xa, xb, xc, xd, xe, ta, tb, tc, td, te, turn, tt, left⟩ := Or.inl ⟨h0, h1, h2, h3, h4, h5, h6, h7, h8, h9⟩
theorem iv1_1 {G : Int} {k : Nat} {pc : Int} {tp : Tok} {xa xb xc xd xe : Int} {ta tb tc td te : Tok} {turn : Int} {tt : Tok} {left : Value} (h0 : pc = 2) (h1 : Rg xa) (h2 : Rg xc) (h3 : 1 ≤ xb) (h4 : xb < 20) (h5 : xc * xa ^ xb.toNat % 65536 = G) (h6 : 0 ≤ turn) (h7 : turn ≤ k) (h8 : (∃ tl, left = .int xb tl)) (h9 : k + 7 * xb + 1 ≤ 200) : Iv1 G k ⟨pc, tp, xa, xb, xc, xd, xe, ta, tb, tc, td, te, turn, tt, left⟩ := Or.inr (Or.inl ⟨h0, h1, h2, h3, h4, h5, h6, h7, h8, h9⟩)
theorem iv1_2 {G : Int} {k : Nat} {pc : Int} {tp : Tok} {xa xb xc xd xe : Int} {ta tb tc td te : Tok} {turn : Int} {tt : Tok} {left : Value} (h0 : pc = 3) (h1 : Rg xa) (h2 : Rg xc) (h3 : 1 ≤ xb) (h4 : xb < 20) (h5 : xd = xb % 2) (h6 : xc * xa ^ xb.toNat % 65536 = G) (h7 : 0 ≤ turn) (h8 : turn ≤ k) (h9 : (∃ tl, left = .int xb tl)) (h10 : k + 7 * xb ≤ 200) : Iv1 G k ⟨pc, tp, xa, xb, xc, xd, xe, ta, tb, tc, td, te, turn, tt, left⟩ := Or.inr (Or.inr (Or.inl ⟨h0, h1, h2, h3, h4, h5, h6, h7, h8, h9, h10⟩))
theorem iv1_3 {G : Int} {k : Nat} {pc : Int} {tp : Tok} {xa xb xc xd xe : Int} {ta tb tc td te : Tok} {turn : Int} {tt : Tok} {left : Value} (h0 : pc = 5) (h1 : Rg xa) (h2 : Rg xc) (h3 : 1 ≤ xb) (h4 : xb < 20) (h5 : xb % 2 ≠ 0) (h6 : xc * xa ^ xb.toNat % 65536 = G) (h7 : 0 ≤ turn) (h8 : turn ≤ k) (h9 : (∃ tl, left = .int xb tl)) (h10 : k + 7 * xb ≤ 201) : Iv1 G k ⟨pc, tp, xa, xb, xc, xd, xe, ta, tb, tc, td, te, turn, tt, left⟩ := Or.inr (Or.inr (Or.inr (Or.inl ⟨h0, h1, h2, h3, h4, h5, h6, h7, h8, h9, h10⟩)))
theorem iv1_4 {G : Int} {k : Nat} {pc : Int} {tp : Tok} {xa xb xc xd xe : Int} {ta tb tc td te : Tok} {turn : Int} {tt : Tok} {left : Value} (h0 : pc = 6) (h1 : Rg xa) (h2 : Rg xc) (h3 : 1 ≤ xb) (h4 : xb < 20) (h5 : xc * (wrp (xa * xa)) ^ (xb / 2).toNat % 65536 = G) (h6 : 0 ≤ turn) (h7 : turn ≤ k) (h8 : (∃ tl, left = .int xb tl)) (h9 : k + 7 * xb ≤ 202) : Iv1 G k ⟨pc, tp, xa, xb, xc, xd, xe, ta, tb, tc, td, te, turn, tt, left⟩ := Or.inr (Or.inr (Or.inr (Or.inr (Or.inl ⟨h0, h1, h2, h3, h4, h5, h6, h7, h8, h9⟩))))
theorem iv1_5 {G : Int} {k : Nat} {pc : Int} {tp : Tok} {xa xb xc xd xe : Int} {ta tb tc td te : Tok} {turn : Int} {tt : Tok} {left : Value} (h0 : pc = 7) (h1 : Rg xa) (h2 : Rg xc) (h3 : 1 ≤ xb) (h4 : xb < 20) (h5 : xc * xa ^ (xb / 2).toNat % 65536 = G) (h6 : 0 ≤ turn) (h7 : turn ≤ k) (h8 : (∃ tl, left = .int xb tl)) (h9 : k + 7 * xb ≤ 203) : Iv1 G k ⟨pc, tp, xa, xb, xc, xd, xe, ta, tb, tc, td, te, turn, tt, left⟩ := Or.inr (Or.inr (Or.inr (Or.inr (Or.inr (Or.inl ⟨h0, h1, h2, h3, h4, h5, h6, h7, h8, h9⟩)))))
theorem iv1_6 {G : Int} {k : Nat} {pc : Int} {tp : Tok} {xa xb xc xd xe : Int} {ta tb tc td te : Tok} {turn : Int} {tt : Tok} {left : Value} (h0 : pc = 8) (h1 : Rg xa) (h2 : Rg xc) (h3 : 0 ≤ xb) (h4 : xb < 20) (h5 : xc * xa ^ xb.toNat % 65536 = G) (h6 : 0 ≤ turn) (h7 : turn ≤ k) (h8 : (∃ ml tl, left = .int ml tl ∧ xb < ml ∧ ml < 20 ∧ k + 7 * ml ≤ 204)) : Iv1 G k ⟨pc, tp, xa, xb, xc, xd, xe, ta, tb, tc, td, te, turn, tt, left⟩ := Or.inr (Or.inr (Or.inr (Or.inr (Or.inr (Or.inr (Or.inl ⟨h0, h1, h2, h3, h4, h5, h6, h7, h8⟩))))))
theorem iv1_7 {G : Int} {k : Nat} {pc : Int} {tp : Tok} {xa xb xc xd xe : Int} {ta tb tc td te : Tok} {turn : Int} {tt : Tok} {left : Value} (h0 : pc = 9) (h1 : xb = 0) (h2 : Rg xc) (h3 : xc % 65536 = G) (h4 : 0 ≤ turn) (h5 : turn ≤ k) (h6 : k + 1 ≤ 200) : Iv1 G k ⟨pc, tp, xa, xb, xc, xd, xe, ta, tb, tc, td, te, turn, tt, left⟩ := Or.inr (Or.inr (Or.inr (Or.inr (Or.inr (Or.inr (Or.inr (⟨h0, h1, h2, h3, h4, h5, h6⟩)))))))
theorem done_1 {G : Int} : ∀ c, ¬ Iv1 G 200 c := by
  intro c h
  rcases h with h | h | h | h | h | h | ⟨_, _, _, _, _, _, _, _, _, _, _, _, _, _⟩ | h <;> omega
theorem plan_1 {w : World} {p : Program} {loose : List Str} {mean : ExcName → Option Value} {mg mb : Str → Option Value} {sp dsp ls lc lk lm dlm wk dwk f0 f1 f2 f3 f4 f5 c4 : Addr} {of oc : Obj} {ks0 ks1 ks2 ks3 ks4 ks5 ks6 ks7 ks8 kr kt z0 z1 z2 ka0 kb0 ka1 kb1 ka2 kb2 ka3 kb3 ka4 kb4 ka5 kb5 ka6 kb6 ka7 kb7 ka8 kb8 ka9 kb9 kw0 kw1 kw2 kw3 kw4 kw5 : Tok} {nc nk ns : Nat} {rest : List (Addr × Obj)} {q0 q1 q2 q3 q4 q5 q6 q7 q8 q9 : Tok} {lf : Addr} {g0 g1 g2 g3 : Int} {u0 u1 u2 u3 : Tok} (S : Sea w p loose mean mg mb sp dsp ls lc lk lm dlm wk dwk f0 f1 f2 f3 f4 f5 c4 of oc ks0 ks1 ks2 ks3 ks4 ks5 ks6 ks7 ks8 kr kt z0 z1 z2 ka0 kb0 ka1 kb1 ka2 kb2 ka3 kb3 ka4 kb4 ka5 kb5 ka6 kb6 ka7 kb7 ka8 kb8 ka9 kb9 kw0 kw1 kw2 kw3 kw4 kw5 nc nk ns [.int 12582999 q0, .int 2147581974 q1, .int 12599504 q2, .int 29360215 q3, .int 2147483670 q4, .int 16777358 q5, .int 14 q6, .int 12599375 q7, .int 2147319830 q8, .int 41943070 q9] rest) (hf : -10 ≤ g0 ∧ g0 ≤ 10 ∧ 0 ≤ g1 ∧ g1 < 20) : ∀ k c, Iv1 (g0 ^ g1.toNat % 65536) k c → k < 200 → Plan w p loose mean mg mb sp dsp ls lc lk lm wk ks0 ks1 ks2 ks3 ks4 ks5 ks6 ks7 ks8 kr kt ns rest lf [.int g0 u0, .int g1 u1, .int g2 u2, .int g3 u3] 1 0 (Iv1 (g0 ^ g1.toNat % 65536) (k + 1)) c := by
  intro k c hI hk
  obtain ⟨pc, tp, a, b, c, d, e, ta, tb, tc, td, te, turn, tt, left⟩ := c
  refine iv1_cases hI ?_ ?_ ?_ ?_ ?_ ?_ ?_ ?_
  · rintro rfl ha hc h3 h4 hg h5 h6 hl h7
    refine pl_head (b) rfl (h5) (by walk_at "om") (fun tk => ⟨tb, rfl⟩) (hl) (ra_1_0 (ra := a) (rb := b) (rc := c) (rd := d) (re := e) (tra := ta) (trb := tb) (trc := tc) (trd := td) (tre := te) S) (holds_1 hf ⟨ha.1, ha.2, h3, h4, hc.1, hc.2⟩ (holds1 hg)) ?_
    rintro pc' vs' tp' tt' tl' ⟨⟨e1, e2⟩, rfl⟩
    by_cases hb : b = 0
    · refine ⟨⟨pc', tp', a, b, c, d, e, ta, tb, tc, td, te, turn + 1, tt', .int b tl'⟩, rfl, rfl, rfl, rfl, rfl, rfl, ?_⟩
      refine iv1_7 (e1 hb) hb hc ?_ (by walk_at "om") (by walk_at "om") (by walk_at "om")
      rw [hb] at hg
      simpa using hg
    · refine ⟨⟨pc', tp', a, b, c, d, e, ta, tb, tc, td, te, turn + 1, tt', .int b tl'⟩, rfl, rfl, rfl, rfl, rfl, rfl, ?_⟩
      exact iv1_1 (e2 hb) ha hc (by walk_at "om") h4 hg (by walk_at "om") (by walk_at "om") ⟨tl', rfl⟩ (by walk_at "om")
  · rintro rfl ha hc h3 h4 hg h5 h6 ⟨tl, hl⟩ h7
    refine pl_away (show (2 : Int) ≠ 0 by decide) (ra_1_2 (ra := a) (rb := b) (rc := c) (rd := d) (re := e) (tra := ta) (trb := tb) (trc := tc) (trd := td) (tre := te) S ⟨by decide, by walk_at "om", by walk_at "om", by decide⟩) ?_
    rintro pc' vs' tp' ⟨rfl, v, tv, ev, rfl⟩
    rw [wrp_id (by walk_at "om") (by walk_at "om")] at ev
    refine ⟨⟨_, tp', a, b, c, v, e, ta, tb, tc, tv, te, turn, tt, left⟩, rfl, rfl, rfl, rfl, rfl, rfl, ?_⟩
    exact iv1_2 rfl ha hc h3 h4 ev hg h5 (by walk_at "om") ⟨tl, hl⟩ (by walk_at "om")
  · rintro rfl ha hc h3 h4 hd hg h5 h6 ⟨tl, hl⟩ h7
    refine pl_away (show (3 : Int) ≠ 0 by decide) (ra_1_3 (ra := a) (rb := b) (rc := c) (rd := d) (re := e) (tra := ta) (trb := tb) (trc := tc) (trd := td) (tre := te) S) ?_
    rintro pc' vs' tp' ⟨⟨e1, e2⟩, rfl⟩
    refine ⟨⟨pc', tp', a, b, c, d, e, ta, tb, tc, td, te, turn, tt, left⟩, rfl, rfl, rfl, rfl, rfl, rfl, ?_⟩
    by_cases hb : d = 0
    · exact iv1_4 (e1 hb) ha hc h3 h4 (pow_even (by walk_at "om") (by walk_at "om") hg) h5 (by walk_at "om") ⟨tl, hl⟩ (by walk_at "om")
    · exact iv1_3 (e2 hb) ha hc h3 h4 (by walk_at "om") hg h5 (by walk_at "om") ⟨tl, hl⟩ (by walk_at "om")
  · rintro rfl ha hc h3 h4 hd hg h5 h6 ⟨tl, hl⟩ h7
    refine pl_away (show (5 : Int) ≠ 0 by decide) (ra_1_5 (ra := a) (rb := b) (rc := c) (rd := d) (re := e) (tra := ta) (trb := tb) (trc := tc) (trd := td) (tre := te) S ⟨hc.1, hc.2, ha.1, ha.2⟩) ?_
    rintro pc' vs' tp' ⟨rfl, v, tv, ev, rfl⟩
    refine ⟨⟨_, tp', a, b, v, d, e, ta, tb, tv, td, te, turn, tt, left⟩, rfl, rfl, rfl, rfl, rfl, rfl, ?_⟩
    subst ev
    exact iv1_4 rfl ha (rg_wrp _) h3 h4 (pow_odd (by walk_at "om") hd hg) h5 (by walk_at "om") ⟨tl, hl⟩ (by walk_at "om")
  · rintro rfl ha hc h3 h4 hg h5 h6 ⟨tl, hl⟩ h7
    refine pl_away (show (6 : Int) ≠ 0 by decide) (ra_1_6 (ra := a) (rb := b) (rc := c) (rd := d) (re := e) (tra := ta) (trb := tb) (trc := tc) (trd := td) (tre := te) S ⟨ha.1, ha.2, ha.1, ha.2⟩) ?_
    rintro pc' vs' tp' ⟨rfl, v, tv, ev, rfl⟩
    refine ⟨⟨_, tp', v, b, c, d, e, tv, tb, tc, td, te, turn, tt, left⟩, rfl, rfl, rfl, rfl, rfl, rfl, ?_⟩
    subst ev
    exact iv1_5 rfl (rg_wrp _) hc h3 h4 hg h5 (by walk_at "om") ⟨tl, hl⟩ (by walk_at "om")
  · rintro rfl ha hc h3 h4 hg h5 h6 ⟨tl, hl⟩ h7
    refine pl_away (show (7 : Int) ≠ 0 by decide) (ra_1_7 (ra := a) (rb := b) (rc := c) (rd := d) (re := e) (tra := ta) (trb := tb) (trc := tc) (trd := td) (tre := te) S ⟨by walk_at "om", by decide, by walk_at "om", by decide⟩) ?_
    rintro pc' vs' tp' ⟨rfl, v, tv, ev, rfl⟩
    rw [wrp_id (by walk_at "om") (by walk_at "om")] at ev
    refine ⟨⟨_, tp', a, v, c, d, e, ta, tv, tc, td, te, turn, tt, left⟩, rfl, rfl, rfl, rfl, rfl, rfl, ?_⟩
    subst ev
    exact iv1_6 rfl ha hc (by walk_at "om") (by walk_at "om") hg h5 (by walk_at "om") ⟨b, tl, hl, by walk_at "om", by walk_at "om", by walk_at "om"⟩
  · rintro rfl ha hc h3 h4 hg h5 h6 ⟨ml, tl, hl, h8, h9, h7⟩
    refine pl_away (show (8 : Int) ≠ 0 by decide) (ra_1_8 (ra := a) (rb := b) (rc := c) (rd := d) (re := e) (tra := ta) (trb := tb) (trc := tc) (trd := td) (tre := te) S) ?_
    rintro pc' vs' tp' ⟨rfl, rfl⟩
    refine ⟨⟨_, tp', a, b, c, d, e, ta, tb, tc, td, te, turn, tt, left⟩, rfl, rfl, rfl, rfl, rfl, rfl, ?_⟩
    exact iv1_0 rfl ha hc h3 h4 hg h5 (by walk_at "om") (Or.inr ⟨ml, tl, hl, h8⟩) (by walk_at "om")
  · rintro rfl h1 hc hg h5 h6 h7
    exact pl_back (show (9 : Int) ≠ 0 by decide) (rb_1 (ra := a) (rb := b) (rc := c) (rd := d) (re := e) (tra := ta) (trb := tb) (trc := tc) (trd := td) (tre := te) S) (due_1 hf hc ⟨h1, hg⟩)
def In2 (g2 g3 x : Int) : Prop := (0 < g3 ∧ x ≤ g2) ∨ (g3 < 0 ∧ g2 ≤ x)
def Hf2 (g1 g2 g3 : Int) : Prop := -10 ≤ g1 ∧ g1 ≤ 10 ∧ ((0 < g3 ∧ g3 ≤ 4 ∧ g1 ≤ g2 ∧ g2 < g1 + 25) ∨ (g3 < 0 ∧ -4 ≤ g3 ∧ g2 ≤ g1 ∧ g1 - 25 < g2))
theorem le_mul1 {t s : Int} (h0 : 0 ≤ t) (hs : 1 ≤ s) : t ≤ t * s := by
  have := Int.mul_le_mul_of_nonneg_left hs h0; rwa [Int.mul_one] at this
theorem in2_a {g1 g2 t x : Int} (h0 : t ≤ x) (h1 : 0 ≤ t) (a : -10 ≤ g1) (b : g1 ≤ 10) (c : g2 < g1 + 25) (d : g1 + x ≤ g2) : t ≤ 24 ∧ -200 ≤ g1 + x ∧ g1 + x ≤ 200 := by omega
theorem in2_b {g1 g2 t x : Int} (h0 : t ≤ -x) (h1 : 0 ≤ t) (a : -10 ≤ g1) (b : g1 ≤ 10) (c : g1 - 25 < g2) (d : g2 ≤ g1 + x) : t ≤ 24 ∧ -200 ≤ g1 + x ∧ g1 + x ≤ 200 := by omega
theorem in2_le {g1 g2 g3 t : Int} (h : Hf2 g1 g2 g3) (h0 : 0 ≤ t) (hi : In2 g2 g3 (g1 + t * g3)) : t ≤ 24 ∧ -200 ≤ g1 + t * g3 ∧ g1 + t * g3 ≤ 200 := by
  obtain ⟨a, b, c⟩ := h
  rcases hi with ⟨p, q⟩ | ⟨p, q⟩
  · exact in2_a (le_mul1 h0 p) h0 a b (c.elim (fun x => x.2.2.2) fun x => absurd p (Int.lt_asymm x.1)) q
  · exact in2_b (by rw [← Int.mul_neg]; exact le_mul1 h0 (Int.neg_pos_of_neg p)) h0 a b (c.elim (fun x => absurd x.1 (Int.lt_asymm p)) fun x => x.2.2.2) q
theorem ediv_uniq {a s q : Int} (hs : 0 < s) (h1 : q * s ≤ a) (h2 : a < (q + 1) * s) : a / s = q :=
  Int.le_antisymm (Int.le_of_lt_add_one (Int.ediv_lt_of_lt_mul hs h2)) (Int.le_ediv_of_mul_le hs h1)
theorem fdiv_uniq {a s q : Int} (hs : 0 < s) (h1 : q * s ≤ a) (h2 : a < (q + 1) * s) : Int.fdiv a s = q := by
  rw [Int.fdiv_eq_ediv_of_nonneg _ (Int.le_of_lt hs)]; exact ediv_uniq hs h1 h2
theorem in2_div {g1 g2 g3 t : Int} (h : Hf2 g1 g2 g3) (h0 : 0 ≤ t) (hi : t = 0 ∨ In2 g2 g3 (g1 + (t - 1) * g3)) (hn : ¬ In2 g2 g3 (g1 + t * g3)) : t = Int.fdiv (g2 - g1) g3 + 1 := by
  obtain ⟨a, b, c⟩ := h
  unfold In2 at *
  rcases c with ⟨p, -, q, -⟩ | ⟨p, -, q, -⟩
  · have hn' : g2 < g1 + t * g3 := Int.not_le.mp fun x => hn (Or.inl ⟨p, x⟩)
    have ht : t ≠ 0 := by rintro rfl; rw [Int.zero_mul] at hn'; omega
    have hi' : g1 + (t - 1) * g3 ≤ g2 := (hi.resolve_left ht).elim (fun x => x.2) fun x => absurd p (Int.lt_asymm x.1)
    rw [fdiv_uniq (q := t - 1) p (by omega) (by rw [Int.sub_add_cancel]; omega)]; omega
  · have hn' : g1 + t * g3 < g2 := Int.not_le.mp fun x => hn (Or.inr ⟨p, x⟩)
    have ht : t ≠ 0 := by rintro rfl; rw [Int.zero_mul] at hn'; omega
    have hi' : g2 ≤ g1 + (t - 1) * g3 := (hi.resolve_left ht).elim (fun x => absurd x.1 (Int.lt_asymm p)) fun x => x.2
    rw [← Int.neg_fdiv_neg, fdiv_uniq (q := t - 1) (Int.neg_pos_of_neg p) (by rw [Int.mul_neg]; omega) (by rw [Int.sub_add_cancel, Int.mul_neg]; omega)]; omega
def Sm2 (g1 g3 t a : Int) : Prop := a = t * g1 + g3 * (t * (t - 1) / 2) ∧ -(200 * t) ≤ a ∧ a ≤ 200 * t
theorem sm2_step {g1 g3 t a : Int} (h : Sm2 g1 g3 t a) (h1 : -200 ≤ g1 + t * g3) (h2 : g1 + t * g3 ≤ 200) : Sm2 g1 g3 (t + 1) (a + (g1 + t * g3)) := by
  obtain ⟨ha, hb, hc⟩ := h
  refine ⟨?_, by walk_at "om", by walk_at "om"⟩
  rw [tri_step, ha, Int.add_mul, Int.mul_add, Int.one_mul, Int.mul_comm t g3]
  omega
def Iv2 (g1 g2 g3 : Int) (k : Nat) (c : LSt) : Prop :=
    (c.pc = 0 ∧ c.a = 0 ∧ c.b = g1 ∧ c.c = g2 ∧ c.d = g3 ∧ c.turn = 0 ∧ c.left = .none ∧ k = 0)
  ∨ (c.pc = 2 ∧ 0 ≤ c.turn ∧ c.turn ≤ 25 ∧ c.b = g1 + c.turn * g3 - g3 ∧ c.c = g2 ∧ c.d = g3 ∧ Sm2 g1 g3 c.turn c.a ∧ (c.turn = 0 ∨ In2 g2 g3 (g1 + (c.turn - 1) * g3)) ∧ (c.left = .none ∨ ∃ ml tl, c.left = .int ml tl ∧ 0 - c.turn < ml) ∧ k = 2 * c.turn + 1)
  ∨ (c.pc = 1 ∧ 0 ≤ c.turn ∧ c.turn ≤ 25 ∧ c.b = g1 + c.turn * g3 ∧ c.c = g2 ∧ c.d = g3 ∧ c.e = g1 + c.turn * g3 ∧ Sm2 g1 g3 c.turn c.a ∧ In2 g2 g3 (g1 + c.turn * g3) ∧ (c.left = .none ∨ ∃ ml tl, c.left = .int ml tl ∧ 0 - c.turn < ml) ∧ k = 2 * c.turn + 2)
  ∨ (c.pc = 3 ∧ 0 ≤ c.turn ∧ c.turn ≤ 25 ∧ Sm2 g1 g3 c.turn c.a ∧ c.turn = Int.fdiv (g2 - g1) g3 + 1 ∧ k = 2 * c.turn + 2)
theorem iv2_cases {P : Prop} {g1 g2 g3 : Int} {k : Nat} {pc : Int} {tp : Tok} {xa xb xc xd xe : Int} {ta tb tc td te : Tok} {turn : Int} {tt : Tok} {left : Value} (h : Iv2 g1 g2 g3 k ⟨pc, tp, xa, xb, xc, xd, xe, ta, tb, tc, td, te, turn, tt, left⟩)
    (f0 : pc = 0 → xa = 0 → xb = g1 → xc = g2 → xd = g3 → turn = 0 → left = .none → k = 0 → P)
    (f1 : pc = 2 → 0 ≤ turn → turn ≤ 25 → xb = g1 + turn * g3 - g3 → xc = g2 → xd = g3 → Sm2 g1 g3 turn xa → ((turn = 0 ∨ In2 g2 g3 (g1 + (turn - 1) * g3))) → ((left = .none ∨ ∃ ml tl, left = .int ml tl ∧ 0 - turn < ml)) → k = 2 * turn + 1 → P)
    (f2 : pc = 1 → 0 ≤ turn → turn ≤ 25 → xb = g1 + turn * g3 → xc = g2 → xd = g3 → xe = g1 + turn * g3 → Sm2 g1 g3 turn xa → In2 g2 g3 (g1 + turn * g3) → ((left = .none ∨ ∃ ml tl, left = .int ml tl ∧ 0 - turn < ml)) → k = 2 * turn + 2 → P)
    (f3 : pc = 3 → 0 ≤ turn → turn ≤ 25 → Sm2 g1 g3 turn xa → turn = Int.fdiv (g2 - g1) g3 + 1 → k = 2 * turn + 2 → P) : P := by
  rcases h with h | h | h | h
  · exact f0 h.1 h.2.1 h.2.2.1 h.2.2.2.1 h.2.2.2.2.1 h.2.2.2.2.2.1 h.2.2.2.2.2.2.1 h.2.2.2.2.2.2.2
  · exact f1 h.1 h.2.1 h.2.2.1 h.2.2.2.1 h.2.2.2.2.1 h.2.2.2.2.2.1 h.2.2.2.2.2.2.1 h.2.2.2.2.2.2.2.1 h.2.2.2.2.2.2.2.2.1 h.2.2.2.2.2.2.2.2.2
  · exact f2 h.1 h.2.1 h.2.2.1 h.2.2.2.1 h.2.2.2.2.1 h.2.2.2.2.2.1 h.2.2.2.2.2.2.1 h.2.2.2.2.2.2.2.1 h.2.2.2.2.2.2.2.2.1 h.2.2.2.2.2.2.2.2.2.1 h.2.2.2.2.2.2.2.2.2.2
  · exact f3 h.1 h.2.1 h.2.2.1 h.2.2.2.1 h.2.2.2.2.1 h.2.2.2.2.2
theorem iv2_0 {g1 g2 g3 : Int} {k : Nat} {pc : Int} {tp : Tok} {xa xb xc xd xe : Int} {ta tb tc td te : Tok} {turn : Int} {tt : Tok} {left : Value} (h0 : pc = 0) (h1 : xa = 0) (h2 : xb = g1) (h3 : xc = g2) (h4 : xd = g3) (h5 : turn = 0) (h6 : left = .none) (h7 : k = 0) : Iv2 g1 g2 g3 k ⟨pc, tp, xa, xb, xc, xd, xe, ta, tb, tc, td, te, turn, tt, left⟩ := Or.inl ⟨h0, h1, h2, h3, h4, h5, h6, h7⟩
theorem iv2_1 {g1 g2 g3 : Int} {k : Nat} {pc : Int} {tp : Tok} {xa xb xc xd xe : Int} {ta tb tc td te : Tok} {turn : Int} {tt : Tok} {left : Value} (h0 : pc = 2) (h1 : 0 ≤ turn) (h2 : turn ≤ 25) (h3 : xb = g1 + turn * g3 - g3) (h4 : xc = g2) (h5 : xd = g3) (h6 : Sm2 g1 g3 turn xa) (h7 : (turn = 0 ∨ In2 g2 g3 (g1 + (turn - 1) * g3))) (h8 : (left = .none ∨ ∃ ml tl, left = .int ml tl ∧ 0 - turn < ml)) (h9 : k = 2 * turn + 1) : Iv2 g1 g2 g3 k ⟨pc, tp, xa, xb, xc, xd, xe, ta, tb, tc, td, te, turn, tt, left⟩ := Or.inr (Or.inl ⟨h0, h1, h2, h3, h4, h5, h6, h7, h8, h9⟩)
theorem iv2_2 {g1 g2 g3 : Int} {k : Nat} {pc : Int} {tp : Tok} {xa xb xc xd xe : Int} {ta tb tc td te : Tok} {turn : Int} {tt : Tok} {left : Value} (h0 : pc = 1) (h1 : 0 ≤ turn) (h2 : turn ≤ 25) (h3 : xb = g1 + turn * g3) (h4 : xc = g2) (h5 : xd = g3) (h6 : xe = g1 + turn * g3) (h7 : Sm2 g1 g3 turn xa) (h8 : In2 g2 g3 (g1 + turn * g3)) (h9 : (left = .none ∨ ∃ ml tl, left = .int ml tl ∧ 0 - turn < ml)) (h10 : k = 2 * turn + 2) : Iv2 g1 g2 g3 k ⟨pc, tp, xa, xb, xc, xd, xe, ta, tb, tc, td, te, turn, tt, left⟩ := Or.inr (Or.inr (Or.inl ⟨h0, h1, h2, h3, h4, h5, h6, h7, h8, h9, h10⟩))
theorem iv2_3 {g1 g2 g3 : Int} {k : Nat} {pc : Int} {tp : Tok} {xa xb xc xd xe : Int} {ta tb tc td te : Tok} {turn : Int} {tt : Tok} {left : Value} (h0 : pc = 3) (h1 : 0 ≤ turn) (h2 : turn ≤ 25) (h3 : Sm2 g1 g3 turn xa) (h4 : turn = Int.fdiv (g2 - g1) g3 + 1) (h5 : k = 2 * turn + 2) : Iv2 g1 g2 g3 k ⟨pc, tp, xa, xb, xc, xd, xe, ta, tb, tc, td, te, turn, tt, left⟩ := Or.inr (Or.inr (Or.inr (⟨h0, h1, h2, h3, h4, h5⟩)))
theorem done_2 {g1 g2 g3 : Int} : ∀ c, ¬ Iv2 g1 g2 g3 200 c := by
  intro c h
  rcases h with ⟨_, _, _, _, _, _, _, h⟩ | ⟨_, _, _, _, _, _, _, _, _, h⟩ | ⟨_, _, _, _, _, _, _, _, _, _, h⟩ | ⟨_, _, _, _, _, h⟩ <;> omega
theorem plan_2 {w : World} {p : Program} {loose : List Str} {mean : ExcName → Option Value} {mg mb : Str → Option Value} {sp dsp ls lc lk lm dlm wk dwk f0 f1 f2 f3 f4 f5 c4 : Addr} {of oc : Obj} {ks0 ks1 ks2 ks3 ks4 ks5 ks6 ks7 ks8 kr kt z0 z1 z2 ka0 kb0 ka1 kb1 ka2 kb2 ka3 kb3 ka4 kb4 ka5 kb5 ka6 kb6 ka7 kb7 ka8 kb8 ka9 kb9 kw0 kw1 kw2 kw3 kw4 kw5 : Tok} {nc nk ns : Nat} {rest : List (Addr × Obj)} {q0 q1 q2 q3 : Tok} {lf : Addr} {g0 g1 g2 g3 : Int} {u0 u1 u2 u3 : Tok} (S : Sea w p loose mean mg mb sp dsp ls lc lk lm dlm wk dwk f0 f1 f2 f3 f4 f5 c4 of oc ks0 ks1 ks2 ks3 ks4 ks5 ks6 ks7 ks8 kr kt z0 z1 z2 ka0 kb0 ka1 kb1 ka2 kb2 ka3 kb3 ka4 kb4 ka5 kb5 ka6 kb6 ka7 kb7 ka8 kb8 ka9 kb9 kw0 kw1 kw2 kw3 kw4 kw5 nc nk ns [.int 2147483744 q0, .int 65548 q1, .int 2147434591 q2, .int 41943070 q3] rest) (hf : Hf2 g1 g2 g3) : ∀ k c, Iv2 g1 g2 g3 k c → k < 200 → Plan w p loose mean mg mb sp dsp ls lc lk lm wk ks0 ks1 ks2 ks3 ks4 ks5 ks6 ks7 ks8 kr kt ns rest lf [.int g0 u0, .int g1 u1, .int g2 u2, .int g3 u3] 2 1 (Iv2 g1 g2 g3 (k + 1)) c := by
  intro k c hI hk
  obtain ⟨pc, tp, a, b, c, d, e, ta, tb, tc, td, te, turn, tt, left⟩ := c
  have hfb : -10 ≤ g1 ∧ g1 ≤ 10 ∧ -4 ≤ g3 ∧ g3 ≤ 4 ∧ g3 ≠ 0 ∧ -100 ≤ g2 ∧ g2 ≤ 100 := by (unfold Hf2 at hf; omega)
  refine iv2_cases hI ?_ ?_ ?_ ?_
  · rintro rfl ha hb hc hd ht hl h7
    refine pl_away (show (0 : Int) ≠ 1 by decide) (ra_2_0 (ra := a) (rb := b) (rc := c) (rd := d) (re := e) (tra := ta) (trb := tb) (trc := tc) (trd := td) (tre := te) S) ?_
    rintro pc' vs' tp' ⟨rfl, v, tv, ty, tz, ev, rfl⟩
    rw [wrp_id (by walk_at "om") (by walk_at "om")] at ev
    refine ⟨⟨_, tp', a, v, c, d, e, ta, tv, ty, tz, te, turn, tt, left⟩, rfl, rfl, rfl, rfl, rfl, rfl, ?_⟩
    subst ha ht hl
    exact iv2_1 rfl (by walk_at "om") (by walk_at "om") (by ((try dsimp only); rw [Int.zero_mul]; omega)) hc hd ⟨by simp, by simp, by simp⟩ (Or.inl rfl) (Or.inl rfl) (by walk_at "om")
  · rintro rfl h0 h1 hb hc hd hs hi hl h7
    have hv : g1 + turn * g3 = b + d := by walk_at "om"
    have hbb : -300 ≤ b + d ∧ b + d ≤ 300 := by
      by_cases h8 : turn = 0
      · rw [h8, Int.zero_mul] at hb; omega
      · have h9 := in2_le hf (show 0 ≤ turn - 1 by walk_at "om") (hi.resolve_left h8)
        rw [Int.sub_mul, Int.one_mul] at h9
        omega
    refine pl_away (show (2 : Int) ≠ 1 by decide) (ra_2_2 (ra := a) (rb := b) (rc := c) (rd := d) (re := e) (tra := ta) (trb := tb) (trc := tc) (trd := td) (tre := te) S) ?_
    rintro pc' vs' tp' (⟨rfl, v, tv, tw, ev, hgo, rfl⟩ | ⟨rfl, ⟨v, ev, hgo⟩, rfl⟩)
    · rw [wrp_id (by walk_at "om") (by walk_at "om")] at ev
      subst hd hc
      have hin : In2 c d (g1 + turn * d) := by (unfold In2; omega)
      have h9 := in2_le hf h0 hin
      refine ⟨⟨_, tp', a, v, c, d, v, ta, tv, tc, td, tw, turn, tt, left⟩, rfl, rfl, rfl, rfl, rfl, rfl, ?_⟩
      exact iv2_2 rfl h0 (by walk_at "om") (by walk_at "om") rfl rfl (by walk_at "om") hs hin hl (by walk_at "om")
    · rw [wrp_id (by walk_at "om") (by walk_at "om")] at ev
      subst hd hc
      have hin : ¬ In2 c d (g1 + turn * d) := by (unfold In2; omega)
      refine ⟨⟨_, tp', a, b, c, d, e, ta, tb, tc, td, te, turn, tt, left⟩, rfl, rfl, rfl, rfl, rfl, rfl, ?_⟩
      exact iv2_3 rfl h0 h1 hs (in2_div hf h0 hi hin) (by walk_at "om")
  · rintro rfl h0 h1 hb hc hd he hs hi hl h7
    have h9 := in2_le hf h0 hi
    obtain ⟨hs1, hs2, hs3⟩ := id hs
    refine pl_head (0 - turn) rfl (h0) (by walk_at "om") (fun tk => ⟨tk, rfl⟩) (hl) (ra_2_1 (ra := a) (rb := b) (rc := c) (rd := d) (re := e) (tra := ta) (trb := tb) (trc := tc) (trd := td) (tre := te) S ⟨by walk_at "om", by walk_at "om", by walk_at "om", by walk_at "om"⟩) (holds_2 ⟨hfb.1, hfb.2.1, hfb.2.2.1, hfb.2.2.2.1⟩ ⟨by walk_at "om", by walk_at "om"⟩ hs1 he) ?_
    rintro pc' vs' tp' tt' tl' ⟨rfl, v, tv, ev, rfl⟩
    rw [wrp_id (by walk_at "om") (by walk_at "om")] at ev
    refine ⟨⟨_, tp', v, b, c, d, e, tv, tb, tc, td, te, turn + 1, tt', .int (0 - turn) tl'⟩, rfl, rfl, rfl, rfl, rfl, rfl, ?_⟩
    subst ev
    refine iv2_1 rfl (by walk_at "om") (by walk_at "om") ?_ hc hd ?_ (Or.inr ?_) (Or.inr ⟨0 - turn, tl', rfl, by walk_at "om"⟩) (by walk_at "om")
    · (try dsimp only); rw [Int.add_mul, Int.one_mul]; omega
    · (try dsimp only); rw [he]; exact sm2_step hs h9.2.1 h9.2.2
    · (try dsimp only); rw [Int.add_sub_cancel]; exact hi
  · rintro rfl h0 h1 hs hd h7
    exact pl_back (show (3 : Int) ≠ 1 by decide) (rb_2 (ra := a) (rb := b) (rc := c) (rd := d) (re := e) (tra := ta) (trb := tb) (trc := tc) (trd := td) (tre := te) S) (due_2 hfb ⟨h0, by walk_at "om"⟩ hd hs.1)
def Bd (t : Nat) (a b : Int) : Prop := (t = 0 ∧ a ≤ 2999 ∧ b = 0) ∨ (t = 1 ∧ a ≤ 299 ∧ b ≤ 9) ∨ (t = 2 ∧ a ≤ 29 ∧ b ≤ 99) ∨ (t = 3 ∧ a ≤ 2 ∧ b ≤ 999) ∨ (t = 4 ∧ a ≤ 0 ∧ b ≤ 9999)
theorem bd_step {t : Nat} {a b : Int} (h : Bd t a b) (h0 : 1 ≤ a) (hb : 0 ≤ b) : t ≤ 3 ∧ a ≤ 2999 ∧ b ≤ 999 ∧ Bd (t + 1) (a / 10) (b * 10 + a % 10) := by
  unfold Bd at *
  rcases h with h | h | h | h | h <;> omega
theorem bd_le {t : Nat} {a b : Int} (h : Bd t a b) : t ≤ 4 ∧ a ≤ 2999 ∧ b ≤ 9999 := by
  unfold Bd at *
  rcases h with h | h | h | h | h <;> omega
def Fg (g : Int) (t : Nat) (a b : Int) : Prop := a = g / 10 ^ t ∧ figs b t = (figs g t).reverse ∧ 0 ≤ a ∧ 0 ≤ b ∧ Bd t a b
theorem fg_step {g : Int} {t : Nat} {a b : Int} (h : Fg g t a b) (h0 : 1 ≤ a) : Fg g (t + 1) (a / 10) (b * 10 + a % 10) := by
  obtain ⟨h1, h2, h3, h4, h5⟩ := h
  refine ⟨?_, rev_step h1 h2, by walk_at "om", by walk_at "om", (bd_step h5 h0 h4).2.2.2⟩
  rw [h1, Int.pow_succ, Int.ediv_ediv_of_nonneg (by exact Int.pow_nonneg (by decide))]
def Iv3 (G : Int) (k : Nat) (c : LSt) : Prop :=
  ∃ t : Nat,
    (c.pc = 0 ∧ c.turn = t ∧ Fg G t c.a c.b ∧ (c.left = .none ∨ ∃ ml tl, c.left = .int ml tl ∧ c.a < ml) ∧ k = 6 * t)
  ∨ (c.pc = 2 ∧ c.turn = t + 1 ∧ Fg G t c.a c.b ∧ 1 ≤ c.a ∧ (∃ tl, c.left = .int c.a tl) ∧ k = 6 * t + 1)
  ∨ (c.pc = 3 ∧ c.turn = t + 1 ∧ Fg G t c.a c.b ∧ 1 ≤ c.a ∧ c.c = c.a % 10 ∧ (∃ tl, c.left = .int c.a tl) ∧ k = 6 * t + 2)
  ∨ (c.pc = 4 ∧ c.turn = t + 1 ∧ (∃ b, Fg G t c.a b ∧ c.b = b * 10) ∧ 1 ≤ c.a ∧ c.c = c.a % 10 ∧ (∃ tl, c.left = .int c.a tl) ∧ k = 6 * t + 3)
  ∨ (c.pc = 5 ∧ c.turn = t + 1 ∧ (∃ b, Fg G t c.a b ∧ c.b = b * 10 + c.a % 10) ∧ 1 ≤ c.a ∧ (∃ tl, c.left = .int c.a tl) ∧ k = 6 * t + 4)
  ∨ (c.pc = 6 ∧ c.turn = t + 1 ∧ Fg G (t + 1) c.a c.b ∧ (∃ ml tl, c.left = .int ml tl ∧ c.a < ml) ∧ k = 6 * t + 5)
  ∨ (c.pc = 7 ∧ c.turn = t + 1 ∧ Fg G t c.a c.b ∧ c.a = 0 ∧ k = 6 * t + 1)
theorem iv3_cases {P : Prop} {G : Int} {k : Nat} {pc : Int} {tp : Tok} {xa xb xc xd xe : Int} {ta tb tc td te : Tok} {turn : Int} {tt : Tok} {left : Value} (h : Iv3 G k ⟨pc, tp, xa, xb, xc, xd, xe, ta, tb, tc, td, te, turn, tt, left⟩)
    (f0 : ∀ t : Nat, pc = 0 → turn = t → Fg G t xa xb → ((left = .none ∨ ∃ ml tl, left = .int ml tl ∧ xa < ml)) → k = 6 * t → P)
    (f1 : ∀ t : Nat, pc = 2 → turn = t + 1 → Fg G t xa xb → 1 ≤ xa → ((∃ tl, left = .int xa tl)) → k = 6 * t + 1 → P)
    (f2 : ∀ t : Nat, pc = 3 → turn = t + 1 → Fg G t xa xb → 1 ≤ xa → xc = xa % 10 → ((∃ tl, left = .int xa tl)) → k = 6 * t + 2 → P)
    (f3 : ∀ t : Nat, pc = 4 → turn = t + 1 → ((∃ b, Fg G t xa b ∧ xb = b * 10)) → 1 ≤ xa → xc = xa % 10 → ((∃ tl, left = .int xa tl)) → k = 6 * t + 3 → P)
    (f4 : ∀ t : Nat, pc = 5 → turn = t + 1 → ((∃ b, Fg G t xa b ∧ xb = b * 10 + xa % 10)) → 1 ≤ xa → ((∃ tl, left = .int xa tl)) → k = 6 * t + 4 → P)
    (f5 : ∀ t : Nat, pc = 6 → turn = t + 1 → Fg G (t + 1) xa xb → ((∃ ml tl, left = .int ml tl ∧ xa < ml)) → k = 6 * t + 5 → P)
    (f6 : ∀ t : Nat, pc = 7 → turn = t + 1 → Fg G t xa xb → xa = 0 → k = 6 * t + 1 → P) : P := by
  obtain ⟨t, h⟩ := h
  rcases h with h | h | h | h | h | h | h
  · exact f0 t h.1 h.2.1 h.2.2.1 h.2.2.2.1 h.2.2.2.2
  · exact f1 t h.1 h.2.1 h.2.2.1 h.2.2.2.1 h.2.2.2.2.1 h.2.2.2.2.2
  · exact f2 t h.1 h.2.1 h.2.2.1 h.2.2.2.1 h.2.2.2.2.1 h.2.2.2.2.2.1 h.2.2.2.2.2.2
  · exact f3 t h.1 h.2.1 h.2.2.1 h.2.2.2.1 h.2.2.2.2.1 h.2.2.2.2.2.1 h.2.2.2.2.2.2
  · exact f4 t h.1 h.2.1 h.2.2.1 h.2.2.2.1 h.2.2.2.2.1 h.2.2.2.2.2
  · exact f5 t h.1 h.2.1 h.2.2.1 h.2.2.2.1 h.2.2.2.2
  · exact f6 t h.1 h.2.1 h.2.2.1 h.2.2.2.1 h.2.2.2.2
theorem iv3_0 {G : Int} {k : Nat} {pc : Int} {tp : Tok} {xa xb xc xd xe : Int} {ta tb tc td te : Tok} {turn : Int} {tt : Tok} {left : Value} (t : Nat) (h0 : pc = 0) (h1 : turn = t) (h2 : Fg G t xa xb) (h3 : (left = .none ∨ ∃ ml tl, left = .int ml tl ∧ xa < ml)) (h4 : k = 6 * t) : Iv3 G k ⟨pc, tp, xa, xb, xc, xd, xe, ta, tb, tc, td, te, turn, tt, left⟩ := ⟨t, Or.inl ⟨h0, h1, h2, h3, h4⟩⟩
theorem iv3_1 {G : Int} {k : Nat} {pc : Int} {tp : Tok} {xa xb xc xd xe : Int} {ta tb tc td te : Tok} {turn : Int} {tt : Tok} {left : Value} (t : Nat) (h0 : pc = 2) (h1 : turn = t + 1) (h2 : Fg G t xa xb) (h3 : 1 ≤ xa) (h4 : (∃ tl, left = .int xa tl)) (h5 : k = 6 * t + 1) : Iv3 G k ⟨pc, tp, xa, xb, xc, xd, xe, ta, tb, tc, td, te, turn, tt, left⟩ := ⟨t, Or.inr (Or.inl ⟨h0, h1, h2, h3, h4, h5⟩)⟩
theorem iv3_2 {G : Int} {k : Nat} {pc : Int} {tp : Tok} {xa xb xc xd xe : Int} {ta tb tc td te : Tok} {turn : Int} {tt : Tok} {left : Value} (t : Nat) (h0 : pc = 3) (h1 : turn = t + 1) (h2 : Fg G t xa xb) (h3 : 1 ≤ xa) (h4 : xc = xa % 10) (h5 : (∃ tl, left = .int xa tl)) (h6 : k = 6 * t + 2) : Iv3 G k ⟨pc, tp, xa, xb, xc, xd, xe, ta, tb, tc, td, te, turn, tt, left⟩ := ⟨t, Or.inr (Or.inr (Or.inl ⟨h0, h1, h2, h3, h4, h5, h6⟩))⟩
theorem iv3_3 {G : Int} {k : Nat} {pc : Int} {tp : Tok} {xa xb xc xd xe : Int} {ta tb tc td te : Tok} {turn : Int} {tt : Tok} {left : Value} (t : Nat) (h0 : pc = 4) (h1 : turn = t + 1) (h2 : (∃ b, Fg G t xa b ∧ xb = b * 10)) (h3 : 1 ≤ xa) (h4 : xc = xa % 10) (h5 : (∃ tl, left = .int xa tl)) (h6 : k = 6 * t + 3) : Iv3 G k ⟨pc, tp, xa, xb, xc, xd, xe, ta, tb, tc, td, te, turn, tt, left⟩ := ⟨t, Or.inr (Or.inr (Or.inr (Or.inl ⟨h0, h1, h2, h3, h4, h5, h6⟩)))⟩
theorem iv3_4 {G : Int} {k : Nat} {pc : Int} {tp : Tok} {xa xb xc xd xe : Int} {ta tb tc td te : Tok} {turn : Int} {tt : Tok} {left : Value} (t : Nat) (h0 : pc = 5) (h1 : turn = t + 1) (h2 : (∃ b, Fg G t xa b ∧ xb = b * 10 + xa % 10)) (h3 : 1 ≤ xa) (h4 : (∃ tl, left = .int xa tl)) (h5 : k = 6 * t + 4) : Iv3 G k ⟨pc, tp, xa, xb, xc, xd, xe, ta, tb, tc, td, te, turn, tt, left⟩ := ⟨t, Or.inr (Or.inr (Or.inr (Or.inr (Or.inl ⟨h0, h1, h2, h3, h4, h5⟩))))⟩
theorem iv3_5 {G : Int} {k : Nat} {pc : Int} {tp : Tok} {xa xb xc xd xe : Int} {ta tb tc td te : Tok} {turn : Int} {tt : Tok} {left : Value} (t : Nat) (h0 : pc = 6) (h1 : turn = t + 1) (h2 : Fg G (t + 1) xa xb) (h3 : (∃ ml tl, left = .int ml tl ∧ xa < ml)) (h4 : k = 6 * t + 5) : Iv3 G k ⟨pc, tp, xa, xb, xc, xd, xe, ta, tb, tc, td, te, turn, tt, left⟩ := ⟨t, Or.inr (Or.inr (Or.inr (Or.inr (Or.inr (Or.inl ⟨h0, h1, h2, h3, h4⟩)))))⟩
theorem iv3_6 {G : Int} {k : Nat} {pc : Int} {tp : Tok} {xa xb xc xd xe : Int} {ta tb tc td te : Tok} {turn : Int} {tt : Tok} {left : Value} (t : Nat) (h0 : pc = 7) (h1 : turn = t + 1) (h2 : Fg G t xa xb) (h3 : xa = 0) (h4 : k = 6 * t + 1) : Iv3 G k ⟨pc, tp, xa, xb, xc, xd, xe, ta, tb, tc, td, te, turn, tt, left⟩ := ⟨t, Or.inr (Or.inr (Or.inr (Or.inr (Or.inr (Or.inr (⟨h0, h1, h2, h3, h4⟩))))))⟩
theorem done_3 {G : Int} : ∀ c, ¬ Iv3 G 200 c := by
  rintro c ⟨t, h⟩
  rcases h with ⟨_, _, h, _, _⟩ | ⟨_, _, h, _, _⟩ | ⟨_, _, h, _, _⟩ | ⟨_, _, ⟨b, h, _⟩, _, _⟩ | ⟨_, _, ⟨b, h, _⟩, _, _⟩ | ⟨_, _, h, _, _⟩ | ⟨_, _, h, _, _⟩ <;> (have h9 := bd_le h.2.2.2.2; omega)
theorem plan_3 {w : World} {p : Program} {loose : List Str} {mean : ExcName → Option Value} {mg mb : Str → Option Value} {sp dsp ls lc lk lm dlm wk dwk f0 f1 f2 f3 f4 f5 c4 : Addr} {of oc : Obj} {ks0 ks1 ks2 ks3 ks4 ks5 ks6 ks7 ks8 kr kt z0 z1 z2 ka0 kb0 ka1 kb1 ka2 kb2 ka3 kb3 ka4 kb4 ka5 kb5 ka6 kb6 ka7 kb7 ka8 kb8 ka9 kb9 kw0 kw1 kw2 kw3 kw4 kw5 : Tok} {nc nk ns : Nat} {rest : List (Addr × Obj)} {q0 q1 q2 q3 q4 q5 q6 q7 : Tok} {lf : Addr} {g0 g1 g2 g3 : Int} {u0 u1 u2 u3 : Tok} (S : Sea w p loose mean mg mb sp dsp ls lc lk lm dlm wk dwk f0 f1 f2 f3 f4 f5 c4 of oc ks0 ks1 ks2 ks3 ks4 ks5 ks6 ks7 ks8 kr kt z0 z1 z2 ka0 kb0 ka1 kb1 ka2 kb2 ka3 kb3 ka4 kb4 ka5 kb5 ka6 kb6 ka7 kb7 ka8 kb8 ka9 kb9 kw0 kw1 kw2 kw3 kw4 kw5 nc nk ns [.int 4194391 q0, .int 2147549206 q1, .int 4227216 q2, .int 12615758 q3, .int 8421452 q4, .int 4227087 q5, .int 2147352598 q6, .int 41943070 q7] rest) (hf : 0 ≤ g0 ∧ g0 < 3000) : ∀ k c, Iv3 g0 k c → k < 200 → Plan w p loose mean mg mb sp dsp ls lc lk lm wk ks0 ks1 ks2 ks3 ks4 ks5 ks6 ks7 ks8 kr kt ns rest lf [.int g0 u0, .int g1 u1, .int g2 u2, .int g3 u3] 3 0 (Iv3 g0 (k + 1)) c := by
  intro k c hI hk
  obtain ⟨pc, tp, a, b, c, d, e, ta, tb, tc, td, te, turn, tt, left⟩ := c
  refine iv3_cases hI ?_ ?_ ?_ ?_ ?_ ?_ ?_
  · rintro t rfl ht hg hl h7
    have hB := bd_le hg.2.2.2.2
    obtain ⟨hg1, hg2, ha0, hb0, hbd⟩ := id hg
    have e9 : turn.toNat = t := by walk_at "om"
    refine pl_head (a) rfl (by walk_at "om") (by walk_at "om") (fun tk => ⟨ta, rfl⟩) (hl) (ra_3_0 (ra := a) (rb := b) (rc := c) (rd := d) (re := e) (tra := ta) (trb := tb) (trc := tc) (trd := td) (tre := te) S) (holds_3 hf ⟨ha0, by walk_at "om", hb0, by walk_at "om"⟩ ⟨by walk_at "om", by walk_at "om"⟩ (by rw [e9]; exact holds3 hg1 hg2)) ?_
    rintro pc' vs' tp' tt' tl' ⟨⟨e1, e2⟩, rfl⟩
    by_cases hb : a = 0
    · refine ⟨⟨pc', tp', a, b, c, d, e, ta, tb, tc, td, te, turn + 1, tt', .int a tl'⟩, rfl, rfl, rfl, rfl, rfl, rfl, ?_⟩
      exact iv3_6 t (e1 hb) (by walk_at "om") hg hb (by walk_at "om")
    · refine ⟨⟨pc', tp', a, b, c, d, e, ta, tb, tc, td, te, turn + 1, tt', .int a tl'⟩, rfl, rfl, rfl, rfl, rfl, rfl, ?_⟩
      exact iv3_1 t (e2 hb) (by walk_at "om") hg (by walk_at "om") ⟨tl', rfl⟩ (by walk_at "om")
  · rintro t rfl ht hg h1 ⟨tl, hl⟩ h7
    have hB := bd_le hg.2.2.2.2
    obtain ⟨hg1, hg2, ha0, hb0, hbd⟩ := id hg
    refine pl_away (show (2 : Int) ≠ 0 by decide) (ra_3_2 (ra := a) (rb := b) (rc := c) (rd := d) (re := e) (tra := ta) (trb := tb) (trc := tc) (trd := td) (tre := te) S ⟨by decide, by walk_at "om", by walk_at "om", by decide⟩) ?_
    rintro pc' vs' tp' ⟨rfl, v, tv, ev, rfl⟩
    rw [wrp_id (by walk_at "om") (by walk_at "om")] at ev
    refine ⟨⟨_, tp', a, b, v, d, e, ta, tb, tv, td, te, turn, tt, left⟩, rfl, rfl, rfl, rfl, rfl, rfl, ?_⟩
    exact iv3_2 t rfl ht hg h1 ev ⟨tl, hl⟩ (by walk_at "om")
  · rintro t rfl ht hg h1 hc ⟨tl, hl⟩ h7
    have hB := bd_le hg.2.2.2.2
    obtain ⟨hg1, hg2, ha0, hb0, hbd⟩ := id hg
    have h9 := bd_step hbd h1 hb0
    refine pl_away (show (3 : Int) ≠ 0 by decide) (ra_3_3 (ra := a) (rb := b) (rc := c) (rd := d) (re := e) (tra := ta) (trb := tb) (trc := tc) (trd := td) (tre := te) S ⟨by walk_at "om", by walk_at "om", by decide, by decide⟩) ?_
    rintro pc' vs' tp' ⟨rfl, v, tv, ev, rfl⟩
    rw [wrp_id (by walk_at "om") (by walk_at "om")] at ev
    refine ⟨⟨_, tp', a, v, c, d, e, ta, tv, tc, td, te, turn, tt, left⟩, rfl, rfl, rfl, rfl, rfl, rfl, ?_⟩
    exact iv3_3 t rfl ht ⟨b, hg, ev⟩ h1 hc ⟨tl, hl⟩ (by walk_at "om")
  · rintro t rfl ht ⟨b0, hg, hb⟩ h1 hc ⟨tl, hl⟩ h7
    have hB := bd_le hg.2.2.2.2
    obtain ⟨hg1, hg2, ha0, hb0, hbd⟩ := id hg
    have h9 := bd_step hbd h1 hb0
    refine pl_away (show (4 : Int) ≠ 0 by decide) (ra_3_4 (ra := a) (rb := b) (rc := c) (rd := d) (re := e) (tra := ta) (trb := tb) (trc := tc) (trd := td) (tre := te) S ⟨by walk_at "om", by walk_at "om", by walk_at "om", by walk_at "om"⟩) ?_
    rintro pc' vs' tp' ⟨rfl, v, tv, ev, rfl⟩
    rw [wrp_id (by walk_at "om") (by walk_at "om")] at ev
    refine ⟨⟨_, tp', a, v, c, d, e, ta, tv, tc, td, te, turn, tt, left⟩, rfl, rfl, rfl, rfl, rfl, rfl, ?_⟩
    exact iv3_4 t rfl ht ⟨b0, hg, by walk_at "om"⟩ h1 ⟨tl, hl⟩ (by walk_at "om")
  · rintro t rfl ht ⟨b0, hg, hb⟩ h1 ⟨tl, hl⟩ h7
    have hB := bd_le hg.2.2.2.2
    obtain ⟨hg1, hg2, ha0, hb0, hbd⟩ := id hg
    have h9 := bd_step hbd h1 hb0
    refine pl_away (show (5 : Int) ≠ 0 by decide) (ra_3_5 (ra := a) (rb := b) (rc := c) (rd := d) (re := e) (tra := ta) (trb := tb) (trc := tc) (trd := td) (tre := te) S ⟨by walk_at "om", by decide, by walk_at "om", by decide⟩) ?_
    rintro pc' vs' tp' ⟨rfl, v, tv, ev, rfl⟩
    rw [wrp_id (by walk_at "om") (by walk_at "om")] at ev
    refine ⟨⟨_, tp', v, b, c, d, e, tv, tb, tc, td, te, turn, tt, left⟩, rfl, rfl, rfl, rfl, rfl, rfl, ?_⟩
    subst ev hb
    exact iv3_5 t rfl ht (fg_step hg h1) ⟨a, tl, hl, by walk_at "om"⟩ (by walk_at "om")
  · rintro t rfl ht hg ⟨ml, tl, hl, hm⟩ h7
    have hB := bd_le hg.2.2.2.2
    obtain ⟨hg1, hg2, ha0, hb0, hbd⟩ := id hg
    refine pl_away (show (6 : Int) ≠ 0 by decide) (ra_3_6 (ra := a) (rb := b) (rc := c) (rd := d) (re := e) (tra := ta) (trb := tb) (trc := tc) (trd := td) (tre := te) S) ?_
    rintro pc' vs' tp' ⟨rfl, rfl⟩
    refine ⟨⟨_, tp', a, b, c, d, e, ta, tb, tc, td, te, turn, tt, left⟩, rfl, rfl, rfl, rfl, rfl, rfl, ?_⟩
    exact iv3_0 (t + 1) rfl (by walk_at "om") hg (Or.inr ⟨ml, tl, hl, hm⟩) (by walk_at "om")
  · rintro t rfl ht hg h1 h7
    have hB := bd_le hg.2.2.2.2
    obtain ⟨hg1, hg2, ha0, hb0, hbd⟩ := id hg
    have e9 : (turn - 1).toNat = t := by walk_at "om"
    exact pl_back (show (7 : Int) ≠ 0 by decide) (rb_3 (ra := a) (rb := b) (rc := c) (rd := d) (re := e) (tra := ta) (trb := tb) (trc := tc) (trd := td) (tre := te) S) (due_3 hf ⟨h1, hb0, by walk_at "om"⟩ ⟨by walk_at "om", by walk_at "om"⟩ (by rw [e9, hg2, List.reverse_reverse]))
theorem w_H_1 : True := by
  k_with_none
  trivial
theorem lt_up {news : List (Addr × Obj)} {a b : Addr} (h : ∀ p ∈ news, p.1 < a) (l : a < b) : ∀ p ∈ news, p.1 < b := fun p hp => Nat.lt_trans (h p hp) l
theorem news_dup {h₀ h : Heap} {L : Addr} {x : Addr × Obj} {T : List (Addr × Obj)} (N : News h₀ L h T) (hm : x ∈ T) : News h₀ L h (x :: T) := kst_newsOf N (sub_cons hm fun _ hp => hp)
theorem news_ord {h₀ h : Heap} {L : Addr} {u l x d : Addr × Obj} {T : List (Addr × Obj)} (N : News h₀ L h (u :: l :: x :: d :: T)) : News h₀ L h (d :: l :: x :: T) := kst_newsOf N (by
  intro p hp; simp only [List.mem_cons] at hp ⊢; rcases hp with h | h | h | h <;> simp [h])
theorem off_new {d x ls : Addr} {o : Obj} {T : List (Addr × Obj)} (l1 : ∀ p ∈ T, p.1 < d) (l2 : d < x) (l3 : x < ls) : OwnOff ((x, o) :: T) [d, ls] := by
  intro p hp q hq
  simp only [List.mem_cons, List.not_mem_nil, or_false] at hp hq
  rcases hp with rfl | hp
  · rcases hq with rfl | rfl
    · exact Nat.ne_of_gt l2
    · exact Nat.ne_of_lt l3
  · rcases hq with rfl | rfl
    · exact Nat.ne_of_lt (l1 p hp)
    · exact Nat.ne_of_lt (Nat.lt_trans (l1 p hp) (Nat.lt_trans l2 l3))
theorem lawworks_use {w : World} {p : Program} {loose : List Str} {mean : ExcName → Option Value} {mg mb : Str → Option Value} {dp un : Nat} {gd : Option (List Code)} {cn : Str} {nms : List (Str × NameKind)} {ig ic : Bool} {mo : List (Str × Const)} {a : Addr} {ccd : Value} {cl : List (Str × Addr)} {outer : List Env} {A₀ : Around} {base h₀ : Heap} {L : Addr} {m : Str → Option Value} {s : Shared} {Q E : Value → Shared → Prop} {news : List (Addr × Obj)}
    (B : Below A₀ base outer h₀) (F : Fr h₀ L s.heap m) (X : (hd.heap_1 w.params).In h₀) (N : News h₀ L s.heap (news)) (T : Top p loose mean mg mb h₀) (hdp : dp + 20 < recursionLimit) (hun : un + 200 < cLine)
    (C : CodeHd base (539, 535).fst (539, 535).snd) (hl : news.getLast? = some (535, tabObj #[])) (hoff : ∀ p ∈ news.dropLast, p.1 ≠ 535)
    (hret : ∀ (x dx f0 f1 f2 f3 f4 f5 c4 : Addr) (of oc : Obj) (ka0 ka1 ka2 ka3 ka4 ka5 : Tok) (ps : Array Value) (h' : Heap) (tk' : Nat), CodeOf of c4 → CmpTells w p loose mean mg mb f4 c4 of oc → Fr h₀ L h' m → News h₀ L h' ((x, instObj 417 dx) :: (dx, dictOf [⟨PyData.keyHash w.params (Str.ofString "new_table"), .str (Str.ofString "new_table") ka0, .ref f0⟩, ⟨PyData.keyHash w.params (Str.ofString "index"), .str (Str.ofString "index") ka1, .ref f1⟩, ⟨PyData.keyHash w.params (Str.ofString "put"), .str (Str.ofString "put") ka2, .ref f2⟩, ⟨PyData.keyHash w.params (Str.ofString "length"), .str (Str.ofString "length") ka3, .ref f3⟩, ⟨PyData.keyHash w.params (Str.ofString "compared"), .str (Str.ofString "compared") ka4, .ref f4⟩, ⟨PyData.keyHash w.params (Str.ofString "called"), .str (Str.ofString "called") ka5, .ref f5⟩] 6) :: (f4, of) :: (c4, oc) :: (535, tabObj ps) :: news.dropLast) → Q (.ref x) { s with heap := h', toks := tk' }) :
    wpAny (model PySem.Challenge.rw_tk0059_01.row.prog w) (ktrTop dp un gd cn (Scope.mk ScopeKind.function nms ig ic mo) L a ccd cl outer) (call (.ref 540) []) Q E s := by
  have e : news.dropLast ++ [(535, tabObj #[])] = news := by
    rcases List.eq_nil_or_concat news with h | ⟨l, x, h⟩
    · rw [h] at hl; simp at hl
    · rw [h] at hl ⊢
      rw [List.concat_eq_append, List.getLast?_append, List.getLast?_singleton] at hl
      simp at hl
      simp [hl]
  refine lawworks_ok (rest := news.dropLast) B F X (kst_newsOf N ?_) T hdp hun C ?_ hret
  · intro p hp
    rw [← e]
    rcases List.mem_cons.mp hp with rfl | hp
    · exact List.mem_append_right _ (List.mem_singleton.mpr rfl)
    · exact List.mem_append_left _ hp
  · intro p hp q hq
    rw [List.mem_singleton.mp hq]
    exact hoff p hp

theorem w_H_2 : True := by
  k_with "eval Call" => ((with_reducible show wpAny _ _ (eval (Expr.Call (Expr.Name _ _) _ [] _) _) _ _ _); k_dflt (refine Call_ ?_))
  k_with "callWith ref" => (k_here; (first | (with_reducible show wpAny _ _ (callWith _ (Value.ref 519) _ _ _) _ _ _) | (with_reducible show wpAny _ _ (callWith _ (Value.ref 554) _ _ _) _ _ _) | (with_reducible show wpAny _ _ (callWith _ (Value.ref 547) _ _ _) _ _ _) | (with_reducible show wpAny _ _ (callWith _ (Value.ref 540) _ _ _) _ _ _) | (with_reducible show wpAny _ _ (callWith _ (Value.ref 508) _ _ _) _ _ _) | (with_reducible show wpAny _ _ (callWith _ (Value.ref 95) _ _ _) _ _ _) | (with_reducible show wpAny _ _ (callWith _ (Value.ref 582) _ _ _) _ _ _) | (with_reducible show wpAny _ _ (callWith _ (Value.ref 589) _ _ _) _ _ _) | (with_reducible show wpAny _ _ (callWith _ (Value.ref 442) _ _ _) _ _ _) | (with_reducible show wpAny _ _ (callWith _ (Value.ref 561) _ _ _) _ _ _) | (with_reducible show wpAny _ _ (callWith _ (Value.ref 568) _ _ _) _ _ _) | (with_reducible show wpAny _ _ (callWith _ (Value.ref 575) _ _ _) _ _ _)); k_dflt (first | refine' callWith_K ?k1 ?k2 ?_; (case k1 => k_asm); (case k2 => k_is); k_whole | refine' callWith_K0 ?k1 ?k2 ?_; (case k1 => k_in); (case k2 => k_is); k_whole | refine' callWith_KW0 ?k1 ?k2 ?k3 ?_; (case k1 => k_in); (case k2 => k_is); (case k3 => exact rfl); k_whole))
  k_with "binaryOp Mult ref int" => (k_here; (with_reducible show wpAny _ _ (binaryOp Operator.Mult (Value.ref _) (Value.int _ _)) _ _ _); k_dflt (refine' KMa.mul ?F ?N ?l ?lo ?hi ?z ?e ?_; (case F => k_asm); (case N => k_asm); (case l => exact News.isList (by k_asm) (by k_mem)); (case lo => first | omega | decide); (case hi => first | omega | decide); (case z => (simp only [List.length_cons, List.length_nil]; decide)); (case e => (simp only [Int.reduceToNat, List.replicate_succ, List.replicate_zero, List.flatten_cons, List.flatten_nil, List.cons_append, List.nil_append, List.append_nil]; first | done | exact rfl)); k_whole); intro D' h' F' N' l1; (try k_lt l1); (try k_sweep))
  k_with "binaryOp Add ref ref" => (k_here; (with_reducible show wpAny _ _ (binaryOp _ (Value.ref _) (Value.ref _)) _ _ _); k_dflt (refine' kmk_add_lit ?F ?N ?a ?b ?e ?_ ?z; (case F => k_asm); (case N => k_asm); (case a => exact News.isList (by k_asm) (by k_mem)); (case b => exact News.isList (by k_asm) (by k_mem)); (case e => exact rfl); (case z => exact Nat.le_of_ble_eq_true rfl)); intro D' h' F' N' l1; (try k_lt l1); (try k_sweep))
  k_with "call ref" => (k_here; (with_reducible show wpAny _ _ (call (Value.ref 95) [] _) _ _ _); k_dflt (refine' limits_ok ?B ?F ?X ?N ?T ?hdp ?hun  ?_; (case B => k_asm); (case F => k_asm); (case X => k_asm); (case N => k_asm); (case T => k_asm); (case hdp => ktr_room); (case hun => ktr_units); k_whole); intro x9 d9 t90 t91 t92 t93 t94 t95 t96 t97 t98 t99 t910 t911 t912 t913 t914 t915 t916 t917 t918 t919 h9 tk9 l1 l2 F9 N9; (have l3 := lt_up l1 l2); (try k_lt l1); (try k_lt l3); (try dsimp only); (try k_sweep); (try k_fold))
  k_with "call ref" => (k_here; k_dflt (show wpAny _ _ (call (Value.ref 540) []) _ _ _); k_dflt (refine' lawworks_use ?B ?F ?X ?N ?T ?hdp ?hun ?C ?hl ?hoff ?_; (case B => k_asm); (case F => k_asm); (case X => k_asm); (case N => k_asm); (case T => k_asm); (case hdp => ktr_room); (case hun => ktr_units); (case C => assumption); (case hl => exact rfl); (case hoff => (intro p hp; (try dsimp only [List.dropLast] at hp); simp only [List.mem_cons, List.not_mem_nil, or_false] at hp; rcases hp with hpq | hpq | hpq | hpq | hpq | hpq | hpq | hpq | hpq | hpq | hpq | hpq <;> (subst hpq; exact Nat.ne_of_gt (by assumption)))); k_whole); intro x9 d9 f90 f91 f92 f93 f94 f95 c94 of9 oc9 t90 t91 t92 t93 t94 t95 h9 tk9 Cd9 Cm9 F9 N9; (try dsimp only [List.dropLast] at N9); (try dsimp only); (try k_sweep); (try k_fold))
  k_with "call ref nil" => (k_here; k_dflt (show wpAny _ _ (call (Value.ref 540) []) _ _ _); k_dflt (refine' lawworks_use ?B ?F ?X ?N ?T ?hdp ?hun ?C ?hl ?hoff ?_; (case B => k_asm); (case F => k_asm); (case X => k_asm); (case N => k_asm); (case T => k_asm); (case hdp => ktr_room); (case hun => ktr_units); (case C => assumption); (case hl => exact rfl); (case hoff => (intro p hp; (try dsimp only [List.dropLast] at hp); simp only [List.mem_cons, List.not_mem_nil, or_false] at hp; rcases hp with hpq | hpq | hpq | hpq | hpq | hpq | hpq | hpq | hpq | hpq | hpq | hpq <;> (subst hpq; exact Nat.ne_of_gt (by assumption)))); k_whole); intro x9 d9 f90 f91 f92 f93 f94 f95 c94 of9 oc9 t90 t91 t92 t93 t94 t95 h9 tk9 Cd9 Cm9 F9 N9; (try dsimp only [List.dropLast] at N9); (try dsimp only); (try k_sweep); (try k_fold))
  k_with "call ref" => (k_here; (with_reducible show wpAny _ _ (call (Value.ref 508) [Value.ref _, Value.ref _, Value.ref _, Value.ref _, Value.ref _]) _ _ _); k_dflt (refine' stepper_new ?B ?F ?X ?N ?T ?hdp ?hun  ?_; (case B => k_asm); (case F => k_asm); (case X => k_asm); (case N => k_asm); (case T => k_asm); (case hdp => ktr_room); (case hun => ktr_units); k_whole); intro x9 d9 ls9 t90 t91 t92 t93 t94 t95 t96 t97 t98 t99 t910 t911 h9 tk9 l1 l2 l3 F9 N9; (try dsimp only); (try k_sweep); (try k_fold))
  k_with "call ref" => (k_here; (with_reducible show wpAny _ _ (call (Value.ref 554) [Value.int 0 _, Value.ref _]) _ _ _); k_dflt (refine' begun_0 ?B ?F ?X ?N ?T ?hdp ?hun ?hi ?hfit ?hc ?hoff ?_; (case B => k_asm); (case F => k_asm); (case X => k_asm); (case N => k_asm); (case T => k_asm); (case hdp => ktr_room); (case hun => ktr_units); (case hi => first | assumption | l_ints); (case hfit => first | assumption | omega | (simp; omega)); (case hc => assumption); (case hoff => (intro p hp q hq; simp only [List.mem_singleton] at hp hq; subst hp; subst hq; first | exact Nat.ne_of_lt (by assumption) | (show (535 : Nat) ≠ _; omega))); k_whole); intro q9 v90 v91 v92 v93 k9 t90 t91 t92 t93 t94 h9 tk9 b9 l9 F9 N9; (try k_lt l9); (try dsimp only at N9); (try dsimp only); (try k_sweep); (try k_fold))
  k_with "call ref" => (k_here; (with_reducible show wpAny _ _ (call (Value.ref 547) [Value.int 0 _]) _ _ _); k_dflt (refine' code_0 ?B ?F ?X ?N ?T ?hdp ?hun  ?_; (case B => k_asm); (case F => k_asm); (case X => k_asm); (case N => k_asm); (case T => k_asm); (case hdp => ktr_room); (case hun => ktr_units); k_whole); intro q9 w9 t90 t91 t92 t93 t94 t95 t96 th9 h9 tk9 l9 l8 F9 N9; (have l7 := lt_up l9 l8); (try k_lt l9); (try k_lt l7); (try dsimp only); (try k_sweep); (try k_fold))
  k_with "call ref" => (k_here; (with_reducible show wpAny _ _ (call (Value.ref 554) [Value.int 1 _, Value.ref _]) _ _ _); k_dflt (refine' begun_1 ?B ?F ?X ?N ?T ?hdp ?hun ?hi ?hfit ?hc ?hoff ?_; (case B => k_asm); (case F => k_asm); (case X => k_asm); (case N => k_asm); (case T => k_asm); (case hdp => ktr_room); (case hun => ktr_units); (case hi => first | assumption | l_ints); (case hfit => first | assumption | omega | (simp; omega)); (case hc => assumption); (case hoff => (intro p hp q hq; simp only [List.mem_singleton] at hp hq; subst hp; subst hq; first | exact Nat.ne_of_lt (by assumption) | (show (535 : Nat) ≠ _; omega))); k_whole); intro q9 v90 v91 v92 v93 k9 t90 t91 t92 t93 t94 h9 tk9 b9 l9 F9 N9; (try k_lt l9); (try dsimp only at N9); (try dsimp only); (try k_sweep); (try k_fold))
  k_with "call ref" => (k_here; (with_reducible show wpAny _ _ (call (Value.ref 547) [Value.int 1 _]) _ _ _); k_dflt (refine' code_1 ?B ?F ?X ?N ?T ?hdp ?hun  ?_; (case B => k_asm); (case F => k_asm); (case X => k_asm); (case N => k_asm); (case T => k_asm); (case hdp => ktr_room); (case hun => ktr_units); k_whole); intro q9 w9 t90 t91 t92 t93 t94 t95 t96 t97 t98 t99 th9 h9 tk9 l9 l8 F9 N9; (have l7 := lt_up l9 l8); (try k_lt l9); (try k_lt l7); (try dsimp only); (try k_sweep); (try k_fold))
  k_with "call ref" => (k_here; (with_reducible show wpAny _ _ (call (Value.ref 554) [Value.int 2 _, Value.ref _]) _ _ _); k_dflt (refine' begun_2 ?B ?F ?X ?N ?T ?hdp ?hun ?hi ?hfit ?hc ?hoff ?_; (case B => k_asm); (case F => k_asm); (case X => k_asm); (case N => k_asm); (case T => k_asm); (case hdp => ktr_room); (case hun => ktr_units); (case hi => first | assumption | l_ints); (case hfit => first | assumption | omega | (simp; omega)); (case hc => assumption); (case hoff => (intro p hp q hq; simp only [List.mem_singleton] at hp hq; subst hp; subst hq; first | exact Nat.ne_of_lt (by assumption) | (show (535 : Nat) ≠ _; omega))); k_whole); intro q9 v90 v91 v92 v93 k9 t90 t91 t92 t93 t94 h9 tk9 b9 l9 F9 N9; (try k_lt l9); (try dsimp only at N9); (try dsimp only); (try k_sweep); (try k_fold))
  k_with "call ref" => (k_here; (with_reducible show wpAny _ _ (call (Value.ref 547) [Value.int 2 _]) _ _ _); k_dflt (refine' code_2 ?B ?F ?X ?N ?T ?hdp ?hun  ?_; (case B => k_asm); (case F => k_asm); (case X => k_asm); (case N => k_asm); (case T => k_asm); (case hdp => ktr_room); (case hun => ktr_units); k_whole); intro q9 w9 t90 t91 t92 t93 th9 h9 tk9 l9 l8 F9 N9; (have l7 := lt_up l9 l8); (try k_lt l9); (try k_lt l7); (try dsimp only); (try k_sweep); (try k_fold))
  k_with "call ref" => (k_here; (with_reducible show wpAny _ _ (call (Value.ref 554) [Value.int 3 _, Value.ref _]) _ _ _); k_dflt (refine' begun_3 ?B ?F ?X ?N ?T ?hdp ?hun ?hi ?hfit ?hc ?hoff ?_; (case B => k_asm); (case F => k_asm); (case X => k_asm); (case N => k_asm); (case T => k_asm); (case hdp => ktr_room); (case hun => ktr_units); (case hi => first | assumption | l_ints); (case hfit => first | assumption | omega | (simp; omega)); (case hc => assumption); (case hoff => (intro p hp q hq; simp only [List.mem_singleton] at hp hq; subst hp; subst hq; first | exact Nat.ne_of_lt (by assumption) | (show (535 : Nat) ≠ _; omega))); k_whole); intro q9 v90 v91 v92 v93 k9 t90 t91 t92 t93 t94 h9 tk9 b9 l9 F9 N9; (try k_lt l9); (try dsimp only at N9); (try dsimp only); (try k_sweep); (try k_fold))
  k_with "call ref" => (k_here; (with_reducible show wpAny _ _ (call (Value.ref 547) [Value.int 3 _]) _ _ _); k_dflt (refine' code_3 ?B ?F ?X ?N ?T ?hdp ?hun  ?_; (case B => k_asm); (case F => k_asm); (case X => k_asm); (case N => k_asm); (case T => k_asm); (case hdp => ktr_room); (case hun => ktr_units); k_whole); intro q9 w9 t90 t91 t92 t93 t94 t95 t96 t97 th9 h9 tk9 l9 l8 F9 N9; (have l7 := lt_up l9 l8); (try k_lt l9); (try k_lt l7); (try dsimp only); (try k_sweep); (try k_fold))
  trivial
theorem setup_0 {w : World} {p : Program} {loose : List Str} {mean : ExcName → Option Value} {mg mb : Str → Option Value} {dp un : Nat} {gd : Option (List Code)} {LS : Scope} {b : List Stmt} {a : Addr} {ccd : Value} {outer : List Env} {A₀ : Around} {base h₀ : Heap} {L : Addr} {m : Str → Option Value} {s : Shared} {Q : Flow → Shared → Prop} {E : Value → Shared → Prop} {cup cells : Addr} {form : Int} {tf tk0 : Tok} {vs : List Value} {ns : List Int}
    (hb : b = lawParts.1.drop 2) (hLS : LS = lawParts.2) (B : Below A₀ base outer h₀) (F : Fr h₀ L s.heap m) (X : (hd.heap_1 w.params).In h₀) (N : News h₀ L s.heap ([(cup, listOf [Value.ref cells, Value.int (0 + 1) tk0].toArray 0), (cells, listOf vs.toArray 0), (535, tabObj #[])])) (T : Top p loose mean mg mb h₀) (hdp : dp + 140 < recursionLimit) (hun : un + 1500 < cLine)
    (hm : ∀ p ∈ ([(Str.ofString "form", .int form tf), (Str.ofString "cup", .ref cup)] : List (Str × Value)), m p.1 = some p.2)
    (hform : form = 0) (C : CodeHd base (539, 535).fst (539, 535).snd) (hi : IntsAre vs ns) (hfit : ns.length ≤ 6) (hc : cells < cup) (hc2 : 535 < cells) (hc3 : 535 < cup) (hE : PassesOwn (model PySem.Challenge.rw_tk0059_01.row.prog w) (ktrTop dp un gd (Str.ofString "law") LS L a ccd [] outer) (envX (Str.ofString "law") LS L a ccd []) E)
    (hret : ∀ (v : Value) (m' : Str → Option Value) (h' : Heap) (tk' : Nat), Fr h₀ L h' m' → GrownAt 535 h' → v = .bool true → Q (.ret v) { s with heap := h', toks := tk' }) :
    wpAny (model PySem.Challenge.rw_tk0059_01.row.prog w) (ktrTop dp un gd (Str.ofString "law") LS L a ccd [] outer) (execs b (envX (Str.ofString "law") LS L a ccd [])) Q E s := by
  conv at hb => rhs; whnf
  conv at hLS => rhs; whnf
  subst hb hLS
  have F0 := fr_kstB _ hm F
  dsimp only [kstB] at F0
  clear F
  revert X; k_fill; intro X
  have hMk := kstMark
  subst hform
  iterate 90 (first | (k_unfold; (try dsimp only)) | walk1 | (dsimp only; walk1))
  (refine' lawworks_use ?B ?F ?X ?N ?T ?hdp ?hun ?C ?hl ?hoff ?_; (case B => k_asm); (case F => k_asm); (case X => k_asm); (case N => k_asm); (case T => k_asm); (case hdp => ktr_room); (case hun => ktr_units); (case C => assumption); (case hl => exact rfl); (case hoff => (intro p hp; (try dsimp only [List.dropLast] at hp); simp only [List.mem_cons, List.not_mem_nil, or_false] at hp; rcases hp with rfl | rfl | rfl | rfl | rfl | rfl | rfl | rfl | rfl | rfl | rfl | rfl <;> exact Nat.ne_of_gt (by assumption))))
  intro x8 d8 f80 f81 f82 f83 f84 f85 c84 of8 oc8 t80 t81 t82 t83 t84 t85 ps8 h8 tk8 Cd8 Cm8 F8 N8
  (try dsimp only [List.dropLast] at N8)
  iterate 2 (first | (k_unfold; (try dsimp only)) | walk1 | (dsimp only; walk1))
  (refine' stepper_new ?B ?F ?X ?N ?T ?hdp ?hun ?_; (case B => k_asm); (case F => k_asm); (case X => k_asm); (case N => exact news_dup (by k_asm) (by k_mem)); (case T => k_asm); (case hdp => ktr_room); (case hun => ktr_units))
  intro x7 d7 ls7 t70 t71 t72 t73 t74 t75 t76 t77 t78 t79 t710 t711 h7 tk7 l71 l72 l73 F7 N7
  repeat ((fail_if_success (with_reducible show wpAny _ _ (execs (Stmt.For _ _ _ _ _ :: _) _) _ _ _)); (first | (k_unfold; (try dsimp only)) | walk1 | (dsimp only; walk1)))
  rename Fr _ _ _ _ => fE
  rename News _ _ _ _ => nE
  refine' law_loop (c₀ := ⟨0, _, _, _, _, _, 0, _, _, _, _, _, 0, _, .none⟩) (Iv := Iv0 _) (head := 0) (form := 0) rfl rfl B fE X (news_ord nE) T ?hdp ?hun ?hm (off_new l71 l72 l73) (Nat.ne_of_lt (Nat.lt_trans l72 l73)) (List.Mem.head _) ?hlf (by decide) (by decide) ⟨rfl, rfl⟩ hE ?h0 ?hdone ?plan ?hret9
  case hdp => omega
  case hun => omega
  case hm => (intro p hp; simp only [List.mem_cons, List.not_mem_nil, or_false] at hp; rcases hp with rfl | rfl | rfl | rfl | rfl | rfl <;> rfl)
  case hlf => k_mem
  case hdone => exact done_0
  case hret9 => exact fun v m' h' tk' F N e => hret v m' h' tk' F (GrownAt.of (ps := ps8) N (by k_mem)) e
  case plan =>
    refine' plan_0 ?S (by omega)
    case S => exact ⟨Nat.ne_of_lt (Nat.lt_trans l72 l73), by k_mem, by k_mem, by k_mem, by k_mem, by k_mem, by k_mem, by k_mem, by k_mem, by k_mem, Cd8, Cm8⟩
  case h0 => (exact Or.inl ⟨rfl, by first | omega | (dsimp only; omega), by first | omega | (dsimp only; omega), by first | omega | (dsimp only; omega), by first | omega | (dsimp only; omega), rfl, by first | decide | (dsimp only; decide), by first | decide | (dsimp only; decide), Or.inl rfl, by first | omega | (dsimp only; omega)⟩)

theorem setup_1 {w : World} {p : Program} {loose : List Str} {mean : ExcName → Option Value} {mg mb : Str → Option Value} {dp un : Nat} {gd : Option (List Code)} {LS : Scope} {b : List Stmt} {a : Addr} {ccd : Value} {outer : List Env} {A₀ : Around} {base h₀ : Heap} {L : Addr} {m : Str → Option Value} {s : Shared} {Q : Flow → Shared → Prop} {E : Value → Shared → Prop} {cup cells : Addr} {form : Int} {tf tk0 : Tok} {vs : List Value} {ns : List Int}
    (hb : b = lawParts.1.drop 2) (hLS : LS = lawParts.2) (B : Below A₀ base outer h₀) (F : Fr h₀ L s.heap m) (X : (hd.heap_1 w.params).In h₀) (N : News h₀ L s.heap ([(cup, listOf [Value.ref cells, Value.int (0 + 1) tk0].toArray 0), (cells, listOf vs.toArray 0), (535, tabObj #[])])) (T : Top p loose mean mg mb h₀) (hdp : dp + 140 < recursionLimit) (hun : un + 1500 < cLine)
    (hm : ∀ p ∈ ([(Str.ofString "form", .int form tf), (Str.ofString "cup", .ref cup)] : List (Str × Value)), m p.1 = some p.2)
    (hform : form = 1) (C : CodeHd base (539, 535).fst (539, 535).snd) (hi : IntsAre vs ns) (hfit : ns.length ≤ 6) (hc : cells < cup) (hc2 : 535 < cells) (hc3 : 535 < cup) (hE : PassesOwn (model PySem.Challenge.rw_tk0059_01.row.prog w) (ktrTop dp un gd (Str.ofString "law") LS L a ccd [] outer) (envX (Str.ofString "law") LS L a ccd []) E)
    (hret : ∀ (v : Value) (m' : Str → Option Value) (h' : Heap) (tk' : Nat), Fr h₀ L h' m' → GrownAt 535 h' → v = .bool true → Q (.ret v) { s with heap := h', toks := tk' }) :
    wpAny (model PySem.Challenge.rw_tk0059_01.row.prog w) (ktrTop dp un gd (Str.ofString "law") LS L a ccd [] outer) (execs b (envX (Str.ofString "law") LS L a ccd [])) Q E s := by
  conv at hb => rhs; whnf
  conv at hLS => rhs; whnf
  subst hb hLS
  have F0 := fr_kstB _ hm F
  dsimp only [kstB] at F0
  clear F
  revert X; k_fill; intro X
  have hMk := kstMark
  subst hform
  iterate 90 (first | (k_unfold; (try dsimp only)) | walk1 | (dsimp only; walk1))
  (refine' lawworks_use ?B ?F ?X ?N ?T ?hdp ?hun ?C ?hl ?hoff ?_; (case B => k_asm); (case F => k_asm); (case X => k_asm); (case N => k_asm); (case T => k_asm); (case hdp => ktr_room); (case hun => ktr_units); (case C => assumption); (case hl => exact rfl); (case hoff => (intro p hp; (try dsimp only [List.dropLast] at hp); simp only [List.mem_cons, List.not_mem_nil, or_false] at hp; rcases hp with rfl | rfl | rfl | rfl | rfl | rfl | rfl | rfl | rfl | rfl | rfl | rfl <;> exact Nat.ne_of_gt (by assumption))))
  intro x8 d8 f80 f81 f82 f83 f84 f85 c84 of8 oc8 t80 t81 t82 t83 t84 t85 ps8 h8 tk8 Cd8 Cm8 F8 N8
  (try dsimp only [List.dropLast] at N8)
  iterate 2 (first | (k_unfold; (try dsimp only)) | walk1 | (dsimp only; walk1))
  (refine' stepper_new ?B ?F ?X ?N ?T ?hdp ?hun ?_; (case B => k_asm); (case F => k_asm); (case X => k_asm); (case N => exact news_dup (by k_asm) (by k_mem)); (case T => k_asm); (case hdp => ktr_room); (case hun => ktr_units))
  intro x7 d7 ls7 t70 t71 t72 t73 t74 t75 t76 t77 t78 t79 t710 t711 h7 tk7 l71 l72 l73 F7 N7
  repeat ((fail_if_success (with_reducible show wpAny _ _ (execs (Stmt.For _ _ _ _ _ :: _) _) _ _ _)); (first | (k_unfold; (try dsimp only)) | walk1 | (dsimp only; walk1)))
  rename Fr _ _ _ _ => fE
  rename News _ _ _ _ => nE
  refine' law_loop (c₀ := ⟨0, _, _, _, _, _, 0, _, _, _, _, _, 0, _, .none⟩) (Iv := Iv1 _) (head := 0) (form := 1) rfl rfl B fE X (news_ord nE) T ?hdp ?hun ?hm (off_new l71 l72 l73) (Nat.ne_of_lt (Nat.lt_trans l72 l73)) (List.Mem.head _) ?hlf (by decide) (by decide) ⟨rfl, rfl⟩ hE ?h0 ?hdone ?plan ?hret9
  case hdp => omega
  case hun => omega
  case hm => (intro p hp; simp only [List.mem_cons, List.not_mem_nil, or_false] at hp; rcases hp with rfl | rfl | rfl | rfl | rfl | rfl <;> rfl)
  case hlf => k_mem
  case hdone => exact done_1
  case hret9 => exact fun v m' h' tk' F N e => hret v m' h' tk' F (GrownAt.of (ps := ps8) N (by k_mem)) e
  case plan =>
    refine' plan_1 ?S (by omega)
    case S => exact ⟨Nat.ne_of_lt (Nat.lt_trans l72 l73), by k_mem, by k_mem, by k_mem, by k_mem, by k_mem, by k_mem, by k_mem, by k_mem, by k_mem, Cd8, Cm8⟩
  case h0 => (exact Or.inl ⟨rfl, ⟨by first | omega | (dsimp only; omega), by first | omega | (dsimp only; omega)⟩, ⟨by first | omega | (dsimp only; omega), by first | omega | (dsimp only; omega)⟩, by first | omega | (dsimp only; omega), by first | omega | (dsimp only; omega), (by (rename (_ ≤ _ ∧ _ ≤ _ ∧ _) => hb9; dsimp only; rw [hb9.2.2.2.2.1, Int.one_mul])), by first | decide | (dsimp only; decide), by first | decide | (dsimp only; decide), Or.inl rfl, by first | omega | (dsimp only; omega)⟩)

theorem setup_2 {w : World} {p : Program} {loose : List Str} {mean : ExcName → Option Value} {mg mb : Str → Option Value} {dp un : Nat} {gd : Option (List Code)} {LS : Scope} {b : List Stmt} {a : Addr} {ccd : Value} {outer : List Env} {A₀ : Around} {base h₀ : Heap} {L : Addr} {m : Str → Option Value} {s : Shared} {Q : Flow → Shared → Prop} {E : Value → Shared → Prop} {cup cells : Addr} {form : Int} {tf tk0 : Tok} {vs : List Value} {ns : List Int}
    (hb : b = lawParts.1.drop 2) (hLS : LS = lawParts.2) (B : Below A₀ base outer h₀) (F : Fr h₀ L s.heap m) (X : (hd.heap_1 w.params).In h₀) (N : News h₀ L s.heap ([(cup, listOf [Value.ref cells, Value.int (0 + 1) tk0].toArray 0), (cells, listOf vs.toArray 0), (535, tabObj #[])])) (T : Top p loose mean mg mb h₀) (hdp : dp + 140 < recursionLimit) (hun : un + 1500 < cLine)
    (hm : ∀ p ∈ ([(Str.ofString "form", .int form tf), (Str.ofString "cup", .ref cup)] : List (Str × Value)), m p.1 = some p.2)
    (hform : form = 2) (C : CodeHd base (539, 535).fst (539, 535).snd) (hi : IntsAre vs ns) (hfit : ns.length ≤ 6) (hc : cells < cup) (hc2 : 535 < cells) (hc3 : 535 < cup) (hE : PassesOwn (model PySem.Challenge.rw_tk0059_01.row.prog w) (ktrTop dp un gd (Str.ofString "law") LS L a ccd [] outer) (envX (Str.ofString "law") LS L a ccd []) E)
    (hret : ∀ (v : Value) (m' : Str → Option Value) (h' : Heap) (tk' : Nat), Fr h₀ L h' m' → GrownAt 535 h' → v = .bool true → Q (.ret v) { s with heap := h', toks := tk' }) :
    wpAny (model PySem.Challenge.rw_tk0059_01.row.prog w) (ktrTop dp un gd (Str.ofString "law") LS L a ccd [] outer) (execs b (envX (Str.ofString "law") LS L a ccd [])) Q E s := by
  conv at hb => rhs; whnf
  conv at hLS => rhs; whnf
  subst hb hLS
  have F0 := fr_kstB _ hm F
  dsimp only [kstB] at F0
  clear F
  revert X; k_fill; intro X
  have hMk := kstMark
  subst hform
  iterate 90 (first | (k_unfold; (try dsimp only)) | walk1 | (dsimp only; walk1))
  (refine' lawworks_use ?B ?F ?X ?N ?T ?hdp ?hun ?C ?hl ?hoff ?_; (case B => k_asm); (case F => k_asm); (case X => k_asm); (case N => k_asm); (case T => k_asm); (case hdp => ktr_room); (case hun => ktr_units); (case C => assumption); (case hl => exact rfl); (case hoff => (intro p hp; (try dsimp only [List.dropLast] at hp); simp only [List.mem_cons, List.not_mem_nil, or_false] at hp; rcases hp with rfl | rfl | rfl | rfl | rfl | rfl | rfl | rfl | rfl | rfl | rfl | rfl <;> exact Nat.ne_of_gt (by assumption))))
  intro x8 d8 f80 f81 f82 f83 f84 f85 c84 of8 oc8 t80 t81 t82 t83 t84 t85 ps8 h8 tk8 Cd8 Cm8 F8 N8
  (try dsimp only [List.dropLast] at N8)
  iterate 2 (first | (k_unfold; (try dsimp only)) | walk1 | (dsimp only; walk1))
  (refine' stepper_new ?B ?F ?X ?N ?T ?hdp ?hun ?_; (case B => k_asm); (case F => k_asm); (case X => k_asm); (case N => exact news_dup (by k_asm) (by k_mem)); (case T => k_asm); (case hdp => ktr_room); (case hun => ktr_units))
  intro x7 d7 ls7 t70 t71 t72 t73 t74 t75 t76 t77 t78 t79 t710 t711 h7 tk7 l71 l72 l73 F7 N7
  repeat ((fail_if_success (with_reducible show wpAny _ _ (execs (Stmt.For _ _ _ _ _ :: _) _) _ _ _)); (first | (k_unfold; (try dsimp only)) | walk1 | (dsimp only; walk1)))
  rename Fr _ _ _ _ => fE
  rename News _ _ _ _ => nE
  refine' law_loop (c₀ := ⟨0, _, _, _, _, _, 0, _, _, _, _, _, 0, _, .none⟩) (Iv := Iv2 _ _ _) (head := 1) (form := 2) rfl rfl B fE X (news_ord nE) T ?hdp ?hun ?hm (off_new l71 l72 l73) (Nat.ne_of_lt (Nat.lt_trans l72 l73)) (List.Mem.head _) ?hlf (by decide) (by decide) ⟨rfl, rfl⟩ hE ?h0 ?hdone ?plan ?hret9
  case hdp => omega
  case hun => omega
  case hm => (intro p hp; simp only [List.mem_cons, List.not_mem_nil, or_false] at hp; rcases hp with rfl | rfl | rfl | rfl | rfl | rfl <;> rfl)
  case hlf => k_mem
  case hdone => exact done_2
  case hret9 => exact fun v m' h' tk' F N e => hret v m' h' tk' F (GrownAt.of (ps := ps8) N (by k_mem)) e
  case plan =>
    refine' plan_2 ?S (by unfold Hf2; omega)
    case S => exact ⟨Nat.ne_of_lt (Nat.lt_trans l72 l73), by k_mem, by k_mem, by k_mem, by k_mem, by k_mem, by k_mem, by k_mem, by k_mem, by k_mem, Cd8, Cm8⟩
  case h0 => (exact Or.inl ⟨rfl, by first | omega | (dsimp only; omega), rfl, rfl, rfl, rfl, rfl, rfl⟩)

theorem setup_3 {w : World} {p : Program} {loose : List Str} {mean : ExcName → Option Value} {mg mb : Str → Option Value} {dp un : Nat} {gd : Option (List Code)} {LS : Scope} {b : List Stmt} {a : Addr} {ccd : Value} {outer : List Env} {A₀ : Around} {base h₀ : Heap} {L : Addr} {m : Str → Option Value} {s : Shared} {Q : Flow → Shared → Prop} {E : Value → Shared → Prop} {cup cells : Addr} {form : Int} {tf tk0 : Tok} {vs : List Value} {ns : List Int}
    (hb : b = lawParts.1.drop 2) (hLS : LS = lawParts.2) (B : Below A₀ base outer h₀) (F : Fr h₀ L s.heap m) (X : (hd.heap_1 w.params).In h₀) (N : News h₀ L s.heap ([(cup, listOf [Value.ref cells, Value.int (0 + 1) tk0].toArray 0), (cells, listOf vs.toArray 0), (535, tabObj #[])])) (T : Top p loose mean mg mb h₀) (hdp : dp + 140 < recursionLimit) (hun : un + 1500 < cLine)
    (hm : ∀ p ∈ ([(Str.ofString "form", .int form tf), (Str.ofString "cup", .ref cup)] : List (Str × Value)), m p.1 = some p.2)
    (hform : form = 3) (C : CodeHd base (539, 535).fst (539, 535).snd) (hi : IntsAre vs ns) (hfit : ns.length ≤ 6) (hc : cells < cup) (hc2 : 535 < cells) (hc3 : 535 < cup) (hE : PassesOwn (model PySem.Challenge.rw_tk0059_01.row.prog w) (ktrTop dp un gd (Str.ofString "law") LS L a ccd [] outer) (envX (Str.ofString "law") LS L a ccd []) E)
    (hret : ∀ (v : Value) (m' : Str → Option Value) (h' : Heap) (tk' : Nat), Fr h₀ L h' m' → GrownAt 535 h' → v = .bool true → Q (.ret v) { s with heap := h', toks := tk' }) :
    wpAny (model PySem.Challenge.rw_tk0059_01.row.prog w) (ktrTop dp un gd (Str.ofString "law") LS L a ccd [] outer) (execs b (envX (Str.ofString "law") LS L a ccd [])) Q E s := by
  conv at hb => rhs; whnf
  conv at hLS => rhs; whnf
  subst hb hLS
  have F0 := fr_kstB _ hm F
  dsimp only [kstB] at F0
  clear F
  revert X; k_fill; intro X
  have hMk := kstMark
  subst hform
  iterate 90 (first | (k_unfold; (try dsimp only)) | walk1 | (dsimp only; walk1))
  (refine' lawworks_use ?B ?F ?X ?N ?T ?hdp ?hun ?C ?hl ?hoff ?_; (case B => k_asm); (case F => k_asm); (case X => k_asm); (case N => k_asm); (case T => k_asm); (case hdp => ktr_room); (case hun => ktr_units); (case C => assumption); (case hl => exact rfl); (case hoff => (intro p hp; (try dsimp only [List.dropLast] at hp); simp only [List.mem_cons, List.not_mem_nil, or_false] at hp; rcases hp with rfl | rfl | rfl | rfl | rfl | rfl | rfl | rfl | rfl | rfl | rfl | rfl <;> exact Nat.ne_of_gt (by assumption))))
  intro x8 d8 f80 f81 f82 f83 f84 f85 c84 of8 oc8 t80 t81 t82 t83 t84 t85 ps8 h8 tk8 Cd8 Cm8 F8 N8
  (try dsimp only [List.dropLast] at N8)
  iterate 2 (first | (k_unfold; (try dsimp only)) | walk1 | (dsimp only; walk1))
  (refine' stepper_new ?B ?F ?X ?N ?T ?hdp ?hun ?_; (case B => k_asm); (case F => k_asm); (case X => k_asm); (case N => exact news_dup (by k_asm) (by k_mem)); (case T => k_asm); (case hdp => ktr_room); (case hun => ktr_units))
  intro x7 d7 ls7 t70 t71 t72 t73 t74 t75 t76 t77 t78 t79 t710 t711 h7 tk7 l71 l72 l73 F7 N7
  repeat ((fail_if_success (with_reducible show wpAny _ _ (execs (Stmt.For _ _ _ _ _ :: _) _) _ _ _)); (first | (k_unfold; (try dsimp only)) | walk1 | (dsimp only; walk1)))
  rename Fr _ _ _ _ => fE
  rename News _ _ _ _ => nE
  refine' law_loop (c₀ := ⟨0, _, _, _, _, _, 0, _, _, _, _, _, 0, _, .none⟩) (Iv := Iv3 _) (head := 0) (form := 3) rfl rfl B fE X (news_ord nE) T ?hdp ?hun ?hm (off_new l71 l72 l73) (Nat.ne_of_lt (Nat.lt_trans l72 l73)) (List.Mem.head _) ?hlf (by decide) (by decide) ⟨rfl, rfl⟩ hE ?h0 ?hdone ?plan ?hret9
  case hdp => omega
  case hun => omega
  case hm => (intro p hp; simp only [List.mem_cons, List.not_mem_nil, or_false] at hp; rcases hp with rfl | rfl | rfl | rfl | rfl | rfl <;> rfl)
  case hlf => k_mem
  case hdone => exact done_3
  case hret9 => exact fun v m' h' tk' F N e => hret v m' h' tk' F (GrownAt.of (ps := ps8) N (by k_mem)) e
  case plan =>
    refine' plan_3 ?S (by omega)
    case S => exact ⟨Nat.ne_of_lt (Nat.lt_trans l72 l73), by k_mem, by k_mem, by k_mem, by k_mem, by k_mem, by k_mem, by k_mem, by k_mem, by k_mem, Cd8, Cm8⟩
  case h0 => (exact ⟨0, Or.inl ⟨rfl, rfl, ⟨by simp, by simp [figs], by first | omega | (dsimp only; omega), by first | omega | (dsimp only; omega), Or.inl ⟨rfl, by first | omega | (dsimp only; omega), by first | omega | (dsimp only; omega)⟩⟩, Or.inl rfl, rfl⟩⟩)
theorem top : ∀ d, defOf vw (Str.ofString "law") = some (d, []) → (WalkO vw [Str.ofString "RECKONINGS"] (XL vw ([] : List (Str × WData))) (kmHook hd.heap_1 [2, 3, 15, 17, 18, 20, 21, 22, 24, 25, 27, 28, 29, 31, 32, 34, 35, 36, 38, 39, 41, 42, 43, 45, 46, 48, 49, 50, 52, 53, 55, 56, 57, 59, 60, 62, 63, 71, 72, 74, 75, 77, 78, 79, 81, 82, 84, 85, 86, 88, 89, 91, 92, 93, 94, 95, 96, 97, 100, 107, 109, 110, 112, 113, 114, 115, 116, 117, 120, 127, 129, 130, 132, 133, 134, 135, 136, 137, 140, 142, 143, 145, 146, 147, 149, 150, 152, 153, 154, 156, 157, 159, 160, 161, 163, 164, 166, 167, 168, 170, 171, 173, 174, 175, 177, 178, 180, 181, 182, 184, 185, 187, 188, 189, 191, 192, 194, 195, 196, 198, 199, 201, 202, 203, 205, 206, 208, 209, 210, 212, 213, 215, 216, 217, 219, 220, 222, 223, 224, 226, 227, 229, 230, 231, 233, 234, 236, 237, 238, 240, 241, 243, 244, 245, 247, 248, 250, 251, 252, 254, 255, 257, 258, 259, 262, 263, 264, 267, 268, 269, 271, 272, 274, 275, 276, 278, 279, 281, 282, 283, 285, 286, 288, 289, 290, 292, 293, 295, 296, 297, 299, 300, 302, 303, 304, 306, 307, 309, 310, 311, 313, 314, 316, 317, 318, 320, 321, 323, 324, 325, 327, 328, 330, 331, 332, 334, 335, 337, 338, 339, 341, 342, 344, 345, 346, 348, 349, 351, 352, 353, 355, 356, 358, 359, 360, 363, 364, 365, 367, 368, 370, 371, 372, 374, 375, 377, 378, 379, 381, 382, 384, 385, 386, 387, 389, 390, 392, 393, 394, 396, 397, 399, 400, 408, 410, 411, 413, 414, 415, 416, 417, 418, 419, 429, 431, 432, 434, 435, 436, 438, 439, 441, 442, 443, 445, 446, 448, 449, 450, 452, 453, 455, 456, 457, 459, 460, 462, 463, 464, 466, 467, 469, 470, 471, 473, 474, 476, 477, 478, 480, 481, 483, 484, 485, 487, 488, 490, 491, 492, 494, 495, 497, 498, 499, 501, 502, 504, 505, 506, 507, 508, 509, 510, 513, 515, 516, 518, 519, 520, 522, 523, 525, 526, 527, 529, 530, 532, 533, 534, 536, 537, 539, 540, 541, 543, 544, 546, 547, 548, 550, 551, 553, 554, 555, 557, 558, 560, 561, 562, 564, 565, 567, 568, 569, 571, 572, 574, 575, 576, 578, 579, 581, 582, 583, 585, 586, 588, 589, 590, 592, 593, 595, 596] addrs [535]).says PySem.Challenge.rw_tk0059_01.row.toRowW d [] fun f vs => call f vs) → PySem.Challenge.rw_tk0059_01.Holds := by
  intro d hd hc
  w_on
  refine holds_law said0 fun said => ?_
  refine holds_open (q := vw) (loose := lo) (Xt := Xt0) (XP := XL vw ([] : List (Str × WData))) (Yf := Hook.obs hook0) (Ya := Hook.val hook0) (YP := Hook.says hook0) (N := 7426) (kwd := []) (d := d) ?hl (Hook.of hook0) (Hook.keeps hook0) (fun s e => xl_of s (Bool.and_eq_true_iff.mp e).1) XL.keeps
    hd ?hp ?hk (fun s e => recFacts_of (Bool.and_eq_true_iff.mp e).2) ?hr ?k1 ?ok ⟨rfl, rfl, rfl, rfl, rfl, ?hb⟩ ?hw hc
  case hl => exact LeftO.of_pieces open0 size0 run0 (by decide) looks
  case hp =>
    have e := theDef0
    rw [hd] at e
    exact e.symm
  case hk =>
    have e := theKw0
    rw [hd] at e
    exact Option.some.inj e
  case hr => rfl
  case k1 => assumption
  case ok => kernel_rfl
  case hb => exact whole0
  case hw => w_witness2
theorem w_J_1 : True := by
  k_with_none
  trivial
theorem form_split {M : Model} {A : Around} {env : Env} {x : Str} {t : Tok} {Q : Unit → Shared → Prop} {E : Value → Shared → Prop} {s : Shared} {r : Int} (h0 : 0 ≤ r) (h1 : r < 4)
    (f0 : wpAny M A (storeName env x (.int 0 t)) Q E s) (f1 : wpAny M A (storeName env x (.int 1 t)) Q E s) (f2 : wpAny M A (storeName env x (.int 2 t)) Q E s) (f3 : wpAny M A (storeName env x (.int 3 t)) Q E s) :
    wpAny M A (storeName env x (.int (3 - r) t)) Q E s := by
  have h : r = 0 ∨ r = 1 ∨ r = 2 ∨ r = 3 := by omega
  rcases h with rfl | rfl | rfl | rfl
  · exact f3
  · exact f2
  · exact f1
  · exact f0
theorem w_J_2 : True := by
  k_with "eval Call" => ((with_reducible show wpAny _ _ (eval (Expr.Call (Expr.Name _ _) _ [] _) _) _ _ _); k_dflt (refine Call_ ?_))
  k_with "callWith ref" => (k_here; (first | (with_reducible show wpAny _ _ (callWith _ (Value.ref 519) _ _ _) _ _ _) | (with_reducible show wpAny _ _ (callWith _ (Value.ref 554) _ _ _) _ _ _) | (with_reducible show wpAny _ _ (callWith _ (Value.ref 547) _ _ _) _ _ _) | (with_reducible show wpAny _ _ (callWith _ (Value.ref 540) _ _ _) _ _ _) | (with_reducible show wpAny _ _ (callWith _ (Value.ref 508) _ _ _) _ _ _) | (with_reducible show wpAny _ _ (callWith _ (Value.ref 95) _ _ _) _ _ _) | (with_reducible show wpAny _ _ (callWith _ (Value.ref 582) _ _ _) _ _ _) | (with_reducible show wpAny _ _ (callWith _ (Value.ref 589) _ _ _) _ _ _) | (with_reducible show wpAny _ _ (callWith _ (Value.ref 442) _ _ _) _ _ _) | (with_reducible show wpAny _ _ (callWith _ (Value.ref 561) _ _ _) _ _ _) | (with_reducible show wpAny _ _ (callWith _ (Value.ref 568) _ _ _) _ _ _) | (with_reducible show wpAny _ _ (callWith _ (Value.ref 575) _ _ _) _ _ _)); k_dflt (first | refine' callWith_K ?k1 ?k2 ?_; (case k1 => k_asm); (case k2 => k_is); k_whole | refine' callWith_K0 ?k1 ?k2 ?_; (case k1 => k_in); (case k2 => k_is); k_whole | refine' callWith_KW0 ?k1 ?k2 ?k3 ?_; (case k1 => k_in); (case k2 => k_is); (case k3 => exact rfl); k_whole))
  k_with "call ref" => (k_here; (with_reducible show wpAny _ _ (call (Value.ref 519) [Value.ref _, Value.int _ _]) _ _ _); k_dflt (refine' poured_use ?B ?F ?X ?N ?T ?hdp ?hun ?U ?hcm ?hi ?hfit ?h0 ?h1 ?hm0 ?hm1 ?hc ?_; (case B => k_asm); (case F => k_asm); (case X => k_asm); (case N => k_asm); (case T => k_asm); (case hdp => ktr_room); (case hun => ktr_units); (case U => k_updF); (case hcm => k_mem); (case hi => first | assumption | l_ints); (case hfit => first | assumption | omega | (simp; omega)); (case h0 => first | omega | decide | assumption); (case h1 => first | omega | decide | assumption); (case hm0 => first | omega | decide | assumption); (case hm1 => first | omega | decide | assumption); (case hc => k_ne); k_whole); intro r9 t9 tk9 h9 tk8 hr0 hr1 F9 N9; (try dsimp only at N9); (try dsimp only); (try k_sweep); (try k_fold))
  k_with "storeName" => (k_here; (with_reducible show wpAny _ _ (storeName _ (Str.ofString "form") (Value.int (3 - _) _)) _ _ _); refine' form_split ?h0 ?h1 ?f0 ?f1 ?f2 ?f3; (case h0 => assumption); (case h1 => assumption))
  trivial
theorem all : PySem.Challenge.rw_tk0059_01.Holds := top _ (by rfl) (by
  k_go0
  all_goals try k_fold
  repeat ((fail_if_success (with_reducible show wpAny _ _ (storeName _ _ (Value.int (3 - _) _)) _ _ _)); (first | (k_unfold; (try dsimp only)) | walk1 | (dsimp only; walk1)))
  (try (k_unfold; (try dsimp only)))
  walk1
  · repeat ((fail_if_success (with_reducible show wpAny _ _ (execs (Stmt.Assign [Expr.Tuple _ _ _] _ _ :: _) _) _ _ _)); (first | (k_unfold; (try dsimp only)) | walk1 | (dsimp only; walk1)))
    rename Fr _ _ _ _ => fE
    rename News _ _ _ _ => nE
    rename Below _ _ _ _ => bE
    rename Top _ _ _ _ _ _ => tE
    refine' setup_0 (outer := []) (m := _) rfl rfl bE fE ?X nE tE ?hdp ?hun ?hm rfl ?C ?hi ?hfit ?hc ?hc2 ?hc3 ?hE ?hret
    case X => assumption
    case hdp => decide
    case hun => decide
    case hm => (intro p hp; simp only [List.mem_cons, List.not_mem_nil, or_false] at hp; rcases hp with rfl | rfl <;> rfl)
    case C => assumption
    case hi => assumption
    case hfit => (rw [List.length_take]; omega)
    case hc => assumption
    case hc2 => assumption
    case hc3 => assumption
    case hE => passes_own
    case hret =>
      intro v m' h' tk' F hG e
      subst e
      refine And.intro ?_ (And.intro hG trivial)
      k_steps
  · repeat ((fail_if_success (with_reducible show wpAny _ _ (execs (Stmt.Assign [Expr.Tuple _ _ _] _ _ :: _) _) _ _ _)); (first | (k_unfold; (try dsimp only)) | walk1 | (dsimp only; walk1)))
    rename Fr _ _ _ _ => fE
    rename News _ _ _ _ => nE
    rename Below _ _ _ _ => bE
    rename Top _ _ _ _ _ _ => tE
    refine' setup_1 (outer := []) (m := _) rfl rfl bE fE ?X nE tE ?hdp ?hun ?hm rfl ?C ?hi ?hfit ?hc ?hc2 ?hc3 ?hE ?hret
    case X => assumption
    case hdp => decide
    case hun => decide
    case hm => (intro p hp; simp only [List.mem_cons, List.not_mem_nil, or_false] at hp; rcases hp with rfl | rfl <;> rfl)
    case C => assumption
    case hi => assumption
    case hfit => (rw [List.length_take]; omega)
    case hc => assumption
    case hc2 => assumption
    case hc3 => assumption
    case hE => passes_own
    case hret =>
      intro v m' h' tk' F hG e
      subst e
      refine And.intro ?_ (And.intro hG trivial)
      k_steps
  · repeat ((fail_if_success (with_reducible show wpAny _ _ (execs (Stmt.Assign [Expr.Tuple _ _ _] _ _ :: _) _) _ _ _)); (first | (k_unfold; (try dsimp only)) | walk1 | (dsimp only; walk1)))
    rename Fr _ _ _ _ => fE
    rename News _ _ _ _ => nE
    rename Below _ _ _ _ => bE
    rename Top _ _ _ _ _ _ => tE
    refine' setup_2 (outer := []) (m := _) rfl rfl bE fE ?X nE tE ?hdp ?hun ?hm rfl ?C ?hi ?hfit ?hc ?hc2 ?hc3 ?hE ?hret
    case X => assumption
    case hdp => decide
    case hun => decide
    case hm => (intro p hp; simp only [List.mem_cons, List.not_mem_nil, or_false] at hp; rcases hp with rfl | rfl <;> rfl)
    case C => assumption
    case hi => assumption
    case hfit => (rw [List.length_take]; omega)
    case hc => assumption
    case hc2 => assumption
    case hc3 => assumption
    case hE => passes_own
    case hret =>
      intro v m' h' tk' F hG e
      subst e
      refine And.intro ?_ (And.intro hG trivial)
      k_steps
  · repeat ((fail_if_success (with_reducible show wpAny _ _ (execs (Stmt.Assign [Expr.Tuple _ _ _] _ _ :: _) _) _ _ _)); (first | (k_unfold; (try dsimp only)) | walk1 | (dsimp only; walk1)))
    rename Fr _ _ _ _ => fE
    rename News _ _ _ _ => nE
    rename Below _ _ _ _ => bE
    rename Top _ _ _ _ _ _ => tE
    refine' setup_3 (outer := []) (m := _) rfl rfl bE fE ?X nE tE ?hdp ?hun ?hm rfl ?C ?hi ?hfit ?hc ?hc2 ?hc3 ?hE ?hret
    case X => assumption
    case hdp => decide
    case hun => decide
    case hm => (intro p hp; simp only [List.mem_cons, List.not_mem_nil, or_false] at hp; rcases hp with rfl | rfl <;> rfl)
    case C => assumption
    case hi => assumption
    case hfit => (rw [List.length_take]; omega)
    case hc => assumption
    case hc2 => assumption
    case hc3 => assumption
    case hE => passes_own
    case hret =>
      intro v m' h' tk' F hG e
      subst e
      refine And.intro ?_ (And.intro hG trivial)
      k_steps
)
end Mine
theorem PySem.Challenge.cw_tk0059_01_holds : PySem.Challenge.rw_tk0059_01.Holds := by
  exact Mine.all
