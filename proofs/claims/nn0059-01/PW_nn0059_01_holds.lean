import PyProof.Rows.All
import Wide.All
import OpenK.AllK
import Wide.FinOn
import Lean
import PySem.Challenge.RW_nn0059_01
set_option autoImplicit false
set_option linter.all false
set_option compiler.extract_closed false
set_option genInjectivity false
open PySem PySem.W PySem.Spec PySem.Calls PyProof.Rows
set_option Elab.async false
set_option maxRecDepth 100000
namespace Mine
local macro_rules | `(tactic| o_head $H) => `(tactic| have hook := $H)
theorem seed (h : PySem.Challenge.rw_nn0059_01.row.Holds) : PySem.Challenge.rw_nn0059_01.row.Holds := by
  k_head
  exact h
noncomputable section
set_option linter.unusedVariables false
noncomputable abbrev pw : Program := PySem.Challenge.pw_nn0059_01
noncomputable abbrev KF : Params → Frag := Mine.seed.heap_1
noncomputable def bare (P : Params) (a : Nat) : Obj := match (KF P).lookup a with
  | some ⟨_, _, .func f, _⟩ => { cls := .none, data := .func { name := f.name, qualname := f.qualname, params := f.params, body := f.body, scope := f.scope, globals := 0, closure := [], defaults := .none, kwdefaults := .none } }
  | _ => default
noncomputable def mrg : Nat → List (Nat × Obj) → List (Nat × Obj) → List Obj
  | 0, _, _ => []
  | _, [], b => b.map (·.2)
  | _, a, [] => a.map (·.2)
  | n + 1, (i, x) :: a, (j, y) :: b => match Nat.ble i j with
    | true => x :: mrg n a ((j, y) :: b)
    | false => y :: mrg n ((i, x) :: a) b
noncomputable def put1 : List Obj → Nat → Obj → List Obj
  | [], _, _ => []
  | _ :: l, 0, o => o :: l
  | x :: l, n + 1, o => x :: put1 l n o
mutual
noncomputable def odds : List Obj → List Obj
  | [] => []
  | x :: l => x :: evens l
noncomputable def evens : List Obj → List Obj
  | [] => []
  | _ :: l => odds l
end
noncomputable def bt : Nat → List Obj → BT
  | 0, _ => .nil
  | _, [] => .nil
  | n + 1, x :: l => .node x (bt n (odds l)) (bt n (evens l))
noncomputable def exs (P : Params) : List (Nat × Obj) := [(0, boot_o_0 P),
  (1, boot_o_1 P),
  (4, boot_o_4 P),
  (5, boot_o_5 P),
  (6, boot_o_6 P),
  (7, boot_o_7 P),
  (8, boot_o_8 P),
  (9, boot_o_9 P),
  (10, boot_o_10 P),
  (11, { cls := Value.type "tuple", data := Data.seq #[] }),
  (12, { cls := Value.none, data := Data.fields #[Value.int 1 0, Value.int 0 0, Value.ref 20, Value.int 5 0, Value.int 0 0, Value.ref 27, Value.int 16 0, Value.int 0 0, Value.ref 55, Value.int 18 0, Value.int 0 0, Value.ref 67, Value.int 20 0, Value.int 0 0, Value.ref 79, Value.int 22 0, Value.int 0 0, Value.ref 86, Value.int 24 0, Value.int 0 0, Value.ref 93, Value.int 26 0, Value.int 0 0, Value.ref 100, Value.int 33 0, Value.int 0 0, Value.ref 107, Value.int 44 0, Value.int 0 0, Value.ref 114, Value.int 95 0, Value.int 0 0, Value.ref 191, Value.int 101 0, Value.int 0 0, Value.ref 198, Value.int 110 0, Value.int 0 0, Value.ref 205, Value.int 121 0, Value.int 0 0, Value.ref 212, Value.int 143 0, Value.int 0 0, Value.ref 268, Value.int 153 0, Value.int 0 0, Value.ref 275, Value.int 161 0, Value.int 0 0, Value.ref 282, Value.int 173 0, Value.int 0 0, Value.ref 289, Value.int 176 0, Value.int 0 0, Value.ref 296, Value.int 179 0, Value.int 0 0, Value.ref 303, Value.int 200 0, Value.int 0 0, Value.ref 310, Value.int 206 0, Value.int 0 0, Value.ref 317, Value.int 222 0, Value.int 0 0, Value.ref 324, Value.int 270 0, Value.int 0 0, Value.ref 418, Value.int 274 0, Value.int 0 0, Value.ref 425, Value.int 372 0, Value.int 0 0, Value.ref 535, Value.int 398 0, Value.int 0 0, Value.ref 590, Value.int 400 0, Value.int 0 0, Value.ref 597, Value.int 410 0, Value.int 0 0, Value.ref 604, Value.int 415 0, Value.int 0 0, Value.ref 611, Value.int 425 0, Value.int 0 0, Value.ref 616, Value.int 455 0, Value.int 0 0, Value.ref 621] }),
  (13, { cls := Value.type "code", data := Data.fields #[Value.str (Str.ofString "<module>") 182, Value.str (Str.ofString "<module>") 183, Value.str (Str.ofString "/claim/cut.py") 184, Value.int 1 0, Value.int 0 0, Value.int 0 0, Value.int 0 0, Value.int 0 0, Value.ref 11, Value.bool false, Value.int 181 0, Value.ref 12, Value.none, Value.none, Value.none, Value.none, Value.int 185 0, Value.int 1 0, Value.str (Str.ofString "/claim/cut.py") 186] }),
  (14, { cls := Value.type "frame", slots := #[some (Value.ref 13), some (Value.ref 3), some (Value.ref 3), none, some (Value.str (Str.ofString "__main__") 164), none, some (Value.ref 0)] }),
  (16, { cls := Value.none, data := Data.fields #[] }),
  (19, bare P 21),
  (23, { cls := Value.type "builtin_function_or_method", data := Data.fields #[Value.builtin "type.__prepare__", Value.type "type"] }),
  (24, { cls := Value.type "dict", data := Data.dict #[{ hash := PyData.keyHash P (Str.ofString "__module__"), key := Value.str (Str.ofString "__module__") 203, val := Value.str (Str.ofString "octetmint.basics") 194 }, { hash := PyData.keyHash P (Str.ofString "__qualname__"), key := Value.str (Str.ofString "__qualname__") 205, val := Value.str (Str.ofString "MintError") 204 }, { hash := PyData.keyHash P (Str.ofString "__firstlineno__"), key := Value.str (Str.ofString "__firstlineno__") 207, val := Value.int 5 206 }, { hash := PyData.keyHash P (Str.ofString "__init__"), key := Value.str (Str.ofString "__init__") 216, val := Value.ref 36 }, { hash := PyData.keyHash P (Str.ofString "told"), key := Value.str (Str.ofString "told") 223, val := Value.ref 43 }, { hash := PyData.keyHash P (Str.ofString "__static_attributes__"), key := Value.str (Str.ofString "__static_attributes__") 226, val := Value.ref 44 }] 6 }),
  (25, { cls := Value.type "tuple", data := Data.seq #[] }),
  (26, { cls := Value.none, data := Data.fields #[Value.int 7 0, Value.int 4 0, Value.ref 35, Value.int 12 0, Value.int 4 0, Value.ref 42] }),
  (27, { cls := Value.type "code", data := Data.fields #[Value.str (Str.ofString "MintError") 198, Value.str (Str.ofString "MintError") 199, Value.str (Str.ofString "/claim/cut.py") 200, Value.int 5 0, Value.int 0 0, Value.int 0 0, Value.int 0 0, Value.int 0 0, Value.ref 25, Value.bool false, Value.int 181 0, Value.ref 26, Value.none, Value.none, Value.none, Value.none, Value.int 201 0, Value.int 5 0, Value.str (Str.ofString "/claim/cut.py") 202] }),
  (28, { cls := Value.type "frame", slots := #[some (Value.ref 27), some (Value.ref 3), some (Value.ref 24), none, some (Value.str (Str.ofString "octetmint.basics") 194), none, some (Value.ref 0)] }),
  (31, { cls := Value.none, data := Data.fields #[] }),
  (34, bare P 36),
  (38, { cls := Value.none, data := Data.fields #[] }),
  (41, bare P 43),
  (48, { cls := Value.type "super", data := Data.fields #[Value.ref 46, Value.ref 46, Value.ref 46] }),
  (49, { cls := Value.type "builtin_function_or_method", data := Data.fields #[Value.builtin "object.__init_subclass__", Value.ref 46] }),
  (51, { cls := Value.type "builtin_function_or_method", data := Data.fields #[Value.builtin "type.__prepare__", Value.type "type"] }),
  (52, { cls := Value.type "dict", data := Data.dict #[{ hash := PyData.keyHash P (Str.ofString "__module__"), key := Value.str (Str.ofString "__module__") 241, val := Value.str (Str.ofString "octetmint.basics") 194 }, { hash := PyData.keyHash P (Str.ofString "__qualname__"), key := Value.str (Str.ofString "__qualname__") 243, val := Value.str (Str.ofString "OperandError") 242 }, { hash := PyData.keyHash P (Str.ofString "__firstlineno__"), key := Value.str (Str.ofString "__firstlineno__") 245, val := Value.int 16 244 }, { hash := PyData.keyHash P (Str.ofString "__static_attributes__"), key := Value.str (Str.ofString "__static_attributes__") 246, val := Value.ref 57 }] 4 }),
  (53, { cls := Value.type "tuple", data := Data.seq #[] }),
  (54, { cls := Value.none, data := Data.fields #[] }),
  (55, { cls := Value.type "code", data := Data.fields #[Value.str (Str.ofString "OperandError") 236, Value.str (Str.ofString "OperandError") 237, Value.str (Str.ofString "/claim/cut.py") 238, Value.int 16 0, Value.int 0 0, Value.int 0 0, Value.int 0 0, Value.int 0 0, Value.ref 53, Value.bool false, Value.int 181 0, Value.ref 54, Value.none, Value.none, Value.none, Value.none, Value.int 239 0, Value.int 16 0, Value.str (Str.ofString "/claim/cut.py") 240] }),
  (56, { cls := Value.type "frame", slots := #[some (Value.ref 55), some (Value.ref 3), some (Value.ref 52), none, some (Value.str (Str.ofString "octetmint.basics") 194), none, some (Value.ref 0)] }),
  (60, { cls := Value.type "super", data := Data.fields #[Value.ref 59, Value.ref 59, Value.ref 59] }),
  (61, { cls := Value.type "builtin_function_or_method", data := Data.fields #[Value.builtin "object.__init_subclass__", Value.ref 59] }),
  (63, { cls := Value.type "builtin_function_or_method", data := Data.fields #[Value.builtin "type.__prepare__", Value.type "type"] }),
  (64, { cls := Value.type "dict", data := Data.dict #[{ hash := PyData.keyHash P (Str.ofString "__module__"), key := Value.str (Str.ofString "__module__") 257, val := Value.str (Str.ofString "octetmint.basics") 194 }, { hash := PyData.keyHash P (Str.ofString "__qualname__"), key := Value.str (Str.ofString "__qualname__") 259, val := Value.str (Str.ofString "MachineError") 258 }, { hash := PyData.keyHash P (Str.ofString "__firstlineno__"), key := Value.str (Str.ofString "__firstlineno__") 261, val := Value.int 18 260 }, { hash := PyData.keyHash P (Str.ofString "__static_attributes__"), key := Value.str (Str.ofString "__static_attributes__") 262, val := Value.ref 69 }] 4 }),
  (65, { cls := Value.type "tuple", data := Data.seq #[] }),
  (66, { cls := Value.none, data := Data.fields #[] }),
  (67, { cls := Value.type "code", data := Data.fields #[Value.str (Str.ofString "MachineError") 252, Value.str (Str.ofString "MachineError") 253, Value.str (Str.ofString "/claim/cut.py") 254, Value.int 18 0, Value.int 0 0, Value.int 0 0, Value.int 0 0, Value.int 0 0, Value.ref 65, Value.bool false, Value.int 181 0, Value.ref 66, Value.none, Value.none, Value.none, Value.none, Value.int 255 0, Value.int 18 0, Value.str (Str.ofString "/claim/cut.py") 256] }),
  (68, { cls := Value.type "frame", slots := #[some (Value.ref 67), some (Value.ref 3), some (Value.ref 64), none, some (Value.str (Str.ofString "octetmint.basics") 194), none, some (Value.ref 0)] }),
  (72, { cls := Value.type "super", data := Data.fields #[Value.ref 71, Value.ref 71, Value.ref 71] }),
  (73, { cls := Value.type "builtin_function_or_method", data := Data.fields #[Value.builtin "object.__init_subclass__", Value.ref 71] }),
  (75, { cls := Value.none, data := Data.fields #[] }),
  (78, bare P 80),
  (82, { cls := Value.none, data := Data.fields #[] }),
  (85, bare P 87),
  (89, { cls := Value.none, data := Data.fields #[] }),
  (92, bare P 94),
  (96, { cls := Value.none, data := Data.fields #[] }),
  (99, bare P 101),
  (103, { cls := Value.none, data := Data.fields #[] }),
  (106, bare P 108),
  (109, { cls := Value.type "tuple", data := Data.seq #[] }),
  (110, { cls := Value.type "builtin_function_or_method", data := Data.fields #[Value.builtin "type.__prepare__", Value.type "type"] }),
  (111, { cls := Value.type "dict", data := Data.dict #[{ hash := PyData.keyHash P (Str.ofString "__module__"), key := Value.str (Str.ofString "__module__") 331, val := Value.str (Str.ofString "octetmint.flags") 306 }, { hash := PyData.keyHash P (Str.ofString "__qualname__"), key := Value.str (Str.ofString "__qualname__") 333, val := Value.str (Str.ofString "Flags") 332 }, { hash := PyData.keyHash P (Str.ofString "__firstlineno__"), key := Value.str (Str.ofString "__firstlineno__") 335, val := Value.int 44 334 }, { hash := PyData.keyHash P (Str.ofString "__init__"), key := Value.str (Str.ofString "__init__") 342, val := Value.ref 122 }, { hash := PyData.keyHash P (Str.ofString "told"), key := Value.str (Str.ofString "told") 349, val := Value.ref 129 }, { hash := PyData.keyHash P (Str.ofString "pack"), key := Value.str (Str.ofString "pack") 357, val := Value.ref 136 }, { hash := PyData.keyHash P (Str.ofString "unpack"), key := Value.str (Str.ofString "unpack") 365, val := Value.ref 143 }, { hash := PyData.keyHash P (Str.ofString "unpack_low"), key := Value.str (Str.ofString "unpack_low") 373, val := Value.ref 150 }, { hash := PyData.keyHash P (Str.ofString "copy"), key := Value.str (Str.ofString "copy") 381, val := Value.ref 157 }, { hash := PyData.keyHash P (Str.ofString "get"), key := Value.str (Str.ofString "get") 390, val := Value.ref 164 }, { hash := PyData.keyHash P (Str.ofString "put"), key := Value.str (Str.ofString "put") 402, val := Value.ref 171 }, { hash := PyData.keyHash P (Str.ofString "show"), key := Value.str (Str.ofString "show") 409, val := Value.ref 178 }, { hash := PyData.keyHash P (Str.ofString "__static_attributes__"), key := Value.str (Str.ofString "__static_attributes__") 417, val := Value.ref 179 }] 13 }),
  (112, { cls := Value.type "tuple", data := Data.seq #[] }),
  (113, { cls := Value.none, data := Data.fields #[Value.int 46 0, Value.int 4 0, Value.ref 121, Value.int 55 0, Value.int 4 0, Value.ref 128, Value.int 58 0, Value.int 4 0, Value.ref 135, Value.int 62 0, Value.int 4 0, Value.ref 142, Value.int 71 0, Value.int 4 0, Value.ref 149, Value.int 74 0, Value.int 4 0, Value.ref 156, Value.int 79 0, Value.int 4 0, Value.ref 163, Value.int 85 0, Value.int 4 0, Value.ref 170, Value.int 93 0, Value.int 4 0, Value.ref 177] }),
  (114, { cls := Value.type "code", data := Data.fields #[Value.str (Str.ofString "Flags") 326, Value.str (Str.ofString "Flags") 327, Value.str (Str.ofString "/claim/cut.py") 328, Value.int 44 0, Value.int 0 0, Value.int 0 0, Value.int 0 0, Value.int 0 0, Value.ref 112, Value.bool false, Value.int 181 0, Value.ref 113, Value.none, Value.none, Value.none, Value.none, Value.int 329 0, Value.int 44 0, Value.str (Str.ofString "/claim/cut.py") 330] }),
  (115, { cls := Value.type "frame", slots := #[some (Value.ref 114), some (Value.ref 3), some (Value.ref 111), none, some (Value.str (Str.ofString "octetmint.flags") 306), none, some (Value.ref 0)] }),
  (117, { cls := Value.none, data := Data.fields #[] }),
  (120, bare P 122),
  (124, { cls := Value.none, data := Data.fields #[] }),
  (127, bare P 129),
  (131, { cls := Value.none, data := Data.fields #[] }),
  (134, bare P 136),
  (138, { cls := Value.none, data := Data.fields #[] }),
  (141, bare P 143),
  (145, { cls := Value.none, data := Data.fields #[] }),
  (148, bare P 150),
  (152, { cls := Value.none, data := Data.fields #[] }),
  (155, bare P 157),
  (159, { cls := Value.none, data := Data.fields #[] }),
  (162, bare P 164),
  (166, { cls := Value.none, data := Data.fields #[] }),
  (169, bare P 171),
  (173, { cls := Value.none, data := Data.fields #[] }),
  (176, bare P 178),
  (184, { cls := Value.type "super", data := Data.fields #[Value.ref 181, Value.ref 181, Value.ref 181] }),
  (185, { cls := Value.type "builtin_function_or_method", data := Data.fields #[Value.builtin "object.__init_subclass__", Value.ref 181] }),
  (187, { cls := Value.none, data := Data.fields #[] }),
  (190, bare P 192),
  (194, { cls := Value.none, data := Data.fields #[] }),
  (197, bare P 199),
  (201, { cls := Value.none, data := Data.fields #[] }),
  (204, bare P 206),
  (207, { cls := Value.type "tuple", data := Data.seq #[] }),
  (208, { cls := Value.type "builtin_function_or_method", data := Data.fields #[Value.builtin "type.__prepare__", Value.type "type"] }),
  (209, { cls := Value.type "dict", data := Data.dict #[{ hash := PyData.keyHash P (Str.ofString "__module__"), key := Value.str (Str.ofString "__module__") 477, val := Value.str (Str.ofString "octetmint.registers") 460 }, { hash := PyData.keyHash P (Str.ofString "__qualname__"), key := Value.str (Str.ofString "__qualname__") 479, val := Value.str (Str.ofString "Register") 478 }, { hash := PyData.keyHash P (Str.ofString "__firstlineno__"), key := Value.str (Str.ofString "__firstlineno__") 481, val := Value.int 121 480 }, { hash := PyData.keyHash P (Str.ofString "__init__"), key := Value.str (Str.ofString "__init__") 492, val := Value.ref 220 }, { hash := PyData.keyHash P (Str.ofString "code"), key := Value.str (Str.ofString "code") 499, val := Value.ref 227 }, { hash := PyData.keyHash P (Str.ofString "is_extended"), key := Value.str (Str.ofString "is_extended") 506, val := Value.ref 234 }, { hash := PyData.keyHash P (Str.ofString "is_high"), key := Value.str (Str.ofString "is_high") 513, val := Value.ref 241 }, { hash := PyData.keyHash P (Str.ofString "needs_rex"), key := Value.str (Str.ofString "needs_rex") 520, val := Value.ref 248 }, { hash := PyData.keyHash P (Str.ofString "told"), key := Value.str (Str.ofString "told") 527, val := Value.ref 255 }, { hash := PyData.keyHash P (Str.ofString "__static_attributes__"), key := Value.str (Str.ofString "__static_attributes__") 532, val := Value.ref 256 }] 10 }),
  (210, { cls := Value.type "tuple", data := Data.seq #[] }),
  (211, { cls := Value.none, data := Data.fields #[Value.int 123 0, Value.int 4 0, Value.ref 219, Value.int 129 0, Value.int 4 0, Value.ref 226, Value.int 132 0, Value.int 4 0, Value.ref 233, Value.int 135 0, Value.int 4 0, Value.ref 240, Value.int 138 0, Value.int 4 0, Value.ref 247, Value.int 141 0, Value.int 4 0, Value.ref 254] }),
  (212, { cls := Value.type "code", data := Data.fields #[Value.str (Str.ofString "Register") 472, Value.str (Str.ofString "Register") 473, Value.str (Str.ofString "/claim/cut.py") 474, Value.int 121 0, Value.int 0 0, Value.int 0 0, Value.int 0 0, Value.int 0 0, Value.ref 210, Value.bool false, Value.int 181 0, Value.ref 211, Value.none, Value.none, Value.none, Value.none, Value.int 475 0, Value.int 121 0, Value.str (Str.ofString "/claim/cut.py") 476] }),
  (213, { cls := Value.type "frame", slots := #[some (Value.ref 212), some (Value.ref 3), some (Value.ref 209), none, some (Value.str (Str.ofString "octetmint.registers") 460), none, some (Value.ref 0)] }),
  (215, { cls := Value.none, data := Data.fields #[] }),
  (218, bare P 220),
  (222, { cls := Value.none, data := Data.fields #[] }),
  (225, bare P 227),
  (229, { cls := Value.none, data := Data.fields #[] }),
  (232, bare P 234),
  (236, { cls := Value.none, data := Data.fields #[] }),
  (239, bare P 241),
  (243, { cls := Value.none, data := Data.fields #[] }),
  (246, bare P 248),
  (250, { cls := Value.none, data := Data.fields #[] }),
  (253, bare P 255),
  (261, { cls := Value.type "super", data := Data.fields #[Value.ref 258, Value.ref 258, Value.ref 258] }),
  (262, { cls := Value.type "builtin_function_or_method", data := Data.fields #[Value.builtin "object.__init_subclass__", Value.ref 258] }),
  (264, { cls := Value.none, data := Data.fields #[] }),
  (267, bare P 269),
  (271, { cls := Value.none, data := Data.fields #[] }),
  (274, bare P 276),
  (278, { cls := Value.none, data := Data.fields #[] }),
  (281, bare P 283),
  (285, { cls := Value.none, data := Data.fields #[] }),
  (288, bare P 290),
  (292, { cls := Value.none, data := Data.fields #[] }),
  (295, bare P 297),
  (299, { cls := Value.none, data := Data.fields #[] }),
  (302, bare P 304),
  (306, { cls := Value.none, data := Data.fields #[] }),
  (309, bare P 311),
  (313, { cls := Value.none, data := Data.fields #[] }),
  (316, bare P 318),
  (319, { cls := Value.type "tuple", data := Data.seq #[] }),
  (320, { cls := Value.type "builtin_function_or_method", data := Data.fields #[Value.builtin "type.__prepare__", Value.type "type"] }),
  (321, { cls := Value.type "dict", data := Data.dict #[{ hash := PyData.keyHash P (Str.ofString "__module__"), key := Value.str (Str.ofString "__module__") 631, val := Value.str (Str.ofString "octetmint.machine") 622 }, { hash := PyData.keyHash P (Str.ofString "__qualname__"), key := Value.str (Str.ofString "__qualname__") 633, val := Value.str (Str.ofString "Memory") 632 }, { hash := PyData.keyHash P (Str.ofString "__firstlineno__"), key := Value.str (Str.ofString "__firstlineno__") 635, val := Value.int 222 634 }, { hash := PyData.keyHash P (Str.ofString "__init__"), key := Value.str (Str.ofString "__init__") 642, val := Value.ref 332 }, { hash := PyData.keyHash P (Str.ofString "octet"), key := Value.str (Str.ofString "octet") 650, val := Value.ref 339 }, { hash := PyData.keyHash P (Str.ofString "set_octet"), key := Value.str (Str.ofString "set_octet") 659, val := Value.ref 346 }, { hash := PyData.keyHash P (Str.ofString "read"), key := Value.str (Str.ofString "read") 670, val := Value.ref 353 }, { hash := PyData.keyHash P (Str.ofString "write"), key := Value.str (Str.ofString "write") 681, val := Value.ref 360 }, { hash := PyData.keyHash P (Str.ofString "load"), key := Value.str (Str.ofString "load") 692, val := Value.ref 367 }, { hash := PyData.keyHash P (Str.ofString "octets"), key := Value.str (Str.ofString "octets") 698, val := Value.ref 372 }, { hash := PyData.keyHash P (Str.ofString "written"), key := Value.str (Str.ofString "written") 704, val := Value.ref 377 }, { hash := PyData.keyHash P (Str.ofString "spans"), key := Value.str (Str.ofString "spans") 711, val := Value.ref 384 }, { hash := PyData.keyHash P (Str.ofString "find"), key := Value.str (Str.ofString "find") 722, val := Value.ref 391 }, { hash := PyData.keyHash P (Str.ofString "copy"), key := Value.str (Str.ofString "copy") 731, val := Value.ref 398 }, { hash := PyData.keyHash P (Str.ofString "told"), key := Value.str (Str.ofString "told") 738, val := Value.ref 405 }, { hash := PyData.keyHash P (Str.ofString "__static_attributes__"), key := Value.str (Str.ofString "__static_attributes__") 740, val := Value.ref 406 }] 16 }),
  (322, { cls := Value.type "tuple", data := Data.seq #[] }),
  (323, { cls := Value.none, data := Data.fields #[Value.int 224 0, Value.int 4 0, Value.ref 331, Value.int 227 0, Value.int 4 0, Value.ref 338, Value.int 230 0, Value.int 4 0, Value.ref 345, Value.int 233 0, Value.int 4 0, Value.ref 352, Value.int 239 0, Value.int 4 0, Value.ref 359, Value.int 243 0, Value.int 4 0, Value.ref 366, Value.int 247 0, Value.int 4 0, Value.ref 371, Value.int 250 0, Value.int 4 0, Value.ref 376, Value.int 253 0, Value.int 4 0, Value.ref 383, Value.int 256 0, Value.int 4 0, Value.ref 390, Value.int 262 0, Value.int 4 0, Value.ref 397, Value.int 268 0, Value.int 4 0, Value.ref 404] }),
  (324, { cls := Value.type "code", data := Data.fields #[Value.str (Str.ofString "Memory") 626, Value.str (Str.ofString "Memory") 627, Value.str (Str.ofString "/claim/cut.py") 628, Value.int 222 0, Value.int 0 0, Value.int 0 0, Value.int 0 0, Value.int 0 0, Value.ref 322, Value.bool false, Value.int 181 0, Value.ref 323, Value.none, Value.none, Value.none, Value.none, Value.int 629 0, Value.int 222 0, Value.str (Str.ofString "/claim/cut.py") 630] }),
  (325, { cls := Value.type "frame", slots := #[some (Value.ref 324), some (Value.ref 3), some (Value.ref 321), none, some (Value.str (Str.ofString "octetmint.machine") 622), none, some (Value.ref 0)] }),
  (327, { cls := Value.none, data := Data.fields #[] }),
  (330, bare P 332),
  (334, { cls := Value.none, data := Data.fields #[] }),
  (337, bare P 339),
  (341, { cls := Value.none, data := Data.fields #[] }),
  (344, bare P 346),
  (348, { cls := Value.none, data := Data.fields #[] }),
  (351, bare P 353),
  (355, { cls := Value.none, data := Data.fields #[] }),
  (358, bare P 360),
  (362, { cls := Value.none, data := Data.fields #[] }),
  (365, bare P 367),
  (369, { cls := Value.none, data := Data.fields #[] }),
  (370, bare P 372),
  (374, { cls := Value.none, data := Data.fields #[] }),
  (375, bare P 377),
  (379, { cls := Value.none, data := Data.fields #[] }),
  (382, bare P 384),
  (386, { cls := Value.none, data := Data.fields #[] }),
  (389, bare P 391),
  (393, { cls := Value.none, data := Data.fields #[] }),
  (396, bare P 398),
  (400, { cls := Value.none, data := Data.fields #[] }),
  (403, bare P 405),
  (411, { cls := Value.type "super", data := Data.fields #[Value.ref 408, Value.ref 408, Value.ref 408] }),
  (412, { cls := Value.type "builtin_function_or_method", data := Data.fields #[Value.builtin "object.__init_subclass__", Value.ref 408] }),
  (414, { cls := Value.none, data := Data.fields #[] }),
  (417, bare P 419),
  (420, { cls := Value.type "tuple", data := Data.seq #[] }),
  (421, { cls := Value.type "builtin_function_or_method", data := Data.fields #[Value.builtin "type.__prepare__", Value.type "type"] }),
  (422, { cls := Value.type "dict", data := Data.dict #[{ hash := PyData.keyHash P (Str.ofString "__module__"), key := Value.str (Str.ofString "__module__") 764, val := Value.str (Str.ofString "octetmint.machine") 622 }, { hash := PyData.keyHash P (Str.ofString "__qualname__"), key := Value.str (Str.ofString "__qualname__") 766, val := Value.str (Str.ofString "State") 765 }, { hash := PyData.keyHash P (Str.ofString "__firstlineno__"), key := Value.str (Str.ofString "__firstlineno__") 768, val := Value.int 274 767 }, { hash := PyData.keyHash P (Str.ofString "__init__"), key := Value.str (Str.ofString "__init__") 776, val := Value.ref 433 }, { hash := PyData.keyHash P (Str.ofString "get"), key := Value.str (Str.ofString "get") 784, val := Value.ref 440 }, { hash := PyData.keyHash P (Str.ofString "put"), key := Value.str (Str.ofString "put") 794, val := Value.ref 447 }, { hash := PyData.keyHash P (Str.ofString "put_low"), key := Value.str (Str.ofString "put_low") 805, val := Value.ref 454 }, { hash := PyData.keyHash P (Str.ofString "registers"), key := Value.str (Str.ofString "registers") 811, val := Value.ref 459 }, { hash := PyData.keyHash P (Str.ofString "offset"), key := Value.str (Str.ofString "offset") 820, val := Value.ref 466 }, { hash := PyData.keyHash P (Str.ofString "place"), key := Value.str (Str.ofString "place") 829, val := Value.ref 473 }, { hash := PyData.keyHash P (Str.ofString "size_of"), key := Value.str (Str.ofString "size_of") 838, val := Value.ref 480 }, { hash := PyData.keyHash P (Str.ofString "read"), key := Value.str (Str.ofString "read") 847, val := Value.ref 487 }, { hash := PyData.keyHash P (Str.ofString "write"), key := Value.str (Str.ofString "write") 857, val := Value.ref 494 }, { hash := PyData.keyHash P (Str.ofString "push"), key := Value.str (Str.ofString "push") 866, val := Value.ref 501 }, { hash := PyData.keyHash P (Str.ofString "pop"), key := Value.str (Str.ofString "pop") 874, val := Value.ref 508 }, { hash := PyData.keyHash P (Str.ofString "told"), key := Value.str (Str.ofString "told") 882, val := Value.ref 515 }, { hash := PyData.keyHash P (Str.ofString "copy"), key := Value.str (Str.ofString "copy") 890, val := Value.ref 522 }, { hash := PyData.keyHash P (Str.ofString "__static_attributes__"), key := Value.str (Str.ofString "__static_attributes__") 900, val := Value.ref 523 }] 18 }),
  (423, { cls := Value.type "tuple", data := Data.seq #[] }),
  (424, { cls := Value.none, data := Data.fields #[Value.int 276 0, Value.int 4 0, Value.ref 432, Value.int 287 0, Value.int 4 0, Value.ref 439, Value.int 298 0, Value.int 4 0, Value.ref 446, Value.int 310 0, Value.int 4 0, Value.ref 453, Value.int 317 0, Value.int 4 0, Value.ref 458, Value.int 320 0, Value.int 4 0, Value.ref 465, Value.int 328 0, Value.int 4 0, Value.ref 472, Value.int 332 0, Value.int 4 0, Value.ref 479, Value.int 335 0, Value.int 4 0, Value.ref 486, Value.int 342 0, Value.int 4 0, Value.ref 493, Value.int 350 0, Value.int 4 0, Value.ref 500, Value.int 353 0, Value.int 4 0, Value.ref 507, Value.int 356 0, Value.int 4 0, Value.ref 514, Value.int 360 0, Value.int 4 0, Value.ref 521] }),
  (425, { cls := Value.type "code", data := Data.fields #[Value.str (Str.ofString "State") 759, Value.str (Str.ofString "State") 760, Value.str (Str.ofString "/claim/cut.py") 761, Value.int 274 0, Value.int 0 0, Value.int 0 0, Value.int 0 0, Value.int 0 0, Value.ref 423, Value.bool false, Value.int 181 0, Value.ref 424, Value.none, Value.none, Value.none, Value.none, Value.int 762 0, Value.int 274 0, Value.str (Str.ofString "/claim/cut.py") 763] }),
  (426, { cls := Value.type "frame", slots := #[some (Value.ref 425), some (Value.ref 3), some (Value.ref 422), none, some (Value.str (Str.ofString "octetmint.machine") 622), none, some (Value.ref 0)] }),
  (428, { cls := Value.none, data := Data.fields #[] }),
  (431, bare P 433),
  (435, { cls := Value.none, data := Data.fields #[] }),
  (438, bare P 440),
  (442, { cls := Value.none, data := Data.fields #[] }),
  (445, bare P 447),
  (449, { cls := Value.none, data := Data.fields #[] }),
  (452, bare P 454),
  (456, { cls := Value.none, data := Data.fields #[] }),
  (457, bare P 459),
  (461, { cls := Value.none, data := Data.fields #[] }),
  (464, bare P 466),
  (468, { cls := Value.none, data := Data.fields #[] }),
  (471, bare P 473),
  (475, { cls := Value.none, data := Data.fields #[] }),
  (478, bare P 480),
  (482, { cls := Value.none, data := Data.fields #[] }),
  (485, bare P 487),
  (489, { cls := Value.none, data := Data.fields #[] }),
  (492, bare P 494),
  (496, { cls := Value.none, data := Data.fields #[] }),
  (499, bare P 501),
  (503, { cls := Value.none, data := Data.fields #[] }),
  (506, bare P 508),
  (510, { cls := Value.none, data := Data.fields #[] }),
  (513, bare P 515),
  (517, { cls := Value.none, data := Data.fields #[] }),
  (520, bare P 522),
  (528, { cls := Value.type "super", data := Data.fields #[Value.ref 525, Value.ref 525, Value.ref 525] }),
  (529, { cls := Value.type "builtin_function_or_method", data := Data.fields #[Value.builtin "object.__init_subclass__", Value.ref 525] }),
  (530, { cls := Value.type "tuple", data := Data.seq #[] }),
  (531, { cls := Value.type "builtin_function_or_method", data := Data.fields #[Value.builtin "type.__prepare__", Value.type "type"] }),
  (532, { cls := Value.type "dict", data := Data.dict #[{ hash := PyData.keyHash P (Str.ofString "__module__"), key := Value.str (Str.ofString "__module__") 917, val := Value.str (Str.ofString "octetmint.operands") 908 }, { hash := PyData.keyHash P (Str.ofString "__qualname__"), key := Value.str (Str.ofString "__qualname__") 919, val := Value.str (Str.ofString "Instruction") 918 }, { hash := PyData.keyHash P (Str.ofString "__firstlineno__"), key := Value.str (Str.ofString "__firstlineno__") 921, val := Value.int 372 920 }, { hash := PyData.keyHash P (Str.ofString "__init__"), key := Value.str (Str.ofString "__init__") 932, val := Value.ref 544 }, { hash := PyData.keyHash P (Str.ofString "told"), key := Value.str (Str.ofString "told") 938, val := Value.ref 549 }, { hash := PyData.keyHash P (Str.ofString "memory_at"), key := Value.str (Str.ofString "memory_at") 947, val := Value.ref 556 }, { hash := PyData.keyHash P (Str.ofString "memory"), key := Value.str (Str.ofString "memory") 955, val := Value.ref 563 }, { hash := PyData.keyHash P (Str.ofString "symbols"), key := Value.str (Str.ofString "symbols") 962, val := Value.ref 570 }, { hash := PyData.keyHash P (Str.ofString "replaced"), key := Value.str (Str.ofString "replaced") 971, val := Value.ref 577 }, { hash := PyData.keyHash P (Str.ofString "__static_attributes__"), key := Value.str (Str.ofString "__static_attributes__") 975, val := Value.ref 578 }] 10 }),
  (533, { cls := Value.type "tuple", data := Data.seq #[] }),
  (534, { cls := Value.none, data := Data.fields #[Value.int 374 0, Value.int 4 0, Value.ref 543, Value.int 379 0, Value.int 4 0, Value.ref 548, Value.int 382 0, Value.int 4 0, Value.ref 555, Value.int 388 0, Value.int 4 0, Value.ref 562, Value.int 392 0, Value.int 4 0, Value.ref 569, Value.int 395 0, Value.int 4 0, Value.ref 576] }),
  (535, { cls := Value.type "code", data := Data.fields #[Value.str (Str.ofString "Instruction") 912, Value.str (Str.ofString "Instruction") 913, Value.str (Str.ofString "/claim/cut.py") 914, Value.int 372 0, Value.int 0 0, Value.int 0 0, Value.int 0 0, Value.int 0 0, Value.ref 533, Value.bool false, Value.int 181 0, Value.ref 534, Value.none, Value.none, Value.none, Value.none, Value.int 915 0, Value.int 372 0, Value.str (Str.ofString "/claim/cut.py") 916] }),
  (536, { cls := Value.type "frame", slots := #[some (Value.ref 535), some (Value.ref 3), some (Value.ref 532), none, some (Value.str (Str.ofString "octetmint.operands") 908), none, some (Value.ref 0)] }),
  (539, { cls := Value.none, data := Data.fields #[] }),
  (542, bare P 544),
  (546, { cls := Value.none, data := Data.fields #[] }),
  (547, bare P 549),
  (551, { cls := Value.none, data := Data.fields #[] }),
  (554, bare P 556),
  (558, { cls := Value.none, data := Data.fields #[] }),
  (561, bare P 563),
  (565, { cls := Value.none, data := Data.fields #[] }),
  (568, bare P 570),
  (572, { cls := Value.none, data := Data.fields #[] }),
  (575, bare P 577),
  (583, { cls := Value.type "super", data := Data.fields #[Value.ref 580, Value.ref 580, Value.ref 580] }),
  (584, { cls := Value.type "builtin_function_or_method", data := Data.fields #[Value.builtin "object.__init_subclass__", Value.ref 580] }),
  (586, { cls := Value.none, data := Data.fields #[] }),
  (589, bare P 591),
  (593, { cls := Value.none, data := Data.fields #[] }),
  (596, bare P 598),
  (600, { cls := Value.none, data := Data.fields #[] }),
  (603, bare P 605),
  (607, { cls := Value.none, data := Data.fields #[] }),
  (610, bare P 612),
  (614, { cls := Value.none, data := Data.fields #[] }),
  (615, bare P 617),
  (619, { cls := Value.none, data := Data.fields #[] }),
  (620, bare P 622)]
noncomputable def objs (P : Params) : List Obj := mrg 700 (KF P) (exs P)
noncomputable def ob_100_2 (P : Params) : Obj := { cls := Value.none, data := Data.dict #[] }
noncomputable def ob_100_3 (P : Params) : Obj := { cls := Value.type "dict", data := Data.dict #[{ hash := PyData.keyHash P (Str.ofString "__name__"), key := Value.str (Str.ofString "__name__") 165, val := Value.str (Str.ofString "__main__") 164 }, { hash := PyData.keyHash P (Str.ofString "__doc__"), key := Value.str (Str.ofString "__doc__") 166, val := Value.none }, { hash := PyData.keyHash P (Str.ofString "__package__"), key := Value.str (Str.ofString "__package__") 167, val := Value.none }, { hash := PyData.keyHash P (Str.ofString "__loader__"), key := Value.str (Str.ofString "__loader__") 168, val := Value.builtin "__main__.__loader__#opaque" }, { hash := PyData.keyHash P (Str.ofString "__spec__"), key := Value.str (Str.ofString "__spec__") 169, val := Value.none }, { hash := PyData.keyHash P (Str.ofString "__annotations__"), key := Value.str (Str.ofString "__annotations__") 170, val := Value.ref 6 }, { hash := PyData.keyHash P (Str.ofString "__builtins__"), key := Value.str (Str.ofString "__builtins__") 171, val := Value.ref 4 }, { hash := PyData.keyHash P (Str.ofString "__file__"), key := Value.str (Str.ofString "__file__") 173, val := Value.str (Str.ofString "/claim/cut.py") 172 }, { hash := PyData.keyHash P (Str.ofString "__cached__"), key := Value.str (Str.ofString "__cached__") 174, val := Value.none }] 9 }
noncomputable def ob_100_12 (P : Params) : Obj := { cls := Value.none, data := Data.fields #[] }
noncomputable def ob_19_3 (P : Params) : Obj := { cls := Value.type "dict", data := Data.dict #[{ hash := PyData.keyHash P (Str.ofString "__name__"), key := Value.str (Str.ofString "__name__") 165, val := Value.str (Str.ofString "octetmint.flags") 306 }, { hash := PyData.keyHash P (Str.ofString "__doc__"), key := Value.str (Str.ofString "__doc__") 166, val := Value.none }, { hash := PyData.keyHash P (Str.ofString "__package__"), key := Value.str (Str.ofString "__package__") 167, val := Value.none }, { hash := PyData.keyHash P (Str.ofString "__loader__"), key := Value.str (Str.ofString "__loader__") 168, val := Value.builtin "__main__.__loader__#opaque" }, { hash := PyData.keyHash P (Str.ofString "__spec__"), key := Value.str (Str.ofString "__spec__") 169, val := Value.none }, { hash := PyData.keyHash P (Str.ofString "__annotations__"), key := Value.str (Str.ofString "__annotations__") 170, val := Value.ref 6 }, { hash := PyData.keyHash P (Str.ofString "__builtins__"), key := Value.str (Str.ofString "__builtins__") 171, val := Value.ref 4 }, { hash := PyData.keyHash P (Str.ofString "__file__"), key := Value.str (Str.ofString "__file__") 173, val := Value.str (Str.ofString "/claim/cut.py") 172 }, { hash := PyData.keyHash P (Str.ofString "__cached__"), key := Value.str (Str.ofString "__cached__") 174, val := Value.none }, { hash := PyData.keyHash P (Str.ofString "_wall"), key := Value.str (Str.ofString "_wall") 193, val := Value.ref 21 }, { hash := PyData.keyHash P (Str.ofString "MintError"), key := Value.str (Str.ofString "MintError") 233, val := Value.ref 46 }, { hash := PyData.keyHash P (Str.ofString "OperandError"), key := Value.str (Str.ofString "OperandError") 249, val := Value.ref 59 }, { hash := PyData.keyHash P (Str.ofString "MachineError"), key := Value.str (Str.ofString "MachineError") 265, val := Value.ref 71 }, { hash := PyData.keyHash P (Str.ofString "mask"), key := Value.str (Str.ofString "mask") 272, val := Value.ref 80 }, { hash := PyData.keyHash P (Str.ofString "wrap"), key := Value.str (Str.ofString "wrap") 280, val := Value.ref 87 }, { hash := PyData.keyHash P (Str.ofString "bit"), key := Value.str (Str.ofString "bit") 288, val := Value.ref 94 }, { hash := PyData.keyHash P (Str.ofString "ones"), key := Value.str (Str.ofString "ones") 298, val := Value.ref 101 }, { hash := PyData.keyHash P (Str.ofString "parity"), key := Value.str (Str.ofString "parity") 305, val := Value.ref 108 }, { hash := PyData.keyHash P (Str.ofString "CF"), key := Value.str (Str.ofString "CF") 309, val := Value.int 0 308 }, { hash := PyData.keyHash P (Str.ofString "PF"), key := Value.str (Str.ofString "PF") 311, val := Value.int 2 310 }, { hash := PyData.keyHash P (Str.ofString "AF"), key := Value.str (Str.ofString "AF") 313, val := Value.int 4 312 }, { hash := PyData.keyHash P (Str.ofString "ZF"), key := Value.str (Str.ofString "ZF") 315, val := Value.int 6 314 }, { hash := PyData.keyHash P (Str.ofString "SF"), key := Value.str (Str.ofString "SF") 317, val := Value.int 7 316 }, { hash := PyData.keyHash P (Str.ofString "DF"), key := Value.str (Str.ofString "DF") 319, val := Value.int 10 318 }, { hash := PyData.keyHash P (Str.ofString "OF"), key := Value.str (Str.ofString "OF") 321, val := Value.int 11 320 }, { hash := PyData.keyHash P (Str.ofString "FLAG_NAMES"), key := Value.str (Str.ofString "FLAG_NAMES") 323, val := Value.str (Str.ofString "cf pf af zf sf of df") 322 }, { hash := PyData.keyHash P (Str.ofString "Flags"), key := Value.str (Str.ofString "Flags") 424, val := Value.ref 181 }] 27 }
noncomputable def ob_19_12 (P : Params) : Obj := { cls := Value.none, data := Data.fields #[Value.int 1 0, Value.int 0 0, Value.ref 20, Value.int 5 0, Value.int 0 0, Value.ref 27, Value.int 16 0, Value.int 0 0, Value.ref 55, Value.int 18 0, Value.int 0 0, Value.ref 67, Value.int 20 0, Value.int 0 0, Value.ref 79, Value.int 22 0, Value.int 0 0, Value.ref 86, Value.int 24 0, Value.int 0 0, Value.ref 93, Value.int 26 0, Value.int 0 0, Value.ref 100, Value.int 33 0, Value.int 0 0, Value.ref 107, Value.int 44 0, Value.int 0 0, Value.ref 114] }
noncomputable def ob_44_3 (P : Params) : Obj := { cls := Value.type "dict", data := Data.dict #[{ hash := PyData.keyHash P (Str.ofString "__name__"), key := Value.str (Str.ofString "__name__") 165, val := Value.str (Str.ofString "octetmint.machine") 622 }, { hash := PyData.keyHash P (Str.ofString "__doc__"), key := Value.str (Str.ofString "__doc__") 166, val := Value.none }, { hash := PyData.keyHash P (Str.ofString "__package__"), key := Value.str (Str.ofString "__package__") 167, val := Value.none }, { hash := PyData.keyHash P (Str.ofString "__loader__"), key := Value.str (Str.ofString "__loader__") 168, val := Value.builtin "__main__.__loader__#opaque" }, { hash := PyData.keyHash P (Str.ofString "__spec__"), key := Value.str (Str.ofString "__spec__") 169, val := Value.none }, { hash := PyData.keyHash P (Str.ofString "__annotations__"), key := Value.str (Str.ofString "__annotations__") 170, val := Value.ref 6 }, { hash := PyData.keyHash P (Str.ofString "__builtins__"), key := Value.str (Str.ofString "__builtins__") 171, val := Value.ref 4 }, { hash := PyData.keyHash P (Str.ofString "__file__"), key := Value.str (Str.ofString "__file__") 173, val := Value.str (Str.ofString "/claim/cut.py") 172 }, { hash := PyData.keyHash P (Str.ofString "__cached__"), key := Value.str (Str.ofString "__cached__") 174, val := Value.none }, { hash := PyData.keyHash P (Str.ofString "_wall"), key := Value.str (Str.ofString "_wall") 193, val := Value.ref 21 }, { hash := PyData.keyHash P (Str.ofString "MintError"), key := Value.str (Str.ofString "MintError") 233, val := Value.ref 46 }, { hash := PyData.keyHash P (Str.ofString "OperandError"), key := Value.str (Str.ofString "OperandError") 249, val := Value.ref 59 }, { hash := PyData.keyHash P (Str.ofString "MachineError"), key := Value.str (Str.ofString "MachineError") 265, val := Value.ref 71 }, { hash := PyData.keyHash P (Str.ofString "mask"), key := Value.str (Str.ofString "mask") 272, val := Value.ref 80 }, { hash := PyData.keyHash P (Str.ofString "wrap"), key := Value.str (Str.ofString "wrap") 280, val := Value.ref 87 }, { hash := PyData.keyHash P (Str.ofString "bit"), key := Value.str (Str.ofString "bit") 288, val := Value.ref 94 }, { hash := PyData.keyHash P (Str.ofString "ones"), key := Value.str (Str.ofString "ones") 298, val := Value.ref 101 }, { hash := PyData.keyHash P (Str.ofString "parity"), key := Value.str (Str.ofString "parity") 305, val := Value.ref 108 }, { hash := PyData.keyHash P (Str.ofString "CF"), key := Value.str (Str.ofString "CF") 309, val := Value.int 0 308 }, { hash := PyData.keyHash P (Str.ofString "PF"), key := Value.str (Str.ofString "PF") 311, val := Value.int 2 310 }, { hash := PyData.keyHash P (Str.ofString "AF"), key := Value.str (Str.ofString "AF") 313, val := Value.int 4 312 }, { hash := PyData.keyHash P (Str.ofString "ZF"), key := Value.str (Str.ofString "ZF") 315, val := Value.int 6 314 }, { hash := PyData.keyHash P (Str.ofString "SF"), key := Value.str (Str.ofString "SF") 317, val := Value.int 7 316 }, { hash := PyData.keyHash P (Str.ofString "DF"), key := Value.str (Str.ofString "DF") 319, val := Value.int 10 318 }, { hash := PyData.keyHash P (Str.ofString "OF"), key := Value.str (Str.ofString "OF") 321, val := Value.int 11 320 }, { hash := PyData.keyHash P (Str.ofString "FLAG_NAMES"), key := Value.str (Str.ofString "FLAG_NAMES") 323, val := Value.str (Str.ofString "cf pf af zf sf of df") 322 }, { hash := PyData.keyHash P (Str.ofString "Flags"), key := Value.str (Str.ofString "Flags") 424, val := Value.ref 181 }, { hash := PyData.keyHash P (Str.ofString "szp"), key := Value.str (Str.ofString "szp") 434, val := Value.ref 192 }, { hash := PyData.keyHash P (Str.ofString "sub_flags"), key := Value.str (Str.ofString "sub_flags") 449, val := Value.ref 199 }, { hash := PyData.keyHash P (Str.ofString "string_stem"), key := Value.str (Str.ofString "string_stem") 459, val := Value.ref 206 }, { hash := PyData.keyHash P (Str.ofString "NAMES_8"), key := Value.str (Str.ofString "NAMES_8") 463, val := Value.str (Str.ofString "al cl dl bl spl bpl sil dil") 462 }, { hash := PyData.keyHash P (Str.ofString "NAMES_16"), key := Value.str (Str.ofString "NAMES_16") 465, val := Value.str (Str.ofString "ax cx dx bx sp bp si di") 464 }, { hash := PyData.keyHash P (Str.ofString "NAMES_32"), key := Value.str (Str.ofString "NAMES_32") 467, val := Value.str (Str.ofString "eax ecx edx ebx esp ebp esi edi") 466 }, { hash := PyData.keyHash P (Str.ofString "NAMES_64"), key := Value.str (Str.ofString "NAMES_64") 469, val := Value.str (Str.ofString "rax rcx rdx rbx rsp rbp rsi rdi") 468 }, { hash := PyData.keyHash P (Str.ofString "Register"), key := Value.str (Str.ofString "Register") 539, val := Value.ref 258 }, { hash := PyData.keyHash P (Str.ofString "early_names"), key := Value.str (Str.ofString "early_names") 546, val := Value.ref 269 }, { hash := PyData.keyHash P (Str.ofString "late_ending"), key := Value.str (Str.ofString "late_ending") 553, val := Value.ref 276 }, { hash := PyData.keyHash P (Str.ofString "gpr"), key := Value.str (Str.ofString "gpr") 562, val := Value.ref 283 }, { hash := PyData.keyHash P (Str.ofString "RAX"), key := Value.str (Str.ofString "RAX") 566, val := Value.int 0 565 }, { hash := PyData.keyHash P (Str.ofString "RCX"), key := Value.str (Str.ofString "RCX") 568, val := Value.int 1 567 }, { hash := PyData.keyHash P (Str.ofString "RSI"), key := Value.str (Str.ofString "RSI") 570, val := Value.int 6 569 }, { hash := PyData.keyHash P (Str.ofString "RDI"), key := Value.str (Str.ofString "RDI") 572, val := Value.int 7 571 }, { hash := PyData.keyHash P (Str.ofString "count_down"), key := Value.str (Str.ofString "count_down") 579, val := Value.ref 290 }, { hash := PyData.keyHash P (Str.ofString "go_on"), key := Value.str (Str.ofString "go_on") 589, val := Value.ref 297 }, { hash := PyData.keyHash P (Str.ofString "string_round"), key := Value.str (Str.ofString "string_round") 601, val := Value.ref 304 }, { hash := PyData.keyHash P (Str.ofString "is_last"), key := Value.str (Str.ofString "is_last") 610, val := Value.ref 311 }, { hash := PyData.keyHash P (Str.ofString "string_deed"), key := Value.str (Str.ofString "string_deed") 621, val := Value.ref 318 }, { hash := PyData.keyHash P (Str.ofString "Memory"), key := Value.str (Str.ofString "Memory") 747, val := Value.ref 408 }] 48 }
noncomputable def ob_44_12 (P : Params) : Obj := { cls := Value.none, data := Data.fields #[Value.int 1 0, Value.int 0 0, Value.ref 20, Value.int 5 0, Value.int 0 0, Value.ref 27, Value.int 16 0, Value.int 0 0, Value.ref 55, Value.int 18 0, Value.int 0 0, Value.ref 67, Value.int 20 0, Value.int 0 0, Value.ref 79, Value.int 22 0, Value.int 0 0, Value.ref 86, Value.int 24 0, Value.int 0 0, Value.ref 93, Value.int 26 0, Value.int 0 0, Value.ref 100, Value.int 33 0, Value.int 0 0, Value.ref 107, Value.int 44 0, Value.int 0 0, Value.ref 114, Value.int 95 0, Value.int 0 0, Value.ref 191, Value.int 101 0, Value.int 0 0, Value.ref 198, Value.int 110 0, Value.int 0 0, Value.ref 205, Value.int 121 0, Value.int 0 0, Value.ref 212, Value.int 143 0, Value.int 0 0, Value.ref 268, Value.int 153 0, Value.int 0 0, Value.ref 275, Value.int 161 0, Value.int 0 0, Value.ref 282, Value.int 173 0, Value.int 0 0, Value.ref 289, Value.int 176 0, Value.int 0 0, Value.ref 296, Value.int 179 0, Value.int 0 0, Value.ref 303, Value.int 200 0, Value.int 0 0, Value.ref 310, Value.int 206 0, Value.int 0 0, Value.ref 317, Value.int 222 0, Value.int 0 0, Value.ref 324] }
noncomputable def tr_100 (P : Params) : BT := bt 12 (put1 (put1 (put1 ((objs P).take 15) 2 (ob_100_2 P)) 3 (ob_100_3 P)) 12 (ob_100_12 P))
noncomputable def st_100 (w : World) (os : OsState) : SharedT := ⟨tr_100 w.params, 15, {}, Array.mk [], {}, 187, os⟩
noncomputable def tr_19 (P : Params) : BT := bt 12 (put1 (put1 ((objs P).take 186) 3 (ob_19_3 P)) 12 (ob_19_12 P))
noncomputable def st_19 (w : World) (os : OsState) : SharedT := ⟨tr_19 w.params, 186, {}, Array.mk [], {}, 425, os⟩
noncomputable def tr_44 (P : Params) : BT := bt 12 (put1 (put1 ((objs P).take 413) 3 (ob_44_3 P)) 12 (ob_44_12 P))
noncomputable def st_44 (w : World) (os : OsState) : SharedT := ⟨tr_44 w.params, 413, {}, Array.mk [], {}, 748, os⟩
noncomputable def tr_200 (P : Params) : BT := bt 12 ((objs P).take 623)
noncomputable def st_200 (w : World) (os : OsState) : SharedT := ⟨tr_200 w.params, 623, {}, Array.mk [], {}, 1042, os⟩

noncomputable def p0 : Pos := ⟨0, 0, 0, 0⟩
noncomputable def stm : List Stmt := behindTheImports pw
noncomputable def stA : List Stmt := stm.take 20
noncomputable def stB : List Stmt := (stm.drop 20).take 25
noncomputable def stC : List Stmt := stm.drop 45
noncomputable def en0 : Env := { scope := pw.main.scope, locals := mainNs, globals := mainNs, cells := [], code := .ref 13, frame := some 14 }
noncomputable def cE : Code := .body stm en0
noncomputable abbrev an0 : Option Value := some (.ref 6)
theorem pre1 (w : World) (os : OsState) : topGo treeTable pw w 11 an0 12 ⟨boot_heap w.params, Array.mk [], boot_drawn, boot_toks, os⟩ (topStub pw) = some ((st_100 w os).abs, ⟨denote treeTable cE, cE, p0, [topFrame p0]⟩) := by kernel_rfl!
theorem blk (w : World) (os : OsState) : segRun treeTable pw w 11 an0 1 1 (st_100 w os).abs (blockOf stm en0 cE p0 [topFrame p0]) = some (.next, (st_100 w os).abs, cE, p0) := by kernel_rfl!
theorem lA (w : World) (os : OsState) : segRunT treeTable pw w 11 an0 1 1500 (st_100 w os) (piecesOf stA en0 cE p0 [topFrame p0]) = some (.next, st_19 w os, cE, ⟨44, 0, 94, 16⟩) := by kernel_rfl
theorem lB (w : World) (os : OsState) : segRunT treeTable pw w 11 an0 1 1500 (st_19 w os) (piecesOf stB en0 cE ⟨44, 0, 94, 16⟩ [topFrame p0]) = some (.next, st_44 w os, cE, ⟨222, 0, 269, 36⟩) := by kernel_rfl
theorem lC (w : World) (os : OsState) : segRunT treeTable pw w 11 an0 1 1500 (st_44 w os) (piecesOf stC en0 cE ⟨222, 0, 269, 36⟩ [topFrame p0]) = some (.next, st_200 w os, cE, ⟨455, 0, 501, 67⟩) := by kernel_rfl
theorem fin1 (w : World) (os : OsState) : topRun treeTable pw w 11 an0 2 (st_200 w os).abs ⟨doneF .next, cE, ⟨455, 0, 501, 67⟩, [topFrame p0]⟩ = some (st_200 w os).abs := by kernel_rfl
theorem stmE : stm = stA ++ (stB ++ (stC ++ [])) := by kernel_rfl
theorem run1 (w : World) (os : OsState) : topRun treeTable pw w 11 an0 (12 + (1 + (1500 + (1500 + (1500 + 2))))) ⟨boot_heap w.params, Array.mk [], boot_drawn, boot_toks, os⟩ (topStub pw) = some (st_200 w os).abs := by
  refine go_top (pre1 w os) (piece_block (q := p0) (env := en0) (blk w os) ?_)
  rw [stmE]
  exact piece_app (segRun_of (lA w os)) (piece_app (segRun_of (lB w os)) (piece_app (segRun_of (lC w os)) (piece_nil (fin1 w os))))
theorem opn : ∀ w : World, (fencedOpening treeTable pw w 8388).map (fun s => (s.heap, s.gens, s.drawn, s.toks)) = some (boot_heap w.params, Array.mk [], boot_drawn, boot_toks) :=
  boot_open (by kernel_rfl) (by decide) (fun s => by kernel_rfl)
theorem siz (w : World) : ((boot_heap w.params).isNs mainGlobals && (Array.mk ([] : List GenState)).size == 0, (boot_heap w.params).objs.size, (boot_heap w.params).nsMap mainGlobals "__annotations__") = (true, 11, an0) := by kernel_rfl
noncomputable def vw : Program := { pw with main := { pw.main with body := [0, 2, 3, 4, 5, 6, 7, 8, 9, 11, 12, 13, 14, 15, 16, 17, 18, 19, 20, 21, 23, 25, 26, 27, 28, 29, 30, 31, 32, 34, 35, 36, 37, 38, 39, 40, 41, 42, 44, 45, 46, 48, 50, 51, 52, 53, 54, 55].filterMap fun i => pw.main.body[i]? } }
noncomputable abbrev hk : Hook := kHook Mine.seed.heap_1 [2, 3, 15, 17, 18, 20, 21, 22, 29, 30, 32, 33, 35, 36, 37, 39, 40, 42, 43, 44, 45, 46, 47, 50, 57, 58, 59, 62, 69, 70, 71, 74, 76, 77, 79, 80, 81, 83, 84, 86, 87, 88, 90, 91, 93, 94, 95, 97, 98, 100, 101, 102, 104, 105, 107, 108, 116, 118, 119, 121, 122, 123, 125, 126, 128, 129, 130, 132, 133, 135, 136, 137, 139, 140, 142, 143, 144, 146, 147, 149, 150, 151, 153, 154, 156, 157, 158, 160, 161, 163, 164, 165, 167, 168, 170, 171, 172, 174, 175, 177, 178, 179, 180, 181, 182, 183, 186, 188, 189, 191, 192, 193, 195, 196, 198, 199, 200, 202, 203, 205, 206, 214, 216, 217, 219, 220, 221, 223, 224, 226, 227, 228, 230, 231, 233, 234, 235, 237, 238, 240, 241, 242, 244, 245, 247, 248, 249, 251, 252, 254, 255, 256, 257, 258, 259, 260, 263, 265, 266, 268, 269, 270, 272, 273, 275, 276, 277, 279, 280, 282, 283, 284, 286, 287, 289, 290, 291, 293, 294, 296, 297, 298, 300, 301, 303, 304, 305, 307, 308, 310, 311, 312, 314, 315, 317, 318, 326, 328, 329, 331, 332, 333, 335, 336, 338, 339, 340, 342, 343, 345, 346, 347, 349, 350, 352, 353, 354, 356, 357, 359, 360, 361, 363, 364, 366, 367, 368, 371, 372, 373, 376, 377, 378, 380, 381, 383, 384, 385, 387, 388, 390, 391, 392, 394, 395, 397, 398, 399, 401, 402, 404, 405, 406, 407, 408, 409, 410, 413, 415, 416, 418, 419, 427, 429, 430, 432, 433, 434, 436, 437, 439, 440, 441, 443, 444, 446, 447, 448, 450, 451, 453, 454, 455, 458, 459, 460, 462, 463, 465, 466, 467, 469, 470, 472, 473, 474, 476, 477, 479, 480, 481, 483, 484, 486, 487, 488, 490, 491, 493, 494, 495, 497, 498, 500, 501, 502, 504, 505, 507, 508, 509, 511, 512, 514, 515, 516, 518, 519, 521, 522, 523, 524, 525, 526, 527, 537, 538, 540, 541, 543, 544, 545, 548, 549, 550, 552, 553, 555, 556, 557, 559, 560, 562, 563, 564, 566, 567, 569, 570, 571, 573, 574, 576, 577, 578, 579, 580, 581, 582, 585, 587, 588, 590, 591, 592, 594, 595, 597, 598, 599, 601, 602, 604, 605, 606, 608, 609, 611, 612, 613, 616, 617, 618, 621, 622] (fun _ => by kernel_rfl)
theorem looks1 (w : World) : (fun os => ((staticsOk (importedModules pw.main.body) (boot_heap w.params) (absHeap (tr_200 w.params) 623 {}) && namesBound pw (absHeap (tr_200 w.params) 623 {}) && gensDone ⟨absHeap (tr_200 w.params) 623 {}, Array.mk [], {}, 1042, os⟩ && laidKept (boot_heap w.params) (absHeap (tr_200 w.params) 623 {})),
        openSeen vw [Str.ofString "MintError"] (importedModules pw.main.body) (fun s => xlAt vw [] s && recOk (RowW.records PySem.Challenge.rw_nn0059_01.row.toRowW) s) true ⟨absHeap (tr_200 w.params) 623 {}, Array.mk [], {}, 1042, os⟩, Hook.obs hk ⟨absHeap (tr_200 w.params) 623 {}, Array.mk [], {}, 1042, os⟩)) = fun _ => (true, openGood vw [Str.ofString "MintError"], Hook.val hk w) := by kernel_rfl
theorem left1 : LeftO pw vw [Str.ofString "MintError"] (fun s => xlAt vw [] s && recOk (RowW.records PySem.Challenge.rw_nn0059_01.row.toRowW) s) (Hook.obs hk) (Hook.val hk) 8388 :=
  LeftO.of_pieces (H₁ := fun P => absHeap (tr_200 P) 623 {}) opn siz run1 (by decide) looks1
theorem said : PySem.Challenge.rw_nn0059_01.wellSaid = true := by kernel_rfl
theorem hd {d : DefRec} {kwd : List (Str × PySem.Expr)} (h1 : defOf vw PySem.Challenge.rw_nn0059_01.row.toRowW.name = some (d, kwd)) (h2 : PySem.Challenge.rw_nn0059_01.row.toRowW.prog.theDef PySem.Challenge.rw_nn0059_01.row.toRowW.name = some (d.params, d.body, d.scope)) (h3 : kwWritten? d.params.kwonlyargs d.params.kw_defaults = some kwd)
    (hc : WalkO vw [Str.ofString "MintError"] (XL vw []) hk.says PySem.Challenge.rw_nn0059_01.row.toRowW d kwd fun f vs => PySem.call f vs) : PySem.Challenge.rw_nn0059_01.Holds := by
  refine holds_law said fun said2 => ?_
  refine holds_open (q := vw) (loose := [Str.ofString "MintError"]) (Xt := fun s => xlAt vw [] s && recOk (RowW.records PySem.Challenge.rw_nn0059_01.row.toRowW) s) (XP := XL vw []) (Yf := Hook.obs hk) (Ya := Hook.val hk) (YP := Hook.says hk) (N := 8388) left1 (Hook.of hk) (Hook.keeps hk) (fun s e => xl_of s (Bool.and_eq_true_iff.mp e).1) XL.keeps h1 h2 h3 (fun s e => recFacts_of (Bool.and_eq_true_iff.mp e).2) (by rfl) (by first | assumption | decide +kernel) (by decide +kernel) ⟨rfl, rfl, rfl, rfl, rfl, by decide +kernel⟩ ?hw hc
  case hw => w_witness2
end

noncomputable abbrev Led := List (Addr × Obj)

/-- what a call of the def at f with the values vs does, wherever it is called from -/
noncomputable abbrev Claim (w : World) (f : Addr) (vs : List Value) (dd uu : Nat) (news : Led) (ret : Heap → Addr → (Str → Option Value) → Shared → (Value → Shared → Prop) → Prop) : Prop :=
  ∀ (p : Program) (loose : List Str) (mean : ExcName → Option Value) (mg mb : Str → Option Value) (dp un : Nat) (gd : Option (List Code)) (cn : Str) (cs : Scope) (a : Addr) (ccd : Value) (cl : List (Str × Addr)) (outer : List Env) (A₀ : Around) (base h₀ : Heap) (L : Addr) (m : Str → Option Value) (s : Shared) (Q E : Value → Shared → Prop),
    Below A₀ base outer h₀ → Fr h₀ L s.heap m → (Mine.seed.heap_1 w.params).In h₀ → News h₀ L s.heap news → Top p loose mean mg mb h₀ → cs.kind = .function → dp + dd < recursionLimit → un + uu < cLine →
    ret h₀ L m s Q → wpAny (model Challenge.rw_nn0059_01.row.prog w) (ktrTop dp un gd cn cs L a ccd cl outer) (call (.ref f) vs) Q E s

noncomputable def RetV (v : Tok → Value) (news : Led) (h₀ : Heap) (L : Addr) (m : Str → Option Value) (s : Shared) (Q : Value → Shared → Prop) : Prop :=
  ∀ (t : Tok) (h' : Heap) (tk' : Nat), Fr h₀ L h' m → News h₀ L h' news → Q (v t) { s with heap := h', toks := tk' }

theorem retI {h₀ h' : Heap} {L : Addr} {m : Str → Option Value} {news : Led} {s : Shared} {Q : Value → Shared → Prop} {x y : Int} {t : Tok} {tk' : Nat}
    (hret : RetV (fun t => .int x t) news h₀ L m s Q) (F : Fr h₀ L h' m) (N : News h₀ L h' news) (e : y = x) : Q (.int y t) { s with heap := h', toks := tk' } := by
  subst e; exact hret t h' tk' F N
theorem drop1 {h₀ h : Heap} {L : Addr} {x : Addr × Obj} {l : Led} (N : News h₀ L h (x :: l)) : News h₀ L h l := fun p hp => N p (.tail _ hp)
theorem useC {w : World} {f : Addr} {vs : List Value} {dd uu : Nat} {news : Led} {ret : Heap → Addr → (Str → Option Value) → Shared → (Value → Shared → Prop) → Prop}
    {p : Program} {loose : List Str} {mean : ExcName → Option Value} {mg mb : Str → Option Value} {dp un : Nat} {gd : Option (List Code)} {cn : Str} {cs : Scope} {a : Addr} {ccd : Value} {cl : List (Str × Addr)} {outer : List Env} {A₀ : Around} {base h₀ : Heap} {L : Addr} {m : Str → Option Value} {s : Shared} {Q E : Value → Shared → Prop}
    (C : Claim w f vs dd uu news ret) (B : Below A₀ base outer h₀) (F : Fr h₀ L s.heap m) (X : (Mine.seed.heap_1 w.params).In h₀) (N : News h₀ L s.heap news) (T : Top p loose mean mg mb h₀) (hk : cs.kind = .function) (hd : dp + dd < recursionLimit) (hu : un + uu < cLine)
    (hr : ret h₀ L m s Q) : wpAny (model Challenge.rw_nn0059_01.row.prog w) (ktrTop dp un gd cn cs L a ccd cl outer) (call (.ref f) vs) Q E s :=
  C p loose mean mg mb dp un gd cn cs a ccd cl outer A₀ base h₀ L m s Q E B F X N T hk hd hu hr
section
variable {prog : Program} {w : World} {A A₀ : Around} {E : Value → Shared → Prop} {H : Heap} {G : Array GenState} {D : Drawn} {T : Nat} {O : OsState} {K : Frag} {x C dx L : Addr} {h₀ : Heap} {m : Str → Option Value} {news news' : Led} {ox : Obj} {es es' : List DictEntry} {n n' : Nat} {name : Str} {v : Value}
theorem toks_any {α : Type} {Q : α → Shared → Prop} {tree : Sem α} (h : ∀ tk, wpAny (model prog w) A tree Q E ⟨H, G, D, tk, O⟩) : wpAny (model prog w) A tree Q E ⟨H, G, D, T, O⟩ := h T
/-- set_dict at a state whose parts are variables -/
theorem set_dictT {Q : Unit → Shared → Prop} (F : Fr h₀ L H m) (X₀ : K.In h₀) (N : News h₀ L H news) (I : InstAt H x ox C (some (dictOf es n))) (hd : ox.dict = some dx)
    (hs : findIn K (.ref C) "__setattr__" = some (some (.builtin "object.__setattr__"))) (hp : plainOver K C = true) (ht : takerIn K C name = some none) (hh : hasDictIn K C = true) (hl : (getL name es).isSome = true)
    (e : (putL name (PyData.keyHash w.params name) (.str name (T + 1)) v es, putN name es n) = (es', n')) (U : Upd dx (dictOf es n) (dictOf es' n') news news') (hz : es'.length ≤ 1000)
    (h : ∀ h', Fr h₀ L h' m → News h₀ L h' news' → Q () ⟨h', G, D, T + 2, O⟩) : wpAny (model prog w) A (setAttr (.ref x) name v) Q E ⟨H, G, D, T, O⟩ :=
  set_dict (s := ⟨H, G, D, T, O⟩) F X₀ N I hd hs hp ht hh hl e U hz h
theorem seta_toks {Q : Unit → Shared → Prop} {s s' : Shared} {o : Value} {y : Int} (h : ∀ t, wpAny (model prog w) A (setAttr o name (.int y t)) Q E s) : wpAny (model prog w) A (setAttr o name (.int y s'.toks)) Q E s := h _
theorem seta_add {Q : Unit → Shared → Prop} {s : Shared} {o : Value} {y : Int} {a b : Nat} (h : ∀ t, wpAny (model prog w) A (setAttr o name (.int y t)) Q E s) : wpAny (model prog w) A (setAttr o name (.int y (a + b))) Q E s := h _
end
theorem toks_succ {prog : Program} {w : World} {A : Around} {E : Value → Shared → Prop} {H : Heap} {G : Array GenState} {D : Drawn} {T : Nat} {O : OsState} {α : Type} {Q : α → Shared → Prop} {tree : Sem α} (h : ∀ tk, wpAny (model prog w) A tree Q E ⟨H, G, D, tk, O⟩) : wpAny (model prog w) A tree Q E ⟨H, G, D, T + 1, O⟩ := h _
theorem store_toks {prog : Program} {w : World} {A : Around} {E : Value → Shared → Prop} {s s' : Shared} {Q : Unit → Shared → Prop} {env : Env} {x : Str} {v : Int} (h : ∀ t, wpAny (model prog w) A (storeName env x (.int v t)) Q E s) : wpAny (model prog w) A (storeName env x (.int v s'.toks)) Q E s := h _
theorem store_add {prog : Program} {w : World} {A : Around} {E : Value → Shared → Prop} {s : Shared} {Q : Unit → Shared → Prop} {env : Env} {x : Str} {v : Int} {a b : Nat} (h : ∀ t, wpAny (model prog w) A (storeName env x (.int v t)) Q E s) : wpAny (model prog w) A (storeName env x (.int v (a + b))) Q E s := h _
theorem ldm {x : Str} {m m' : Str → Option Value} {v : Value} (h : m x = some v) (e : m' x = m x) : m' x = some v := e.trans h
theorem fr_cut {h₀ h : Heap} {L : Addr} {m : Str → Option Value} (F : Fr h₀ L h m) : ∃ m' : Str → Option Value, (∀ z, m' z = m z) ∧ Fr h₀ L h m' := ⟨m, fun _ => rfl, F⟩
theorem rm0 {x a R : Nat} (h : x + a < R) : x < R := Nat.lt_of_le_of_lt (Nat.le_add_right _ _) h
theorem rm1 {x a b R : Nat} (h : x + a < R) (e : Nat.ble b a = true) : x + b < R := Nat.lt_of_le_of_lt (Nat.add_le_add_left (Nat.le_of_ble_eq_true e) _) h
theorem rm2 {x a b c R : Nat} (h : x + a < R) (e : Nat.ble (b + c) a = true) : x + b + c < R := by
  rw [Nat.add_assoc]; exact rm1 h e
theorem neLt {a b : Nat} (h : a < b) : a ≠ b := Nat.ne_of_lt h
theorem neGt {a b : Nat} (h : b < a) : a ≠ b := Nat.ne_of_gt h
local macro_rules | `(tactic| omega) => `(tactic| first | lia | omega (config := {}))
local macro_rules | `(tactic| ktr_step) => `(tactic| with_reducible first | assumption | (apply And.right; first | assumption | (apply And.right; first | assumption | (apply And.right; first | assumption | (apply And.right; first | assumption | (apply And.right; first | assumption | (apply And.right; first | assumption | (apply And.right; first | assumption | (apply And.right; first | assumption | (apply And.right; first | assumption | (apply And.right; first | assumption | (apply And.right; first | assumption | (apply And.right; first | assumption | (apply And.right; first | assumption | (apply And.right; assumption)))))))))))))))
local macro_rules | `(tactic| k_ne) => `(tactic| ((try dsimp only); first | (refine neLt ?_; apply And.left; ktr_step) | (refine neGt ?_; apply And.left; ktr_step) | (apply And.left; ktr_step) | (refine Ne.symm ?_; apply And.left; ktr_step) | (refine neLt ?_; ktr_step) | (refine neGt ?_; ktr_step) | ktr_step | (refine Ne.symm ?_; ktr_step) | (refine neN ?_; omega)))
local macro_rules | `(tactic| ktr_room) => `(tactic| first | exact rm2 (by assumption) rfl | exact rm1 (by assumption) rfl | exact rm0 (by assumption))
local macro_rules | `(tactic| ktr_units) => `(tactic| first | exact rm2 (by assumption) rfl | exact rm1 (by assumption) rfl | exact rm0 (by assumption))
local macro_rules | `(tactic| k_room) => `(tactic| ktr_room)
local macro_rules | `(tactic| k_enter) => `(tactic| cell_enter)
local macro_rules | `(tactic| walk_at $s:str) => `(tactic| k_extra $s)

-- mask, wrap, bit
set_option maxHeartbeats 4000000 in
theorem c_mask (w : World) (k : Int) (t : Tok) (news : Led) (h0 : 0 ≤ k) (_h1 : k ≤ 64) : Claim w 80 [.int k t] 1 8 news (RetV (fun t => .int (2 ^ k.toNat - 1) t) news) := by
  k_with_none
  k_with "execs cons" => (refine toks_succ ?_; intro tkU)
  k_with "storeName" => with_reducible first | (refine store_toks ?_; intro tkU) | (refine store_add ?_; intro tkU)
  k_with "call type:range" => ((rename Fr _ _ _ _ => F'); (rename News _ _ _ _ => N'); (with_unfolding_all refine range1_rows F' N' ?_; intro _ _ _ _ _ _ _ _ _))
  k_with "my claim" => (
      intro pZ looseZ meanZ mgZ mbZ dpZ unZ gdZ cnZ csZ aZ ccdZ clZ outerZ A₀Z baseZ h₀Z LZ mZ sZ QZ EZ BZ FZ XZ NZ TZ hkZ hdZ huZ hretZ
      refine wpAny_call ?_
      k_dflt cell_enter
      k_steps)
  walk_at "my claim"
  refine retI (by assumption) (by assumption) (by assumption) (by omega)

set_option maxHeartbeats 4000000 in
theorem c_wrap (w : World) (x : Int) (k : Int) (t t' : Tok) (news : Led) (h0 : 0 ≤ k) (h1 : k ≤ 64) : Claim w 87 [.int x t', .int k t] 2 16 news (RetV (fun t => .int (x % 2 ^ k.toNat) t) news) := by
  k_with_none
  k_with "execs cons" => (refine toks_succ ?_; intro tkU)
  k_with "storeName" => with_reducible first | (refine store_toks ?_; intro tkU) | (refine store_add ?_; intro tkU)
  k_with "call type:range" => ((rename Fr _ _ _ _ => F'); (rename News _ _ _ _ => N'); (with_unfolding_all refine range1_rows F' N' ?_; intro _ _ _ _ _ _ _ _ _))
  k_with "my claim" => (
      intro pZ looseZ meanZ mgZ mbZ dpZ unZ gdZ cnZ csZ aZ ccdZ clZ outerZ A₀Z baseZ h₀Z LZ mZ sZ QZ EZ BZ FZ XZ NZ TZ hkZ hdZ huZ hretZ
      refine wpAny_call ?_
      k_dflt cell_enter
      k_steps)
  k_with "my use" => (
        (case k1 => k_asm); (case k2 => k_asm); (case k3 => k_asm); (case k4 => first | k_asm | exact drop1 (by assumption) | exact drop1 (drop1 (by assumption)) | exact drop1 (drop1 (drop1 (by assumption))) | exact drop1 (drop1 (drop1 (drop1 (by assumption))))); (case k5 => k_asm); (case k6 => first | exact rfl | assumption); (case k7 => ktr_room); (case k8 => ktr_units))
  k_with "my go" => (intro t9 h9 tk9 F9 N9; (try dsimp only); (try k_fold))
  k_with "call ref" => (k_here; (with_reducible show wpAny _ _ (call (Value.ref 80) _) _ _ _); k_dflt (refine' useC (c_mask _ _ _ _ ?h0 ?h1) ?k1 ?k2 ?k3 ?k4 ?k5 ?k6 ?k7 ?k8 ?_; (case h0 => omega); (case h1 => omega); walk_at "my use"; walk_at "my go"))
  walk_at "my claim"
  refine retI (by assumption) (by assumption) (by assumption) (kbt_mask _ _)

set_option maxHeartbeats 4000000 in
theorem c_bit (w : World) (x : Int) (k : Int) (t t' : Tok) (news : Led) (h0 : 0 ≤ k) (h1 : k ≤ 64) : Claim w 94 [.int x t', .int k t] 2 16 news (RetV (fun t => .int (x / 2 ^ k.toNat % 2) t) news) := by
  k_with_none
  k_with "execs cons" => (refine toks_succ ?_; intro tkU)
  k_with "storeName" => with_reducible first | (refine store_toks ?_; intro tkU) | (refine store_add ?_; intro tkU)
  k_with "call type:range" => ((rename Fr _ _ _ _ => F'); (rename News _ _ _ _ => N'); (with_unfolding_all refine range1_rows F' N' ?_; intro _ _ _ _ _ _ _ _ _))
  k_with "my claim" => (
      intro pZ looseZ meanZ mgZ mbZ dpZ unZ gdZ cnZ csZ aZ ccdZ clZ outerZ A₀Z baseZ h₀Z LZ mZ sZ QZ EZ BZ FZ XZ NZ TZ hkZ hdZ huZ hretZ
      refine wpAny_call ?_
      k_dflt cell_enter
      k_steps)
  walk_at "my claim"
  refine retI (by assumption) (by assumption) (by assumption) (by rw [bitAnd_m1, Int.fdiv_eq_ediv_of_nonneg _ (Int.le_of_lt (kbt_pos _))])

/-- the ones among the eight low bits -/
noncomputable def low8 (x : Int) : Int := x % 2 + x / 2 % 2 + x / 4 % 2 + x / 8 % 2 + x / 16 % 2 + x / 32 % 2 + x / 64 % 2 + x / 128 % 2
theorem low8_step : ∀ r : Fin 256, 0 < r.val → low8 (Builtin.bitAnd r.val (r.val - 1 : Int)) = low8 r.val - 1 ∧ 0 ≤ Builtin.bitAnd r.val (r.val - 1 : Int) ∧ Builtin.bitAnd r.val (r.val - 1 : Int) < r.val := by decide +kernel
theorem bit_mod (x : Int) {c d : Int} (hd : d ≠ 0) (e : d * (2 * c) = 256) : x % 256 / d % 2 = x / d % 2 := by
  have h : x % 256 + d * (2 * (c * (x / 256))) = x := by
    have := Int.emod_add_mul_ediv x 256
    rw [← Int.mul_assoc 2, ← Int.mul_assoc d, e]; exact this
  have h2 : x / d = (x % 256 + d * (2 * (c * (x / 256)))) / d := by rw [h]
  rw [h2, Int.add_mul_ediv_left _ _ hd, Int.add_mul_emod_self_left]
theorem low8_mod (x : Int) : low8 (x % 256) = low8 x := by
  unfold low8
  rw [bit_mod x (d := 2) (c := 64) (by decide) rfl, bit_mod x (d := 4) (c := 32) (by decide) rfl, bit_mod x (d := 8) (c := 16) (by decide) rfl, bit_mod x (d := 16) (c := 8) (by decide) rfl,
    bit_mod x (d := 32) (c := 4) (by decide) rfl, bit_mod x (d := 64) (c := 2) (by decide) rfl, bit_mod x (d := 128) (c := 1) (by decide) rfl, Int.emod_emod_of_dvd x (by decide : (2 : Int) ∣ 256)]
theorem ones_step {r c x : Int} (h1 : 0 ≤ r) (h2 : r < 256) (h3 : c + low8 r = low8 x) (h0 : 0 < r) : 0 ≤ Builtin.bitAnd r (r - 1) ∧ Builtin.bitAnd r (r - 1) < 256 ∧ c + 1 + low8 (Builtin.bitAnd r (r - 1)) = low8 x := by
  have q := low8_step ⟨r.toNat, by omega⟩ (by show 0 < r.toNat; omega)
  have e : ((r.toNat : Nat) : Int) = r := Int.toNat_of_nonneg h1
  simp only [e] at q
  omega
theorem ones_less {r : Int} (h1 : 0 ≤ r) (h2 : r < 256) (h0 : 0 < r) : (Builtin.bitAnd r (r - 1)).toNat < r.toNat := by
  have q := low8_step ⟨r.toNat, by omega⟩ (by show 0 < r.toNat; omega)
  have e : ((r.toNat : Nat) : Int) = r := Int.toNat_of_nonneg h1
  simp only [e] at q
  omega
theorem ones_start {x : Int} : 0 ≤ x % 2 ^ Int.toNat 8 ∧ x % 2 ^ Int.toNat 8 < 256 ∧ 0 + low8 (x % 2 ^ Int.toNat 8) = low8 x := by
  have := low8_mod x
  have e : (2 : Int) ^ Int.toNat 8 = 256 := rfl
  rw [e]; omega
theorem ones_end {r c x : Int} (h1 : 0 ≤ r) (h3 : c + low8 r = low8 x) (h0 : ¬ 0 < r) : c = low8 x := by
  have : r = 0 := by omega
  subst this
  simpa [low8] using h3
set_option maxHeartbeats 4000000 in
theorem c_ones (w : World) (x : Int) (t t' : Tok) (news : Led) : Claim w 101 [.int x t', .int 8 t] 3 24 news (RetV (fun t => .int (low8 x) t) news) := by
  k_with_none
  k_with "execs cons" => (refine toks_succ ?_; intro tkU)
  k_with "storeName" => with_reducible first | (refine store_toks ?_; intro tkU) | (refine store_add ?_; intro tkU)
  k_with "call type:range" => ((rename Fr _ _ _ _ => F'); (rename News _ _ _ _ => N'); (with_unfolding_all refine range1_rows F' N' ?_; intro _ _ _ _ _ _ _ _ _))
  k_with "my claim" => (
      intro pZ looseZ meanZ mgZ mbZ dpZ unZ gdZ cnZ csZ aZ ccdZ clZ outerZ A₀Z baseZ h₀Z LZ mZ sZ QZ EZ BZ FZ XZ NZ TZ hkZ hdZ huZ hretZ
      refine wpAny_call ?_
      k_dflt cell_enter
      k_steps)
  k_with "my use" => (
        (case k1 => k_asm); (case k2 => k_asm); (case k3 => k_asm); (case k4 => first | k_asm | exact drop1 (by assumption) | exact drop1 (drop1 (by assumption)) | exact drop1 (drop1 (drop1 (by assumption))) | exact drop1 (drop1 (drop1 (drop1 (by assumption))))); (case k5 => k_asm); (case k6 => first | exact rfl | assumption); (case k7 => ktr_room); (case k8 => ktr_units))
  k_with "my go" => (intro t9 h9 tk9 F9 N9; (try dsimp only); (try k_fold))
  k_with "call ref" => (k_here; (with_reducible show wpAny _ _ (call (Value.ref 87) _) _ _ _); k_dflt (refine' useC (c_wrap _ _ _ _ _ _ ?h0 ?h1) ?k1 ?k2 ?k3 ?k4 ?k5 ?k6 ?k7 ?k8 ?_; (case h0 => omega); (case h1 => omega); walk_at "my use"; walk_at "my go"))
  k_with "state" => first | exact ones_start | exact ones_step (by assumption) (by assumption) (by assumption) (by assumption)
  k_with "measure" => exact ones_less (by assumption) (by assumption) (by assumption)
  k_with "exec While Compare cons nil" => k_dflt (k_while (fun _ rest count => 0 ≤ rest ∧ rest < 256 ∧ count + low8 rest = low8 x) (fun _ rest _ => rest.toNat) "rest" "count")
  walk_at "my claim"
  refine retI (by assumption) (by assumption) (by assumption) (ones_end (by assumption) (by assumption) (by assumption))

set_option maxHeartbeats 4000000 in
theorem c_parity (w : World) (x : Int) (t' : Tok) (news : Led) : Claim w 108 [.int x t'] 4 32 news (RetV (fun t => .int (1 - low8 x % 2) t) news) := by
  k_with_none
  k_with "execs cons" => (refine toks_succ ?_; intro tkU)
  k_with "storeName" => with_reducible first | (refine store_toks ?_; intro tkU) | (refine store_add ?_; intro tkU)
  k_with "call type:range" => ((rename Fr _ _ _ _ => F'); (rename News _ _ _ _ => N'); (with_unfolding_all refine range1_rows F' N' ?_; intro _ _ _ _ _ _ _ _ _))
  k_with "my claim" => (
      intro pZ looseZ meanZ mgZ mbZ dpZ unZ gdZ cnZ csZ aZ ccdZ clZ outerZ A₀Z baseZ h₀Z LZ mZ sZ QZ EZ BZ FZ XZ NZ TZ hkZ hdZ huZ hretZ
      refine wpAny_call ?_
      k_dflt cell_enter
      k_steps)
  k_with "my use" => (
        (case k1 => k_asm); (case k2 => k_asm); (case k3 => k_asm); (case k4 => first | k_asm | exact drop1 (by assumption) | exact drop1 (drop1 (by assumption)) | exact drop1 (drop1 (drop1 (by assumption))) | exact drop1 (drop1 (drop1 (drop1 (by assumption))))); (case k5 => k_asm); (case k6 => first | exact rfl | assumption); (case k7 => ktr_room); (case k8 => ktr_units))
  k_with "my go" => (intro t9 h9 tk9 F9 N9; (try dsimp only); (try k_fold))
  k_with "call ref" => (k_here; (with_reducible show wpAny _ _ (call (Value.ref 101) _) _ _ _); k_dflt (refine' useC (c_ones _ _ _ _ _) ?k1 ?k2 ?k3 ?k4 ?k5 ?k6 ?k7 ?k8 ?_; walk_at "my use"; walk_at "my go"))
  walk_at "my claim"
  refine retI (by assumption) (by assumption) (by assumption) (by rw [Int.fmod_eq_emod_of_nonneg _ (by decide)])


section
/-- the pairs of a memory's dict: a row of octets from base on, round the end of all places -/
noncomputable def kvFrom (base : Int) : List Value → List (Int × Value)
  | [] => []
  | v :: r => (base % 18446744073709551616, v) :: kvFrom (base + 1) r
theorem kv_out {base : Int} : ∀ {vs : List Value} {k : Int}, (∀ j : Nat, j < vs.length → (base + j) % 18446744073709551616 ≠ k) → ∀ p ∈ kvFrom base vs, p.1 ≠ k := by
  intro vs
  induction vs generalizing base with
  | nil => intro k _ p hp; cases hp
  | cons v r ih =>
    intro k h p hp
    rcases List.mem_cons.mp hp with rfl | hp
    · simpa using h 0 (by simp)
    · refine ih (fun j hj => ?_) p hp
      have := h (j + 1) (by simp; omega)
      rw [show base + 1 + (j : Int) = base + ((j + 1 : Nat) : Int) by omega]
      exact this
theorem kv_value : ∀ {vs : List Value} {base : Int} {i : Nat}, i < vs.length → vs.length ≤ 128 → valueAt (kvFrom base vs) ((base + i) % 18446744073709551616) = vs[i]? := by
  intro vs
  induction vs with
  | nil => intro _ _ h; cases h
  | cons v r ih =>
    intro base i hi hl
    simp only [List.length_cons] at hi hl
    cases i with
    | zero => simp [valueAt, kvFrom]
    | succ i =>
      have e : (base + ((i + 1 : Nat) : Int)) = base + 1 + i := by omega
      have := ih (base := base + 1) (i := i) (by omega) (by omega)
      unfold valueAt at *
      rw [kvFrom, List.find?_cons, e, List.getElem?_cons_succ]
      have hne : (decide (base % 18446744073709551616 = (base + 1 + (i : Int)) % 18446744073709551616)) = false := decide_eq_false (by omega)
      simp only [hne]
      exact this
theorem kv_set : ∀ {vs : List Value} {base : Int} {i : Nat} {v : Value}, i < vs.length → vs.length ≤ 128 → stored (kvFrom base vs) ((base + i) % 18446744073709551616) v = kvFrom base (vs.set i v) := by
  have aux : ∀ (vs : List Value) (base : Int) (i : Nat) (v : Value), i < vs.length → vs.length ≤ 128 →
      ((kvFrom base vs).any (fun kv => kv.1 = (base + i) % 18446744073709551616) = true) ∧
      (kvFrom base vs).map (fun kv => if kv.1 = (base + i) % 18446744073709551616 then (kv.1, v) else kv) = kvFrom base (vs.set i v) := by
    intro vs
    induction vs with
    | nil => intro _ _ _ h; cases h
    | cons x r ih =>
      intro base i v hi hl
      simp only [List.length_cons] at hi hl
      cases i with
      | zero =>
        refine ⟨by simp [kvFrom], ?_⟩
        simp only [kvFrom, List.map_cons, List.set_cons_zero, Int.natCast_zero, Int.add_zero, if_true]
        congr 1
        have h := kv_out (base := base + 1) (vs := r) (k := base % 18446744073709551616) (fun j hj => by omega)
        exact (List.map_congr_left (g := id) (fun p hp => by simp [h p hp])).trans (List.map_id _)
      | succ i =>
        have e : (base + ((i + 1 : Nat) : Int)) = base + 1 + i := by omega
        obtain ⟨h1, h2⟩ := ih (base + 1) i v (by omega) (by omega)
        have hne : ¬ (base % 18446744073709551616 = (base + 1 + (i : Int)) % 18446744073709551616) := by omega
        rw [e]
        refine ⟨by simp only [kvFrom, List.any_cons, h1, Bool.or_true], ?_⟩
        simp only [kvFrom, List.map_cons, List.set_cons_succ, if_neg hne, h2]
  intro vs base i v hi hl
  obtain ⟨h1, h2⟩ := aux vs base i v hi hl
  unfold stored
  rw [if_pos h1, h2]
theorem kv_app : ∀ (vs : List Value) (base : Int) (v : Value), kvFrom base vs ++ [((base + vs.length) % 18446744073709551616, v)] = kvFrom base (vs ++ [v]) := by
  intro vs
  induction vs with
  | nil => intro base v; simp [kvFrom]
  | cons x r ih =>
    intro base v
    simp only [kvFrom, List.cons_append, List.length_cons]
    rw [← ih (base + 1) v]
    rw [show base + ((r.length + 1 : Nat) : Int) = base + 1 + (r.length : Int) by omega]
theorem kv_push {vs : List Value} {base : Int} {v : Value} (hl : vs.length < 128) : stored (kvFrom base vs) ((base + vs.length) % 18446744073709551616) v = kvFrom base (vs ++ [v]) := by
  have h := kv_out (base := base) (vs := vs) (k := (base + vs.length) % 18446744073709551616) (fun j hj => by omega)
  unfold stored
  rw [if_neg, kv_app]
  simp only [List.any_eq_true, not_exists, not_and, decide_eq_true_eq]
  exact fun p hp => h p hp
theorem kv_length : ∀ (vs : List Value) (base : Int), (kvFrom base vs).length = vs.length := by
  intro vs
  induction vs with
  | nil => intro _; rfl
  | cons x r ih => intro base; simp [kvFrom, ih]
/-- the memory's dict holds the octets -/
noncomputable abbrev MemIs (w : World) (ho : Obj) (base : Int) (row : List Int) : Prop := ∃ vs, ho.IsDictOf (intKind Challenge.rw_nn0059_01.row.prog w) (kvFrom base vs) ∧ IntsAre vs row
noncomputable abbrev memD (w : World) (k : Tok) (n : Nat) (hd : Addr) : Obj := dictOf [⟨PyData.keyHash w.params (Str.ofString "held"), .str (Str.ofString "held") k, .ref hd⟩] n
theorem ints_getD {vs : List Value} {ns : List Int} (h : IntsAre vs ns) {i : Nat} (hi : i < ns.length) : ∃ t, vs[i]? = some (.int (ns.getD i 0) t) := by
  refine h.get i _ ?_
  rw [List.getD_eq_getElem?_getD, List.getElem?_eq_getElem hi]; rfl
end
local macro_rules | `(tactic| k_mem) => `(tactic| assumption)
set_option maxHeartbeats 4000000 in
theorem c_octet (w : World) (mm md hd : Addr) (k : Tok) (n : Nat) (ho : Obj) (base : Int) (row : List Int) (i : Nat) (pl : Int) (t : Tok) (news : Led)
    (h1 : (mm, instObj 408 md) ∈ news) (h2 : (md, memD w k n hd) ∈ news) (h3 : (hd, ho) ∈ news) (lo : (hd == sysModules) = false) (hm : MemIs w ho base row) (hl : row.length ≤ 128) (hi : i < row.length) (hp : pl % 18446744073709551616 = (base + i) % 18446744073709551616) :
    Claim w 339 [.ref mm, .int pl t] 4 32 news (RetV (fun t => .int (row.getD i 0) t) news) := by
  k_with_none
  k_with "execs cons" => (refine toks_succ ?_; intro tkU)
  k_with "storeName" => with_reducible first | (refine store_toks ?_; intro tkU) | (refine store_add ?_; intro tkU)
  k_with "call type:range" => ((rename Fr _ _ _ _ => F'); (rename News _ _ _ _ => N'); (with_unfolding_all refine range1_rows F' N' ?_; intro _ _ _ _ _ _ _ _ _))
  k_with "my claim" => (
      intro pZ looseZ meanZ mgZ mbZ dpZ unZ gdZ cnZ csZ aZ ccdZ clZ outerZ A₀Z baseZ h₀Z LZ mZ sZ QZ EZ BZ FZ XZ NZ TZ hkZ hdZ huZ hretZ
      refine wpAny_call ?_
      k_dflt cell_enter
      k_steps)
  k_with "my use" => (
        (case k1 => k_asm); (case k2 => k_asm); (case k3 => k_asm); (case k4 => first | k_asm | exact drop1 (by assumption) | exact drop1 (drop1 (by assumption)) | exact drop1 (drop1 (drop1 (by assumption))) | exact drop1 (drop1 (drop1 (drop1 (by assumption))))); (case k5 => k_asm); (case k6 => first | exact rfl | assumption); (case k7 => ktr_room); (case k8 => ktr_units))
  k_with "my go" => (intro t9 h9 tk9 F9 N9; (try dsimp only); (try k_fold))
  k_with "call ref" => (k_here; (with_reducible show wpAny _ _ (call (Value.ref 87) _) _ _ _); k_dflt (refine' useC (c_wrap _ _ _ _ _ _ ?h0 ?h1) ?k1 ?k2 ?k3 ?k4 ?k5 ?k6 ?k7 ?k8 ?_; (case h0 => omega); (case h1 => omega); walk_at "my use"; walk_at "my go"))
  obtain ⟨vs, hd1, hI⟩ := hm
  obtain ⟨tv, htv⟩ := ints_getD hI hi
  have hv : valueAt (kvFrom base vs) (pl % 2 ^ Int.toNat 64) = some (.int (row.getD i 0) tv) := by
    rw [show (2 : Int) ^ Int.toNat 64 = 18446744073709551616 from rfl, hp, ← htv]; exact kv_value (by rw [hI.length]; exact hi) (by rw [hI.length]; exact hl)
  k_with "getMethod ref" => k_dflt (refine kdg_method (knd := intKind _ _) (by k_asm) h3 hd1 ?_)
  k_with "call builtin:dict.get" => k_dflt (refine kdg_get2 (knd := intKind _ _) (by k_asm) h3 hd1 lo (intKind_is _ _ _ _) _ hv ?_)
  walk_at "my claim"
  dsimp only [Option.getD]
  refine retI (by assumption) (by assumption) (by assumption) rfl
theorem ints_set {vs : List Value} {ns : List Int} (h : IntsAre vs ns) (i : Nat) (x : Int) (t : Tok) : IntsAre (vs.set i (.int x t)) (ns.set i x) := by
  induction h generalizing i with
  | nil => exact .nil
  | cons n t' _ ih =>
    cases i with
    | zero => exact .cons _ _ (by assumption)
    | succ i => exact .cons _ _ (ih i)
theorem ints_push {vs : List Value} {ns : List Int} (h : IntsAre vs ns) (x : Int) (t : Tok) : IntsAre (vs ++ [.int x t]) (ns ++ [x]) := IntsAre.append h (.cons _ _ .nil)
theorem kv_put {vs : List Value} {row row' : List Int} {base pl x : Int} {i : Nat} {t : Tok} (hI : IntsAre vs row) (hp : pl % 18446744073709551616 = (base + i) % 18446744073709551616)
    (hr : (i < row.length ∧ row.length ≤ 128 ∧ row' = row.set i x) ∨ (i = row.length ∧ row.length < 128 ∧ row' = row ++ [x])) :
    ∃ vs', stored (kvFrom base vs) (pl % 2 ^ Int.toNat 64) (.int x t) = kvFrom base vs' ∧ IntsAre vs' row' := by
  have hl := hI.length
  rw [show (2 : Int) ^ Int.toNat 64 = 18446744073709551616 from rfl, hp]
  rcases hr with ⟨a, b, rfl⟩ | ⟨rfl, b, rfl⟩
  · exact ⟨_, kv_set (by omega) (by omega), ints_set hI i x t⟩
  · refine ⟨_, ?_, ints_push hI x t⟩
    rw [← hl]
    exact kv_push (by omega)
theorem retM {w : World} {g : Obj → Led} {base : Int} {row row' : List Int} {vs : List Value} {pl x : Int} {i : Nat} {t : Tok} {h₀ h' : Heap} {L : Addr} {m : Str → Option Value} {s : Shared} {Q : Value → Shared → Prop} {ho' : Obj} {tk' : Nat}
    (hret : ∀ (ho' : Obj) (h' : Heap) (tk' : Nat), MemIs w ho' base row' → Fr h₀ L h' m → News h₀ L h' (g ho') → Q .none { s with heap := h', toks := tk' })
    (hI : IntsAre vs row) (hp : pl % 18446744073709551616 = (base + i) % 18446744073709551616)
    (hr : (i < row.length ∧ row.length ≤ 128 ∧ row' = row.set i x) ∨ (i = row.length ∧ row.length < 128 ∧ row' = row ++ [x]))
    (hd : ho'.IsDictOf (intKind Challenge.rw_nn0059_01.row.prog w) (stored (kvFrom base vs) (pl % 2 ^ Int.toNat 64) (.int x t))) (F : Fr h₀ L h' m) (N : News h₀ L h' (g ho')) : Q .none { s with heap := h', toks := tk' } := by
  obtain ⟨vs', e, hI'⟩ := kv_put (t := t) hI hp hr
  rw [e] at hd
  exact hret ho' h' tk' ⟨vs', hd, hI'⟩ F N
set_option maxHeartbeats 4000000 in
theorem c_set_octet (w : World) (mm md hd : Addr) (k : Tok) (n : Nat) (ho : Obj) (base : Int) (row row' : List Int) (i : Nat) (pl x : Int) (t tx : Tok) (news : Led) (g : Obj → Led)
    (h1 : (mm, instObj 408 md) ∈ news) (h2 : (md, memD w k n hd) ∈ news) (U : UpdF hd ho news g) (hm : MemIs w ho base row) (hp : pl % 18446744073709551616 = (base + i) % 18446744073709551616)
    (hr : (i < row.length ∧ row.length ≤ 128 ∧ row' = row.set i x) ∨ (i = row.length ∧ row.length < 128 ∧ row' = row ++ [x])) :
    Claim w 346 [.ref mm, .int pl t, .int x tx] 4 32 news (fun h₀ L m s Q => ∀ (ho' : Obj) (h' : Heap) (tk' : Nat), MemIs w ho' base row' → Fr h₀ L h' m → News h₀ L h' (g ho') → Q .none { s with heap := h', toks := tk' }) := by
  k_with_none
  k_with "execs cons" => (refine toks_succ ?_; intro tkU)
  k_with "storeName" => with_reducible first | (refine store_toks ?_; intro tkU) | (refine store_add ?_; intro tkU)
  k_with "call type:range" => ((rename Fr _ _ _ _ => F'); (rename News _ _ _ _ => N'); (with_unfolding_all refine range1_rows F' N' ?_; intro _ _ _ _ _ _ _ _ _))
  k_with "my claim" => (
      intro pZ looseZ meanZ mgZ mbZ dpZ unZ gdZ cnZ csZ aZ ccdZ clZ outerZ A₀Z baseZ h₀Z LZ mZ sZ QZ EZ BZ FZ XZ NZ TZ hkZ hdZ huZ hretZ
      refine wpAny_call ?_
      k_dflt cell_enter
      k_steps)
  k_with "my use" => (
        (case k1 => k_asm); (case k2 => k_asm); (case k3 => k_asm); (case k4 => first | k_asm | exact drop1 (by assumption) | exact drop1 (drop1 (by assumption)) | exact drop1 (drop1 (drop1 (by assumption))) | exact drop1 (drop1 (drop1 (drop1 (by assumption))))); (case k5 => k_asm); (case k6 => first | exact rfl | assumption); (case k7 => ktr_room); (case k8 => ktr_units))
  k_with "my go" => (intro t9 h9 tk9 F9 N9; (try dsimp only); (try k_fold))
  k_with "call ref" => (k_here; (with_reducible show wpAny _ _ (call (Value.ref 87) _) _ _ _); k_dflt (refine' useC (c_wrap _ _ _ _ _ _ ?h0 ?h1) ?k1 ?k2 ?k3 ?k4 ?k5 ?k6 ?k7 ?k8 ?_; (case h0 => omega); (case h1 => omega); walk_at "my use"; walk_at "my go"))
  obtain ⟨vs, hd1, hI⟩ := hm
  have hz : (kvFrom base vs).length ≤ sizeLine := by
    rw [kv_length, hI.length, sizeLine_eq]
    omega
  k_with "setItem ref int" => k_dflt (refine kda_set (knd := intKind _ _) (by k_asm) (by k_asm) U hd1 (intKind_is _ _ _ _) hz ?_; intro h' o' F' N' hd')
  walk_at "my claim"
  exact retM (by assumption) hI hp hr (by assumption) (by assumption) (by assumption)

section
/-- the number that octets make, the low one first -/
noncomputable def leVal : List Int → Int
  | [] => 0
  | x :: r => x + 256 * leVal r
theorem leVal_snoc : ∀ (l : List Int) (x : Int), leVal (l ++ [x]) = leVal l + x * 2 ^ (8 * l.length) := by
  intro l
  induction l with
  | nil => intro x; simp [leVal]
  | cons y r ih =>
    intro x
    simp only [List.cons_append, leVal, ih, List.length_cons]
    rw [show 8 * (r.length + 1) = 8 * r.length + 8 by omega, Int.pow_add]
    have e : (2 : Int) ^ 8 = 256 := rfl
    rw [e]
    generalize (2 : Int) ^ (8 * r.length) = z
    rw [Int.mul_add, ← Int.mul_assoc x z 256, Int.mul_comm (x * z) 256]
    omega
theorem leVal_take {row : List Int} {i j : Nat} (h : i + j < row.length) : leVal ((row.drop i).take (j + 1)) = leVal ((row.drop i).take j) + row.getD (i + j) 0 * 2 ^ (8 * j) := by
  have e : (row.drop i)[j]? = some (row.getD (i + j) 0) := by
    rw [List.getElem?_drop, List.getD_eq_getElem?_getD, List.getElem?_eq_getElem h]; rfl
  rw [List.take_add_one, e, Option.toList_some, leVal_snoc, List.length_take, List.length_drop, Nat.min_eq_left (by omega)]
theorem read_step {row : List Int} {i W : Nat} {pre : List Int} {a k : Int} (hi : i + W ≤ row.length) (h : a = leVal ((row.drop i).take pre.length)) (he : k = 0 + (pre.length : Int)) (hl : pre.length < ((W : Int) - 0).toNat) :
    a + row.getD (i + pre.length) 0 * 2 ^ (8 * k).toNat = leVal ((row.drop i).take (pre ++ [k]).length) := by
  rw [List.length_append, List.length_singleton, leVal_take (by omega), h]
  rw [show (8 * k).toNat = 8 * pre.length by omega]
theorem read_end {row : List Int} {i W : Nat} {a : Int} (h : a = leVal ((row.drop i).take (rangeKs 0 ((W : Int) - 0).toNat).length)) : a = leVal ((row.drop i).take W) := by
  rw [h, rangeKs_length, show ((W : Int) - 0).toNat = W by omega]
noncomputable abbrev Octs (row : List Int) : Prop := ∀ x ∈ row, 0 ≤ x ∧ x < 256
theorem octs_getD {row : List Int} (h : Octs row) (i : Nat) : 0 ≤ row.getD i 0 ∧ row.getD i 0 < 256 := by
  rw [List.getD_eq_getElem?_getD]
  by_cases hi : i < row.length
  · rw [List.getElem?_eq_getElem hi]; exact h _ (List.getElem_mem hi)
  · rw [List.getElem?_eq_none (by omega)]; decide
end
set_option maxHeartbeats 4000000 in
theorem c_read (w : World) (mm md hd : Addr) (k : Tok) (n : Nat) (ho : Obj) (base : Int) (row : List Int) (i W : Nat) (pl Wi : Int) (t tw : Tok) (news : Led)
    (h1 : (mm, instObj 408 md) ∈ news) (h2 : (md, memD w k n hd) ∈ news) (h3 : (hd, ho) ∈ news) (lo : (hd == sysModules) = false) (hm : MemIs w ho base row) (hl : row.length ≤ 128) (ho8 : Octs row) (hi : i + W ≤ row.length) (hW8 : W ≤ 8) (hp : pl % 18446744073709551616 = (base + i) % 18446744073709551616) (hW : Wi = W) :
    Claim w 353 [.ref mm, .int pl t, .int Wi tw] 6 48 news (RetV (fun t => .int (leVal ((row.drop i).take W)) t) news) := by
  k_with_none
  k_with "execs cons" => (refine toks_succ ?_; intro tkU)
  k_with "storeName" => with_reducible first | (refine store_toks ?_; intro tkU) | (refine store_add ?_; intro tkU)
  k_with "call type:range" => ((rename Fr _ _ _ _ => F'); (rename News _ _ _ _ => N'); (with_unfolding_all refine range1_rows F' N' ?_; intro _ _ _ _ _ _ _ _ _))
  k_with "my claim" => (
      intro pZ looseZ meanZ mgZ mbZ dpZ unZ gdZ cnZ csZ aZ ccdZ clZ outerZ A₀Z baseZ h₀Z LZ mZ sZ QZ EZ BZ FZ XZ NZ TZ hkZ hdZ huZ hretZ
      refine wpAny_call ?_
      k_dflt cell_enter
      k_steps)
  k_with "my use" => (
        (case k1 => k_asm); (case k2 => k_asm); (case k3 => k_asm); (case k4 => first | k_asm | exact drop1 (by assumption) | exact drop1 (drop1 (by assumption)) | exact drop1 (drop1 (drop1 (by assumption))) | exact drop1 (drop1 (drop1 (drop1 (by assumption))))); (case k5 => k_asm); (case k6 => first | exact rfl | assumption); (case k7 => ktr_room); (case k8 => ktr_units))
  k_with "my go" => (intro t9 h9 tk9 F9 N9; (try dsimp only); (try k_fold))
  subst hW
  k_with "pyIter ref" => k_dflt (k_state (fun pre worth => worth = leVal ((row.drop i).take pre.length)) "worth")
  k_with "call ref" => k_dflt (refine' useC (c_octet w mm md hd k n ho base row (i + kPre.length) _ _ (news ++ kOwn) (List.mem_append_left _ h1) (List.mem_append_left _ h2) (List.mem_append_left _ h3) lo hm hl (by omega) (by omega)) ?k1 ?k2 ?k3 ?k4 ?k5 ?k6 ?k7 ?k8 ?_; walk_at "my use"; have hb9 := octs_getD ho8 (i + kPre.length); walk_at "my go")
  k_with "state" => first | rfl | exact read_step hi (by assumption) kEq kLt
  k_with "InvEndN" => k_dflt kst_close
  walk_at "my claim"
  exact retI (by assumption) (by assumption) (by assumption) (read_end (by assumption))

section
theorem updF_self {d : Addr} {o : Obj} {l : Led} {g : Obj → Led} (U : UpdF d o l g) : l = g o := by
  obtain ⟨pre, post, a, b, _⟩ := U.split
  rw [a, b]
theorem updF_again {d : Addr} {o : Obj} {l : Led} {g : Obj → Led} (U : UpdF d o l g) (o' : Obj) : UpdF d o' (g o') g := by
  induction U with
  | head h => exact .head h
  | tail h _ ih => exact .tail h ih
theorem updF_app {d : Addr} {o : Obj} {l own : Led} {g : Obj → Led} (U : UpdF d o l g) (h : ∀ p ∈ own, p.1 ≠ d) : UpdF d o (l ++ own) (fun o' => g o' ++ own) := by
  induction U with
  | head h' => exact .head fun p hp => (List.mem_append.mp hp).elim (h' p) (h p)
  | tail h' _ ih => exact .tail h' ih
theorem updF_addr {d : Addr} {o : Obj} {l : Led} {g : Obj → Led} (U : UpdF d o l g) (o' o'' : Obj) : (g o').map (·.1) = (g o'').map (·.1) := by
  obtain ⟨pre, post, _, b, _⟩ := U.split
  simp [b]
theorem updF_in {d : Addr} {o : Obj} {l : Led} {g : Obj → Led} (U : UpdF d o l g) (o' : Obj) : (d, o') ∈ g o' := by
  obtain ⟨pre, post, _, b, _⟩ := U.split
  rw [b]; exact List.mem_append_right _ (.head _)
theorem updF_off {d : Addr} {o : Obj} {l own : Led} {g : Obj → Led} (U : UpdF d o l g) {o' : Obj} (h : OwnOff own ((g o').map (·.1))) : ∀ p ∈ own, p.1 ≠ d :=
  h.ne (List.mem_map.mpr ⟨(d, o'), updF_in U o', rfl⟩)
/-- a row behind j octets of the number x were written from i on -/
noncomputable def putB (row : List Int) (i : Nat) (x : Int) : Nat → List Int
  | 0 => row
  | j + 1 => (putB row i x j).set (i + j) (x / 256 ^ j % 256)
theorem putB_length (row : List Int) (i : Nat) (x : Int) : ∀ j, (putB row i x j).length = row.length
  | 0 => rfl
  | j + 1 => by rw [putB, List.length_set, putB_length row i x j]
theorem shift_octet (x : Int) (j : Nat) (k : Int) (h : k = 0 + (j : Int)) : Builtin.bitAnd (x.fdiv (2 ^ (8 * k).toNat)) 255 = x / 256 ^ j % 256 := by
  rw [bitAnd_m8, Int.fdiv_eq_ediv_of_nonneg _ (Int.le_of_lt (kbt_pos _)), show (8 * k).toNat = 8 * j by omega, Int.pow_mul]
  rfl
theorem retW {w : World} {g : Obj → Led} {base : Int} {row : List Int} {h₀ h' : Heap} {L : Addr} {m : Str → Option Value} {s : Shared} {Q : Value → Shared → Prop} {ho' : Obj} {tk' : Nat}
    (hret : ∀ (ho' : Obj) (h' : Heap) (tk' : Nat), MemIs w ho' base row → Fr h₀ L h' m → News h₀ L h' (g ho') → Q .none { s with heap := h', toks := tk' })
    (hm : MemIs w ho' base row) (F : Fr h₀ L h' m) (N : News h₀ L h' (g ho')) : Q .none { s with heap := h', toks := tk' } := hret _ _ _ hm F N
end
set_option maxHeartbeats 4000000 in
theorem c_write (w : World) (mm md hd : Addr) (k : Tok) (n : Nat) (ho : Obj) (base : Int) (row : List Int) (i W : Nat) (pl Wi x : Int) (t tw tx : Tok) (news : Led) (g : Obj → Led)
    (h1 : ∀ o, (mm, instObj 408 md) ∈ g o) (h2 : ∀ o, (md, memD w k n hd) ∈ g o) (U : UpdF hd ho news g) (hm : MemIs w ho base row) (hl : row.length ≤ 128) (hi : i + W ≤ row.length) (hW8 : W ≤ 8) (hp : pl % 18446744073709551616 = (base + i) % 18446744073709551616) (hW : Wi = W) :
    Claim w 360 [.ref mm, .int pl t, .int Wi tw, .int x tx] 6 48 news (fun h₀ L m s Q => ∀ (ho' : Obj) (h' : Heap) (tk' : Nat), MemIs w ho' base (putB row i x W) → Fr h₀ L h' m → News h₀ L h' (g ho') → Q .none { s with heap := h', toks := tk' }) := by
  k_with_none
  k_with "execs cons" => (refine toks_succ ?_; intro tkU)
  k_with "storeName" => with_reducible first | (refine store_toks ?_; intro tkU) | (refine store_add ?_; intro tkU)
  k_with "call type:range" => ((rename Fr _ _ _ _ => F'); (rename News _ _ _ _ => N'); (with_unfolding_all refine range1_rows F' N' ?_; intro _ _ _ _ _ _ _ _ _))
  k_with "my claim" => (
      intro pZ looseZ meanZ mgZ mbZ dpZ unZ gdZ cnZ csZ aZ ccdZ clZ outerZ A₀Z baseZ h₀Z LZ mZ sZ QZ EZ BZ FZ XZ NZ TZ hkZ hdZ huZ hretZ
      refine wpAny_call ?_
      k_dflt cell_enter
      k_steps)
  k_with "my use" => (
        (case k1 => k_asm); (case k2 => k_asm); (case k3 => k_asm); (case k4 => first | k_asm | exact drop1 (by assumption) | exact drop1 (drop1 (by assumption)) | exact drop1 (drop1 (drop1 (by assumption))) | exact drop1 (drop1 (drop1 (drop1 (by assumption))))); (case k5 => k_asm); (case k6 => first | exact rfl | assumption); (case k7 => ktr_room); (case k8 => ktr_units))
  subst hW
  have e := updF_self U
  subst e
  k_with "pyIter ref" =>
    rename IsRange _ _ _ _ _ _ _ _ => rgX
    rename Fr _ _ _ _ => lF
    rename News _ _ _ _ => lN
    k_dflt (refine' kst_range (σ := Obj) (n := W) g (fun _ => []) (fun _ => True) [] (fun pre c => MemIs w c base (putB row i x pre.length)) ho rfl rgX (small_one (by omega) (by omega) (by omega) (by omega)) ?hn lF lN trivial ?hk hm ?turn ?done)
    case hn => rw [rangeSize_nat]; omega
    case hk => exact List.forall_mem_nil _
    case' turn =>
      intro c pre kk t u h tk own hkk hlt hoff _ hP F1 N1
      have q1 : (mm, instObj 408 md) ∈ g c ++ own := List.mem_append_left _ (h1 c)
      have q2 : (md, memD w k n hd) ∈ g c ++ own := List.mem_append_left _ (h2 c)
      try k_fold
    case' done =>
      intro c u h tk _ hP F1 N1; dsimp only
      try k_fold
  k_with "call ref" => k_dflt (
    refine' useC (c_set_octet w mm md hd k n c base (putB row i x pre.length) (putB row i x (pre.length + 1)) (i + pre.length) _ _ _ _ (g c ++ own) (fun o => g o ++ own) q1 q2 (updF_app (updF_again U c) (updF_off U hoff)) hP (by omega) (.inl ⟨by rw [putB_length]; omega, by rw [putB_length]; exact hl, by rw [putB, shift_octet x pre.length kk hkk]⟩)) ?k1 ?k2 ?k3 ?k4 ?k5 ?k6 ?k7 ?k8 ?_
    walk_at "my use"
    intro ho9 h9 tk9 hm9 F9 N9
    (try dsimp only)
    (try k_fold))
  k_with "InvEndN" => k_dflt (refine kst_end ho9 F9 N9 (fun p hp => List.mem_append_left _ hp) (fun p hp => List.mem_append_right _ hp) (updF_addr U _ _) trivial (List.forall_mem_nil _) (fun z hz _ _ => if_neg hz) (by rw [List.length_append]; exact hm9))
  walk_at "my claim"
  refine retW (by assumption) ?_ (by assumption) (by assumption)
  rename MemIs w _ base (putB row i x (rangeKs 0 W).length) => hP
  rw [rangeKs_length] at hP
  exact hP

theorem updF_upd {d : Addr} {o o' : Obj} {l : Led} {g : Obj → Led} (U : UpdF d o l g) : Upd d o o' l (g o') := by
  induction U with
  | head h => exact .head h
  | tail h _ ih => exact .tail h ih
/-- an object that stands in the ledger whatever stands at the place that turns -/
structure In1 (a : Addr) (ob : Obj) (g : Obj → Led) : Prop where
  mk ::
  h : ∀ o, (a, ob) ∈ g o
noncomputable abbrev ent (w : World) (x : String) (k : Tok) (v : Value) : DictEntry := ⟨PyData.keyHash w.params (Str.ofString x), .str (Str.ofString x) k, v⟩
/-- the tokens of a dict's keys -/
structure FK where
  k0 : Tok
  k1 : Tok
  k2 : Tok
  k3 : Tok
  k4 : Tok
  k5 : Tok
  k6 : Tok
noncomputable abbrev flD (w : World) (K : FK) (c p a z s o d : Value) : Obj := dictOf [ent w "cf" K.k0 c, ent w "pf" K.k1 p, ent w "af" K.k2 a, ent w "zf" K.k3 z, ent w "sf" K.k4 s, ent w "of" K.k5 o, ent w "df" K.k6 d] 7
local macro_rules | `(tactic| k_upd) => `(tactic| first | exact updF_upd (by assumption) | exact updF_upd (updF_again (by assumption) _))
local macro_rules | `(tactic| k_mem) => `(tactic| first | assumption | exact In1.h (by assumption) _ | exact updF_in (by assumption) _)
theorem ret_szp {w : World} {K : FK} {c a o d : Value} {P z z' S R : Int} {g : Obj → Led} {h₀ h' : Heap} {L : Addr} {m : Str → Option Value} {s : Shared} {Q : Value → Shared → Prop} {t t1 t2 t3 : Tok} {tk' : Nat}
    (hret : ∀ (t t1 t2 t3 : Tok) (h' : Heap) (tk' : Nat), Fr h₀ L h' m → News h₀ L h' (g (flD w K c (.int P t1) a (.int z t2) (.int S t3) o d)) → Q (.int R t) { s with heap := h', toks := tk' })
    (e : z' = z) (F : Fr h₀ L h' m) (N : News h₀ L h' (g (flD w K c (.int P t1) a (.int z' t2) (.int S t3) o d))) : Q (.int R t) { s with heap := h', toks := tk' } := by
  subst e
  exact hret t t1 t2 t3 h' tk' F N
set_option maxHeartbeats 4000000 in
theorem c_szp (w : World) (fl fd : Addr) (K : FK) (c p a z sv o d : Value) (x size : Int) (t ts : Tok) (news : Led) (g : Obj → Led) (U : UpdF fd (flD w K c p a z sv o d) news g) (h1 : In1 fl (instObj 181 fd) g) (hs : 1 ≤ size) (hs2 : size ≤ 64) :
    Claim w 192 [.ref fl, .int x t, .int size ts] 6 48 news (fun h₀ L m s Q => ∀ (t t1 t2 t3 : Tok) (h' : Heap) (tk' : Nat), Fr h₀ L h' m →
      News h₀ L h' (g (flD w K c (.int (1 - low8 (x % 2 ^ size.toNat) % 2) t1) a (.int (if x % 2 ^ size.toNat = 0 then 1 else 0) t2) (.int (x % 2 ^ size.toNat / 2 ^ (size - 1).toNat % 2) t3) o d)) → Q (.int (x % 2 ^ size.toNat) t) { s with heap := h', toks := tk' }) := by
  k_with_none
  k_with "execs cons" => (refine toks_succ ?_; intro tkU)
  k_with "storeName" => with_reducible first | (refine store_toks ?_; intro tkU) | (refine store_add ?_; intro tkU)
  k_with "setAttr ref" => first
    | with_reducible (refine seta_toks ?_; intro tkU)
    | with_reducible (refine seta_add ?_; intro tkU)
    | k_dflt (
      refine' toks_any ?_
      intro tkU
      refine' set_dictT ?k1 ?k2 ?k3 ?k4 ?k5 ?k6 ?k7 ?k8 ?k9 ?k10 ?k11 ?k12 ?k13 ?_; (case k1 => k_asm); (case k2 => k_asm); (case k3 => k_asm); (case k4 => k_inst); (case k5 => exact rfl); (case k6 => k_is); (case k7 => k_is); (case k8 => k_is); (case k9 => k_is); (case k10 => k_get); (case k11 => k_put); (case k12 => k_upd); (case k13 => exact Nat.le_of_ble_eq_true rfl); k_whole; intro h' F' N'; (try k_sweep))
  k_with "call type:range" => ((rename Fr _ _ _ _ => F'); (rename News _ _ _ _ => N'); (with_unfolding_all refine range1_rows F' N' ?_; intro _ _ _ _ _ _ _ _ _))
  k_with "my claim" => (
      intro pZ looseZ meanZ mgZ mbZ dpZ unZ gdZ cnZ csZ aZ ccdZ clZ outerZ A₀Z baseZ h₀Z LZ mZ sZ QZ EZ BZ FZ XZ NZ TZ hkZ hdZ huZ hretZ
      refine wpAny_call ?_
      k_dflt cell_enter
      k_steps)
  k_with "my use" => (
        (case k1 => k_asm); (case k2 => k_asm); (case k3 => k_asm); (case k4 => first | k_asm | exact drop1 (by assumption) | exact drop1 (drop1 (by assumption)) | exact drop1 (drop1 (drop1 (by assumption))) | exact drop1 (drop1 (drop1 (drop1 (by assumption))))); (case k5 => k_asm); (case k6 => first | exact rfl | assumption); (case k7 => ktr_room); (case k8 => ktr_units))
  k_with "my go" => (intro t9 h9 tk9 F9 N9; (try dsimp only); (try k_fold))
  k_with "call ref" => (k_here; (with_reducible show wpAny _ _ (call (Value.ref 87) _) _ _ _); k_dflt (refine' useC (c_wrap _ _ _ _ _ _ ?h0 ?h1) ?k1 ?k2 ?k3 ?k4 ?k5 ?k6 ?k7 ?k8 ?_; (case h0 => omega); (case h1 => omega); walk_at "my use"; walk_at "my go"))
  k_with "call ref" => (k_here; (with_reducible show wpAny _ _ (call (Value.ref 94) _) _ _ _); k_dflt (refine' useC (c_bit _ _ _ _ _ _ ?h0 ?h1) ?k1 ?k2 ?k3 ?k4 ?k5 ?k6 ?k7 ?k8 ?_; (case h0 => omega); (case h1 => omega); walk_at "my use"; walk_at "my go"))
  k_with "call ref" => (k_here; (with_reducible show wpAny _ _ (call (Value.ref 108) _) _ _ _); k_dflt (refine' useC (c_parity _ _ _ _) ?k1 ?k2 ?k3 ?k4 ?k5 ?k6 ?k7 ?k8 ?_; walk_at "my use"; walk_at "my go"))
  have e := updF_self U
  subst e
  walk_at "my claim"
  all_goals refine ret_szp (by assumption) ?_ (by assumption) (by assumption)
  all_goals first | exact (if_pos (by assumption)).symm | exact (if_neg (by assumption)).symm

section
theorem bitAnd_half (x y : Int) : Builtin.bitAnd x y / 2 = Builtin.bitAnd (x / 2) (y / 2) ∧ Builtin.bitAnd x y % 2 = (x % 2) * (y % 2) := by
  have h := kbt_halves x y
  have hx : x % 2 = 0 ∨ x % 2 = 1 := by omega
  have hy : y % 2 = 0 ∨ y % 2 = 1 := by omega
  rcases hx with hx | hx <;> rcases hy with hy | hy <;> simp only [hx, hy] at h ⊢ <;> simp at h ⊢ <;> omega
theorem bitXor_half (x y : Int) : Builtin.bitXor x y / 2 = Builtin.bitXor (x / 2) (y / 2) ∧ Builtin.bitXor x y % 2 = (x % 2 + y % 2) % 2 := by
  rw [bitXor_and, bitXor_and]
  have h := kbt_halves x y
  have hx : x % 2 = 0 ∨ x % 2 = 1 := by omega
  have hy : y % 2 = 0 ∨ y % 2 = 1 := by omega
  rcases hx with hx | hx <;> rcases hy with hy | hy <;> simp only [hx, hy] at h ⊢ <;> simp at h ⊢ <;> omega
theorem div_pow_succ (x : Int) (k : Nat) : x / 2 ^ (k + 1) = x / 2 / 2 ^ k := by
  rw [Int.pow_succ, Int.mul_comm, Int.ediv_ediv, if_neg (by omega), Int.sub_zero]
theorem bitAnd_at : ∀ (k : Nat) (x y : Int), Builtin.bitAnd x y / 2 ^ k % 2 = (x / 2 ^ k % 2) * (y / 2 ^ k % 2)
  | 0, x, y => by simpa using (bitAnd_half x y).2
  | k + 1, x, y => by
    rw [div_pow_succ, div_pow_succ x, div_pow_succ y, (bitAnd_half x y).1]
    exact bitAnd_at k _ _
theorem bitXor_at : ∀ (k : Nat) (x y : Int), Builtin.bitXor x y / 2 ^ k % 2 = (x / 2 ^ k % 2 + y / 2 ^ k % 2) % 2
  | 0, x, y => by simpa using (bitXor_half x y).2
  | k + 1, x, y => by
    rw [div_pow_succ, div_pow_succ x, div_pow_succ y, (bitXor_half x y).1]
    exact bitXor_at k _ _
/-- the six flags of a comparison, by whole numbers; H: half of all numbers of the size -/
noncomputable def sixC (a b : Int) : Int := if a < b then 1 else 0
noncomputable def sixP (a b : Int) : Int := 1 - low8 (a - b) % 2
noncomputable def sixA (a b : Int) : Int := if a % 16 < b % 16 then 1 else 0
noncomputable def sixZ (a b : Int) : Int := if a = b then 1 else 0
noncomputable def sixS (H a b : Int) : Int := (a - b) % (2 * H) / H
noncomputable def sixL (H a : Int) : Int := if a ≥ H then a - 2 * H else a
noncomputable def sixO (H a b : Int) : Int := if -H ≤ sixL H a - sixL H b ∧ sixL H a - sixL H b < H then 0 else 1
noncomputable abbrev SizeH (size H : Int) : Prop := (size = 8 ∧ H = 128) ∨ (size = 16 ∧ H = 32768) ∨ (size = 32 ∧ H = 2147483648) ∨ (size = 64 ∧ H = 9223372036854775808)
theorem sizeH_pow {size H : Int} (h : SizeH size H) : (2 : Int) ^ size.toNat = 2 * H ∧ (2 : Int) ^ (size - 1).toNat = H ∧ 1 ≤ size ∧ size ≤ 64 := by
  rcases h with ⟨rfl, rfl⟩ | ⟨rfl, rfl⟩ | ⟨rfl, rfl⟩ | ⟨rfl, rfl⟩ <;> exact ⟨by decide, by decide, by decide, by decide⟩
theorem top_bit {H x : Int} (hH : 0 < H) (h0 : 0 ≤ x) (h1 : x < 2 * H) : x / H % 2 = if x ≥ H then 1 else 0 := by
  by_cases h : x ≥ H
  · rw [if_pos h]
    have : x / H = 1 := by
      rw [show x = (x - H) + H * 1 by omega, Int.add_mul_ediv_left _ _ (by omega), Int.ediv_eq_zero_of_lt (by omega) (by omega)]
      rfl
    rw [this]; rfl
  · rw [if_neg h, Int.ediv_eq_zero_of_lt h0 (by omega)]; rfl
theorem sub_of {size H a b : Int} (h : SizeH size H) (ha : 0 ≤ a) (ha2 : a < 2 * H) (hb : 0 ≤ b) (hb2 : b < 2 * H) :
    Builtin.bitAnd (Builtin.bitXor a b) (Builtin.bitXor a ((a - b) % (2 * H))) / 2 ^ (size - 1).toNat % 2 = sixO H a b := by
  have hH : 0 < H := by rcases h with ⟨_, rfl⟩ | ⟨_, rfl⟩ | ⟨_, rfl⟩ | ⟨_, rfl⟩ <;> decide
  have hr : (a - b) % (2 * H) = if a < b then a - b + 2 * H else a - b := by
    by_cases hab : a < b
    · rw [if_pos hab]
      have : (a - b) % (2 * H) = (a - b + 2 * H) % (2 * H) := by rw [Int.add_emod_right]
      rw [this, Int.emod_eq_of_lt (by omega) (by omega)]
    · rw [if_neg hab, Int.emod_eq_of_lt (by omega) (by omega)]
  have hr0 : 0 ≤ (a - b) % (2 * H) := Int.emod_nonneg _ (by omega)
  have hr1 : (a - b) % (2 * H) < 2 * H := Int.emod_lt_of_pos _ (by omega)
  rw [bitAnd_at, bitXor_at, bitXor_at, (sizeH_pow h).2.1, top_bit hH ha ha2, top_bit hH hb hb2, top_bit hH hr0 hr1, hr]
  unfold sixO sixL
  clear h hr hr0 hr1
  by_cases h1 : a ≥ H <;> by_cases h2 : b ≥ H <;> by_cases h3 : a < b
  all_goals simp only [h1, h2, h3, if_true, if_false]
  all_goals (repeat' split)
  all_goals first | rfl | omega
theorem sub_rest {size H a b : Int} (h : SizeH size H) (ha : 0 ≤ a) (ha2 : a < 2 * H) (hb : 0 ≤ b) (hb2 : b < 2 * H) :
    1 - low8 ((a - b - 0) % 2 ^ size.toNat) % 2 = sixP a b ∧ (if (a - b - 0) % 2 ^ size.toNat = 0 then (1 : Int) else 0) = sixZ a b ∧ (a - b - 0) % 2 ^ size.toNat / 2 ^ (size - 1).toNat % 2 = sixS H a b := by
  obtain ⟨e1, e2, _, _⟩ := sizeH_pow h
  rw [e1, e2, Int.sub_zero]
  have hH : 0 < H := by rcases h with ⟨_, rfl⟩ | ⟨_, rfl⟩ | ⟨_, rfl⟩ | ⟨_, rfl⟩ <;> decide
  have hr0 : 0 ≤ (a - b) % (2 * H) := Int.emod_nonneg _ (by omega)
  have hr1 : (a - b) % (2 * H) < 2 * H := Int.emod_lt_of_pos _ (by omega)
  refine ⟨?_, ?_, ?_⟩
  · have e : low8 ((a - b) % (2 * H)) = low8 (a - b) := by
      rw [← low8_mod ((a - b) % (2 * H)), ← low8_mod (a - b)]
      congr 1
      refine Int.emod_emod_of_dvd _ ?_
      rcases h with ⟨_, rfl⟩ | ⟨_, rfl⟩ | ⟨_, rfl⟩ | ⟨_, rfl⟩ <;> decide
    rw [e]; rfl
  · unfold sixZ
    have : (a - b) % (2 * H) = 0 ↔ a = b := by
      constructor
      · intro q
        have hd := Int.dvd_of_emod_eq_zero q
        obtain ⟨k, hk⟩ := hd
        have : k = 0 := by
          have h1 : k < 1 := by
            refine Int.lt_of_not_ge fun hk1 => ?_
            have := Int.mul_le_mul_of_nonneg_left hk1 (show 0 ≤ 2 * H by omega)
            omega
          have h2 : -1 < k := by
            refine Int.lt_of_not_ge fun hk1 => ?_
            have := Int.mul_le_mul_of_nonneg_left hk1 (show 0 ≤ 2 * H by omega)
            omega
          omega
        subst this
        omega
      · rintro rfl; simp
    by_cases q : a = b
    · rw [if_pos q, if_pos (this.mpr q)]
    · rw [if_neg q, if_neg fun x => q (this.mp x)]
  · unfold sixS
    have := top_bit hH hr0 hr1
    rw [this]
    by_cases q : (a - b) % (2 * H) ≥ H
    · rw [if_pos q]
      generalize (a - b) % (2 * H) = r at *
      rw [show r = (r - H) + H * 1 by omega, Int.add_mul_ediv_left _ _ (by omega), Int.ediv_eq_zero_of_lt (by omega) (by omega)]
      rfl
    · rw [if_neg q, Int.ediv_eq_zero_of_lt hr0 (by omega)]
theorem ret_sub {w : World} {K : FK} {d : Value} {C C' P P' A A' Z Z' S S' O O' R R' : Int} {g : Obj → Led} {h₀ h' : Heap} {L : Addr} {m : Str → Option Value} {s : Shared} {Q : Value → Shared → Prop} {t t0 t1 t2 t3 t4 t5 : Tok} {tk' : Nat}
    (hret : ∀ (t t0 t1 t2 t3 t4 t5 : Tok) (h' : Heap) (tk' : Nat), Fr h₀ L h' m → News h₀ L h' (g (flD w K (.int C t0) (.int P t1) (.int A t2) (.int Z t3) (.int S t4) (.int O t5) d)) → Q (.int R t) { s with heap := h', toks := tk' })
    (F : Fr h₀ L h' m) (N : News h₀ L h' (g (flD w K (.int C' t0) (.int P' t1) (.int A' t2) (.int Z' t3) (.int S' t4) (.int O' t5) d))) (e0 : C' = C) (e1 : P' = P) (e2 : A' = A) (e3 : Z' = Z) (e4 : S' = S) (e5 : O' = O) (e6 : R' = R) : Q (.int R' t) { s with heap := h', toks := tk' } := by
  subst e0 e1 e2 e3 e4 e5 e6
  exact hret t t0 t1 t2 t3 t4 t5 h' tk' F N
end

set_option maxHeartbeats 4000000 in
theorem c_sub (w : World) (fl fd : Addr) (K : FK) (c p a z sv o d : Value) (x y size H : Int) (t t' tb ts : Tok) (news : Led) (g : Obj → Led) (U : UpdF fd (flD w K c p a z sv o d) news g) (h1 : In1 fl (instObj 181 fd) g) (hz : SizeH size H)
    (hx : 0 ≤ x) (hx2 : x < 2 * H) (hy : 0 ≤ y) (hy2 : y < 2 * H) :
    Claim w 199 [.ref fl, .int x t, .int y t', .int 0 tb, .int size ts] 8 64 news (fun h₀ L m s Q => ∀ (t t0 t1 t2 t3 t4 t5 : Tok) (h' : Heap) (tk' : Nat), Fr h₀ L h' m →
      News h₀ L h' (g (flD w K (.int (sixC x y) t0) (.int (sixP x y) t1) (.int (sixA x y) t2) (.int (sixZ x y) t3) (.int (sixS H x y) t4) (.int (sixO H x y) t5) d)) → Q (.int ((x - y) % (2 * H)) t) { s with heap := h', toks := tk' }) := by
  k_with_none
  k_with "execs cons" => (refine toks_succ ?_; intro tkU)
  k_with "storeName" => with_reducible first | (refine store_toks ?_; intro tkU) | (refine store_add ?_; intro tkU)
  k_with "setAttr ref" => first
    | with_reducible (refine seta_toks ?_; intro tkU)
    | with_reducible (refine seta_add ?_; intro tkU)
    | k_dflt (
      refine' toks_any ?_
      intro tkU
      refine' set_dictT ?k1 ?k2 ?k3 ?k4 ?k5 ?k6 ?k7 ?k8 ?k9 ?k10 ?k11 ?k12 ?k13 ?_; (case k1 => k_asm); (case k2 => k_asm); (case k3 => k_asm); (case k4 => k_inst); (case k5 => exact rfl); (case k6 => k_is); (case k7 => k_is); (case k8 => k_is); (case k9 => k_is); (case k10 => k_get); (case k11 => k_put); (case k12 => k_upd); (case k13 => exact Nat.le_of_ble_eq_true rfl); k_whole; intro h' F' N'; (try k_sweep))
  k_with "call type:range" => ((rename Fr _ _ _ _ => F'); (rename News _ _ _ _ => N'); (with_unfolding_all refine range1_rows F' N' ?_; intro _ _ _ _ _ _ _ _ _))
  k_with "my claim" => (
      intro pZ looseZ meanZ mgZ mbZ dpZ unZ gdZ cnZ csZ aZ ccdZ clZ outerZ A₀Z baseZ h₀Z LZ mZ sZ QZ EZ BZ FZ XZ NZ TZ hkZ hdZ huZ hretZ
      refine wpAny_call ?_
      k_dflt cell_enter
      k_steps)
  k_with "my use" => (
        (case k1 => k_asm); (case k2 => k_asm); (case k3 => k_asm); (case k4 => first | k_asm | exact drop1 (by assumption) | exact drop1 (drop1 (by assumption)) | exact drop1 (drop1 (drop1 (by assumption))) | exact drop1 (drop1 (drop1 (drop1 (by assumption))))); (case k5 => k_asm); (case k6 => first | exact rfl | assumption); (case k7 => ktr_room); (case k8 => ktr_units))
  k_with "my go" => (intro t9 h9 tk9 F9 N9; (try dsimp only); (try k_fold))
  k_with "call ref" => (k_here; (with_reducible show wpAny _ _ (call (Value.ref 87) _) _ _ _); k_dflt (refine' useC (c_wrap _ _ _ _ _ _ ?h0 ?h1) ?k1 ?k2 ?k3 ?k4 ?k5 ?k6 ?k7 ?k8 ?_; (case h0 => omega); (case h1 => omega); walk_at "my use"; walk_at "my go"))
  k_with "call ref" => (k_here; (with_reducible show wpAny _ _ (call (Value.ref 94) _) _ _ _); k_dflt (refine' useC (c_bit _ _ _ _ _ _ ?h0 ?h1) ?k1 ?k2 ?k3 ?k4 ?k5 ?k6 ?k7 ?k8 ?_; (case h0 => omega); (case h1 => omega); walk_at "my use"; walk_at "my go"))
  k_with "call ref" => (k_here; (with_reducible show wpAny _ _ (call (Value.ref 192) _) _ _ _); k_dflt (refine' useC (c_szp _ _ _ _ _ _ _ _ _ _ _ _ _ _ _ _ _ ?u ?h1 ?hs ?hs2) ?k1 ?k2 ?k3 ?k4 ?k5 ?k6 ?k7 ?k8 ?_; (case u => first | assumption | exact updF_again (by assumption) _); (case h1 => assumption); (case hs => omega); (case hs2 => omega); walk_at "my use"; intro t9 t91 t92 t93 h9 tk9 F9 N9; (try dsimp only); (try k_fold)))
  have e := updF_self U
  subst e
  obtain ⟨z1, z2, z3, z4⟩ := sizeH_pow hz
  have hX : x % 2 ^ size.toNat = x := by rw [z1]; exact Int.emod_eq_of_lt hx hx2
  have hY : y % 2 ^ size.toNat = y := by rw [z1]; exact Int.emod_eq_of_lt hy hy2
  have hA : Builtin.bitAnd (x % 2 ^ size.toNat) 15 = x % 16 := by rw [hX, bitAnd_m4]
  have hB : Builtin.bitAnd (y % 2 ^ size.toNat) 15 = y % 16 := by rw [hY, bitAnd_m4]
  obtain ⟨r1, r2, r3⟩ := sub_rest hz hx hx2 hy hy2
  have r4 := sub_of hz hx hx2 hy hy2
  walk_at "my claim"
  all_goals refine ret_sub (by assumption) (by assumption) (by assumption) ?_ ?_ ?_ ?_ ?_ ?_ ?_
  all_goals first
    | exact (if_pos (show x < y by omega)).symm
    | exact (if_neg (show ¬ x < y by omega)).symm
    | exact (if_pos (show x % 16 < y % 16 by omega)).symm
    | exact (if_neg (show ¬ x % 16 < y % 16 by omega)).symm
    | (rw [hX, hY]; first | exact r1 | exact r2 | exact r3 | (rw [z1, Int.sub_zero] <;> exact r4))

/-- the tokens of a State's keys -/
structure SK where
  k0 : Tok
  k1 : Tok
  k2 : Tok
  k3 : Tok
  k4 : Tok
  k5 : Tok
  k6 : Tok
  k7 : Tok
  k8 : Tok
/-- where a State's objects lie -/
structure Ad where
  st : Addr
  sd : Addr
  rl : Addr
  xl : Addr
  fl : Addr
  fd : Addr
  mm : Addr
  md : Addr
  hd : Addr
  sg : Addr
noncomputable abbrev stD (w : World) (K : SK) (ad : Ad) (rip begin_ : Value) : Obj :=
  dictOf [ent w "iset" K.k0 .none, ent w "regs" K.k1 (.ref ad.rl), ent w "xmm" K.k2 (.ref ad.xl), ent w "flags" K.k3 (.ref ad.fl), ent w "memory" K.k4 (.ref ad.mm), ent w "rip" K.k5 rip, ent w "begin" K.k6 begin_, ent w "segments" K.k7 (.ref ad.sg), ent w "is_halted" K.k8 (.bool false)] 9
/-- a ledger in which a State stands; what turns: its own dict, the registers' list, the flags' dict, the memory's dict -/
structure Cells (w : World) (km : Tok) (ad : Ad) (g : Obj → Obj → Obj → Obj → Led) : Prop where
  st : ∀ a b c d, (ad.st, instObj 525 ad.sd) ∈ g a b c d
  sd : ∀ a b c d, (ad.sd, a) ∈ g a b c d
  rl : ∀ a b c d, (ad.rl, b) ∈ g a b c d
  fl : ∀ a b c d, (ad.fl, instObj 181 ad.fd) ∈ g a b c d
  fd : ∀ a b c d, (ad.fd, c) ∈ g a b c d
  mm : ∀ a b c d, (ad.mm, instObj 408 ad.md) ∈ g a b c d
  md : ∀ a b c d, (ad.md, memD w km 1 ad.hd) ∈ g a b c d
  hd : ∀ a b c d, (ad.hd, d) ∈ g a b c d
  usd : ∀ a b c d, UpdF ad.sd a (g a b c d) (fun o => g o b c d)
  url : ∀ a b c d, UpdF ad.rl b (g a b c d) (fun o => g a o c d)
  ufd : ∀ a b c d, UpdF ad.fd c (g a b c d) (fun o => g a b o d)
  uhd : ∀ a b c d, UpdF ad.hd d (g a b c d) (fun o => g a b c o)
  lo : (ad.hd == sysModules) = false
/-- a def that writes no object but the registers' list -/
noncomputable def RetR (regs : List Int) (v : Tok → Value) (g : Obj → Obj → Obj → Obj → Led) (a c d : Obj) (h₀ : Heap) (L : Addr) (m : Str → Option Value) (s : Shared) (Q : Value → Shared → Prop) : Prop :=
  ∀ (t : Tok) (vs : List Value) (n : Nat) (h' : Heap) (tk' : Nat), IntsAre vs regs → Fr h₀ L h' m → News h₀ L h' (g a (listOf vs.toArray n) c d) → Q (v t) { s with heap := h', toks := tk' }
local macro_rules | `(tactic| k_upd) => `(tactic| first | exact updF_upd (Cells.usd (by assumption) _ _ _ _) | exact updF_upd (Cells.url (by assumption) _ _ _ _))
local macro_rules | `(tactic| k_mem) => `(tactic| first | assumption | exact Cells.st (by assumption) _ _ _ _ | exact Cells.sd (by assumption) _ _ _ _ | exact Cells.rl (by assumption) _ _ _ _ | exact Cells.fl (by assumption) _ _ _ _ | exact Cells.fd (by assumption) _ _ _ _ | exact Cells.mm (by assumption) _ _ _ _ | exact Cells.md (by assumption) _ _ _ _ | exact Cells.hd (by assumption) _ _ _ _ | exact In1.h (by assumption) _ | exact updF_in (by assumption) _)
theorem retRI {regs regs' : List Int} {x x' : Int} {g : Obj → Obj → Obj → Obj → Led} {a c d : Obj} {h₀ h' : Heap} {L : Addr} {m : Str → Option Value} {s : Shared} {Q : Value → Shared → Prop} {t : Tok} {vs : List Value} {n tk' : Nat}
    (hret : RetR regs (fun t => .int x t) g a c d h₀ L m s Q) (hI : IntsAre vs regs') (F : Fr h₀ L h' m) (N : News h₀ L h' (g a (listOf vs.toArray n) c d)) (e : regs' = regs) (e2 : x' = x) : Q (.int x' t) { s with heap := h', toks := tk' } := by
  subst e e2; exact hret t vs n h' tk' hI F N
theorem retRN {regs regs' : List Int} {g : Obj → Obj → Obj → Obj → Led} {a c d : Obj} {h₀ h' : Heap} {L : Addr} {m : Str → Option Value} {s : Shared} {Q : Value → Shared → Prop} {vs : List Value} {n tk' : Nat}
    (hret : RetR regs (fun _ => .none) g a c d h₀ L m s Q) (hI : IntsAre vs regs') (F : Fr h₀ L h' m) (N : News h₀ L h' (g a (listOf vs.toArray n) c d)) (e : regs' = regs) : Q .none { s with heap := h', toks := tk' } := by
  subst e; exact hret 0 vs n h' tk' hI F N
theorem getD_set_self {l : List Int} {i : Nat} {x d : Int} (h : i < l.length) : (l.set i x).getD i d = x := by
  rw [List.getD_eq_getElem?_getD, List.getElem?_set_self h]; rfl
set_option maxHeartbeats 4000000 in
theorem c_count (w : World) (km : Tok) (ad : Ad) (K : SK) (rip bg : Value) (vs : List Value) (regs : List Int) (n : Nat) (c d : Obj) (g : Obj → Obj → Obj → Obj → Led) (C : Cells w km ad g) (hI : IntsAre vs regs) (hl : regs.length = 16) :
    Claim w 290 [.ref ad.st] 4 32 (g (stD w K ad rip bg) (listOf vs.toArray n) c d) (RetR (regs.set 1 ((regs.getD 1 0 - 1) % 18446744073709551616)) (fun t => .int ((regs.getD 1 0 - 1) % 18446744073709551616) t) g (stD w K ad rip bg) c d) := by
  k_with_none
  k_with "execs cons" => (refine toks_succ ?_; intro tkU)
  k_with "storeName" => with_reducible first | (refine store_toks ?_; intro tkU) | (refine store_add ?_; intro tkU)
  k_with "call type:range" => ((rename Fr _ _ _ _ => F'); (rename News _ _ _ _ => N'); (with_unfolding_all refine range1_rows F' N' ?_; intro _ _ _ _ _ _ _ _ _))
  k_with "my claim" => (
      intro pZ looseZ meanZ mgZ mbZ dpZ unZ gdZ cnZ csZ aZ ccdZ clZ outerZ A₀Z baseZ h₀Z LZ mZ sZ QZ EZ BZ FZ XZ NZ TZ hkZ hdZ huZ hretZ
      refine wpAny_call ?_
      k_dflt cell_enter
      k_steps)
  k_with "my use" => (
        (case k1 => k_asm); (case k2 => k_asm); (case k3 => k_asm); (case k4 => first | k_asm | exact drop1 (by assumption) | exact drop1 (drop1 (by assumption)) | exact drop1 (drop1 (drop1 (by assumption))) | exact drop1 (drop1 (drop1 (drop1 (by assumption))))); (case k5 => k_asm); (case k6 => first | exact rfl | assumption); (case k7 => ktr_room); (case k8 => ktr_units))
  k_with "my go" => (intro t9 h9 tk9 F9 N9; (try dsimp only); (try k_fold))
  k_with "call ref" => (k_here; (with_reducible show wpAny _ _ (call (Value.ref 87) _) _ _ _); k_dflt (refine' useC (c_wrap _ _ _ _ _ _ ?h0 ?h1) ?k1 ?k2 ?k3 ?k4 ?k5 ?k6 ?k7 ?k8 ?_; (case h0 => omega); (case h1 => omega); walk_at "my use"; walk_at "my go"))
  walk_at "my claim"
  exact retRI (by assumption) (by assumption) (by assumption) (by assumption) rfl (getD_set_self (by rw [hl]; decide))
set_option maxHeartbeats 4000000 in
theorem c_goon (w : World) (km : Tok) (ad : Ad) (K : SK) (KF : FK) (rip bg f0 f1 f2 f3 f4 f5 : Value) (down : Int) (td : Tok) (vs : List Value) (regs : List Int) (n : Nat) (d : Obj) (g : Obj → Obj → Obj → Obj → Led) (C : Cells w km ad g) (hI : IntsAre vs regs) (hl : regs.length = 16)
    (j width : Int) (tj tw : Tok) (hj : 0 ≤ j) (hj2 : j < 16) :
    Claim w 297 [.ref ad.st, .int j tj, .int width tw] 4 32 (g (stD w K ad rip bg) (listOf vs.toArray n) (flD w KF f0 f1 f2 f3 f4 f5 (.int down td)) d)
      (RetR (regs.set j.toNat ((regs.getD j.toNat 0 + (if down = 0 then width else -width)) % 18446744073709551616)) (fun _ => .none) g (stD w K ad rip bg) (flD w KF f0 f1 f2 f3 f4 f5 (.int down td)) d) := by
  k_with_none
  k_with "execs cons" => (refine toks_succ ?_; intro tkU)
  k_with "storeName" => with_reducible first | (refine store_toks ?_; intro tkU) | (refine store_add ?_; intro tkU)
  k_with "call type:range" => ((rename Fr _ _ _ _ => F'); (rename News _ _ _ _ => N'); (with_unfolding_all refine range1_rows F' N' ?_; intro _ _ _ _ _ _ _ _ _))
  k_with "my claim" => (
      intro pZ looseZ meanZ mgZ mbZ dpZ unZ gdZ cnZ csZ aZ ccdZ clZ outerZ A₀Z baseZ h₀Z LZ mZ sZ QZ EZ BZ FZ XZ NZ TZ hkZ hdZ huZ hretZ
      refine wpAny_call ?_
      k_dflt cell_enter
      k_steps)
  k_with "my use" => (
        (case k1 => k_asm); (case k2 => k_asm); (case k3 => k_asm); (case k4 => first | k_asm | exact drop1 (by assumption) | exact drop1 (drop1 (by assumption)) | exact drop1 (drop1 (drop1 (by assumption))) | exact drop1 (drop1 (drop1 (drop1 (by assumption))))); (case k5 => k_asm); (case k6 => first | exact rfl | assumption); (case k7 => ktr_room); (case k8 => ktr_units))
  k_with "my go" => (intro t9 h9 tk9 F9 N9; (try dsimp only); (try k_fold))
  k_with "call ref" => (k_here; (with_reducible show wpAny _ _ (call (Value.ref 87) _) _ _ _); k_dflt (refine' useC (c_wrap _ _ _ _ _ _ ?h0 ?h1) ?k1 ?k2 ?k3 ?k4 ?k5 ?k6 ?k7 ?k8 ?_; (case h0 => omega); (case h1 => omega); walk_at "my use"; walk_at "my go"))
  walk_at "my claim"
  all_goals refine retRN (by assumption) (by assumption) (by assumption) (by assumption) ?_
  all_goals first | rw [if_pos (by assumption)] | rw [if_neg (by assumption)]
  all_goals rfl

noncomputable def joinV (old worth size : Int) : Int := if size ≥ 32 then worth else old - old % 2 ^ size.toNat + worth
set_option maxHeartbeats 4000000 in
theorem c_joined (w : World) (x y k : Int) (t t' t'' : Tok) (news : Led) (h0 : 0 ≤ k) (h1 : k ≤ 64) : Claim w 419 [.int x t, .int y t', .int k t''] 4 32 news (RetV (fun t => .int (joinV x y k) t) news) := by
  k_with_none
  k_with "execs cons" => (refine toks_succ ?_; intro tkU)
  k_with "storeName" => with_reducible first | (refine store_toks ?_; intro tkU) | (refine store_add ?_; intro tkU)
  k_with "call type:range" => ((rename Fr _ _ _ _ => F'); (rename News _ _ _ _ => N'); (with_unfolding_all refine range1_rows F' N' ?_; intro _ _ _ _ _ _ _ _ _))
  k_with "my claim" => (
      intro pZ looseZ meanZ mgZ mbZ dpZ unZ gdZ cnZ csZ aZ ccdZ clZ outerZ A₀Z baseZ h₀Z LZ mZ sZ QZ EZ BZ FZ XZ NZ TZ hkZ hdZ huZ hretZ
      refine wpAny_call ?_
      k_dflt cell_enter
      k_steps)
  k_with "my use" => (
        (case k1 => k_asm); (case k2 => k_asm); (case k3 => k_asm); (case k4 => first | k_asm | exact drop1 (by assumption) | exact drop1 (drop1 (by assumption)) | exact drop1 (drop1 (drop1 (by assumption))) | exact drop1 (drop1 (drop1 (drop1 (by assumption))))); (case k5 => k_asm); (case k6 => first | exact rfl | assumption); (case k7 => ktr_room); (case k8 => ktr_units))
  k_with "my go" => (intro t9 h9 tk9 F9 N9; (try dsimp only); (try k_fold))
  k_with "call ref" => (k_here; (with_reducible show wpAny _ _ (call (Value.ref 87) _) _ _ _); k_dflt (refine' useC (c_wrap _ _ _ _ _ _ ?h0 ?h1) ?k1 ?k2 ?k3 ?k4 ?k5 ?k6 ?k7 ?k8 ?_; (case h0 => omega); (case h1 => omega); walk_at "my use"; walk_at "my go"))
  walk_at "my claim"
  all_goals refine retI (by assumption) (by assumption) (by assumption) ?_
  all_goals first | exact (if_pos (by assumption)).symm | exact (if_neg (by assumption)).symm

local macro_rules | `(tactic| ke_room) => `(tactic| ktr_units)
structure RK where
  k0 : Tok
  k1 : Tok
  k2 : Tok
  k3 : Tok
noncomputable abbrev regD (w : World) (K : RK) (nm : Str) (t0 t1 t2 t3 : Tok) (size : Int) : Obj :=
  dictOf [ent w "name" K.k0 (.str nm t0), ent w "kind" K.k1 (.str (Str.ofString "gpr") t1), ent w "number" K.k2 (.int 0 t2), ent w "size" K.k3 (.int size t3)] 4
theorem item0 {prog : Program} {w : World} {A : Around} {E : Value → Shared → Prop} {s : Shared} {h₀ : Heap} {L D : Addr} {news : Led} {v : Value} {vs : List Value} {n : Nat} {u : Tok} {value slice : PySem.Expr} {Q : Value → Shared → Prop}
    (N : News h₀ L s.heap news) (hm : (D, listOf (v :: vs).toArray n) ∈ news) (h : Q v s)
    (hs : subscripted slice false (.ref D) (.int 0 u) = operate [.ref D, .int 0 u] (getItem (.ref D) (.int 0 u)) := by with_unfolding_all rfl) : wpAny (model prog w) A (subscriptTail value slice (.ref D) (.int 0 u)) Q E s :=
  have hl : s.heap.IsList D (v :: vs).toArray := PySem.IsL.isList (n := n) (N _ hm).1
  tail_any hl.typeIs slot_list_getitem.lookup (wpAny_getItem_list hl (by decide) (by decide) (by simp) h) hs
theorem split8 {prog : Program} {w : World} {A : Around} {E : Value → Shared → Prop} {s : Shared} {h₀ : Heap} {L : Addr} {m : Str → Option Value} {news : Led} {x s0 s1 s2 s3 s4 s5 s6 s7 : Str} {t : Tok} {Q : Value → Shared → Prop}
    (F : Fr h₀ L s.heap m) (N : News h₀ L s.heap news) (hw : Txt.words x = [s0, s1, s2, s3, s4, s5, s6, s7]) (hsz : x.length + 2 ≤ sizeLine)
    (h : ∀ D n t0 t1 t2 t3 t4 t5 t6 t7 h' k, Fr h₀ L h' m → News h₀ L h' ((D, listOf [.str s0 t0, .str s1 t1, .str s2 t2, .str s3 t3, .str s4 t4, .str s5 t5, .str s6 t6, .str s7 t7].toArray n) :: news) → (∀ p ∈ news, p.1 < D) → Q (.ref D) { s with heap := h', toks := k }) :
    wpAny (model prog w) A (call (.builtin "str.split") [.str x t]) Q E s :=
  KSpl.split0 F N (fun D l h' k e _ F' N' l1 => by
    rw [hw] at e
    have e0 := e
    clear e
    obtain ⟨t0, l, rfl, e1⟩ := KSpl.cons_of e0
    clear e0
    obtain ⟨t1, l, rfl, e2⟩ := KSpl.cons_of e1
    clear e1
    obtain ⟨t2, l, rfl, e3⟩ := KSpl.cons_of e2
    clear e2
    obtain ⟨t3, l, rfl, e4⟩ := KSpl.cons_of e3
    clear e3
    obtain ⟨t4, l, rfl, e5⟩ := KSpl.cons_of e4
    clear e4
    obtain ⟨t5, l, rfl, e6⟩ := KSpl.cons_of e5
    clear e5
    obtain ⟨t6, l, rfl, e7⟩ := KSpl.cons_of e6
    clear e6
    obtain ⟨t7, l, rfl, e8⟩ := KSpl.cons_of e7
    clear e7
    obtain rfl := KSpl.nil_of e8
    exact h D 0 t0 t1 t2 t3 t4 t5 t6 t7 h' k F' N' l1) hsz
noncomputable def RetE (D : Addr) (news : Led) (h₀ : Heap) (L : Addr) (m : Str → Option Value) (s : Shared) (Q : Value → Shared → Prop) : Prop :=
  ∀ (n : Nat) (s0 s1 s2 s3 s4 s5 s6 s7 : Str) (t0 t1 t2 t3 t4 t5 t6 t7 : Tok) (h' : Heap) (tk' : Nat), PySem.SeqAt.shaped (.list [.str s0, .str s1, .str s2, .str s3, .str s4, .str s5, .str s6, .str s7]) = true → (∀ p ∈ news, p.1 < D) → Fr h₀ L h' m →
    News h₀ L h' ((D, listOf [.str s0 t0, .str s1 t1, .str s2 t2, .str s3 t3, .str s4 t4, .str s5 t5, .str s6 t6, .str s7 t7].toArray n) :: news) → Q (.ref D) { s with heap := h', toks := tk' }
theorem retE {D : Addr} {news : Led} {h₀ h' : Heap} {L : Addr} {m : Str → Option Value} {s : Shared} {Q : Value → Shared → Prop} {n : Nat} {s0 s1 s2 s3 s4 s5 s6 s7 : Str} {t0 t1 t2 t3 t4 t5 t6 t7 : Tok} {tk' : Nat}
    (hret : ∀ D, RetE D news h₀ L m s Q) (hs : PySem.SeqAt.shaped (.list [.str s0, .str s1, .str s2, .str s3, .str s4, .str s5, .str s6, .str s7]) = true) (hl : ∀ p ∈ news, p.1 < D) (F : Fr h₀ L h' m)
    (N : News h₀ L h' ((D, listOf [.str s0 t0, .str s1 t1, .str s2 t2, .str s3 t3, .str s4 t4, .str s5 t5, .str s6 t6, .str s7 t7].toArray n) :: news)) : Q (.ref D) { s with heap := h', toks := tk' } := hret D _ _ _ _ _ _ _ _ _ _ _ _ _ _ _ _ _ _ _ hs hl F N
set_option maxHeartbeats 4000000 in
theorem c_early (w : World) (size H : Int) (t : Tok) (news : Led) (hz : SizeH size H) : Claim w 269 [.int size t] 2 32 news (fun h₀ L m s Q => ∀ D, RetE D news h₀ L m s Q) := by
  k_with_none
  k_with "execs cons" => (refine toks_succ ?_; intro tkU)
  k_with "storeName" => with_reducible first | (refine store_toks ?_; intro tkU) | (refine store_add ?_; intro tkU)
  k_with "call type:range" => ((rename Fr _ _ _ _ => F'); (rename News _ _ _ _ => N'); (with_unfolding_all refine range1_rows F' N' ?_; intro _ _ _ _ _ _ _ _ _))
  k_with "my claim" => (
      intro pZ looseZ meanZ mgZ mbZ dpZ unZ gdZ cnZ csZ aZ ccdZ clZ outerZ A₀Z baseZ h₀Z LZ mZ sZ QZ EZ BZ FZ XZ NZ TZ hkZ hdZ huZ hretZ
      refine wpAny_call ?_
      k_dflt cell_enter
      k_steps)
  rcases hz with ⟨rfl, _⟩ | ⟨rfl, _⟩ | ⟨rfl, _⟩ | ⟨rfl, _⟩
  all_goals
    k_with "call builtin:str.split" => k_dflt (
      rename Fr _ _ _ _ => FF
      rename News _ _ _ _ => NN
      first
        | refine split8 FF NN (show Txt.words (Str.ofString "rax rcx rdx rbx rsp rbp rsi rdi") = [Str.ofString "rax", Str.ofString "rcx", Str.ofString "rdx", Str.ofString "rbx", Str.ofString "rsp", Str.ofString "rbp", Str.ofString "rsi", Str.ofString "rdi"] by decide +kernel) (by exact Nat.le_of_ble_eq_true rfl) ?_
        | refine split8 FF NN (show Txt.words (Str.ofString "eax ecx edx ebx esp ebp esi edi") = [Str.ofString "eax", Str.ofString "ecx", Str.ofString "edx", Str.ofString "ebx", Str.ofString "esp", Str.ofString "ebp", Str.ofString "esi", Str.ofString "edi"] by decide +kernel) (by exact Nat.le_of_ble_eq_true rfl) ?_
        | refine split8 FF NN (show Txt.words (Str.ofString "ax cx dx bx sp bp si di") = [Str.ofString "ax", Str.ofString "cx", Str.ofString "dx", Str.ofString "bx", Str.ofString "sp", Str.ofString "bp", Str.ofString "si", Str.ofString "di"] by decide +kernel) (by exact Nat.le_of_ble_eq_true rfl) ?_
        | refine split8 FF NN (show Txt.words (Str.ofString "al cl dl bl spl bpl sil dil") = [Str.ofString "al", Str.ofString "cl", Str.ofString "dl", Str.ofString "bl", Str.ofString "spl", Str.ofString "bpl", Str.ofString "sil", Str.ofString "dil"] by decide +kernel) (by exact Nat.le_of_ble_eq_true rfl) ?_
      intro D' n' u0 u1 u2 u3 u4 u5 u6 u7 h' k' F' N' l1
      (try k_lt l1))
    walk_at "my claim"
    refine retE (by assumption) ?_ ?_ (by assumption) (by assumption)
    · kernel_rfl!
    · first | assumption | exact ktn_ltOf (by assumption)
theorem retG {w : World} {news own : Led} {size : Int} {h₀ h' : Heap} {L : Addr} {m : Str → Option Value} {s : Shared} {Q : Value → Shared → Prop} {x dx : Addr} {k0 k1 k2 k3 : Tok} {nm : Str} {t0 t1 t2 t3 : Tok} {tk' : Nat}
    (hret : ∀ (x dx : Addr) (K : RK) (nm : Str) (t0 t1 t2 t3 : Tok) (h' : Heap) (tk' : Nat), (∀ p ∈ news, p.1 < dx) → dx < x → Fr h₀ L h' m → News h₀ L h' ((x, instObj 258 dx) :: (dx, regD w K nm t0 t1 t2 t3 size) :: news) → Q (.ref x) { s with heap := h', toks := tk' })
    (hl : ∀ p ∈ news, p.1 < dx) (hl2 : dx < x) (F : Fr h₀ L h' m) (N : News h₀ L h' ((x, instObj 258 dx) :: (dx, regD w ⟨k0, k1, k2, k3⟩ nm t0 t1 t2 t3 size) :: (own ++ news))) : Q (.ref x) { s with heap := h', toks := tk' } :=
  hret x dx ⟨k0, k1, k2, k3⟩ nm t0 t1 t2 t3 h' tk' hl hl2 F (fun p hp => N p (by
    rcases List.mem_cons.mp hp with rfl | hp
    · exact .head _
    · rcases List.mem_cons.mp hp with rfl | hp
      · exact .tail _ (.head _)
      · exact .tail _ (.tail _ (List.mem_append_right _ hp))))
set_option maxHeartbeats 4000000 in
theorem c_gpr (w : World) (size H : Int) (t t' : Tok) (news : Led) (hz : SizeH size H) :
    Claim w 283 [.int 0 t, .int size t'] 6 200 news (fun h₀ L m s Q => ∀ (x dx : Addr) (K : RK) (nm : Str) (t0 t1 t2 t3 : Tok) (h' : Heap) (tk' : Nat), (∀ p ∈ news, p.1 < dx) → dx < x → Fr h₀ L h' m →
      News h₀ L h' ((x, instObj 258 dx) :: (dx, regD w K nm t0 t1 t2 t3 size) :: news) → Q (.ref x) { s with heap := h', toks := tk' }) := by
  k_with_none
  k_with "execs cons" => (refine toks_succ ?_; intro tkU)
  k_with "storeName" => with_reducible first | (refine store_toks ?_; intro tkU) | (refine store_add ?_; intro tkU)
  k_with "setAttr ref" => first
    | with_reducible (refine seta_toks ?_; intro tkU)
    | with_reducible (refine seta_add ?_; intro tkU)
    | k_dflt (
      refine' toks_any ?_
      intro tkU
      refine' set_dictT ?k1 ?k2 ?k3 ?k4 ?k5 ?k6 ?k7 ?k8 ?k9 ?k10 ?k11 ?k12 ?k13 ?_; (case k1 => k_asm); (case k2 => k_asm); (case k3 => k_asm); (case k4 => k_inst); (case k5 => exact rfl); (case k6 => k_is); (case k7 => k_is); (case k8 => k_is); (case k9 => k_is); (case k10 => k_get); (case k11 => k_put); (case k12 => k_upd); (case k13 => exact Nat.le_of_ble_eq_true rfl); k_whole; intro h' F' N'; (try k_sweep))
  k_with "call type:range" => ((rename Fr _ _ _ _ => F'); (rename News _ _ _ _ => N'); (with_unfolding_all refine range1_rows F' N' ?_; intro _ _ _ _ _ _ _ _ _))
  k_with "my claim" => (
      intro pZ looseZ meanZ mgZ mbZ dpZ unZ gdZ cnZ csZ aZ ccdZ clZ outerZ A₀Z baseZ h₀Z LZ mZ sZ QZ EZ BZ FZ XZ NZ TZ hkZ hdZ huZ hretZ
      refine wpAny_call ?_
      k_dflt cell_enter
      k_steps)
  k_with "my use" => (
        (case k1 => k_asm); (case k2 => k_asm); (case k3 => k_asm); (case k4 => first | k_asm | exact drop1 (by assumption) | exact drop1 (drop1 (by assumption)) | exact drop1 (drop1 (drop1 (by assumption))) | exact drop1 (drop1 (drop1 (drop1 (by assumption))))); (case k5 => k_asm); (case k6 => first | exact rfl | assumption); (case k7 => ktr_room); (case k8 => ktr_units))
  k_with "call ref" => k_dflt (
    with_reducible show wpAny _ _ (call (Value.ref 269) _) _ _ _
    refine' useC (c_early w size H _ _ hz) ?k1 ?k2 ?k3 ?k4 ?k5 ?k6 ?k7 ?k8 ?_
    walk_at "my use"
    intro D n s0 s1 s2 s3 s4 s5 s6 s7 t0 t1 t2 t3 t4 t5 t6 t7 h9 tk9 hsh l1 F9 N9
    (try k_lt l1)
    (try dsimp only)
    (try k_fold))
  k_with "subscriptTail Name Name ref int" => k_dflt (refine item0 (by k_asm) (by k_mem) ?_)
  k_with "compareOp Eq ref ref" => k_dflt (refine eq_dataH (by ke_read) (by ke_read) hsh (by rfl) (by ke_room) ?_; ke_norm)
  walk_at "my claim"
  refine retG (own := [_, _]) (by assumption) ?_ ?_ (by assumption) (by assumption)
  · exact ktn_ltOf (And.right (And.right (by assumption)))
  · assumption
/-- an object that stands in a State's ledger beside it -/
structure In4 (a : Addr) (ob : Obj) (g : Obj → Obj → Obj → Obj → Led) : Prop where
  mk ::
  h : ∀ a' b c d, (a, ob) ∈ g a' b c d
theorem Cells.cons {w : World} {km : Tok} {ad : Ad} {g : Obj → Obj → Obj → Obj → Led} (C : Cells w km ad g) {x : Addr × Obj} {a₀ b₀ c₀ d₀ : Obj} (h : ∀ p ∈ g a₀ b₀ c₀ d₀, p.1 < x.1) : Cells w km ad (fun a b c d => x :: g a b c d) where
  st a b c d := .tail _ (C.st a b c d)
  sd a b c d := .tail _ (C.sd a b c d)
  rl a b c d := .tail _ (C.rl a b c d)
  fl a b c d := .tail _ (C.fl a b c d)
  fd a b c d := .tail _ (C.fd a b c d)
  mm a b c d := .tail _ (C.mm a b c d)
  md a b c d := .tail _ (C.md a b c d)
  hd a b c d := .tail _ (C.hd a b c d)
  usd a b c d := .tail (Nat.ne_of_gt (h _ (C.sd a₀ b₀ c₀ d₀))) (C.usd a b c d)
  url a b c d := .tail (Nat.ne_of_gt (h _ (C.rl a₀ b₀ c₀ d₀))) (C.url a b c d)
  ufd a b c d := .tail (Nat.ne_of_gt (h _ (C.fd a₀ b₀ c₀ d₀))) (C.ufd a b c d)
  uhd a b c d := .tail (Nat.ne_of_gt (h _ (C.hd a₀ b₀ c₀ d₀))) (C.uhd a b c d)
  lo := C.lo
local macro_rules | `(tactic| k_mem) => `(tactic| first | exact In4.h (by assumption) _ _ _ _)
set_option maxHeartbeats 4000000 in
theorem c_put (w : World) (km : Tok) (ad : Ad) (K : SK) (rip bg : Value) (vs : List Value) (regs : List Int) (n : Nat) (c d : Obj) (g : Obj → Obj → Obj → Obj → Led) (C : Cells w km ad g) (hI : IntsAre vs regs) (hl : regs.length = 16)
    (rg rd : Addr) (KR : RK) (nm : Str) (t0 t1 t2 t3 : Tok) (size H : Int) (hz : SizeH size H) (i1 : In4 rg (instObj 258 rd) g) (i2 : In4 rd (regD w KR nm t0 t1 t2 t3 size) g) (x : Int) (t : Tok) (hx : 0 ≤ x) (hx2 : x < 2 * H) :
    Claim w 447 [.ref ad.st, .ref rg, .int x t] 6 48 (g (stD w K ad rip bg) (listOf vs.toArray n) c d) (RetR (regs.set 0 (joinV (regs.getD 0 0) x size)) (fun _ => .none) g (stD w K ad rip bg) c d) := by
  k_with_none
  k_with "execs cons" => (refine toks_succ ?_; intro tkU)
  k_with "storeName" => with_reducible first | (refine store_toks ?_; intro tkU) | (refine store_add ?_; intro tkU)
  k_with "call type:range" => ((rename Fr _ _ _ _ => F'); (rename News _ _ _ _ => N'); (with_unfolding_all refine range1_rows F' N' ?_; intro _ _ _ _ _ _ _ _ _))
  k_with "my claim" => (
      intro pZ looseZ meanZ mgZ mbZ dpZ unZ gdZ cnZ csZ aZ ccdZ clZ outerZ A₀Z baseZ h₀Z LZ mZ sZ QZ EZ BZ FZ XZ NZ TZ hkZ hdZ huZ hretZ
      refine wpAny_call ?_
      k_dflt cell_enter
      k_steps)
  k_with "my use" => (
        (case k1 => k_asm); (case k2 => k_asm); (case k3 => k_asm); (case k4 => first | k_asm | exact drop1 (by assumption) | exact drop1 (drop1 (by assumption)) | exact drop1 (drop1 (drop1 (by assumption))) | exact drop1 (drop1 (drop1 (drop1 (by assumption))))); (case k5 => k_asm); (case k6 => first | exact rfl | assumption); (case k7 => ktr_room); (case k8 => ktr_units))
  k_with "my go" => (intro t9 h9 tk9 F9 N9; (try dsimp only); (try k_fold))
  k_with "call ref" => (k_here; (with_reducible show wpAny _ _ (call (Value.ref 87) _) _ _ _); k_dflt (refine' useC (c_wrap _ _ _ _ _ _ ?h0 ?h1) ?k1 ?k2 ?k3 ?k4 ?k5 ?k6 ?k7 ?k8 ?_; (case h0 => omega); (case h1 => omega); walk_at "my use"; walk_at "my go"))
  k_with "call ref" => (k_here; (with_reducible show wpAny _ _ (call (Value.ref 419) _) _ _ _); k_dflt (refine' useC (c_joined _ _ _ _ _ _ _ _ ?h0 ?h1) ?k1 ?k2 ?k3 ?k4 ?k5 ?k6 ?k7 ?k8 ?_; (case h0 => omega); (case h1 => omega); walk_at "my use"; walk_at "my go"))
  obtain ⟨z1, z2, z3, z4⟩ := sizeH_pow hz
  have hX : x % 2 ^ size.toNat = x := by rw [z1]; exact Int.emod_eq_of_lt hx hx2
  walk_at "my claim"
  exact retRN (by assumption) (by assumption) (by assumption) (by assumption) (by rw [hX]; rfl)

local macro_rules | `(tactic| k_mem) => `(tactic| focus ((repeat (first | exact List.Mem.head _ | refine' List.Mem.tail _ ?_)); done))
local macro_rules | `(tactic| k_upd) => `(tactic| focus ((repeat (first | (refine' Upd.head ?zUa; (case zUa => k_all)) | (refine' Upd.tail ?zUa ?_; (case zUa => k_ne)))); done))
/-- the deeds' names: sort (movs, cmps, stos, lods, scas), then the octets' letter -/
noncomputable def sortStr : Nat → Str
  | 0 => Str.ofString "movs"
  | 1 => Str.ofString "cmps"
  | 2 => Str.ofString "stos"
  | 3 => Str.ofString "lods"
  | _ => Str.ofString "scas"
noncomputable def wideStr : Nat → Str
  | 0 => Str.ofString "b"
  | 1 => Str.ofString "w"
  | 2 => Str.ofString "d"
  | _ => Str.ofString "q"
theorem retT {news own : Led} {so : Str} {v : Int} {v' : Int} {h₀ h' : Heap} {L : Addr} {m : Str → Option Value} {s : Shared} {Q : Value → Shared → Prop} {D : Addr} {t1 t2 : Tok} {tk' : Nat}
    (hret : ∀ (D : Addr) (t1 t2 : Tok) (h' : Heap) (tk' : Nat), (∀ p ∈ news, p.1 < D) → Fr h₀ L h' m → News h₀ L h' ((D, { cls := .type "tuple", data := .seq #[.str so t1, .int v t2] }) :: news) → Q (.ref D) { s with heap := h', toks := tk' })
    (hl : ∀ p ∈ news, p.1 < D) (F : Fr h₀ L h' m) (N : News h₀ L h' ((D, { cls := .type "tuple", data := .seq #[.str so t1, .int v' t2] }) :: (own ++ news))) (e : v' = v) : Q (.ref D) { s with heap := h', toks := tk' } := by
  subst e
  exact hret D t1 t2 h' tk' hl F (fun p hp => N p (by
    rcases List.mem_cons.mp hp with rfl | hp
    · exact .head _
    · exact .tail _ (List.mem_append_right _ hp)))
set_option maxHeartbeats 4000000 in
theorem c_stem (w : World) (nm so : Str) (place : Int) (t : Tok) (news : Led) (hin : ([Str.ofString "movs", Str.ofString "cmps", Str.ofString "stos", Str.ofString "lods", Str.ofString "scas"].any fun x => x == so) = true) (h5 : nm.length = 5) (h4 : Txt.slice nm none (some 4) = so)
    (hf : Txt.find (Str.ofString "bwdq") (Txt.item nm 4) = place) (h0 : 0 ≤ place) (h3 : place ≤ 3) : Claim w 206 [.str nm t] 4 100 news (fun h₀ L m s Q => ∀ (D : Addr) (t1 t2 : Tok) (h' : Heap) (tk' : Nat), (∀ p ∈ news, p.1 < D) → Fr h₀ L h' m →
      News h₀ L h' ((D, { cls := .type "tuple", data := .seq #[.str so t1, .int (8 * 2 ^ place.toNat) t2] }) :: news) → Q (.ref D) { s with heap := h', toks := tk' }) := by
  k_with_none
  k_with "execs cons" => (refine toks_succ ?_; intro tkU)
  k_with "storeName" => with_reducible first | (refine store_toks ?_; intro tkU) | (refine store_add ?_; intro tkU)
  k_with "call type:range" => ((rename Fr _ _ _ _ => F'); (rename News _ _ _ _ => N'); (with_unfolding_all refine range1_rows F' N' ?_; intro _ _ _ _ _ _ _ _ _))
  k_with "my claim" => (
      intro pZ looseZ meanZ mgZ mbZ dpZ unZ gdZ cnZ csZ aZ ccdZ clZ outerZ A₀Z baseZ h₀Z LZ mZ sZ QZ EZ BZ FZ XZ NZ TZ hkZ hdZ huZ hretZ
      refine wpAny_call ?_
      k_dflt cell_enter
      k_steps)
  have hl5 : (((nm.length : Nat) : Int) == 5) = true := by rw [h5]; rfl
  have hp0 : decide (0 ≤ Txt.find (Str.ofString "bwdq") (Txt.item nm 4)) = true := decide_eq_true (by omega)
  k_with "subscriptTail Name Slice str ref" => k_dflt (refine slice_strN_ns (j := 4) (by k_asm) (by k_asm) ?_; intro h' t' k F' N'; rw [h4]; dsimp only)
  k_with "ite" => first | (k_dflt (refine ite_pos hin ?_)) | (k_dflt (refine ite_pos hl5 ?_)) | (k_dflt (refine ite_pos hp0 ?_)) | (k_dflt (refine ite_pos rfl ?_))
  walk_at "my claim"
  refine retT (own := [_]) (by assumption) ?_ (by assumption) (by assumption) (by rw [hf])
  first | assumption | exact ktn_ltOf (And.right (by assumption))

theorem leVal_lt : ∀ (l : List Int), Octs l → 0 ≤ leVal l ∧ leVal l < 256 ^ l.length := by
  intro l
  induction l with
  | nil => intro _; exact ⟨by decide, by decide⟩
  | cons x r ih =>
    intro h
    obtain ⟨a, b⟩ := ih fun y hy => h y (.tail _ hy)
    obtain ⟨c, d⟩ := h x (.head _)
    simp only [leVal, List.length_cons, Int.pow_succ]
    omega
noncomputable abbrev SizeW (size H : Int) (W : Nat) : Prop := (size = 8 ∧ H = 128 ∧ W = 1) ∨ (size = 16 ∧ H = 32768 ∧ W = 2) ∨ (size = 32 ∧ H = 2147483648 ∧ W = 4) ∨ (size = 64 ∧ H = 9223372036854775808 ∧ W = 8)
theorem sizeW_h {size H : Int} {W : Nat} (h : SizeW size H W) : SizeH size H := by
  rcases h with ⟨a, b, _⟩ | ⟨a, b, _⟩ | ⟨a, b, _⟩ | ⟨a, b, _⟩
  · exact .inl ⟨a, b⟩
  · exact .inr (.inl ⟨a, b⟩)
  · exact .inr (.inr (.inl ⟨a, b⟩))
  · exact .inr (.inr (.inr ⟨a, b⟩))
theorem sizeW_n {size H : Int} {W : Nat} (h : SizeW size H W) : size.fdiv 8 = W ∧ (256 : Int) ^ W = 2 * H ∧ W ≤ 8 ∧ 1 ≤ W ∧ 0 < H := by
  rcases h with ⟨rfl, rfl, rfl⟩ | ⟨rfl, rfl, rfl⟩ | ⟨rfl, rfl, rfl⟩ | ⟨rfl, rfl, rfl⟩ <;> exact ⟨by decide, by decide, by decide, by decide, by decide⟩
/-- six flags -/
structure Six where
  c : Int
  p : Int
  a : Int
  z : Int
  s : Int
  o : Int
noncomputable def sixOf (H x y : Int) : Six := ⟨sixC x y, sixP x y, sixA x y, sixZ x y, sixS H x y, sixO H x y⟩
noncomputable def stepI (down : Int) (W : Nat) : Int := if down = 0 then (W : Int) else -(W : Int)
noncomputable def regGo (down : Int) (W : Nat) (j : Nat) (regs : List Int) : List Int := regs.set j ((regs.getD j 0 + stepI down W) % 18446744073709551616)
/-- the octets at a place as a number -/
noncomputable def leAt (row : List Int) (i W : Nat) : Int := leVal ((row.drop i).take W)
noncomputable def roundRegs (sort : Nat) (size : Int) (W : Nat) (down : Int) (regs row : List Int) (i : Nat) : List Int :=
  match sort with
  | 0 => regGo down W 6 (regGo down W 7 regs)
  | 1 => regGo down W 6 (regGo down W 7 regs)
  | 2 => regGo down W 7 regs
  | 3 => regGo down W 6 (regs.set 0 (joinV (regs.getD 0 0) (leAt row i W) size))
  | _ => regGo down W 7 regs
noncomputable def roundRow (sort : Nat) (W : Nat) (H : Int) (regs row : List Int) (i j : Nat) : List Int :=
  match sort with
  | 0 => putB row j (leAt row i W) W
  | 2 => putB row j (regs.getD 0 0 % (2 * H)) W
  | _ => row
noncomputable def roundSix (sort : Nat) (W : Nat) (H : Int) (regs row : List Int) (six : Six) (i j : Nat) : Six :=
  match sort with
  | 0 => six
  | 1 => sixOf H (leAt row i W) (leAt row j W)
  | 2 => six
  | 3 => six
  | _ => sixOf H (regs.getD 0 0 % (2 * H)) (leAt row j W)
/-- the objects of a State say this -/
structure Objs (w : World) (KF : FK) (base down : Int) (regs row : List Int) (six : Six) (b c d : Obj) : Prop where
  b : ∃ vs n, IntsAre vs regs ∧ b = listOf vs.toArray n
  c : ∃ t0 t1 t2 t3 t4 t5 td, c = flD w KF (.int six.c t0) (.int six.p t1) (.int six.a t2) (.int six.z t3) (.int six.s t4) (.int six.o t5) (.int down td)
  d : MemIs w d base row
noncomputable def RetS (w : World) (KF : FK) (base down : Int) (regs row : List Int) (six : Six) (v : Value) (g : Obj → Obj → Obj → Obj → Led) (a : Obj) (h₀ : Heap) (L : Addr) (m : Str → Option Value) (s : Shared) (Q : Value → Shared → Prop) : Prop :=
  ∀ (b c d : Obj) (h' : Heap) (tk' : Nat), Objs w KF base down regs row six b c d → Fr h₀ L h' m → News h₀ L h' (g a b c d) → Q v { s with heap := h', toks := tk' }
theorem retS {w : World} {KF : FK} {base down : Int} {regs row regs' row' : List Int} {six : Six} {v : Value} {g : Obj → Obj → Obj → Obj → Led} {a d : Obj} {h₀ h' : Heap} {L : Addr} {m : Str → Option Value} {s : Shared} {Q : Value → Shared → Prop} {tk' : Nat} {vs : List Value} {n : Nat} {y0 y1 y2 y3 y4 y5 : Int} {t0 t1 t2 t3 t4 t5 td : Tok} (own : Led)
    (hret : RetS w KF base down regs row six v g a h₀ L m s Q) (F : Fr h₀ L h' m) (N : News h₀ L h' (own ++ g a (listOf vs.toArray n) (flD w KF (.int y0 t0) (.int y1 t1) (.int y2 t2) (.int y3 t3) (.int y4 t4) (.int y5 t5) (.int down td)) d)) (hI : IntsAre vs regs') (hm : MemIs w d base row') (e : regs' = regs) (e2 : row' = row)
    (e3 : (⟨y0, y1, y2, y3, y4, y5⟩ : Six) = six) : Q v { s with heap := h', toks := tk' } := by
  subst e e2 e3
  exact hret _ _ _ _ _ ⟨⟨_, _, hI, rfl⟩, ⟨_, _, _, _, _, _, _, rfl⟩, hm⟩ F (fun p hp => N p (List.mem_append_right _ hp))
noncomputable abbrev RoundClaim (sort : Nat) : Prop := ∀ (w : World) (km : Tok) (ad : Ad) (K : SK) (KF : FK) (rip bg : Value) (base down size H : Int) (W : Nat) (regs row : List Int) (six : Six) (b c d : Obj) (g : Obj → Obj → Obj → Obj → Led) (i j : Nat) (t t' : Tok),
  Cells w km ad g → Objs w KF base down regs row six b c d → regs.length = 16 → row.length = 128 → Octs row → SizeW size H W → i + W ≤ 128 → j + W ≤ 128 →
  regs.getD 6 0 % 18446744073709551616 = (base + i) % 18446744073709551616 → regs.getD 7 0 % 18446744073709551616 = (base + j) % 18446744073709551616 →
  Claim w 304 [.ref ad.st, .str (sortStr sort) t, .int size t'] 12 300 (g (stD w K ad rip bg) b c d)
    (RetS w KF base down (roundRegs sort size W down regs row i) (roundRow sort W H regs row i j) (roundSix sort W H regs row six i j) .none g (stD w K ad rip bg))
theorem le_ok {row : List Int} {size H : Int} {i W : Nat} (hz : SizeW size H W) (hr : row.length = 128) (h8 : Octs row) (hi : i + W ≤ 128) : 0 ≤ leAt row i W ∧ leAt row i W < 2 * H := by
  have := leVal_lt ((row.drop i).take W) (fun x hx => h8 x (List.mem_of_mem_drop (List.mem_of_mem_take hx)))
  rw [List.length_take, List.length_drop, hr, Nat.min_eq_left (by omega), (sizeW_n hz).2.1] at this
  exact this
theorem uIn1 {w : World} {km : Tok} {ad : Ad} {g : Obj → Obj → Obj → Obj → Led} (C : Cells w km ad g) (a b d : Obj) : In1 ad.fl (instObj 181 ad.fd) (fun o => g a b o d) := ⟨fun o => C.fl a b o d⟩

theorem str_k {sort : Nat} (hs : sort < 5) : ((sortStr sort == Str.ofString "stos") = true → sort = 2) ∧ ((sortStr sort == Str.ofString "scas") = true → sort = 4) ∧ ((sortStr sort == Str.ofString "lods") = true → sort = 3) ∧ ((sortStr sort == Str.ofString "movs") = true → sort = 0) ∧
    ((sortStr sort == Str.ofString "stos") = false → (sortStr sort == Str.ofString "scas") = false → (sortStr sort == Str.ofString "lods") = false → (sortStr sort == Str.ofString "movs") = false → sort = 1) := by
  match sort, hs with
  | 0, _ => decide
  | 1, _ => decide
  | 2, _ => decide
  | 3, _ => decide
  | 4, _ => decide
set_option maxHeartbeats 8000000 in
theorem c_round {sort : Nat} (hs : sort < 5) : RoundClaim sort := by
  k_with_none
  k_with "execs cons" => (refine toks_succ ?_; intro tkU)
  k_with "storeName" => with_reducible first | (refine store_toks ?_; intro tkU) | (refine store_add ?_; intro tkU)
  k_with "call type:range" => ((rename Fr _ _ _ _ => F'); (rename News _ _ _ _ => N'); (with_unfolding_all refine range1_rows F' N' ?_; intro _ _ _ _ _ _ _ _ _))
  k_with "my claim" => (
      intro pZ looseZ meanZ mgZ mbZ dpZ unZ gdZ cnZ csZ aZ ccdZ clZ outerZ A₀Z baseZ h₀Z LZ mZ sZ QZ EZ BZ FZ XZ NZ TZ hkZ hdZ huZ hretZ
      refine wpAny_call ?_
      k_dflt cell_enter
      k_steps)
  k_with "my use" => (
        (case k1 => k_asm); (case k2 => k_asm); (case k3 => k_asm); (case k4 => first | k_asm | exact drop1 (by assumption) | exact drop1 (drop1 (by assumption)) | exact drop1 (drop1 (drop1 (by assumption))) | exact drop1 (drop1 (drop1 (drop1 (by assumption))))); (case k5 => k_asm); (case k6 => first | exact rfl | assumption); (case k7 => ktr_room); (case k8 => ktr_units))
  k_with "my go" => (intro t9 h9 tk9 F9 N9; (try dsimp only); (try k_fold))
  k_with "call ref" => (k_here; (with_reducible show wpAny _ _ (call (Value.ref 87) _) _ _ _); k_dflt (refine' useC (c_wrap _ _ _ _ _ _ ?h0 ?h1) ?k1 ?k2 ?k3 ?k4 ?k5 ?k6 ?k7 ?k8 ?_; (case h0 => omega); (case h1 => omega); walk_at "my use"; walk_at "my go"))
  k_with "my round" => first
        | k_dflt (
          with_reducible show wpAny _ _ (call (Value.ref 353) _) _ _ _
          refine' useC (c_read w ad.mm ad.md ad.hd km 1 _ base row i W _ _ _ _ _ (C.mm _ _ _ _) (C.md _ _ _ _) (C.hd _ _ _ _) C.lo hm (by omega) h8 (by omega) y3 h6 y1) ?k1 ?k2 ?k3 ?k4 ?k5 ?k6 ?k7 ?k8 ?_
          walk_at "my use"
          walk_at "my go")
        | k_dflt (
          with_reducible show wpAny _ _ (call (Value.ref 353) _) _ _ _
          refine' useC (c_read w ad.mm ad.md ad.hd km 1 _ base row j W _ _ _ _ _ (C.mm _ _ _ _) (C.md _ _ _ _) (C.hd _ _ _ _) C.lo hm (by omega) h8 (by omega) y3 h7 y1) ?k1 ?k2 ?k3 ?k4 ?k5 ?k6 ?k7 ?k8 ?_
          walk_at "my use"
          walk_at "my go")
        | k_dflt (
          with_reducible show wpAny _ _ (call (Value.ref 360) _) _ _ _
          refine' useC (c_write w ad.mm ad.md ad.hd km 1 _ base row j W _ _ _ _ _ _ _ (fun o => g _ _ _ o) (fun o => C.mm _ _ _ o) (fun o => C.md _ _ _ o) (C.uhd _ _ _ _) hm (by omega) (by omega) y3 h7 y1) ?k1 ?k2 ?k3 ?k4 ?k5 ?k6 ?k7 ?k8 ?_
          walk_at "my use"
          intro ho9 h9 tk9 hm9 F9 N9
          (try dsimp only)
          (try k_fold))
        | k_dflt (
          with_reducible show wpAny _ _ (call (Value.ref 297) _) _ _ _
          refine' useC (c_goon w km ad K KF rip bg _ _ _ _ _ _ down td _ _ _ _ g C (by assumption) (by first | assumption | (rw [List.length_set]; assumption)) _ _ _ _ (by omega) (by omega)) ?k1 ?k2 ?k3 ?k4 ?k5 ?k6 ?k7 ?k8 ?_
          walk_at "my use"
          intro t9 vs9 n9 h9 tk9 hI9 F9 N9
          (try dsimp only)
          (try k_fold))
        | k_dflt (
          with_reducible show wpAny _ _ (call (Value.ref 199) _) _ _ _
          refine' useC (c_sub w ad.fl ad.fd KF _ _ _ _ _ _ _ _ _ size H _ _ _ _ _ (fun o => g _ _ o _) (C.ufd _ _ _ _) (uIn1 C _ _ _) (sizeW_h hz) (by assumption) (by assumption) (by assumption) (by assumption)) ?k1 ?k2 ?k3 ?k4 ?k5 ?k6 ?k7 ?k8 ?_
          walk_at "my use"
          intro t9 t90 t91 t92 t93 t94 t95 h9 tk9 F9 N9
          (try dsimp only)
          (try k_fold))
  k_with "my round start" => (
      intro w km ad K KF rip bg base down size H W regs row six b c d g i j t t' C ho hl hl2 h8 hz hi hj h6 h7
      obtain ⟨⟨vs, n, hI, rfl⟩, ⟨t0, t1, t2, t3, t4, t5, td, rfl⟩, hm⟩ := ho
      obtain ⟨y1, y2, y3, y4, y5⟩ := sizeW_n hz
      obtain ⟨z1, z2, z3, z4⟩ := sizeH_pow (sizeW_h hz)
      have q1 : 0 ≤ leVal ((row.drop i).take W) := (le_ok hz hl2 h8 hi).1
      have q2 : leVal ((row.drop i).take W) < 2 * H := (le_ok hz hl2 h8 hi).2
      have q3 : 0 ≤ leVal ((row.drop j).take W) := (le_ok hz hl2 h8 hj).1
      have q4 : leVal ((row.drop j).take W) < 2 * H := (le_ok hz hl2 h8 hj).2
      have q5 : 0 ≤ regs.getD (Int.toNat 0) 0 % 2 ^ size.toNat := by rw [z1]; exact Int.emod_nonneg _ (by omega)
      have q6 : regs.getD (Int.toNat 0) 0 % 2 ^ size.toNat < 2 * H := by rw [z1]; exact Int.emod_lt_of_pos _ (by omega))
  k_with "my round end" => (
      first | refine retS [] (by assumption) (by assumption) (by assumption) (by assumption) (by assumption) ?er ?em ?ec | refine retS [_, _] (by assumption) (by assumption) (by assumption) (by assumption) (by assumption) ?er ?em ?ec
      case er => first | (simp only [roundRegs, regGo, stepI, leAt, y1]; done) | (simp only [roundRegs, regGo, stepI, leAt, y1]; rfl)
      case em => first | rfl | (simp only [roundRow, leAt]; rw [← z1]; done) | (simp only [roundRow, leAt]; rw [← z1]; rfl)
      case ec => first | rfl | (simp only [roundSix, leAt]; rw [← z1]; done) | (simp only [roundSix, leAt]; rw [← z1]; rfl))
  walk_at "my round start"
  k_with "call ref" => first
    | walk_at "my round"
    | k_dflt (
      with_reducible show wpAny _ _ (call (Value.ref 283) _) _ _ _
      refine' useC (c_gpr w size H _ _ _ (sizeW_h hz)) ?k1 ?k2 ?k3 ?k4 ?k5 ?k6 ?k7 ?k8 ?_
      walk_at "my use"
      intro x dx KR nm r0 r1 r2 r3 h9 tk9 l1 l2 F9 N9
      have C2 := Cells.cons (Cells.cons C (x := (dx, regD w KR nm r0 r1 r2 r3 size)) l1) (x := (x, instObj 258 dx)) (fun p hp => by rcases List.mem_cons.mp hp with rfl | hp; exact l2; exact Nat.lt_trans (l1 p hp) l2)
      (try dsimp only)
      (try k_fold))
    | k_dflt (
      with_reducible show wpAny _ _ (call (Value.ref 447) _) _ _ _
      refine' useC (c_put w km ad K rip bg _ _ _ _ _ _ C2 (by assumption) (by assumption) x dx KR nm r0 r1 r2 r3 size H (sizeW_h hz) ⟨fun _ _ _ _ => .head _⟩ ⟨fun _ _ _ _ => .tail _ (.head _)⟩ _ _ q1 q2) ?k1 ?k2 ?k3 ?k4 ?k5 ?k6 ?k7 ?k8 ?_
      walk_at "my use"
      intro t9 vs9 n9 h9 tk9 hI9 F9 N9
      (try dsimp only)
      (try k_fold))
  walk_at "my claim"
  all_goals first
    | (have e9 := (str_k hs).1 (by assumption); subst e9; walk_at "my round end")
    | (have e9 := (str_k hs).2.1 (by assumption); subst e9; walk_at "my round end")
    | (have e9 := (str_k hs).2.2.1 (by assumption); subst e9; walk_at "my round end")
    | (have e9 := (str_k hs).2.2.2.1 (by assumption); subst e9; walk_at "my round end")
    | (have e9 := (str_k hs).2.2.2.2 (by assumption) (by assumption) (by assumption) (by assumption); subst e9; walk_at "my round end")

noncomputable def prefStr : Nat → Str
  | 0 => Str.ofString ""
  | 1 => Str.ofString "rep"
  | _ => Str.ofString "repne"
/-- whether the round just done was the last -/
noncomputable def lastB (sort ahead : Nat) (count z : Int) : Bool :=
  if count = 0 then true else if sort = 1 ∨ sort = 4 then decide (z = if ahead = 1 then 0 else 1) else false
theorem retB {x y : Bool} {g : Obj → Obj → Obj → Obj → Led} {a b c d : Obj} {h₀ h' : Heap} {L : Addr} {m : Str → Option Value} {s : Shared} {Q : Value → Shared → Prop} {tk' : Nat}
    (hret : RetV (fun _ => .bool x) (g a b c d) h₀ L m s Q) (F : Fr h₀ L h' m) (N : News h₀ L h' (g a b c d)) (e : y = x) : Q (.bool y) { s with heap := h', toks := tk' } := by
  subst e; exact hret 0 h' tk' F N
theorem sort_str {sort : Nat} (hs : sort < 5) : (sortStr sort != Str.ofString "cmps") = decide (sort ≠ 1) ∧ (sortStr sort != Str.ofString "scas") = decide (sort ≠ 4) := by
  match sort, hs with
  | 0, _ => decide
  | 1, _ => decide
  | 2, _ => decide
  | 3, _ => decide
  | 4, _ => decide
theorem last_no {sort ahead : Nat} {c z : Int} (hs : sort < 5) (h0 : ¬ c = 0) (h1 : (sortStr sort != Str.ofString "cmps") = true) (h2 : (sortStr sort != Str.ofString "scas") = true) : false = lastB sort ahead c z := by
  rw [(sort_str hs).1, decide_eq_true_eq] at h1
  rw [(sort_str hs).2, decide_eq_true_eq] at h2
  unfold lastB
  rw [if_neg h0, if_neg fun h => h.elim h1 h2]
theorem last_rep {sort ahead : Nat} {c z : Int} (hs : sort < 5) (ha : ahead = 1 ∨ ahead = 2) (h0 : ¬ c = 0) (h1 : (sortStr sort != Str.ofString "cmps") = false ∨ (sortStr sort != Str.ofString "scas") = false) (h2 : (prefStr ahead == Str.ofString "rep") = true) : (z == 0) = lastB sort ahead c z := by
  rw [(sort_str hs).1, (sort_str hs).2, decide_eq_false_iff_not, decide_eq_false_iff_not, Decidable.not_not, Decidable.not_not] at h1
  unfold lastB
  rw [if_neg h0, if_pos h1]
  rcases ha with rfl | rfl
  · rfl
  · exact absurd h2 (by decide)
theorem last_repne {sort ahead : Nat} {c z : Int} (hs : sort < 5) (ha : ahead = 1 ∨ ahead = 2) (h0 : ¬ c = 0) (h1 : (sortStr sort != Str.ofString "cmps") = false ∨ (sortStr sort != Str.ofString "scas") = false) (h2 : (prefStr ahead == Str.ofString "rep") = false) : (z == 1) = lastB sort ahead c z := by
  rw [(sort_str hs).1, (sort_str hs).2, decide_eq_false_iff_not, decide_eq_false_iff_not, Decidable.not_not, Decidable.not_not] at h1
  unfold lastB
  rw [if_neg h0, if_pos h1]
  rcases ha with rfl | rfl
  · exact absurd h2 (by decide)
  · rfl
set_option maxHeartbeats 4000000 in
theorem c_last (w : World) (km : Tok) (ad : Ad) (K : SK) (KF : FK) (rip bg : Value) (base down : Int) (regs row : List Int) (six : Six) (b c d : Obj) (g : Obj → Obj → Obj → Obj → Led) (sort ahead : Nat) (t t' : Tok) (C : Cells w km ad g) (ho : Objs w KF base down regs row six b c d) (hl : regs.length = 16) (hs : sort < 5) (ha : ahead = 1 ∨ ahead = 2) :
    Claim w 311 [.ref ad.st, .str (sortStr sort) t, .str (prefStr ahead) t'] 4 60 (g (stD w K ad rip bg) b c d) (RetV (fun _ => .bool (lastB sort ahead (regs.getD 1 0) six.z)) (g (stD w K ad rip bg) b c d)) := by
  k_with_none
  k_with "execs cons" => (refine toks_succ ?_; intro tkU)
  k_with "storeName" => with_reducible first | (refine store_toks ?_; intro tkU) | (refine store_add ?_; intro tkU)
  k_with "call type:range" => ((rename Fr _ _ _ _ => F'); (rename News _ _ _ _ => N'); (with_unfolding_all refine range1_rows F' N' ?_; intro _ _ _ _ _ _ _ _ _))
  k_with "my claim" => (
      intro pZ looseZ meanZ mgZ mbZ dpZ unZ gdZ cnZ csZ aZ ccdZ clZ outerZ A₀Z baseZ h₀Z LZ mZ sZ QZ EZ BZ FZ XZ NZ TZ hkZ hdZ huZ hretZ
      refine wpAny_call ?_
      k_dflt cell_enter
      k_steps)
  obtain ⟨⟨vs, n, hI, rfl⟩, ⟨t0, t1, t2, t3, t4, t5, td, rfl⟩, hm⟩ := ho
  walk_at "my claim"
  all_goals refine retB (by assumption) (by assumption) (by assumption) ?_
  all_goals first
    | exact (if_pos (by assumption)).symm
    | exact last_no hs (by assumption) (by assumption) (by assumption)
    | exact last_rep hs ha (by assumption) (.inl (by assumption)) (by assumption)
    | exact last_rep hs ha (by assumption) (.inr (by assumption)) (by assumption)
    | exact last_repne hs ha (by assumption) (.inl (by assumption)) (by assumption)
    | exact last_repne hs ha (by assumption) (.inr (by assumption)) (by assumption)

structure IK where
  k0 : Tok
  k1 : Tok
  k2 : Tok
noncomputable abbrev insD (w : World) (K : IK) (nm : Str) (tn : Tok) (ops : Addr) (pr : Str) (tp : Tok) : Obj :=
  dictOf [ent w "name" K.k0 (.str nm tn), ent w "operands" K.k1 (.ref ops), ent w "prefix" K.k2 (.str pr tp)] 3
noncomputable abbrev tup0 : Obj := { cls := .type "tuple", data := .seq #[] }
noncomputable def deedRegs (sort ahead : Nat) (size : Int) (W : Nat) (down : Int) (regs row : List Int) (i : Nat) : List Int :=
  if ahead = 0 then roundRegs sort size W down regs row i
  else if regs.getD 1 0 = 0 then regs
  else (roundRegs sort size W down regs row i).set 1 (((roundRegs sort size W down regs row i).getD 1 0 - 1) % 18446744073709551616)
noncomputable def deedRow (sort ahead : Nat) (W : Nat) (H : Int) (regs row : List Int) (i j : Nat) : List Int :=
  if ahead = 0 then roundRow sort W H regs row i j
  else if regs.getD 1 0 = 0 then row else roundRow sort W H regs row i j
noncomputable def deedSix (sort ahead : Nat) (W : Nat) (H : Int) (regs row : List Int) (six : Six) (i j : Nat) : Six :=
  if ahead = 0 then roundSix sort W H regs row six i j
  else if regs.getD 1 0 = 0 then six else roundSix sort W H regs row six i j
noncomputable def deedOn (sort ahead : Nat) (size H : Int) (W : Nat) (down : Int) (regs row : List Int) (six : Six) (i j : Nat) : Bool :=
  if ahead = 0 then false
  else if regs.getD 1 0 = 0 then false
  else !lastB sort ahead ((deedRegs sort ahead size W down regs row i).getD 1 0) (roundSix sort W H regs row six i j).z
theorem regGo_length (down : Int) (W j : Nat) (regs : List Int) : (regGo down W j regs).length = regs.length := by simp [regGo]
theorem roundRegs_length (sort : Nat) (size : Int) (W : Nat) (down : Int) (regs row : List Int) (i : Nat) : (roundRegs sort size W down regs row i).length = regs.length := by
  unfold roundRegs; split <;> simp [regGo_length]
theorem retD {w : World} {KF : FK} {base down : Int} {regs row regs' row' : List Int} {six six' : Six} {v : Value} {g : Obj → Obj → Obj → Obj → Led} {a a' b c d : Obj} {h₀ h' : Heap} {L : Addr} {m : Str → Option Value} {s : Shared} {Q : Value → Shared → Prop} {tk' : Nat}
    (hret : RetS w KF base down regs row six v g a h₀ L m s Q) (ho : Objs w KF base down regs' row' six' b c d) (F : Fr h₀ L h' m) (N : News h₀ L h' (g a' b c d)) (e : regs' = regs) (e2 : row' = row) (e3 : six' = six) (e4 : a' = a) : Q v { s with heap := h', toks := tk' } := by
  subst e e2 e3 e4
  exact hret _ _ _ _ _ ho F N
noncomputable abbrev DeedClaim (ahead : Nat) : Prop := ∀ (w : World) (km : Tok) (ad : Ad) (K : SK) (KF : FK) (rp bgn : Int) (tr tb : Tok) (base down size H : Int) (W : Nat) (regs row : List Int) (six : Six) (b c d : Obj) (g : Obj → Obj → Obj → Obj → Led) (i j sort : Nat)
  (ins di ops : Addr) (KI : IK) (nm : Str) (place : Int) (tn tp : Tok),
  Cells w km ad g → Objs w KF base down regs row six b c d → regs.length = 16 → row.length = 128 → Octs row → SizeW size H W → i + W ≤ 128 → j + W ≤ 128 →
  regs.getD 6 0 % 18446744073709551616 = (base + i) % 18446744073709551616 → regs.getD 7 0 % 18446744073709551616 = (base + j) % 18446744073709551616 →
  sort < 5 → In4 ins (instObj 580 di) g → In4 di (insD w KI nm tn ops (prefStr ahead) tp) g → In4 ops tup0 g → nm.length = 5 → Txt.slice nm none (some 4) = sortStr sort → Txt.find (Str.ofString "bwdq") (Txt.item nm 4) = place → 0 ≤ place → place ≤ 3 → size = 8 * 2 ^ place.toNat →
  Claim w 318 [.ref ad.st, .ref ins] 16 500 (g (stD w K ad (.int rp tr) (.int bgn tb)) b c d)
    (RetS w KF base down (deedRegs sort ahead size W down regs row i) (deedRow sort ahead W H regs row i j) (deedSix sort ahead W H regs row six i j) (.bool true) g
      (stD w K ad (if deedOn sort ahead size H W down regs row six i j then .int bgn tb else .int rp tr) (.int bgn tb)))
theorem sortStr_in {sort : Nat} (h : sort < 5) : ([Str.ofString "movs", Str.ofString "cmps", Str.ofString "stos", Str.ofString "lods", Str.ofString "scas"].any fun x => x == sortStr sort) = true := by
  match sort, h with
  | 0, _ => rfl
  | 1, _ => rfl
  | 2, _ => rfl
  | 3, _ => rfl
  | 4, _ => rfl
theorem sortStr_no {sort : Nat} : (sortStr sort == Str.ofString "") = false := by
  match sort with
  | 0 => rfl
  | 1 => rfl
  | 2 => rfl
  | 3 => rfl
  | n + 4 => rfl
theorem ite_no {c : Prop} [Decidable c] {p q : Prop} (h : ¬ c) (hq : q) : if c then p else q := by rw [if_neg h]; exact hq

set_option maxHeartbeats 4000000 in
theorem c_deed0 : DeedClaim 0 := by
  k_with_none
  k_with "execs cons" => (refine toks_succ ?_; intro tkU)
  k_with "storeName" => with_reducible first | (refine store_toks ?_; intro tkU) | (refine store_add ?_; intro tkU)
  k_with "call type:range" => ((rename Fr _ _ _ _ => F'); (rename News _ _ _ _ => N'); (with_unfolding_all refine range1_rows F' N' ?_; intro _ _ _ _ _ _ _ _ _))
  k_with "my claim" => (
      intro pZ looseZ meanZ mgZ mbZ dpZ unZ gdZ cnZ csZ aZ ccdZ clZ outerZ A₀Z baseZ h₀Z LZ mZ sZ QZ EZ BZ FZ XZ NZ TZ hkZ hdZ huZ hretZ
      refine wpAny_call ?_
      k_dflt cell_enter
      k_steps)
  k_with "my use" => (
        (case k1 => k_asm); (case k2 => k_asm); (case k3 => k_asm); (case k4 => first | k_asm | exact drop1 (by assumption) | exact drop1 (drop1 (by assumption)) | exact drop1 (drop1 (drop1 (by assumption))) | exact drop1 (drop1 (drop1 (drop1 (by assumption))))); (case k5 => k_asm); (case k6 => first | exact rfl | assumption); (case k7 => ktr_room); (case k8 => ktr_units))
  k_with "my go" => (intro t9 h9 tk9 F9 N9; (try dsimp only); (try k_fold))
  k_with "my deed start" => (
      intro w km ad K KF rp bgn tr tb base down size H W regs row six b c d g i j sort ins di ops KI nm place tn tp C ho hl hl2 h8 hz hi hj h6 h7 hs i1 i2 i3 n5 n4 nf p0 p3 hsz
      simp only [prefStr] at i2
      have ho2 := ho
      obtain ⟨⟨vs, n, hI, rfl⟩, hoc2, hod2⟩ := ho2
      k_with "ite" => k_dflt (refine ite_no (show ¬ (sortStr sort == Str.ofString "") = true by rw [sortStr_no]; decide) ?_)
      k_with "call ref" => first
        | k_dflt (
          with_reducible show wpAny _ _ (call (Value.ref 206) _) _ _ _
          refine' useC (c_stem w nm (sortStr sort) place _ _ (sortStr_in hs) n5 n4 nf p0 p3) ?k1 ?k2 ?k3 ?k4 ?k5 ?k6 ?k7 ?k8 ?_
          walk_at "my use"
          rw [← hsz]
          intro D r1 r2 h9 tk9 l1 F9 N9
          (try dsimp only)
          (try k_fold))
        | k_dflt (
          with_reducible show wpAny _ _ (call (Value.ref 304) _) _ _ _
          refine' useC (c_round hs w km ad K KF _ _ base down size H W regs row six _ _ _ g i j _ _ C ho hl hl2 h8 hz hi hj h6 h7) ?k1 ?k2 ?k3 ?k4 ?k5 ?k6 ?k7 ?k8 ?_
          walk_at "my use"
          intro b9 c9 d9 h9 tk9 ho9 F9 N9
          (try dsimp only)
          (try k_fold))
        | k_dflt (
          with_reducible show wpAny _ _ (call (Value.ref 290) _) _ _ _
          obtain ⟨⟨vs9, n9, hI9, rfl⟩, hoc, hod⟩ := ho9
          refine' useC (c_count w km ad K _ _ vs9 _ n9 _ _ g C hI9 (by rw [roundRegs_length]; exact hl)) ?k1 ?k2 ?k3 ?k4 ?k5 ?k6 ?k7 ?k8 ?_
          walk_at "my use"
          intro t10 vs10 n10 h10 tk10 hI10 F10 N10
          (try dsimp only)
          (try k_fold))
        | k_dflt (
          with_reducible show wpAny _ _ (call (Value.ref 311) _) _ _ _
          refine' useC (c_last w km ad K KF _ _ base down _ _ _ _ _ _ g sort 1 _ _ C ⟨⟨_, _, hI10, rfl⟩, hoc, hod⟩ (by rw [List.length_set, roundRegs_length]; exact hl) hs (by decide)) ?k1 ?k2 ?k3 ?k4 ?k5 ?k6 ?k7 ?k8 ?_
          walk_at "my use"
          walk_at "my go")
        | k_dflt (
          with_reducible show wpAny _ _ (call (Value.ref 311) _) _ _ _
          refine' useC (c_last w km ad K KF _ _ base down _ _ _ _ _ _ g sort 2 _ _ C ⟨⟨_, _, hI10, rfl⟩, hoc, hod⟩ (by rw [List.length_set, roundRegs_length]; exact hl) hs (by decide)) ?k1 ?k2 ?k3 ?k4 ?k5 ?k6 ?k7 ?k8 ?_
          walk_at "my use"
          walk_at "my go"))
  walk_at "my deed start"
  walk_at "my claim"
  all_goals refine retD (by assumption) ho9 (by assumption) (by assumption) ?_ ?_ ?_ ?_
  all_goals rfl
theorem deed_stop {sort ahead : Nat} {size H down : Int} {W : Nat} {regs row : List Int} {six : Six} {i j : Nat} (ha : ahead ≠ 0) (h : regs.getD 1 0 = 0) :
    deedRegs sort ahead size W down regs row i = regs ∧ deedRow sort ahead W H regs row i j = row ∧ deedSix sort ahead W H regs row six i j = six ∧ deedOn sort ahead size H W down regs row six i j = false := by
  unfold deedRegs deedRow deedSix deedOn
  simp only [if_neg ha, if_pos h, and_self]
theorem deed_go {sort ahead : Nat} {size H down : Int} {W : Nat} {regs row : List Int} {six : Six} {i j : Nat} (ha : ahead ≠ 0) (h : ¬ regs.getD 1 0 = 0) :
    deedRegs sort ahead size W down regs row i = (roundRegs sort size W down regs row i).set 1 (((roundRegs sort size W down regs row i).getD 1 0 - 1) % 18446744073709551616) ∧ deedRow sort ahead W H regs row i j = roundRow sort W H regs row i j ∧ deedSix sort ahead W H regs row six i j = roundSix sort W H regs row six i j ∧
    deedOn sort ahead size H W down regs row six i j = !lastB sort ahead (((roundRegs sort size W down regs row i).set 1 (((roundRegs sort size W down regs row i).getD 1 0 - 1) % 18446744073709551616)).getD 1 0) (roundSix sort W H regs row six i j).z := by
  unfold deedRegs deedRow deedSix deedOn
  simp only [if_neg ha, if_neg h, deedRegs, and_self]
theorem pickT {x : Bool} {a b : Int} {t t' : Tok} (h : x = true) : (if x then Value.int a t else .int b t') = .int a t := by rw [if_pos h]
theorem pickF {x : Bool} {a b : Int} {t t' : Tok} (h : x = false) : (if x then Value.int a t else .int b t') = .int b t' := by rw [h]; rfl

set_option maxHeartbeats 4000000 in
theorem c_deed1 : DeedClaim 1 := by
  k_with_none
  k_with "execs cons" => (refine toks_succ ?_; intro tkU)
  k_with "storeName" => with_reducible first | (refine store_toks ?_; intro tkU) | (refine store_add ?_; intro tkU)
  k_with "call type:range" => ((rename Fr _ _ _ _ => F'); (rename News _ _ _ _ => N'); (with_unfolding_all refine range1_rows F' N' ?_; intro _ _ _ _ _ _ _ _ _))
  k_with "my claim" => (
      intro pZ looseZ meanZ mgZ mbZ dpZ unZ gdZ cnZ csZ aZ ccdZ clZ outerZ A₀Z baseZ h₀Z LZ mZ sZ QZ EZ BZ FZ XZ NZ TZ hkZ hdZ huZ hretZ
      refine wpAny_call ?_
      k_dflt cell_enter
      k_steps)
  k_with "my use" => (
        (case k1 => k_asm); (case k2 => k_asm); (case k3 => k_asm); (case k4 => first | k_asm | exact drop1 (by assumption) | exact drop1 (drop1 (by assumption)) | exact drop1 (drop1 (drop1 (by assumption))) | exact drop1 (drop1 (drop1 (drop1 (by assumption))))); (case k5 => k_asm); (case k6 => first | exact rfl | assumption); (case k7 => ktr_room); (case k8 => ktr_units))
  k_with "my go" => (intro t9 h9 tk9 F9 N9; (try dsimp only); (try k_fold))
  k_with "my deed start" => (
      intro w km ad K KF rp bgn tr tb base down size H W regs row six b c d g i j sort ins di ops KI nm place tn tp C ho hl hl2 h8 hz hi hj h6 h7 hs i1 i2 i3 n5 n4 nf p0 p3 hsz
      simp only [prefStr] at i2
      have ho2 := ho
      obtain ⟨⟨vs, n, hI, rfl⟩, hoc2, hod2⟩ := ho2
      k_with "ite" => k_dflt (refine ite_no (show ¬ (sortStr sort == Str.ofString "") = true by rw [sortStr_no]; decide) ?_)
      k_with "call ref" => first
        | k_dflt (
          with_reducible show wpAny _ _ (call (Value.ref 206) _) _ _ _
          refine' useC (c_stem w nm (sortStr sort) place _ _ (sortStr_in hs) n5 n4 nf p0 p3) ?k1 ?k2 ?k3 ?k4 ?k5 ?k6 ?k7 ?k8 ?_
          walk_at "my use"
          rw [← hsz]
          intro D r1 r2 h9 tk9 l1 F9 N9
          (try dsimp only)
          (try k_fold))
        | k_dflt (
          with_reducible show wpAny _ _ (call (Value.ref 304) _) _ _ _
          refine' useC (c_round hs w km ad K KF _ _ base down size H W regs row six _ _ _ g i j _ _ C ho hl hl2 h8 hz hi hj h6 h7) ?k1 ?k2 ?k3 ?k4 ?k5 ?k6 ?k7 ?k8 ?_
          walk_at "my use"
          intro b9 c9 d9 h9 tk9 ho9 F9 N9
          (try dsimp only)
          (try k_fold))
        | k_dflt (
          with_reducible show wpAny _ _ (call (Value.ref 290) _) _ _ _
          obtain ⟨⟨vs9, n9, hI9, rfl⟩, hoc, hod⟩ := ho9
          refine' useC (c_count w km ad K _ _ vs9 _ n9 _ _ g C hI9 (by rw [roundRegs_length]; exact hl)) ?k1 ?k2 ?k3 ?k4 ?k5 ?k6 ?k7 ?k8 ?_
          walk_at "my use"
          intro t10 vs10 n10 h10 tk10 hI10 F10 N10
          (try dsimp only)
          (try k_fold))
        | k_dflt (
          with_reducible show wpAny _ _ (call (Value.ref 311) _) _ _ _
          refine' useC (c_last w km ad K KF _ _ base down _ _ _ _ _ _ g sort 1 _ _ C ⟨⟨_, _, hI10, rfl⟩, hoc, hod⟩ (by rw [List.length_set, roundRegs_length]; exact hl) hs (by decide)) ?k1 ?k2 ?k3 ?k4 ?k5 ?k6 ?k7 ?k8 ?_
          walk_at "my use"
          walk_at "my go")
        | k_dflt (
          with_reducible show wpAny _ _ (call (Value.ref 311) _) _ _ _
          refine' useC (c_last w km ad K KF _ _ base down _ _ _ _ _ _ g sort 2 _ _ C ⟨⟨_, _, hI10, rfl⟩, hoc, hod⟩ (by rw [List.length_set, roundRegs_length]; exact hl) hs (by decide)) ?k1 ?k2 ?k3 ?k4 ?k5 ?k6 ?k7 ?k8 ?_
          walk_at "my use"
          walk_at "my go"))
  k_with "my deed end" => first
      | (have e0 : regs.getD 1 0 = 0 := by assumption
         obtain ⟨e1, e2, e3, e4⟩ := deed_stop (sort := sort) (size := size) (H := H) (down := down) (W := W) (row := row) (six := six) (i := i) (j := j) AH e0
         refine retD (by assumption) ho (by assumption) (drop1 (by assumption)) e1.symm e2.symm e3.symm ?_
         rw [e4]; rfl)
      | (have e0 : ¬ regs.getD 1 0 = 0 := by assumption
         obtain ⟨e1, e2, e3, e4⟩ := deed_go (sort := sort) (size := size) (H := H) (down := down) (W := W) (row := row) (six := six) (i := i) (j := j) AH e0
         refine retD (by assumption) ⟨⟨_, _, hI10, rfl⟩, hoc, hod⟩ (by assumption) (by assumption) e1.symm e2.symm e3.symm ?_
         rw [e4]
         first
           | (rw [show lastB _ _ _ _ = true by assumption]; rfl)
           | (rw [show lastB _ _ _ _ = false by assumption]; rfl))
  walk_at "my deed start"
  have AH : (1 : Nat) ≠ 0 := by decide
  walk_at "my claim"
  all_goals walk_at "my deed end"
set_option maxHeartbeats 4000000 in
theorem c_deed2 : DeedClaim 2 := by
  k_with_none
  k_with "execs cons" => (refine toks_succ ?_; intro tkU)
  k_with "storeName" => with_reducible first | (refine store_toks ?_; intro tkU) | (refine store_add ?_; intro tkU)
  k_with "call type:range" => ((rename Fr _ _ _ _ => F'); (rename News _ _ _ _ => N'); (with_unfolding_all refine range1_rows F' N' ?_; intro _ _ _ _ _ _ _ _ _))
  k_with "my claim" => (
      intro pZ looseZ meanZ mgZ mbZ dpZ unZ gdZ cnZ csZ aZ ccdZ clZ outerZ A₀Z baseZ h₀Z LZ mZ sZ QZ EZ BZ FZ XZ NZ TZ hkZ hdZ huZ hretZ
      refine wpAny_call ?_
      k_dflt cell_enter
      k_steps)
  k_with "my use" => (
        (case k1 => k_asm); (case k2 => k_asm); (case k3 => k_asm); (case k4 => first | k_asm | exact drop1 (by assumption) | exact drop1 (drop1 (by assumption)) | exact drop1 (drop1 (drop1 (by assumption))) | exact drop1 (drop1 (drop1 (drop1 (by assumption))))); (case k5 => k_asm); (case k6 => first | exact rfl | assumption); (case k7 => ktr_room); (case k8 => ktr_units))
  k_with "my go" => (intro t9 h9 tk9 F9 N9; (try dsimp only); (try k_fold))
  k_with "my deed start" => (
      intro w km ad K KF rp bgn tr tb base down size H W regs row six b c d g i j sort ins di ops KI nm place tn tp C ho hl hl2 h8 hz hi hj h6 h7 hs i1 i2 i3 n5 n4 nf p0 p3 hsz
      simp only [prefStr] at i2
      have ho2 := ho
      obtain ⟨⟨vs, n, hI, rfl⟩, hoc2, hod2⟩ := ho2
      k_with "ite" => k_dflt (refine ite_no (show ¬ (sortStr sort == Str.ofString "") = true by rw [sortStr_no]; decide) ?_)
      k_with "call ref" => first
        | k_dflt (
          with_reducible show wpAny _ _ (call (Value.ref 206) _) _ _ _
          refine' useC (c_stem w nm (sortStr sort) place _ _ (sortStr_in hs) n5 n4 nf p0 p3) ?k1 ?k2 ?k3 ?k4 ?k5 ?k6 ?k7 ?k8 ?_
          walk_at "my use"
          rw [← hsz]
          intro D r1 r2 h9 tk9 l1 F9 N9
          (try dsimp only)
          (try k_fold))
        | k_dflt (
          with_reducible show wpAny _ _ (call (Value.ref 304) _) _ _ _
          refine' useC (c_round hs w km ad K KF _ _ base down size H W regs row six _ _ _ g i j _ _ C ho hl hl2 h8 hz hi hj h6 h7) ?k1 ?k2 ?k3 ?k4 ?k5 ?k6 ?k7 ?k8 ?_
          walk_at "my use"
          intro b9 c9 d9 h9 tk9 ho9 F9 N9
          (try dsimp only)
          (try k_fold))
        | k_dflt (
          with_reducible show wpAny _ _ (call (Value.ref 290) _) _ _ _
          obtain ⟨⟨vs9, n9, hI9, rfl⟩, hoc, hod⟩ := ho9
          refine' useC (c_count w km ad K _ _ vs9 _ n9 _ _ g C hI9 (by rw [roundRegs_length]; exact hl)) ?k1 ?k2 ?k3 ?k4 ?k5 ?k6 ?k7 ?k8 ?_
          walk_at "my use"
          intro t10 vs10 n10 h10 tk10 hI10 F10 N10
          (try dsimp only)
          (try k_fold))
        | k_dflt (
          with_reducible show wpAny _ _ (call (Value.ref 311) _) _ _ _
          refine' useC (c_last w km ad K KF _ _ base down _ _ _ _ _ _ g sort 1 _ _ C ⟨⟨_, _, hI10, rfl⟩, hoc, hod⟩ (by rw [List.length_set, roundRegs_length]; exact hl) hs (by decide)) ?k1 ?k2 ?k3 ?k4 ?k5 ?k6 ?k7 ?k8 ?_
          walk_at "my use"
          walk_at "my go")
        | k_dflt (
          with_reducible show wpAny _ _ (call (Value.ref 311) _) _ _ _
          refine' useC (c_last w km ad K KF _ _ base down _ _ _ _ _ _ g sort 2 _ _ C ⟨⟨_, _, hI10, rfl⟩, hoc, hod⟩ (by rw [List.length_set, roundRegs_length]; exact hl) hs (by decide)) ?k1 ?k2 ?k3 ?k4 ?k5 ?k6 ?k7 ?k8 ?_
          walk_at "my use"
          walk_at "my go"))
  k_with "my deed end" => first
      | (have e0 : regs.getD 1 0 = 0 := by assumption
         obtain ⟨e1, e2, e3, e4⟩ := deed_stop (sort := sort) (size := size) (H := H) (down := down) (W := W) (row := row) (six := six) (i := i) (j := j) AH e0
         refine retD (by assumption) ho (by assumption) (drop1 (by assumption)) e1.symm e2.symm e3.symm ?_
         rw [e4]; rfl)
      | (have e0 : ¬ regs.getD 1 0 = 0 := by assumption
         obtain ⟨e1, e2, e3, e4⟩ := deed_go (sort := sort) (size := size) (H := H) (down := down) (W := W) (row := row) (six := six) (i := i) (j := j) AH e0
         refine retD (by assumption) ⟨⟨_, _, hI10, rfl⟩, hoc, hod⟩ (by assumption) (by assumption) e1.symm e2.symm e3.symm ?_
         rw [e4]
         first
           | (rw [show lastB _ _ _ _ = true by assumption]; rfl)
           | (rw [show lastB _ _ _ _ = false by assumption]; rfl))
  walk_at "my deed start"
  have AH : (2 : Nat) ≠ 0 := by decide
  walk_at "my claim"
  all_goals walk_at "my deed end"

/-- what a call of the def at f does with the script's list -/
noncomputable abbrev ClaimB (w : World) (f D : Addr) (as : List Value) (dd uu : Nat) (xs : List Int) (news : Led) (ret : Heap → Addr → (Str → Option Value) → Shared → (Value → Shared → Prop) → Prop) : Prop :=
  ∀ (p : Program) (loose : List Str) (mean : ExcName → Option Value) (mg mb : Str → Option Value) (dp un : Nat) (gd : Option (List Code)) (cn : Str) (cs : Scope) (a : Addr) (ccd : Value) (cl : List (Str × Addr)) (outer : List Env) (A₀ : Around) (base h₀ : Heap) (L : Addr) (m : Str → Option Value) (s : Shared) (Q E : Value → Shared → Prop) (vs : List Value),
    Below A₀ base outer h₀ → Fr h₀ L s.heap m → (Mine.seed.heap_1 w.params).In h₀ → News h₀ L s.heap news → Top p loose mean mg mb h₀ → cs.kind = .function → base.IsList D vs.toArray → IntsAre vs xs → dp + dd < recursionLimit → un + uu < cLine →
    ret h₀ L m s Q → wpAny (model Challenge.rw_nn0059_01.row.prog w) (ktrTop dp un gd cn cs L a ccd cl outer) (call (.ref f) (.ref D :: as)) Q E s
theorem useB {w : World} {f D : Addr} {as : List Value} {dd uu : Nat} {xs : List Int} {news : Led} {ret : Heap → Addr → (Str → Option Value) → Shared → (Value → Shared → Prop) → Prop}
    {p : Program} {loose : List Str} {mean : ExcName → Option Value} {mg mb : Str → Option Value} {dp un : Nat} {gd : Option (List Code)} {cn : Str} {cs : Scope} {a : Addr} {ccd : Value} {cl : List (Str × Addr)} {outer : List Env} {A₀ : Around} {base h₀ : Heap} {L : Addr} {m : Str → Option Value} {s : Shared} {Q E : Value → Shared → Prop} {vs : List Value}
    (C : ClaimB w f D as dd uu xs news ret) (B : Below A₀ base outer h₀) (F : Fr h₀ L s.heap m) (X : (Mine.seed.heap_1 w.params).In h₀) (N : News h₀ L s.heap news) (T : Top p loose mean mg mb h₀) (hk : cs.kind = .function) (hl : base.IsList D vs.toArray) (hi : IntsAre vs xs) (hd : dp + dd < recursionLimit) (hu : un + uu < cLine)
    (hr : ret h₀ L m s Q) : wpAny (model Challenge.rw_nn0059_01.row.prog w) (ktrTop dp un gd cn cs L a ccd cl outer) (call (.ref f) (.ref D :: as)) Q E s :=
  C p loose mean mg mb dp un gd cn cs a ccd cl outer A₀ base h₀ L m s Q E vs B F X N T hk hl hi hd hu hr

set_option maxHeartbeats 4000000 in
theorem c_cell (w : World) (D : Addr) (xs : List Int) (spot : Int) (h0 : 0 ≤ spot) (hn : xs.length ≤ 63) (t : Tok) (news : Led) :
    ClaimB w 591 D [.int spot t] 2 24 xs news (fun h₀ L m s Q => RetV (fun t => .int (cellAt xs spot 0) t) news h₀ L m s Q) := by
  k_with_none
  k_with "execs cons" => (refine toks_succ ?_; intro tkU)
  k_with "storeName" => with_reducible first | (refine store_toks ?_; intro tkU) | (refine store_add ?_; intro tkU)
  k_with "call type:range" => ((rename Fr _ _ _ _ => F'); (rename News _ _ _ _ => N'); (with_unfolding_all refine range1_rows F' N' ?_; intro _ _ _ _ _ _ _ _ _))
  k_with "my claimB" => (
      intro pZ looseZ meanZ mgZ mbZ dpZ unZ gdZ cnZ csZ aZ ccdZ clZ outerZ A₀Z baseZ h₀Z LZ mZ sZ QZ EZ vsZ BZ FZ XZ NZ TZ hkZ hlZ hiZ hdZ huZ hretZ
      refine wpAny_call ?_
      k_dflt cell_enter
      k_steps)
  walk_at "my claimB"
  all_goals refine retI (by assumption) (by assumption) (by assumption) ?_
  all_goals first | exact cell_in (by omega) (by omega) | exact cell_out (by omega) (by omega)


/-- both ways of a test meet behind it -/
theorem joinI {prog : Program} {w : World} {A : Around} {E : Value → Shared → Prop} {s : Shared} {h₀ : Heap} {L : Addr} {m : Str → Option Value} {news : Led} {Q : Value → Shared → Prop} {tree : Sem Value} (V : Int) (F : Fr h₀ L s.heap m) (N : News h₀ L s.heap news)
    (hw : ∀ q, RetV (fun t => .int V t) news h₀ L m s q → wpAny (model prog w) A tree q E s) (hc : RetV (fun t => .int V t) news h₀ L m s Q) : wpAny (model prog w) A tree Q E s := hw Q hc
theorem joinIte {prog : Program} {w : World} {A : Around} {E : Value → Shared → Prop} {s : Shared} {h₀ : Heap} {L : Addr} {m : Str → Option Value} {news : Led} {Q : Value → Shared → Prop} {C : Prop} [Decidable C] {t1 t2 : Sem Value} (x y : Int) (F : Fr h₀ L s.heap m) (N : News h₀ L s.heap news)
    (h1 : C → ∀ q, RetV (fun t => .int x t) news h₀ L m s q → wpAny (model prog w) A t1 q E s) (h2 : ¬ C → ∀ q, RetV (fun t => .int y t) news h₀ L m s q → wpAny (model prog w) A t2 q E s)
    (hc : RetV (fun t => .int (if C then x else y) t) news h₀ L m s Q) : if C then wpAny (model prog w) A t1 Q E s else wpAny (model prog w) A t2 Q E s := by
  k_with_none
  k_with "execs cons" => (refine toks_succ ?_; intro tkU)
  k_with "storeName" => with_reducible first | (refine store_toks ?_; intro tkU) | (refine store_add ?_; intro tkU)
  k_with "call type:range" => ((rename Fr _ _ _ _ => F'); (rename News _ _ _ _ => N'); (with_unfolding_all refine range1_rows F' N' ?_; intro _ _ _ _ _ _ _ _ _))
  by_cases h : C
  · simp only [if_pos h] at hc ⊢; exact h1 h Q hc
  · simp only [if_neg h] at hc ⊢; exact h2 h Q hc
local macro_rules | `(tactic| ktd_call $x:term $y:term) => `(tactic| (
    rename Fr _ _ _ _ => FF
    rename News _ _ _ _ => NN
    refine' joinIte $x $y ?f ?n ?w1 ?w2 ?cont
    (case f => exact FF); (case n => exact NN)
    (case w1 =>
      intro hC q hq
      k_steps
      all_goals exact retI hq (by assumption) (by assumption) rfl)
    (case w2 =>
      intro hC q hq
      k_steps
      all_goals exact retI hq (by assumption) (by assumption) rfl)
    (intro t9 h9 tk9 F9 N9; (try dsimp only); (try k_fold))))

section
theorem pw_all : ∀ n : Fin 17, ((256 : Int) ^ n.val).natAbs.log2 < 9000 ∧ Builtin.Int.intBits ((256 : Int) ^ n.val) ≤ 200 := by decide +kernel
theorem pw_log {n : Nat} (h : n ≤ 16) : ((256 : Int) ^ n).natAbs.log2 < 9000 := (pw_all ⟨n, by omega⟩).1
theorem pw_pos (n : Nat) : (0 : Int) < 256 ^ n := Int.pow_pos (by decide)
theorem row_start : ([] : List Int).length = ([] : List Int).length ∧ ∀ x ∈ ([] : List Int), 0 ≤ x ∧ x < 256 := ⟨rfl, fun _ h => by cases h⟩
theorem row_step {row pre : List Int} {k x : Int} (h : row.length = pre.length) (h2 : ∀ x ∈ row, 0 ≤ x ∧ x < 256) : (row ++ [x.fmod 256]).length = (pre ++ [k]).length ∧ ∀ y ∈ row ++ [x.fmod 256], 0 ≤ y ∧ y < 256 := by
  refine ⟨by simp [h], fun y hy => ?_⟩
  rcases List.mem_append.mp hy with hy | hy
  · exact h2 y hy
  · rw [List.mem_singleton.mp hy, Int.fmod_eq_emod_of_nonneg _ (by decide)]; omega
theorem pw_ne (n : Nat) : (256 : Int) ^ n ≠ 0 := Int.ne_of_gt (pw_pos n)
noncomputable def RetRow (news : Led) (h₀ : Heap) (L : Addr) (m : Str → Option Value) (s : Shared) (Q : Value → Shared → Prop) : Prop :=
  ∀ (D : Addr) (row : List Int) (vs : List Value) (n : Nat) (h' : Heap) (tk' : Nat), row.length = 128 → Octs row → IntsAre vs row → (∀ p ∈ news, p.1 < D) → Fr h₀ L h' m → News h₀ L h' ((D, listOf vs.toArray n) :: news) → Q (.ref D) { s with heap := h', toks := tk' }
theorem retRow {news own : Led} {h₀ h' : Heap} {L : Addr} {m : Str → Option Value} {s : Shared} {Q : Value → Shared → Prop} {D : Addr} {row : List Int} {vs : List Value} {n tk' : Nat}
    (hret : RetRow news h₀ L m s Q) (hl : row.length = (rangeKs 0 ((128 : Int) - 0).toNat).length) (ho : ∀ x ∈ row, 0 ≤ x ∧ x < 256) (hI : IntsAre vs row) (hlt : ∀ p ∈ news, p.1 < D) (F : Fr h₀ L h' m) (N : News h₀ L h' ((D, listOf vs.toArray n) :: (own ++ news))) : Q (.ref D) { s with heap := h', toks := tk' } :=
  hret D row vs n h' tk' (by rw [hl, rangeKs_length]; rfl) ho hI hlt F (fun p hp => N p (by
    rcases List.mem_cons.mp hp with rfl | hp
    · exact .head _
    · exact .tail _ (List.mem_append_right _ hp)))
end
set_option maxHeartbeats 8000000 in
theorem c_row (w : World) (D : Addr) (xs : List Int) (hn : xs.length ≤ 63) (news : Led) :
    ClaimB w 598 D [] 6 100 xs news (fun h₀ L m s Q => RetRow news h₀ L m s Q) := by
  k_with_none
  k_with "execs cons" => (refine toks_succ ?_; intro tkU)
  k_with "storeName" => with_reducible first | (refine store_toks ?_; intro tkU) | (refine store_add ?_; intro tkU)
  k_with "call type:range" => ((rename Fr _ _ _ _ => F'); (rename News _ _ _ _ => N'); (with_unfolding_all refine range1_rows F' N' ?_; intro _ _ _ _ _ _ _ _ _))
  k_with "my go" => (intro t9 h9 tk9 F9 N9; (try dsimp only); (try k_fold))
  k_with "my claimB" => (
      intro pZ looseZ meanZ mgZ mbZ dpZ unZ gdZ cnZ csZ aZ ccdZ clZ outerZ A₀Z baseZ h₀Z LZ mZ sZ QZ EZ vsZ BZ FZ XZ NZ TZ hkZ hlZ hiZ hdZ huZ hretZ
      refine wpAny_call ?_
      k_dflt cell_enter
      k_steps)
  k_with "my useB" => (
        (case k1 => k_asm); (case k2 => k_asm); (case k3 => k_asm); (case k4 => k_asm); (case k5 => k_asm); (case k6 => first | exact rfl | assumption); (case kl => k_asm); (case ki => assumption); (case k7 => ktr_room); (case k8 => ktr_units))
  k_with "call ref" => (k_here; (with_reducible show wpAny _ _ (call (Value.ref 591) _) _ _ _); k_dflt (refine' useB (c_cell _ _ _ _ ?h0 ?hn _ _) ?k1 ?k2 ?k3 ?k4 ?k5 ?k6 ?kl ?ki ?k7 ?k8 ?_; walk_at "my useB"; (case h0 => first | decide | omega); (case hn => omega); walk_at "my go"))
  k_with "pyIter ref" => k_dflt (k_state (fun pre row => row.length = pre.length ∧ ∀ x ∈ row, 0 ≤ x ∧ x < 256) "row")
  k_with "binaryOp FloorDiv int int" => k_dflt (refine floordiv_int (pw_ne _) ?_ (Or.inl (PyProof.noPylong_of_log2 (pw_log (by omega)))))
  k_with "state" => first | exact row_start | exact row_step (by assumption) (by assumption)
  k_with "InvEndN" => k_dflt kst_close
  walk_at "my claimB"
  all_goals first
    | (refine retRow (own := [_, _]) (by assumption) (by assumption) (by assumption) (by assumption) ?_ (by assumption) (by assumption); exact ktn_ltOf (And.right (And.right (by assumption))))
    | (refine retRow (own := [_]) (by assumption) (by assumption) (by assumption) (by assumption) ?_ (by assumption) (by assumption); exact ktn_ltOf (And.right (by assumption)))

theorem pw_bits {n : Nat} (h : n ≤ 7) : Builtin.Int.intBits ((256 : Int) ^ n) ≤ 64 := by
  have : ∀ n : Fin 8, Builtin.Int.intBits ((256 : Int) ^ n.val) ≤ 64 := by decide +kernel
  exact this ⟨n, by omega⟩
theorem leVal_next {items : List Int} {j : Nat} (h : j < items.length) : leVal (items.take (j + 1)) = leVal (items.take j) + items.getD j 0 * 256 ^ j := by
  have e : items[j]? = some (items.getD j 0) := by rw [List.getD_eq_getElem?_getD, List.getElem?_eq_getElem h]; rfl
  rw [List.take_add_one, e, Option.toList_some, leVal_snoc, List.length_take, Nat.min_eq_left (by omega), Int.pow_mul]
  rfl
theorem whole_step {items pre : List Int} {k total : Int} (h : total = leVal (items.take pre.length)) (he : k = 0 + (pre.length : Int)) (hl : pre.length < ((items.length : Int) - 0).toNat) :
    total + items.getD k.toNat 0 * 256 ^ k.toNat = leVal (items.take (pre ++ [k]).length) := by
  rw [show k.toNat = pre.length by omega, List.length_append, List.length_singleton, leVal_next (by omega), h]
theorem whole_end {items : List Int} {total : Int} (h : total = leVal (items.take (rangeKs 0 ((items.length : Int) - 0).toNat).length)) : total = leVal items := by
  rw [h, rangeKs_length, List.take_of_length_le (by omega)]
set_option maxHeartbeats 4000000 in
theorem c_whole (w : World) (D : Addr) (vs : List Value) (n : Nat) (items : List Int) (news : Led) (h1 : (D, listOf vs.toArray n) ∈ news) (hI : IntsAre vs items) (h8 : items.length ≤ 8) :
    Claim w 605 [.ref D] 4 60 news (RetV (fun t => .int (leVal items) t) news) := by
  k_with_none
  k_with "execs cons" => (refine toks_succ ?_; intro tkU)
  k_with "storeName" => with_reducible first | (refine store_toks ?_; intro tkU) | (refine store_add ?_; intro tkU)
  k_with "call type:range" => ((rename Fr _ _ _ _ => F'); (rename News _ _ _ _ => N'); (with_unfolding_all refine range1_rows F' N' ?_; intro _ _ _ _ _ _ _ _ _))
  k_with "my claim" => (
      intro pZ looseZ meanZ mgZ mbZ dpZ unZ gdZ cnZ csZ aZ ccdZ clZ outerZ A₀Z baseZ h₀Z LZ mZ sZ QZ EZ BZ FZ XZ NZ TZ hkZ hdZ huZ hretZ
      refine wpAny_call ?_
      k_dflt cell_enter
      k_steps)
  k_with "pyIter ref" => k_dflt (k_state (fun pre total => total = leVal (items.take pre.length)) "total")
  k_with "state" => first | rfl | exact whole_step (by assumption) kEq kLt
  k_with "InvEndN" => k_dflt kst_close
  k_with "binaryOp Mult int int" => k_dflt (refine mul_int ?_ (IntMulOk.of_right (pw_bits (by omega))))
  k_with "call builtin:len" => k_dflt (refine kst_len (by k_asm) h1 hI.length (by omega) ?_; (try dsimp only); (try k_fold))
  walk_at "my claim"
  exact retI (by assumption) (by assumption) (by assumption) (whole_end (by assumption))

section
noncomputable abbrev sixT (z : Six) (t0 t1 t2 t3 t4 t5 : Tok) : Obj := { cls := .type "tuple", data := .seq #[.int z.c t0, .int z.p t1, .int z.a t2, .int z.z t3, .int z.s t4, .int z.o t5] }
noncomputable def RetSix (z : Six) (news : Led) (h₀ : Heap) (L : Addr) (m : Str → Option Value) (s : Shared) (Q : Value → Shared → Prop) : Prop :=
  ∀ (D : Addr) (t0 t1 t2 t3 t4 t5 : Tok) (h' : Heap) (tk' : Nat), (∀ p ∈ news, p.1 < D) → Fr h₀ L h' m → News h₀ L h' ((D, sixT z t0 t1 t2 t3 t4 t5) :: news) → Q (.ref D) { s with heap := h', toks := tk' }
noncomputable def lowN (r : Int) : Nat → Int
  | 0 => 0
  | n + 1 => lowN r n + (r / 2 ^ n) % 2
theorem lowN_step {r count k : Int} {pre : List Int} (h : count = lowN r pre.length) (he : k = 0 + (pre.length : Int)) : count + (r.fdiv (2 ^ k.toNat)).fmod 2 = lowN r (pre ++ [k]).length := by
  rw [List.length_append, List.length_singleton, lowN, h, show k.toNat = pre.length by omega, Int.fdiv_eq_ediv_of_nonneg _ (Int.le_of_lt (Int.pow_pos (by decide))), Int.fmod_eq_emod_of_nonneg _ (by decide)]
theorem lowN_end {r count : Int} (h : count = lowN r (rangeKs 0 ((8 : Int) - 0).toNat).length) : count = low8 r := by
  rw [h, rangeKs_length]
  simp [lowN, low8]
theorem half_ne (W : Nat) : (128 * 256 ^ ((W : Int) - 1).toNat : Int) ≠ 0 := by have := pw_pos ((W : Int) - 1).toNat; omega
theorem half_eq {size H : Int} {W : Nat} (hz : SizeW size H W) : (128 * 256 ^ ((W : Int) - 1).toNat : Int) = H := by rcases hz with ⟨_, rfl, rfl⟩ | ⟨_, rfl, rfl⟩ | ⟨_, rfl, rfl⟩ | ⟨_, rfl, rfl⟩ <;> rfl
theorem half_log {size H : Int} {W : Nat} (hz : SizeW size H W) : (128 * 256 ^ ((W : Int) - 1).toNat : Int).natAbs.log2 < 9000 := by rcases hz with ⟨_, rfl, rfl⟩ | ⟨_, rfl, rfl⟩ | ⟨_, rfl, rfl⟩ | ⟨_, rfl, rfl⟩ <;> decide +kernel
theorem retSix {z : Six} {news : Led} {h₀ h' : Heap} {L : Addr} {m : Str → Option Value} {s : Shared} {Q : Value → Shared → Prop} {D : Addr} {y0 y1 y2 y3 y4 y5 : Int} {t0 t1 t2 t3 t4 t5 : Tok} {tk' : Nat}
    (hret : RetSix z news h₀ L m s Q) (hl : ∀ p ∈ news, p.1 < D) (F : Fr h₀ L h' m) (N : News h₀ L h' ((D, { cls := .type "tuple", data := .seq #[.int y0 t0, .int y1 t1, .int y2 t2, .int y3 t3, .int y4 t4, .int y5 t5] }) :: news)) (e : (⟨y0, y1, y2, y3, y4, y5⟩ : Six) = z) : Q (.ref D) { s with heap := h', toks := tk' } := by
  subst e
  exact hret D t0 t1 t2 t3 t4 t5 h' tk' hl F N
theorem low8_rest {size H x : Int} {W : Nat} (hz : SizeW size H W) : low8 (x % (2 * H)) = low8 x := by
  rw [← low8_mod (x % (2 * H)), ← low8_mod x]
  congr 1
  refine Int.emod_emod_of_dvd _ ?_
  rcases hz with ⟨_, rfl, _⟩ | ⟨_, rfl, _⟩ | ⟨_, rfl, _⟩ | ⟨_, rfl, _⟩ <;> decide
theorem six_eq {size H a b c o : Int} {W : Nat} (hz : SizeW size H W) (hc : c = lowN ((a - b).fmod (2 * (128 * 256 ^ ((W : Int) - 1).toNat))) (rangeKs 0 8).length) (ho : o = sixO H a b) :
    (⟨if decide (a < b) = true then 1 else 0, 1 - c.fmod 2, if decide (a.fmod 16 < b.fmod 16) = true then 1 else 0, if (a == b) = true then 1 else 0, ((a - b).fmod (2 * (128 * 256 ^ ((W : Int) - 1).toNat))).fdiv (128 * 256 ^ ((W : Int) - 1).toNat), o⟩ : Six) = sixOf H a b := by
  have hH : 0 < H := (sizeW_n hz).2.2.2.2
  rw [half_eq hz, Int.fmod_eq_emod_of_nonneg _ (by omega)] at *
  have hc2 : c = low8 (a - b) := (lowN_end hc).trans (low8_rest hz)
  simp only [decide_eq_true_eq, beq_iff_eq, Int.fmod_eq_emod_of_nonneg _ (show (0 : Int) ≤ 2 * H by omega), Int.fmod_eq_emod_of_nonneg _ (show (0 : Int) ≤ 2 by decide), Int.fmod_eq_emod_of_nonneg _ (show (0 : Int) ≤ 16 by decide), Int.fdiv_eq_ediv_of_nonneg _ (Int.le_of_lt hH)]
  rw [hc2, ho]
  rfl
theorem over_a {size H a b : Int} {W : Nat} (hz : SizeW size H W)
    (h : -(128 * 256 ^ ((W : Int) - 1).toNat) ≤ (if decide (128 * 256 ^ ((W : Int) - 1).toNat ≤ a) = true then a - 2 * (128 * 256 ^ ((W : Int) - 1).toNat) else a) - (if decide (128 * 256 ^ ((W : Int) - 1).toNat ≤ b) = true then b - 2 * (128 * 256 ^ ((W : Int) - 1).toNat) else b)) :
    (if decide ((if decide (128 * 256 ^ ((W : Int) - 1).toNat ≤ a) = true then a - 2 * (128 * 256 ^ ((W : Int) - 1).toNat) else a) - (if decide (128 * 256 ^ ((W : Int) - 1).toNat ≤ b) = true then b - 2 * (128 * 256 ^ ((W : Int) - 1).toNat) else b) < 128 * 256 ^ ((W : Int) - 1).toNat) = true then (0 : Int) else 1) = sixO H a b := by
  rw [half_eq hz] at *
  simp only [decide_eq_true_eq] at *
  unfold sixO sixL
  by_cases q : (if H ≤ a then a - 2 * H else a) - (if H ≤ b then b - 2 * H else b) < H
  · rw [if_pos q, if_pos ⟨h, q⟩]
  · rw [if_neg q, if_neg fun x => q x.2]
theorem over_b {size H a b : Int} {W : Nat} (hz : SizeW size H W)
    (h : ¬ (-(128 * 256 ^ ((W : Int) - 1).toNat) ≤ (if decide (128 * 256 ^ ((W : Int) - 1).toNat ≤ a) = true then a - 2 * (128 * 256 ^ ((W : Int) - 1).toNat) else a) - (if decide (128 * 256 ^ ((W : Int) - 1).toNat ≤ b) = true then b - 2 * (128 * 256 ^ ((W : Int) - 1).toNat) else b))) :
    (if false = true then (0 : Int) else 1) = sixO H a b := by
  rw [half_eq hz] at *
  simp only [decide_eq_true_eq] at *
  unfold sixO sixL
  rw [if_neg (show ¬ false = true by decide)]
  exact (if_neg fun x => h x.1).symm
end
set_option maxHeartbeats 4000000 in
theorem c_six (w : World) (a b size H : Int) (W : Nat) (ta tb tw : Tok) (hz : SizeW size H W) (ha : 0 ≤ a) (ha2 : a < 2 * H) (hb : 0 ≤ b) (hb2 : b < 2 * H) (news : Led) :
    Claim w 612 [.int a ta, .int b tb, .int W tw] 4 100 news (RetSix (sixOf H a b) news) := by
  k_with_none
  k_with "execs cons" => (refine toks_succ ?_; intro tkU)
  k_with "storeName" => with_reducible first | (refine store_toks ?_; intro tkU) | (refine store_add ?_; intro tkU)
  k_with "call type:range" => ((rename Fr _ _ _ _ => F'); (rename News _ _ _ _ => N'); (with_unfolding_all refine range1_rows F' N' ?_; intro _ _ _ _ _ _ _ _ _))
  k_with "my claim" => (
      intro pZ looseZ meanZ mgZ mbZ dpZ unZ gdZ cnZ csZ aZ ccdZ clZ outerZ A₀Z baseZ h₀Z LZ mZ sZ QZ EZ BZ FZ XZ NZ TZ hkZ hdZ huZ hretZ
      refine wpAny_call ?_
      k_dflt cell_enter
      k_steps)
  k_with "binaryOp FloorDiv int int" => k_dflt (refine floordiv_int (half_ne W) ?_ (Or.inl (PyProof.noPylong_of_log2 (half_log (by assumption)))))
  k_with "pyIter ref" =>
    rename IsRange _ _ _ _ _ _ _ _ => rgX
    rename Fr _ _ _ _ => lF
    rename News _ _ _ _ => lN
    k_dflt (refine' kst_range (σ := Int × Tok) (n := 8) (fun _ => news) (fun c => [(Str.ofString "count", .int c.1 c.2)]) (fun _ => True) [] (fun pre c => c.1 = lowN ((a - b).fmod (2 * (128 * 256 ^ ((W : Int) - 1).toNat))) pre.length) (0, _) rfl rgX (by decide) (by decide) lF lN trivial ?hk rfl ?turn ?done)
    case hk => kst_all
    case' turn =>
      intro c pre kk t u h tk own hkk hlt hoff _ hP F1 N1
      try k_fold
    case' done =>
      intro c u h tk _ hP F1 N1; dsimp only
      try k_fold
  k_with "InvEndN" => k_dflt (rename News _ _ _ _ => nE'; refine' kst_end (_, _) (by assumption) nE' ?e1 ?e2 ?e3 ?e4 ?e5 ?e6 ?e7; (case e1 => first | (exact (fun p hp => List.mem_append_left _ hp))); (case e2 => first | (exact (fun p hp => List.mem_append_right _ hp))); (case e3 => first | rfl); (case e4 => first | (exact trivial)); (case e5 => first | kst_all); (case e6 => (intro z hz1 hz2 hz3; have hz4 : z ≠ Str.ofString "count" := hz2 _ (List.mem_singleton.mpr rfl); simp only [kstB, if_neg hz4, if_neg hz1, List.contains_nil, Bool.false_eq_true, if_false])); (case e7 => first | (refine lowN_step ?_ ?_ <;> assumption)))
  k_with "ite" => k_dflt (first | ktd_call 1 0 | ktd_call 0 1 | ktd_call (a - 2 * (128 * 256 ^ ((W : Int) - 1).toNat)) a | ktd_call (b - 2 * (128 * 256 ^ ((W : Int) - 1).toNat)) b)
  walk_at "my claim"
  all_goals refine retSix (by assumption) ?_ (by assumption) (by assumption) (six_eq hz hP ?_)
  all_goals first | assumption | exact ktn_ltOf (by assumption) | exact over_a (a := a) (b := b) hz (by assumption) | exact over_b (a := a) (b := b) hz (by assumption)

section
section
variable {prog : Program} {w : World} {A : Around} {E : Value → Shared → Prop} {s : Shared}
open Builtin in
theorem nextOf_bytes_item {it : Addr} {b : Array UInt8} {t : Tok} {i : Nat} {c : UInt8} {Q : Value → Shared → Prop} (hit : PySem.W.KBw.IsBytesIter s.heap it b t i) (hx : b[i]? = some c)
    (hQ : ∀ h', PySem.W.KBw.IsBytesIter h' it b t (i + 1) → Heap.SameBut it s.heap h' → Q (.int (c.toNat : Int) s.toks) { s with heap := h', toks := s.toks + 1 }) :
    wpAny (model prog w) A (Builtin.SmallTypes.nextOf (.ref it)) Q E s := by
  obtain ⟨o, ho, hc, hd⟩ := id hit
  unfold Builtin.SmallTypes.nextOf
  refine wpAny_bind (wpAny_callSpecial?_slot (name := PySem.Str.ofString "__next__") (PySem.W.KBw.iter_typeIs hit) PySem.W.KBw.slot_next
    (wpAny_call_entry PySem.W.KBw.slot_next (PySem.W.KBw.iter_typeIs hit) PySem.W.KBw.entry_next ?_ (PySem.W.KBw.args_next _)))
  show wpAny _ _ (field (.ref it) 0 >>= _) _ _ s
  refine wpAny_bind (wpAny_field ho hd (x := .bytes b t) rfl ?_)
  show wpAny _ _ (if (Value.bytes b t == Value.none) = true then _ else _) _ _ s
  rw [if_neg (show ¬ ((Value.bytes b t == Value.none) = true) from Bool.false_ne_true)]
  show wpAny _ _ (field (.ref it) 1 >>= _) _ _ s
  refine wpAny_bind (wpAny_field ho hd (x := .int i 0) rfl ?_)
  refine wpAny_bind (wpAny_of_eq (a := b) rfl ?_)
  simp only [Int.toNat_natCast, hx]
  refine wpAny_bind (wpAny_setField ho hd (by simp) (wpAny_bind (wpAny_mkInt (wpAny_pure ⟨_, rfl, wpAny_pure (hQ _ ?_ (Heap.SameBut.update ..))⟩))))
  exact ⟨_, Heap.get?_update_self _ ho (Obj.isFreed_of_fields (Obj.data_mapFields hd _)), (Obj.cls_mapFields ..).trans hc, by
    rw [Obj.data_mapFields hd]; simp [rawInt]⟩
open Builtin in
theorem nextOf_bytes_end {it : Addr} {b : Array UInt8} {t : Tok} {i : Nat} {Q : Value → Shared → Prop} (hh : A.handled = none)
    (hit : PySem.W.KBw.IsBytesIter s.heap it b t i) (hx : b[i]? = none)
    (hE : ∀ h' e, Heap.ExtBut it s.heap h' → (∃ o, h'.get? e = some o ∧ o.cls = .type "StopIteration") → E (.ref e) { s with heap := h' }) :
    wpAny (model prog w) A (Builtin.SmallTypes.nextOf (.ref it)) Q E s := by
  obtain ⟨o, ho, hc, hd⟩ := id hit
  unfold Builtin.SmallTypes.nextOf
  refine wpAny_bind (wpAny_callSpecial?_slot (name := PySem.Str.ofString "__next__") (PySem.W.KBw.iter_typeIs hit) PySem.W.KBw.slot_next
    (wpAny_call_entry PySem.W.KBw.slot_next (PySem.W.KBw.iter_typeIs hit) PySem.W.KBw.entry_next ?_ (PySem.W.KBw.args_next _)))
  show wpAny _ _ (field (.ref it) 0 >>= _) _ _ s
  refine wpAny_bind (wpAny_field ho hd (x := .bytes b t) rfl ?_)
  show wpAny _ _ (if (Value.bytes b t == Value.none) = true then _ else _) _ _ s
  rw [if_neg (show ¬ ((Value.bytes b t == Value.none) = true) from Bool.false_ne_true)]
  show wpAny _ _ (field (.ref it) 1 >>= _) _ _ s
  refine wpAny_bind (wpAny_field ho hd (x := .int i 0) rfl ?_)
  refine wpAny_bind (wpAny_of_eq (a := b) rfl ?_)
  simp only [Int.toNat_natCast, hx]
  refine wpAny_bind (wpAny_rule (wpAny_bind (wpAny_setField ho hd (by simp) ?_)))
  show wpAny _ _ (newExc (.type "StopIteration") [] >>= _) _ _ _
  refine wpAny_bind ?_
  simp only [newExc, newTuple]
  refine wpAny_bind (wpAny_newObj_type ?_ (by size_fits))
  refine wpAny_bind (m := firstArgMember _ _) (wpAny_of_eq (a := Value.none) (by first | rfl | (simp only [firstArgMember]; rfl)) ?_)
  refine wpAny_newObj_type ?_ (by size_fits)
  simp only [raiseNew]
  refine wpAny_bind (wpAny_handled ?_)
  first | rw [show A.in1.handled = none from hh] | rw [hh]
  refine wpAny_bind (wpAny_pure (wpAny_throw ?_))
  exact hE _ _ (((Heap.SameBut.update ..).extBut.push _).push _) ⟨_, Heap.get?_push_size _ rfl, rfl⟩
end
theorem draws_bytes {prog : Program} {w : World} {A : Around} (hh : A.handled = none) (it : Addr) (b : Array UInt8) (t : Tok) :
    Draws prog w A it [it] b.size (fun i v => ∃ c u, b[i]? = some c ∧ v = .int (c.toNat : Int) u) (fun i h => PySem.W.KBw.IsBytesIter h it b t i) where
  live := fun _ _ st => let ⟨o, ho, _⟩ := st; ⟨o, ho⟩
  frame := fun _ _ _ st hk => let ⟨o, ho, r⟩ := st; ⟨o, hk it (by simp) o ho, r⟩
  item := fun i s Q E hi st hQ => by
    refine nextOf_bytes_item st (c := b[i]) (by simp [hi]) fun h' hit' hs' => ?_
    exact hQ _ h' (s.toks + 1) ⟨_, _, by simp [hi], rfl⟩ hit' hs'
  done := fun s Q E st hE => nextOf_bytes_end hh st (by simp) hE
set_option maxHeartbeats 1000000 in
theorem meets_enumerate_newB (x : Array UInt8) (t : Tok) :
    Meets (Builtin.«enumerate.__new__» ⟨[.type "enumerate", .bytes x t], []⟩) (fun _ R s =>
      R (.ok (.ret (.ref (s.heap.push { cls := .type "bytes_iterator", data := .fields #[.bytes x t, .int 0 0] }).objs.size)))
        { s with heap := (s.heap.push { cls := .type "bytes_iterator", data := .fields #[.bytes x t, .int 0 0] }).push { cls := .type "enumerate", data := .fields #[.none, .bool false, .ref s.heap.objs.size, rawInt 0, .none, .none] } }) :=
  .of_wp fun prog w A R s h => by
    obtain ⟨hp, g, d, tk, os⟩ := s
    have hsub := sub_enumerate
    wp_walk
    refine wpAny_stack_any fun st => wpAny_pure ?_
    split
    · rename_i c _ _ _ _ _
      cases (c == Value.type "enumerate")
      · wp_walk using PySem.W.KBw.pyIter_bytes
        exact ⟨_, rfl, h⟩
      · wp_walk using PySem.W.KBw.pyIter_bytes
        exact ⟨_, rfl, h⟩
    · wp_walk using PySem.W.KBw.pyIter_bytes
      exact ⟨_, rfl, h⟩
theorem call_enumerate_bytes {prog : Program} {w : World} {A : Around} {E : Value → Shared → Prop} {s : Shared} {x : Array UInt8} {t : Tok} {Q : Value → Shared → Prop}
    (h : ∀ h', IsEnum h' (s.heap.objs.size + 1) s.heap.objs.size 0 .none → PySem.W.KBw.IsBytesIter h' s.heap.objs.size x t 0 → h'.objs.size = s.heap.objs.size + 2 →
      (∀ b o, s.heap.get? b = some o → h'.get? b = some o) → Q (.ref (s.heap.objs.size + 1)) { s with heap := h' }) :
    wpAny (model prog w) A (call (.type "enumerate") [.bytes x t]) Q E s := by
  refine callType_new F.called_enumerate (by decide) (F.typeCall_enumerate_1 _) (F.newCall_enumerate_1 _) (fun obj => F.args_object_init_2 obj _) F.entry_enumerate_new
    (meets_enumerate_newB x t) ?_
  have hz : (s.heap.push { cls := .type "bytes_iterator", data := .fields #[.bytes x t, .int 0 0] }).objs.size = s.heap.objs.size + 1 := Heap.size_push ..
  show _ ∧ _
  rw [hz]
  have he : IsEnum ((s.heap.push { cls := .type "bytes_iterator", data := .fields #[.bytes x t, .int 0 0] }).push
      { cls := .type "enumerate", data := .fields #[.none, .bool false, .ref s.heap.objs.size, rawInt 0, .none, .none] }) (s.heap.objs.size + 1) s.heap.objs.size 0 .none := by
    have := Heap.get?_push_size (s.heap.push { cls := .type "bytes_iterator", data := .fields #[.bytes x t, .int 0 0] })
      (o := { cls := .type "enumerate", data := .fields #[.none, .bool false, .ref s.heap.objs.size, rawInt 0, .none, .none] }) rfl
    rw [hz] at this; exact this
  refine ⟨⟨_, he, rfl⟩, h _ he ⟨_, Heap.get?_push_of_some _ (Heap.get?_push_size _ rfl), rfl, rfl⟩ (by rw [Heap.size_push, hz]) fun b o y => Heap.get?_push_of_some _ (Heap.get?_push_of_some _ y)⟩
theorem call_enum_bytes {prog : Program} {w : World} {A : Around} {E : Value → Shared → Prop} {s : Shared} {h₀ : Heap} {L : Addr} {m : Str → Option Value} {news : Led} {x : Array UInt8} {t : Tok} {Q : Value → Shared → Prop} (hh : A.handled = none) (F : Fr h₀ L s.heap m) (N : News h₀ L s.heap news)
    (h : ∀ h' e, Fr h₀ L h' m → News h₀ L h' news → PairSrcL prog w A E h₀ L ItemKind.int (PySem.W.KBw.bInts x) (.ref e) { s with heap := h' } m news → Q (.ref e) { s with heap := h' }) :
    wpAny (model prog w) A (call (.type "enumerate") [.bytes x t]) Q E s := by
  have hLs : L < s.heap.objs.size := F.ns.lt
  have hab : h₀.objs.size ≤ L := F.above
  refine call_enumerate_bytes fun h' he hit hsz hk => ?_
  have F' : Fr h₀ L h' m := ⟨F.ns.keeps hk, fun b o e => hk b o (F.keep b o e), F.above⟩
  have N' : News h₀ L h' news := fun p hp => ⟨hk _ _ (N p hp).1, (N p hp).2⟩
  refine h h' _ F' N' fun env hL => ?_
  subst hL
  refine enumSrc (draws_bytes (A := A.in1) hh s.heap.objs.size x t) he hit (Nat.succ_ne_self _) ?_ (by simp) ?_
    (Heap.get?_none_of_le (Nat.le_trans hab (Nat.le_of_lt (Nat.lt_succ_of_lt hLs)))) (Heap.get?_none_of_le (Nat.le_trans hab (Nat.le_of_lt hLs))) ?_ (by simp [PySem.W.KBw.ints_length]) ?_ F' N'
  · exact fun hm => Nat.succ_ne_self _ (List.mem_singleton.mp hm)
  · intro hm
    rcases List.mem_cons.mp hm with e | hm
    · exact Nat.ne_of_lt (Nat.lt_succ_of_lt hLs) e
    · exact Nat.ne_of_lt hLs (List.mem_singleton.mp hm)
  · intro b hb q hq e
    have hq1 : q.1 < s.heap.objs.size := Heap.lt_size (N q hq).1
    rcases List.mem_cons.mp hb with e1 | hb
    · exact Nat.ne_of_gt (Nat.lt_succ_of_lt hq1) (e1.symm.trans e)
    · exact Nat.ne_of_gt hq1 ((List.mem_singleton.mp hb).symm.trans e)
  · rintro i v ⟨c, u, hc, rfl⟩
    exact ⟨_, PySem.W.KBw.ints_get hc, ItemKind.int_mk _ _⟩
end

theorem updF_pre {d : Addr} {o : Obj} {l own : Led} {g : Obj → Led} (U : UpdF d o l g) (h : ∀ p ∈ own, p.1 ≠ d) : UpdF d o (own ++ l) (fun o' => own ++ g o') := by
  induction own with
  | nil => exact U
  | cons x r ih => exact .tail (h x (.head _)) (ih fun p hp => h p (.tail _ hp))
theorem updF_pre2 {d : Addr} {o o₀ : Obj} {own : Led} {g : Obj → Led} (U : UpdF d o₀ (g o₀) g) (h : ∀ p ∈ own, ∀ q ∈ g o₀, p.1 ≠ q.1) : UpdF d o (own ++ g o) (fun o' => own ++ g o') :=
  updF_pre (updF_again U o) fun p hp => h p hp (d, o₀) (updF_in U o₀)
/-- what holds ahead of turn i of load -/
noncomputable def LoadJ (w : World) (g : Obj → Led) (base : Int) (row : List Int) (m : Str → Option Value) (i : Nat) (m₁ : Str → Option Value) (l : Led) : Prop :=
  (∀ y, y ≠ Str.ofString "octet" → y ≠ Str.ofString "at" → m₁ y = m y) ∧ ∃ o, l = g o ∧ MemIs w o base (row.take i)
theorem loadJ_m {w : World} {g : Obj → Led} {base : Int} {row : List Int} {m m₁ : Str → Option Value} {i : Nat} {l : Led} (h : LoadJ w g base row m i m₁ l) (a b : Value) :
    (fun y => if y = Str.ofString "octet" then some a else if y = Str.ofString "at" then some b else m₁ y) = (fun y => if y = Str.ofString "octet" then some a else if y = Str.ofString "at" then some b else m y) := by
  funext y
  by_cases h1 : y = Str.ofString "octet"
  · simp [h1]
  · by_cases h2 : y = Str.ofString "at"
    · simp [h1, h2]
    · simp only [if_neg h1, if_neg h2]; exact h.1 y h1 h2
theorem load_hr {row : List Int} {i : Nat} {a : Int} (hl : row.length = 128) (h : row[i]? = some a) :
    (i < (row.take i).length ∧ (row.take i).length ≤ 128 ∧ row.take (i + 1) = (row.take i).set i a) ∨ (i = (row.take i).length ∧ (row.take i).length < 128 ∧ row.take (i + 1) = row.take i ++ [a]) := by
  obtain ⟨h1, _⟩ := List.getElem?_eq_some_iff.mp h
  refine .inr ⟨?_, ?_, ?_⟩
  · rw [List.length_take]; omega
  · rw [List.length_take]; omega
  · rw [List.take_add_one, h]; rfl
theorem loadEnd {w : World} {g : Obj → Led} {base : Int} {row : List Int} {h₀ h' : Heap} {L : Addr} {m : Str → Option Value} {s : Shared} {Q : Value → Shared → Prop} {ho' : Obj} {tk' : Nat}
    (hret : ∀ (ho' : Obj) (h' : Heap) (tk' : Nat), MemIs w ho' base row → Fr h₀ L h' m → News h₀ L h' (g ho') → Q .none { s with heap := h', toks := tk' }) (_hl : row.length = 128)
    (hm : MemIs w ho' base (row.take row.length)) (F : Fr h₀ L h' m) (N : News h₀ L h' (g ho')) : Q .none { s with heap := h', toks := tk' } := by
  rw [List.take_length] at hm
  exact hret _ _ _ hm F N
set_option maxHeartbeats 4000000 in
theorem c_load (w : World) (mm md hd : Addr) (k : Tok) (n : Nat) (ho : Obj) (base : Int) (b : Array UInt8) (row : List Int) (t tb : Tok) (news : Led) (g : Obj → Led)
    (h1 : ∀ o, (mm, instObj 408 md) ∈ g o) (h2 : ∀ o, (md, memD w k n hd) ∈ g o) (U : UpdF hd ho news g) (hm : MemIs w ho base []) (hb : PySem.W.KBw.bInts b = row) (hl : row.length = 128) :
    Claim w 367 [.ref mm, .int base t, .bytes b tb] 6 60 news (fun h₀ L m s Q => ∀ (ho' : Obj) (h' : Heap) (tk' : Nat), MemIs w ho' base row → Fr h₀ L h' m → News h₀ L h' (g ho') → Q .none { s with heap := h', toks := tk' }) := by
  k_with_none
  k_with "execs cons" => (refine toks_succ ?_; intro tkU)
  k_with "storeName" => with_reducible first | (refine store_toks ?_; intro tkU) | (refine store_add ?_; intro tkU)
  k_with "call type:range" => ((rename Fr _ _ _ _ => F'); (rename News _ _ _ _ => N'); (with_unfolding_all refine range1_rows F' N' ?_; intro _ _ _ _ _ _ _ _ _))
  k_with "my claim" => (
      intro pZ looseZ meanZ mgZ mbZ dpZ unZ gdZ cnZ csZ aZ ccdZ clZ outerZ A₀Z baseZ h₀Z LZ mZ sZ QZ EZ BZ FZ XZ NZ TZ hkZ hdZ huZ hretZ
      refine wpAny_call ?_
      k_dflt cell_enter
      k_steps)
  k_with "my use" => (
        (case k1 => k_asm); (case k2 => k_asm); (case k3 => k_asm); (case k4 => first | k_asm | exact drop1 (by assumption) | exact drop1 (drop1 (by assumption)) | exact drop1 (drop1 (drop1 (by assumption))) | exact drop1 (drop1 (drop1 (drop1 (by assumption))))); (case k5 => k_asm); (case k6 => first | exact rfl | assumption); (case k7 => ktr_room); (case k8 => ktr_units))
  have e := updF_self U
  subst e
  subst hb
  k_with "call type:enumerate" => k_dflt (
    rename Fr _ _ _ _ => FF
    rename News _ _ _ _ => NN
    refine call_enum_bytes rfl FF NN ?_
    intro h9 e9 F9 N9 S9
    (try dsimp only)
    (try k_fold))
  k_with "pyIter ref" => k_dflt (
    refine PairSrcL.at S9 _ rfl _ _ _ _ (LoadJ w g base (PySem.W.KBw.bInts b) _) ⟨fun _ _ _ => rfl, _, rfl, hm⟩ ?turn ?done
    case' turn =>
      intro i a t v m₁ news₁ s₁ own hs₁ hga hk hJ ha hown F₁ N₁
      obtain ⟨_, e1'⟩ := ItemKind.int_is hk; subst e1'
      rw [loadJ_m hJ] at F₁
      obtain ⟨hh₁, tk₁, rfl⟩ := hs₁
      obtain ⟨hJ1, o9, rfl, hJ2⟩ := hJ
      obtain ⟨hi9, hi8⟩ := List.getElem?_eq_some_iff.mp hga
      have q1 : (mm, instObj 408 md) ∈ own ++ g o9 := List.mem_append_right _ (h1 _)
      have q2 : (md, memD w k n hd) ∈ own ++ g o9 := List.mem_append_right _ (h2 _)
      try k_fold
    case' done =>
      intro h' tk m' news' F' N' ha hJ
      obtain ⟨hJ1, o9, rfl, hJ2⟩ := hJ
      try k_fold)
  k_with "call ref" => k_dflt (
    refine' useC (c_set_octet w mm md hd k n o9 base _ ((PySem.W.KBw.bInts b).take (i + 1)) i _ _ _ _ (own ++ g o9) (fun o => own ++ g o) q1 q2 (updF_pre2 U hown) hJ2 rfl (load_hr hl hga)) ?k1 ?k2 ?k3 ?k4 ?k5 ?k6 ?k7 ?k8 ?_
    walk_at "my use"
    intro ho9 h9 tk9 hm9 F9 N9
    (try dsimp only)
    (try k_fold))
  k_with "LoopStep3" => k_dflt (exact ⟨rfl, _, _, _, _, rfl, F9, N9, updF_addr U _ _, fun y hy1 hy2 => by simp only [if_neg hy1, if_neg hy2], ho9, rfl, hm9⟩)
  walk_at "my claim"
  all_goals refine loadEnd (by assumption) hl (by assumption) (by assumption) (by assumption)

section
theorem wpS_pos {prog : Program} {w : World} {A : Around} {E : Value → Shared → Prop} {s : Shared} {α : Type} {c : Prop} [Decidable c] {t e : StateT SortSt Sem α} {Q : α → SortSt → Prop} {st : SortSt} (hc : c) (h : wpS (model prog w) A E s t Q st) : wpS (model prog w) A E s (if c then t else e) Q st := by
  rw [if_pos hc]; exact h
theorem wpS_neg {prog : Program} {w : World} {A : Around} {E : Value → Shared → Prop} {s : Shared} {α : Type} {c : Prop} [Decidable c] {t e : StateT SortSt Sem α} {Q : α → SortSt → Prop} {st : SortSt} (hc : ¬ c) (h : wpS (model prog w) A E s e Q st) : wpS (model prog w) A E s (if c then t else e) Q st := by
  rw [if_neg hc]; exact h
noncomputable def gallop' : Bool → Keyed → Array Keyed → Nat → Nat → Nat → StateT SortSt Sem (Option Nat) := sortPriv% PySem.Builtin.gallop
noncomputable def mergeLo' : Array Keyed → Array Keyed → StateT SortSt Sem (Array Keyed) := sortPriv% PySem.Builtin.mergeLo
noncomputable def mergeHi' : Array Keyed → Array Keyed → StateT SortSt Sem (Array Keyed) := sortPriv% PySem.Builtin.mergeHi
section
variable {prog : Program} {w : World} {A : Around} {E : Value → Shared → Prop} {s : Shared} {κ : SortKind} {kf : Keyed → Int}
/-- the comparison answers by the keys -/
noncomputable def CmpOk (prog : Program) (w : World) (A : Around) (s : Shared) (κ : SortKind) (kf : Keyed → Int) (it : List Keyed) : Prop :=
  ∀ x ∈ it, ∀ y ∈ it, ∀ (Q : Bool → Shared → Prop) (E : Value → Shared → Prop), Q (decide (kf x < kf y)) s → wpAny (model prog w) A (keyLt' κ x.1 y.1) Q E s
theorem so_lt {it : List Keyed} (C : CmpOk prog w A s κ kf it) {x y : Keyed} (hx : x ∈ it) (hy : y ∈ it) {arr : Array Keyed} {p : Array (Nat × Nat × Nat)} {g : Nat} {f : Option Value} {Q : Option Bool → SortSt → Prop}
    (h : Q (some (decide (kf x < kf y))) (SortSt.mk' κ arr p g f)) : wpS (model prog w) A E s (lt' x y) Q (SortSt.mk' κ arr p g f) := by
  rw [lt'_eq]
  refine wpS_bind (wpS_get ?_)
  refine wpS_bind (wpS_lift (wpAny_attempt (C x hx y hy _ _ ⟨rfl, ?_⟩)))
  exact wpS_pure h
theorem so_elem {arr : Array Keyed} {i : Nat} {x : Keyed} {st : SortSt} {Q : Keyed → SortSt → Prop} (hx : arr[i]? = some x) (h : Q x st) : wpS (model prog w) A E s (elem' arr i) Q st := by
  rw [elem'_eq, hx]
  exact wpS_pure h
theorem so_ltAt {it : List Keyed} (C : CmpOk prog w A s κ kf it) {arr : Array Keyed} {i j : Nat} {x y : Keyed} (hi : arr[i]? = some x) (hj : arr[j]? = some y) (hx : x ∈ it) (hy : y ∈ it) {p : Array (Nat × Nat × Nat)} {g : Nat} {f : Option Value} {Q : Option Bool → SortSt → Prop}
    (h : Q (some (decide (kf x < kf y))) (SortSt.mk' κ arr p g f)) : wpS (model prog w) A E s (ltAt' i j) Q (SortSt.mk' κ arr p g f) := by
  rw [ltAt'_eq]
  refine wpS_bind (wpS_get ?_)
  refine wpS_bind (so_elem hi (wpS_bind (so_elem hj (so_lt C hx hy h))))
noncomputable def bey (left : Bool) (key : Keyed) (arr : Array Keyed) (base i : Nat) : StateT SortSt Sem (Option Bool) := do
  let x ← elem' arr (base + i)
  if left then lt' x key else return (← lt' key x).map (!·)
noncomputable def bisF (left : Bool) (key : Keyed) (arr : Array Keyed) (base l r : Nat) : StateT SortSt Sem (ForInStep (Option (Option Nat) × Nat × Nat)) :=
  if l ≥ r then pure (.done (none, l, r)) else bey left key arr base (l + (r - l) / 2) >>= fun c => match c with
    | some more => if more then pure (.yield (none, l + (r - l) / 2 + 1, r)) else pure (.yield (none, l, l + (r - l) / 2))
    | _ => pure (.done (some none, l, r))
theorem so_mid {l r : Nat} (h : ¬ l ≥ r) : ∃ m, l + (r - l) / 2 = m ∧ l ≤ m ∧ m < r := ⟨_, rfl, Nat.le_add_right _ _, by omega⟩
theorem so_bisect {β : Type} {left : Bool} {key : Keyed} {arr : Array Keyed} {base n t lo hi : Nat} {st : SortSt} {F : Nat → Option (Option Nat) × Nat × Nat → StateT SortSt Sem (ForInStep (Option (Option Nat) × Nat × Nat))} {K : Option (Option Nat) × Nat × Nat → StateT SortSt Sem β} {Q : β → SortSt → Prop}
    (hb : ∀ i, i < n → ∀ Q : Option Bool → SortSt → Prop, Q (some (decide (i < t))) st → wpS (model prog w) A E s (bey left key arr base i) Q st)
    (hF : ∀ x l r, F x (none, l, r) = bisF left key arr base l r) (h1 : lo ≤ t) (h2 : t ≤ hi) (h3 : hi ≤ n) (h : ∀ l, wpS (model prog w) A E s (K (none, l, t)) Q st) : wpS (model prog w) A E s (forIn [0:n] (none, lo, hi) F >>= K) Q st := by
  refine wpS_bind (wpS_mono (wpS_forRange (I := fun x c st' => st' = st ∧ ∃ l r, c = (none, l, r) ∧ l ≤ t ∧ t ≤ r ∧ r ≤ n ∧ r - l ≤ n - x)
    (Q := fun c st' => st' = st ∧ ∃ l, c = (none, l, t)) ?istep ?ifin ⟨rfl, lo, hi, rfl, h1, h2, h3, Nat.le_trans (Nat.sub_le _ _) h3⟩) ?ipost)
  case ifin =>
    rintro c st'' ⟨rfl, l, r, rfl, g1, g2, g3, g4⟩
    exact ⟨rfl, l, by rw [show r = t by omega]⟩
  case istep =>
    rintro x c st'' _ hx ⟨rfl, l, r, rfl, g1, g2, g3, g4⟩
    rw [hF]
    unfold bisF
    by_cases hge : l ≥ r
    · refine wpS_pos hge (wpS_pure ⟨rfl, l, ?_⟩)
      rw [Nat.le_antisymm (Nat.le_trans hge g1) g2]
    · refine wpS_neg hge ?_
      obtain ⟨m, hm, m1, m2⟩ := so_mid hge
      rw [hm]
      refine wpS_bind (hb m (Nat.lt_of_lt_of_le m2 g3) _ ?_)
      by_cases hc : m < t
      · simp only [hc, decide_true, if_true]
        exact wpS_pure ⟨rfl, _, _, rfl, hc, g2, g3, Nat.pred_le_pred (Nat.le_trans (Nat.sub_le_sub_left m1 r) g4)⟩
      · simp only [hc, decide_false, Bool.false_eq_true, if_false]
        exact wpS_pure ⟨rfl, _, _, rfl, g1, Nat.le_of_not_lt hc, Nat.le_trans (Nat.le_of_lt m2) g3, Nat.le_pred_of_lt (Nat.lt_of_lt_of_le (Nat.sub_lt_sub_right m1 m2) g4)⟩
  case ipost =>
    rintro c st'' ⟨rfl, l, rfl⟩
    exact h l
theorem so_gallop {left : Bool} {key : Keyed} {arr : Array Keyed} {base n hint t : Nat} {st : SortSt} {Q : Option Nat → SortSt → Prop} (ht : t ≤ n) (hh : hint < n)
    (hb : ∀ i, i < n → ∀ Q : Option Bool → SortSt → Prop, Q (some (decide (i < t))) st → wpS (model prog w) A E s (bey left key arr base i) Q st)
    (h : Q (some t) st) : wpS (model prog w) A E s (gallop' left key arr base n hint) Q st := by
  show wpS _ _ _ _ ((sortPriv% PySem.Builtin.gallop) left key arr base n hint) Q st
  show wpS _ _ _ _ (_ >>= _) Q _
  dsimp only
  refine wpS_bind (hb hint hh _ ?_)
  by_cases hr : hint < t
  · simp only [hr, decide_true, if_true]
    refine wpS_bind (wpS_mono (wpS_forRange (I := fun x c st' => st' = st ∧ ∃ l o, c = (none, l, o) ∧ x + 1 ≤ o ∧ hint + l < t)
      (Q := fun c st' => st' = st ∧ ∃ l o, c = (none, l, o) ∧ hint + l < t ∧ (o ≥ n - hint ∨ t ≤ hint + o)) ?step ?fin ⟨rfl, 0, 1, rfl, Nat.le_refl _, hr⟩) ?post)
    case fin =>
      rintro c st' ⟨rfl, l, o, rfl, h1, h3⟩
      exact ⟨rfl, l, o, rfl, h3, .inl (by omega)⟩
    case step =>
      rintro x c st' _ hx ⟨rfl, l, o, rfl, h1, h3⟩
      dsimp only
      by_cases hge : o ≥ n - hint
      · refine wpS_pos hge ?_
        exact wpS_pure ⟨rfl, l, o, rfl, h3, .inl hge⟩
      · refine wpS_neg hge ?_
        refine wpS_bind (hb (hint + o) (by omega) _ ?_)
        by_cases hm : hint + o < t
        · simp only [hm, decide_true, Bool.not_true, Bool.false_eq_true, if_false]
          exact wpS_pure ⟨rfl, o, 2 * o + 1, rfl, by omega, hm⟩
        · simp only [hm, decide_false, Bool.not_false, if_true]
          exact wpS_pure ⟨rfl, l, o, rfl, h3, .inr (Nat.le_of_not_lt hm)⟩
    case post =>
      rintro c st' ⟨rfl, l, o, rfl, h2, h3⟩
      dsimp only
      refine so_bisect hb (fun _ _ _ => rfl) h2 (Nat.sub_le_iff_le_add'.mp (Nat.le_min.mpr ⟨h3.elim (Nat.le_trans (Nat.sub_le_sub_right ht _)) Nat.sub_le_iff_le_add'.mpr, Nat.sub_le_sub_right ht _⟩)) (Nat.le_trans (Nat.add_le_add_left (Nat.min_le_right _ _) _) (Nat.le_of_eq (Nat.add_sub_cancel' (Nat.le_of_lt hh)))) fun l => wpS_pure h
  · simp only [hr, decide_false, Bool.false_eq_true, if_false]
    refine wpS_bind (wpS_mono (wpS_forRange (I := fun x c st' => st' = st ∧ ∃ l o, c = (none, l, o) ∧ x + 1 ≤ o ∧ t ≤ hint - l)
      (Q := fun c st' => st' = st ∧ ∃ l o, c = (none, l, o) ∧ t ≤ hint - l ∧ hint + 1 ≤ t + min o (hint + 1)) ?step ?fin ⟨rfl, 0, 1, rfl, Nat.le_refl _, Nat.le_of_not_lt hr⟩) ?post)
    case fin =>
      rintro c st' ⟨rfl, l, o, rfl, h1, h3⟩
      exact ⟨rfl, l, o, rfl, h3, Nat.le_trans (Nat.le_min.mpr ⟨by omega, Nat.le_refl _⟩) (Nat.le_add_left _ _)⟩
    case step =>
      rintro x c st' _ hx ⟨rfl, l, o, rfl, h1, h3⟩
      dsimp only
      by_cases hge : o ≥ hint + 1
      · refine wpS_pos hge ?_
        exact wpS_pure ⟨rfl, l, o, rfl, h3, Nat.le_trans (Nat.le_min.mpr ⟨hge, Nat.le_refl _⟩) (Nat.le_add_left _ _)⟩
      · refine wpS_neg hge ?_
        refine wpS_bind (hb (hint - o) (by omega) _ ?_)
        by_cases hm : hint - o < t
        · simp only [hm, decide_true, if_true]
          exact wpS_pure ⟨rfl, l, o, rfl, h3, by rw [Nat.min_eq_left (Nat.le_of_not_le hge)]; omega⟩
        · simp only [hm, decide_false, Bool.false_eq_true, if_false]
          exact wpS_pure ⟨rfl, o, 2 * o + 1, rfl, by omega, Nat.le_of_not_lt hm⟩
    case post =>
      rintro c st' ⟨rfl, l, o, rfl, h2, h3⟩
      dsimp only
      refine so_bisect hb (fun _ _ _ => rfl) (Nat.sub_le_iff_le_add.mpr h3) h2 (Nat.le_trans (Nat.sub_le _ _) (Nat.le_of_lt hh)) fun l => wpS_pure h
theorem so_push {b : Array Keyed} {i : Nat} {x : Keyed} (h : b[i]? = some x) : (b.extract 0 i).push x = b.extract 0 (i + 1) := by
  obtain ⟨hi, e⟩ := Array.getElem?_eq_some_iff.mp h
  apply Array.toList_inj.mp
  simp only [Array.toList_push, Array.toList_extract, List.extract_eq_take_drop, List.drop_zero, Nat.sub_zero]
  rw [List.take_add_one]
  have : b.toList[i]? = some x := by simpa using h
  rw [this]; rfl
theorem so_end1 {a b : Array Keyed} {i : Nat} (h : i = b.size) : b.extract 0 i ++ a.extract ++ b.extract i = b ++ a := by
  subst h
  simp
theorem so_end2 {a b : Array Keyed} {i : Nat} (h : i ≤ b.size) : b.extract 0 i ++ b.extract i ++ a.extract = b ++ a := by
  simp [show max i b.size = b.size by omega]
theorem so_get {b : Array Keyed} {i : Nat} (h : i < b.size) : ∃ x, b[i]? = some x ∧ x ∈ b.toList := ⟨b[i], by simp [h], by simp⟩
theorem so_bey_lo {it : List Keyed} (C : CmpOk prog w A s κ kf it) {key : Keyed} {arr : Array Keyed} {base n : Nat} {arr' : Array Keyed} {p : Array (Nat × Nat × Nat)} {g : Nat} {f : Option Value} {t : Nat} (hk : key ∈ it)
    (hx : ∀ i, i < n → ∃ x, arr[base + i]? = some x ∧ x ∈ it ∧ (i < t ↔ ¬ kf key < kf x)) (i : Nat) (hi : i < n) (Q : Option Bool → SortSt → Prop) (h : Q (some (decide (i < t))) (SortSt.mk' κ arr' p g f)) :
    wpS (model prog w) A E s (bey false key arr base i) Q (SortSt.mk' κ arr' p g f) := by
  obtain ⟨x, h1, h2, h3⟩ := hx i hi
  unfold bey
  refine wpS_bind (so_elem h1 ?_)
  simp only [Bool.false_eq_true, if_false]
  refine wpS_bind (so_lt C hk h2 ?_)
  refine wpS_pure ?_
  have : (Option.map (fun x => !x) (some (decide (kf key < kf x)))) = some (decide (i < t)) := by
    simp only [Option.map_some, h3, decide_not]
  rw [this]; exact h
theorem so_bey_hi {it : List Keyed} (C : CmpOk prog w A s κ kf it) {key : Keyed} {arr : Array Keyed} {base n : Nat} {arr' : Array Keyed} {p : Array (Nat × Nat × Nat)} {g : Nat} {f : Option Value} {t : Nat} (hk : key ∈ it)
    (hx : ∀ i, i < n → ∃ x, arr[base + i]? = some x ∧ x ∈ it ∧ (i < t ↔ kf x < kf key)) (i : Nat) (hi : i < n) (Q : Option Bool → SortSt → Prop) (h : Q (some (decide (i < t))) (SortSt.mk' κ arr' p g f)) :
    wpS (model prog w) A E s (bey true key arr base i) Q (SortSt.mk' κ arr' p g f) := by
  obtain ⟨x, h1, h2, h3⟩ := hx i hi
  unfold bey
  refine wpS_bind (so_elem h1 ?_)
  simp only [if_true]
  refine so_lt C h2 hk ?_
  have : decide (kf x < kf key) = decide (i < t) := by simp only [h3]
  rw [this]; exact h
noncomputable def setMinGallop' : Nat → StateT SortSt Sem Unit := sortPriv% PySem.Builtin.setMinGallop
theorem so_setMin {g' : Nat} {arr : Array Keyed} {p : Array (Nat × Nat × Nat)} {g : Nat} {f : Option Value} {Q : Unit → SortSt → Prop} (h : Q () (SortSt.mk' κ arr p g' f)) : wpS (model prog w) A E s (setMinGallop' g') Q (SortSt.mk' κ arr p g f) := by
  show wpS _ _ _ _ ((sortPriv% PySem.Builtin.setMinGallop) g') Q _
  exact wpS_modify h
theorem so_mergeLo {it : List Keyed} (C : CmpOk prog w A s κ kf it) {a b : Array Keyed} {arr : Array Keyed} {p : Array (Nat × Nat × Nat)} {g : Nat} {f : Option Value} {Q : Array Keyed → SortSt → Prop}
    (ha : ∀ x ∈ a.toList, x ∈ it) (hb : ∀ x ∈ b.toList, x ∈ it) (hab : ∀ x ∈ a.toList, ∀ y ∈ b.toList, kf y < kf x) (ha0 : 0 < a.size) (hb0 : 0 < b.size) (hg : 1 ≤ g)
    (h : ∀ g', Q (b ++ a) (SortSt.mk' κ arr p g' f)) : wpS (model prog w) A E s (mergeLo' a b) Q (SortSt.mk' κ arr p g f) := by
  show wpS _ _ _ _ ((sortPriv% PySem.Builtin.mergeLo) a b) Q _
  show wpS _ _ _ _ (_ >>= _) Q _
  dsimp only
  refine wpS_bind (wpS_lift (wpAny_rule ⟨rfl, ?_⟩))
  obtain ⟨x0, hx0, hx0'⟩ := so_get hb0
  obtain ⟨y0, hy0, hy0'⟩ := so_get ha0
  refine wpS_bind (so_elem hx0 ?_)
  have e0 : #[x0] = b.extract 0 1 := by rw [← so_push (i := 0) hx0]; simp
  rw [e0]
  by_cases h1 : 1 = b.size
  · first | refine wpS_pos (by simpa using h1) ?_ | rw [if_pos (by simpa using h1)]
    refine wpS_pure ?_
    rw [so_end1 h1]; exact h g
  first | refine wpS_neg (by simpa using h1) ?_ | rw [if_neg (by simpa using h1)]
  by_cases h2 : 0 + 1 = a.size
  · first | refine wpS_pos (by simpa using h2) ?_ | rw [if_pos (by simpa using h2)]
    refine wpS_pure ?_
    rw [so_end2 (by omega)]; exact h g
  first | refine wpS_neg (by simpa using h2) ?_ | rw [if_neg (by simpa using h2)]
  refine wpS_bind (wpS_get ?_)
  refine wpS_bind (wpS_mono (wpS_forRange (I := fun x c st' => x = 0 ∧ c = (none, b.extract 0 1, 0, 1, g) ∧ st' = SortSt.mk' κ arr p g f)
    (Q := fun c st' => c.1 = some (b ++ a) ∧ ∃ g', st' = SortSt.mk' κ arr p g' f) ?step ?fin ⟨rfl, rfl, rfl⟩) ?post)
  case fin =>
    rintro c st' ⟨hx, _⟩
    omega
  case post =>
    rintro ⟨c1, c2⟩ st' ⟨rfl, g', rfl⟩
    exact wpS_pure (h g')
  case step =>
    rintro x c st' _ hx ⟨rfl, rfl, rfl⟩
    dsimp only
    refine wpS_bind (wpS_mono (wpS_forRange (I := fun x c st' => ∃ ib bc, c = (none, b.extract 0 ib, 0, ib, 0, bc) ∧ ib < b.size ∧ st' = SortSt.mk' κ arr p g f)
      (Q := fun c st' => (c.1 = some (b ++ a) ∨ ∃ ib ac bc, c = (none, b.extract 0 ib, 0, ib, ac, bc) ∧ ib < b.size) ∧ st' = SortSt.mk' κ arr p g f) ?istep ?ifin ⟨1, 0, rfl, by omega, rfl⟩) ?ipost)
    case ifin =>
      rintro c st' ⟨ib, bc, rfl, hib, rfl⟩
      exact ⟨.inr ⟨ib, 0, bc, rfl, hib⟩, rfl⟩
    case istep =>
      rintro x c st' _ _ ⟨ib, bc, rfl, hib, rfl⟩
      dsimp only
      obtain ⟨xb, hxb, hxb'⟩ := so_get hib
      refine wpS_bind (so_elem hxb (wpS_bind (so_elem hy0 (wpS_bind (so_lt C (hb _ hxb') (ha _ hy0') ?_)))))
      simp only [hab _ hy0' _ hxb', decide_true, if_true]
      refine wpS_bind (so_elem hxb ?_)
      rw [so_push hxb]
      by_cases he : ib + 1 = b.size
      · first | refine wpS_pos (by simpa using he) ?_ | rw [if_pos (by simpa using he)]
        refine wpS_pure ⟨.inl ?_, rfl⟩
        show some _ = _
        rw [so_end1 he]
      · first | refine wpS_neg (by simpa using he) ?_ | rw [if_neg (by simpa using he)]
        by_cases hm : bc + 1 ≥ g
        · first | refine wpS_pos hm ?_ | rw [if_pos hm]
          exact wpS_pure ⟨.inr ⟨_, _, _, rfl, by omega⟩, rfl⟩
        · first | refine wpS_neg hm ?_ | rw [if_neg hm]
          exact wpS_pure ⟨_, _, rfl, by omega, rfl⟩
    case ipost =>
      rintro ⟨c1, c2⟩ st' ⟨hc, rfl⟩
      rcases hc with rfl | ⟨ib, ac, bc, hc, hib⟩
      · exact wpS_pure ⟨rfl, g, rfl⟩
      · obtain ⟨rfl, rfl⟩ := Prod.mk.inj hc
        dsimp only
        refine wpS_bind (wpS_lift (wpAny_rule ⟨rfl, ?_⟩))
        refine wpS_bind (wpS_mono (wpS_forRange (I := fun x c st' => x = 0 ∧ c = (none, b.extract 0 ib, 0, ib, g + 1, ac, bc) ∧ st' = SortSt.mk' κ arr p g f)
          (Q := fun c st' => c.1 = some (b ++ a) ∧ ∃ g', st' = SortSt.mk' κ arr p g' f) ?jstep ?jfin ⟨rfl, rfl, rfl⟩) ?jpost)
        case jfin =>
          rintro c st' ⟨hx, _⟩
          omega
        case jpost =>
          rintro ⟨c1, c2⟩ st' ⟨rfl, g', rfl⟩
          exact wpS_pure ⟨rfl, g', rfl⟩
        case jstep =>
          rintro x c st' _ _ ⟨rfl, rfl, rfl⟩
          dsimp only
          first | refine wpS_pos (by omega) ?_ | rw [if_pos (by omega)]
          obtain ⟨xb, hxb, hxb'⟩ := so_get hib
          refine wpS_bind (so_setMin (wpS_bind (so_elem hxb (wpS_bind (so_gallop (t := 0) (by omega) (by omega) (so_bey_lo C (hb _ hxb') fun i hi => ?_) ?_)))))
          · obtain ⟨z, hz, hz'⟩ := so_get (b := a) (i := 0 + i) (by omega)
            exact ⟨z, hz, ha _ hz', by have := hab _ hz' _ hxb'; omega⟩
          dsimp only
          first | refine wpS_neg (by omega) ?_ | rw [if_neg (by omega)]
          refine wpS_bind (so_elem hxb ?_)
          rw [so_push hxb]
          by_cases he : ib + 1 = b.size
          · first | refine wpS_pos (by simpa using he) ?_ | rw [if_pos (by simpa using he)]
            refine wpS_pure ⟨?_, _, rfl⟩
            show some _ = _
            rw [so_end1 he]
          · first | refine wpS_neg (by simpa using he) ?_ | rw [if_neg (by simpa using he)]
            refine wpS_bind (so_elem hy0 (wpS_bind (so_gallop (t := b.size - (ib + 1)) (by omega) (by omega) (so_bey_hi C (ha _ hy0') fun i hi => ?_) ?_)))
            · obtain ⟨z, hz, hz'⟩ := so_get (b := b) (i := ib + 1 + i) (by omega)
              exact ⟨z, hz, hb _ hz', by have := hab _ hy0' _ hz'; omega⟩
            dsimp only
            rw [if_pos (by omega), if_pos (by simp; omega)]
            refine wpS_pure ⟨?_, _, rfl⟩
            show some _ = _
            rw [show ib + 1 + (b.size - (ib + 1)) = b.size by omega]
            simp [show max (ib + 1) b.size = b.size by omega]
theorem so_pushr {a : Array Keyed} {i : Nat} {x : Keyed} (h0 : 0 < i) (h : a[i - 1]? = some x) : (a.extract i).reverse.push x = (a.extract (i - 1)).reverse := by
  obtain ⟨hi, e⟩ := Array.getElem?_eq_some_iff.mp h
  apply Array.toList_inj.mp
  simp only [Array.toList_push, Array.toList_reverse, Array.toList_extract, List.extract_eq_take_drop]
  have e1 : a.toList.drop (i - 1) = x :: a.toList.drop i := by
    have := List.drop_eq_getElem_cons (l := a.toList) (i := i - 1) (by simpa using hi)
    rw [this, show i - 1 + 1 = i by omega]
    congr 1
  rw [e1, show a.size - (i - 1) = (a.size - i) + 1 by omega, List.take_succ_cons, List.reverse_cons]
theorem so_cut {a : Array Keyed} {k : Nat} : a.extract 0 k ++ a.extract k = a := by
  apply Array.toList_inj.mp
  simp only [Array.toList_append, Array.toList_extract, List.extract_eq_take_drop, List.drop_zero, Nat.sub_zero]
  rw [List.take_of_length_le (l := a.toList.drop k) (by simp), List.take_append_drop]
theorem so_mergeHi {it : List Keyed} (C : CmpOk prog w A s κ kf it) {a b : Array Keyed} {arr : Array Keyed} {p : Array (Nat × Nat × Nat)} {g : Nat} {f : Option Value} {Q : Array Keyed → SortSt → Prop}
    (ha : ∀ x ∈ a.toList, x ∈ it) (hb : ∀ x ∈ b.toList, x ∈ it) (hab : ∀ x ∈ a.toList, ∀ y ∈ b.toList, kf y < kf x) (ha0 : 0 < a.size) (hb0 : 0 < b.size) (hg : 1 ≤ g)
    (h : ∀ g', Q (b ++ a) (SortSt.mk' κ arr p g' f)) : wpS (model prog w) A E s (mergeHi' a b) Q (SortSt.mk' κ arr p g f) := by
  show wpS _ _ _ _ ((sortPriv% PySem.Builtin.mergeHi) a b) Q _
  show wpS _ _ _ _ (_ >>= _) Q _
  dsimp only
  refine wpS_bind (wpS_lift (wpAny_rule ⟨rfl, ?_⟩))
  obtain ⟨x0, hx0, hx0'⟩ := so_get (b := b) (i := b.size - 1) (by omega)
  obtain ⟨y0, hy0, hy0'⟩ := so_get (b := a) (i := a.size - 1) (by omega)
  refine wpS_bind (so_elem hy0 ?_)
  have e0 : #[y0] = (a.extract (a.size - 1)).reverse := by
    rw [← so_pushr (i := a.size) (by omega) hy0]; simp
  rw [e0]
  by_cases h1 : a.size - 1 = 0
  · first | refine wpS_pos (by simpa using h1) ?_ | rw [if_pos (by simpa using h1)]
    refine wpS_pure ?_
    rw [h1]
    simpa using h g
  first | refine wpS_neg (by simpa using h1) ?_ | rw [if_neg (by simpa using h1)]
  by_cases h2 : b.size = 1
  · first | refine wpS_pos (by simpa using h2) ?_ | rw [if_pos (by simpa using h2)]
    refine wpS_pure ?_
    rw [Array.reverse_reverse, Array.append_assoc, so_cut]
    simpa using h g
  first | refine wpS_neg (by simpa using h2) ?_ | rw [if_neg (by simpa using h2)]
  refine wpS_bind (wpS_get ?_)
  refine wpS_bind (wpS_mono (wpS_forRange (I := fun x c st' => x = 0 ∧ c = (none, a.size - 1, b.size, (a.extract (a.size - 1)).reverse, g) ∧ st' = SortSt.mk' κ arr p g f)
    (Q := fun c st' => c.1 = some (b ++ a) ∧ ∃ g', st' = SortSt.mk' κ arr p g' f) ?step ?fin ⟨rfl, rfl, rfl⟩) ?post)
  case fin =>
    rintro c st' ⟨hx, _⟩
    omega
  case post =>
    rintro ⟨c1, c2⟩ st' ⟨rfl, g', rfl⟩
    exact wpS_pure (h g')
  case step =>
    rintro x c st' _ hx ⟨rfl, rfl, rfl⟩
    dsimp only
    refine wpS_bind (wpS_mono (wpS_forRange (I := fun x c st' => ∃ na ac, c = (none, na, b.size, (a.extract na).reverse, ac, 0) ∧ 0 < na ∧ na < a.size ∧ st' = SortSt.mk' κ arr p g f)
      (Q := fun c st' => (c.1 = some (b ++ a) ∨ ∃ na ac bc, c = (none, na, b.size, (a.extract na).reverse, ac, bc) ∧ 0 < na ∧ na < a.size) ∧ st' = SortSt.mk' κ arr p g f) ?istep ?ifin ⟨a.size - 1, 0, rfl, by omega, by omega, rfl⟩) ?ipost)
    case ifin =>
      rintro c st' ⟨na, ac, rfl, h3, h4, rfl⟩
      exact ⟨.inr ⟨na, ac, 0, rfl, h3, h4⟩, rfl⟩
    case istep =>
      rintro x c st' _ _ ⟨na, ac, rfl, h3, h4, rfl⟩
      dsimp only
      obtain ⟨xa, hxa, hxa'⟩ := so_get (b := a) (i := na - 1) (by omega)
      refine wpS_bind (so_elem hx0 (wpS_bind (so_elem hxa (wpS_bind (so_lt C (hb _ hx0') (ha _ hxa') ?_)))))
      simp only [hab _ hxa' _ hx0', decide_true, if_true]
      refine wpS_bind (so_elem hxa ?_)
      rw [so_pushr h3 hxa]
      by_cases he : na - 1 = 0
      · first | refine wpS_pos (by simpa using he) ?_ | rw [if_pos (by simpa using he)]
        refine wpS_pure ⟨.inl ?_, rfl⟩
        show some _ = _
        rw [he]
        simp
      · first | refine wpS_neg (by simpa using he) ?_ | rw [if_neg (by simpa using he)]
        by_cases hm : ac + 1 ≥ g
        · first | refine wpS_pos hm ?_ | rw [if_pos hm]
          exact wpS_pure ⟨.inr ⟨_, _, _, rfl, by omega, by omega⟩, rfl⟩
        · first | refine wpS_neg hm ?_ | rw [if_neg hm]
          exact wpS_pure ⟨_, _, rfl, by omega, by omega, rfl⟩
    case ipost =>
      rintro ⟨c1, c2⟩ st' ⟨hc, rfl⟩
      rcases hc with rfl | ⟨na, ac, bc, hc, h3, h4⟩
      · exact wpS_pure ⟨rfl, g, rfl⟩
      · obtain ⟨rfl, rfl⟩ := Prod.mk.inj hc
        dsimp only
        refine wpS_bind (wpS_lift (wpAny_rule ⟨rfl, ?_⟩))
        refine wpS_bind (wpS_mono (wpS_forRange (I := fun x c st' => x = 0 ∧ c = (none, na, b.size, (a.extract na).reverse, g + 1, ac, bc) ∧ st' = SortSt.mk' κ arr p g f)
          (Q := fun c st' => c.1 = some (b ++ a) ∧ ∃ g', st' = SortSt.mk' κ arr p g' f) ?jstep ?jfin ⟨rfl, rfl, rfl⟩) ?jpost)
        case jfin =>
          rintro c st' ⟨hx, _⟩
          omega
        case jpost =>
          rintro ⟨c1, c2⟩ st' ⟨rfl, g', rfl⟩
          exact wpS_pure ⟨rfl, g', rfl⟩
        case jstep =>
          rintro x c st' _ _ ⟨rfl, rfl, rfl⟩
          dsimp only
          first | refine wpS_pos (by omega) ?_ | rw [if_pos (by omega)]
          refine wpS_bind (so_setMin (wpS_bind (so_elem hx0 (wpS_bind (so_gallop (t := 0) (by omega) (by omega) (so_bey_lo C (hb _ hx0') fun i hi => ?_) ?_)))))
          · obtain ⟨z, hz, hz'⟩ := so_get (b := a) (i := 0 + i) (by omega)
            exact ⟨z, hz, ha _ hz', by have := hab _ hz' _ hx0'; omega⟩
          dsimp only
          rw [if_pos (by omega), if_pos (by decide)]
          refine wpS_pure ⟨?_, _, rfl⟩
          show some _ = _
          simp [show max na a.size = a.size by omega]
theorem so_write : ∀ (xs : List Keyed) (o n : Nat) (arr : Array Keyed), o + n + xs.length ≤ arr.size →
    ((xs.zipIdx n).foldl (fun a x => a.setIfInBounds (o + x.2) x.1) arr).toList = arr.toList.take (o + n) ++ xs ++ arr.toList.drop (o + n + xs.length)
  | [], o, n, arr, _ => by simp
  | x :: r, o, n, arr, h => by
    simp only [List.length_cons] at h
    rw [List.zipIdx_cons, List.foldl_cons, so_write r o (n + 1) _ (by rw [Array.size_setIfInBounds]; omega)]
    simp only [Array.toList_setIfInBounds, List.length_cons]
    have hl : o + n < arr.toList.length := by rw [Array.length_toList]; omega
    rw [show o + (n + 1) = o + n + 1 by omega, show o + n + 1 + r.length = o + n + (r.length + 1) by omega]
    rw [List.drop_set_of_lt (by omega)]
    rw [List.take_add_one, List.getElem?_set_self hl, List.take_set_of_le (Nat.le_refl _)]
    simp
/-- A's items between B's first q and the others -/
noncomputable def soW (A B : List Keyed) (q : Nat) : List Keyed := B.take q ++ A ++ B.drop q
theorem soW_get {A B : List Keyed} {q : Nat} (hq : q ≤ B.length) (i : Nat) : (soW A B q)[i]? = if i < q then B[i]? else if i < q + A.length then A[i - q]? else B[i - A.length]? := by
  unfold soW
  rw [List.getElem?_append, List.getElem?_append, List.length_append, List.length_take, Nat.min_eq_left hq]
  by_cases h1 : i < q
  · rw [if_pos (by omega), if_pos h1, if_pos h1, List.getElem?_take_of_lt h1]
  · by_cases h2 : i < q + A.length
    · rw [if_pos h2, if_neg h1, if_neg h1, if_pos h2]
    · rw [if_neg h2, if_neg h1, if_neg h2, List.getElem?_drop, show q + (i - (q + A.length)) = i - A.length by omega]
theorem wpS_set {σ : Type} {M : Model} {st st' : σ} {Q : PUnit → σ → Prop} (h : Q ⟨⟩ st') : wpS M A E s (set st' : StateT σ Sem PUnit) Q st := by
  unfold wpS; rw [StateT.run_set]; exact wpAny_pure ⟨rfl, h⟩
theorem so_two {α : Type} (x y z : α) : (#[x, y].setIfInBounds 0 z).eraseIdxIfInBounds (0 + 1) = #[z] := by
  simp [Array.eraseIdxIfInBounds]
theorem so_mergeAt {it Al B : List Keyed} (C : CmpOk prog w A s κ kf it) {q pw g : Nat} {Q : Bool → SortSt → Prop}
    (ha : ∀ x ∈ Al, x ∈ it) (hb : ∀ x ∈ B, x ∈ it) (hab : ∀ x ∈ Al, ∀ y ∈ B, kf y < kf x) (hB : ∀ (i j : Nat) (x y : Keyed), B[i]? = some x → B[j]? = some y → i < j → kf x < kf y) (hq : q < B.length) (ha0 : 0 < Al.length) (hg : 1 ≤ g)
    (h : ∀ g', Q true (SortSt.mk' κ (B ++ Al).toArray #[(0, q + Al.length + (B.length - q), pw)] g' none)) :
    wpS (model prog w) A E s (mergeAt' 0) Q (SortSt.mk' κ (soW Al B q).toArray #[(0, q + Al.length, pw), (q + Al.length, B.length - q, 0)] g none) := by
  show wpS _ _ _ _ ((sortPriv% PySem.Builtin.mergeAt) 0) Q _
  show wpS _ _ _ _ (_ >>= _) Q _
  dsimp only
  refine wpS_bind (wpS_get ?_)
  have hW := soW_get (A := Al) (B := B) (q := q) (by omega)
  have hWa : ∀ i : Nat, (soW Al B q).toArray[i]? = (soW Al B q)[i]? := fun i => List.getElem?_toArray
  obtain ⟨key, hkey⟩ : ∃ key, B[q]? = some key := ⟨B[q], by simp [hq]⟩
  have hkm : key ∈ B := List.mem_of_getElem? hkey
  refine wpS_bind (wpS_set ?_)
  show wpS _ _ _ _ _ Q (SortSt.mk' κ (soW Al B q).toArray ((#[(0, q + Al.length, pw), (q + Al.length, B.length - q, 0)].setIfInBounds 0 (0, q + Al.length + (B.length - q), pw)).eraseIdxIfInBounds (0 + 1)) g none)
  rw [so_two]
  have hkW : (soW Al B q).toArray[q + Al.length]? = some key := by
    rw [hWa, hW, if_neg (by omega), if_neg (by omega), show q + Al.length - Al.length = q by omega, hkey]
  refine wpS_bind (so_elem hkW ?_)
  refine wpS_bind (so_gallop (t := q) (by omega) (by omega) (so_bey_lo C (hb _ hkm) fun i hi => ?_) ?_)
  · rw [Nat.zero_add, hWa, hW]
    by_cases h1 : i < q
    · first | refine wpS_pos h1 ?_ | rw [if_pos h1]
      obtain ⟨x, hx⟩ : ∃ x, B[i]? = some x := ⟨B[i], by simp⟩
      refine ⟨x, hx, hb _ (List.mem_of_getElem? hx), ?_⟩
      have := hB _ _ _ _ hx hkey h1
      omega
    · rw [if_neg h1, if_pos hi]
      obtain ⟨x, hx⟩ : ∃ x, Al[i - q]? = some x := ⟨Al[i - q], by simp⟩
      refine ⟨x, hx, ha _ (List.mem_of_getElem? hx), ?_⟩
      have := hab _ (List.mem_of_getElem? hx) _ hkm
      omega
  dsimp only
  first | refine wpS_neg (by rw [beq_iff_eq]; omega) ?_ | rw [if_neg (by rw [beq_iff_eq]; omega)]
  obtain ⟨key2, hkey2⟩ : ∃ x, Al[Al.length - 1]? = some x := ⟨Al[Al.length - 1], by simp⟩
  have hkm2 := List.mem_of_getElem? hkey2
  have hkW2 : (soW Al B q).toArray[0 + q + (q + Al.length - q) - 1]? = some key2 := by
    rw [hWa, hW, if_neg (by omega), if_pos (by omega), show 0 + q + (q + Al.length - q) - 1 - q = Al.length - 1 by omega, hkey2]
  refine wpS_bind (so_elem hkW2 ?_)
  refine wpS_bind (so_gallop (t := B.length - q) (by omega) (by omega) (so_bey_hi C (ha _ hkm2) fun i hi => ?_) ?_)
  · rw [hWa, hW, if_neg (by omega), if_neg (by omega), show q + Al.length + i - Al.length = q + i by omega]
    obtain ⟨x, hx⟩ : ∃ x, B[q + i]? = some x := ⟨B[q + i], by simp⟩
    refine ⟨x, hx, hb _ (List.mem_of_getElem? hx), ?_⟩
    have := hab _ hkm2 _ (List.mem_of_getElem? hx)
    omega
  dsimp only
  first | refine wpS_neg (by rw [beq_iff_eq]; omega) ?_ | rw [if_neg (by rw [beq_iff_eq]; omega)]
  have hx1 : (soW Al B q).toArray.extract (0 + q) (q + Al.length) = Al.toArray := by
    apply Array.toList_inj.mp
    simp only [Array.toList_extract, List.extract_eq_take_drop, soW]
    rw [List.append_assoc, List.drop_append_of_le_length (by rw [List.length_take]; omega), List.drop_of_length_le (by rw [List.length_take]; omega), List.nil_append,
      List.take_append_of_le_length (by omega), List.take_of_length_le (by omega)]
  have hx2 : (soW Al B q).toArray.extract (q + Al.length) (q + Al.length + (B.length - q)) = (B.drop q).toArray := by
    apply Array.toList_inj.mp
    simp only [Array.toList_extract, List.extract_eq_take_drop, soW]
    rw [List.drop_append_of_le_length (by rw [List.length_append, List.length_take]; omega), List.drop_of_length_le (by rw [List.length_append, List.length_take]; omega), List.nil_append,
      List.take_of_length_le (by rw [List.length_drop]; omega)]
  rw [hx1, hx2]
  have fin : ∀ g', wpS (model prog w) A E s (do
      modify fun st => setArr st ((((B.drop q).toArray ++ Al.toArray).toList.zipIdx).foldl (fun a x => a.setIfInBounds (0 + q + x.2) x.1) (arrOf st))
      let d ← get
      pure (failedOf d).isNone) Q (SortSt.mk' κ (soW Al B q).toArray #[(0, q + Al.length + (B.length - q), pw)] g' none) := by
    intro g'
    refine wpS_bind (wpS_modify (wpS_bind (wpS_get (wpS_pure ?_))))
    have hl : (soW Al B q).length = Al.length + B.length := by unfold soW; simp; omega
    have e : ((((B.drop q).toArray ++ Al.toArray).toList.zipIdx).foldl (fun a x => a.setIfInBounds (0 + q + x.2) x.1) (soW Al B q).toArray) = (B ++ Al).toArray := by
      apply Array.toList_inj.mp
      rw [so_write _ _ _ _ (by simp; omega)]
      simp only [Array.toList_append, List.length_append, List.length_drop]
      have hd : List.drop (0 + q + 0 + (B.length - q + Al.length)) (soW Al B q) = [] := List.drop_of_length_le (by rw [hl]; omega)
      rw [hd, List.append_nil, show 0 + q + 0 = q by omega]
      unfold soW
      rw [List.append_assoc (List.take q B), List.take_append_of_le_length (by rw [List.length_take]; omega), List.take_of_length_le (by rw [List.length_take]; omega), ← List.append_assoc, List.take_append_drop]
    show Q _ (SortSt.mk' κ _ _ _ _)
    rw [show arrOf (SortSt.mk' κ (soW Al B q).toArray #[(0, q + Al.length + (B.length - q), pw)] g' none) = (soW Al B q).toArray from rfl, e]
    exact h g'
  by_cases hle : q + Al.length - q ≤ B.length - q
  · first | refine wpS_pos hle ?_ | rw [if_pos hle]
    refine wpS_bind (so_mergeLo C (by simpa using ha) (fun x hx => hb x (List.mem_of_mem_drop (by simpa using hx))) (fun x hx y hy => hab x (by simpa using hx) y (List.mem_of_mem_drop (by simpa using hy))) (by simpa using ha0) (by simp; omega) hg fun g' => fin g')
  · first | refine wpS_neg hle ?_ | rw [if_neg hle]
    refine wpS_bind (so_mergeHi C (by simpa using ha) (fun x hx => hb x (List.mem_of_mem_drop (by simpa using hx))) (fun x hx y hy => hab x (by simpa using hx) y (List.mem_of_mem_drop (by simpa using hy))) (by simpa using ha0) (by simp; omega) hg fun g' => fin g')
end
section
variable {prog : Program} {w : World} {A : Around} {E : Value → Shared → Prop} {s : Shared} {κ : SortKind} {kf : Keyed → Int}
/-- a run that rises from lo on, m items long -/
theorem so_count {it l : List Keyed} (C : CmpOk prog w A s κ kf it) (hl : ∀ x ∈ l, x ∈ it) {lo nrem m : Nat} {p : Array (Nat × Nat × Nat)} {g : Nat} {f : Option Value} {Q : Option Nat → SortSt → Prop}
    (hn : lo + nrem ≤ l.length) (h1 : 1 ≤ m) (hm : m ≤ nrem) (h2 : m = nrem ∨ 2 ≤ m) (hr : ∀ (i j : Nat) (x y : Keyed), i < j → j < m → l[lo + i]? = some x → l[lo + j]? = some y → kf x < kf y)
    (he : m < nrem → ∀ (x y : Keyed), l[lo + m]? = some x → l[lo + m - 1]? = some y → kf x < kf y) (h : Q (some m) (SortSt.mk' κ l.toArray p g f)) :
    wpS (model prog w) A E s (countRun' lo nrem) Q (SortSt.mk' κ l.toArray p g f) := by
  have get : ∀ i, i < l.length → ∃ x, l[i]? = some x ∧ l.toArray[i]? = some x ∧ x ∈ it := fun i hi => ⟨l[i], by simp [hi], by simp [hi], hl _ (by simp)⟩
  rw [countRun'_eq]
  refine wpS_bind (wpS_mono (wpS_forRange (I := fun x c st' => c = (none, x) ∧ 1 ≤ x ∧ x ≤ m ∧ st' = SortSt.mk' κ l.toArray p g f) (Q := fun c st' => c = (none, m) ∧ st' = SortSt.mk' κ l.toArray p g f) ?step ?fin ⟨rfl, by omega, h1, rfl⟩) ?post)
  case fin =>
    rintro c st' ⟨rfl, hx1, hx2, rfl⟩
    exact ⟨by rw [show max 1 nrem = m by omega], rfl⟩
  case step =>
    rintro x c st' _ hx ⟨rfl, hx1, hx2, rfl⟩
    dsimp only
    obtain ⟨a, a1, a2, a3⟩ := get (lo + x) (by omega)
    obtain ⟨b, b1, b2, b3⟩ := get (lo + x - 1) (by omega)
    refine wpS_bind (so_ltAt C a2 b2 a3 b3 ?_)
    by_cases hxm : x < m
    · have hlt := hr (x - 1) x b a (by omega) hxm (by rw [show lo + (x - 1) = lo + x - 1 by omega]; exact b1) a1
      have : ¬ kf a < kf b := by omega
      simp only [this, decide_false, Bool.false_eq_true, if_false]
      exact wpS_pure ⟨rfl, by omega, by omega, rfl⟩
    · have hxe : x = m := by omega
      subst hxe
      have := he (by omega) a b a1 b1
      simp only [this, decide_true, if_true]
      exact wpS_pure ⟨rfl, rfl⟩
  case post =>
    rintro c st' ⟨rfl, rfl⟩
    dsimp only
    by_cases hmn : m = nrem
    · first | refine wpS_pos (by simpa using hmn) ?_ | rw [if_pos (by simpa using hmn)]
      exact wpS_pure h
    · rw [if_neg (by simpa using hmn), if_pos (by omega)]
      obtain ⟨a, a1, a2, a3⟩ := get lo (by omega)
      obtain ⟨b, b1, b2, b3⟩ := get (lo + m - 1) (by omega)
      refine wpS_bind (so_ltAt C a2 b2 a3 b3 ?_)
      have := hr 0 (m - 1) a b (by omega) (by omega) a1 (by rw [show lo + (m - 1) = lo + m - 1 by omega]; exact b1)
      simp only [this, decide_true, if_true]
      exact wpS_pure h
theorem so_countOne {it B : List Keyed} (C : CmpOk prog w A s κ kf it) {a : Keyed} {p : Array (Nat × Nat × Nat)} {g : Nat} {f : Option Value} {Q : Option Nat → SortSt → Prop}
    (ha : a ∈ it) (hb : ∀ x ∈ B, x ∈ it) (hab : ∀ y ∈ B, kf y < kf a) (hB : ∀ (i j : Nat) (x y : Keyed), B[i]? = some x → B[j]? = some y → i < j → kf x < kf y) (hB0 : 0 < B.length)
    (h : Q (some 2) (SortSt.mk' κ (soW [a] B 1).toArray p g f)) :
    wpS (model prog w) A E s (countRun' 0 (1 + B.length)) Q (SortSt.mk' κ (soW [a] B 0).toArray p g f) := by
  rw [countRun0_eq]
  obtain ⟨b0, r, rfl⟩ : ∃ b0 r, B = b0 :: r := by
    match B, hB0 with
    | b0 :: r, _ => exact ⟨b0, r, rfl⟩
  have e0 : soW [a] (b0 :: r) 0 = a :: b0 :: r := by simp [soW]
  have e1 : soW [a] (b0 :: r) 1 = b0 :: a :: r := by simp [soW]
  rw [e0]; rw [e1] at h
  have hlt : kf b0 < kf a := hab b0 (.head _)
  unfold ascLoop
  refine wpS_bind (wpS_mono (wpS_forRange (I := fun x c st' => x = 1 ∧ c = (none, 1) ∧ st' = SortSt.mk' κ (a :: b0 :: r).toArray p g f) (Q := fun c st' => c = (none, 1) ∧ st' = SortSt.mk' κ (a :: b0 :: r).toArray p g f) ?step ?fin ⟨rfl, rfl, rfl⟩) ?post)
  case fin =>
    rintro c st' ⟨hx, rfl, rfl⟩
    exact ⟨rfl, rfl⟩
  case step =>
    rintro x c st' _ hx ⟨rfl, rfl, rfl⟩
    dsimp only
    refine wpS_bind (so_ltAt (x := b0) (y := a) C (by simp) (by simp) (hb _ (.head _)) ha ?_)
    simp only [hlt, decide_true, if_true]
    exact wpS_pure ⟨rfl, rfl⟩
  case post =>
    rintro c st' ⟨rfl, rfl⟩
    dsimp only
    rw [if_neg (by simp), if_neg (by decide)]
    unfold descPart
    refine wpS_bind (wpS_lift (wpAny_rule ⟨rfl, ?_⟩))
    unfold descLoop
    refine wpS_bind (wpS_mono (wpS_forRange (I := fun x c st' => x = 2 ∧ c = (none, 2, 0) ∧ st' = SortSt.mk' κ (a :: b0 :: r).toArray p g f) (Q := fun c st' => c = (none, 2, 0) ∧ st' = SortSt.mk' κ (a :: b0 :: r).toArray p g f) ?dstep ?dfin ⟨rfl, rfl, rfl⟩) ?dpost)
    case dfin =>
      rintro c st' ⟨hx, rfl, rfl⟩
      exact ⟨rfl, rfl⟩
    case dstep =>
      rintro x c st' _ hx ⟨rfl, rfl, rfl⟩
      dsimp only
      obtain ⟨b1, r', rfl⟩ : ∃ b1 r', r = b1 :: r' := by
        match r, hx with
        | [], hx => simp at hx
        | b1 :: r', _ => exact ⟨b1, r', rfl⟩
      have h01 := hB 0 1 b0 b1 rfl rfl (by omega)
      refine wpS_bind (so_ltAt (x := b1) (y := b0) C (by simp) (by simp) (hb _ (.tail _ (.head _))) (hb _ (.head _)) ?_)
      simp only [show ¬ kf b1 < kf b0 by omega, decide_false, Bool.false_eq_true, if_false]
      refine wpS_bind (so_ltAt (x := b0) (y := b1) C (by simp) (by simp) (hb _ (.head _)) (hb _ (.tail _ (.head _))) ?_)
      simp only [h01, decide_true, if_true]
      exact wpS_pure ⟨rfl, rfl⟩
    case dpost =>
      rintro c st' ⟨rfl, rfl⟩
      dsimp only
      first | refine wpS_neg (by decide) ?_ | rw [if_neg (by decide)]
      unfold tail3
      refine wpS_bind (wpS_reverse ?_)
      have em : mirror (a :: b0 :: r).toArray 0 2 ((2 - 0) / 2) = (b0 :: a :: r).toArray := by
        apply Array.toList_inj.mp
        show (Array.swapIfInBounds (a :: b0 :: r).toArray 0 1).toList = _
        simp [Array.swapIfInBounds, Array.swap]
      show wpS _ _ _ _ _ _ (SortSt.mk' κ (mirror (a :: b0 :: r).toArray 0 2 ((2 - 0) / 2)) p g f)
      rw [em]
      unfold ascLoop
      refine wpS_bind (wpS_mono (wpS_forRange (I := fun x c st' => x = 2 ∧ c = (none, 2) ∧ st' = SortSt.mk' κ (b0 :: a :: r).toArray p g f) (Q := fun c st' => c = (none, 2) ∧ st' = SortSt.mk' κ (b0 :: a :: r).toArray p g f) ?astep ?afin ⟨rfl, rfl, rfl⟩) ?apost)
      case afin =>
        rintro c st' ⟨hx, rfl, rfl⟩
        exact ⟨rfl, rfl⟩
      case astep =>
        rintro x c st' _ hx ⟨rfl, rfl, rfl⟩
        dsimp only
        obtain ⟨b1, r', rfl⟩ : ∃ b1 r', r = b1 :: r' := by
          match r, hx with
          | [], hx => simp at hx
          | b1 :: r', _ => exact ⟨b1, r', rfl⟩
        refine wpS_bind (so_ltAt (x := b1) (y := a) C (by simp) (by simp) (hb _ (.tail _ (.head _))) ha ?_)
        simp only [hab b1 (.tail _ (.head _)), decide_true, if_true]
        exact wpS_pure ⟨rfl, rfl⟩
      case apost =>
        rintro c st' ⟨rfl, rfl⟩
        exact wpS_pure h
end
section
variable {prog : Program} {w : World} {A : Around} {E : Value → Shared → Prop} {s : Shared} {κ : SortKind} {kf : Keyed → Int}
theorem soW_length {Al B : List Keyed} {q : Nat} : (soW Al B q).length = Al.length + B.length := by unfold soW; simp; omega
theorem so_bubble {Al B : List Keyed} {j : Nat} (hj : j < B.length) : bubble (soW Al B j).toArray (j + Al.length) (j + Al.length - j) = (soW Al B (j + 1)).toArray := by
  apply Array.toList_inj.mp
  apply List.ext_getElem?
  intro i
  have hs : j + Al.length < (soW Al B j).toArray.size := by rw [List.size_toArray, soW_length]; omega
  have e := getElem?_bubble hs (j + Al.length - j) (by omega) i
  rw [Array.getElem?_toList, e]
  simp only [List.getElem?_toArray]
  rw [soW_get (by omega), soW_get (by omega), soW_get (by omega), soW_get (by omega)]
  repeat' split
  all_goals first | rfl | (exfalso; omega) | (congr 1; omega)
theorem so_bin {it Al B : List Keyed} (C : CmpOk prog w A s κ kf it) {q n ok : Nat} {p : Array (Nat × Nat × Nat)} {g : Nat} {f : Option Value} {Q : Bool → SortSt → Prop}
    (ha : ∀ x ∈ Al, x ∈ it) (hb : ∀ x ∈ B, x ∈ it) (hab : ∀ x ∈ Al, ∀ y ∈ B, kf y < kf x) (hB : ∀ (i j : Nat) (x y : Keyed), B[i]? = some x → B[j]? = some y → i < j → kf x < kf y)
    (ha0 : 0 < Al.length) (hok : ok = q + Al.length) (hn : n ≤ Al.length + B.length) (hkn : ok ≤ n)
    (h : Q true (SortSt.mk' κ (soW Al B (n - Al.length)).toArray p g f)) : wpS (model prog w) A E s (binarySort' 0 n ok) Q (SortSt.mk' κ (soW Al B q).toArray p g f) := by
  rw [binarySort'_eq]
  simp only [Nat.zero_add]
  refine wpS_bind (wpS_mono (wpS_forRange (I := fun k c st' => c = (none, ()) ∧ Al.length ≤ k ∧ st' = SortSt.mk' κ (soW Al B (k - Al.length)).toArray p g f)
    (Q := fun c st' => c = (none, ()) ∧ st' = SortSt.mk' κ (soW Al B (n - Al.length)).toArray p g f) ?step ?fin ⟨rfl, by omega, by rw [show max ok 1 - Al.length = q by omega]⟩) ?post)
  case fin =>
    rintro c st' ⟨rfl, hk, rfl⟩
    exact ⟨rfl, by rw [show max (max ok 1) n = n by omega]⟩
  case post =>
    rintro c st' ⟨rfl, rfl⟩
    exact wpS_pure h
  case step =>
    rintro k c st' hk1 hk2 ⟨rfl, hk, rfl⟩
    obtain ⟨j, rfl⟩ : ∃ j, k = j + Al.length := ⟨k - Al.length, by omega⟩
    rw [show j + Al.length - Al.length = j by omega]
    have hj : j < B.length := by omega
    have hW : ∀ i : Nat, (soW Al B j).toArray[i]? = if i < j then B[i]? else if i < j + Al.length then Al[i - j]? else B[i - Al.length]? := fun i => by
      rw [List.getElem?_toArray]; exact soW_get (by omega) i
    obtain ⟨key, hkey⟩ : ∃ key, B[j]? = some key := ⟨B[j], by simp [hj]⟩
    have hkm : key ∈ B := List.mem_of_getElem? hkey
    have hkW : (soW Al B j).toArray[j + Al.length]? = some key := by
      rw [hW, if_neg (by omega), if_neg (by omega), show j + Al.length - Al.length = j by omega, hkey]
    refine wpS_bind (wpS_mono (wpS_forRange (I := fun x c st'' => st'' = SortSt.mk' κ (soW Al B j).toArray p g f ∧ ∃ l r, c = (none, l, r) ∧ l ≤ j ∧ j ≤ r ∧ r ≤ j + Al.length ∧ r - l ≤ j + Al.length - x)
      (Q := fun c st'' => st'' = SortSt.mk' κ (soW Al B j).toArray p g f ∧ ∃ r, c = (none, j, r)) ?istep ?ifin ⟨rfl, 0, j + Al.length, rfl, by omega, by omega, by omega, by omega⟩) ?ipost)
    case ifin =>
      rintro c st'' ⟨rfl, l, r, rfl, g1, g2, g3, g4⟩
      exact ⟨rfl, r, by rw [show l = j by omega]⟩
    case istep =>
      rintro x c st'' _ hx ⟨rfl, l, r, rfl, g1, g2, g3, g4⟩
      dsimp only
      by_cases hge : l ≥ r
      · first | refine wpS_pos hge ?_ | rw [if_pos hge]
        exact wpS_pure ⟨rfl, r, by rw [show l = j by omega]⟩
      · first | refine wpS_neg hge ?_ | rw [if_neg hge]
        by_cases hm : (l + r) / 2 < j
        · obtain ⟨x, hx⟩ : ∃ x, B[(l + r) / 2]? = some x := ⟨B[(l + r) / 2], by simp⟩
          have hxW : (soW Al B j).toArray[(l + r) / 2]? = some x := by rw [hW, if_pos hm, hx]
          refine wpS_bind (so_ltAt C hkW hxW (hb _ hkm) (hb _ (List.mem_of_getElem? hx)) ?_)
          have := hB _ _ _ _ hx hkey hm
          simp only [show ¬ kf key < kf x by omega, decide_false, Bool.false_eq_true, if_false]
          exact wpS_pure ⟨rfl, _, _, rfl, by omega, by omega, by omega, by omega⟩
        · obtain ⟨x, hx⟩ : ∃ x, Al[(l + r) / 2 - j]? = some x := ⟨Al[(l + r) / 2 - j], by simp⟩
          have hxW : (soW Al B j).toArray[(l + r) / 2]? = some x := by rw [hW, if_neg hm, if_pos (by omega), hx]
          refine wpS_bind (so_ltAt C hkW hxW (hb _ hkm) (ha _ (List.mem_of_getElem? hx)) ?_)
          simp only [hab _ (List.mem_of_getElem? hx) _ hkm, decide_true, if_true]
          exact wpS_pure ⟨rfl, _, _, rfl, by omega, by omega, by omega, by omega⟩
    case ipost =>
      rintro c st'' ⟨rfl, r, rfl⟩
      show wpS _ _ _ _ (do moveDown' (j + Al.length) j; pure (ForInStep.yield (none, ()))) _ _
      rw [moveDown'_eq]
      refine wpS_bind (wpS_modify (wpS_pure ⟨rfl, by omega, ?_⟩))
      show SortSt.mk' κ (bubble (soW Al B j).toArray (j + Al.length) (j + Al.length - j)) p g f = _
      rw [so_bubble hj, show j + Al.length + 1 - Al.length = j + 1 by omega]
theorem so_binNone {lo n : Nat} {st : SortSt} {Q : Bool → SortSt → Prop} (h1 : 1 ≤ n) (h : Q true st) : wpS (model prog w) A E s (binarySort' lo n n) Q st := by
  rw [binarySort'_eq]
  refine wpS_bind (wpS_mono (wpS_forRange (I := fun k c st' => k = n ∧ c = (none, ()) ∧ st' = st) (Q := fun c st' => c = (none, ()) ∧ st' = st) ?step ?fin ⟨by omega, rfl, rfl⟩) ?post)
  case step =>
    rintro k c st' _ hk ⟨rfl, _⟩
    omega
  case fin =>
    rintro c st' ⟨_, rfl, rfl⟩
    exact ⟨rfl, rfl⟩
  case post =>
    rintro c st' ⟨rfl, rfl⟩
    exact wpS_pure h
theorem so_minRun : ∀ (fuel n r : Nat), 1 ≤ n → 1 ≤ minRun' fuel n r ∧ minRun' fuel n r ≤ n + r
  | 0, n, r, h => ⟨by show 1 ≤ n + r; omega, Nat.le_refl _⟩
  | fuel + 1, n, r, h => by
    rw [minRun'_succ]
    by_cases h64 : n < 64
    · rw [if_pos h64]; omega
    · first | refine wpS_neg h64 ?_ | rw [if_neg h64]
      have := so_minRun fuel (n / 2) (max r (n % 2)) (by omega)
      omega
theorem so_first {it Al B : List Keyed} (C : CmpOk prog w A s κ kf it) {p : Array (Nat × Nat × Nat)} {g : Nat} {f : Option Value} {Q : Option Nat → SortSt → Prop}
    (ha : ∀ x ∈ Al, x ∈ it) (hb : ∀ x ∈ B, x ∈ it) (hab : ∀ x ∈ Al, ∀ y ∈ B, kf y < kf x) (hB : ∀ (i j : Nat) (x y : Keyed), B[i]? = some x → B[j]? = some y → i < j → kf x < kf y)
    (hA : ∀ (i j : Nat) (x y : Keyed), Al[i]? = some x → Al[j]? = some y → i < j → kf x < kf y) (ha0 : 0 < Al.length)
    (h : ∀ q, q ≤ B.length → Q (some (q + Al.length)) (SortSt.mk' κ (soW Al B q).toArray p g f)) : wpS (model prog w) A E s (countRun' 0 (Al.length + B.length)) Q (SortSt.mk' κ (soW Al B 0).toArray p g f) := by
  by_cases h1 : Al.length = 1 ∧ 0 < B.length
  · obtain ⟨a, rfl⟩ := List.length_eq_one_iff.mp h1.1
    exact so_countOne C (ha _ (.head _)) hb (fun y hy => hab a (.head _) y hy) hB h1.2 (h 1 (by omega))
  · have hl : ∀ x ∈ soW Al B 0, x ∈ it := by
      intro x hx
      unfold soW at hx
      rcases List.mem_append.mp hx with hx | hx
      · rcases List.mem_append.mp hx with hx | hx
        · exact hb _ (List.mem_of_mem_take hx)
        · exact ha _ hx
      · exact hb _ (List.mem_of_mem_drop hx)
    refine so_count (m := Al.length) C hl (by rw [soW_length]; omega) ha0 (by omega) (by omega) ?_ ?_ (by have := h 0 (by omega); rwa [Nat.zero_add] at this)
    · intro i j x y hij hj hx hy
      rw [soW_get (by omega), if_neg (by omega), if_pos (by omega)] at hx hy
      exact hA _ _ _ _ hx hy (by omega)
    · intro hm x y hx hy
      rw [soW_get (by omega), if_neg (by omega), if_neg (by omega)] at hx
      rw [soW_get (by omega), if_neg (by omega), if_pos (by omega)] at hy
      exact hab _ (List.mem_of_getElem? hy) _ (List.mem_of_getElem? hx)
/-- one rising block, or two of which the second is the smaller: the sort lays the second ahead of the first -/
theorem so_runs {it Al B : List Keyed} (C : CmpOk prog w A s κ kf it) {Q : Unit → SortSt → Prop}
    (ha : ∀ x ∈ Al, x ∈ it) (hb : ∀ x ∈ B, x ∈ it) (hab : ∀ x ∈ Al, ∀ y ∈ B, kf y < kf x) (hB : ∀ (i j : Nat) (x y : Keyed), B[i]? = some x → B[j]? = some y → i < j → kf x < kf y)
    (hA : ∀ (i j : Nat) (x y : Keyed), Al[i]? = some x → Al[j]? = some y → i < j → kf x < kf y) (ha0 : 0 < Al.length) (h2 : 2 ≤ Al.length + B.length)
    (h : ∀ p g, Q () (SortSt.mk' κ (B ++ Al).toArray p g none)) : wpS (model prog w) A E s sortRuns' Q (SortSt.mk' κ (Al ++ B).toArray #[] 7 none) := by
  have hit : ∀ q, ∀ x ∈ soW Al B q, x ∈ it := by
    intro q x hx
    unfold soW at hx
    rcases List.mem_append.mp hx with hx | hx
    · rcases List.mem_append.mp hx with hx | hx
      · exact hb _ (List.mem_of_mem_take hx)
      · exact ha _ hx
    · exact hb _ (List.mem_of_mem_drop hx)
  have e0 : Al ++ B = soW Al B 0 := by simp [soW]
  have eN : B ++ Al = soW Al B B.length := by simp [soW]
  rw [sortRuns'_eq]
  refine wpS_bind (wpS_get ?_)
  have hsz : (arrOf (SortSt.mk' κ (Al ++ B).toArray #[] 7 none)).size = Al.length + B.length := by show (Al ++ B).toArray.size = _; simp
  dsimp only
  simp only [hsz]
  have hmr := so_minRun (Al.length + B.length) (Al.length + B.length) 0 (by omega)
  generalize hM : minRun' (Al.length + B.length) (Al.length + B.length) 0 = M at *
  rw [e0]
  refine wpS_bind (wpS_mono (wpS_forRange
    (I := fun x c st' => (x = 0 ∧ c = (none, 0) ∧ st' = SortSt.mk' κ (soW Al B 0).toArray #[] 7 none) ∨
      (x = 1 ∧ ∃ q, q ≤ B.length ∧ c = (none, q + Al.length) ∧ st' = SortSt.mk' κ (soW Al B q).toArray #[(0, q + Al.length, 0)] 7 none) ∨
      (∃ q pw, q < B.length ∧ c = (none, Al.length + B.length) ∧ st' = SortSt.mk' κ (soW Al B q).toArray #[(0, q + Al.length, pw), (q + Al.length, B.length - q, 0)] 7 none))
    (Q := fun c st' => c = (none, Al.length + B.length) ∧ ((∃ p, st' = SortSt.mk' κ (soW Al B B.length).toArray #[p] 7 none) ∨
      (∃ q pw, q < B.length ∧ st' = SortSt.mk' κ (soW Al B q).toArray #[(0, q + Al.length, pw), (q + Al.length, B.length - q, 0)] 7 none))) ?step ?fin (.inl ⟨rfl, rfl, rfl⟩)) ?post)
  case fin =>
    rintro c st' (⟨hx, _⟩ | ⟨hx, _⟩ | ⟨q, pw, hq, rfl, rfl⟩)
    · omega
    · omega
    · exact ⟨rfl, .inr ⟨q, pw, hq, rfl⟩⟩
  case step =>
    rintro x c st' _ hx (⟨rfl, rfl, rfl⟩ | ⟨rfl, q, hq, rfl, rfl⟩ | ⟨q, pw, hq, rfl, rfl⟩)
    · dsimp only
      first | refine wpS_neg (by omega) ?_ | rw [if_neg (by omega)]
      simp only [Nat.sub_zero, Nat.zero_add]
      refine wpS_bind (so_first C ha hb hab hB hA ha0 fun q hq => ?_)
      dsimp only
      by_cases hlt : q + Al.length < M
      · first | refine wpS_pos hlt ?_ | rw [if_pos hlt]
        refine wpS_bind (wpS_lift (wpAny_rule ⟨rfl, ?_⟩))
        refine wpS_bind (so_bin C ha hb hab hB ha0 rfl (by omega) (by omega) ?_)
        simp only [Bool.not_true, Bool.false_eq_true, if_false]
        refine wpS_bind (wpS_get ?_)
        rw [show (pendingOf (SortSt.mk' κ (soW Al B (min (Al.length + B.length) M - Al.length)).toArray #[] 7 none)).back? = none from rfl]
        dsimp only
        refine wpS_bind (wpS_modify (wpS_pure (.inr (.inl ⟨trivial, min (Al.length + B.length) M - Al.length, by omega, ?_, ?_⟩))))
        · rw [show min (Al.length + B.length) M - Al.length + Al.length = min (Al.length + B.length) M by omega]
        · rw [show min (Al.length + B.length) M - Al.length + Al.length = min (Al.length + B.length) M by omega]; rfl
      · first | refine wpS_neg hlt ?_ | rw [if_neg hlt]
        refine wpS_bind (wpS_get ?_)
        rw [show (pendingOf (SortSt.mk' κ (soW Al B q).toArray #[] 7 none)).back? = none from rfl]
        dsimp only
        exact wpS_bind (wpS_modify (wpS_pure (.inr (.inl ⟨trivial, q, hq, rfl, rfl⟩))))
    · dsimp only
      by_cases hge : q + Al.length ≥ Al.length + B.length
      · first | refine wpS_pos hge ?_ | rw [if_pos hge]
        have hqe : q = B.length := by omega
        subst hqe
        exact wpS_pure ⟨by rw [Nat.add_comm], .inl ⟨_, rfl⟩⟩
      · first | refine wpS_neg hge ?_ | rw [if_neg hge]
        rw [show Al.length + B.length - (q + Al.length) = B.length - q by omega]
        have inner : ∀ (pw : Nat) (R : (Option Unit × Unit) → SortSt → Prop) (body : Nat → (Option Unit × Unit) → StateT SortSt Sem (ForInStep (Option Unit × Unit))),
            (∀ x c st, st = SortSt.mk' κ (soW Al B q).toArray #[(0, q + Al.length, 0)] 7 none → c = (none, ()) → wpS (model prog w) A E s (body x c) (fun r st' => r = .done (none, ()) ∧ st' = st) st) → R (none, ()) (SortSt.mk' κ (soW Al B q).toArray #[(0, q + Al.length, 0)] 7 none) →
            wpS (model prog w) A E s (forIn [:Al.length + B.length] (none, ()) body) R (SortSt.mk' κ (soW Al B q).toArray #[(0, q + Al.length, 0)] 7 none) := by
          intro pw R body hbody hR
          refine wpS_forRange (I := fun x c st' => c = (none, ()) ∧ st' = SortSt.mk' κ (soW Al B q).toArray #[(0, q + Al.length, 0)] 7 none) ?_ ?_ ⟨rfl, rfl⟩
          · rintro x c st' _ _ ⟨rfl, rfl⟩
            refine wpS_mono (hbody x _ _ rfl rfl) ?_
            rintro r st' ⟨rfl, rfl⟩
            exact hR
          · rintro c st' ⟨rfl, rfl⟩
            exact hR
        refine wpS_bind (so_count (m := B.length - q) C (hit q) (by rw [soW_length]; omega) (by omega) (by omega) (.inl rfl) ?_ (fun hm => by omega) ?_)
        · intro i j x y hij hj hx hy
          rw [soW_get (by omega), if_neg (by omega), if_neg (by omega)] at hx hy
          exact hB _ _ _ _ hx hy (by omega)
        dsimp only
        by_cases hlt : B.length - q < M
        · first | refine wpS_pos hlt ?_ | rw [if_pos hlt]
          refine wpS_bind (wpS_lift (wpAny_rule ⟨rfl, ?_⟩))
          rw [show min (B.length - q) M = B.length - q by omega]
          refine wpS_bind (so_binNone (by omega) ?_)
          simp only [Bool.not_true, Bool.false_eq_true, if_false]
          refine wpS_bind (wpS_get ?_)
          rw [show (pendingOf (SortSt.mk' κ (soW Al B q).toArray #[(0, q + Al.length, 0)] 7 none)).back? = some (0, q + Al.length, 0) from rfl]
          dsimp only
          refine wpS_bind (inner 0 _ _ ?_ ?_)
          · rintro x c st rfl rfl
            refine wpS_bind (wpS_get ?_)
            first | refine wpS_neg (by exact (by decide : ¬ 1 > 1)) ?_ | rw [if_neg (by exact (by decide : ¬ 1 > 1))]
            exact wpS_pure ⟨rfl, rfl⟩
          · dsimp only
            refine wpS_bind (wpS_modify (wpS_bind (wpS_modify (wpS_pure (.inr (.inr ⟨q, _, by omega, ?_, rfl⟩))))))
            rw [show q + Al.length + (B.length - q) = Al.length + B.length by omega]
        · first | refine wpS_neg hlt ?_ | rw [if_neg hlt]
          refine wpS_bind (wpS_get ?_)
          rw [show (pendingOf (SortSt.mk' κ (soW Al B q).toArray #[(0, q + Al.length, 0)] 7 none)).back? = some (0, q + Al.length, 0) from rfl]
          dsimp only
          refine wpS_bind (inner 0 _ _ ?_ ?_)
          · rintro x c st rfl rfl
            refine wpS_bind (wpS_get ?_)
            first | refine wpS_neg (by exact (by decide : ¬ 1 > 1)) ?_ | rw [if_neg (by exact (by decide : ¬ 1 > 1))]
            exact wpS_pure ⟨rfl, rfl⟩
          · dsimp only
            refine wpS_bind (wpS_modify (wpS_bind (wpS_modify (wpS_pure (.inr (.inr ⟨q, _, by omega, ?_, rfl⟩))))))
            rw [show q + Al.length + (B.length - q) = Al.length + B.length by omega]
    · dsimp only
      first | refine wpS_pos (by omega) ?_ | rw [if_pos (by omega)]
      exact wpS_pure ⟨rfl, .inr ⟨q, pw, hq, rfl⟩⟩
  case post =>
    rintro c st' ⟨rfl, hst⟩
    dsimp only
    refine wpS_bind (wpS_mono (wpS_forRange
      (I := fun x c st'' => c = (none, ()) ∧ ((∃ p g, st'' = SortSt.mk' κ (B ++ Al).toArray #[p] g none) ∨
        (x = 0 ∧ ∃ q pw, q < B.length ∧ st'' = SortSt.mk' κ (soW Al B q).toArray #[(0, q + Al.length, pw), (q + Al.length, B.length - q, 0)] 7 none)))
      (Q := fun c st'' => c = (none, ()) ∧ ∃ p g, st'' = SortSt.mk' κ (B ++ Al).toArray #[p] g none) ?fstep ?ffin ⟨rfl, ?finit⟩) ?fpost)
    case finit =>
      rcases hst with ⟨p, rfl⟩ | ⟨q, pw, hq, rfl⟩
      · exact .inl ⟨p, 7, by rw [eN]⟩
      · exact .inr ⟨rfl, q, pw, hq, rfl⟩
    case ffin =>
      rintro c st'' ⟨rfl, hh | ⟨hx, _⟩⟩
      · exact ⟨rfl, hh⟩
      · omega
    case fpost =>
      rintro c st'' ⟨rfl, p, g, rfl⟩
      exact wpS_pure (h _ _)
    case fstep =>
      rintro x c st'' _ _ ⟨rfl, ⟨p, g, rfl⟩ | ⟨rfl, q, pw, hq, rfl⟩⟩
      · refine wpS_bind (wpS_get ?_)
        first | refine wpS_pos (by exact Nat.le_refl 1) ?_ | rw [if_pos (by exact Nat.le_refl 1)]
        exact wpS_pure ⟨rfl, p, g, rfl⟩
      · refine wpS_bind (wpS_get ?_)
        first | refine wpS_neg (by exact (by decide : ¬ 2 ≤ 1)) ?_ | rw [if_neg (by exact (by decide : ¬ 2 ≤ 1))]
        refine wpS_bind (so_mergeAt C ha hb hab hB hq ha0 (by decide) fun g' => ?_)
        simp only [Bool.not_true, Bool.false_eq_true, if_false]
        exact wpS_pure ⟨rfl, .inl ⟨_, g', rfl⟩⟩
end
/-- a tuple of two ints -/
noncomputable def IsPair (h : Heap) (v : Value) (p : Int × Int) : Prop := ∃ a o n t u, v = .ref a ∧ h.get? a = some o ∧ o.cls = .type "tuple" ∧ o.data = .seq #[.int p.1 t, .int p.2 u] n
noncomputable def PairsAt (h : Heap) (vs : List Value) (ps : List (Int × Int)) : Prop := vs.length = ps.length ∧ ∀ (i : Nat) (v : Value) (p : Int × Int), vs[i]? = some v → ps[i]? = some p → IsPair h v p
noncomputable def Rises (ps : List (Int × Int)) : Prop := ∀ (i j : Nat) (p q : Int × Int), ps[i]? = some p → ps[j]? = some q → i < j → p.1 < q.1
/-- the first int of a tuple of two -/
noncomputable def placeOf (h : Heap) (x : Keyed) : Int := match x.1 with
  | .ref a => (match h.get? a with
    | some o => (match o.data with
      | .seq xs _ => numOf (xs.getD 0 .none)
      | _ => 0)
    | none => 0)
  | _ => 0
theorem IsPair.place {h : Heap} {v : Value} {p : Int × Int} (x : IsPair h v p) (y : Value) : placeOf h (v, y) = p.1 := by
  obtain ⟨a, o, n, t, u, rfl, ho, hc, hd⟩ := x
  unfold placeOf
  simp only [ho, hd]
  rfl
section
variable {prog : Program} {w : World} {A : Around} {E : Value → Shared → Prop} {s : Shared}
theorem pair_lt {x y : Value} {p q : Int × Int} (hx : IsPair s.heap x p) (hy : IsPair s.heap y q) (hpq : p.1 = q.1 → p.2 = q.2) {Q : Bool → Shared → Prop} (h : Q (decide (p.1 < q.1)) s) :
    wpAny (model prog w) A (keyLt' (tuples' true) x y) Q E s := by
  obtain ⟨a, o, n, t, u, rfl, ho, hc, hd⟩ := hx
  obtain ⟨a', o', n', t', u', rfl, ho', hc', hd'⟩ := hy
  refine kat_lt ho hd ho' hd' ?_
  refine kat_cons (wpAny_eqBool_int ?_)
  by_cases e : p.1 = q.1
  · rw [show (p.1 == q.1) = true by simpa using e]
    refine kat_yes (kat_cons (wpAny_eqBool_int ?_))
    rw [show (p.2 == q.2) = true by simpa using hpq e]
    refine kat_yes (kat_nil ?_)
    have : decide (p.1 < q.1) = false := by simp; omega
    rw [this] at h
    exact h
  · rw [show (p.1 == q.1) = false by simpa using e]
    exact kat_no (oneLt_int h)
noncomputable abbrev keyed (vs : List Value) : List Keyed := vs.map fun v => (v, v)
theorem keyed_zip (vs : List Value) : vs.toArray.zip vs.toArray = (keyed vs).toArray := by
  apply Array.toList_inj.mp
  simp only [Array.toList_zip]
  induction vs with
  | nil => rfl
  | cons v r ih => simpa [keyed] using ih
theorem keyed_get {vs : List Value} {i : Nat} {x : Keyed} (h : (keyed vs)[i]? = some x) : ∃ v, vs[i]? = some v ∧ x = (v, v) := by
  rw [List.getElem?_map] at h
  cases e : vs[i]? with
  | none => rw [e] at h; cases h
  | some v => rw [e] at h; exact ⟨v, rfl, (Option.some.inj h).symm⟩
theorem PairsAt.get {h : Heap} {vs : List Value} {ps : List (Int × Int)} (H : PairsAt h vs ps) {i : Nat} {v : Value} (hv : vs[i]? = some v) : ∃ p, ps[i]? = some p ∧ IsPair h v p := by
  obtain ⟨hi, _⟩ := List.getElem?_eq_some_iff.mp hv
  have hi' : i < ps.length := by rw [← H.1]; exact hi
  exact ⟨ps[i], by simp [hi'], H.2 i v _ hv (by simp [hi'])⟩
theorem PairsAt.left {h : Heap} {va vb : List Value} {pa pb : List (Int × Int)} (H : PairsAt h (va ++ vb) (pa ++ pb)) (hl : va.length = pa.length) : PairsAt h va pa := by
  refine ⟨hl, fun i v p hv hp => H.2 i v p ?_ ?_⟩
  · rw [List.getElem?_append_left (List.getElem?_eq_some_iff.mp hv).1]; exact hv
  · rw [List.getElem?_append_left (List.getElem?_eq_some_iff.mp hp).1]; exact hp
theorem PairsAt.right {h : Heap} {va vb : List Value} {pa pb : List (Int × Int)} (H : PairsAt h (va ++ vb) (pa ++ pb)) (hl : va.length = pa.length) : PairsAt h vb pb := by
  refine ⟨by have := H.1; simp at this; omega, fun i v p hv hp => H.2 (va.length + i) v p ?_ ?_⟩
  · rw [List.getElem?_append_right (by omega), Nat.add_sub_cancel_left]; exact hv
  · rw [hl, List.getElem?_append_right (by omega), Nat.add_sub_cancel_left]; exact hp
theorem rises_le {ps : List (Int × Int)} (hr : Rises ps) {i j : Nat} {p q : Int × Int} (hp : ps[i]? = some p) (hq : ps[j]? = some q) (e : p.1 = q.1) : p = q := by
  rcases Nat.lt_trichotomy i j with h | h | h
  · have := hr i j p q hp hq h; omega
  · subst h; rw [hp] at hq; exact Option.some.inj hq
  · have := hr j i q p hq hp h; omega
theorem pairs_cmp {va vb : List Value} {pa pb : List (Int × Int)} (H : PairsAt s.heap (va ++ vb) (pa ++ pb)) (hl : va.length = pa.length) (ha : Rises pa) (hb : Rises pb) (hab : ∀ p ∈ pa, ∀ q ∈ pb, q.1 < p.1) :
    CmpOk prog w A s (tuples' true) (placeOf s.heap) (keyed (va ++ vb)) := by
  have key : ∀ x ∈ keyed (va ++ vb), ∃ v p, x = (v, v) ∧ IsPair s.heap v p ∧ ((∃ i : Nat, pa[i]? = some p) ∨ (∃ i : Nat, pb[i]? = some p)) := by
    intro x hx
    obtain ⟨i, hi⟩ := List.getElem?_of_mem hx
    obtain ⟨v, hv, rfl⟩ := keyed_get hi
    obtain ⟨p, hp, hpp⟩ := H.get hv
    refine ⟨v, p, rfl, hpp, ?_⟩
    rcases List.mem_append.mp (List.mem_of_getElem? hp) with hm | hm
    · exact .inl (List.getElem?_of_mem hm)
    · exact .inr (List.getElem?_of_mem hm)
  intro x hx y hy Q E hQ
  obtain ⟨v, p, rfl, hp, hpi⟩ := key x hx
  obtain ⟨v', p', rfl, hp', hpi'⟩ := key y hy
  rw [hp.place, hp'.place] at hQ
  refine pair_lt hp hp' (fun e => ?_) hQ
  have : p = p' := by
    rcases hpi with ⟨i, hi⟩ | ⟨i, hi⟩ <;> rcases hpi' with ⟨j, hj⟩ | ⟨j, hj⟩
    · exact rises_le ha hi hj e
    · have := hab _ (List.mem_of_getElem? hi) _ (List.mem_of_getElem? hj); omega
    · have := hab _ (List.mem_of_getElem? hj) _ (List.mem_of_getElem? hi); omega
    · exact rises_le hb hi hj e
  rw [this]
/-- what the sort's run does with the pairs of two blocks -/
theorem pairs_runs {va vb : List Value} {pa pb : List (Int × Int)} (H : PairsAt s.heap (va ++ vb) (pa ++ pb)) (hl : va.length = pa.length) (ha : Rises pa) (hb : Rises pb) (hab : ∀ p ∈ pa, ∀ q ∈ pb, q.1 < p.1)
    (ha0 : 0 < va.length) (h2 : 2 ≤ (va ++ vb).length) {Q : Unit → SortSt → Prop} (h : ∀ p g, Q () (SortSt.mk' (tuples' true) (keyed (vb ++ va)).toArray p g none)) :
    wpS (model prog w) A E s sortRuns' Q (SortSt.mk' (tuples' true) ((va ++ vb).toArray.zip (va ++ vb).toArray) #[] 7 none) := by
  have HA := H.left hl
  have HB := H.right hl
  have get : ∀ {vs : List Value} {ps : List (Int × Int)}, PairsAt s.heap vs ps → ∀ x ∈ keyed vs, ∃ p ∈ ps, placeOf s.heap x = p.1 := by
    intro vs ps HP x hx
    obtain ⟨i, hi⟩ := List.getElem?_of_mem hx
    obtain ⟨v, hv, rfl⟩ := keyed_get hi
    obtain ⟨p, hp, hpp⟩ := HP.get hv
    exact ⟨p, List.mem_of_getElem? hp, hpp.place _⟩
  have rise : ∀ {vs : List Value} {ps : List (Int × Int)}, PairsAt s.heap vs ps → Rises ps → ∀ (i j : Nat) (x y : Keyed), (keyed vs)[i]? = some x → (keyed vs)[j]? = some y → i < j → placeOf s.heap x < placeOf s.heap y := by
    intro vs ps HP hr i j x y hx hy hij
    obtain ⟨v, hv, rfl⟩ := keyed_get hx
    obtain ⟨v', hv', rfl⟩ := keyed_get hy
    obtain ⟨p, hp, hpp⟩ := HP.get hv
    obtain ⟨p', hp', hpp'⟩ := HP.get hv'
    rw [hpp.place, hpp'.place]
    exact hr i j p p' hp hp' hij
  rw [keyed_zip, show keyed (va ++ vb) = keyed va ++ keyed vb from List.map_append ..]
  refine so_runs (pairs_cmp H hl ha hb hab) (fun x hx => ?_) (fun x hx => ?_) ?_ (rise HB hb) (rise HA ha) (by simpa using ha0) (by simpa using h2) fun p g => ?_
  · rw [show keyed (va ++ vb) = keyed va ++ keyed vb from List.map_append ..]; exact List.mem_append_left _ hx
  · rw [show keyed (va ++ vb) = keyed va ++ keyed vb from List.map_append ..]; exact List.mem_append_right _ hx
  · intro x hx y hy
    obtain ⟨p, hp, e⟩ := get HA x hx
    obtain ⟨q, hq, e'⟩ := get HB y hy
    rw [e, e']
    exact hab p hp q hq
  · have := h p g
    rwa [show keyed (vb ++ va) = keyed vb ++ keyed va from List.map_append ..] at this
theorem PairsAt.keeps {h h' : Heap} {vs : List Value} {ps : List (Int × Int)} (H : PairsAt h vs ps) (k : ∀ (v : Value) (a : Addr) (o : Obj), v ∈ vs → v = .ref a → h.get? a = some o → h'.get? a = some o) : PairsAt h' vs ps := by
  refine ⟨H.1, fun i v p hv hp => ?_⟩
  obtain ⟨a, o, n, t, u, rfl, ho, r⟩ := H.2 i v p hv hp
  exact ⟨a, o, n, t, u, rfl, k _ a o (List.mem_of_getElem? hv) rfl ho, r⟩
theorem pairs_tups {h : Heap} : ∀ {vs : List Value} {ps : List (Int × Int)}, PairsAt h vs ps → ∃ fs, KatTups h vs fs ∧ fs.length = vs.length ∧ ∀ f ∈ fs, ∃ x t, f = Value.int x t := by
  intro vs
  induction vs with
  | nil => intro ps _; exact ⟨[], KatTups.nil, rfl, fun f hf => nomatch hf⟩
  | cons v r ih =>
    intro ps H
    obtain ⟨p, hp, a, o, n, t, u, rfl, ho, hc, hd⟩ := H.get (i := 0) (v := v) rfl
    have H' : PairsAt h r ps.tail := ⟨by have := H.1; simp at this; simp; omega, fun i v p hv hp => H.2 (i + 1) v p hv (by rw [← hp]; cases ps <;> rfl)⟩
    obtain ⟨fs, k, e, q⟩ := ih H'
    exact ⟨.int p.1 t :: fs, KatTups.cons ho hc hd rfl k, by simp [e], fun f hf => by
      rcases List.mem_cons.mp hf with rfl | hf
      · exact ⟨_, _, rfl⟩
      · exact q f hf⟩
theorem pairs_kind {vs : List Value} {ps : List (Int × Int)} (H : PairsAt s.heap vs ps) (h0 : 0 < vs.length) {Q : SortKind → Shared → Prop} (h : Q (tuples' true) s) : wpAny (model prog w) A (keyKind' vs.toArray) Q E s := by
  obtain ⟨fs, k, e, q⟩ := pairs_tups H
  refine kat_kind (T := .type "int") k (by omega) (fun v hv => ?_) (by decide) ?_
  · obtain ⟨x, t, rfl⟩ := q v hv
    exact Looks.of_pure rfl
  · have : ((Value.type "int") != Value.type "tuple") = true := by decide
    rw [this]; exact h
end
section
variable {prog : Program} {w : World} {A : Around} {E : Value → Shared → Prop} {s : Shared} {h₀ : Heap} {L a : Addr} {m : Str → Option Value} {news : List (Addr × Obj)}
theorem pairs_list_sort {va vb : List Value} {pa pb : List (Int × Int)} {n : Nat} {P : PySem.Fin → Shared → Prop} (F : Fr h₀ L s.heap m) (N : News h₀ L s.heap news) (ho : s.heap.get? a = some (seqObj "list" (va ++ vb).toArray n)) (haL : a ≠ L) (ha0 : h₀.get? a = none) (hna : ∀ p ∈ news, p.1 ≠ a)
    (hz : (va ++ vb).length ≤ 128) (H : PairsAt s.heap (va ++ vb) (pa ++ pb)) (hl : va.length = pa.length) (ha : Rises pa) (hb : Rises pb) (hab : ∀ p ∈ pa, ∀ q ∈ pb, q.1 < p.1) (h0 : 0 < va.length ∨ vb = [])
    (hva : ∀ v ∈ va ++ vb, v ≠ .ref a)
    (h : ∀ h' c, Fr h₀ L h' m → News h₀ L h' ((a, listOf (vb ++ va).toArray c) :: news) → P (.done (.ret .none)) { s with heap := h' }) :
    wpAny (model prog w) A (Builtin.«list.sort» ⟨[.ref a], []⟩) P E s := by
  have hlt : a < s.heap.objs.size := Heap.lt_size ho
  have s1 := Heap.SameBut.update s.heap a (Obj.mapSeq fun _ => (#[] : Array Value))
  obtain ⟨e1, ho1⟩ : ∃ e1, (s.heap.update a (Obj.mapSeq fun _ => (#[] : Array Value))).get? a = some (seqObj "list" #[] e1) := ⟨_, get?_update_seq ho fun _ => #[]⟩
  have F3 : Fr h₀ L (((s.heap.update a (Obj.mapSeq fun _ => (#[] : Array Value))).push (seqObj "tuple" (va ++ vb).toArray 0)).push (seqObj "list" #[] 0)) m := ((kas_fr F s1 haL ha0).push _).push _
  have N2 : News h₀ L (((s.heap.update a (Obj.mapSeq fun _ => (#[] : Array Value))).push (seqObj "tuple" (va ++ vb).toArray 0)).push (seqObj "list" #[] 0)) news :=
    (kas_news N s1 hna).grown fun b x e => Heap.get?_push_of_some _ (Heap.get?_push_of_some _ e)
  have ho3 : (((s.heap.update a (Obj.mapSeq fun _ => (#[] : Array Value))).push (seqObj "tuple" (va ++ vb).toArray 0)).push (seqObj "list" #[] 0)).get? a = some (seqObj "list" #[] e1) := Heap.get?_push_of_some _ (Heap.get?_push_of_some _ ho1)
  have H3 : PairsAt (((s.heap.update a (Obj.mapSeq fun _ => (#[] : Array Value))).push (seqObj "tuple" (va ++ vb).toArray 0)).push (seqObj "list" #[] 0)) (va ++ vb) (pa ++ pb) := by
    refine H.keeps fun v b o hv hvb hb => ?_
    have hne : b ≠ a := fun e => hva v hv (by rw [hvb, e])
    exact Heap.get?_push_of_some _ (Heap.get?_push_of_some _ ((s1.2 b hne).trans hb))
  generalize hH3 : (((s.heap.update a (Obj.mapSeq fun _ => (#[] : Array Value))).push (seqObj "tuple" (va ++ vb).toArray 0)).push (seqObj "list" #[] 0)) = h3 at *
  rw [list_sort_plain]
  refine wpAny_bind (listItems_at ho rfl ?_)
  refine wpAny_bind (listUpdate_at ho rfl ?_ (by rw [List.size_toArray, sizeLine_eq]; omega) (Nat.zero_le _))
  refine wpAny_bind (seqEpoch_at ho1 rfl ?_)
  refine wpAny_bind (wpAny_newTuple ?_ (by show (va ++ vb).length ≤ _; rw [sizeLine_eq]; omega))
  refine wpAny_bind (wpAny_newList ?_ (Nat.zero_le _))
  refine wpAny_holding ?_
  show wpAny (model prog w) A _ P E { s with heap := ((s.heap.update a (Obj.mapSeq fun _ => (#[] : Array Value))).push (seqObj "tuple" (va ++ vb).toArray 0)).push (seqObj "list" #[] 0) }
  rw [hH3]
  dsimp only
  have fin : ∀ out : List Value, out = vb ++ va → P (.done (.ret .none)) { s with heap := h3.update a (Obj.mapSeq fun _ => out.toArray) } := by
    rintro out rfl
    have s2 := Heap.SameBut.update h3 a (Obj.mapSeq fun _ => (vb ++ va).toArray)
    obtain ⟨c2, hc2⟩ : ∃ c2, (h3.update a (Obj.mapSeq fun _ => (vb ++ va).toArray)).get? a = some (seqObj "list" (vb ++ va).toArray c2) := ⟨_, get?_update_seq ho3 fun _ => (vb ++ va).toArray⟩
    refine h _ c2 (kas_fr F3 s2 haL ha0) fun p hp => ?_
    rcases List.mem_cons.mp hp with rfl | hp
    · exact ⟨hc2, haL, ha0⟩
    · exact kas_news N2 s2 hna p hp
  have hsz2 : ∀ out : List Value, out.length ≤ 128 → out.toArray.size ≤ sizeLine := fun out ho => by rw [List.size_toArray, sizeLine_eq]; omega
  by_cases h2 : (va ++ vb).toArray.size < 2
  · rw [if_pos h2, if_pos h2]
    refine wpAny_bind (wpAny_pure ?_)
    rw [StateT.run_pure]
    refine wpAny_bind (wpAny_pure ?_)
    dsimp only
    refine wpAny_bind (seqEpoch_at ho3 rfl ?_)
    have e : (arrOf (SortSt.mk' general' ((va ++ vb).toArray.zip (va ++ vb).toArray) #[] 7 none)).map (·.2) = (va ++ vb).toArray := by
      show ((va ++ vb).toArray.zip (va ++ vb).toArray).map (·.2) = _
      rw [keyed_zip]; simp [keyed, Function.comp_def]
    rw [e]
    refine wpAny_bind (listUpdate_at ho3 rfl ?_ (Nat.zero_le _) (Nat.le_succ_of_le (hsz2 _ hz)))
    simp only [bne_self_eq_false, Bool.false_eq_true, if_false]
    refine wpAny_pure (fin _ ?_)
    rw [List.size_toArray, List.length_append] at h2
    rcases h0 with h0 | h0
    · have : vb = [] := List.length_eq_zero_iff.mp (by omega)
      rw [this]; simp
    · rw [h0]; simp
  · rw [if_neg h2, if_neg h2]
    have h2' : 2 ≤ (va ++ vb).length := by rw [List.size_toArray] at h2; omega
    have hva0 : 0 < va.length := by
      rcases h0 with h0 | h0
      · exact h0
      · rw [h0, List.append_nil] at h2'; omega
    refine wpAny_bind (pairs_kind H3 (by omega) ?_)
    refine wpAny_bind (wpAny_mono (pairs_runs (s := { s with heap := h3 }) (Q := fun _ st' => (arrOf st').map (·.2) = (vb ++ va).toArray ∧ failedOf st' = none) H3 hl ha hb hab hva0 h2' ?_) ?_ fun _ _ e => e)
    · intro p g
      refine ⟨?_, rfl⟩
      show (keyed (vb ++ va)).toArray.map (·.2) = _
      simp [keyed, Function.comp_def]
    rintro ⟨⟨⟩, st'⟩ s' ⟨rfl, hout, hf⟩
    dsimp only
    refine wpAny_bind (seqEpoch_at ho3 rfl ?_)
    rw [hout]
    refine wpAny_bind (listUpdate_at ho3 rfl ?_ (Nat.zero_le _) (Nat.le_succ_of_le (hsz2 (vb ++ va) (by simp at hz ⊢; omega))))
    rw [hf]
    simp only [bne_self_eq_false, Bool.false_eq_true, if_false]
    exact wpAny_pure (fin _ rfl)
theorem pairs_sorted {l : Addr} {va vb : List Value} {pa pb : List (Int × Int)} {Q : Value → Shared → Prop} (F : Fr h₀ L s.heap m) (N : News h₀ L s.heap news) (hl0 : s.heap.IsList l (va ++ vb).toArray)
    (hz : (va ++ vb).length ≤ 128) (H : PairsAt s.heap (va ++ vb) (pa ++ pb)) (hl : va.length = pa.length) (ha : Rises pa) (hb : Rises pb) (hab : ∀ p ∈ pa, ∀ q ∈ pb, q.1 < p.1) (h0 : 0 < va.length ∨ vb = [])
    (h : ∀ D c h', Fr h₀ L h' m → News h₀ L h' ((D, listOf (vb ++ va).toArray c) :: news) → (∀ q ∈ news, q.1 < D) → Q (.ref D) { s with heap := h' }) :
    wpAny (model prog w) A (call (.builtin "sorted") [.ref l]) Q E s := by
  refine Calls.call_function_entry kind_sorted plain_sorted entry_sorted (args_sorted1 _) ?_
  unfold Builtin.«sorted»
  refine wpAny_bind (m := checkCount "sorted" 1 1 _) (wpAny_pure ?_)
  refine wpAny_bind (collect_list hl0 ?_ (by rw [sizeLine_eq]; omega))
  refine wpAny_bind (wpAny_newList ?_ (by rw [sizeLine_eq]; simp at hz ⊢; omega))
  generalize hvs : va ++ vb = vs at *
  have hsz : ((s.heap.push (seqObj "list" #[] 0)).update s.heap.objs.size (Obj.mapSeq (· ++ vs.toArray))).objs.size = s.heap.objs.size + 1 := by
    rw [Heap.size_update, size_push']
  have hoL : (((s.heap.push (seqObj "list" #[] 0)).update s.heap.objs.size (Obj.mapSeq (· ++ vs.toArray))).push (seqObj "list" vs.toArray 0)).get? (s.heap.objs.size + 1) = some (seqObj "list" vs.toArray 0) := by
    rw [← hsz]; exact Heap.get?_push_size _ rfl
  have keep : ∀ b o, s.heap.get? b = some o → (((s.heap.push (seqObj "list" #[] 0)).update s.heap.objs.size (Obj.mapSeq (· ++ vs.toArray))).push (seqObj "list" vs.toArray 0)).get? b = some o := fun b o q => by
    have hlt : b < s.heap.objs.size := Heap.lt_size q
    rw [Heap.get?_push_ne _ _ _ (by rw [hsz]; exact Nat.ne_of_lt (Nat.lt_succ_of_lt hlt)), Heap.get?_update_ne _ _ _ _ (Nat.ne_of_lt hlt), Heap.get?_push_ne _ _ _ (Nat.ne_of_lt hlt)]
    exact q
  have hL : L < s.heap.objs.size := F.ns.lt
  show wpAny _ _ _ _ _ { s with heap := ((s.heap.push (seqObj "list" #[] 0)).update s.heap.objs.size (Obj.mapSeq (· ++ vs.toArray))).push (seqObj "list" vs.toArray 0) }
  rw [hsz]
  refine wpAny_bind (wpAny_holding (wpAny_call_entry slot_list_sort ⟨_, hoL, rfl⟩ entry_list_sort ?body (args_list_sort _)))
  case body =>
    have hH : PairsAt (((s.heap.push (seqObj "list" #[] 0)).update s.heap.objs.size (Obj.mapSeq (· ++ vs.toArray))).push (seqObj "list" vs.toArray 0)) vs (pa ++ pb) := H.keeps fun _ b o _ _ e => keep b o e
    have hva : ∀ v ∈ vs, v ≠ .ref (s.heap.objs.size + 1) := by
      rintro v hv rfl
      obtain ⟨i, hi⟩ := List.getElem?_of_mem hv
      obtain ⟨p, hp, b, o, n, t, u, e, ho, _⟩ := H.get hi
      have := Heap.lt_size ho
      have e2 := Value.ref.inj e
      rw [← e2] at this
      exact Nat.not_lt.mpr (Nat.le_succ _) this
    subst hvs
    refine pairs_list_sort (s := { s with heap := ((s.heap.push (seqObj "list" #[] 0)).update s.heap.objs.size (Obj.mapSeq (· ++ (va ++ vb).toArray))).push (seqObj "list" (va ++ vb).toArray 0) })
      (F.kept keep) (N.grown keep) hoL (Nat.ne_of_gt (Nat.lt_succ_of_lt hL)) (Heap.get?_none_of_le (Nat.le_trans F.above (Nat.le_succ_of_le (Nat.le_of_lt hL))))
      (fun p hp => Nat.ne_of_lt (Nat.lt_succ_of_lt (Heap.lt_size (N p hp).1))) hz hH hl ha hb hab h0 hva fun h' c F' N' => ?_
    exact ⟨_, rfl, wpAny_pure ⟨_, rfl, h _ c h' F' N' fun q hq => Nat.lt_succ_of_lt (Heap.lt_size (N q hq).1)⟩⟩
end
end

open PyProof.Rows.LCg PyProof.Rows.LCt in
theorem comp_dict {prog : Program} {w : World} {A : Around} {E : Value → Shared → Prop} {s : Shared} {h₀ : Heap} {L : Addr} {m : Str → Option Value} {env : Env} {K : Type} [DecidableEq K] {knd : KeyKind prog w K} {ct elt iter : PySem.Expr} {x : Str} {px : Pos} {scope : Scope} {cl : List (Str × Addr)} {pos : Pos} {Q : Value → Shared → Prop}
    (_F₀ : Fr h₀ L s.heap m) (hclos : closureFor scope env = pure cl) (hcell : ∀ y ∈ scope.names, y.2 ≠ .cell) (hkind : scope.kind = .function)
    (hnames : ∀ y ∈ scope.names, y.2 = .local → scope.names.lookup y.1 = some .local) (hx : scope.names.lookup x = some .local) (hh : A.handled = none)
    (h : wpAny (model prog w) A (eval iter env) (fun xv s₁ => ∃ (d : Addr) (o : Obj) (kvs : List (K × Value)) (news : Led), xv = .ref d ∧ (d == sysModules) = false ∧ Fr h₀ L s₁.heap m ∧ News h₀ L s₁.heap news ∧ (d, o) ∈ news ∧ o.IsDictOf knd kvs ∧ kvs.length ≤ sizeLine ∧
      ∀ s₂ : Shared, (∃ h, s₂ = { s₁ with heap := h }) → CompRestT prog w A h₀ L m env ct elt x scope cl s₂ (fun nw => (d, o) ∈ nw) (fun i v => ∃ k y, kvs[i]? = some (k, y) ∧ knd.is k v = true) (FinE h₀ L m s₂ Q) kvs.length 0 [] news) E s)
    (hs : ∀ x, foldedSetIterable iter env x = pure x := by intro _; rfl) :
    wpAny (model prog w) A (eval (.ListComp elt [⟨.Name x px, iter, [ct], 0⟩] scope pos) env) Q E s := by
  rw [eval_ListComp]
  refine wpAny_comprehension_free (use := none) rfl hs hclos hkind hnames (wpAny_mono h (fun xv s₁ h₁ => ?_) fun _ _ e => e)
  obtain ⟨d, o, kvs, news, rfl, lo, F, N, hd, ho, hsz, R⟩ := h₁
  have hdo := (N _ hd).1
  obtain ⟨ep, hat⟩ := (Heap.dictOf_iff.mpr ⟨o, hdo, ho⟩ : s₁.heap.DictOf knd d kvs).dictAt
  have hlt : d < s₁.heap.objs.size := Heap.lt_size hdo
  refine wpAny_pyIter_dict lo hat ?_
  have up : ∀ b o, s₁.heap.get? b = some o → (s₁.heap.push { cls := .type "dict_keyiterator", data := .fields #[.ref d, .int 0 0, .int kvs.length 0, .int ep 0] }).get? b = some o := fun b o e => Heap.get?_push_of_some _ e
  have hatO : ∀ h' : Heap, h'.get? d = some o → h'.DictAt knd d kvs ep := by
    intro h' e
    obtain ⟨o', es, ho', r⟩ := hat
    rw [hdo] at ho'
    obtain rfl := Option.some.inj ho'
    exact ⟨o, es, e, r⟩
  refine block_T (Walks.dictKeys (knd := knd) hh s₁.heap.objs.size d (Nat.ne_of_lt hlt) kvs ep) hsz (fun i h st => by obtain ⟨o, e, _⟩ := st.1; exact ⟨o, e⟩) ?hSt hcell hkind hx ⟨⟨_, Heap.get?_push_size _ rfl, rfl, rfl⟩, hat.push _⟩ (fun b hb => ?_)
      (F.keeps up) (N.grown up) (Nat.ne_of_lt F.ns.lt) (PyProof.Rows.next_is_new F) (fun p hp => Nat.ne_of_lt (Heap.lt_size (N p hp).1)) hd (R _ ⟨_, rfl⟩) ?_
  case hSt =>
    intro i h h' o' nw st e e' _ N' hS
    refine ⟨?_, hatO h' (N' _ hS).1⟩
    obtain ⟨o'', q, r⟩ := st.1
    rw [e] at q; cases q
    exact ⟨o', e', r⟩
  · show b < (s₁.heap.push _).objs.size
    rw [Heap.size_push]
    rcases List.mem_cons.mp hb with rfl | hb
    · exact Nat.lt_succ_self _
    · rw [List.mem_singleton.mp hb]; exact Nat.lt_succ_of_lt hlt
  · intro D C h tk m' ys news' F' N' o1 hn hC₀ hD₀ hCL hDL hCD offC fin
    refine ⟨m', hn, fun h'' hs'' => fin D h'' tk (F'.change hs'' hCL hC₀) (fun p hp => ?_) o1⟩
    refine ⟨hs''.extBut _ _ ?_ (N' p hp).1, (N' p hp).2⟩
    rcases List.mem_cons.mp hp with rfl | hp
    · exact Ne.symm hCD
    · exact offC p hp


section
/-- the places whose octet is not nought, with it -/
noncomputable def nzPairs (base : Int) : List Int → List (Int × Int)
  | [] => []
  | x :: r => if x = 0 then nzPairs (base + 1) r else (base % 18446744073709551616, x) :: nzPairs (base + 1) r
noncomputable abbrev pairT (p : Int × Int) (t u : Tok) : Obj := { cls := .type "tuple", data := .seq #[.int p.1 t, .int p.2 u] }
/-- tuples of pairs that stand in a ledger -/
noncomputable def PairsIn (nw : Led) (vs : List Value) (ps : List (Int × Int)) : Prop := vs.length = ps.length ∧ ∀ (i : Nat) (v : Value) (p : Int × Int), vs[i]? = some v → ps[i]? = some p → ∃ a t u, v = .ref a ∧ (a, pairT p t u) ∈ nw
theorem nz_snoc : ∀ (l : List Int) (base x : Int), nzPairs base (l ++ [x]) = nzPairs base l ++ (if x = 0 then [] else [((base + l.length) % 18446744073709551616, x)])
  | [], base, x => by simp [nzPairs]
  | y :: r, base, x => by
    have ih := nz_snoc r (base + 1) x
    simp only [List.cons_append, nzPairs, List.length_cons]
    rw [ih, show base + 1 + (r.length : Int) = base + ((r.length + 1 : Nat) : Int) by omega]
    split <;> simp
theorem nz_take {row : List Int} {base : Int} {i : Nat} (hi : i < row.length) : nzPairs base (row.take (i + 1)) = nzPairs base (row.take i) ++ (if row.getD i 0 = 0 then [] else [((base + i) % 18446744073709551616, row.getD i 0)]) := by
  have e : row[i]? = some (row.getD i 0) := by rw [List.getD_eq_getElem?_getD, List.getElem?_eq_getElem hi]; rfl
  rw [List.take_add_one, e, Option.toList_some, nz_snoc, List.length_take, Nat.min_eq_left (by omega)]
/-- what holds of a list of pairs that a comprehension makes, ahead of turn i -/
noncomputable def WInv (base : Int) (row : List Int) (led : Led) (i : Nat) (ys : List Value) (nw : Led) : Prop := PairsIn nw ys (nzPairs base (row.take i)) ∧ ∀ p ∈ led, p ∈ nw
theorem wInv_no {base : Int} {row : List Int} {led nw : Led} {i : Nat} {ys : List Value} (h : WInv base row led i ys nw) (hi : i < row.length) (h0 : row.getD i 0 = 0) : WInv base row led (i + 1) ys nw := by
  refine ⟨?_, h.2⟩
  rw [nz_take hi, if_pos h0, List.append_nil]
  exact h.1
theorem wInv_yes {base pl x : Int} {row : List Int} {led nw : Led} {i : Nat} {ys : List Value} {T : Addr} {t u : Tok} (h : WInv base row led i ys nw) (hi : i < row.length) (h0 : ¬ row.getD i 0 = 0) (hp : pl = (base + i) % 18446744073709551616) (hx : x = row.getD i 0) :
    WInv base row led (i + 1) (ys ++ [.ref T]) ((T, { cls := .type "tuple", data := .seq #[.int pl t, .int x u] }) :: nw) := by
  subst hp hx
  refine ⟨⟨?_, fun j v p hv hp => ?_⟩, fun p hp => .tail _ (h.2 p hp)⟩
  · rw [nz_take hi, if_neg h0, List.length_append, List.length_append, h.1.1]; rfl
  · rw [nz_take hi, if_neg h0] at hp
    rw [List.getElem?_append] at hv hp
    rw [← h.1.1] at hp
    by_cases hj : j < ys.length
    · rw [if_pos hj] at hv hp
      obtain ⟨a, t', u', e, hm⟩ := h.1.2 j v p hv hp
      exact ⟨a, t', u', e, .tail _ hm⟩
    · rw [if_neg hj] at hv hp
      have h1 : v = .ref T := by
        have := List.mem_of_getElem? hv
        exact List.mem_singleton.mp this
      have h2 := List.mem_singleton.mp (List.mem_of_getElem? hp)
      subst h1 h2
      exact ⟨T, t, u, rfl, .head _⟩
theorem wInv_zero {base : Int} {row : List Int} {led : Led} : WInv base row led 0 [] led := ⟨⟨rfl, fun i v p hv => nomatch hv⟩, fun p hp => hp⟩
theorem kind_int {prog : Program} {w : World} {k : Int} {v : Value} (h : (intKind prog w).is k v = true) : ∃ t, v = .int k t := by
  cases v <;> simp [intKind, Value.isInt] at h
  exact ⟨_, by rw [h]⟩
open PyProof.Rows.LCg PyProof.Rows.LCt in
theorem comp_ind {prog : Program} {w : World} {A : Around} {s : Shared} {h₀ : Heap} {L : Addr} {m : Str → Option Value} {env : Env} {ct elt : PySem.Expr} {x : Str} {scope : Scope} {cl : List (Str × Addr)} {S : Led → Prop} {P : Nat → Value → Prop} {Fin : List Value → Led → Prop} {n : Nat} {nw0 : Led}
    (Inv : Nat → List Value → Led → Prop) (h0 : Inv 0 [] nw0)
    (hstep : ∀ k i ys nw, k + 1 + i = n → (∀ ys' nw', Inv (i + 1) ys' nw' → CompRestT prog w A h₀ L m env ct elt x scope cl s S P Fin k (i + 1) ys' nw') → Inv i ys nw → CompRestT prog w A h₀ L m env ct elt x scope cl s S P Fin (k + 1) i ys nw)
    (hfin : ∀ ys nw, Inv n ys nw → Fin ys nw) : CompRestT prog w A h₀ L m env ct elt x scope cl s S P Fin n 0 [] nw0 := by
  have key : ∀ (k i : Nat) (ys : List Value) (nw : Led), k + i = n → Inv i ys nw → CompRestT prog w A h₀ L m env ct elt x scope cl s S P Fin k i ys nw := by
    intro k
    induction k with
    | zero =>
      intro i ys nw hk hI
      rw [Nat.zero_add] at hk
      subst hk
      exact CompRestT.zero (hfin ys nw hI)
    | succ k ih => exact fun i ys nw hk hI => hstep k i ys nw hk (fun ys' nw' hI' => ih (i + 1) ys' nw' (by omega) hI') hI
  exact key n 0 [] nw0 rfl h0
theorem kv_at {k : Int} {y : Value} : ∀ {base : Int} {vs : List Value} {i : Nat}, (kvFrom base vs)[i]? = some (k, y) → k = (base + i) % 18446744073709551616 ∧ vs[i]? = some y := by
  intro base vs
  induction vs generalizing base with
  | nil => intro i h; cases h
  | cons v r ih =>
    intro i h
    cases i with
    | zero =>
      obtain ⟨rfl, rfl⟩ := Prod.mk.inj (Option.some.inj h)
      exact ⟨by simp, rfl⟩
    | succ i =>
      obtain ⟨h1, h2⟩ := ih (base := base + 1) (i := i) h
      exact ⟨by rw [h1, show base + 1 + (i : Int) = base + ((i + 1 : Nat) : Int) by omega], h2⟩
theorem comp_yes {h₀ h' : Heap} {L I C D T : Addr} {m : Str → Option Value} {s₁ : Shared} {oI oC oD ob : Obj} {S : Led → Prop} {rest : Value → Led → Prop} {y : Value} {tk : Nat} {nw : Led}
    (F : Fr h₀ L h' m) (N : News h₀ L h' ((T, ob) :: (I, oI) :: (C, oC) :: (D, oD) :: nw)) (h1 : (@Ne Nat T I) ∧ (@Ne Nat T C) ∧ (@Ne Nat T D)) (off : PyProof.Rows.LCg.Off3 I C D nw) (hS : S ((T, ob) :: nw)) (r : rest y ((T, ob) :: nw)) :
    PyProof.Rows.LCg.CompEnd h₀ L m s₁ I oI C oC D oD S rest y { s₁ with heap := h', toks := tk } :=
  PyProof.Rows.LCg.CompEnd.intro F N ((T, ob) :: nw) (by
    intro p hp
    simp only [List.mem_cons] at hp ⊢
    rcases hp with h | h | h | h | h <;> simp [h]) ⟨h1, off⟩ hS r
theorem nz_append : ∀ (l r : List Int) (base : Int), nzPairs base (l ++ r) = nzPairs base l ++ nzPairs (base + l.length) r
  | [], r, base => by simp [nzPairs]
  | y :: l, r, base => by
    have ih := nz_append l r (base + 1)
    simp only [List.cons_append, nzPairs, List.length_cons]
    rw [ih, show base + 1 + (l.length : Int) = base + ((l.length + 1 : Nat) : Int) by omega]
    split <;> simp
theorem rises_cons {x : Int × Int} {r : List (Int × Int)} (h : ∀ p ∈ r, x.1 < p.1) (hr : Rises r) : Rises (x :: r) := by
  intro i j p q hp hq hij
  cases i with
  | zero =>
    obtain rfl := Option.some.inj hp
    cases j with
    | zero => omega
    | succ j => exact h q (List.mem_of_getElem? (i := j) hq)
  | succ i =>
    cases j with
    | zero => omega
    | succ j => exact hr i j p q hp hq (by omega)
theorem nz_rise : ∀ (l : List Int) (base b0 : Int), (∀ i : Nat, i < l.length → (base + i) % 18446744073709551616 = b0 + i) → Rises (nzPairs base l) ∧ ∀ p ∈ nzPairs base l, b0 ≤ p.1 ∧ p.1 < b0 + l.length
  | [], base, b0, _ => ⟨fun i j p q hp => (nomatch hp), fun p hp => (nomatch hp)⟩
  | y :: r, base, b0, h => by
    obtain ⟨h1, h2⟩ := nz_rise r (base + 1) (b0 + 1) (fun i hi => by
      have := h (i + 1) (by simp; omega)
      rw [show base + 1 + (i : Int) = base + ((i + 1 : Nat) : Int) by omega, this]; omega)
    have h0 := h 0 (by simp)
    simp only [nzPairs, List.length_cons]
    split
    · exact ⟨h1, fun p hp => by have := h2 p hp; omega⟩
    · have e : base % 18446744073709551616 = b0 := by simpa using h0
      rw [e]
      refine ⟨rises_cons (fun p hp => by have := h2 p hp; omega) h1, fun p hp => ?_⟩
      rcases List.mem_cons.mp hp with rfl | hp
      · dsimp only; omega
      · have := h2 p hp; omega
/-- how many octets lie ahead of the end of all places -/
noncomputable def cutOf (base : Int) : Nat := min 128 (18446744073709551616 - base).toNat
noncomputable def sortedPairs (base : Int) (row : List Int) : List (Int × Int) := nzPairs (base + cutOf base) (row.drop (cutOf base)) ++ nzPairs base (row.take (cutOf base))
theorem two_blocks {base : Int} {row : List Int} (h0 : 0 ≤ base) (h1 : base < 18446744073709551616) (hl : row.length = 128) (h2 : 128 ≤ base) {vs : List Value} (hv : vs.length = (nzPairs base row).length) :
    ∃ va vb pa pb, vs = va ++ vb ∧ nzPairs base row = pa ++ pb ∧ va.length = pa.length ∧ Rises pa ∧ Rises pb ∧ (∀ p ∈ pa, ∀ q ∈ pb, q.1 < p.1) ∧ (0 < va.length ∨ vb = []) ∧ pb ++ pa = sortedPairs base row := by
  have hc : cutOf base ≤ 128 := by unfold cutOf; omega
  have hlt : (row.take (cutOf base)).length = cutOf base := by rw [List.length_take, hl]; omega
  have hld : (row.drop (cutOf base)).length = 128 - cutOf base := by rw [List.length_drop, hl]
  have e : nzPairs base row = nzPairs base (row.take (cutOf base)) ++ nzPairs (base + cutOf base) (row.drop (cutOf base)) := by
    have := nz_append (row.take (cutOf base)) (row.drop (cutOf base)) base
    rw [List.take_append_drop, hlt] at this
    exact this
  obtain ⟨ra, ka⟩ := nz_rise (row.take (cutOf base)) base base (fun i hi => Int.emod_eq_of_lt (by omega) (by rw [hlt] at hi; unfold cutOf at hi; omega))
  obtain ⟨rb, kb⟩ := nz_rise (row.drop (cutOf base)) (base + cutOf base) 0 (fun i hi => by
    rw [hld] at hi
    have hce : (cutOf base : Int) = 18446744073709551616 - base := by unfold cutOf at hi ⊢; omega
    rw [hce, show base + (18446744073709551616 - base) + (i : Int) = (i : Int) + 18446744073709551616 by omega, Int.add_emod_right, Int.emod_eq_of_lt (by omega) (by omega)]
    omega)
  have hab : ∀ p ∈ nzPairs base (row.take (cutOf base)), ∀ q ∈ nzPairs (base + cutOf base) (row.drop (cutOf base)), q.1 < p.1 := by
    intro p hp q hq
    have := ka p hp
    have := kb q hq
    rw [hld] at this
    omega
  by_cases hne : nzPairs base (row.take (cutOf base)) = []
  · refine ⟨vs, [], nzPairs (base + cutOf base) (row.drop (cutOf base)), [], by simp, by rw [e, hne]; simp, by rw [hv, e, hne]; simp, rb, fun i j p q hp => (nomatch hp), fun p _ q hq => (nomatch hq), .inr rfl, ?_⟩
    unfold sortedPairs; rw [hne]; simp
  · refine ⟨vs.take (nzPairs base (row.take (cutOf base))).length, vs.drop (nzPairs base (row.take (cutOf base))).length, _, _, (List.take_append_drop _ _).symm, e, ?_, ra, rb, hab, .inl ?_, rfl⟩
    · rw [List.length_take, hv, e, List.length_append]; omega
    · rw [List.length_take, hv, e, List.length_append]
      have := List.length_pos_iff.mpr hne
      omega
noncomputable def RetP (ps : List (Int × Int)) (news : Led) (h₀ : Heap) (L : Addr) (m : Str → Option Value) (s : Shared) (Q : Value → Shared → Prop) : Prop :=
  ∀ (D : Addr) (vs : List Value) (c : Nat) (own : Led) (h' : Heap) (tk' : Nat), PairsIn own vs ps → (∀ p ∈ news, p ∈ own) → (∀ p ∈ own, p.1 < D) → Fr h₀ L h' m → News h₀ L h' ((D, listOf vs.toArray c) :: own) → Q (.ref D) { s with heap := h', toks := tk' }
theorem pairsIn_at {h₀ h : Heap} {L : Addr} {nw : Led} {vs : List Value} {ps : List (Int × Int)} (N : News h₀ L h nw) (H : PairsIn nw vs ps) : PairsAt h vs ps := by
  refine ⟨H.1, fun i v p hv hp => ?_⟩
  obtain ⟨a, t, u, rfl, hm⟩ := H.2 i v p hv hp
  exact ⟨a, _, 0, t, u, rfl, (N _ hm).1, rfl, rfl⟩
theorem pairsIn_swap {nw nw' : Led} {va vb : List Value} {pa pb : List (Int × Int)} (H : PairsIn nw (va ++ vb) (pa ++ pb)) (hl : va.length = pa.length) (hs : ∀ p ∈ nw, p ∈ nw') : PairsIn nw' (vb ++ va) (pb ++ pa) := by
  have hl2 : vb.length = pb.length := by have := H.1; simp at this; omega
  refine ⟨by simp; omega, fun i v p hv hp => ?_⟩
  have lift : ∀ j, (va ++ vb)[j]? = some v → (pa ++ pb)[j]? = some p → ∃ a t u, v = .ref a ∧ (a, pairT p t u) ∈ nw' := fun j h1 h2 => by
    obtain ⟨a, t, u, e, hm⟩ := H.2 j v p h1 h2
    exact ⟨a, t, u, e, hs _ hm⟩
  rw [List.getElem?_append] at hv hp
  rw [← hl2] at hp
  by_cases hi : i < vb.length
  · rw [if_pos hi] at hv hp
    refine lift (va.length + i) ?_ ?_
    · rw [List.getElem?_append_right (by omega), Nat.add_sub_cancel_left]; exact hv
    · rw [hl, List.getElem?_append_right (by omega), Nat.add_sub_cancel_left]; exact hp
  · rw [if_neg hi] at hv hp
    refine lift (i - vb.length) ?_ ?_
    · rw [List.getElem?_append_left (List.getElem?_eq_some_iff.mp hv).1]; exact hv
    · rw [List.getElem?_append_left (List.getElem?_eq_some_iff.mp hp).1]; exact hp
/-- sorted of the pairs that a comprehension made -/
theorem sorted_row {prog : Program} {w : World} {A : Around} {E : Value → Shared → Prop} {s : Shared} {h₀ : Heap} {L D : Addr} {m : Str → Option Value} {nw : Led} {ys : List Value} {base : Int} {row : List Int} {Q : Value → Shared → Prop} (F : Fr h₀ L s.heap m) (N : News h₀ L s.heap ((D, PyProof.Rows.LCg.lst ys) :: nw))
    (H : PairsIn nw ys (nzPairs base (row.take 128))) (h0 : 0 ≤ base) (h1 : base < 18446744073709551616) (hl : row.length = 128) (h2 : 128 ≤ base)
    (h : ∀ D' vs c h', PairsIn ((D, PyProof.Rows.LCg.lst ys) :: nw) vs (sortedPairs base row) → (∀ p ∈ (D, PyProof.Rows.LCg.lst ys) :: nw, p.1 < D') → Fr h₀ L h' m → News h₀ L h' ((D', listOf vs.toArray c) :: (D, PyProof.Rows.LCg.lst ys) :: nw) → Q (.ref D') { s with heap := h' }) :
    wpAny (model prog w) A (call (.builtin "sorted") [.ref D]) Q E s := by
  rw [show row.take 128 = row by rw [List.take_of_length_le (by omega)]] at H
  have hlen : (nzPairs base row).length ≤ 128 := by
    have : ∀ (l : List Int) (b : Int), (nzPairs b l).length ≤ l.length := by
      intro l
      induction l with
      | nil => intro b; exact Nat.le_refl _
      | cons x r ih =>
        intro b
        have := ih (b + 1)
        simp only [nzPairs]
        split <;> simp <;> omega
    have := this row base
    omega
  obtain ⟨va, vb, pa, pb, rfl, ep, hlp, ra, rb, hab, hne, es⟩ := two_blocks h0 h1 hl h2 H.1
  rw [ep] at H
  have hD := (N _ (.head _)).1
  refine pairs_sorted F N ⟨_, hD, rfl, _, rfl⟩ (by rw [H.1, ← ep]; exact hlen) (pairsIn_at (fun p hp => N p (.tail _ hp)) H) hlp ra rb hab hne fun D' c h' F' N' hlt => ?_
  exact h D' _ c h' (es ▸ pairsIn_swap H hlp (fun p hp => .tail _ hp)) hlt F' N'
theorem endP {ps : List (Int × Int)} {news own : Led} {h₀ h' : Heap} {L : Addr} {m : Str → Option Value} {s : Shared} {Q : Value → Shared → Prop} {D : Addr} {vs : List Value} {c tk' : Nat}
    (hret : RetP ps news h₀ L m s Q) (H : PairsIn own vs ps) (hs : ∀ p ∈ news, p ∈ own) (hl : ∀ p ∈ own, p.1 < D) (F : Fr h₀ L h' m) (N : News h₀ L h' ((D, listOf vs.toArray c) :: own)) : Q (.ref D) { s with heap := h', toks := tk' } := hret D vs c own h' tk' H hs hl F N
end
set_option maxHeartbeats 4000000 in
theorem c_written (w : World) (mm md hd : Addr) (k : Tok) (n : Nat) (ho : Obj) (base : Int) (row : List Int) (news : Led)
    (h1 : (mm, instObj 408 md) ∈ news) (h2 : (md, memD w k n hd) ∈ news) (h3 : (hd, ho) ∈ news) (lo : (hd == sysModules) = false) (hm : MemIs w ho base row) (hl : row.length = 128) (b0 : 128 ≤ base) (b1 : base < 18446744073709551616) :
    Claim w 377 [.ref mm] 8 100 news (RetP (sortedPairs base row) news) := by
  k_with_none
  k_with "execs cons" => (refine toks_succ ?_; intro tkU)
  k_with "storeName" => with_reducible first | (refine store_toks ?_; intro tkU) | (refine store_add ?_; intro tkU)
  k_with "call type:range" => ((rename Fr _ _ _ _ => F'); (rename News _ _ _ _ => N'); (with_unfolding_all refine range1_rows F' N' ?_; intro _ _ _ _ _ _ _ _ _))
  k_with "my claimC" => (
      intro pZ looseZ meanZ mgZ mbZ dpZ unZ gdZ cnZ csZ aZ ccdZ clZ outerZ A₀Z baseZ h₀Z LZ mZ sZ QZ EZ BZ FZ XZ NZ TZ hkZ hdZ huZ hretZ
      refine wpAny_call ?_
      k_dflt (refine' code_defC ?k1 ?k2 ?k3 ?k4 ?k5 ?kA ?kF ?kK ?k6 ?k7 ?k8 ?k9 ?kB ?kD ?_ ?c2 ?c3 ?c4; (case kA => exact rfl); (case kF => exact rfl); (case kK => assumption); (case k1 => k_asm); (case k2 => k_asm); (case k3 => k_asm); (case k4 => k_asm); (case k5 => k_asm); (case k6 => k_is); (case k7 => k_is); (case k8 => ktr_room); (case k9 => exact BindsTo.of_eq rfl); (case kB => exact rfl); (case kD => decide +kernel); (case c2 => exact rfl); (case c3 => exact rfl); (case c4 => exact rfl); k_whole; intro g' L' h' tk' cells' FG' F' N' Y' B' X' T' l1; (try k_lt l1); k_cells Y'; (try simp only [List.cons_append, List.nil_append] at N'); (try dsimp only); (try k_lift B'); (try k_fold))
      k_steps)
  obtain ⟨vs, hd1, hI⟩ := hm
  have hkl : (kvFrom base vs).length = 128 := by rw [kv_length, hI.length, hl]
  k_with "eval ListComp" => k_dflt (refine comp_dict (knd := intKind Challenge.rw_nn0059_01.row.prog w) (_F₀ := by k_asm) (by with_unfolding_all rfl) (by decide) (by rfl) (by decide) (by rfl) rfl ?_)
  k_with "Exists" => k_dflt (
    rename Fr _ _ _ _ => FF
    rename News _ _ _ _ => NN
    refine ⟨hd, ho, kvFrom base vs, _, rfl, lo, FF, NN, List.mem_cons_of_mem _ h3, hd1, by (rw [hkl, sizeLine_eq]; omega), ?_⟩
    rintro _ ⟨h9, rfl⟩
    rw [hkl]
    refine comp_ind (WInv base row _) wInv_zero ?step ?fin
    case' step =>
      intro kk i ys nw hk ih hv
      refine PyProof.Rows.LCt.CompRestT.succ ?_
      intro v I oI C oC D m₂ h tk E' hP hC hx F7 N7 off ne
      obtain ⟨pl, y, hkv, his⟩ := hP
      have q0 := hv.2 _ (.head _)
      have q1 := hv.2 _ (.tail _ h1)
      have q2 := hv.2 _ (.tail _ h2)
      have q3 := hv.2 _ (.tail _ h3)
      obtain ⟨tp, rfl⟩ := kind_int his
      obtain ⟨rfl, hy⟩ := kv_at hkv
      have hi9 : i < row.length := by rw [hl]; omega
      obtain ⟨tv, htv⟩ := ints_getD hI hi9
      have hval : valueAt (kvFrom base vs) ((base + i) % 18446744073709551616) = some (.int (row.getD i 0) tv) := by
        rw [← htv]; exact kv_value (by rw [hI.length]; exact hi9) (by rw [hI.length, hl]; omega)
      try k_fold
    case' fin =>
      intro ys nw hv
      try k_fold)
  k_with "subscriptTail Name Name ref int" => k_dflt (refine kda_item (knd := intKind _ _) (by k_asm) (by k_mem) hd1 (intKind_is _ _ _ _) hval ?_)
  k_with "CompEnd" => first
    | (k_dflt (
        rename Fr _ _ _ _ => FF9
        rename News _ _ _ _ => NN9
        refine comp_yes FF9 NN9 ⟨by k_ne, by k_ne, by k_ne⟩ off (List.mem_cons_of_mem _ q3) (ih _ _ (wInv_yes hv hi9 ?e5 rfl rfl))
        (case e5 => assumption)))
    | (k_dflt (
        rename Fr _ _ _ _ => FF9
        rename News _ _ _ _ => NN9
        refine PyProof.Rows.LCg.CompEnd.intro FF9 NN9 nw (fun p hp => hp) off q3 (ih _ _ (wInv_no hv hi9 (by assumption)))))
  k_with "call builtin:sorted" => k_dflt (
    rename Fr _ _ _ _ => FF9
    rename News _ _ _ _ => NN9
    refine sorted_row FF9 NN9 hv.1 (by omega) b1 hl b0 ?_
    intro D' vs' c' h' HP l9 F9 N9
    (try dsimp only)
    (try k_fold))
  walk_at "my claimC"
  exact endP (by assumption) HP (fun p hp => .tail _ (hv.2 _ (.tail _ hp))) l9 (by assumption) (by assumption)

section
theorem sl_bounds {size i W : Nat} {lo hi : Int} (hl : lo = i) (hh : hi = i + W) (h : i + W ≤ size) : sliceBounds (some lo) (some hi) none size = (((i : Nat) : Int), ((i + W : Nat) : Int), 1) := by
  subst hl hh
  unfold sliceBounds
  simp only [Option.getD_none]
  have e1 : ¬ ((i : Int) < 0) := by omega
  have e2 : ¬ ((i : Int) + W < 0) := by omega
  simp only [e1, e2, if_false, show ((1 : Int) > 0) = True from by simp, if_true]
  rw [show max 0 (min (i : Int) size) = i by omega, show max 0 (min ((i : Int) + W) size) = ((i + W : Nat) : Int) by omega]
section
variable {prog : Program} {w : World} {A : Around} {E : Value → Shared → Prop} {s : Shared}
theorem setItem_slice {l sl e : Addr} {items new : Array Value} {n k a W : Nat} {vl vu : Value} {lo hi : Int} {Q : Unit → Shared → Prop} (ho : s.heap.get? l = some (listOf items n)) (hs : s.heap.IsSliceOf sl vl vu .none) (he : s.heap.get? e = some (listOf new k)) (hne : l ≠ e)
    (pl : IsPart vl (some lo)) (pu : IsPart vu (some hi)) (h1 : lo = a) (h2 : hi = a + W) (h3 : a + W ≤ items.size) (h4 : items.size ≤ 128) (h5 : new.size ≤ 128)
    (h : Q () { s with heap := s.heap.update l (Obj.mapSeq fun xs => xs.extract 0 a ++ new ++ xs.extract (a + W) xs.size) }) :
    wpAny (model prog w) A (setItem (.ref l) (.ref sl) (.ref e)) Q E s := by
  have hl : s.heap.IsList l items := ⟨_, ho, rfl, n, rfl⟩
  obtain ⟨os, hos, hcs, hds⟩ := id hs
  have hTs : s.TypeIs (.ref sl) "slice" := ⟨os, hos, hcs⟩
  have hTe : s.TypeIs (.ref e) "list" := ⟨_, he, rfl⟩
  unfold setItem
  try with_reducible refine wpAny_holding ?_
  first | refine wpAny_bind (wpAny_pure ?_) | skip
  refine wpAny_bind (wpAny_sequenceKey hl.typeIs (by decide) ?_)
  refine wpAny_bind (wpAny_callSpecial?_slot (name := Str.ofString "__setitem__") hl.typeIs slot_list_setitem
    (wpAny_call_entry slot_list_setitem hl.typeIs entry_list_setitem ?_ (args_list_setitem _ _ _)))
  show wpAny _ _ (Builtin.List.listSubscript? (.ref sl) >>= _) _ _ s
  refine wpAny_bind ?_
  unfold Builtin.List.listSubscript?
  refine wpAny_bind (wpAny_specialOf hTs slice_no_index ?_)
  simp only [Option.isNone_none, if_true]
  refine wpAny_pure ?_
  show wpAny _ _ (typeOf (.ref sl) >>= _) _ _ s
  refine wpAny_bind (wpAny_typeOf hTs ?_)
  rw [if_neg (by decide)]
  rw [listSliceParts_eq]
  refine wpAny_bind (wpAny_bind (wpAny_field hos hds (x := .none) rfl (wpAny_bind (wpAny_listPart .none ?_))))
  rw [if_neg (show ¬ ((rawPart none == rawInt 0) = true) from Bool.false_ne_true)]
  refine wpAny_bind (wpAny_field hos hds (x := vl) rfl (wpAny_bind (wpAny_listPart pl ?_)))
  refine wpAny_bind (wpAny_field hos hds (x := vu) rfl (wpAny_bind (wpAny_listPart pu (wpAny_pure ?_))))
  dsimp only
  have hsame : Builtin.List.listSameRef (.ref l) (.ref e) = false := by
    show (l == e) = false
    simpa using hne
  simp only [hsame, Bool.false_eq_true, if_false]
  unfold Builtin.List.listAllItems
  refine wpAny_bind (wpAny_bind (wpAny_typeOf hTe ?_))
  rw [if_pos (by decide)]
  refine listItems_at he rfl ?_
  refine wpAny_bind (listItems_at ho rfl ?_)
  refine wpAny_bind (wpAny_of_eq (sliceIndices_raw (some lo) (some hi) none items.size (by simp)) ?_)
  rw [sl_bounds h1 h2 h3]
  dsimp only
  rw [if_pos (by decide)]
  refine wpAny_bind (wpAny_rule ?_)
  have hlong : Builtin.List.listTooLong (items.size + new.size) = false := by
    unfold Builtin.List.listTooLong; rw [decide_eq_false]; rw [sizeLine_eq]; omega
  simp only [hlong, Bool.false_eq_true, if_false]
  have hmax : (max ((a : Int)) (((a + W : Nat) : Int))).toNat = a + W := by omega
  simp only [hmax, Int.toNat_natCast]
  refine wpAny_bind (listUpdate_at ho rfl ?_ (by rw [sizeLine_eq]; omega) (by
    rw [sizeLine_eq, Array.size_append, Array.size_append, Array.size_extract, Array.size_extract]; omega))
  refine wpAny_bind (wpAny_letGo ?_)
  exact wpAny_pure ⟨_, rfl, wpAny_pure h⟩
end
section
variable {prog : Program} {w : World} {A : Around} {E : Value → Shared → Prop} {s : Shared} {h₀ : Heap} {L : Addr} {m : Str → Option Value}
theorem slice_store {l sl e : Addr} {vs ws : List Value} {n k a W : Nat} {vl vu : Value} {lo hi : Int} {news : List (Addr × Obj)} {g : Obj → List (Addr × Obj)} {Q : Unit → Shared → Prop} (F : Fr h₀ L s.heap m) (N : News h₀ L s.heap news) (U : UpdF l (listOf vs.toArray n) news g) (hs : s.heap.IsSliceOf sl vl vu .none) (he : (e, listOf ws.toArray k) ∈ news) (hne : l ≠ e)
    (pl : IsPart vl (some lo)) (pu : IsPart vu (some hi)) (h1 : lo = a) (h2 : hi = a + W) (h3 : a + W ≤ vs.length) (h4 : vs.length ≤ 128) (h5 : ws.length ≤ 128)
    (h : ∀ h' c, Fr h₀ L h' m → News h₀ L h' (g (listOf (vs.take a ++ ws ++ vs.drop (a + W)).toArray c)) → Q () { s with heap := h' }) :
    wpAny (model prog w) A (setItem (.ref l) (.ref sl) (.ref e)) Q E s := by
  obtain ⟨pre, post, e0, hg, x1, x2⟩ := U.split
  have he' := (N _ he).1
  rw [e0] at N
  have nz := N (l, listOf vs.toArray n) (List.mem_append_right _ (.head _))
  refine setItem_slice nz.1 hs he' hne pl pu h1 h2 (by simpa using h3) (by simpa using h4) (by simpa using h5) ?_
  have s2 := Heap.SameBut.update s.heap l (Obj.mapSeq fun xs : Array Value => xs.extract 0 a ++ ws.toArray ++ xs.extract (a + W) xs.size)
  obtain ⟨c2, hc2⟩ : ∃ c2, (s.heap.update l (Obj.mapSeq fun xs : Array Value => xs.extract 0 a ++ ws.toArray ++ xs.extract (a + W) xs.size)).get? l = some (seqObj "list" (vs.toArray.extract 0 a ++ ws.toArray ++ vs.toArray.extract (a + W) vs.toArray.size) c2) := ⟨_, get?_update_seq nz.1 fun xs : Array Value => xs.extract 0 a ++ ws.toArray ++ xs.extract (a + W) xs.size⟩
  have hne2 : l ≠ L := nz.2.1
  refine h _ c2 (kas_fr F s2 nz.2.1 nz.2.2) ?_
  rw [hg]
  refine news_set N x1 x2 s2 ?_
  rw [hc2]
  congr 2
  have : vs.toArray.extract 0 a ++ ws.toArray ++ vs.toArray.extract (a + W) vs.toArray.size = (vs.take a ++ ws ++ vs.drop (a + W)).toArray := by
    apply Array.toList_inj.mp
    simp
    exact List.take_of_length_le (by simp)
  rw [this]
theorem slice_stored {l e : Addr} {vs ws : List Value} {n k a W : Nat} {vl vu : Value} {lo hi : Int} {news : List (Addr × Obj)} {g : Obj → List (Addr × Obj)} {Q : Unit → Shared → Prop} (F : Fr h₀ L s.heap m) (N : News h₀ L s.heap news) (U : UpdF l (listOf vs.toArray n) news g) (he : (e, listOf ws.toArray k) ∈ news) (hne : l ≠ e)
    (pl : IsPart vl (some lo)) (pu : IsPart vu (some hi)) (h1 : lo = a) (h2 : hi = a + W) (h3 : a + W ≤ vs.length) (h4 : vs.length ≤ 128) (h5 : ws.length ≤ 128)
    (h : ∀ h' c, Fr h₀ L h' m → News h₀ L h' (g (listOf (vs.take a ++ ws ++ vs.drop (a + W)).toArray c)) → Q () { s with heap := h' }) :
    wpAny (model prog w) A (setItem (.ref l) (.ref s.heap.objs.size) (.ref e)) Q E { s with heap := s.heap.push { cls := .type "slice", data := .fields #[vl, vu, .none] } } :=
  slice_store (s := { s with heap := s.heap.push { cls := .type "slice", data := .fields #[vl, vu, .none] } }) (F.push _) (N.grown fun _ _ e => Heap.get?_push_of_some _ e) U (Heap.IsSliceOf.new ..) he hne pl pu h1 h2 h3 h4 h5 h
end
end

section
/-- what the rounds turn -/
structure Mach where
  src : Int
  goal : Int
  left : Int
  low : Int
  six : Six
  row : List Int
noncomputable def mstep (sort ahead : Nat) (size H : Int) (W : Nat) (down : Int) (M : Mach) : Mach where
  src := if sort = 2 ∨ sort = 4 then M.src else M.src + stepI down W
  goal := if sort = 3 then M.goal else M.goal + stepI down W
  left := if ahead = 0 then M.left else M.left - 1
  low := if sort = 3 then joinV M.low (leAt M.row M.src.toNat W) size else M.low
  six := if sort = 1 then sixOf H (leAt M.row M.src.toNat W) (leAt M.row M.goal.toNat W) else if sort = 4 then sixOf H (M.low % (2 * H)) (leAt M.row M.goal.toNat W) else M.six
  row := if sort = 0 then putB M.row M.goal.toNat (leAt M.row M.src.toNat W) W else if sort = 2 then putB M.row M.goal.toNat (M.low % (2 * H)) W else M.row
noncomputable def stepN (f : Mach → Mach) : Nat → Mach → Mach
  | 0, M => M
  | n + 1, M => f (stepN f n M)
/-- whether another round follows -/
noncomputable def goesB (sort ahead : Nat) (M : Mach) : Bool := if ahead = 0 then false else decide (M.left > 0) && (decide (sort ≠ 1 ∧ sort ≠ 4) || decide (M.six.z = 2 - ahead))
noncomputable def startB (ahead : Nat) (left : Int) : Bool := decide (ahead = 0) || decide (left > 0)
/-- after k rounds -/
noncomputable def After (sort ahead : Nat) (size H : Int) (W : Nat) (down : Int) (M0 : Mach) (k : Nat) (M : Mach) (going : Bool) : Prop :=
  M = stepN (mstep sort ahead size H W down) k M0 ∧ (∀ j, j < k → (if j = 0 then startB ahead M0.left else goesB sort ahead (stepN (mstep sort ahead size H W down) j M0)) = true) ∧
    going = (if k = 0 then startB ahead M0.left else goesB sort ahead M)
theorem after_zero {sort ahead : Nat} {size H down : Int} {W : Nat} {M0 : Mach} : After sort ahead size H W down M0 0 M0 (startB ahead M0.left) := ⟨rfl, fun j hj => absurd hj (Nat.not_lt_zero j), rfl⟩
theorem after_next {sort ahead : Nat} {size H down : Int} {W : Nat} {M0 M : Mach} {k : Nat} (h : After sort ahead size H W down M0 k M true) : After sort ahead size H W down M0 (k + 1) (mstep sort ahead size H W down M) (goesB sort ahead (mstep sort ahead size H W down M)) := by
  obtain ⟨rfl, h2, h3⟩ := h
  refine ⟨rfl, fun j hj => ?_, by rw [if_neg (by omega)]⟩
  by_cases hjk : j < k
  · exact h2 j hjk
  · have : j = k := by omega
    subst this
    exact h3.symm
theorem after_same {sort ahead : Nat} {size H down : Int} {W : Nat} {M0 M M' : Mach} {k k' : Nat} (h : After sort ahead size H W down M0 k M false) (h' : After sort ahead size H W down M0 k' M' false) : k = k' ∧ M = M' := by
  have key : ∀ {a b : Nat} {X Y : Mach}, After sort ahead size H W down M0 a X false → After sort ahead size H W down M0 b Y false → a < b → False := by
    intro a b X Y hX hY hab
    have h1 := hY.2.1 a hab
    have h2 := hX.2.2
    rw [hX.1] at h2
    rw [h1] at h2
    cases h2
  have hk : k = k' := by
    rcases Nat.lt_trichotomy k k' with q | q | q
    · exact (key h h' q).elim
    · exact q
    · exact (key h' h q).elim
  subst hk
  exact ⟨rfl, h.1.trans h'.1.symm⟩
theorem start_yes {ahead : Nat} {l : Int} (h : (ahead : Int) = 0) : ((ahead : Int) == 0) = startB ahead l := by
  have : ahead = 0 := by omega
  subst this; rfl
theorem start_no {ahead : Nat} {l : Int} (h : ¬ (ahead : Int) = 0) : decide (0 < l) = startB ahead l := by
  have : ¬ ahead = 0 := by omega
  unfold startB; rw [decide_eq_false this]; rfl
theorem move_eq {down : Int} {W : Nat} (hd : down = 0 ∨ down = 1) : (if (down == 1) = true then -(W : Int) else W) = stepI down W := by
  rcases hd with rfl | rfl <;> rfl
theorem joinIteV {prog : Program} {w : World} {A : Around} {E : Value → Shared → Prop} {s : Shared} {h₀ : Heap} {L : Addr} {m : Str → Option Value} {news : Led} {Q : Value → Shared → Prop} {C : Prop} [Decidable C] {t1 t2 : Sem Value} (x y V : Int) (e : (if C then x else y) = V) (F : Fr h₀ L s.heap m) (N : News h₀ L s.heap news)
    (h1 : C → ∀ q, RetV (fun t => .int x t) news h₀ L m s q → wpAny (model prog w) A t1 q E s) (h2 : ¬ C → ∀ q, RetV (fun t => .int y t) news h₀ L m s q → wpAny (model prog w) A t2 q E s)
    (hc : RetV (fun t => .int V t) news h₀ L m s Q) : if C then wpAny (model prog w) A t1 Q E s else wpAny (model prog w) A t2 Q E s :=
  joinIte x y F N h1 h2 (by subst e; exact hc)
theorem step_a {down : Int} {W : Nat} (h : down = 1) : -(W : Int) = stepI down W := by subst h; rfl
theorem step_b {down : Int} {W : Nat} (hd : down = 0 ∨ down = 1) (h : ¬ down = 1) : (W : Int) = stepI down W := by
  have : down = 0 := by omega
  subst this; rfl
noncomputable abbrev placesT (a b c : Int) (t u v : Tok) : Obj := { cls := .type "tuple", data := .seq #[.int a t, .int b u, .int c v] }
theorem sl_pick {vs : List Value} {row : List Int} (hI : IntsAre vs row) {i W : Nat} {lo hi : Int} (hl : lo = i) (hh : hi = i + W) (h : i + W ≤ row.length) : IntsAre (slicePick vs.toArray (some lo) (some hi) none).toList ((row.drop i).take W) := by
  rw [kmk_pick_nat vs.toArray (sl_bounds (size := vs.toArray.size) hl hh (by rw [List.size_toArray, hI.length]; exact h))]
  rw [show i + W - i = W by omega]
  exact (hI.drop i).take W
theorem joinBv {prog : Program} {w : World} {A : Around} {E : Value → Shared → Prop} {s : Shared} {h₀ : Heap} {L : Addr} {m : Str → Option Value} {news : Led} {Q : Value → Shared → Prop} {tree : Sem Value} (V : Bool) (F : Fr h₀ L s.heap m) (N : News h₀ L s.heap news)
    (hw : ∀ q, RetV (fun _ => .bool V) news h₀ L m s q → wpAny (model prog w) A tree q E s) (hc : RetV (fun _ => .bool V) news h₀ L m s Q) : wpAny (model prog w) A tree Q E s := hw Q hc
theorem retBv {x y : Bool} {h₀ h' : Heap} {L : Addr} {m : Str → Option Value} {news : Led} {s : Shared} {Q : Value → Shared → Prop} {tk' : Nat}
    (hret : RetV (fun _ => .bool x) news h₀ L m s Q) (F : Fr h₀ L h' m) (N : News h₀ L h' news) (e : y = x) : Q (.bool y) { s with heap := h', toks := tk' } := by
  subst e; exact hret 0 h' tk' F N
/-- what a turn of _law_play's loop turns -/
structure PlayC where
  M : Mach
  k : Nat
  going : Bool
  co : Obj
  own : Led
  six : Addr
  vs : List Value
  n : Nat
  ts : Tok
  tg : Tok
  tl : Tok
  tw : Tok
  tr : Tok
noncomputable abbrev PlayC.led (c : PlayC) (cA : Addr) (g : Obj → Led) : Led := (cA, c.co) :: (c.own ++ g (listOf c.vs.toArray c.n))
noncomputable abbrev PlayC.ps (c : PlayC) : List (Str × Value) := [(Str.ofString "source", .int c.M.src c.ts), (Str.ofString "goal", .int c.M.goal c.tg), (Str.ofString "left", .int c.M.left c.tl), (Str.ofString "low", .int c.M.low c.tw), (Str.ofString "six", .ref c.six), (Str.ofString "rounds", .int c.k c.tr), (Str.ofString "going", .bool c.going)]
structure PlayF (cA rowA : Addr) (g : Obj → Led) (ahead : Nat) (c : PlayC) : Prop where
  fI : IntsAre c.vs c.M.row
  fL : c.M.row.length = 128
  fO : Octs c.M.row
  fC : ∃ x, c.co.data = .cell x
  f6 : ∃ t0 t1 t2 t3 t4 t5, (c.six, sixT c.M.six t0 t1 t2 t3 t4 t5) ∈ c.own ++ g (listOf c.vs.toArray c.n)
  fR : ∀ p ∈ c.own, @LT.lt Nat _ cA p.1
  fU : ∀ p ∈ g (listOf c.vs.toArray c.n), @LT.lt Nat _ p.1 cA
  fS : 48 - 8 * (c.k : Int) ≤ c.M.src ∧ c.M.src ≤ 63 + 8 * (c.k : Int)
  fG : 48 - 8 * (c.k : Int) ≤ c.M.goal ∧ c.M.goal ≤ 63 + 8 * (c.k : Int)
  fW : c.k ≤ 5 ∧ (c.going = true → c.k < 5)
  fF : 0 ≤ c.M.left ∧ (ahead ≠ 0 → c.M.left + (c.k : Int) ≤ 5)
theorem playF_zero {cA rowA sixA : Addr} {g : Obj → Led} {ahead : Nat} {M0 : Mach} {vs : List Value} {n : Nat} {co : Obj} {x : Option Value} {t4 t5 t6 t7 t8 t9 ts tg tl tw tr : Tok} (hI : IntsAre vs M0.row) (hl : M0.row.length = 128) (h8 : Octs M0.row) (hc : co.data = .cell x) (h6 : (sixA, sixT M0.six t4 t5 t6 t7 t8 t9) ∈ g (listOf vs.toArray n))
    (ho : ∀ p ∈ g (listOf vs.toArray n), @LT.lt Nat _ p.1 cA) (r1 : 48 ≤ M0.src ∧ M0.src ≤ 63) (r2 : 48 ≤ M0.goal ∧ M0.goal ≤ 63) (r3 : 0 ≤ M0.left ∧ (ahead ≠ 0 → M0.left ≤ 5)) : PlayF cA rowA g ahead ⟨M0, 0, startB ahead M0.left, co, [], sixA, vs, n, ts, tg, tl, tw, tr⟩ :=
  ⟨hI, hl, h8, ⟨x, hc⟩, ⟨_, _, _, _, _, _, h6⟩, fun p hp => (nomatch hp), ho, by simpa using r1, by simpa using r2, ⟨Nat.zero_le _, fun _ => (by decide : 0 < 5)⟩, by simpa using r3⟩
theorem play_while {prog : Program} {w : World} {A : Around} {E : Value → Shared → Prop} {Q : Flow → Shared → Prop} {s : Shared} {env : Env} {h₀ : Heap} {L : Addr} {test : PySem.Expr} {body : List Stmt} {pos : Pos} {m₀ : Str → Option Value}
    {cA rowA sixA : Addr} {co : Obj} {g : Obj → Led} {sort ahead : Nat} {size H down : Int} {W : Nat} {M0 : Mach} {vs : List Value} {n : Nat} {ts tg tl tw tr : Tok}
    (F : Fr h₀ L s.heap m₀) (N : News h₀ L s.heap ((cA, co) :: g (listOf vs.toArray n))) (hf : PlayF cA rowA g ahead ⟨M0, 0, startB ahead M0.left, co, [], sixA, vs, n, ts, tg, tl, tw, tr⟩)
    (hk : ∀ p ∈ PlayC.ps ⟨M0, 0, startB ahead M0.left, co, [], sixA, vs, n, ts, tg, tl, tw, tr⟩, m₀ p.1 = some p.2)
    (turn : ∀ (c : PlayC) (u : Str → Option Value) h tk, PlayF cA rowA g ahead c → After sort ahead size H W down M0 c.k c.M c.going → Fr h₀ L h (kstB (fun z => if [Str.ofString "there", Str.ofString "here"].contains z then u z else m₀ z) c.ps) → News h₀ L h (c.led cA g) →
      wpAny (model prog w) A (isTrue test env (eval test env)) (fun b s₂ =>
        if b = true then wpAny (model prog w) A (execs body env) (KswPost h₀ L s (fun c => PlayC.led c cA g) PlayC.ps (PlayF cA rowA g ahead) [Str.ofString "there", Str.ofString "here"] m₀ (fun c => After sort ahead size H W down M0 c.k c.M c.going) (fun c => if c.going then c.M.left.toNat + 1 else 0) Q c) E s₂ else Q .next s₂) E { s with heap := h, toks := tk })
    (hE : PassesOwn (model prog w) A env E := by passes_own) :
    wpAny (model prog w) A (exec (.While test body [] pos) env) Q E s :=
  ksw_while (σ := PlayC) (fun c => c.led cA g) (fun c => c.ps) (PlayF cA rowA g ahead) [Str.ofString "there", Str.ofString "here"] (fun c => After sort ahead size H W down M0 c.k c.M c.going) (fun c => if c.going then c.M.left.toNat + 1 else 0)
    ⟨M0, 0, startB ahead M0.left, co, [], sixA, vs, n, ts, tg, tl, tw, tr⟩ F N hf hk after_zero turn hE
theorem mach_a {sort ahead : Nat} {size H down : Int} {W : Nat} {M : Mach} (h : (ahead : Int) = 0) : (⟨(mstep sort ahead size H W down M).src, (mstep sort ahead size H W down M).goal, M.left, (mstep sort ahead size H W down M).low, (mstep sort ahead size H W down M).six, (mstep sort ahead size H W down M).row⟩ : Mach) = mstep sort ahead size H W down M := by
  have e : (mstep sort ahead size H W down M).left = M.left := if_pos (by omega)
  rw [← e]
theorem mach_b {sort ahead : Nat} {size H down : Int} {W : Nat} {M : Mach} (h : ¬ (ahead : Int) = 0) : (⟨(mstep sort ahead size H W down M).src, (mstep sort ahead size H W down M).goal, M.left - 1, (mstep sort ahead size H W down M).low, (mstep sort ahead size H W down M).six, (mstep sort ahead size H W down M).row⟩ : Mach) = mstep sort ahead size H W down M := by
  have e : (mstep sort ahead size H W down M).left = M.left - 1 := if_neg (by omega)
  rw [← e]
theorem after_left {sort ahead : Nat} {size H down : Int} {W : Nat} {M0 M : Mach} {k : Nat} (h : After sort ahead size H W down M0 k M true) (h0 : ahead ≠ 0) : 0 < M.left := by
  obtain ⟨h1, h2, h3⟩ := h
  by_cases hk : k = 0
  · subst hk
    rw [if_pos rfl] at h3
    have : M = M0 := h1
    subst this
    have := h3.symm
    unfold startB at this
    rw [decide_eq_false h0] at this
    simpa using this
  · rw [if_neg hk] at h3
    have := h3.symm
    unfold goesB at this
    rw [if_neg h0] at this
    have := (Bool.and_eq_true_iff.mp this).1
    simpa using this
theorem play_end {sort ahead : Nat} {size H down : Int} {W : Nat} {M0 M M' : Mach} {k : Nat} {going' : Bool} {co co' : Obj} {own own' : Led} {six six' cA rowA : Addr} {vs vs' : List Value} {n n' : Nat} {ts tg tl tw tr ts' tg' tl' tw' tr' : Tok} {g : Obj → Led} {h₀ h' : Heap} {L : Addr} {s : Shared} {m₀ m' : Str → Option Value} {tk : Nat} {x : Option Value} {t0 t1 t2 t3 t4 t5 : Tok}
    (hz : SizeW size H W) (hP : After sort ahead size H W down M0 k M true) (fS : 48 - 8 * (k : Int) ≤ M.src ∧ M.src ≤ 63 + 8 * (k : Int)) (fG : 48 - 8 * (k : Int) ≤ M.goal ∧ M.goal ≤ 63 + 8 * (k : Int)) (fW : k < 5) (fF : 0 ≤ M.left ∧ (ahead ≠ 0 → M.left + (k : Int) ≤ 5))
    (F : Fr h₀ L h' m') (N : News h₀ L h' ((cA, co') :: (own' ++ g (listOf vs'.toArray n'))))
    (hk : ∀ p ∈ PlayC.ps ⟨M', k + 1, going', co', own', six', vs', n', ts', tg', tl', tw', tr'⟩, m' p.1 = some p.2) (hr : ∀ z, (∀ p ∈ PlayC.ps ⟨M', k + 1, going', co', own', six', vs', n', ts', tg', tl', tw', tr'⟩, z ≠ p.1) → [Str.ofString "there", Str.ofString "here"].contains z = false → m' z = m₀ z)
    (hM : M' = mstep sort ahead size H W down M) (hg : going' = goesB sort ahead M')
    (fI : IntsAre vs' M'.row) (fL : M'.row.length = 128) (fO : Octs M'.row) (fC : co'.data = .cell x) (f6 : (six', sixT M'.six t0 t1 t2 t3 t4 t5) ∈ own' ++ g (listOf vs'.toArray n')) (fR : ∀ p ∈ own', @LT.lt Nat _ cA p.1) (fU : ∀ p ∈ g (listOf vs'.toArray n'), @LT.lt Nat _ p.1 cA) :
    KswEnd h₀ L s (fun c => PlayC.led c cA g) PlayC.ps (PlayF cA rowA g ahead) [Str.ofString "there", Str.ofString "here"] m₀ (fun c => After sort ahead size H W down M0 c.k c.M c.going) (fun c => if c.going then c.M.left.toNat + 1 else 0) ⟨M, k, true, co, own, six, vs, n, ts, tg, tl, tw, tr⟩ { s with heap := h', toks := tk } := by
  subst hM hg
  have hW8 := (sizeW_n hz).2.2.1
  have hst : -8 ≤ stepI down W ∧ stepI down W ≤ 8 := by unfold stepI; split <;> omega
  have e1 : (mstep sort ahead size H W down M).src = M.src ∨ (mstep sort ahead size H W down M).src = M.src + stepI down W := by show (if _ then _ else _) = _ ∨ (if _ then _ else _) = _; split <;> simp
  have e2 : (mstep sort ahead size H W down M).goal = M.goal ∨ (mstep sort ahead size H W down M).goal = M.goal + stepI down W := by show (if _ then _ else _) = _ ∨ (if _ then _ else _) = _; split <;> simp
  have e3 : ahead ≠ 0 → (mstep sort ahead size H W down M).left = M.left - 1 := fun h => if_neg h
  have e4 : ahead = 0 → (mstep sort ahead size H W down M).left = M.left := fun h => if_pos h
  have e5 : goesB sort ahead (mstep sort ahead size H W down M) = true → ahead ≠ 0 ∧ 0 < (mstep sort ahead size H W down M).left := by
    intro h
    unfold goesB at h
    by_cases h0 : ahead = 0
    · rw [if_pos h0] at h; cases h
    · rw [if_neg h0] at h
      exact ⟨h0, by simpa using (Bool.and_eq_true_iff.mp h).1⟩
  have hleft := fun h0 => after_left hP h0
  refine ksw_end _ F N (fun p hp => hp) ⟨fI, fL, fO, ⟨_, fC⟩, ⟨_, _, _, _, _, _, f6⟩, fR, fU, ?_, ?_, ⟨?_, ?_⟩, ⟨?_, ?_⟩⟩ hk hr (after_next hP) ?_
  · dsimp only; omega
  · dsimp only; omega
  · dsimp only; omega
  · dsimp only
    intro h
    obtain ⟨h0, hl⟩ := e5 h
    have := e3 h0
    have := fF.2 h0
    omega
  · dsimp only
    by_cases h0 : ahead = 0
    · rw [e4 h0]; exact fF.1
    · rw [e3 h0]; have := hleft h0; omega
  · dsimp only
    intro h0
    have := e3 h0
    have := fF.2 h0
    omega
  · dsimp only
    rw [if_pos rfl]
    split
    · rename_i h
      obtain ⟨h0, hl⟩ := e5 h
      have := e3 h0
      omega
    · omega
theorem goes_a {sort ahead : Nat} {M : Mach} (h : (ahead : Int) = 0) : false = goesB sort ahead M := (if_pos (by omega)).symm
theorem goes_b {sort ahead : Nat} {M : Mach} (hs : sort ≠ 1 ∧ sort ≠ 4) (h0 : ¬ (ahead : Int) = 0) (h : 0 < M.left) : true = goesB sort ahead M := by
  unfold goesB
  rw [if_neg (by omega), decide_eq_true hs, decide_eq_true (show M.left > 0 from h)]; rfl
theorem goes_c {sort ahead : Nat} {M : Mach} (h0 : ¬ (ahead : Int) = 0) (h : ¬ 0 < M.left) : decide (0 < M.left) = goesB sort ahead M := by
  unfold goesB
  rw [if_neg (by omega), decide_eq_false (show ¬ M.left > 0 from h)]; rfl
theorem goes_d {sort ahead : Nat} {M : Mach} (hs : sort = 1 ∨ sort = 4) (h0 : ¬ (ahead : Int) = 0) (h : 0 < M.left) : decide (M.six.z = 2 - (ahead : Int)) = goesB sort ahead M := by
  unfold goesB
  rw [if_neg (by omega), decide_eq_false (show ¬ (sort ≠ 1 ∧ sort ≠ 4) by omega), decide_eq_true (show M.left > 0 from h)]; simp
theorem goes_e {sort ahead : Nat} {a b l w : Int} {z : Six} {r : List Int} (h0 : ¬ (ahead : Int) = 0) (h : ¬ 0 < l) : decide (0 < l) = goesB sort ahead ⟨a, b, l, w, z, r⟩ := goes_c (M := ⟨a, b, l, w, z, r⟩) h0 h
theorem updF_other {d : Addr} {o ob : Obj} {a : Addr} {l : Led} {g : Obj → Led} (U : UpdF d o l g) {o1 : Obj} (h : (a, ob) ∈ g o1) (hne : ob ≠ o1) (o' : Obj) : (a, ob) ∈ g o' := by
  obtain ⟨pre, post, _, b, _⟩ := U.split
  rw [b] at h ⊢
  rcases List.mem_append.mp h with h | h
  · exact List.mem_append_left _ h
  · rcases List.mem_cons.mp h with h | h
    · exact absurd (Prod.mk.inj h).2 hne
    · exact List.mem_append_right _ (.tail _ h)
theorem updF_kept {d : Addr} {o ob : Obj} {a : Addr} {l own : Led} {g : Obj → Led} (U : UpdF d o l g) {o1 : Obj} (h : (a, ob) ∈ own ++ g o1) (hne : ob ≠ o1) (o' : Obj) : (a, ob) ∈ own ++ g o' := by
  rcases List.mem_append.mp h with h | h
  · exact List.mem_append_left _ h
  · exact List.mem_append_right _ (updF_other U h hne o')
theorem updF_low {d cA : Addr} {o : Obj} {l : Led} {g : Obj → Led} (U : UpdF d o l g) {o1 : Obj} (h : ∀ p ∈ g o1, @LT.lt Nat _ p.1 cA) (o' : Obj) : ∀ p ∈ g o', @LT.lt Nat _ p.1 cA := by
  intro p hp
  have : p.1 ∈ (g o').map (·.1) := List.mem_map.mpr ⟨p, hp, rfl⟩
  rw [updF_addr U o' o1] at this
  obtain ⟨q, hq, e⟩ := List.mem_map.mp this
  rw [← e]
  exact h q hq
theorem off_all {cA : Addr} {own l : Led} (h : ∀ p ∈ own, @LT.lt Nat _ cA p.1) (h2 : ∀ p ∈ l, @LT.lt Nat _ p.1 cA) : ∀ p ∈ own ++ l, p.1 ≠ cA := by
  intro p hp
  rcases List.mem_append.mp hp with hp | hp
  · exact Nat.ne_of_gt (h p hp)
  · exact Nat.ne_of_lt (h2 p hp)
noncomputable abbrev playT (M : Mach) (k : Nat) (six : Addr) (s0 s1 s2 s3 s4 : Tok) : Obj := { cls := .type "tuple", data := .seq #[.int M.src s0, .int M.goal s1, .int M.left s2, .int M.low s3, .ref six, .int k s4] }
noncomputable def RetPlay (sort ahead : Nat) (size H : Int) (W : Nat) (down : Int) (M0 : Mach) (g : Obj → Led) (h₀ : Heap) (L : Addr) (m : Str → Option Value) (s : Shared) (Q : Value → Shared → Prop) : Prop :=
  ∀ (D six : Addr) (M : Mach) (k : Nat) (vs : List Value) (n : Nat) (own : Led) (t0 t1 t2 t3 t4 t5 s0 s1 s2 s3 s4 : Tok) (h' : Heap) (tk' : Nat), After sort ahead size H W down M0 k M false → k ≤ 5 → IntsAre vs M.row → M.row.length = 128 → Octs M.row →
    (six, sixT M.six t0 t1 t2 t3 t4 t5) ∈ own ++ g (listOf vs.toArray n) → (∀ p ∈ own, ∀ q ∈ g (listOf vs.toArray n), @LT.lt Nat _ q.1 p.1) → (∀ p ∈ own ++ g (listOf vs.toArray n), p.1 < D) → Fr h₀ L h' m → News h₀ L h' ((D, playT M k six s0 s1 s2 s3 s4) :: (own ++ g (listOf vs.toArray n))) → Q (.ref D) { s with heap := h', toks := tk' }
theorem endPlay {sort ahead : Nat} {size H : Int} {W : Nat} {down : Int} {M0 M : Mach} {g : Obj → Led} {h₀ h' : Heap} {L : Addr} {m : Str → Option Value} {s : Shared} {Q : Value → Shared → Prop} {D six cA : Addr} {co : Obj} {k : Nat} {vs : List Value} {n : Nat} {own : Led} {t0 t1 t2 t3 t4 t5 s0 s1 s2 s3 s4 : Tok} {tk' : Nat}
    (hret : RetPlay sort ahead size H W down M0 g h₀ L m s Q) (hP : After sort ahead size H W down M0 k M false) (hk : k ≤ 5) (fI : IntsAre vs M.row) (fL : M.row.length = 128) (fO : Octs M.row) (f6 : (six, sixT M.six t0 t1 t2 t3 t4 t5) ∈ own ++ g (listOf vs.toArray n))
    (fR : ∀ p ∈ own, @LT.lt Nat _ cA p.1) (fU : ∀ p ∈ g (listOf vs.toArray n), @LT.lt Nat _ p.1 cA) (hl : ∀ p ∈ (cA, co) :: (own ++ g (listOf vs.toArray n)), p.1 < D) (F : Fr h₀ L h' m) (N : News h₀ L h' ((D, playT M k six s0 s1 s2 s3 s4) :: (cA, co) :: (own ++ g (listOf vs.toArray n)))) : Q (.ref D) { s with heap := h', toks := tk' } :=
  hret D six M k vs n ((cA, co) :: own) _ _ _ _ _ _ _ _ _ _ _ h' tk' hP hk fI fL fO (.tail _ f6) (fun p hp q hq => by
    rcases List.mem_cons.mp hp with rfl | hp
    · exact fU q hq
    · exact Nat.lt_trans (fU q hq) (fR p hp)) hl F N
theorem pick3 {h₀ h : Heap} {L : Addr} {a b c d : Addr × Obj} {l : Led} (N : News h₀ L h (a :: b :: c :: d :: l)) : News h₀ L h (d :: a :: l) := fun p hp => N p (by
  rcases List.mem_cons.mp hp with rfl | hp
  · exact .tail _ (.tail _ (.tail _ (.head _)))
  · rcases List.mem_cons.mp hp with rfl | hp
    · exact .head _
    · exact .tail _ (.tail _ (.tail _ (.tail _ hp))))
theorem six_ne {z : Six} {t0 t1 t2 t3 t4 t5 : Tok} {xs : Array Value} {n : Nat} : sixT z t0 t1 t2 t3 t4 t5 ≠ listOf xs n := by
  intro h
  exact absurd (congrArg Obj.cls h) (show ¬ (Value.type "tuple" = Value.type "list") by decide)
theorem putB_octs {row : List Int} (h : Octs row) (i : Nat) (x : Int) : ∀ j, Octs (putB row i x j)
  | 0 => h
  | j + 1 => by
    intro y hy
    rw [putB] at hy
    rcases List.mem_or_eq_of_mem_set hy with hy | rfl
    · exact putB_octs h i x j y hy
    · omega
theorem leVal_digit : ∀ (l : List Int), Octs l → ∀ j, j < l.length → leVal l / 256 ^ j % 256 = l.getD j 0
  | [], _, j, hj => by simp at hj
  | x :: r, h, 0, _ => by
    have h1 := h x (.head _)
    simp only [leVal, Int.pow_zero, Int.ediv_one, List.getD_cons_zero]
    omega
  | x :: r, h, j + 1, hj => by
    have ih := leVal_digit r (fun y hy => h y (.tail _ hy)) j (by simpa using hj)
    have h1 := h x (.head _)
    simp only [leVal, List.getD_cons_succ]
    rw [← ih, Int.pow_succ, Int.mul_comm (256 ^ j) 256, ← Int.ediv_ediv_of_nonneg (by decide)]
    congr 2
    omega
theorem putB_get {row : List Int} (i : Nat) (x : Int) : ∀ (W q : Nat), i + W ≤ row.length → (putB row i x W)[q]? = if i ≤ q ∧ q < i + W then some (x / 256 ^ (q - i) % 256) else row[q]?
  | 0, q, _ => by rw [if_neg (by omega)]; rfl
  | W + 1, q, h => by
    rw [putB, List.getElem?_set, putB_get i x W q (by omega), putB_length]
    by_cases h1 : i + W = q
    · subst h1
      rw [if_pos rfl, if_pos (by omega), if_pos (by omega), Nat.add_sub_cancel_left]
    · rw [if_neg h1]
      by_cases h2 : i ≤ q ∧ q < i + W
      · rw [if_pos h2, if_pos (by omega)]
      · rw [if_neg h2, if_neg (by omega)]
theorem slice_putB {row ws : List Int} {i W : Nat} {x : Int} (h : i + W ≤ row.length) (hw : ws.length = W) (hx : ∀ j, j < W → x / 256 ^ j % 256 = ws.getD j 0) : row.take i ++ ws ++ row.drop (i + W) = putB row i x W := by
  apply List.ext_getElem?
  intro q
  rw [putB_get i x W q h, List.getElem?_append, List.getElem?_append, List.length_append, List.length_take, Nat.min_eq_left (by omega), hw]
  by_cases h1 : q < i
  · rw [if_pos (by omega), if_pos h1, if_neg (by omega), List.getElem?_take_of_lt h1]
  · by_cases h2 : q < i + W
    · rw [if_pos h2, if_neg h1, if_pos (by omega), hx (q - i) (by omega), List.getD_eq_getElem?_getD, List.getElem?_eq_getElem (by omega)]
      rfl
    · rw [if_neg h2, if_neg (by omega), List.getElem?_drop, show i + W + (q - (i + W)) = q by omega]
theorem slice_move {row : List Int} {i j W : Nat} (h8 : Octs row) (h : i + W ≤ row.length) (h2 : j + W ≤ row.length) : row.take i ++ (row.drop j).take W ++ row.drop (i + W) = putB row i (leAt row j W) W := by
  have hl : ((row.drop j).take W).length = W := by rw [List.length_take, List.length_drop]; omega
  refine slice_putB h hl fun q hq => leVal_digit _ (fun x hx => h8 x (List.mem_of_mem_drop (List.mem_of_mem_take hx))) q (by rw [hl]; exact hq)
theorem ints_slice {vs ws : List Value} {row wr : List Int} (h : IntsAre vs row) (hw : IntsAre ws wr) (i j : Nat) : IntsAre (vs.take i ++ ws ++ vs.drop j) (row.take i ++ wr ++ row.drop j) := ((h.take i).append hw).append (h.drop j)
end
set_option hygiene false in
local macro_rules | `(tactic| k_updF) => `(tactic| first | exact UpdF.head fUU | exact fRow)

theorem goes_g {sort ahead : Nat} {a b l w z0 : Int} {z : Six} {r : List Int} (e : z0 = z.z) (hs : sort = 1 ∨ sort = 4) (h0 : ¬ (ahead : Int) = 0) (h : 0 < l) : (z0 == 2 - (ahead : Int)) = goesB sort ahead ⟨a, b, l, w, z, r⟩ := by
  subst e
  rw [← goes_d (M := ⟨a, b, l, w, z, r⟩) hs h0 h]; rfl

theorem low_eq {size H x : Int} {W : Nat} (hz : SizeW size H W) : x.fmod (256 ^ (W : Int).toNat) = x % (2 * H) := by
  have h := (sizeW_n hz)
  rw [Int.toNat_natCast, h.2.1, Int.fmod_eq_emod_of_nonneg _ (by omega)]
theorem low_ok {size H x : Int} {W : Nat} (hz : SizeW size H W) : 0 ≤ x.fmod (256 ^ (W : Int).toNat) ∧ x.fmod (256 ^ (W : Int).toNat) < 2 * H := by
  have h := (sizeW_n hz)
  rw [Int.toNat_natCast, h.2.1, Int.fmod_eq_emod_of_nonneg _ (by omega)]
  exact ⟨Int.emod_nonneg _ (by omega), Int.emod_lt_of_pos _ (by omega)⟩

theorem low_a {size H down : Int} {W ahead : Nat} {M : Mach} (hz : SizeW size H W) (h : 2 < (W : Int)) : leVal ((M.row.drop M.src.toNat).take W) = (mstep 3 ahead size H W down M).low := by
  show _ = joinV M.low (leAt M.row M.src.toNat W) size
  unfold joinV
  rw [if_pos (by rcases hz with ⟨rfl, _, rfl⟩ | ⟨rfl, _, rfl⟩ | ⟨rfl, _, rfl⟩ | ⟨rfl, _, rfl⟩ <;> omega)]
  rfl
theorem low_b {size H down : Int} {W ahead : Nat} {M : Mach} (hz : SizeW size H W) (h : ¬ 2 < (W : Int)) : M.low - M.low.fmod (256 ^ (W : Int).toNat) + leVal ((M.row.drop M.src.toNat).take W) = (mstep 3 ahead size H W down M).low := by
  show _ = joinV M.low (leAt M.row M.src.toNat W) size
  rw [low_eq hz]
  unfold joinV
  rw [if_neg (by rcases hz with ⟨rfl, _, rfl⟩ | ⟨rfl, _, rfl⟩ | ⟨rfl, _, rfl⟩ | ⟨rfl, _, rfl⟩ <;> omega), (sizeH_pow (sizeW_h hz)).1]
  rfl
theorem mach_l {sort ahead : Nat} {size H down : Int} {W : Nat} {M : Mach} {l v : Int} (h1 : v = (mstep sort ahead size H W down M).low) (h2 : l = (mstep sort ahead size H W down M).left) : (⟨(mstep sort ahead size H W down M).src, (mstep sort ahead size H W down M).goal, l, v, (mstep sort ahead size H W down M).six, (mstep sort ahead size H W down M).row⟩ : Mach) = mstep sort ahead size H W down M := by
  subst h1 h2; rfl
theorem left_a {sort ahead : Nat} {size H down : Int} {W : Nat} {M : Mach} (h : (ahead : Int) = 0) : M.left = (mstep sort ahead size H W down M).left := (if_pos (by omega)).symm
theorem left_b {sort ahead : Nat} {size H down : Int} {W : Nat} {M : Mach} (h : ¬ (ahead : Int) = 0) : M.left - 1 = (mstep sort ahead size H W down M).left := (if_neg (by omega)).symm

theorem off1_mem {D : Addr} : ∀ {l : Led}, PyProof.Rows.LCg.Off1 D l → ∀ {p : Addr × Obj}, p ∈ l → @Ne Nat p.1 D
  | [], _, p, hp => nomatch hp
  | q :: r, h, p, hp => by
    rcases List.mem_cons.mp hp with rfl | hp
    · exact h.1
    · exact off1_mem h.2 hp
theorem off1_three {D a b c : Addr} {l : Led} {p : Addr × Obj} (h : (@Ne Nat a D) ∧ (@Ne Nat b D) ∧ (@Ne Nat c D) ∧ PyProof.Rows.LCg.Off1 D l) (hp : p ∈ l) : @Ne Nat p.1 D := off1_mem h.2.2.2 hp
theorem stos_digits {size H x : Int} {W : Nat} (hz : SizeW size H W) : ∀ j, j < W → x % (2 * H) / 256 ^ j % 256 = ((rangeKs 0 ((W : Int) - 0).toNat).map fun k => ((x.fmod (256 ^ (W : Int).toNat)).fdiv (256 ^ k.toNat)).fmod 256).getD j 0 := by
  intro j hj
  rw [List.getD_eq_getElem?_getD, List.getElem?_map]
  have e : (rangeKs 0 ((W : Int) - 0).toNat)[j]? = some (j : Int) := by rw [show ((W : Int) - 0).toNat = W by omega]; simp [rangeKs, hj]
  rw [e, low_eq hz]
  simp only [Option.map_some, Option.getD_some, Int.toNat_natCast]
  rw [Int.fmod_eq_emod_of_nonneg _ (by decide), Int.fdiv_eq_ediv_of_nonneg _ (Int.le_of_lt (pw_pos j))]
theorem ints_stos {size H x : Int} {W i : Nat} {vs ws : List Value} {row : List Int} (hz : SizeW size H W) (hI : IntsAre vs row) (h : i + W ≤ row.length) (hw : IntsAre ws ((rangeKs 0 ((W : Int) - 0).toNat).map fun k => ((x.fmod (256 ^ (W : Int).toNat)).fdiv (256 ^ k.toNat)).fmod 256)) :
    IntsAre (vs.take i ++ ws ++ vs.drop (i + W)).toArray.toList (putB row i (x % (2 * H)) W) := by
  rw [← slice_putB h (by rw [List.length_map, rangeKs_length]; omega) (stos_digits hz)]
  exact ints_slice hI hw _ _
theorem k16 {k : Int} {W : Nat} (h : k < 0 + ((((W : Int) - 0).toNat : Nat) : Int)) (hW : W ≤ 8) : k.toNat ≤ 16 := by omega
theorem k16i {k : Int} {W : Nat} (h : k < 0 + ((((W : Int) - 0).toNat : Nat) : Int)) (hW : W ≤ 8) : k < 100 := by omega
theorem pow256_use {prog : Program} {w : World} {A : Around} {E : Value → Shared → Prop} {s : Shared} {k : Int} {t u : Tok} {Q : Value → Shared → Prop} (h0 : 0 ≤ k) (h1 : k < 100) (h : Q (.int (256 ^ k.toNat) s.toks) { s with toks := s.toks + 1 }) : wpAny (model prog w) A (binaryOp .Pow (.int 256 t) (.int k u)) Q E s :=
  pow_int_small (by omega) (by omega) (by decide) h

section
/-- a cell's rest by a small number -/
noncomputable def modN (a b : Int) : Nat := (a % b).toNat
theorem modN_ex (a b : Int) (h : 0 < b) : ∃ n : Nat, modN a b = n ∧ (n : Int) < b := ⟨modN a b, rfl, by
  have := Int.emod_nonneg a (Int.ne_of_gt h)
  have := Int.emod_lt_of_pos a h
  unfold modN; omega⟩
section
variable {prog : Program} {w : World} {A : Around} {E : Value → Shared → Prop} {s : Shared}
theorem modN_use {a b : Int} {n : Nat} {t u : Tok} {Q : Value → Shared → Prop} (e : modN a b = n) (hb : 0 < b ∧ b < 20) (h : Q (.int (n : Int) s.toks) { s with toks := s.toks + 1 }) : wpAny (model prog w) A (binaryOp .Mod (.int a t) (.int b u)) Q E s := by
  refine mod_int' (by omega) ?_
  subst e
  have := Int.emod_nonneg a (show b ≠ 0 by omega)
  rw [Int.fmod_eq_emod_of_nonneg _ (by omega)]
  unfold modN at h
  rw [Int.toNat_of_nonneg this] at h
  exact h
theorem pow2_use {e : Nat} {t u : Tok} {Q : Value → Shared → Prop} (he : e < 4) (h : Q (.int (((2 ^ e : Nat) : Int)) s.toks) { s with toks := s.toks + 1 }) : wpAny (model prog w) A (binaryOp .Pow (.int 2 t) (.int (e : Int) u)) Q E s := by
  refine pow_int_small (by omega) (by omega) (by decide) ?_
  have e1 : (2 : Int) ^ (e : Int).toNat = ((2 ^ e : Nat) : Int) := by rw [Int.toNat_natCast]; simp
  rw [e1]; exact h
/-- both ways of a statement that turns one name meet behind it -/
theorem joinStmt {tree : Sem Flow} {h₀ : Heap} {L : Addr} {m : Str → Option Value} {news : Led} {Q : Flow → Shared → Prop} (nm : Str) (V : Int) (_F : Fr h₀ L s.heap m) (_N : News h₀ L s.heap news)
    (hw : ∀ q : Flow → Shared → Prop, (∀ t h' tk', Fr h₀ L h' (fun z => if z = nm then some (.int V t) else m z) → News h₀ L h' news → q .next { s with heap := h', toks := tk' }) → wpAny (model prog w) A tree q E s)
    (hc : ∀ t h' tk', Fr h₀ L h' (fun z => if z = nm then some (.int V t) else m z) → News h₀ L h' news → Q .next { s with heap := h', toks := tk' }) : wpAny (model prog w) A tree Q E s := hw Q hc
end
theorem stmt_same {h₀ h' : Heap} {L : Addr} {m : Str → Option Value} {news : Led} {s : Shared} {q : Flow → Shared → Prop} {nm : Str} {V : Int} {t : Tok} {tk : Nat}
    (hq : ∀ t h' tk', Fr h₀ L h' (fun z => if z = nm then some (.int V t) else m z) → News h₀ L h' news → q .next { s with heap := h', toks := tk' }) (F : Fr h₀ L h' m) (N : News h₀ L h' news) (e : m nm = some (.int V t)) : q .next { s with heap := h', toks := tk } := by
  refine hq t h' tk ?_ N
  have : (fun z => if z = nm then some (.int V t) else m z) = m := by
    funext z
    by_cases h : z = nm
    · rw [if_pos h, h, e]
    · rw [if_neg h]
  rw [this]; exact F
theorem stmt_set {h₀ h' : Heap} {L : Addr} {m : Str → Option Value} {news : Led} {s : Shared} {q : Flow → Shared → Prop} {nm : Str} {V x : Int} {t : Tok} {tk : Nat}
    (hq : ∀ t h' tk', Fr h₀ L h' (fun z => if z = nm then some (.int V t) else m z) → News h₀ L h' news → q .next { s with heap := h', toks := tk' }) (F : Fr h₀ L h' (fun z => if z = nm then some (.int x t) else m z)) (N : News h₀ L h' news) (e : x = V) : q .next { s with heap := h', toks := tk } := by
  subst e
  exact hq t h' tk F N
theorem menu_list {s : Shared} {news : Led} {h₀ : Heap} {L D : Addr} {A : Around} {vs : List Value} {ws : List PySem.Str} {n i : Nat} {u : Tok} {value slice : PySem.Expr} {so : PySem.Str} {Q : Value → Shared → Prop} {E : Value → Shared → Prop} {prog : Program} {w : World}
    (N : News h₀ L s.heap news) (hm : (D, listOf vs.toArray n) ∈ news) (hw : StrsAre vs ws) (hi : i < ws.length) (hl : ws.length ≤ 8) (e : ws.getD i PySem.Str.empty = so) (h : ∀ t, Q (.str so t) s)
    (hs : subscripted slice false (.ref D) (.int (i : Int) u) = operate [.ref D, .int i u] (getItem (.ref D) (.int i u)) := by with_unfolding_all rfl) : wpAny (model prog w) A (subscriptTail value slice (.ref D) (.int (i : Int) u)) Q E s :=
  have hl2 : s.heap.IsList D vs.toArray := PySem.IsL.isList (n := n) (N _ hm).1
  PySem.W.KTb.item_list hl2 hw (by omega) (by omega) (by omega) (fun t' _ => by rw [Int.toNat_natCast, e]; exact h t') hs
theorem menu_sort {sort : Nat} (h : (sort : Int) < 5) : [Str.ofString "movs", Str.ofString "cmps", Str.ofString "stos", Str.ofString "lods", Str.ofString "scas"].getD sort PySem.Str.empty = sortStr sort := by
  have h : sort < 5 := by omega
  match sort, h with
  | 0, _ => rfl
  | 1, _ => rfl
  | 2, _ => rfl
  | 3, _ => rfl
  | 4, _ => rfl
theorem menu_pref {a : Nat} (h : a < 3) : [Str.ofString "", Str.ofString "rep", Str.ofString "repne"].getD a PySem.Str.empty = prefStr a := by
  match a, h with
  | 0, _ => rfl
  | 1, _ => rfl
  | 2, _ => rfl
noncomputable def toldStr (sort e : Nat) : Str := sortStr sort ++ wideStr e
theorem told_facts {sort e : Nat} (h : sort < 5) (h2 : e < 4) : (toldStr sort e).length = 5 ∧ Txt.slice (toldStr sort e) none (some 4) = sortStr sort ∧ Txt.find (Str.ofString "bwdq") (Txt.item (toldStr sort e) 4) = (e : Int) ∧ Txt.item (Str.ofString "bwdq") (e : Int) = wideStr e ∧ (sortStr sort).length + (wideStr e).length ≤ 16 := by
  have hs : sort = 0 ∨ sort = 1 ∨ sort = 2 ∨ sort = 3 ∨ sort = 4 := by omega
  have he : e = 0 ∨ e = 1 ∨ e = 2 ∨ e = 3 := by omega
  rcases hs with rfl | rfl | rfl | rfl | rfl <;> rcases he with rfl | rfl | rfl | rfl <;> decide +kernel
theorem told_use {prog : Program} {w : World} {A : Around} {E : Value → Shared → Prop} {s : Shared} {sort e : Nat} {t u : Tok} {Q : Value → Shared → Prop} (h1 : (sort : Int) < 5) (h2 : (e : Int) < 4) (h : ∀ t' k, Q (.str (toldStr sort e) t') { s with toks := k }) :
    wpAny (model prog w) A (binaryOp .Add (.str (sortStr sort) t) (.str (Txt.item (Str.ofString "bwdq") (e : Int)) u)) Q E s := by
  obtain ⟨_, _, _, e4, e5⟩ := told_facts (sort := sort) (e := e) (by omega) (by omega)
  rw [e4]
  refine SB.add h ?_
  rw [sizeLine_eq]; omega
theorem stmt_kept {h₀ h' : Heap} {L : Addr} {m : Str → Option Value} {news : Led} {s : Shared} {q : Flow → Shared → Prop} {nm : Str} {V x : Int} {tk : Nat}
    (hq : ∀ t h' tk', Fr h₀ L h' (fun z => if z = nm then some (.int V t) else m z) → News h₀ L h' news → q .next { s with heap := h', toks := tk' }) (F : Fr h₀ L h' m) (N : News h₀ L h' news) (ex : x = V) (e : ∃ t, m nm = some (.int x t)) : q .next { s with heap := h', toks := tk } := by
  subst ex
  obtain ⟨t, e⟩ := e
  exact stmt_same hq F N e
section
variable {a0 sort A : Nat}
theorem ah1 (hA : (if a0 = 2 ∧ (sort = 0 ∨ sort = 2 ∨ sort = 3) then 1 else a0) = A) (a : (a0 : Int) = 2) (b : ([0, 2, 3].any fun x => x == (sort : Int)) = true) : (1 : Int) = (A : Int) := by
  simp only [List.any_cons, List.any_nil, Bool.or_false, Bool.or_eq_true, beq_iff_eq] at b
  rw [if_pos ⟨by omega, by omega⟩] at hA
  omega
theorem ah2 (hA : (if a0 = 2 ∧ (sort = 0 ∨ sort = 2 ∨ sort = 3) then 1 else a0) = A) (b : ([0, 2, 3].any fun x => x == (sort : Int)) = false) : (a0 : Int) = (A : Int) := by
  simp only [List.any_cons, List.any_nil, Bool.or_false, Bool.or_eq_false_iff, beq_eq_false_iff_ne] at b
  rw [if_neg (by omega)] at hA
  omega
theorem ah3 (hA : (if a0 = 2 ∧ (sort = 0 ∨ sort = 2 ∨ sort = 3) then 1 else a0) = A) (a : (a0 : Int) ≠ 2) : (a0 : Int) = (A : Int) := by
  rw [if_neg (by omega)] at hA
  omega
end
/-- the rest by 2 ** 64 -/
noncomputable def topm (a : Int) : Int := a % 18446744073709551616
theorem topm_range (a : Int) : 0 ≤ topm a ∧ topm a < 18446744073709551616 := by unfold topm; omega
section
variable {prog : Program} {w : World} {A : Around} {E : Value → Shared → Prop} {s : Shared}
theorem topm_use {a : Int} {t u : Tok} {Q : Value → Shared → Prop} (h : Q (.int (topm a) s.toks) { s with toks := s.toks + 1 }) : wpAny (model prog w) A (binaryOp .Mod (.int a t) (.int 18446744073709551616 u)) Q E s := by
  refine mod_int' (by omega) ?_
  rw [Int.fmod_eq_emod_of_nonneg _ (by omega)]
  exact h
theorem pow64_use {t u : Tok} {Q : Value → Shared → Prop} (h : Q (.int 18446744073709551616 s.toks) { s with toks := s.toks + 1 }) : wpAny (model prog w) A (binaryOp .Pow (.int 2 t) (.int 64 u)) Q E s := by
  refine pow_int_small (by omega) (by omega) (by decide) ?_
  have e1 : (2 : Int) ^ (64 : Int).toNat = 18446744073709551616 := by decide +kernel
  rw [e1]; exact h
theorem law_set {h₀ : Heap} {L D : Addr} {m : Str → Option Value} {news : Led} {g : Obj → Led} {vs : List Value} {ns : List Int} {n : Nat} {k x : Int} {t u : Tok} {Q : Unit → Shared → Prop} (F : Fr h₀ L s.heap m) (N : News h₀ L s.heap news) (U : UpdF D (listOf vs.toArray n) news g) (hi : IntsAre vs ns) (hl : ns.length = 16) (hk : 0 ≤ k ∧ k < 16)
    (h : ∀ h' vs' ns', ns' = ns.set k.toNat x → Fr h₀ L h' m → News h₀ L h' (g (listOf vs'.toArray n)) → IntsAre vs' ns' → ns'.length = 16 → Q () { s with heap := h' }) :
    wpAny (model prog w) A (setItem (.ref D) (.int k t) (.int x u)) Q E s := by
  obtain ⟨pre, post, rfl, eg, a, b⟩ := U.split
  have z := N (D, listOf vs.toArray n) (List.mem_append.mpr (.inr (.head _)))
  have e1 : vs.length = ns.length := hi.length
  have hs : vs.toArray.size = ns.length := by rw [List.size_toArray]; exact e1
  refine ki_setAt z.1 hk.1 (by omega) (by omega) (h _ (vs.set k.toNat (.int x u)) _ rfl (F.change (Heap.SameBut.update ..) z.2.1 z.2.2) ?_ (ints_set hi _ _ _) (by rw [List.length_set]; exact hl))
  rw [eg]
  refine ki_turn _ N a b ?_ ?_
  · show vs.toArray.setIfInBounds k.toNat (.int x u) = (vs.set k.toNat (.int x u)).toArray
    apply Array.toList_inj.mp
    simp
  · simp
end
theorem pw2_ne (n : Nat) : (2 : Int) ^ n ≠ 0 := Int.ne_of_gt (Int.pow_pos (by decide))
theorem pw2_log {n : Nat} (h : n ≤ 6) : ((2 : Int) ^ n).natAbs.log2 < 9000 := by
  have : n = 0 ∨ n = 1 ∨ n = 2 ∨ n = 3 ∨ n = 4 ∨ n = 5 ∨ n = 6 := by omega
  rcases this with rfl | rfl | rfl | rfl | rfl | rfl | rfl <;> decide +kernel
theorem pow2k_use {prog : Program} {w : World} {A : Around} {E : Value → Shared → Prop} {s : Shared} {k : Int} {t u : Tok} {Q : Value → Shared → Prop} (h0 : 0 ≤ k) (h1 : k < 100) (h : Q (.int (2 ^ k.toNat) s.toks) { s with toks := s.toks + 1 }) : wpAny (model prog w) A (binaryOp .Pow (.int 2 t) (.int k u)) Q E s :=
  pow_int_small (by omega) (by omega) (by decide) h
theorem k6 {k : Int} (h : k < 0 + (((6 - 0 : Int).toNat : Nat) : Int)) : k < 100 := by
  have : (6 - 0 : Int).toNat = 6 := by decide
  omega
theorem k6n {k : Int} (h : k < 0 + (((6 - 0 : Int).toNat : Nat) : Int)) : k.toNat ≤ 6 := by
  have : (6 - 0 : Int).toNat = 6 := by decide
  omega
theorem putB_len {row : List Int} {i : Nat} {x : Int} : ∀ W, (putB row i x W).length = row.length := by
  intro W
  induction W with
  | zero => rfl
  | succ n ih => simp [putB, ih]
theorem mstep_row {sort ahead : Nat} {size H : Int} {W : Nat} {down : Int} {M : Mach} (hl : M.row.length = 128) (ho : Octs M.row) : (mstep sort ahead size H W down M).row.length = 128 ∧ Octs (mstep sort ahead size H W down M).row := by
  unfold mstep
  dsimp only
  split
  · exact ⟨by rw [putB_len]; exact hl, putB_octs ho _ _ _⟩
  · split
    · exact ⟨by rw [putB_len]; exact hl, putB_octs ho _ _ _⟩
    · exact ⟨hl, ho⟩
/-- what the choice of the sort leaves: the row, the six, the low register -/
noncomputable def PlayJ (sort ahead : Nat) (size H : Int) (W : Nat) (down : Int) (M : Mach) (cA : Addr) (co : Obj) (g : Obj → Led) (h₀ : Heap) (L : Addr) (m : Str → Option Value) (s : Shared) (q : Flow → Shared → Prop) : Prop :=
  ∀ (own2 : Led) (six2 : Addr) (vs2 : List Value) (n2 : Nat) (tw z0 z1 z2 z3 z4 z5 : Tok) (h' : Heap) (tk' : Nat), IntsAre vs2 (mstep sort ahead size H W down M).row → (six2, sixT (mstep sort ahead size H W down M).six z0 z1 z2 z3 z4 z5) ∈ own2 ++ g (listOf vs2.toArray n2) →
    (∀ p ∈ own2, @LT.lt Nat _ cA p.1) → (∀ p ∈ g (listOf vs2.toArray n2), @LT.lt Nat _ p.1 cA) →
    Fr h₀ L h' (fun z => if z = Str.ofString "low" then some (.int (mstep sort ahead size H W down M).low tw) else if z = Str.ofString "six" then some (.ref six2) else m z) → News h₀ L h' ((cA, co) :: (own2 ++ g (listOf vs2.toArray n2))) → q .next { s with heap := h', toks := tk' }
theorem joinPlay {prog : Program} {w : World} {A : Around} {E : Value → Shared → Prop} {s : Shared} {tree : Sem Flow} {sort ahead : Nat} {size H : Int} {W : Nat} {down : Int} {M : Mach} {cA : Addr} {co : Obj} {own : Led} {vs : List Value} {n : Nat} {g : Obj → Led} {h₀ : Heap} {L : Addr} {m : Str → Option Value} {Q : Flow → Shared → Prop}
    (_F : Fr h₀ L s.heap m) (_N : News h₀ L s.heap ((cA, co) :: (own ++ g (listOf vs.toArray n)))) (hw : ∀ q, PlayJ sort ahead size H W down M cA co g h₀ L m s q → wpAny (model prog w) A tree q E s) (hc : PlayJ sort ahead size H W down M cA co g h₀ L m s Q) : wpAny (model prog w) A tree Q E s := hw Q hc
theorem play_names {m' : Str → Option Value} {a b c d : Int} {z : Six} {row : List Int} {k : Nat} {going : Bool} {co : Obj} {own : Led} {six : Addr} {vs : List Value} {n : Nat} {t1 t2 t3 t4 t5 : Tok}
    (e1 : m' (Str.ofString "source") = some (.int a t1)) (e2 : m' (Str.ofString "goal") = some (.int b t2)) (e3 : m' (Str.ofString "left") = some (.int c t3)) (e4 : m' (Str.ofString "low") = some (.int d t4)) (e5 : m' (Str.ofString "six") = some (.ref six)) (e6 : m' (Str.ofString "rounds") = some (.int k t5)) (e7 : m' (Str.ofString "going") = some (.bool going)) :
    ∀ p ∈ PlayC.ps ⟨⟨a, b, c, d, z, row⟩, k, going, co, own, six, vs, n, t1, t2, t3, t4, t5⟩, m' p.1 = some p.2 := by
  intro p hp
  simp only [PlayC.ps, List.mem_cons, List.not_mem_nil, or_false] at hp
  rcases hp with rfl | rfl | rfl | rfl | rfl | rfl | rfl <;> assumption
theorem play_end2 {sort ahead : Nat} {size H down : Int} {W : Nat} {M0 M : Mach} {a b c d : Int} {zz : Six} {row : List Int} {k : Nat} {going' : Bool} {co co' : Obj} {own own' : Led} {six six' cA rowA : Addr} {vs vs' : List Value} {n n' : Nat} {ts tg tl tw tr ts' tg' tl' tw' tr' : Tok} {g : Obj → Led} {h₀ h' : Heap} {L : Addr} {s : Shared} {m₀ m' : Str → Option Value} {tk : Nat} {x : Option Value} {t0 t1 t2 t3 t4 t5 : Tok}
    (hz : SizeW size H W) (hP : After sort ahead size H W down M0 k M true) (fS : 48 - 8 * (k : Int) ≤ M.src ∧ M.src ≤ 63 + 8 * (k : Int)) (fG : 48 - 8 * (k : Int) ≤ M.goal ∧ M.goal ≤ 63 + 8 * (k : Int)) (fW : k < 5) (fF : 0 ≤ M.left ∧ (ahead ≠ 0 → M.left + (k : Int) ≤ 5))
    (F : Fr h₀ L h' m') (N : News h₀ L h' ((cA, co') :: (own' ++ g (listOf vs'.toArray n'))))
    (e1 : m' (Str.ofString "source") = some (.int a ts')) (e2 : m' (Str.ofString "goal") = some (.int b tg')) (e3 : m' (Str.ofString "left") = some (.int c tl')) (e4 : m' (Str.ofString "low") = some (.int d tw')) (e5 : m' (Str.ofString "six") = some (.ref six')) (e6 : m' (Str.ofString "rounds") = some (.int ((k + 1 : Nat) : Int) tr')) (e7 : m' (Str.ofString "going") = some (.bool going'))
    (hr : ∀ z, (∀ p ∈ PlayC.ps ⟨(⟨a, b, c, d, zz, row⟩ : Mach), k + 1, going', co', own', six', vs', n', ts', tg', tl', tw', tr'⟩, z ≠ p.1) → [Str.ofString "there", Str.ofString "here"].contains z = false → m' z = m₀ z)
    (hM : (⟨a, b, c, d, zz, row⟩ : Mach) = mstep sort ahead size H W down M) (hg : going' = goesB sort ahead (⟨a, b, c, d, zz, row⟩ : Mach))
    (fI : IntsAre vs' (⟨a, b, c, d, zz, row⟩ : Mach).row) (fL : (⟨a, b, c, d, zz, row⟩ : Mach).row.length = 128) (fO : Octs (⟨a, b, c, d, zz, row⟩ : Mach).row) (fC : co'.data = .cell x) (f6 : (six', sixT (⟨a, b, c, d, zz, row⟩ : Mach).six t0 t1 t2 t3 t4 t5) ∈ own' ++ g (listOf vs'.toArray n')) (fR : ∀ p ∈ own', @LT.lt Nat _ cA p.1) (fU : ∀ p ∈ g (listOf vs'.toArray n'), @LT.lt Nat _ p.1 cA) :
    KswEnd h₀ L s (fun c => PlayC.led c cA g) PlayC.ps (PlayF cA rowA g ahead) [Str.ofString "there", Str.ofString "here"] m₀ (fun c => After sort ahead size H W down M0 c.k c.M c.going) (fun c => if c.going then c.M.left.toNat + 1 else 0) ⟨M, k, true, co, own, six, vs, n, ts, tg, tl, tw, tr⟩ { s with heap := h', toks := tk } :=
  play_end hz hP fS fG fW fF F N (play_names e1 e2 e3 e4 e5 e6 e7) hr hM hg fI fL fO fC f6 fR fU
section
variable {h₀ h : Heap} {L : Addr} {m : Str → Option Value} {v u : Value}
theorem fr_same2 (F : Fr h₀ L h m) (e1 : m (Str.ofString "low") = some v) (e2 : m (Str.ofString "six") = some u) : Fr h₀ L h (fun z => if z = Str.ofString "low" then some v else if z = Str.ofString "six" then some u else m z) := by
  refine cast (congrArg (Fr h₀ L h) (funext fun z => ?_)) F
  by_cases h1 : z = Str.ofString "low"
  · rw [if_pos h1, h1, e1]
  · rw [if_neg h1]
    by_cases h2 : z = Str.ofString "six"
    · rw [if_pos h2, h2, e2]
    · rw [if_neg h2]
theorem fr_low2 (F : Fr h₀ L h (fun z => if z = Str.ofString "low" then some v else m z)) (e2 : m (Str.ofString "six") = some u) : Fr h₀ L h (fun z => if z = Str.ofString "low" then some v else if z = Str.ofString "six" then some u else m z) := by
  refine cast (congrArg (Fr h₀ L h) (funext fun z => ?_)) F
  by_cases h1 : z = Str.ofString "low"
  · rw [if_pos h1, if_pos h1]
  · rw [if_neg h1, if_neg h1]
    by_cases h2 : z = Str.ofString "six"
    · rw [if_pos h2, h2, e2]
    · rw [if_neg h2]
theorem fr_low3 {x y : Int} {t : Tok} (F : Fr h₀ L h (fun z => if z = Str.ofString "low" then some (.int x t) else m z)) (e : x = y) (e2 : m (Str.ofString "six") = some u) : Fr h₀ L h (fun z => if z = Str.ofString "low" then some (.int y t) else if z = Str.ofString "six" then some u else m z) := by
  subst e
  exact fr_low2 F e2
theorem fr_six2 (F : Fr h₀ L h (fun z => if z = Str.ofString "six" then some u else m z)) (e1 : m (Str.ofString "low") = some v) : Fr h₀ L h (fun z => if z = Str.ofString "low" then some v else if z = Str.ofString "six" then some u else m z) := by
  refine cast (congrArg (Fr h₀ L h) (funext fun z => ?_)) F
  by_cases h1 : z = Str.ofString "low"
  · have : ¬ Str.ofString "low" = Str.ofString "six" := by decide
    rw [if_pos h1, h1, if_neg this, e1]
  · rw [if_neg h1]
theorem pick2 {a b : Addr × Obj} {l : Led} (N : News h₀ L h (b :: a :: l)) : News h₀ L h (a :: b :: l) := fun p hp => N p (by
  rcases List.mem_cons.mp hp with rfl | hp
  · exact .tail _ (.head _)
  · rcases List.mem_cons.mp hp with rfl | hp
    · exact .head _
    · exact .tail _ (.tail _ hp))
end
section
variable {sort ahead : Nat} {size H down : Int} {W : Nat} {M : Mach}
theorem src_in (b : ([0, 1, 3].any fun x => x == (sort : Int)) = true) : M.src + stepI down W = (mstep sort ahead size H W down M).src := by
  simp only [List.any_cons, List.any_nil, Bool.or_false, Bool.or_eq_true, beq_iff_eq] at b
  exact (if_neg (show ¬ (sort = 2 ∨ sort = 4) by omega)).symm
theorem src_out (hs : sort < 5) (b : ([0, 1, 3].any fun x => x == (sort : Int)) = false) : M.src = (mstep sort ahead size H W down M).src := by
  simp only [List.any_cons, List.any_nil, Bool.or_false, Bool.or_eq_false_iff, beq_eq_false_iff_ne] at b
  exact (if_pos (show sort = 2 ∨ sort = 4 by omega)).symm
theorem goal_in (h : ¬ (sort : Int) = 3) : M.goal + stepI down W = (mstep sort ahead size H W down M).goal := (if_neg (show ¬ sort = 3 by omega)).symm
theorem goal_out (h : (sort : Int) = 3) : M.goal = (mstep sort ahead size H W down M).goal := (if_pos (show sort = 3 by omega)).symm
theorem goes_b2 {M' : Mach} (b : ([0, 2, 3].any fun x => x == (sort : Int)) = true) (h0 : ¬ (ahead : Int) = 0) (h : 0 < M'.left) : true = goesB sort ahead M' := by
  simp only [List.any_cons, List.any_nil, Bool.or_false, Bool.or_eq_true, beq_iff_eq] at b
  exact goes_b ⟨by omega, by omega⟩ h0 h
theorem goes_b3 {M' : Mach} (b : ([0, 2, 3].any fun x => x == (sort : Int)) = true) (h0 : ¬ (ahead : Int) = 0) (h : 0 < M'.left) : ([0, 2, 3].any fun x => x == (sort : Int)) = goesB sort ahead M' := b.trans (goes_b2 b h0 h)
theorem goes_g2 {a b l w z0 : Int} {z : Six} {r : List Int} (hs : sort < 5) (e : z0 = z.z) (b' : ([0, 2, 3].any fun x => x == (sort : Int)) = false) (h0 : ¬ (ahead : Int) = 0) (h : 0 < l) : (z0 == 2 - (ahead : Int)) = goesB sort ahead ⟨a, b, l, w, z, r⟩ := by
  simp only [List.any_cons, List.any_nil, Bool.or_false, Bool.or_eq_false_iff, beq_eq_false_iff_ne] at b'
  exact goes_g e (by omega) h0 h
end
end
set_option maxHeartbeats 8000000 in
theorem c_play (w : World) (sort : Nat) (hs : sort < 5) (size H : Int) (W : Nat) (ahead : Nat) (down : Int) (ta tb tc td te tf : Tok) (rowA plA sixA : Addr) (M0 : Mach) (vs : List Value) (n : Nat) (news : Led) (g : Obj → Led) (t1 t2 t3 t4 t5 t6 t7 t8 t9 : Tok)
    (hz : SizeW size H W) (hd : down = 0 ∨ down = 1) (U : UpdF rowA (listOf vs.toArray n) news g) (hI : IntsAre vs M0.row) (hl : M0.row.length = 128) (h8 : Octs M0.row) (r1 : 48 ≤ M0.src ∧ M0.src ≤ 63) (r2 : 48 ≤ M0.goal ∧ M0.goal ≤ 63) (r3 : 0 ≤ M0.left ∧ (ahead ≠ 0 → M0.left ≤ 5)) (i1 : In1 plA (placesT M0.src M0.goal M0.left t1 t2 t3) g) (i2 : In1 sixA (sixT M0.six t4 t5 t6 t7 t8 t9) g) :
    Claim w 617 [.int (sort : Int) ta, .int W tb, .int ahead tc, .int down td, .ref rowA, .ref plA, .int M0.low te, .ref sixA] 8 200 news (RetPlay sort ahead size H W down M0 g) := by
  k_with_none
  k_with "execs cons" => (refine toks_succ ?_; intro tkU)
  k_with "storeName" => with_reducible first | (refine store_toks ?_; intro tkU) | (refine store_add ?_; intro tkU)
  k_with "call type:range" => ((rename Fr _ _ _ _ => F'); (rename News _ _ _ _ => N'); (with_unfolding_all refine range1_rows F' N' ?_; intro _ _ _ _ _ _ _ _ _))
  k_with "my use" => (
        (case k1 => k_asm); (case k2 => k_asm); (case k3 => k_asm); (case k4 => first | k_asm | exact drop1 (by assumption) | exact drop1 (drop1 (by assumption)) | exact drop1 (drop1 (drop1 (by assumption))) | exact drop1 (drop1 (drop1 (drop1 (by assumption))))); (case k5 => k_asm); (case k6 => first | exact rfl | assumption); (case k7 => ktr_room); (case k8 => ktr_units))
  k_with "my go" => (intro t9 h9 tk9 F9 N9; (try dsimp only); (try k_fold))
  k_with "my claimC" => (
      intro pZ looseZ meanZ mgZ mbZ dpZ unZ gdZ cnZ csZ aZ ccdZ clZ outerZ A₀Z baseZ h₀Z LZ mZ sZ QZ EZ BZ FZ XZ NZ TZ hkZ hdZ huZ hretZ
      refine wpAny_call ?_
      k_dflt (refine' code_defC ?k1 ?k2 ?k3 ?k4 ?k5 ?kA ?kF ?kK ?k6 ?k7 ?k8 ?k9 ?kB ?kD ?_ ?c2 ?c3 ?c4; (case kA => exact rfl); (case kF => exact rfl); (case kK => assumption); (case k1 => k_asm); (case k2 => k_asm); (case k3 => k_asm); (case k4 => k_asm); (case k5 => k_asm); (case k6 => k_is); (case k7 => k_is); (case k8 => ktr_room); (case k9 => exact BindsTo.of_eq rfl); (case kB => exact rfl); (case kD => decide +kernel); (case c2 => exact rfl); (case c3 => exact rfl); (case c4 => exact rfl); k_whole; intro g' L' h' tk' cells' FG' F' N' Y' B' X' T' l1; (try k_lt l1); k_cells Y'; (try simp only [List.cons_append, List.nil_append] at N'); (try dsimp only); (try k_lift B'); (try k_fold))
      k_steps)
  have e := updF_self U
  subst e
  k_with "ite" => first
    | (k_dflt (
    rename Fr _ _ _ _ => FF
    rename News _ _ _ _ => NN
    refine' joinIteV (-(W : Int)) W (stepI down W) (move_eq hd) ?jf ?jn ?j1 ?j2 ?jc
    (case jf => exact FF); (case jn => exact NN)
    (case j1 =>
      intro hC q hq
      k_steps
      all_goals exact retI hq (by assumption) (by assumption) rfl)
    (case j2 =>
      intro hC q hq
      k_steps
      all_goals exact retI hq (by assumption) (by assumption) rfl)
    (intro t9 h9 tk9 F9 N9; (try dsimp only); (try k_fold))))
  k_with "eval BoolOp" => k_dflt (
    (fail_if_success (have := hinv))
    rename Fr _ _ _ _ => FF
    rename News _ _ _ _ => NN
    refine' joinBv (startB ahead M0.left) ?bf ?bn ?bw ?bc
    (case bf => exact FF); (case bn => exact NN)
    (case bw =>
      intro q hq
      k_steps
      all_goals refine retBv hq (by assumption) (by assumption) ?_
      all_goals first
        | exact start_yes (by assumption)
        | exact start_no (by assumption))
    (intro t9 h9 tk9 F9 N9; (try dsimp only); (try k_fold)))
  k_with "compareOp In int ref" => first
    | k_dflt (refine in_tuple_ints (ns := [0, 2, 3]) (News.isTup (by k_asm) (.head _)) (by repeat constructor) ?_)
    | k_dflt (refine in_tuple_ints (ns := [0, 1, 3]) (News.isTup (by k_asm) (.head _)) (by repeat constructor) ?_)
  k_with "eval Name" => k_dflt (refine' ldLoc (by k_asm) (ldm (by assumption) (by exact rfl)) ?_)
  k_with "exec While Name cons nil" => k_dflt (
    rename Fr _ _ _ _ => FF
    rename News _ _ _ _ => NN
    obtain ⟨mZ, hmZ, FZ9⟩ := fr_cut FF
    have a1 : mZ (Str.ofString "sort") = some (.int (sort : Int) ta) := (hmZ _).trans rfl
    have a2 : mZ (Str.ofString "width") = some (.int (W : Int) tb) := (hmZ _).trans rfl
    have a3 : mZ (Str.ofString "ahead") = some (.int (ahead : Int) tc) := (hmZ _).trans rfl
    have a4 : mZ (Str.ofString "row") = some (.ref rowA) := (hmZ _).trans rfl
    obtain ⟨tmv, a5⟩ : ∃ t, mZ (Str.ofString "move") = some (.int (stepI down W) t) := ⟨_, (hmZ _).trans rfl⟩
    refine' play_while (rowA := rowA) (sort := sort) (size := size) (H := H) (W := W) (down := down) (M0 := M0) FZ9 NN ?facts (play_names ((hmZ _).trans rfl) ((hmZ _).trans rfl) ((hmZ _).trans rfl) ((hmZ _).trans rfl) ((hmZ _).trans rfl) ((hmZ _).trans rfl) ((hmZ _).trans rfl)) ?turn ?own
    clear hmZ FF
    case facts =>
      refine' playF_zero hI hl h8 ?d (i2.h _) ?off r1 r2 r3
      case d => assumption
      case off => first | exact fun p hp => Nat.lt_succ_of_lt ((by assumption : ∀ p ∈ g (listOf vs.toArray n), p.1 < _) p hp) | exact fun p hp => Nat.lt_succ_of_lt (ktn_ltOf (by assumption) p hp)
    case own => passes_own
    case' turn =>
      intro c u h tk hf hP F1 N1
      obtain ⟨M, k, going, co1, own, six1, vs1, n1, ts, tg, tl, tw, tr⟩ := c
      obtain ⟨fI, fL, fO, ⟨fx, fC⟩, ⟨z0, z1, z2, z3, z4, z5, f6⟩, fR, fU, fS, fG, fW, fF⟩ := hf
      dsimp only [PlayC.led, PlayC.ps] at fI fL fO fC f6 fR fU fS fG fW fF hP F1 N1 ⊢
      have qr : (rowA, listOf vs1.toArray n1) ∈ own ++ g (listOf vs1.toArray n1) := List.mem_append_right _ (updF_in U _)
      have fRow : UpdF rowA (listOf vs1.toArray n1) (own ++ g (listOf vs1.toArray n1)) (fun o => own ++ g o) := updF_pre (updF_again U _) (fun p hp => Nat.ne_of_gt (Nat.lt_trans (fU _ (updF_in U _)) (fR p hp)))
      have fUU := off_all fR fU
      have fne : @Ne Nat rowA _ := fUU _ qr
      have hinv := fW.1
      cases going
      case' true =>
        have hk5 : k < 5 := fW.2 rfl
        have hs1 : M.src = (M.src.toNat : Int) ∧ M.src.toNat + W ≤ 128 := by have := (sizeW_n hz).2.2.1; omega
        have hs2 : M.goal = (M.goal.toNat : Int) ∧ M.goal.toNat + W ≤ 128 := by have := (sizeW_n hz).2.2.1; omega
        try k_fold
      case' false =>
        try k_fold)
  k_with "subscriptTail Name Slice ref ref" => k_dflt (
    refine' kmk_slice_ints ?zF ?zN ?zl ?zp ?zq fI ?zm ?zc ?_ ?zs ?zt ?zz
    (case zp => exact IsPart.int _ _)
    (case zq => exact IsPart.int _ _)
    (case zm => first | exact sl_pick (W := W) fI hs2.1 (by omega) (by omega) | exact sl_pick (W := W) fI hs1.1 (by omega) (by omega))
    (case zc => exact rfl)
    (case zF => k_asm); (case zN => k_asm)
    (case zl => kmk_list)
    (case zs => with_unfolding_all rfl)
    (case zt => kmk_pure)
    (case zz => rw [List.size_toArray, fI.length, fL, sizeLine_eq]; omega)
    intro D' ws' h' F' N' l1 hI' hC' hL'
    have lr : @LT.lt Nat _ rowA D' := l1 (rowA, listOf vs1.toArray n1) (by k_mem)
    (try k_lt l1)
    (try k_sweep))
  k_with "binaryOp FloorDiv int int" => k_dflt (refine floordiv_int (pw_ne _) ?_ (Or.inl (PyProof.noPylong_of_log2 (pw_log (k16 (by assumption) (sizeW_n hz).2.2.1)))))
  k_with "binaryOp Pow int int" => ((with_reducible show wpAny _ _ (binaryOp _ (Value.int 256 _) (Value.int _ _)) _ _ _); k_dflt (refine pow256_use (by assumption) (k16i (by assumption) (sizeW_n hz).2.2.1) ?_))
  k_with "setItem ref ref" => k_dflt (
    rename Fr _ _ _ _ => FF9
    rename News _ _ _ _ => NN9
    (try have nD9 := off1_three (by assumption) qr)
    refine' slice_stored (W := W) ?zF ?zN ?zU ?ze ?zn ?zp ?zq hs2.1 ?zh (by rw [fI.length, fL]; exact hs2.2) (by rw [fI.length, fL]; decide) ?zw ?_
    (case zF => exact FF9)
    (case zN => exact NN9)
    (case zU => k_updF)
    (case ze => k_mem)
    (case zn => k_ne)
    (case zp => exact IsPart.int _ _)
    (case zq => exact IsPart.int _ _)
    (case zh => omega)
    (case zw => first
      | (rename IntsAre _ _ => hIw; rw [hIw.length, List.length_take]; have := (sizeW_n hz).2.2.1; omega)
      | (rename IntsAre _ _ => hIw; rw [hIw.length, List.length_map, rangeKs_length]; have := (sizeW_n hz).2.2.1; omega))
    intro h9 c9 F9 N9
    (try dsimp only)
    (try k_fold))
  k_with "call ref" => first
    | k_dflt (
      with_reducible show wpAny _ _ (call (Value.ref 605) _) _ _ _
      rename IntsAre _ _ => hIw
      refine' useC (c_whole w _ _ _ _ _ ?zm hIw ?zw) ?k1 ?k2 ?k3 ?k4 ?k5 ?k6 ?k7 ?k8 ?_
      walk_at "my use"
      (case zm => exact List.Mem.head _)
      (case zw => rw [List.length_take]; have := (sizeW_n hz).2.2.1; omega)
      walk_at "my go")
    | k_dflt (
      with_reducible show wpAny _ _ (call (Value.ref 612) _) _ _ _
      refine' useC (c_six w _ _ size H W _ _ _ hz (le_ok hz fL fO hs1.2).1 (le_ok hz fL fO hs1.2).2 (le_ok hz fL fO hs2.2).1 (le_ok hz fL fO hs2.2).2 _) ?k1 ?k2 ?k3 ?k4 ?k5 ?k6 ?k7 ?k8 ?_
      walk_at "my use"
      intro D9 u0 u1 u2 u3 u4 u5 h9 tk9 l9 F9 N9
      have lc9 := l9
      (try k_lt l9)
      (try dsimp only)
      (try k_fold))
    | k_dflt (
      with_reducible show wpAny _ _ (call (Value.ref 612) _) _ _ _
      refine' useC (c_six w _ _ size H W _ _ _ hz (low_ok hz).1 (low_ok hz).2 (le_ok hz fL fO hs2.2).1 (le_ok hz fL fO hs2.2).2 _) ?k1 ?k2 ?k3 ?k4 ?k5 ?k6 ?k7 ?k8 ?_
      walk_at "my use"
      rw [low_eq hz]
      intro D9 u0 u1 u2 u3 u4 u5 h9 tk9 l9 F9 N9
      have lc9 := l9
      (try k_lt l9)
      (try dsimp only)
      (try k_fold))
  k_with "exec If" => first
    | k_dflt (
      with_reducible show wpAny _ _ (exec (PySem.Stmt.If (PySem.Expr.Compare (PySem.Expr.Name (Str.ofString "sort") _) [PySem.CmpOp.Eq] _ _) _ _ _) _) _ _ _
      (fail_if_success (have := hq))
      rename Fr _ _ _ _ => FF
      rename News _ _ _ _ => NN
      refine' joinPlay (sort := sort) (ahead := ahead) (size := size) (H := H) (W := W) (down := down) (M := M) (own := own) (vs := vs1) (n := n1) (g := g) FF ?pn ?pw ?pc
      (case pn => first | exact NN | exact drop1 NN | exact drop1 (drop1 NN) | exact drop1 (drop1 (drop1 NN)) | exact drop1 (drop1 (drop1 (drop1 NN))) | exact drop1 (drop1 (drop1 (drop1 (drop1 NN)))) | exact drop1 (drop1 (drop1 (drop1 (drop1 (drop1 NN))))))
      (case pw =>
        intro q hq
        k_steps
        all_goals (rename Fr _ _ _ _ => FF; rename News _ _ _ _ => NN)
        all_goals first
          | (have e9 : sort = 0 := by omega
             subst e9
             exact hq own six1 _ _ _ _ _ _ _ _ _ _ _ (by
               show IntsAre _ (putB M.row M.goal.toNat (leAt M.row M.src.toNat W) W)
               rw [← slice_move fO (by rw [fL]; exact hs2.2) (by rw [fL]; exact hs1.2)]
               exact ints_slice fI (by assumption) _ _) (updF_kept U f6 six_ne _) fR (updF_low U fU _) (fr_same2 FF rfl rfl) (drop1 (drop1 (drop1 NN))))
          | (have e9 : sort = 1 := by omega
             subst e9
             refine hq ((D9, sixT (mstep 1 ahead size H W down M).six u0 u1 u2 u3 u4 u5) :: own) D9 vs1 n1 _ _ _ _ _ _ _ _ _ fI (List.Mem.head _) (List.forall_mem_cons.mpr ⟨lc9 _ (.tail _ (.tail _ (.head _))), fR⟩) fU (fr_six2 FF rfl) ?g2
             case g2 => first | exact pick3 NN | exact pick3 (drop1 NN) | exact pick3 (drop1 (drop1 NN)))
          | (have e9 : sort = 2 := by omega
             subst e9
             exact hq own six1 _ _ _ _ _ _ _ _ _ _ _ (by exact ints_stos hz fI (by rw [fL]; exact hs2.2) (by assumption)) (updF_kept U f6 six_ne _) fR (updF_low U fU _) (fr_same2 FF rfl rfl) (drop1 (drop1 (drop1 NN))))
          | (have e9 : sort = 3 := by omega
             subst e9
             refine hq own six1 vs1 n1 _ _ _ _ _ _ _ _ _ fI f6 fR fU (fr_low3 FF ?g3 rfl) ?g2
             case g3 => first | exact low_a hz (by assumption) | exact low_b hz (by assumption)
             case g2 => first | exact NN | exact drop1 NN | exact drop1 (drop1 NN) | exact drop1 (drop1 (drop1 NN)) | exact drop1 (drop1 (drop1 (drop1 NN))) | exact drop1 (drop1 (drop1 (drop1 (drop1 NN)))) | exact drop1 (drop1 (drop1 (drop1 (drop1 (drop1 NN))))))
          | (have e9 : sort = 4 := by omega
             subst e9
             refine hq ((D9, sixT (mstep 4 ahead size H W down M).six u0 u1 u2 u3 u4 u5) :: own) D9 vs1 n1 _ _ _ _ _ _ _ _ _ fI (List.Mem.head _) (List.forall_mem_cons.mpr ⟨lc9 _ (.tail _ (.tail _ (.head _))), fR⟩) fU (fr_six2 FF rfl) ?g2
             case g2 => first | exact pick3 NN | exact pick3 (drop1 NN) | exact pick3 (drop1 (drop1 NN))))
      (intro own2 six2 vs2 n2 tw2 z20 z21 z22 z23 z24 z25 h9 tk9 gI g6 gR gU F9 N9; (try dsimp only at F9); (try dsimp only); (try k_fold)))
    | k_dflt (
      with_reducible show wpAny _ _ (exec (PySem.Stmt.If (PySem.Expr.Compare _ [PySem.CmpOp.In] _ _) _ _ _) _) _ _ _
      (fail_if_success (have := hq))
      rename Fr _ _ _ _ => FF
      rename News _ _ _ _ => NN
      apply joinStmt (Str.ofString "source") (mstep sort ahead size H W down M).src
      (case _F => exact FF); (case _N => exact NN)
      (case hw =>
        intro q hq
        k_steps
        all_goals (rename Fr _ _ _ _ => FF; rename News _ _ _ _ => NN)
        all_goals first
          | exact stmt_set hq FF (News.tail' NN) (src_in (by assumption))
          | exact stmt_kept hq FF (News.tail' NN) (src_out hs (by assumption)) ⟨_, rfl⟩)
      (intro t9 h9 tk9 F9 N9; (try dsimp only at F9); (try dsimp only); (try k_fold)))
    | k_dflt (
      with_reducible show wpAny _ _ (exec (PySem.Stmt.If (PySem.Expr.Compare _ [PySem.CmpOp.NotEq] _ _) _ _ _) _) _ _ _
      (fail_if_success (have := hq))
      rename Fr _ _ _ _ => FF
      rename News _ _ _ _ => NN
      apply joinStmt (Str.ofString "goal") (mstep sort ahead size H W down M).goal
      (case _F => exact FF); (case _N => exact NN)
      (case hw =>
        intro q hq
        k_steps
        all_goals (rename Fr _ _ _ _ => FF; rename News _ _ _ _ => NN)
        all_goals first
          | exact stmt_set hq FF NN (goal_in (by assumption))
          | exact stmt_kept hq FF NN (goal_out (by assumption)) ⟨_, rfl⟩)
      (intro t9 h9 tk9 F9 N9; (try dsimp only at F9); (try dsimp only); (try k_fold)))
  k_with "KswEnd" => k_dflt (
    rename Fr _ _ _ _ => FF9
    rename News _ _ _ _ => NN9
    refine' play_end2 (zz := (mstep sort ahead size H W down M).six) (row := (mstep sort ahead size H W down M).row) (own' := own2) (six' := six2) (vs' := vs2) (n' := n2) hz hP fS fG hk5 fF FF9 ?yN rfl rfl rfl rfl rfl rfl rfl ?yr ?yM ?yg ?yI ?yL ?yO ?yC ?y6 ?yR ?yU
    (case yN => first | exact NN9 | exact drop1 (NN9) | exact drop1 (drop1 (NN9)) | exact drop1 (drop1 (drop1 (NN9))) | exact drop1 (drop1 (drop1 (drop1 (NN9)))) | exact drop1 (drop1 (drop1 (drop1 (drop1 (NN9))))) | exact drop1 (drop1 (drop1 (drop1 (drop1 (drop1 (NN9)))))) | exact drop1 (drop1 (drop1 (drop1 (drop1 (drop1 (drop1 (NN9))))))) | exact drop1 (drop1 (drop1 (drop1 (drop1 (drop1 (drop1 (drop1 (NN9)))))))))
    (case yr =>
      intro z h2 h3
      have n1 : z ≠ Str.ofString "source" := h2 _ (.head _)
      have n2 : z ≠ Str.ofString "goal" := h2 _ (.tail _ (.head _))
      have n3 : z ≠ Str.ofString "left" := h2 _ (.tail _ (.tail _ (.head _)))
      have n4 : z ≠ Str.ofString "low" := h2 _ (.tail _ (.tail _ (.tail _ (.head _))))
      have n5 : z ≠ Str.ofString "six" := h2 _ (.tail _ (.tail _ (.tail _ (.tail _ (.head _)))))
      have n6 : z ≠ Str.ofString "rounds" := h2 _ (.tail _ (.tail _ (.tail _ (.tail _ (.tail _ (.head _))))))
      have n7 : z ≠ Str.ofString "going" := h2 _ (.tail _ (.tail _ (.tail _ (.tail _ (.tail _ (.tail _ (.head _)))))))
      have n8 : z ≠ Str.ofString "there" := fun e => by rw [e] at h3; revert h3; decide
      have n9 : z ≠ Str.ofString "here" := fun e => by rw [e] at h3; revert h3; decide
      repeat (first | refine (if_neg n7).trans ?_ | refine (if_neg n3).trans ?_ | refine (if_neg n6).trans ?_ | refine (if_neg n2).trans ?_ | refine (if_neg n1).trans ?_ | refine (if_neg n4).trans ?_ | refine (if_neg n5).trans ?_ | refine (if_neg n9).trans ?_ | refine (if_neg n8).trans ?_)
      exact if_neg (by rw [h3]; exact Bool.false_ne_true))
    (case yM => first | exact mach_a (sort := sort) (size := size) (H := H) (W := W) (down := down) (M := M) (by assumption) | exact mach_b (sort := sort) (size := size) (H := H) (W := W) (down := down) (M := M) (by assumption))
    (case yg => first | exact goes_a (by assumption) | exact goes_b3 (by assumption) (by assumption) (by assumption) | exact goes_g2 hs rfl (by assumption) (by assumption) (by assumption) | exact goes_e (l := M.left - 1) (by assumption) (by assumption))
    (case yI => exact gI)
    (case yL => exact (mstep_row (sort := sort) (ahead := ahead) (size := size) (H := H) (W := W) (down := down) fL fO).1)
    (case yO => exact (mstep_row (sort := sort) (ahead := ahead) (size := size) (H := H) (W := W) (down := down) fL fO).2)
    (case yC => assumption)
    (case y6 => exact g6)
    (case yR => exact gR)
    (case yU => exact gU))
  walk_at "my claimC"
  refine endPlay (by assumption) hP fW.1 fI fL fO f6 fR fU ?_ (by assumption) (by assumption)
  first | assumption | exact ktn_ltOf (by assumption)

local macro_rules | `(tactic| k_updF) => `(tactic| focus ((repeat (first | (refine' UpdF.head ?zUa; (case zUa => k_all)) | (refine' UpdF.tail ?zUa ?_; (case zUa => k_ne)))); done))
section
/-- the ledger behind State(None): its objects, then what stood -/
noncomputable def ledS (w : World) (km : Tok) (ad : Ad) (sgO xlO : Obj) (rest : Led) : Obj → Obj → Obj → Obj → Led := fun a b c d =>
  (ad.rl, b) :: (ad.sg, sgO) :: (ad.hd, d) :: (ad.mm, instObj 408 ad.md) :: (ad.md, memD w km 1 ad.hd) :: (ad.fl, instObj 181 ad.fd) :: (ad.fd, c) :: (ad.xl, xlO) :: (ad.st, instObj 525 ad.sd) :: (ad.sd, a) :: rest
structure Rising (ad : Ad) (lo : Nat) : Prop where
  a0 : @LT.lt Nat _ lo ad.sd
  a1 : @LT.lt Nat _ ad.sd ad.st
  a2 : @LT.lt Nat _ ad.st ad.xl
  a3 : @LT.lt Nat _ ad.xl ad.fd
  a4 : @LT.lt Nat _ ad.fd ad.fl
  a5 : @LT.lt Nat _ ad.fl ad.md
  a6 : @LT.lt Nat _ ad.md ad.mm
  a7 : @LT.lt Nat _ ad.mm ad.hd
  a8 : @LT.lt Nat _ ad.hd ad.sg
  a9 : @LT.lt Nat _ ad.sg ad.rl
theorem neA {a b : Addr} (h : @LT.lt Nat _ a b ∨ @LT.lt Nat _ b a) : a ≠ b := by
  rintro rfl
  rcases h with h | h <;> exact Nat.lt_irrefl _ h
theorem updF_head {d : Addr} {o : Obj} {l : Led} (h : ∀ p ∈ l, p.1 ≠ d) : UpdF d o ((d, o) :: l) (fun o' => (d, o') :: l) := UpdF.head h
theorem updF_tail {d a : Addr} {o b : Obj} {l : Led} {g : Obj → Led} (h : a ≠ d) (U : UpdF d o l g) : UpdF d o ((a, b) :: l) (fun o' => (a, b) :: g o') := UpdF.tail h U
theorem cells_led {w : World} {km : Tok} {ad : Ad} {sgO xlO : Obj} {rest : Led} {lo : Nat} (R : Rising ad lo) (hr : ∀ p ∈ rest, @LE.le Nat _ p.1 lo) (hs : (ad.hd == sysModules) = false) : Cells w km ad (ledS w km ad sgO xlO rest) := by
  obtain ⟨a0, a1, a2, a3, a4, a5, a6, a7, a8, a9⟩ := R
  have far : ∀ d : Addr, @LT.lt Nat _ lo d → ∀ p ∈ rest, p.1 ≠ d := fun d h p hp => neA (.inl (Nat.lt_of_le_of_lt (hr p hp) h))
  have v0 : @LT.lt Nat _ lo ad.sd := a0
  have v1 : @LT.lt Nat _ lo ad.st := Nat.lt_trans v0 a1
  have v2 : @LT.lt Nat _ lo ad.xl := Nat.lt_trans v1 a2
  have v3 : @LT.lt Nat _ lo ad.fd := Nat.lt_trans v2 a3
  have v4 : @LT.lt Nat _ lo ad.fl := Nat.lt_trans v3 a4
  have v5 : @LT.lt Nat _ lo ad.md := Nat.lt_trans v4 a5
  have v6 : @LT.lt Nat _ lo ad.mm := Nat.lt_trans v5 a6
  have v7 : @LT.lt Nat _ lo ad.hd := Nat.lt_trans v6 a7
  have v8 : @LT.lt Nat _ lo ad.sg := Nat.lt_trans v7 a8
  have v9 : @LT.lt Nat _ lo ad.rl := Nat.lt_trans v8 a9
  have w1 : @LT.lt Nat _ ad.sd ad.st := a1
  have w2 : @LT.lt Nat _ ad.sd ad.xl := Nat.lt_trans w1 a2
  have w3 : @LT.lt Nat _ ad.sd ad.fd := Nat.lt_trans w2 a3
  have w4 : @LT.lt Nat _ ad.sd ad.fl := Nat.lt_trans w3 a4
  have w5 : @LT.lt Nat _ ad.sd ad.md := Nat.lt_trans w4 a5
  have w6 : @LT.lt Nat _ ad.sd ad.mm := Nat.lt_trans w5 a6
  have w7 : @LT.lt Nat _ ad.sd ad.hd := Nat.lt_trans w6 a7
  have w8 : @LT.lt Nat _ ad.sd ad.sg := Nat.lt_trans w7 a8
  have w9 : @LT.lt Nat _ ad.sd ad.rl := Nat.lt_trans w8 a9
  have z8 : @LT.lt Nat _ ad.sg ad.rl := a9
  have z7 : @LT.lt Nat _ ad.hd ad.rl := Nat.lt_trans a8 z8
  have z6 : @LT.lt Nat _ ad.mm ad.rl := Nat.lt_trans a7 z7
  have z5 : @LT.lt Nat _ ad.md ad.rl := Nat.lt_trans a6 z6
  have z4 : @LT.lt Nat _ ad.fl ad.rl := Nat.lt_trans a5 z5
  have z3 : @LT.lt Nat _ ad.fd ad.rl := Nat.lt_trans a4 z4
  have z2 : @LT.lt Nat _ ad.xl ad.rl := Nat.lt_trans a3 z3
  have z1 : @LT.lt Nat _ ad.st ad.rl := Nat.lt_trans a2 z2
  have z0 : @LT.lt Nat _ ad.sd ad.rl := Nat.lt_trans a1 z1
  have x4 : @LT.lt Nat _ ad.fd ad.fl := a4
  have x5 : @LT.lt Nat _ ad.fd ad.md := Nat.lt_trans x4 a5
  have x6 : @LT.lt Nat _ ad.fd ad.mm := Nat.lt_trans x5 a6
  have x7 : @LT.lt Nat _ ad.fd ad.hd := Nat.lt_trans x6 a7
  have x8 : @LT.lt Nat _ ad.fd ad.sg := Nat.lt_trans x7 a8
  have x9 : @LT.lt Nat _ ad.fd ad.rl := Nat.lt_trans x8 a9
  have y2 : @LT.lt Nat _ ad.xl ad.fd := a3
  have y1 : @LT.lt Nat _ ad.st ad.fd := Nat.lt_trans a2 y2
  have y0 : @LT.lt Nat _ ad.sd ad.fd := Nat.lt_trans a1 y1
  have p8 : @LT.lt Nat _ ad.hd ad.sg := a8
  have p9 : @LT.lt Nat _ ad.hd ad.rl := Nat.lt_trans p8 a9
  have q6 : @LT.lt Nat _ ad.mm ad.hd := a7
  have q5 : @LT.lt Nat _ ad.md ad.hd := Nat.lt_trans a6 q6
  have q4 : @LT.lt Nat _ ad.fl ad.hd := Nat.lt_trans a5 q5
  have q3 : @LT.lt Nat _ ad.fd ad.hd := Nat.lt_trans a4 q4
  have q2 : @LT.lt Nat _ ad.xl ad.hd := Nat.lt_trans a3 q3
  have q1 : @LT.lt Nat _ ad.st ad.hd := Nat.lt_trans a2 q2
  have q0 : @LT.lt Nat _ ad.sd ad.hd := Nat.lt_trans a1 q1
  refine ⟨fun a b c d => ?_, fun a b c d => ?_, fun a b c d => ?_, fun a b c d => ?_, fun a b c d => ?_, fun a b c d => ?_, fun a b c d => ?_, fun a b c d => ?_, fun a b c d => ?_, fun a b c d => ?_, fun a b c d => ?_, fun a b c d => ?_, hs⟩
  · unfold ledS; simp
  · unfold ledS; simp
  · unfold ledS; simp
  · unfold ledS; simp
  · unfold ledS; simp
  · unfold ledS; simp
  · unfold ledS; simp
  · unfold ledS; simp
  · unfold ledS
    iterate 9 (refine updF_tail (neA (by first | (left; assumption) | (right; assumption))) ?_)
    exact updF_head (far _ (by assumption))
  · unfold ledS
    refine updF_head ?_
    refine List.forall_mem_cons.mpr ⟨neA (by dsimp only; first | (left; assumption) | (right; assumption)), ?_⟩
    iterate 8 (refine List.forall_mem_cons.mpr ⟨neA (by dsimp only; first | (left; assumption) | (right; assumption)), ?_⟩)
    exact far _ (by assumption)
  · unfold ledS
    iterate 6 (refine updF_tail (neA (by first | (left; assumption) | (right; assumption))) ?_)
    refine updF_head ?_
    iterate 3 (refine List.forall_mem_cons.mpr ⟨neA (by dsimp only; first | (left; assumption) | (right; assumption)), ?_⟩)
    exact far _ (by assumption)
  · unfold ledS
    iterate 2 (refine updF_tail (neA (by first | (left; assumption) | (right; assumption))) ?_)
    refine updF_head ?_
    iterate 7 (refine List.forall_mem_cons.mpr ⟨neA (by dsimp only; first | (left; assumption) | (right; assumption)), ?_⟩)
    exact far _ (by assumption)
theorem in4_led {w : World} {km : Tok} {ad : Ad} {sgO xlO ob : Obj} {rest : Led} {x : Addr} (h : (x, ob) ∈ rest) : In4 x ob (ledS w km ad sgO xlO rest) := by
  refine ⟨fun a b c d => ?_⟩
  unfold ledS
  simp [h]
theorem in4_xl {w : World} {km : Tok} {ad : Ad} {sgO xlO : Obj} {rest : Led} : In4 ad.xl xlO (ledS w km ad sgO xlO rest) := by
  refine ⟨fun a b c d => ?_⟩
  unfold ledS
  simp
/-- what a stretch of statements leaves behind: the names, the ledger -/
noncomputable abbrev Goes (h₀ : Heap) (L : Addr) (m' : Str → Option Value) (news : Led) (s : Shared) (Q : Flow → Shared → Prop) : Prop :=
  ∀ (h' : Heap) (tk' : Nat), Fr h₀ L h' m' → News h₀ L h' news → Q .next { s with heap := h', toks := tk' }
end

noncomputable abbrev lawA (d : DefRec) (L fa : Addr) (cdv : Value) : Around := callerA.deeper (envOfC d.name d.scope L fa cdv)
noncomputable abbrev lawE (d : DefRec) (L fa : Addr) (cdv : Value) : Env := envOfC d.name d.scope L fa cdv
/-- what State(None) and its registers leave -/
noncomputable def Leg2R (w : World) (rest : Led) (wv : List Value) (h₀ : Heap) (L : Addr) (m : Str → Option Value) (s : Shared) (Q : Flow → Shared → Prop) : Prop :=
  ∀ (km : Tok) (ad : Ad) (K : SK) (KF : FK) (sgO ho : Obj) (zv : List Value) (n n' : Nat) (tr tb t0 t1 t2 t3 t4 t5 t6 : Tok) (lo : Nat), Rising ad lo → (∀ p ∈ rest, @LE.le Nat _ p.1 lo) → (ad.hd == sysModules) = false → IntsAre zv (List.replicate 16 0) → ho.IsDictOf (intKind Challenge.rw_nn0059_01.row.prog w) [] →
    Goes h₀ L (fun z => if z = Str.ofString "state" then some (.ref ad.st) else m z)
      (ledS w km ad sgO (listOf zv.toArray n') rest (stD w K ad (.int 0 tr) (.int 0 tb)) (listOf wv.toArray n) (flD w KF (.int 0 t0) (.int 0 t1) (.int 0 t2) (.int 0 t3) (.int 0 t4) (.int 0 t5) (.int 0 t6)) ho) s Q
theorem leg2a_ret {w : World} {rest : Led} {wv : List Value} {h₀ h' : Heap} {L : Addr} {m : Str → Option Value} {s : Shared} {Q : Flow → Shared → Prop} {news : Led} {tk km : Tok} {k0 k1 k2 k3 k4 k5 k6 k7 k8 f0 f1 f2 f3 f4 f5 f6 : Tok} {sgO ho : Obj} {zv : List Value} {n n' : Nat} {tr tb t0 t1 t2 t3 t4 t5 t6 : Tok} {st sd rl xl fl fd mm md hd sg : Addr}
    (hret : Leg2R w rest wv h₀ L m s Q) (F : Fr h₀ L h' (fun z => if z = Str.ofString "state" then some (.ref st) else m z)) (N : News h₀ L h' news)
    (e1 : (st, instObj 525 sd) ∈ news) (e2 : (sd, stD w ⟨k0, k1, k2, k3, k4, k5, k6, k7, k8⟩ ⟨st, sd, rl, xl, fl, fd, mm, md, hd, sg⟩ (.int 0 tr) (.int 0 tb)) ∈ news) (e3 : (fl, instObj 181 fd) ∈ news)
    (e4 : (fd, flD w ⟨f0, f1, f2, f3, f4, f5, f6⟩ (.int 0 t0) (.int 0 t1) (.int 0 t2) (.int 0 t3) (.int 0 t4) (.int 0 t5) (.int 0 t6)) ∈ news) (e5 : (mm, instObj 408 md) ∈ news) (e6 : (md, memD w km 1 hd) ∈ news) (e7 : (hd, ho) ∈ news) (e8 : (sg, sgO) ∈ news) (e9 : (xl, listOf zv.toArray n') ∈ news) (e10 : (rl, listOf wv.toArray n) ∈ news)
    (e11 : ∀ p ∈ rest, p ∈ news) (R : Rising ⟨st, sd, rl, xl, fl, fd, mm, md, hd, sg⟩ (@HSub.hSub Nat Nat Nat instHSub sd 1)) (el : ∀ p ∈ rest, @LE.le Nat _ p.1 (@HSub.hSub Nat Nat Nat instHSub sd 1)) (hs : (hd == sysModules) = false) (hz : IntsAre zv (List.replicate 16 0)) (hh : ho.IsDictOf (intKind Challenge.rw_nn0059_01.row.prog w) []) : Q .next { s with heap := h', toks := tk } := by
  refine hret km ⟨st, sd, rl, xl, fl, fd, mm, md, hd, sg⟩ ⟨k0, k1, k2, k3, k4, k5, k6, k7, k8⟩ ⟨f0, f1, f2, f3, f4, f5, f6⟩ sgO ho zv n n' tr tb t0 t1 t2 t3 t4 t5 t6 _ R el hs hz hh h' tk F (fun p hp => N p ?_)
  unfold ledS at hp
  simp only [List.mem_cons] at hp
  rcases hp with rfl | rfl | rfl | rfl | rfl | rfl | rfl | rfl | rfl | rfl | hp
  · exact e10
  · exact e8
  · exact e7
  · exact e5
  · exact e6
  · exact e3
  · exact e4
  · exact e9
  · exact e1
  · exact e2
  · exact e11 p hp
set_option maxHeartbeats 8000000 in
theorem leg2a (w : World) {d : DefRec} {kwd : List (Str × PySem.Expr)} (h1 : defOf vw (Str.ofString "law") = some (d, kwd)) {loose : List Str} {mean : ExcName → Option Value} {mg mb : Str → Option Value} {h₀ : Heap} {L fa : Addr} {cdv : Value} {m : Str → Option Value} {s : Shared} {Q : Flow → Shared → Prop} {E : Value → Shared → Prop}
    {wl : Addr} {wv : List Value} {n1 : Nat} {ws : List Int} {rest : Led}
    (B : Below callerA h₀ [] h₀) (F : Fr h₀ L s.heap m) (X : (Mine.seed.heap_1 w.params).In h₀) (T : Top vw loose mean mg mb h₀)
    (N : News h₀ L s.heap rest) (hw : (wl, listOf wv.toArray n1) ∈ rest)
    (m1 : m (Str.ofString "worths") = some (.ref wl))
    (hI : IntsAre wv ws) (hl : ws.length = 16)
    (hret : Leg2R w rest wv h₀ L m s Q) :
    wpAny (model Challenge.rw_nn0059_01.row.prog w) (lawA d L fa cdv) (execs ((d.body.drop 21).take 2) (lawE d L fa cdv)) Q E s := by
  k_with_none
  k_with "execs cons" => (refine toks_succ ?_; intro tkU)
  k_with "storeName" => with_reducible first | (refine store_toks ?_; intro tkU) | (refine store_add ?_; intro tkU)
  k_with "setAttr ref" => first
    | with_reducible (refine seta_toks ?_; intro tkU)
    | with_reducible (refine seta_add ?_; intro tkU)
    | k_dflt (
      refine' toks_any ?_
      intro tkU
      refine' set_dictT ?k1 ?k2 ?k3 ?k4 ?k5 ?k6 ?k7 ?k8 ?k9 ?k10 ?k11 ?k12 ?k13 ?_; (case k1 => k_asm); (case k2 => k_asm); (case k3 => k_asm); (case k4 => k_inst); (case k5 => exact rfl); (case k6 => k_is); (case k7 => k_is); (case k8 => k_is); (case k9 => k_is); (case k10 => k_get); (case k11 => k_put); (case k12 => k_upd); (case k13 => exact Nat.le_of_ble_eq_true rfl); k_whole; intro h' F' N'; (try k_sweep))
  k_with "call type:range" => ((rename Fr _ _ _ _ => F'); (rename News _ _ _ _ => N'); (with_unfolding_all refine range1_rows F' N' ?_; intro _ _ _ _ _ _ _ _ _))
  have e := Option.some.inj (h1.symm.trans (by rfl : defOf vw (Str.ofString "law") = some (_, _)))
  obtain ⟨rfl, rfl⟩ := Prod.mk.inj e
  clear h1 e
  dsimp only [lawA, lawE, List.drop, List.take]
  obtain ⟨H0, G0, D0, T0, O0⟩ := s
  have N : News h₀ L H0 ((wl, listOf wv.toArray n1) :: rest) := fun p hp => (List.mem_cons.mp hp).elim (fun e => e ▸ N _ hw) (N p)
  k_with "eval Name" => k_dflt (refine' ldLoc (by k_asm) (ldm (by assumption) (by exact rfl)) ?_)
  k_steps
  rename Fr _ _ _ _ => FF
  rename News _ _ _ _ => NN
  rename IntsAre (List.flatten _) _ => i1
  rename (@LT.lt Nat _ _ _ ∧ AllLt _ rest) => l9
  refine' leg2a_ret hret FF NN ?e1 ?e2 ?e3 ?e4 ?e5 ?e6 ?e7 ?e8 ?e9 ?e10 ?e11 ?eR ?el ?es ?ez ?eh
  case e1 => k_dflt k_mem
  case e2 => k_dflt k_mem
  case e3 => k_dflt k_mem
  case e4 => k_dflt k_mem
  case e5 => k_dflt k_mem
  case e6 => k_dflt k_mem
  case e7 => k_dflt k_mem
  case e8 => k_dflt k_mem
  case e9 => k_dflt k_mem
  case e10 => k_dflt k_mem
  case e11 =>
    intro p hp
    repeat (first | exact hp | refine List.Mem.tail _ ?_)
  case eR => (constructor <;> (dsimp only; first | omega | (simp only [Array.length_toList]; omega)))
  case el => exact fun p hp => Nat.le_sub_one_of_lt (ktn_ltOf l9.2 p hp)
  case es => assumption
  case ez => exact i1
  case eh => assumption

section
/-- the registers with the four turning ones -/
noncomputable def regs4 (ws : List Int) (a b c d : Int) : List Int := (((ws.set 0 a).set 1 b).set 6 c).set 7 d
section
variable {ws : List Int} {a b c d x : Int}
theorem regs4_0 : (regs4 ws a b c d).set 0 x = regs4 ws x b c d := by
  refine List.ext_getElem? fun i => ?_
  simp only [regs4, List.getElem?_set, List.length_set]
  repeat' split
  all_goals first | rfl | omega
theorem regs4_1 : (regs4 ws a b c d).set 1 x = regs4 ws a x c d := by
  refine List.ext_getElem? fun i => ?_
  simp only [regs4, List.getElem?_set, List.length_set]
  repeat' split
  all_goals first | rfl | omega
theorem regs4_6 : (regs4 ws a b c d).set 6 x = regs4 ws a b x d := by
  refine List.ext_getElem? fun i => ?_
  simp only [regs4, List.getElem?_set, List.length_set]
  repeat' split
  all_goals first | rfl | omega
theorem regs4_7 : (regs4 ws a b c d).set 7 x = regs4 ws a b c x := by
  refine List.ext_getElem? fun i => ?_
  simp only [regs4, List.getElem?_set, List.length_set]
  repeat' split
  all_goals first | rfl | omega
theorem regs4_len : (regs4 ws a b c d).length = ws.length := by simp [regs4]
theorem regs4_get (hl : ws.length = 16) : (regs4 ws a b c d).getD 0 0 = a ∧ (regs4 ws a b c d).getD 1 0 = b ∧ (regs4 ws a b c d).getD 6 0 = c ∧ (regs4 ws a b c d).getD 7 0 = d := by
  simp [regs4, List.getD_eq_getElem?_getD, List.getElem?_set, hl]
end
noncomputable def regsM (ws : List Int) (base : Int) (M : Mach) : List Int := regs4 ws M.low M.left ((base + M.src) % 18446744073709551616) ((base + M.goal) % 18446744073709551616)
theorem regs4_again {ws : List Int} {base a b c d : Int} {M : Mach} : regsM (regs4 ws a b c d) base M = regsM ws base M := by
  have : regs4 (regs4 ws a b c d) M.low M.left ((base + M.src) % 18446744073709551616) ((base + M.goal) % 18446744073709551616) = regsM ws base M := by
    rw [show ∀ l : List Int, ∀ p q r s : Int, regs4 l p q r s = (((l.set 0 p).set 1 q).set 6 r).set 7 s from fun _ _ _ _ _ => rfl]
    rw [regs4_0, regs4_1, regs4_6, regs4_7]; rfl
  exact this
theorem step_mod {b s t : Int} : ((b + s) % 18446744073709551616 + t) % 18446744073709551616 = (b + (s + t)) % 18446744073709551616 := by omega
section
variable {ws : List Int} {base down size H : Int} {W sort ahead : Nat} {M : Mach}
theorem round_m (hs : sort < 5) (hl : ws.length = 16) : roundRegs sort size W down (regsM ws base M) M.row M.src.toNat =
    regs4 ws (mstep sort ahead size H W down M).low M.left ((base + (mstep sort ahead size H W down M).src) % 18446744073709551616) ((base + (mstep sort ahead size H W down M).goal) % 18446744073709551616) := by
  have g := fun p q r s => regs4_get (ws := ws) (a := p) (b := q) (c := r) (d := s) hl
  match sort, hs with
  | 0, _ => simp only [roundRegs, regGo, regsM, (g _ _ _ _).2.2.1, (g _ _ _ _).2.2.2, regs4_7, regs4_6, step_mod]; simp [mstep]
  | 1, _ => simp only [roundRegs, regGo, regsM, (g _ _ _ _).2.2.1, (g _ _ _ _).2.2.2, regs4_7, regs4_6, step_mod]; simp [mstep]
  | 2, _ => simp only [roundRegs, regGo, regsM, (g _ _ _ _).2.2.1, (g _ _ _ _).2.2.2, regs4_7, regs4_6, step_mod]; simp [mstep]
  | 3, _ => simp only [roundRegs, regGo, regsM, (g _ _ _ _).1, (g _ _ _ _).2.2.1, (g _ _ _ _).2.2.2, regs4_0, regs4_7, regs4_6, step_mod]; simp [mstep]
  | 4, _ => simp only [roundRegs, regGo, regsM, (g _ _ _ _).2.2.1, (g _ _ _ _).2.2.2, regs4_7, regs4_6, step_mod]; simp [mstep]
theorem round_row (hs : sort < 5) (hl : ws.length = 16) : roundRow sort W H (regsM ws base M) M.row M.src.toNat M.goal.toNat = (mstep sort ahead size H W down M).row := by
  have g := fun p q r s => (regs4_get (ws := ws) (a := p) (b := q) (c := r) (d := s) hl).1
  match sort, hs with
  | 0, _ => simp [roundRow, mstep]
  | 1, _ => simp [roundRow, mstep]
  | 2, _ => simp only [roundRow, regsM, g]; simp [mstep]
  | 3, _ => simp [roundRow, mstep]
  | 4, _ => simp [roundRow, mstep]
theorem round_six (hs : sort < 5) (hl : ws.length = 16) : roundSix sort W H (regsM ws base M) M.row M.six M.src.toNat M.goal.toNat = (mstep sort ahead size H W down M).six := by
  have g := fun p q r s => (regs4_get (ws := ws) (a := p) (b := q) (c := r) (d := s) hl).1
  match sort, hs with
  | 0, _ => simp [roundSix, mstep]
  | 1, _ => simp [roundSix, mstep]
  | 2, _ => simp [roundSix, mstep]
  | 3, _ => simp [roundSix, mstep]
  | 4, _ => simp only [roundSix, regsM, g]; simp [mstep]
theorem mstep_z (h : sort = 1 ∨ sort = 4) : (mstep sort ahead size H W down M).six.z = 0 ∨ (mstep sort ahead size H W down M).six.z = 1 := by
  rcases h with rfl | rfl
  · simp only [mstep, if_pos, sixOf, sixZ]; split <;> simp
  · have e : (mstep 4 ahead size H W down M).six.z = if M.low % (2 * H) = leAt M.row M.goal.toNat W then 1 else 0 := rfl
    rw [e]; split <;> simp
theorem mstep_left : (mstep sort ahead size H W down M).left = if ahead = 0 then M.left else M.left - 1 := rfl
theorem last_goes (ha : ahead = 1 ∨ ahead = 2) (h0 : 0 < M.left) (h5 : M.left ≤ 5) : (!lastB sort ahead (M.left - 1) (mstep sort ahead size H W down M).six.z) = goesB sort ahead (mstep sort ahead size H W down M) := by
  have hz := mstep_z (sort := sort) (ahead := ahead) (size := size) (H := H) (W := W) (down := down) (M := M)
  have e : (mstep sort ahead size H W down M).left = M.left - 1 := by rw [mstep_left, if_neg (by omega)]
  unfold lastB goesB
  rw [e, if_neg (show ¬ ahead = 0 by omega)]
  generalize (mstep sort ahead size H W down M).six.z = z at hz
  by_cases h1 : M.left - 1 = 0
  · rw [if_pos h1, decide_eq_false (show ¬ M.left - 1 > 0 by omega)]; rfl
  · rw [if_neg h1, decide_eq_true (show M.left - 1 > 0 by omega)]
    by_cases h2 : sort = 1 ∨ sort = 4
    · rw [if_pos h2, decide_eq_false (show ¬ (sort ≠ 1 ∧ sort ≠ 4) by omega)]
      rcases ha with rfl | rfl <;> rcases hz h2 with rfl | rfl <;> rfl
    · rw [if_neg h2, decide_eq_true (show sort ≠ 1 ∧ sort ≠ 4 by omega)]; rfl
/-- one deed is one round -/
theorem deed_step (hs : sort < 5) (ha : ahead < 3) (hl : ws.length = 16) (go : ahead ≠ 0 → 0 < M.left ∧ M.left ≤ 5) :
    deedRegs sort ahead size W down (regsM ws base M) M.row M.src.toNat = regsM ws base (mstep sort ahead size H W down M) ∧ deedRow sort ahead W H (regsM ws base M) M.row M.src.toNat M.goal.toNat = (mstep sort ahead size H W down M).row ∧
    deedSix sort ahead W H (regsM ws base M) M.row M.six M.src.toNat M.goal.toNat = (mstep sort ahead size H W down M).six ∧ deedOn sort ahead size H W down (regsM ws base M) M.row M.six M.src.toNat M.goal.toNat = goesB sort ahead (mstep sort ahead size H W down M) := by
  have r1 := round_m (ahead := ahead) (H := H) (size := size) (W := W) (down := down) (base := base) (M := M) hs hl
  have r2 := round_row (ahead := ahead) (H := H) (size := size) (W := W) (down := down) (base := base) (M := M) hs hl
  have r3 := round_six (ahead := ahead) (H := H) (size := size) (W := W) (down := down) (base := base) (M := M) hs hl
  by_cases h0 : ahead = 0
  · have e : (mstep sort ahead size H W down M).left = M.left := by rw [mstep_left, if_pos h0]
    unfold deedRegs deedRow deedSix deedOn goesB
    simp only [if_pos h0]
    refine ⟨r1.trans ?_, r2, r3, trivial⟩
    rw [regsM, e]
  · have e : (mstep sort ahead size H W down M).left = M.left - 1 := by rw [mstep_left, if_neg h0]
    have g1 : (regsM ws base M).getD 1 0 = M.left := (regs4_get hl).2.1
    have hg := go h0
    obtain ⟨e1, e2, e3, e4⟩ := deed_go (sort := sort) (size := size) (H := H) (down := down) (W := W) (row := M.row) (six := M.six) (i := M.src.toNat) (j := M.goal.toNat) h0 (show ¬ (regsM ws base M).getD 1 0 = 0 by rw [g1]; omega)
    rw [e1, e2, e3, e4, r1, r2, r3, regs4_1, (regs4_get hl).2.1, (regs4_get hl).2.1, Int.emod_eq_of_lt (by omega) (by omega)]
    refine ⟨?_, rfl, rfl, last_goes (by omega) hg.1 hg.2⟩
    rw [regsM, e]
end
/-- what the turns of the law's loop keep -/
structure TB (ahead : Nat) (k : Nat) (M : Mach) (going : Bool) : Prop where
  s : 48 - 8 * (k : Int) ≤ M.src ∧ M.src ≤ 63 + 8 * (k : Int)
  g : 48 - 8 * (k : Int) ≤ M.goal ∧ M.goal ≤ 63 + 8 * (k : Int)
  f : 0 ≤ M.left ∧ (ahead ≠ 0 → M.left + (k : Int) ≤ 5 ∨ (k = 1 ∧ M.left = 0))
  k : k ≤ 5 ∧ (going = true → k = 0 ∨ (ahead ≠ 0 ∧ 0 < M.left))
  l : M.row.length = 128
  o : Octs M.row
noncomputable def Turn (sort ahead : Nat) (size H : Int) (W : Nat) (down : Int) (M0 : Mach) (k : Nat) (M : Mach) (going : Bool) : Prop :=
  (k = 0 ∧ M = M0 ∧ going = true) ∨ (∃ r, After sort ahead size H W down M0 r M going ∧ k = max 1 r ∧ (going = true → 1 ≤ r))
theorem turn_next {ws : List Int} {base down size H : Int} {W sort ahead k : Nat} {M0 M : Mach} (hs : sort < 5) (ha : ahead < 3) (hz : SizeW size H W) (hl : ws.length = 16) (hT : Turn sort ahead size H W down M0 k M true) (hB : TB ahead k M true) :
    ∃ M' g', Turn sort ahead size H W down M0 (k + 1) M' g' ∧ TB ahead (k + 1) M' g' ∧ deedRegs sort ahead size W down (regsM ws base M) M.row M.src.toNat = regsM ws base M' ∧ deedRow sort ahead W H (regsM ws base M) M.row M.src.toNat M.goal.toNat = M'.row ∧
      deedSix sort ahead W H (regsM ws base M) M.row M.six M.src.toNat M.goal.toNat = M'.six ∧ deedOn sort ahead size H W down (regsM ws base M) M.row M.six M.src.toNat M.goal.toNat = g' := by
  have hW8 := (sizeW_n hz).2.2.1
  have hst : -8 ≤ stepI down W ∧ stepI down W ≤ 8 := by unfold stepI; split <;> omega
  have e1 : (mstep sort ahead size H W down M).src = M.src ∨ (mstep sort ahead size H W down M).src = M.src + stepI down W := by show (if _ then _ else _) = _ ∨ (if _ then _ else _) = _; split <;> simp
  have e2 : (mstep sort ahead size H W down M).goal = M.goal ∨ (mstep sort ahead size H W down M).goal = M.goal + stepI down W := by show (if _ then _ else _) = _ ∨ (if _ then _ else _) = _; split <;> simp
  have e3 : ahead ≠ 0 → (mstep sort ahead size H W down M).left = M.left - 1 := fun h => if_neg h
  have e4 : ahead = 0 → (mstep sort ahead size H W down M).left = M.left := fun h => if_pos h
  have e5 : goesB sort ahead (mstep sort ahead size H W down M) = true → ahead ≠ 0 ∧ 0 < (mstep sort ahead size H W down M).left := by
    intro h
    unfold goesB at h
    by_cases h0 : ahead = 0
    · rw [if_pos h0] at h; cases h
    · rw [if_neg h0] at h
      exact ⟨h0, by simpa using (Bool.and_eq_true_iff.mp h).1⟩
  obtain ⟨bs, bg, bf, bk, bl, bo⟩ := hB
  have stepC : ∀ r, After sort ahead size H W down M0 r M true → k = r → (ahead ≠ 0 → 0 < M.left ∧ M.left ≤ 5) → k < 5 → ∃ M' g', Turn sort ahead size H W down M0 (k + 1) M' g' ∧ TB ahead (k + 1) M' g' ∧ deedRegs sort ahead size W down (regsM ws base M) M.row M.src.toNat = regsM ws base M' ∧ deedRow sort ahead W H (regsM ws base M) M.row M.src.toNat M.goal.toNat = M'.row ∧
      deedSix sort ahead W H (regsM ws base M) M.row M.six M.src.toNat M.goal.toNat = M'.six ∧ deedOn sort ahead size H W down (regsM ws base M) M.row M.six M.src.toNat M.goal.toNat = g' := by
    intro r hA hk hg hk5
    have hR := mstep_row (sort := sort) (ahead := ahead) (size := size) (H := H) (W := W) (down := down) bl bo
    refine ⟨_, _, .inr ⟨r + 1, after_next hA, by omega, fun _ => by omega⟩, ⟨by omega, by omega, ?_, ⟨by omega, fun h => .inr (e5 h)⟩, hR.1, hR.2⟩, deed_step hs ha hl hg⟩
    by_cases h0 : ahead = 0
    · rw [e4 h0]; exact ⟨bf.1, fun h => absurd h0 h⟩
    · rw [e3 h0]
      have := hg h0
      refine ⟨by omega, fun _ => .inl ?_⟩
      rcases bf.2 h0 with h | h <;> omega
  rcases hT with ⟨rfl, rfl, _⟩ | ⟨r, hA, hk, hr⟩
  · by_cases hgo : startB ahead M.left = true
    · refine stepC 0 (hgo ▸ after_zero) rfl (fun h0 => ?_) (by omega)
      unfold startB at hgo
      rw [decide_eq_false h0] at hgo
      have hp : 0 < M.left := by simpa using hgo
      rcases bf.2 h0 with h | h <;> omega
    · have hn : startB ahead M.left = false := by simpa using hgo
      have h0 : ahead ≠ 0 := by rintro rfl; simp [startB] at hn
      have hlz : M.left = 0 := by
        unfold startB at hn
        rw [decide_eq_false h0] at hn
        have : ¬ 0 < M.left := by simpa using hn
        omega
      obtain ⟨f1, f2, f3, f4⟩ := deed_stop (sort := sort) (size := size) (H := H) (down := down) (W := W) (row := M.row) (six := M.six) (i := M.src.toNat) (j := M.goal.toNat) h0 (show (regsM ws base M).getD 1 0 = 0 from (regs4_get hl).2.1.trans hlz)
      refine ⟨M, false, .inr ⟨0, hn ▸ after_zero, by omega, fun h => nomatch h⟩, ⟨by omega, by omega, ⟨bf.1, fun _ => .inr ⟨rfl, hlz⟩⟩, ⟨by omega, fun h => nomatch h⟩, bl, bo⟩, f1, f2, f3, f4⟩
  · have hr1 := hr rfl
    rcases bk.2 rfl with h | ⟨h0, h⟩
    · omega
    · refine stepC r hA (by omega) (fun _ => ?_) ?_
      · rcases bf.2 h0 with h' | h' <;> omega
      · rcases bf.2 h0 with h' | h' <;> omega
theorem turn_zero {sort ahead : Nat} {size H : Int} {W : Nat} {down : Int} {M0 : Mach} : Turn sort ahead size H W down M0 0 M0 true := .inl ⟨rfl, rfl, rfl⟩
theorem turn_done {sort ahead k r : Nat} {size H : Int} {W : Nat} {down : Int} {M0 M M' : Mach} (h : Turn sort ahead size H W down M0 k M false) (h' : After sort ahead size H W down M0 r M' false) : M' = M ∧ k = max 1 r := by
  rcases h with ⟨_, _, h⟩ | ⟨r2, hA, hk, _⟩
  · cases h
  · obtain ⟨e1, e2⟩ := after_same h' hA
    exact ⟨e2, by omega⟩
end

set_option maxHeartbeats 8000000 in
theorem leg2b (w : World) {d : DefRec} {kwd : List (Str × PySem.Expr)} (h1 : defOf vw (Str.ofString "law") = some (d, kwd)) {loose : List Str} {mean : ExcName → Option Value} {mg mb : Str → Option Value} {h₀ : Heap} {L fa : Addr} {cdv : Value} {m : Str → Option Value} {s : Shared} {Q : Flow → Shared → Prop} {E : Value → Shared → Prop}
    {ad : Ad} {K : SK} {KF : FK} {rv bv : Value} {six : Six} {down : Int} {g : Obj → Led} {sixA : Addr} {t0 t1 t2 t3 t4 t5 td k0 k1 k2 k3 k4 k5 k6 : Tok}
    (B : Below callerA h₀ [] h₀) (F : Fr h₀ L s.heap m) (X : (Mine.seed.heap_1 w.params).In h₀) (T : Top vw loose mean mg mb h₀)
    (N : News h₀ L s.heap (g (flD w KF (.int 0 k0) (.int 0 k1) (.int 0 k2) (.int 0 k3) (.int 0 k4) (.int 0 k5) (.int 0 k6))))
    (U : UpdF ad.fd (flD w KF (.int 0 k0) (.int 0 k1) (.int 0 k2) (.int 0 k3) (.int 0 k4) (.int 0 k5) (.int 0 k6)) (g (flD w KF (.int 0 k0) (.int 0 k1) (.int 0 k2) (.int 0 k3) (.int 0 k4) (.int 0 k5) (.int 0 k6))) g)
    (i1 : In1 ad.st (instObj 525 ad.sd) g) (i2 : In1 ad.sd (stD w K ad rv bv) g) (i3 : In1 ad.fl (instObj 181 ad.fd) g) (i4 : In1 sixA (sixT six t0 t1 t2 t3 t4 t5) g)
    (m1 : m (Str.ofString "state") = some (.ref ad.st)) (m2 : m (Str.ofString "six") = some (.ref sixA)) (m3 : m (Str.ofString "down") = some (.int down td))
    (hret : ∀ u0 u1 u2 u3 u4 u5 u6 : Tok, Goes h₀ L m (g (flD w KF (.int six.c u0) (.int six.p u1) (.int six.a u2) (.int six.z u3) (.int six.s u4) (.int six.o u5) (.int down u6))) s Q) :
    wpAny (model Challenge.rw_nn0059_01.row.prog w) (lawA d L fa cdv) (execs ((d.body.drop 23).take 3) (lawE d L fa cdv)) Q E s := by
  k_with_none
  k_with "execs cons" => (refine toks_succ ?_; intro tkU)
  k_with "storeName" => with_reducible first | (refine store_toks ?_; intro tkU) | (refine store_add ?_; intro tkU)
  k_with "setAttr ref" => first
    | with_reducible (refine seta_toks ?_; intro tkU)
    | with_reducible (refine seta_add ?_; intro tkU)
    | k_dflt (
      refine' toks_any ?_
      intro tkU
      refine' set_dictT ?k1 ?k2 ?k3 ?k4 ?k5 ?k6 ?k7 ?k8 ?k9 ?k10 ?k11 ?k12 ?k13 ?_; (case k1 => k_asm); (case k2 => k_asm); (case k3 => k_asm); (case k4 => k_inst); (case k5 => exact rfl); (case k6 => k_is); (case k7 => k_is); (case k8 => k_is); (case k9 => k_is); (case k10 => k_get); (case k11 => k_put); (case k12 => k_upd); (case k13 => exact Nat.le_of_ble_eq_true rfl); k_whole; intro h' F' N'; (try k_sweep))
  k_with "call type:range" => ((rename Fr _ _ _ _ => F'); (rename News _ _ _ _ => N'); (with_unfolding_all refine range1_rows F' N' ?_; intro _ _ _ _ _ _ _ _ _))
  have e := Option.some.inj (h1.symm.trans (by rfl : defOf vw (Str.ofString "law") = some (_, _)))
  obtain ⟨rfl, rfl⟩ := Prod.mk.inj e
  clear h1 e
  dsimp only [lawA, lawE, List.drop, List.take]
  k_with "eval Name" => k_dflt (refine' ldLoc (by k_asm) (ldm (by assumption) (by exact rfl)) ?_)
  k_with "assignInOrder" => (rename News _ _ _ _ => NN; have NN2 := drop1 NN; clear NN)
  k_steps
  rename Fr _ _ _ _ => FF
  rename News _ _ _ _ => NN
  exact hret _ _ _ _ _ _ _ _ _ FF NN

theorem octs_in {row : List Int} (h : Octs row) : PySem.W.KBa.In row := fun x hx => h x hx
set_option maxHeartbeats 8000000 in
theorem leg2c (w : World) {d : DefRec} {kwd : List (Str × PySem.Expr)} (h1 : defOf vw (Str.ofString "law") = some (d, kwd)) {loose : List Str} {mean : ExcName → Option Value} {mg mb : Str → Option Value} {h₀ : Heap} {L fa : Addr} {cdv : Value} {m : Str → Option Value} {s : Shared} {Q : Flow → Shared → Prop} {E : Value → Shared → Prop}
    {ad : Ad} {K : SK} {km : Tok} {rv bv : Value} {g : Obj → Led} {ho oB oR : Obj} {rowD : Addr} {rl : List Value} {n2 : Nat} {row : List Int} {base : Int} {tB : Tok}
    (B : Below callerA h₀ [] h₀) (F : Fr h₀ L s.heap m) (X : (Mine.seed.heap_1 w.params).In h₀) (T : Top vw loose mean mg mb h₀)
    (N : News h₀ L s.heap (g ho)) (U : UpdF ad.hd ho (g ho) g)
    (i1 : In1 ad.st (instObj 525 ad.sd) g) (i2 : In1 ad.sd (stD w K ad rv bv) g) (i3 : In1 ad.mm (instObj 408 ad.md) g) (i4 : In1 ad.md (memD w km 1 ad.hd) g) (i5 : In1 rowD (listOf rl.toArray n2) g) (i6 : In1 (L + 1 + 1 + 1) oB g) (i7 : In1 (L + 1 + 1 + 1 + 1) oR g)
    (cB : oB.data = .cell (some (.int base tB))) (cR : oR.data = .cell (some (.ref rowD)))
    (hI : IntsAre rl row) (hl : row.length = 128) (h8 : Octs row) (hh : ho.IsDictOf (intKind Challenge.rw_nn0059_01.row.prog w) [])
    (m1 : m (Str.ofString "state") = some (.ref ad.st))
    (hret : ∀ (ho' : Obj) (u : Tok), MemIs w ho' base row → Goes h₀ L (fun z => if z = Str.ofString "going" then some (.bool true) else if z = Str.ofString "turns" then some (.int 0 u) else m z) (g ho') s Q) :
    wpAny (model Challenge.rw_nn0059_01.row.prog w) (lawA d L fa cdv) (execs ((d.body.drop 26).take 3) (lawE d L fa cdv)) Q E s := by
  k_with_none
  k_with "execs cons" => (refine toks_succ ?_; intro tkU)
  k_with "storeName" => with_reducible first | (refine store_toks ?_; intro tkU) | (refine store_add ?_; intro tkU)
  k_with "call type:range" => ((rename Fr _ _ _ _ => F'); (rename News _ _ _ _ => N'); (with_unfolding_all refine range1_rows F' N' ?_; intro _ _ _ _ _ _ _ _ _))
  k_with "my use" => (
        (case k1 => k_asm); (case k2 => k_asm); (case k3 => k_asm); (case k4 => first | k_asm | exact drop1 (by assumption) | exact drop1 (drop1 (by assumption)) | exact drop1 (drop1 (drop1 (by assumption))) | exact drop1 (drop1 (drop1 (drop1 (by assumption))))); (case k5 => k_asm); (case k6 => first | exact rfl | assumption); (case k7 => ktr_room); (case k8 => ktr_units))
  have e := Option.some.inj (h1.symm.trans (by rfl : defOf vw (Str.ofString "law") = some (_, _)))
  obtain ⟨rfl, rfl⟩ := Prod.mk.inj e
  clear h1 e
  dsimp only [lawA, lawE, List.drop, List.take]
  have hbb : PySem.W.KBw.bInts (byteArr row) = row := PySem.W.KBa.ints_make (octs_in h8)
  k_with "eval Name" => k_dflt (refine' ldLoc (by k_asm) (ldm (by assumption) (by exact rfl)) ?_)
  k_with "call ref" => k_dflt (
    with_reducible show wpAny _ _ (call (Value.ref 367) _) _ _ _
    refine' useC (c_load w ad.mm ad.md ad.hd km 1 ho base (byteArr row) row _ _ _ g i3.h i4.h U ⟨[], hh, .nil⟩ hbb hl) ?k1 ?k2 ?k3 ?k4 ?k5 ?k6 ?k7 ?k8 ?_
    walk_at "my use"
    intro ho9 h9 tk9 hm9 F9 N9
    (try dsimp only)
    (try k_fold))
  k_steps
  rename Fr _ _ _ _ => FF
  rename News _ _ _ _ => NN
  exact hret _ _ (by assumption) _ _ FF NN

theorem deed_any {A : Nat} (h : A < 3) : DeedClaim A := by
  match A, h with
  | 0, _ => exact c_deed0
  | 1, _ => exact c_deed1
  | 2, _ => exact c_deed2
/-- what turns in the law's loop -/
structure LawC where
  M : Mach
  k : Nat
  going : Bool
  rp : Value
  bg : Value
  b : Obj
  c : Obj
  d : Obj
  tk : Tok
noncomputable abbrev LawC.led (c : LawC) (w : World) (K : SK) (ad : Ad) (g : Obj → Obj → Obj → Obj → Led) : Led := g (stD w K ad c.rp c.bg) c.b c.c c.d
noncomputable abbrev LawC.ps (c : LawC) : List (Str × Value) := [(Str.ofString "turns", .int c.k c.tk), (Str.ofString "going", .bool c.going)]
structure LawF (w : World) (KF : FK) (ws : List Int) (base down long : Int) (ahead : Nat) (c : LawC) : Prop where
  o : Objs w KF base down (regsM ws base c.M) c.M.row c.M.six c.b c.c c.d
  t : TB ahead c.k c.M c.going
  r : c.k = 0 ∨ ∃ t, c.rp = .int (if c.going then 4096 else 4096 + long) t
theorem law_while {prog : Program} {w : World} {A : Around} {E : Value → Shared → Prop} {Q : Flow → Shared → Prop} {s : Shared} {env : Env} {h₀ : Heap} {L : Addr} {test : PySem.Expr} {body : List Stmt} {pos : Pos} {m₀ : Str → Option Value}
    {K : SK} {KF : FK} {ad : Ad} {g : Obj → Obj → Obj → Obj → Led} {ws : List Int} {base down size H long : Int} {sort ahead W : Nat} {M0 : Mach} {rp bg : Value} {b c d : Obj} {tk : Tok}
    (F : Fr h₀ L s.heap m₀) (N : News h₀ L s.heap (g (stD w K ad rp bg) b c d)) (o : Objs w KF base down (regsM ws base M0) M0.row M0.six b c d) (tb : TB ahead 0 M0 true)
    (hk : ∀ p ∈ LawC.ps ⟨M0, 0, true, rp, bg, b, c, d, tk⟩, m₀ p.1 = some p.2)
    (turn : ∀ (c : LawC) (u : Str → Option Value) h tk, LawF w KF ws base down long ahead c → Turn sort ahead size H W down M0 c.k c.M c.going → Fr h₀ L h (kstB (fun z => if ([] : List Str).contains z then u z else m₀ z) c.ps) → News h₀ L h (c.led w K ad g) →
      wpAny (model prog w) A (isTrue test env (eval test env)) (fun b s₂ =>
        if b = true then wpAny (model prog w) A (execs body env) (KswPost h₀ L s (fun c => LawC.led c w K ad g) LawC.ps (LawF w KF ws base down long ahead) [] m₀ (fun c => Turn sort ahead size H W down M0 c.k c.M c.going) (fun c => if c.going then 6 - c.k else 0) Q c) E s₂ else Q .next s₂) E { s with heap := h, toks := tk })
    (hE : PassesOwn (model prog w) A env E := by passes_own) :
    wpAny (model prog w) A (exec (.While test body [] pos) env) Q E s :=
  ksw_while (σ := LawC) (fun c => c.led w K ad g) (fun c => c.ps) (LawF w KF ws base down long ahead) [] (fun c => Turn sort ahead size H W down M0 c.k c.M c.going) (fun c => if c.going then 6 - c.k else 0)
    ⟨M0, 0, true, rp, bg, b, c, d, tk⟩ F N ⟨o, tb, .inl rfl⟩ hk turn_zero turn hE
theorem law_end {w : World} {K : SK} {KF : FK} {ad : Ad} {g : Obj → Obj → Obj → Obj → Led} {ws : List Int} {base down size H long : Int} {sort ahead W k : Nat} {M0 M M' : Mach} {rp bg rp' bg' : Value} {b c d b' c' d' : Obj} {tk tk' : Tok} {going' : Bool} {h₀ h' : Heap} {L : Addr} {s : Shared} {m₀ m' : Str → Option Value} {tks : Nat} {t : Tok}
    (F : Fr h₀ L h' m') (N : News h₀ L h' (g (stD w K ad rp' bg') b' c' d')) (o : Objs w KF base down (regsM ws base M') M'.row M'.six b' c' d') (tb0 : TB ahead k M true) (tb : TB ahead (k + 1) M' going') (hT : Turn sort ahead size H W down M0 (k + 1) M' going') (e : rp' = .int (if going' then 4096 else 4096 + long) t)
    (hk : ∀ p ∈ LawC.ps ⟨M', k + 1, going', rp', bg', b', c', d', tk'⟩, m' p.1 = some p.2) (hr : ∀ z, (∀ p ∈ LawC.ps ⟨M', k + 1, going', rp', bg', b', c', d', tk'⟩, z ≠ p.1) → ([] : List Str).contains z = false → m' z = m₀ z) :
    KswEnd h₀ L s (fun c => LawC.led c w K ad g) LawC.ps (LawF w KF ws base down long ahead) [] m₀ (fun c => Turn sort ahead size H W down M0 c.k c.M c.going) (fun c => if c.going then 6 - c.k else 0) ⟨M, k, true, rp, bg, b, c, d, tk⟩ { s with heap := h', toks := tks } := by
  have := tb0.k.1
  refine ksw_end ⟨M', k + 1, going', rp', bg', b', c', d', tk'⟩ F N (fun p hp => hp) ⟨o, tb, .inr ⟨_, e⟩⟩ hk hr hT ?_
  dsimp only
  rw [if_pos rfl]
  split <;> omega
set_option maxHeartbeats 8000000 in
theorem leg3 (w : World) {df : DefRec} {kwd : List (Str × PySem.Expr)} (h1 : defOf vw (Str.ofString "law") = some (df, kwd)) {loose : List Str} {mean : ExcName → Option Value} {mg mb : Str → Option Value} {h₀ : Heap} {L fa : Addr} {cdv : Value} {m : Str → Option Value} {s : Shared} {Q : Flow → Shared → Prop} {E : Value → Shared → Prop}
    {ad : Ad} {K : SK} {KF : FK} {KI : IK} {km : Tok} {rp bg : Value} {b c d : Obj} {g : Obj → Obj → Obj → Obj → Led} {ws : List Int} {base down size H long : Int} {sort e A W : Nat} {M0 : Mach} {x dx opT : Addr} {tn tp tl tk : Tok}
    (B : Below callerA h₀ [] h₀) (F : Fr h₀ L s.heap m) (X : (Mine.seed.heap_1 w.params).In h₀) (T : Top vw loose mean mg mb h₀)
    (N : News h₀ L s.heap (g (stD w K ad rp bg) b c d)) (C : Cells w km ad g) (o : Objs w KF base down (regsM ws base M0) M0.row M0.six b c d) (tb : TB A 0 M0 true)
    (i1 : In4 x (instObj 580 dx) g) (i2 : In4 dx (insD w KI (toldStr sort e) tn opT (prefStr A) tp) g) (i3 : In4 opT tup0 g)
    (hs : sort < 5) (he : e < 4) (hA : A < 3) (hz : SizeW size H W) (hsz : size = 8 * 2 ^ e) (hl : ws.length = 16) (hlo : 1 ≤ long ∧ long ≤ 4) (hE : PassesOwn (model Challenge.rw_nn0059_01.row.prog w) (lawA df L fa cdv) (lawE df L fa cdv) E)
    (m1 : m (Str.ofString "state") = some (.ref ad.st)) (m2 : m (Str.ofString "long") = some (.int long tl)) (m3 : m (Str.ofString "deed") = some (.ref x)) (m4 : m (Str.ofString "turns") = some (.int 0 tk)) (m5 : m (Str.ofString "going") = some (.bool true))
    (hret : ∀ (k : Nat) (M : Mach) (b c d : Obj) (bg : Value) (t u : Tok), Turn sort A size H W down M0 k M false → TB A k M false → Objs w KF base down (regsM ws base M) M.row M.six b c d → Goes h₀ L (fun z => if z = Str.ofString "going" then some (.bool false) else if z = Str.ofString "turns" then some (.int k u) else m z) (g (stD w K ad (.int (4096 + long) t) bg) b c d) s Q) :
    wpAny (model Challenge.rw_nn0059_01.row.prog w) (lawA df L fa cdv) (execs ((df.body.drop 29).take 1) (lawE df L fa cdv)) Q E s := by
  k_with_none
  k_with "execs cons" => (refine toks_succ ?_; intro tkU)
  k_with "storeName" => with_reducible first | (refine store_toks ?_; intro tkU) | (refine store_add ?_; intro tkU)
  k_with "call type:range" => ((rename Fr _ _ _ _ => F'); (rename News _ _ _ _ => N'); (with_unfolding_all refine range1_rows F' N' ?_; intro _ _ _ _ _ _ _ _ _))
  k_with "my use" => (
        (case k1 => k_asm); (case k2 => k_asm); (case k3 => k_asm); (case k4 => first | k_asm | exact drop1 (by assumption) | exact drop1 (drop1 (by assumption)) | exact drop1 (drop1 (drop1 (by assumption))) | exact drop1 (drop1 (drop1 (drop1 (by assumption))))); (case k5 => k_asm); (case k6 => first | exact rfl | assumption); (case k7 => ktr_room); (case k8 => ktr_units))
  have e9 := Option.some.inj (h1.symm.trans (by rfl : defOf vw (Str.ofString "law") = some (_, _)))
  obtain ⟨rfl, rfl⟩ := Prod.mk.inj e9
  clear h1 e9
  dsimp only [lawA, lawE, List.drop, List.take]
  obtain ⟨n5, n4, nf, _, _⟩ := told_facts hs he
  k_with "eval Name" => k_dflt (refine' ldLoc (by k_asm) (ldm (by assumption) (by exact rfl)) ?_)
  k_with "exec While" => k_dflt (
    rename Fr _ _ _ _ => FF
    rename News _ _ _ _ => NN
    refine' law_while (sort := sort) (size := size) (H := H) (W := W) (down := down) (long := long) FF NN o tb ?names ?turn ?own
    case names => (intro p hp; simp only [LawC.ps, List.mem_cons, List.not_mem_nil, or_false] at hp; rcases hp with rfl | rfl; exact m4; exact m5)
    case own => exact hE
    case' turn =>
      intro cc u h tk1 hf hP F1 N1
      obtain ⟨M, k, going, rp1, bg1, b1, c1, d1, tk2⟩ := cc
      obtain ⟨fo, ft, fr⟩ := hf
      dsimp only [LawC.led, LawC.ps] at fo ft fr hP F1 N1 ⊢
      have hk5 := ft.k.1
      cases going
      case' true =>
        have hs1 : M.src = (M.src.toNat : Int) ∧ M.src.toNat + W ≤ 128 := by have := (sizeW_n hz).2.2.1; have := ft.s; omega
        have hs2 : M.goal = (M.goal.toNat : Int) ∧ M.goal.toNat + W ≤ 128 := by have := (sizeW_n hz).2.2.1; have := ft.g; omega
        try k_fold
      case' false =>
        try k_fold)
  k_with "call ref" => k_dflt (
    with_reducible show wpAny _ _ (call (Value.ref 318) _) _ _ _
    obtain ⟨g0, g1, g6, g7⟩ := regs4_get (a := M.low) (b := M.left) (c := (base + M.src) % 18446744073709551616) (d := (base + M.goal) % 18446744073709551616) hl
    obtain ⟨M', g', hT', hB', e1, e2, e3, e4⟩ := turn_next (base := base) hs hA hz hl hP ft
    refine' useC (deed_any hA w km ad K KF _ _ _ _ base down size H W (regsM ws base M) M.row M.six _ _ _ g M.src.toNat M.goal.toNat sort x dx opT KI _ (e : Int) tn tp C fo (by rw [regsM, regs4_len]; exact hl) ft.l ft.o hz hs1.2 hs2.2 ?q6 ?q7 hs i1 i2 i3 n5 n4 nf (by omega) (by omega) (by rw [Int.toNat_natCast]; exact hsz)) ?k1 ?k2 ?k3 ?k4 ?k5 ?k6 ?k7 ?k8 ?_
    (case q6 => rw [regsM, g6, Int.emod_emod, ← hs1.1])
    (case q7 => rw [regsM, g7, Int.emod_emod, ← hs2.1])
    walk_at "my use"
    intro b9 c9 d9 h9 tk9 ho9 F9 N9
    rw [e1, e2, e3] at ho9
    rw [e4] at N9
    cases g'
    case' true =>
      rw [if_pos rfl] at N9
      (try dsimp only)
      (try k_fold)
    case' false =>
      rw [if_neg (by decide)] at N9
      (try dsimp only)
      (try k_fold))
  k_steps
  focus (
    rcases fr with rfl | ⟨t, e9⟩
    · exfalso
      rcases hP with ⟨_, _, h9⟩ | ⟨r, _, h9, _⟩
      · cases h9
      · omega
    · have F2 : Fr h₀ L h (fun z => if z = Str.ofString "going" then some (Value.bool false) else if z = Str.ofString "turns" then some (.int k tk2) else m z) := by
        refine cast (congrArg (Fr h₀ L h) (funext fun z => ?_)) F1
        simp only [kstB]
        by_cases h1 : z = Str.ofString "turns"
        · rw [if_pos h1, if_neg (by rw [h1]; decide), if_pos h1]
        · rw [if_neg h1]
          by_cases h2 : z = Str.ofString "going"
          · rw [if_pos h2, if_pos h2]
          · rw [if_neg h2, if_neg h2, if_neg h1]; rfl
      rw [if_neg (by decide)] at e9
      rw [e9] at N1
      exact hret k M b1 c1 d1 bg1 t tk2 hP ft fo h tk1 F2 N1)
  all_goals
    rename Fr _ _ _ _ => FF
    rename News _ _ _ _ => NN
    try rw [show (4096 + long == 4096) = false by rw [beq_eq_false_iff_ne]; omega] at FF
    refine' law_end FF NN ho9 ft hB' hT' rfl ?hk ?hr
    case hk =>
      intro p hp
      simp only [LawC.ps, List.mem_cons, List.not_mem_nil, or_false] at hp
      rcases hp with rfl | rfl
      · exact rfl
      · exact rfl
    case hr =>
      intro z hz _
      have h1 := hz _ (.head _)
      have h2 := hz _ (.tail _ (.head _))
      dsimp only at h1 h2 ⊢
      rw [if_neg h2, if_neg h1]
      try (show kstB _ _ _ = _; simp only [kstB]; rw [if_neg h1, if_neg h2]; rfl)

section
variable {prog : Program} {w : World} {A : Around} {E : Value → Shared → Prop} {s : Shared}
theorem law_get {h₀ : Heap} {L l : Addr} {news : Led} {value slice : PySem.Expr} {vs : List Value} {ns : List Int} {n : Nat} {k x : Int} {u : Tok} {Q : Value → Shared → Prop} (N : News h₀ L s.heap news) (hm : (l, listOf vs.toArray n) ∈ news) (hi : IntsAre vs ns)
    (h0 : 0 ≤ k ∧ k < 16) (hl : ns.length = 16) (e : ns.getD k.toNat 0 = x) (h : ∀ t, Q (.int x t) s)
    (hs : subscripted slice false (.ref l) (.int k u) = operate [.ref l, .int k u] (getItem (.ref l) (.int k u)) := by with_unfolding_all rfl) :
    wpAny (model prog w) A (subscriptTail value slice (.ref l) (.int k u)) Q E s :=
  item_anyK (PySem.IsL.isList (n := n) (N _ hm).1) hi h0.1 (by omega) (by omega) (fun t => e ▸ h t) hs
end
theorem regsM_turn {ws : List Int} {base : Int} {M0 M : Mach} : ((((regsM ws base M0).set 0 M.low).set 1 M.left).set 6 ((base + M.src) % 18446744073709551616)).set 7 ((base + M.goal) % 18446744073709551616) = regsM ws base M := regs4_again
/-- what the play's objects become -/
theorem play_led {wl rowD plA six : Addr} {own G : Led} {z : Six} {wv vs : List Value} {n1 n : Nat} {pl : Obj} {t0 t1 t2 t3 t4 t5 : Tok}
    (h6 : (six, sixT z t0 t1 t2 t3 t4 t5) ∈ own ++ (plA, pl) :: (wl, listOf wv.toArray n1) :: (rowD, listOf vs.toArray n) :: G) (hown : ∀ p ∈ own, ∀ q ∈ (plA, pl) :: (wl, listOf wv.toArray n1) :: (rowD, listOf vs.toArray n) :: G, @LT.lt Nat _ q.1 p.1)
    (f1 : ∀ p ∈ G, p.1 ≠ wl) (hpl : @LT.lt Nat _ wl plA) : six ≠ wl := by
  rcases List.mem_append.mp h6 with h | h
  · exact neA (.inr (hown _ h _ (.tail _ (.head _))))
  · simp only [List.mem_cons] at h
    rcases h with h | h | h | h
    · rw [(Prod.mk.inj h).1]; exact neA (.inr hpl)
    · exact absurd (Prod.mk.inj h).2 six_ne
    · exact absurd (Prod.mk.inj h).2 six_ne
    · exact f1 _ h
set_option maxHeartbeats 8000000 in
theorem leg4 (w : World) {df : DefRec} {kwd : List (Str × PySem.Expr)} (h1 : defOf vw (Str.ofString "law") = some (df, kwd)) {loose : List Str} {mean : ExcName → Option Value} {mg mb : Str → Option Value} {h₀ : Heap} {L fa : Addr} {cdv : Value} {m : Str → Option Value} {s : Shared} {Q : Flow → Shared → Prop} {E : Value → Shared → Prop}
    {wl rowD sixA : Addr} {wv rv : List Value} {n1 n2 : Nat} {G : Led} {ws : List Int} {base down size H : Int} {sort A W : Nat} {M0 : Mach} {oT oB oR : Obj} {tT tB t0 t1 t2 t3 t4 t5 u0 u1 u2 u3 u4 u5 : Tok}
    (B : Below callerA h₀ [] h₀) (F : Fr h₀ L s.heap m) (X : (Mine.seed.heap_1 w.params).In h₀) (T : Top vw loose mean mg mb h₀)
    (N : News h₀ L s.heap ((wl, listOf wv.toArray n1) :: (rowD, listOf rv.toArray n2) :: G)) (ne : @Ne Nat wl rowD) (f1 : ∀ p ∈ G, p.1 ≠ wl) (f2 : ∀ p ∈ G, p.1 ≠ rowD)
    (i6 : (sixA, sixT M0.six t0 t1 t2 t3 t4 t5) ∈ G) (iT : (L + 1 + 1, oT) ∈ G) (iB : (L + 1 + 1 + 1, oB) ∈ G) (iR : (L + 1 + 1 + 1 + 1, oR) ∈ G)
    (cT : oT.data = .cell (some (.int 18446744073709551616 tT))) (cB : oB.data = .cell (some (.int base tB))) (cR : oR.data = .cell (some (.ref rowD)))
    (hI : IntsAre wv (regsM ws base M0)) (hR : IntsAre rv M0.row) (hl : ws.length = 16) (hl2 : M0.row.length = 128) (h8 : Octs M0.row) (hs : sort < 5) (hz : SizeW size H W) (hd : down = 0 ∨ down = 1)
    (r1 : 48 ≤ M0.src ∧ M0.src ≤ 63) (r2 : 48 ≤ M0.goal ∧ M0.goal ≤ 63) (r3 : 0 ≤ M0.left ∧ (A ≠ 0 → M0.left ≤ 5))
    (m1 : m (Str.ofString "sort") = some (.int (sort : Int) u0)) (m2 : m (Str.ofString "width") = some (.int (W : Int) u1)) (m3 : m (Str.ofString "ahead") = some (.int (A : Int) u2)) (m4 : m (Str.ofString "down") = some (.int down u3))
    (m5 : m (Str.ofString "source") = some (.int M0.src u4)) (m6 : m (Str.ofString "goal") = some (.int M0.goal u5)) (m7 : m (Str.ofString "six") = some (.ref sixA)) (m8 : m (Str.ofString "worths") = some (.ref wl))
    (hret : ∀ (M : Mach) (k : Nat) (wv' rv' : List Value) (n' : Nat) (six' : Addr) (v0 v1 v2 v3 v4 v5 x0 : Tok) (m' : Str → Option Value), After sort A size H W down M0 k M false → k ≤ 5 → IntsAre wv' (regsM ws base M) → IntsAre rv' M.row → M.row.length = 128 → Octs M.row →
      m' (Str.ofString "rounds") = some (.int (k : Int) x0) → m' (Str.ofString "six") = some (.ref six') → (∀ z, z ∉ [Str.ofString "source", Str.ofString "goal", Str.ofString "left", Str.ofString "low", Str.ofString "six", Str.ofString "rounds"] → m' z = m z) →
      Goes h₀ L m' ((wl, listOf wv'.toArray n1) :: (six', sixT M.six v0 v1 v2 v3 v4 v5) :: (rowD, listOf rv'.toArray n') :: G) s Q) :
    wpAny (model Challenge.rw_nn0059_01.row.prog w) (lawA df L fa cdv) (execs ((df.body.drop 30).take 3) (lawE df L fa cdv)) Q E s := by
  k_with_none
  k_with "execs cons" => (refine toks_succ ?_; intro tkU)
  k_with "storeName" => with_reducible first | (refine store_toks ?_; intro tkU) | (refine store_add ?_; intro tkU)
  k_with "call type:range" => ((rename Fr _ _ _ _ => F'); (rename News _ _ _ _ => N'); (with_unfolding_all refine range1_rows F' N' ?_; intro _ _ _ _ _ _ _ _ _))
  k_with "my use" => (
        (case k1 => k_asm); (case k2 => k_asm); (case k3 => k_asm); (case k4 => first | k_asm | exact drop1 (by assumption) | exact drop1 (drop1 (by assumption)) | exact drop1 (drop1 (drop1 (by assumption))) | exact drop1 (drop1 (drop1 (drop1 (by assumption))))); (case k5 => k_asm); (case k6 => first | exact rfl | assumption); (case k7 => ktr_room); (case k8 => ktr_units))
  have e9 := Option.some.inj (h1.symm.trans (by rfl : defOf vw (Str.ofString "law") = some (_, _)))
  obtain ⟨rfl, rfl⟩ := Prod.mk.inj e9
  clear h1 e9
  dsimp only [lawA, lawE, List.drop, List.take]
  obtain ⟨g0, g1, g6, g7⟩ := regs4_get (a := M0.low) (b := M0.left) (c := (base + M0.src) % 18446744073709551616) (d := (base + M0.goal) % 18446744073709551616) hl
  have hI16 : (regsM ws base M0).length = 16 := regs4_len.trans hl
  have e0 : (regsM ws base M0).getD (Int.toNat 0) 0 = M0.low := g0
  have e1 : (regsM ws base M0).getD (Int.toNat 1) 0 = M0.left := g1
  clear g0 g1 g6 g7
  generalize hws : regsM ws base M0 = ws9 at hI hI16 e0 e1
  k_with "eval Name" => k_dflt (refine' ldLoc (by k_asm) (ldm (by assumption) (by exact rfl)) ?_)
  k_with "subscriptTail Name Constant ref int" => k_dflt (first | refine law_get (by k_asm) (by k_mem) hI (by decide) hI16 e1 ?_ | refine law_get (by k_asm) (by k_mem) hI (by decide) hI16 e0 ?_)
  k_with "binaryOp Mod int int" => ((with_reducible show wpAny _ _ (binaryOp _ _ (Value.int 18446744073709551616 _)) _ _ _); k_dflt (refine topm_use ?_))
  k_with "assignInOrder" => (rename News _ _ _ (_ :: (_, listOf _ _) :: _) => NN; have NN2 := drop1 NN; clear NN)
  k_with "call ref" => k_dflt (
    with_reducible show wpAny _ _ (call (Value.ref 617) _) _ _ _
    rename _ ∧ _ ∧ AllLt _ _ => l9
    have l8 := l9.2.1
    have l7 := l9.1
    refine' useC (c_play w sort hs size H W A down _ _ _ _ _ 0 rowD _ sixA M0 rv n2 _ (fun o => (_, placesT M0.src M0.goal M0.left _ _ _) :: (wl, listOf wv.toArray n1) :: (rowD, o) :: G) _ _ _ _ _ _ _ _ _ hz hd ?q1 hR hl2 h8 r1 r2 r3 ⟨fun o => .head _⟩ ⟨fun o => .tail _ (.tail _ (.tail _ i6))⟩) ?k1 ?k2 ?k3 ?k4 ?k5 ?k6 ?k7 ?k8 ?_
    walk_at "my use"
    (case q1 => exact updF_tail (neA (.inr l8)) (updF_tail ne (updF_head f2)))
    intro D9 six9 M9 k9 vs9 n9 own9 a0 a1 a2 a3 a4 a5 s0 s1 s2 s3 s4 h9 tk9 hA9 hk9 hI9 hL9 hO9 h69 hown9 hlt9 F9 N9
    dsimp only at h69 hown9 hlt9 N9
    have n6 := play_led h69 hown9 f1 l7
    have N10 : News h₀ L h9 ((wl, listOf wv.toArray n1) :: (D9, playT M9 k9 six9 s0 s1 s2 s3 s4) :: (six9, sixT M9.six a0 a1 a2 a3 a4 a5) :: (rowD, listOf vs9.toArray n9) :: G) := by
      intro p hp
      simp only [List.mem_cons] at hp
      rcases hp with rfl | rfl | rfl | rfl | hp
      · exact N9 _ (.tail _ (List.mem_append_right _ (.tail _ (.head _))))
      · exact N9 _ (.head _)
      · exact N9 _ (.tail _ h69)
      · exact N9 _ (.tail _ (List.mem_append_right _ (.tail _ (.tail _ (.head _)))))
      · exact N9 _ (.tail _ (List.mem_append_right _ (.tail _ (.tail _ (.tail _ hp)))))
    have hW9 : ∀ p ∈ (D9, playT M9 k9 six9 s0 s1 s2 s3 s4) :: (six9, sixT M9.six a0 a1 a2 a3 a4 a5) :: (rowD, listOf vs9.toArray n9) :: G, p.1 ≠ wl := by
      intro p hp
      simp only [List.mem_cons] at hp
      rcases hp with rfl | rfl | rfl | hp
      · exact neA (.inr (hlt9 _ (List.mem_append_right _ (.tail _ (.head _)))))
      · exact n6
      · exact Ne.symm ne
      · exact f1 _ hp
    clear N9
    (try dsimp only)
    (try k_fold))
  k_with "setItem ref int" => k_dflt (
    apply law_set
    (case F => k_asm); (case N => k_asm); (case U => exact updF_head hW9); (case hi => assumption)
    (case hl => assumption)
    (case hk => decide)
    (intro h9 vs9 ws9 W9 F9 N9 I9 L9; (try dsimp only); (try k_fold)))
  k_steps
  rename Fr _ _ _ _ => FF
  rename News _ _ _ _ => NN
  subst W9
  rename _ = List.set _ (Int.toNat 6) _ => w3
  subst w3
  rename _ = List.set _ (Int.toNat 1) _ => w2
  subst w2
  rename _ = List.set _ (Int.toNat 0) _ => w1
  subst w1
  subst hws
  rename IntsAre vs9 _ => I10
  refine hret M9 k9 vs9 _ n9 six9 a0 a1 a2 a3 a4 a5 s4 _ hA9 hk9 (cast (congrArg (IntsAre vs9) regsM_turn) I10) hI9 hL9 hO9 rfl rfl (fun z hz => ?_) _ _ FF (fun p hp => NN p ?_)
  · simp only [List.mem_cons, List.not_mem_nil, or_false, not_or] at hz
    obtain ⟨a, b, c, d, e, f⟩ := hz
    rw [if_neg f, if_neg e, if_neg d, if_neg c, if_neg b, if_neg a]
  · simp only [List.mem_cons] at hp ⊢
    rcases hp with h | h | h | h
    · exact .inl h
    · exact .inr (.inr (.inl h))
    · exact .inr (.inr (.inr (.inl h)))
    · exact .inr (.inr (.inr (.inr h)))

set_option maxHeartbeats 8000000 in
theorem leg5 (w : World) {df : DefRec} {kwd : List (Str × PySem.Expr)} (h1 : defOf vw (Str.ofString "law") = some (df, kwd)) {loose : List Str} {mean : ExcName → Option Value} {mg mb : Str → Option Value} {h₀ : Heap} {L fa : Addr} {cdv : Value} {m : Str → Option Value} {s : Shared} {Q : Flow → Shared → Prop} {E : Value → Shared → Prop}
    {ad : Ad} {K : SK} {KF : FK} {bg : Value} {wl six : Addr} {wv rl xl : List Value} {n1 n nx k r : Nat} {nw : Led} {rs : List Int} {z : Six} {down long : Int} {t tl tt tr td v0 v1 v2 v3 v4 v5 t0 t1 t2 t3 t4 t5 t6 : Tok}
    (B : Below callerA h₀ [] h₀) (F : Fr h₀ L s.heap m) (X : (Mine.seed.heap_1 w.params).In h₀) (T : Top vw loose mean mg mb h₀) (N : News h₀ L s.heap nw)
    (p1 : (ad.st, instObj 525 ad.sd) ∈ nw) (p2 : (ad.sd, stD w K ad (.int (4096 + long) t) bg) ∈ nw) (p3 : (ad.rl, listOf rl.toArray n) ∈ nw) (p4 : (ad.fl, instObj 181 ad.fd) ∈ nw)
    (p5 : (ad.fd, flD w KF (.int z.c t0) (.int z.p t1) (.int z.a t2) (.int z.z t3) (.int z.s t4) (.int z.o t5) (.int down t6)) ∈ nw) (p6 : (ad.xl, listOf xl.toArray nx) ∈ nw) (p7 : (wl, listOf wv.toArray n1) ∈ nw) (p8 : (six, sixT z v0 v1 v2 v3 v4 v5) ∈ nw)
    (hI1 : IntsAre rl rs) (hI2 : IntsAre wv rs) (hx : IntsAre xl (List.replicate 16 0)) (hk : k = max 1 r)
    (m1 : m (Str.ofString "state") = some (.ref ad.st)) (m2 : m (Str.ofString "long") = some (.int long tl)) (m3 : m (Str.ofString "turns") = some (.int (k : Int) tt)) (m4 : m (Str.ofString "rounds") = some (.int (r : Int) tr)) (m5 : m (Str.ofString "worths") = some (.ref wl)) (m6 : m (Str.ofString "six") = some (.ref six)) (m7 : m (Str.ofString "down") = some (.int down td))
    (hret : Goes h₀ L m nw s Q) :
    wpAny (model Challenge.rw_nn0059_01.row.prog w) (lawA df L fa cdv) (execs ((df.body.drop 33).take 2) (lawE df L fa cdv)) Q E s := by
  k_with_none
  k_with "execs cons" => (refine toks_succ ?_; intro tkU)
  k_with "storeName" => with_reducible first | (refine store_toks ?_; intro tkU) | (refine store_add ?_; intro tkU)
  k_with "call type:range" => ((rename Fr _ _ _ _ => F'); (rename News _ _ _ _ => N'); (with_unfolding_all refine range1_rows F' N' ?_; intro _ _ _ _ _ _ _ _ _))
  have e9 := Option.some.inj (h1.symm.trans (by rfl : defOf vw (Str.ofString "law") = some (_, _)))
  obtain ⟨rfl, rfl⟩ := Prod.mk.inj e9
  clear h1 e9
  dsimp only [lawA, lawE, List.drop, List.take]
  k_with "eval Name" => k_dflt (refine' ldLoc (by k_asm) (ldm (by assumption) (by exact rfl)) ?_)
  k_with "compareOp NotEq ref ref" => first
    | k_dflt (
      rename News _ _ _ _ => NN
      refine ne_intsK (PySem.IsL.isList (n := n) (News.get NN p3)) hI1 (PySem.IsL.isList (n := n1) (News.get NN p7)) hI2 ?u5 ?_
      (case u5 => units_room)
      simp only [decide_true, Bool.not_true])
    | k_dflt (
      rename News _ _ _ _ => NN
      rename IntsAre (List.flatten _) _ => i1
      refine ne_intsK (PySem.IsL.isList (n := nx) (News.get NN (by k_mem : (ad.xl, listOf xl.toArray nx) ∈ _))) hx (PySem.IsL.isList (n := 0) (News.get NN (.head _))) i1 ?u7 ?_
      (case u7 => units_room)
      rw [show decide (List.replicate 16 (0 : Int) = (List.replicate (Int.toNat 16) [0]).flatten) = true from by decide])
  k_with "binaryOp Add ref ref" => k_dflt (
    rename Fr _ _ _ _ => FF
    rename News _ _ _ _ => NN
    refine' kde_addT FF NN (News.isTup NN (List.mem_cons_of_mem _ (List.mem_cons_of_mem _ p8))) (News.isTup NN (.head _)) (by exact List.cons_ne_nil _ _) (by exact List.cons_ne_nil _ _) (by exact Nat.le_of_ble_eq_true rfl) (by kun_lit) ?_
    intro D9 h9 F9 N9 l9
    (try dsimp only)
    try k_fold)
  k_steps
  all_goals try (exfalso; omega)
  rename Fr _ _ _ _ => FF
  rename News _ _ _ _ => NN
  exact hret _ _ FF (drop1 (drop1 (drop1 (drop1 (drop1 NN)))))

theorem canLayAll0_pairs : ∀ ps : List (Int × Int), PyData.canLayAll0 (ps.map fun p => PyData.tuple [PyData.int p.1, PyData.int p.2]) = true
  | [] => by simp [PyData.canLayAll0]
  | p :: r => by simp [PyData.canLayAll0, PyData.canLay0, canLayAll0_pairs r]
theorem depthAll_pairs : ∀ ps : List (Int × Int), PyData.depthAll (ps.map fun p => PyData.tuple [PyData.int p.1, PyData.int p.2]) ≤ 3
  | [] => by simp [PyData.depthAll]
  | p :: r => by
    have := depthAll_pairs r
    simp only [List.map_cons, PyData.depthAll, PyData.depth]
    omega
noncomputable def pairsD (ps : List (Int × Int)) : PyData := .list (ps.map fun p => PyData.tuple [PyData.int p.1, PyData.int p.2])
theorem shaped_pairs (ps : List (Int × Int)) : SeqAt.shaped (pairsD ps) = true := by
  have h1 := depthAll_pairs ps
  have h2 : PyData.depth (pairsD ps) ≤ 64 := by simp only [pairsD, PyData.depth]; omega
  show (PyData.canLay0 (pairsD ps) && decide (PyData.depth (pairsD ps) ≤ 64)) = true
  rw [Bool.and_eq_true]
  exact ⟨by simp only [pairsD, PyData.canLay0]; exact canLayAll0_pairs ps, decide_eq_true h2⟩
theorem eqv_pairs : ∀ ps : List (Int × Int), PyData.eqvAll (ps.map fun p => PyData.tuple [PyData.int p.1, PyData.int p.2]) (ps.map fun p => PyData.tuple [PyData.int p.1, PyData.int p.2]) = true
  | [] => by simp [PyData.eqvAll]
  | p :: r => by simp [PyData.eqvAll, PyData.eqv, eqv_pairs r]
theorem readsAll_pairs {h₀ h : Heap} {L : Addr} {nw : Led} (N : News h₀ L h nw) : ∀ {vs : List Value} {ps : List (Int × Int)}, vs.length = ps.length → (∀ (i : Nat) (v : Value) (p : Int × Int), vs[i]? = some v → ps[i]? = some p → ∃ a t u, v = .ref a ∧ (a, pairT p t u) ∈ nw) →
    ∃ as, ReadsAll h vs (ps.map fun p => PyData.tuple [PyData.int p.1, PyData.int p.2]) as
  | [], [], _, _ => ⟨_, .nil⟩
  | v :: vs, p :: ps, hl, hh => by
    obtain ⟨as, ih⟩ := readsAll_pairs N (vs := vs) (ps := ps) (by simpa using hl) (fun i v' p' h1 h2 => hh (i + 1) v' p' h1 h2)
    obtain ⟨a, t, u, rfl, hm⟩ := hh 0 v p rfl rfl
    have r : Reads h (.ref a) (.tuple [PyData.int p.1, PyData.int p.2]) _ := reads_tuple_at (News.get N hm) rfl rfl (.cons (.int _ _) (.cons (.int _ _) .nil))
    exact ⟨_, .cons r ih⟩
theorem eq_pairs {prog : Program} {w : World} {A : Around} {E : Value → Shared → Prop} {s : Shared} {h₀ : Heap} {L a b : Addr} {nw na nb : Led} {va vb : List Value} {ca cb : Nat} {ps : List (Int × Int)} {Q : Value → Shared → Prop} (N : News h₀ L s.heap nw) (ha : (a, listOf va.toArray ca) ∈ nw) (hb : (b, listOf vb.toArray cb) ∈ nw)
    (Pa : PairsIn na va ps) (Pb : PairsIn nb vb ps) (sa : ∀ p ∈ na, p ∈ nw) (sb : ∀ p ∈ nb, p ∈ nw) (hu : A.units + 64 < cLine) (h : Q (.bool true) s) : wpAny (model prog w) A (compareOp .Eq (.ref a) (.ref b)) Q E s := by
  obtain ⟨as, ra⟩ := readsAll_pairs N Pa.1 (fun i v p h1 h2 => by obtain ⟨x, t, u, e, hm⟩ := Pa.2 i v p h1 h2; exact ⟨x, t, u, e, sa _ hm⟩)
  obtain ⟨bs, rb⟩ := readsAll_pairs N Pb.1 (fun i v p h1 h2 => by obtain ⟨x, t, u, e, hm⟩ := Pb.2 i v p h1 h2; exact ⟨x, t, u, e, sb _ hm⟩)
  refine eq_dataH (reads_list_at (News.get N ha) rfl rfl (by simpa using ra)) (reads_list_at (News.get N hb) rfl rfl (by simpa using rb)) (shaped_pairs ps) (shaped_pairs ps) hu ?_
  have : PyData.eqv (pairsD ps) (pairsD ps) = true := by simp only [pairsD, PyData.eqv, eqv_pairs]
  unfold pairsD at this
  rw [this]; exact h
theorem row_item {prog : Program} {w : World} {A : Around} {E : Value → Shared → Prop} {s : Shared} {h₀ : Heap} {L l : Addr} {news : Led} {value slice : PySem.Expr} {vs : List Value} {ns : List Int} {n i : Nat} {u : Tok} {Q : Value → Shared → Prop} (N : News h₀ L s.heap news) (hm : (l, listOf vs.toArray n) ∈ news) (hi : IntsAre vs ns)
    (hlt : i < ns.length) (hl : ns.length = 128) (h : ∀ t, Q (.int (ns.getD i 0) t) s)
    (hs : subscripted slice false (.ref l) (.int (0 + (i : Int)) u) = operate [.ref l, .int (0 + (i : Int)) u] (getItem (.ref l) (.int (0 + (i : Int)) u)) := by with_unfolding_all rfl) :
    wpAny (model prog w) A (subscriptTail value slice (.ref l) (.int (0 + (i : Int)) u)) Q E s :=
  item_anyK (PySem.IsL.isList (n := n) (N _ hm).1) hi (by omega) (by omega) (by omega) (fun t => by rw [show (0 + (i : Int)).toNat = i by omega]; exact h t) hs
set_option maxHeartbeats 8000000 in
theorem leg6 (w : World) {df : DefRec} {kwd : List (Str × PySem.Expr)} (h1 : defOf vw (Str.ofString "law") = some (df, kwd)) {loose : List Str} {mean : ExcName → Option Value} {mg mb : Str → Option Value} {h₀ : Heap} {L fa : Addr} {cdv : Value} {m : Str → Option Value} {s : Shared} {Q : Flow → Shared → Prop} {E : Value → Shared → Prop}
    {ad : Ad} {K : SK} {km : Tok} {rp bg : Value} {rowD : Addr} {rv : List Value} {n2 : Nat} {nw : Led} {row : List Int} {base : Int} {ho oT oB oR : Obj} {tT tB : Tok}
    (B : Below callerA h₀ [] h₀) (F : Fr h₀ L s.heap m) (X : (Mine.seed.heap_1 w.params).In h₀) (T : Top vw loose mean mg mb h₀) (N : News h₀ L s.heap nw)
    (p1 : (ad.st, instObj 525 ad.sd) ∈ nw) (p2 : (ad.sd, stD w K ad rp bg) ∈ nw) (p3 : (ad.mm, instObj 408 ad.md) ∈ nw) (p4 : (ad.md, memD w km 1 ad.hd) ∈ nw) (p5 : (ad.hd, ho) ∈ nw) (p6 : (rowD, listOf rv.toArray n2) ∈ nw)
    (iT : (L + 1 + 1, oT) ∈ nw) (iB : (L + 1 + 1 + 1, oB) ∈ nw) (iR : (L + 1 + 1 + 1 + 1, oR) ∈ nw) (cT : oT.data = .cell (some (.int 18446744073709551616 tT))) (cB : oB.data = .cell (some (.int base tB))) (cR : oR.data = .cell (some (.ref rowD)))
    (lo : (ad.hd == sysModules) = false) (hm : MemIs w ho base row) (hI : IntsAre rv row) (hl : row.length = 128) (b0 : 128 ≤ base) (b1 : base < 18446744073709551616)
    (m1 : m (Str.ofString "state") = some (.ref ad.st))
    (hret : ∀ (m' : Str → Option Value) (nw' : Led) (h' : Heap) (tk' : Nat), Fr h₀ L h' m' → News h₀ L h' nw' → Q (.ret (.bool true)) { s with heap := h', toks := tk' }) :
    wpAny (model Challenge.rw_nn0059_01.row.prog w) (lawA df L fa cdv) (execs ((df.body.drop 35).take 2) (lawE df L fa cdv)) Q E s := by
  k_with_none
  k_with "execs cons" => (refine toks_succ ?_; intro tkU)
  k_with "storeName" => with_reducible first | (refine store_toks ?_; intro tkU) | (refine store_add ?_; intro tkU)
  k_with "call type:range" => ((rename Fr _ _ _ _ => F'); (rename News _ _ _ _ => N'); (with_unfolding_all refine range1_rows F' N' ?_; intro _ _ _ _ _ _ _ _ _))
  k_with "my use" => (
        (case k1 => k_asm); (case k2 => k_asm); (case k3 => k_asm); (case k4 => first | k_asm | exact drop1 (by assumption) | exact drop1 (drop1 (by assumption)) | exact drop1 (drop1 (drop1 (by assumption))) | exact drop1 (drop1 (drop1 (drop1 (by assumption))))); (case k5 => k_asm); (case k6 => first | exact rfl | assumption); (case k7 => ktr_room); (case k8 => ktr_units))
  have e9 := Option.some.inj (h1.symm.trans (by rfl : defOf vw (Str.ofString "law") = some (_, _)))
  obtain ⟨rfl, rfl⟩ := Prod.mk.inj e9
  clear h1 e9
  dsimp only [lawA, lawE, List.drop, List.take]
  k_with "eval Name" => k_dflt (refine' ldLoc (by k_asm) (ldm (by assumption) (by exact rfl)) ?_)
  k_with "eval ListComp" => k_dflt (refine PyProof.Rows.LCt.ListComp_T (F₀ := by k_asm) (by with_unfolding_all rfl) (by decide) (by rfl) (by decide) (by rfl) ?_)
  k_with "CompSrcT" => k_dflt (
    rename Fr _ _ _ _ => FF
    rename News _ _ _ _ => NN
    refine PyProof.Rows.LCt.CompSrcT.range (n := 128) (by rfl) FF NN (by assumption) (by decide) (by rfl) (by first | size_fits | exact Nat.le_of_ble_eq_true rfl) ?_
    intro g'
    refine comp_ind (WInv base row _) wInv_zero ?step ?fin
    case' step =>
      intro kk i ys nw1 hkk ih hv
      refine PyProof.Rows.LCt.CompRestT.succ ?_
      intro v I oI C oC D m₂ h tk E' hP hC hx F7 N7 off ne
      obtain ⟨tp, rfl⟩ := hP
      have q4 := hv.2 _ p6
      have q5 := hv.2 _ iT
      have q6 := hv.2 _ iB
      have q7 := hv.2 _ iR
      have hi9 : i < row.length := by rw [hl]; omega
      try k_fold
    case' fin =>
      intro ys nw1 hv
      have z1 := hv.2 _ p1
      have z2 := hv.2 _ p2
      have z3 := hv.2 _ p3
      have z4 := hv.2 _ p4
      have z5 := hv.2 _ p5
      try k_fold)
  k_with "subscriptTail Name Name ref int" => k_dflt (refine row_item (by k_asm) (by k_mem) hI hi9 hl ?_)
  k_with "binaryOp Mod int int" => ((with_reducible show wpAny _ _ (binaryOp _ _ (Value.int 18446744073709551616 _)) _ _ _); k_dflt (refine topm_use ?_))
  k_with "CompEnd" => first
    | (k_dflt (
        rename Fr _ _ _ _ => FF9
        rename News _ _ _ _ => NN9
        refine comp_yes FF9 NN9 ⟨by k_ne, by k_ne, by k_ne⟩ off trivial (ih _ _ (wInv_yes hv hi9 ?e5 ?e6 rfl))
        (case e5 => assumption)
        (case e6 => (unfold topm; rw [Int.zero_add]))))
    | (k_dflt (
        rename Fr _ _ _ _ => FF9
        rename News _ _ _ _ => NN9
        refine PyProof.Rows.LCg.CompEnd.intro FF9 NN9 nw1 (fun p hp => hp) off trivial (ih _ _ (wInv_no hv hi9 (by assumption)))))
  k_with "call builtin:sorted" => k_dflt (
    rename Fr _ _ _ _ => FF9
    rename News _ _ _ _ => NN9
    refine sorted_row FF9 NN9 hv.1 (by omega) b1 hl b0 ?_
    intro D8 vs8 c8 h8 HP8 l8 F8 N8
    (try dsimp only)
    (try k_fold))
  k_with "call ref" => k_dflt (
    with_reducible show wpAny _ _ (call (Value.ref 377) _) _ _ _
    refine' useC (c_written w ad.mm ad.md ad.hd km 1 ho base row ((D8, listOf vs8.toArray c8) :: (_, PyProof.Rows.LCg.lst ys) :: nw1) (.tail _ (.tail _ z3)) (.tail _ (.tail _ z4)) (.tail _ (.tail _ z5)) lo hm hl b0 b1) ?k1 ?k2 ?k3 ?k4 ?k5 ?k6 ?k7 ?k8 ?_
    walk_at "my use"
    intro D7 vs7 c7 own7 h7 tk7 HP7 sub7 lt7 F7 N7
    have y1 := sub7 _ (.tail _ (.tail _ z1))
    have y2 := sub7 _ (.tail _ (.tail _ z2))
    (try dsimp only)
    (try k_fold))
  k_with "compareOp Eq ref ref" => k_dflt (
    rename News _ _ _ _ => NN
    refine eq_pairs NN (.head _) (.tail _ (sub7 _ (.head _))) HP7 HP8 (fun p hp => .tail _ hp) (fun p hp => .tail _ (sub7 _ (.tail _ hp))) ?hu7 ?_
    (case hu7 => units_room))
  k_with "eval Name" => k_dflt (
    with_reducible show wpAny _ _ (eval (PySem.Expr.Name (Str.ofString "top") _) (compEnvC _ _ _ _)) _ _ _
    rename News _ _ _ _ => NN
    refine kcf_cell NN (by rfl) (.tail _ (.tail _ (.tail _ q5))) cT ?_)
  k_steps
  all_goals (
    rename Fr _ _ _ _ => FF
    rename News _ _ _ _ => NN
    exact hret _ _ _ _ FF NN)

section
theorem execs_app (env : Env) (r : List Stmt) : ∀ l : List Stmt, execs (l ++ r) env = (execs l env >>= fun f => match f with | .next => execs r env | f => pure f) := by
  intro l
  induction l with
  | nil => simp only [List.nil_append, execs]; rfl
  | cons a l ih =>
    simp only [List.cons_append, execs]
    rw [show ∀ (x : Sem Flow) (f g : Flow → Sem Flow), (x >>= f) >>= g = x >>= fun a => f a >>= g from fun x f g => by simp [bind, Sem.bind_assoc]]
    congr 1
    funext f
    cases f <;> first | exact ih | rfl
/-- a block is its first part, then the rest -/
theorem execs_cut {prog : Program} {w : World} {A : Around} {E : Value → Shared → Prop} {Q : Flow → Shared → Prop} {s : Shared} {env : Env} (l r : List Stmt) {b : List Stmt} (e : b = l ++ r)
    (h : wpAny (model prog w) A (execs l env) (fun f s => match f with | .next => wpAny (model prog w) A (execs r env) Q E s | f => Q f s) E s) : wpAny (model prog w) A (execs b env) Q E s := by
  subst e
  rw [execs_app]
  refine wpAny_bind ?_
  refine wpAny_mono h (fun f s hf => ?_) (fun _ _ h => h)
  cases f <;> first | exact hf | exact wpAny_pure hf
theorem cut_at {prog : Program} {w : World} {A : Around} {E : Value → Shared → Prop} {Q : Flow → Shared → Prop} {s : Shared} {env : Env} (b : List Stmt) (i k : Nat)
    (h : wpAny (model prog w) A (execs ((b.drop i).take k) env) (fun f s => match f with | .next => wpAny (model prog w) A (execs (b.drop (i + k)) env) Q E s | f => Q f s) E s) : wpAny (model prog w) A (execs (b.drop i) env) Q E s :=
  execs_cut _ _ (by rw [← List.drop_drop, List.take_append_drop]) h
/-- a ledger without two addresses -/
noncomputable def less2 (l : Led) (a b : Addr) : Led := l.filter fun p => decide (@Ne Nat p.1 a) && decide (@Ne Nat p.1 b)
theorem less2_in {l : Led} {a b : Addr} {p : Addr × Obj} (h : p ∈ l) (ha : @Ne Nat p.1 a) (hb : @Ne Nat p.1 b) : p ∈ less2 l a b :=
  List.mem_filter.mpr ⟨h, by simp [ha, hb]⟩
theorem less2_lo {l : Led} {a b : Addr} {p : Addr × Obj} {lo : Nat} (h : p ∈ l) (ha : @LE.le Nat _ a lo) (hb : @LE.le Nat _ b lo) (hl : @LT.lt Nat _ lo p.1) : p ∈ less2 l a b :=
  less2_in h (Nat.ne_of_gt (Nat.lt_of_le_of_lt ha hl)) (Nat.ne_of_gt (Nat.lt_of_le_of_lt hb hl))
theorem less2_of {l : Led} {a b : Addr} {p : Addr × Obj} (h : p ∈ less2 l a b) : p ∈ l ∧ p.1 ≠ a ∧ p.1 ≠ b := by
  obtain ⟨h1, h2⟩ := List.mem_filter.mp h
  rw [Bool.and_eq_true] at h2
  exact ⟨h1, of_decide_eq_true h2.1, of_decide_eq_true h2.2⟩
section
variable {w : World} {df : DefRec} {kwd : List (Str × PySem.Expr)} {loose : List Str} {mean : ExcName → Option Value} {mg mb : Str → Option Value} {h₀ : Heap} {L fa : Addr} {cdv : Value} {m : Str → Option Value} {s : Shared} {Q : Flow → Shared → Prop} {E : Value → Shared → Prop}
  {x dx opT wl sixA rowD : Addr} {KI : IK} {wv rv : List Value} {n1 n2 : Nat} {ws : List Int} {t0 t1 t2 t3 t4 t5 tT tB : Tok} {oT oB oR : Obj} {base down size H long : Int} {sort e A W : Nat} {M0 : Mach} {tn tp tl u0 u1 u2 u3 u4 u5 : Tok}
/-- what the law's objects and names are, ahead of State(None) -/
structure LawS (w : World) (L : Addr) (x dx opT wl sixA rowD : Addr) (KI : IK) (wv rv : List Value) (n1 n2 : Nat) (ws : List Int) (t0 t1 t2 t3 t4 t5 tT tB : Tok) (oT oB oR : Obj) (base down size H long : Int) (sort e A W : Nat) (M0 : Mach) (tn tp : Tok) (rest : Led) : Prop where
  i1 : (sixA, sixT M0.six t0 t1 t2 t3 t4 t5) ∈ rest
  i2 : (wl, listOf wv.toArray n1) ∈ rest
  i3 : (opT, tup0) ∈ rest
  i4 : (x, instObj 580 dx) ∈ rest
  i5 : (dx, insD w KI (toldStr sort e) tn opT (prefStr A) tp) ∈ rest
  i6 : (rowD, listOf rv.toArray n2) ∈ rest
  i7 : (L + 1 + 1, oT) ∈ rest
  i8 : (L + 1 + 1 + 1, oB) ∈ rest
  i9 : (L + 1 + 1 + 1 + 1, oR) ∈ rest
  n0 : @Ne Nat wl rowD
  n1 : @Ne Nat sixA wl
  n2 : @Ne Nat sixA rowD
  n3 : @Ne Nat (L + 1 + 1) wl
  n4 : @Ne Nat (L + 1 + 1) rowD
  n5 : @Ne Nat (L + 1 + 1 + 1) wl
  n6 : @Ne Nat (L + 1 + 1 + 1) rowD
  n7 : @Ne Nat (L + 1 + 1 + 1 + 1) wl
  n8 : @Ne Nat (L + 1 + 1 + 1 + 1) rowD
  cT : oT.data = .cell (some (.int 18446744073709551616 tT))
  cB : oB.data = .cell (some (.int base tB))
  cR : oR.data = .cell (some (.ref rowD))
  hI : IntsAre wv (regsM ws base M0)
  hl : ws.length = 16
  hR : IntsAre rv M0.row
  hl2 : M0.row.length = 128
  h8 : Octs M0.row
  hs : sort < 5
  he : e < 4
  hA : A < 3
  hz : SizeW size H W
  hsz : size = 8 * 2 ^ e
  hd : down = 0 ∨ down = 1
  hlo : 1 ≤ long ∧ long ≤ 4
  r1 : 48 ≤ M0.src ∧ M0.src ≤ 63
  r2 : 48 ≤ M0.goal ∧ M0.goal ≤ 63
  r3 : 0 ≤ M0.left ∧ (A ≠ 0 → M0.left ≤ 5)
  b0 : 128 ≤ base
  b1 : base < 18446744073709551616
structure LawM (m : Str → Option Value) (x wl sixA : Addr) (long down : Int) (sort A W : Nat) (M0 : Mach) (tl u0 u1 u2 u3 u4 u5 : Tok) : Prop where
  m1 : m (Str.ofString "sort") = some (.int (sort : Int) u0)
  m2 : m (Str.ofString "width") = some (.int (W : Int) u1)
  m3 : m (Str.ofString "ahead") = some (.int (A : Int) u2)
  m4 : m (Str.ofString "down") = some (.int down u3)
  m5 : m (Str.ofString "source") = some (.int M0.src u4)
  m6 : m (Str.ofString "goal") = some (.int M0.goal u5)
  m7 : m (Str.ofString "six") = some (.ref sixA)
  m8 : m (Str.ofString "worths") = some (.ref wl)
  m9 : m (Str.ofString "long") = some (.int long tl)
  m10 : m (Str.ofString "deed") = some (.ref x)
theorem LawM.next {m' : Str → Option Value} (V : LawM m x wl sixA long down sort A W M0 tl u0 u1 u2 u3 u4 u5)
    (h : ∀ z ∈ [Str.ofString "sort", Str.ofString "width", Str.ofString "ahead", Str.ofString "down", Str.ofString "source", Str.ofString "goal", Str.ofString "six", Str.ofString "worths", Str.ofString "long", Str.ofString "deed"], m' z = m z) : LawM m' x wl sixA long down sort A W M0 tl u0 u1 u2 u3 u4 u5 := by
  simp only [List.forall_mem_cons] at h
  obtain ⟨a1, a2, a3, a4, a5, a6, a7, a8, a9, a10, _⟩ := h
  exact ⟨a1.trans V.m1, a2.trans V.m2, a3.trans V.m3, a4.trans V.m4, a5.trans V.m5, a6.trans V.m6, a7.trans V.m7, a8.trans V.m8, a9.trans V.m9, a10.trans V.m10⟩
/-- the law from its loop's end on -/
theorem law_rest3 (h1 : defOf vw (Str.ofString "law") = some (df, kwd)) (B : Below callerA h₀ [] h₀) (F : Fr h₀ L s.heap m) (X : (Mine.seed.heap_1 w.params).In h₀) (T : Top vw loose mean mg mb h₀)
    {km : Tok} {ad : Ad} {K : SK} {KF : FK} {sgO : Obj} {zv : List Value} {n' k : Nat} {b c d : Obj} {bg : Value} {t tt : Tok} {M : Mach} {rest : Led}
    (S : LawS w L x dx opT wl sixA rowD KI wv rv n1 n2 ws t0 t1 t2 t3 t4 t5 tT tB oT oB oR base down size H long sort e A W M0 tn tp rest) (V : LawM m x wl sixA long down sort A W M0 tl u0 u1 u2 u3 u4 u5)
    {lo : Nat} (R : Rising ad lo) (hlo : ∀ p ∈ rest, @LE.le Nat _ p.1 lo) (hy : (ad.hd == sysModules) = false) (hz0 : IntsAre zv (List.replicate 16 0))
    (hT : Turn sort A size H W down M0 k M false) (o : Objs w KF base down (regsM ws base M) M.row M.six b c d) (hM : M.row.length = 128)
    (N : News h₀ L s.heap (ledS w km ad sgO (listOf zv.toArray n') rest (stD w K ad (.int (4096 + long) t) bg) b c d))
    (m1 : m (Str.ofString "state") = some (.ref ad.st)) (m2 : m (Str.ofString "turns") = some (.int (k : Int) tt))
    (hret : ∀ (m' : Str → Option Value) (nw' : Led) (h' : Heap) (tk' : Nat), Fr h₀ L h' m' → News h₀ L h' nw' → Q (.ret (.bool true)) { s with heap := h', toks := tk' }) :
    wpAny (model Challenge.rw_nn0059_01.row.prog w) (lawA df L fa cdv) (execs (df.body.drop 30) (lawE df L fa cdv)) Q E s := by
  have Cc := cells_led (w := w) (km := km) (sgO := sgO) (xlO := listOf zv.toArray n') R hlo hy
  obtain ⟨led, hled⟩ : ∃ l, l = ledS w km ad sgO (listOf zv.toArray n') rest (stD w K ad (.int (4096 + long) t) bg) b c d := ⟨_, rfl⟩
  have cst := Cc.st (stD w K ad (.int (4096 + long) t) bg) b c d
  have csd := Cc.sd (stD w K ad (.int (4096 + long) t) bg) b c d
  have crl := Cc.rl (stD w K ad (.int (4096 + long) t) bg) b c d
  have cfl := Cc.fl (stD w K ad (.int (4096 + long) t) bg) b c d
  have cfd := Cc.fd (stD w K ad (.int (4096 + long) t) bg) b c d
  have cmm := Cc.mm (stD w K ad (.int (4096 + long) t) bg) b c d
  have cmd := Cc.md (stD w K ad (.int (4096 + long) t) bg) b c d
  have chd := Cc.hd (stD w K ad (.int (4096 + long) t) bg) b c d
  have cxl := (in4_xl (w := w) (km := km) (ad := ad) (sgO := sgO) (xlO := listOf zv.toArray n') (rest := rest)).h (stD w K ad (.int (4096 + long) t) bg) b c d
  have cin : ∀ {a : Addr} {ob : Obj}, (a, ob) ∈ rest → (a, ob) ∈ ledS w km ad sgO (listOf zv.toArray n') rest (stD w K ad (.int (4096 + long) t) bg) b c d := fun h => (in4_led h).h _ _ _ _
  obtain ⟨r0, r1, r2, r3, r4, r5, r6, r7, r8, r9⟩ := R
  have p1 : @LE.le Nat _ wl lo := hlo _ S.i2
  have p2 : @LE.le Nat _ rowD lo := hlo _ S.i6
  rw [← hled] at N cst csd crl cfl cfd cmm cmd chd cxl
  have cin' : ∀ {a : Addr} {ob : Obj}, (a, ob) ∈ rest → (a, ob) ∈ led := fun h => hled ▸ cin h
  clear cin Cc
  have w1 := Nat.lt_trans r0 r1
  have w2 := Nat.lt_trans w1 r2
  have w3 := Nat.lt_trans w2 r3
  have w4 := Nat.lt_trans w3 r4
  have w5 := Nat.lt_trans w4 r5
  have w6 := Nat.lt_trans w5 r6
  have w7 := Nat.lt_trans w6 r7
  have w8 := Nat.lt_trans w7 r8
  have w9 := Nat.lt_trans w8 r9
  have q1 : (ad.st, instObj 525 ad.sd) ∈ less2 led wl rowD := less2_lo cst p1 p2 w1
  have q2 := less2_lo (a := wl) (b := rowD) csd p1 p2 r0
  have q3 := less2_lo (a := wl) (b := rowD) crl p1 p2 w9
  have q4 := less2_lo (a := wl) (b := rowD) cfl p1 p2 w4
  have q5 := less2_lo (a := wl) (b := rowD) cfd p1 p2 w3
  have q6 := less2_lo (a := wl) (b := rowD) cxl p1 p2 w2
  have q7 := less2_lo (a := wl) (b := rowD) cmm p1 p2 w6
  have q8 := less2_lo (a := wl) (b := rowD) cmd p1 p2 w5
  have q9 := less2_lo (a := wl) (b := rowD) chd p1 p2 w7
  have j1 := less2_in (a := wl) (b := rowD) (cin' S.i1) S.n1 S.n2
  have j7 := less2_in (a := wl) (b := rowD) (cin' S.i7) S.n3 S.n4
  have j8 := less2_in (a := wl) (b := rowD) (cin' S.i8) S.n5 S.n6
  have j9 := less2_in (a := wl) (b := rowD) (cin' S.i9) S.n7 S.n8
  have jw := cin' S.i2
  have jr := cin' S.i6
  refine cut_at df.body 30 3 ?_
  refine leg4 w h1 (n1 := n1) (n2 := n2) (G := less2 led wl rowD) B F X T (fun p hp => N p ?_) S.n0 (fun p hp => (less2_of hp).2.1) (fun p hp => (less2_of hp).2.2) j1 j7 j8 j9 S.cT S.cB S.cR S.hI S.hR S.hl S.hl2 S.h8 S.hs S.hz S.hd S.r1 S.r2 S.r3 V.m1 V.m2 V.m3 V.m4 V.m5 V.m6 V.m7 V.m8 ?_
  · rcases List.mem_cons.mp hp with rfl | hp
    · exact jw
    · rcases List.mem_cons.mp hp with rfl | hp
      · exact jr
      · exact (less2_of hp).1
  intro M' r wv' rv' n2' six' v0 v1 v2 v3 v4 v5 x0 m' hA' _ hIw hIr _ _ e1 e2 em h2 tk2 F2 N2
  obtain ⟨rfl, hk⟩ := turn_done hT hA'
  obtain ⟨⟨rl, nr, hIb, rfl⟩, ⟨f0, f1, f2, f3, f4, f5, f6, rfl⟩, hm⟩ := o
  have z1 : m' (Str.ofString "state") = some (.ref ad.st) := (em _ (by decide)).trans m1
  dsimp only
  refine cut_at df.body 33 2 ?_
  refine leg5 w h1 B F2 X T N2 (.tail _ (.tail _ (.tail _ q1))) (.tail _ (.tail _ (.tail _ q2))) (.tail _ (.tail _ (.tail _ q3))) (.tail _ (.tail _ (.tail _ q4))) (.tail _ (.tail _ (.tail _ q5))) (.tail _ (.tail _ (.tail _ q6))) (.head _) (.tail _ (.head _)) hIb hIw hz0 hk z1 ((em _ (by decide)).trans V.m9) ((em _ (by decide)).trans m2) e1 ((em _ (by decide)).trans V.m8) e2 ((em _ (by decide)).trans V.m4) ?_
  intro h3 tk3 F3 N3
  dsimp only
  refine cut_at df.body 35 2 ?_
  exact leg6 w h1 (row := M'.row) B F3 X T N3 (.tail _ (.tail _ (.tail _ q1))) (.tail _ (.tail _ (.tail _ q2))) (.tail _ (.tail _ (.tail _ q7))) (.tail _ (.tail _ (.tail _ q8))) (.tail _ (.tail _ (.tail _ q9))) (.tail _ (.tail _ (.head _))) (.tail _ (.tail _ (.tail _ j7))) (.tail _ (.tail _ (.tail _ j8))) (.tail _ (.tail _ (.tail _ j9))) S.cT S.cB S.cR hy hm hIr hM S.b0 S.b1 z1 (fun m' nw' h' tk' F' N' => hret m' nw' h' tk' F' N')
/-- the law from State(None) on -/
theorem law_rest (h1 : defOf vw (Str.ofString "law") = some (df, kwd)) (B : Below callerA h₀ [] h₀) (F : Fr h₀ L s.heap m) (X : (Mine.seed.heap_1 w.params).In h₀) (T : Top vw loose mean mg mb h₀)
    (hE : PassesOwn (model Challenge.rw_nn0059_01.row.prog w) (lawA df L fa cdv) (lawE df L fa cdv) E)
    (N : News h₀ L s.heap [(sixA, sixT M0.six t0 t1 t2 t3 t4 t5), (wl, listOf wv.toArray n1), (opT, tup0), (x, instObj 580 dx), (dx, insD w KI (toldStr sort e) tn opT (prefStr A) tp), (rowD, listOf rv.toArray n2), (L + 1 + 1, oT), (L + 1 + 1 + 1, oB), (L + 1 + 1 + 1 + 1, oR)])
    (S : LawS w L x dx opT wl sixA rowD KI wv rv n1 n2 ws t0 t1 t2 t3 t4 t5 tT tB oT oB oR base down size H long sort e A W M0 tn tp [(sixA, sixT M0.six t0 t1 t2 t3 t4 t5), (wl, listOf wv.toArray n1), (opT, tup0), (x, instObj 580 dx), (dx, insD w KI (toldStr sort e) tn opT (prefStr A) tp), (rowD, listOf rv.toArray n2), (L + 1 + 1, oT), (L + 1 + 1 + 1, oB), (L + 1 + 1 + 1 + 1, oR)])
    (V : LawM m x wl sixA long down sort A W M0 tl u0 u1 u2 u3 u4 u5)
    (hret : ∀ (m' : Str → Option Value) (nw' : Led) (h' : Heap) (tk' : Nat), Fr h₀ L h' m' → News h₀ L h' nw' → Q (.ret (.bool true)) { s with heap := h', toks := tk' }) :
    wpAny (model Challenge.rw_nn0059_01.row.prog w) (lawA df L fa cdv) (execs (df.body.drop 21) (lawE df L fa cdv)) Q E s := by
  refine cut_at df.body 21 2 ?_
  refine leg2a w h1 B F X T N S.i2 V.m8 S.hI (regs4_len.trans S.hl) ?_
  generalize [(sixA, sixT M0.six t0 t1 t2 t3 t4 t5), (wl, listOf wv.toArray n1), (opT, tup0), (x, instObj 580 dx), (dx, insD w KI (toldStr sort e) tn opT (prefStr A) tp), (rowD, listOf rv.toArray n2), (L + 1 + 1, oT), (L + 1 + 1 + 1, oB), (L + 1 + 1 + 1 + 1, oR)] = rest at S ⊢
  clear N
  intro km ad K KF sgO ho zv n n' tr tb f0 f1 f2 f3 f4 f5 f6 lo R hlo hy hz0 hh h2 tk2 F2 N2
  have Cc := cells_led (w := w) (km := km) (sgO := sgO) (xlO := listOf zv.toArray n') R hlo hy
  have V2 : LawM (fun z => if z = Str.ofString "state" then some (.ref ad.st) else m z) x wl sixA long down sort A W M0 tl u0 u1 u2 u3 u4 u5 := V.next fun z hz => if_neg (by rintro rfl; revert hz; decide)
  have e2 : (fun z => if z = Str.ofString "state" then some (Value.ref ad.st) else m z) (Str.ofString "state") = some (.ref ad.st) := if_pos rfl
  generalize (fun z => if z = Str.ofString "state" then some (Value.ref ad.st) else m z) = m2 at F2 V2 e2
  dsimp only
  refine cut_at df.body 23 3 ?_
  refine leg2b w h1 (six := M0.six) (g := fun c => ledS w km ad sgO (listOf zv.toArray n') rest (stD w K ad (.int 0 tr) (.int 0 tb)) (listOf wv.toArray n) c ho) B F2 X T N2 (Cc.ufd _ _ _ _) ⟨fun c => Cc.st _ _ _ _⟩ ⟨fun c => Cc.sd _ _ _ _⟩ ⟨fun c => Cc.fl _ _ _ _⟩ ⟨fun c => (in4_led S.i1).h _ _ _ _⟩ e2 V2.m7 V2.m4 ?_
  intro v0 v1 v2 v3 v4 v5 v6 h3 tk3 F3 N3
  dsimp only at N3 ⊢
  refine cut_at df.body 26 3 ?_
  refine leg2c w h1 (g := fun d => ledS w km ad sgO (listOf zv.toArray n') rest (stD w K ad (.int 0 tr) (.int 0 tb)) (listOf wv.toArray n) _ d) B F3 X T N3 (Cc.uhd _ _ _ _) ⟨fun c => Cc.st _ _ _ _⟩ ⟨fun c => Cc.sd _ _ _ _⟩ ⟨fun c => Cc.mm _ _ _ _⟩ ⟨fun c => Cc.md _ _ _ _⟩ ⟨fun c => (in4_led S.i6).h _ _ _ _⟩ ⟨fun c => (in4_led S.i8).h _ _ _ _⟩ ⟨fun c => (in4_led S.i9).h _ _ _ _⟩ S.cB S.cR S.hR S.hl2 S.h8 hh e2 ?_
  intro ho' u hm h4 tk4 F4 N4
  have V4 : LawM (fun z => if z = Str.ofString "going" then some (Value.bool true) else if z = Str.ofString "turns" then some (Value.int 0 u) else m2 z) x wl sixA long down sort A W M0 tl u0 u1 u2 u3 u4 u5 := V2.next fun z hz => by
    rw [if_neg (by rintro rfl; revert hz; decide), if_neg (by rintro rfl; revert hz; decide)]
  dsimp only at N4 ⊢
  refine cut_at df.body 29 1 ?_
  refine leg3 w h1 (tk := u) (sort := sort) (size := size) (H := H) (W := W) (down := down) (M0 := M0) (base := base) (ws := ws) (KF := KF) B F4 X T N4 Cc ⟨⟨_, _, S.hI, rfl⟩, ⟨_, _, _, _, _, _, _, rfl⟩, hm⟩ ⟨by have := S.r1; omega, by have := S.r2; omega, ⟨S.r3.1, fun h => .inl (by have := S.r3.2 h; omega)⟩, ⟨by omega, fun _ => .inl rfl⟩, S.hl2, S.h8⟩
    (in4_led S.i4) (in4_led S.i5) (in4_led S.i3) S.hs S.he S.hA S.hz S.hsz S.hl S.hlo hE ?a1 V4.m9 V4.m10 ?a2 ?a3 ?_
  case a1 => exact e2
  case a2 => rfl
  case a3 => rfl
  intro k M b c d bg t tt hT hB o h5 tk5 F5 N5
  have V5 : LawM (fun z => if z = Str.ofString "going" then some (Value.bool false) else if z = Str.ofString "turns" then some (Value.int k tt) else if z = Str.ofString "going" then some (Value.bool true) else if z = Str.ofString "turns" then some (Value.int 0 u) else m2 z) x wl sixA long down sort A W M0 tl u0 u1 u2 u3 u4 u5 := V4.next fun z hz => by
    rw [if_neg (by rintro rfl; revert hz; decide), if_neg (by rintro rfl; revert hz; decide)]
  dsimp only at N5 ⊢
  exact law_rest3 h1 B F5 X T S V5 R hlo hy hz0 hT o hB.l N5 e2 rfl (fun m' nw' h' tk' F' N' => hret m' nw' h' tk' F' N')
end
end

/-- what is asked after the law's statement 20 -/
noncomputable def LawNext (w : World) (h₀ : Heap) (L : Addr) (Q : Flow → Shared → Prop) (R : Shared → Prop) : Prop :=
  ∀ (m : Str → Option Value) (s' : Shared) (x dx opT wl sixA rowD : Addr) (KI : IK) (wv rv : List Value) (n1 n2 : Nat) (ws : List Int) (t0 t1 t2 t3 t4 t5 tT tB : Tok) (oT oB oR : Obj) (base down size H long : Int) (sort e A W : Nat) (M0 : Mach) (tn tp tl u0 u1 u2 u3 u4 u5 : Tok), Fr h₀ L s'.heap m →
        News h₀ L s'.heap [(sixA, sixT M0.six t0 t1 t2 t3 t4 t5), (wl, listOf wv.toArray n1), (opT, tup0), (x, instObj 580 dx), (dx, insD w KI (toldStr sort e) tn opT (prefStr A) tp), (rowD, listOf rv.toArray n2), (L + 1 + 1, oT), (L + 1 + 1 + 1, oB), (L + 1 + 1 + 1 + 1, oR)] → LawS w L x dx opT wl sixA rowD KI wv rv n1 n2 ws t0 t1 t2 t3 t4 t5 tT tB oT oB oR base down size H long sort e A W M0 tn tp [(sixA, sixT M0.six t0 t1 t2 t3 t4 t5), (wl, listOf wv.toArray n1), (opT, tup0), (x, instObj 580 dx), (dx, insD w KI (toldStr sort e) tn opT (prefStr A) tp), (rowD, listOf rv.toArray n2), (L + 1 + 1, oT), (L + 1 + 1 + 1, oB), (L + 1 + 1 + 1 + 1, oR)] → LawM m x wl sixA long down sort A W M0 tl u0 u1 u2 u3 u4 u5 →
        (∀ (m' : Str → Option Value) (nw' : Led) (h' : Heap) (tk' : Nat), Fr h₀ L h' m' → News h₀ L h' nw' → Q (.ret (.bool true)) { s' with heap := h', toks := tk' }) → R s'
/-- the law's body: the walk up to State(None), then what law_rest says -/
theorem cut_law {w : World} {df : DefRec} {kwd : List (Str × PySem.Expr)} (h1 : defOf vw (Str.ofString "law") = some (df, kwd)) {loose : List Str} {mean : ExcName → Option Value} {mg mb : Str → Option Value} {h₀ : Heap} {L fa : Addr} {cdv : Value} {m0 : Str → Option Value} {s : Shared} {Q : Flow → Shared → Prop} {E : Value → Shared → Prop}
    (_F : Fr h₀ L s.heap m0) (B : Below callerA h₀ [] h₀) (X : (Mine.seed.heap_1 w.params).In h₀) (T : Top vw loose mean mg mb h₀) (hE : PassesOwn (model Challenge.rw_nn0059_01.row.prog w) (lawA df L fa cdv) (lawE df L fa cdv) E)
    (h : ∀ R : Shared → Prop, LawNext w h₀ L Q R →
      wpAny (model Challenge.rw_nn0059_01.row.prog w) (lawA df L fa cdv) (execs ((df.body.drop 0).take 21) (lawE df L fa cdv)) (fun f s => match f with | .next => R s | f => Q f s) E s) :
    wpAny (model Challenge.rw_nn0059_01.row.prog w) (lawA df L fa cdv) (execs df.body (lawE df L fa cdv)) Q E s :=
  cut_at df.body 0 21 (h _ fun _ _ _ _ _ _ _ _ _ _ _ _ _ _ _ _ _ _ _ _ _ _ _ _ _ _ _ _ _ _ _ _ _ _ _ _ _ _ _ _ _ _ _ _ F N S V hret => law_rest h1 B F X T hE N S V hret)
theorem ints_head {vs : List Value} {n : Int} {ns : List Int} (h : IntsAre vs (n :: ns)) : ∃ t r, vs = .int n t :: r ∧ IntsAre r ns := by
  cases h
  exact ⟨_, _, rfl, by assumption⟩
theorem ints_nil {vs : List Value} (h : IntsAre vs []) : vs = [] := by cases h; rfl
theorem six_tup {ys : List Value} {f : Int → Int} (h : IntsAre ys (List.map f (rangeKs 0 (6 - 0 : Int).toNat))) : ∃ t0 t1 t2 t3 t4 t5, ys = [.int (f 0) t0, .int (f 1) t1, .int (f 2) t2, .int (f 3) t3, .int (f 4) t4, .int (f 5) t5] := by
  have h : IntsAre ys [f 0, f 1, f 2, f 3, f 4, f 5] := h
  obtain ⟨t0, r0, e0, h0⟩ := ints_head h
  obtain ⟨t1, r1, e1, h1⟩ := ints_head h0
  obtain ⟨t2, r2, e2, h2⟩ := ints_head h1
  obtain ⟨t3, r3, e3, h3⟩ := ints_head h2
  obtain ⟨t4, r4, e4, h4⟩ := ints_head h3
  obtain ⟨t5, r5, e5, h5⟩ := ints_head h4
  exact ⟨t0, t1, t2, t3, t4, t5, by rw [e0, e1, e2, e3, e4, e5, ints_nil h5]⟩
theorem sizeW_e {e : Nat} (h : e < 4) : SizeW (8 * 2 ^ e) (128 * 256 ^ (2 ^ e - 1)) (2 ^ e) := by
  match e, h with
  | 0, _ => exact .inl ⟨by decide, by decide, by decide⟩
  | 1, _ => exact .inr (.inl ⟨by decide, by decide, by decide⟩)
  | 2, _ => exact .inr (.inr (.inl ⟨by decide, by decide, by decide⟩))
  | 3, _ => exact .inr (.inr (.inr ⟨by decide, by decide, by decide⟩))
theorem kinds_ne {h₀ h : Heap} {L a b : Addr} {nw : Led} {its xs : Array Value} {n : Nat} (N : News h₀ L h nw) (h1 : (a, ({ cls := .type "tuple", data := .seq its } : Obj)) ∈ nw) (h2 : (b, listOf xs n) ∈ nw) : @Ne Nat a b := by
  intro e
  have e1 := (N _ h1).1
  have e2 := (N _ h2).1
  dsimp only at e1 e2
  rw [show a = b from e, e2] at e1
  exact absurd (congrArg Obj.cls (Option.some.inj e1)) (show ¬ (Value.type "list" = Value.type "tuple") by decide)
theorem left_ok {A times : Nat} {x left : Int} (ht : (times : Int) < 6) (h : (if 0 < A then (times : Int) else topm x) = left) : 0 ≤ left ∧ (A ≠ 0 → left ≤ 5) := by
  have := topm_range x
  subst h
  split
  · exact ⟨by omega, fun _ => by omega⟩
  · exact ⟨this.1, fun h => by omega⟩
theorem base_ok {half : Nat} {base : Int} (h : (if (half : Int) = 0 then (8192 : Int) else 18446744073709551556) = base) : 128 ≤ base ∧ base < 18446744073709551616 := by
  subst h
  split <;> omega
theorem regs_m {ws : List Int} {base low left src goal : Int} {six : Six} {row : List Int} {vs : List Value} (h : IntsAre vs ((((ws.set (Int.toNat 0) low).set (Int.toNat 1) left).set (Int.toNat 6) (topm (base + src))).set (Int.toNat 7) (topm (base + goal)))) :
    IntsAre vs (regsM ws base ⟨src, goal, left, low, six, row⟩) := h
theorem news9 {h₀ h : Heap} {L : Addr} {a0 a1 a2 a3 a4 a5 a6 a7 a8 a9 a10 a11 a12 a13 : Addr × Obj} {r : Led} (N : News h₀ L h (a0 :: a1 :: a2 :: a3 :: a4 :: a5 :: a6 :: a7 :: a8 :: a9 :: a10 :: a11 :: a12 :: a13 :: r)) : News h₀ L h [a0, a2, a3, a4, a5, a9, a13, a12, a11] :=
  List.forall_mem_cons.mpr ⟨N _ (.head _), List.forall_mem_cons.mpr ⟨N _ (.tail _ (.tail _ (.head _))), List.forall_mem_cons.mpr ⟨N _ (.tail _ (.tail _ (.tail _ (.head _)))), List.forall_mem_cons.mpr ⟨N _ (.tail _ (.tail _ (.tail _ (.tail _ (.head _))))), List.forall_mem_cons.mpr ⟨N _ (.tail _ (.tail _ (.tail _ (.tail _ (.tail _ (.head _)))))), List.forall_mem_cons.mpr ⟨N _ (.tail _ (.tail _ (.tail _ (.tail _ (.tail _ (.tail _ (.tail _ (.tail _ (.tail _ (.head _)))))))))), List.forall_mem_cons.mpr ⟨N _ (.tail _ (.tail _ (.tail _ (.tail _ (.tail _ (.tail _ (.tail _ (.tail _ (.tail _ (.tail _ (.tail _ (.tail _ (.tail _ (.head _)))))))))))))), List.forall_mem_cons.mpr ⟨N _ (.tail _ (.tail _ (.tail _ (.tail _ (.tail _ (.tail _ (.tail _ (.tail _ (.tail _ (.tail _ (.tail _ (.tail _ (.head _))))))))))))), List.forall_mem_cons.mpr ⟨N _ (.tail _ (.tail _ (.tail _ (.tail _ (.tail _ (.tail _ (.tail _ (.tail _ (.tail _ (.tail _ (.tail _ (.head _)))))))))))), fun _ h => nomatch h⟩⟩⟩⟩⟩⟩⟩⟩⟩
-- no twin of the view in this file (150 000 nodes): the kernel decides
local macro_rules | `(tactic| k_qdec) => `(tactic| decide +kernel)
set_option maxHeartbeats 8000000 in
/-- statements 0 to 20, in a small context -/
theorem law_walk {w : World} {d : DefRec} {kwd : List (Str × PySem.Expr)} (h1 : defOf vw (Str.ofString "law") = some (d, kwd)) {loose : List Str} {mean : ExcName → Option Value} {mg mb : Str → Option Value} {h₀ : Heap} {L fa : Addr} {cdv : Value} {m0 : Str → Option Value} {s : Shared} {Q : Flow → Shared → Prop} {E : Value → Shared → Prop} {RR : Shared → Prop}
    {xs : List Int} {ls : List Value} {la : Addr} {c1 c2 c3 c4 c5 : Obj}
    (F : Fr h₀ L s.heap m0) (B : Below callerA h₀ [] h₀) (X : (Mine.seed.heap_1 w.params).In h₀) (T : Top vw loose mean mg mb h₀)
    (N : News h₀ L s.heap [(L + 1 + 1 + 1 + 1 + 1, c5), (L + 1 + 1 + 1 + 1, c4), (L + 1 + 1 + 1, c3), (L + 1 + 1, c2), (L + 1, c1)])
    (d5 : c5.data = .cell none) (d4 : c4.data = .cell none) (d3 : c3.data = .cell none) (d2 : c2.data = .cell none) (d1 : c1.data = .cell (some (.ref la)))
    (hL : h₀.IsList la ls.toArray) (hI : IntsAre ls xs) (hn : ¬ ((63 : Int) < xs.length)) (hRR : LawNext w h₀ L Q RR)
    (hret : ∀ (m' : Str → Option Value) (nw' : Led) (h' : Heap) (tk' : Nat), Fr h₀ L h' m' → News h₀ L h' nw' → Q (.ret (.bool true)) { s with heap := h', toks := tk' }) :
    wpAny (model Challenge.rw_nn0059_01.row.prog w) (lawA d L fa cdv) (execs ((d.body.drop 0).take 21) (lawE d L fa cdv)) (fun f s => match f with | .next => RR s | f => Q f s) E s := by
  k_with_none
  k_with "execs cons" => (refine toks_succ ?_; intro tkU)
  k_with "storeName" => with_reducible first | (refine store_toks ?_; intro tkU) | (refine store_add ?_; intro tkU)
  k_with "call type:range" => ((rename Fr _ _ _ _ => F'); (rename News _ _ _ _ => N'); (with_unfolding_all refine range1_rows F' N' ?_; intro _ _ _ _ _ _ _ _ _))
  k_with "my go" => (intro t9 h9 tk9 F9 N9; (try dsimp only); (try k_fold))
  k_with "my useB" => (
        (case k1 => k_asm); (case k2 => k_asm); (case k3 => k_asm); (case k4 => k_asm); (case k5 => k_asm); (case k6 => first | exact rfl | assumption); (case kl => k_asm); (case ki => assumption); (case k7 => ktr_room); (case k8 => ktr_units))
  k_with "call ref" => (k_here; (with_reducible show wpAny _ _ (call (Value.ref 591) _) _ _ _); k_dflt (refine' useB (c_cell _ _ _ _ ?h0 ?hn _ _) ?k1 ?k2 ?k3 ?k4 ?k5 ?k6 ?kl ?ki ?k7 ?k8 ?_; walk_at "my useB"; (case h0 => first | decide | omega); (case hn => omega); walk_at "my go"))
  have e := Option.some.inj (h1.symm.trans (by rfl : defOf vw (Str.ofString "law") = some (_, _)))
  obtain ⟨rfl, rfl⟩ := Prod.mk.inj e
  clear h1 e
  dsimp only [lawA, lawE, List.drop, List.take]
  obtain ⟨H0, G0, D0, T0, O0⟩ := s
  dsimp only at F N
  obtain ⟨sort, hs, bs⟩ := modN_ex (cellAt xs 0 0) 5 (by decide)
  obtain ⟨e, he, be⟩ := modN_ex (cellAt xs 1 0) 4 (by decide)
  obtain ⟨a0, ha0, ba0⟩ := modN_ex (cellAt xs 2 0) 3 (by decide)
  obtain ⟨down, hdn, bdn⟩ := modN_ex (cellAt xs 3 0) 2 (by decide)
  obtain ⟨times, htm, btm⟩ := modN_ex (cellAt xs 4 0) 6 (by decide)
  obtain ⟨src, hsrc, bsrc⟩ := modN_ex (cellAt xs 5 0) 16 (by decide)
  obtain ⟨goal, hgoal, bgoal⟩ := modN_ex (cellAt xs 6 0) 16 (by decide)
  obtain ⟨half, hhalf, bhalf⟩ := modN_ex (cellAt xs 7 0) 2 (by decide)
  obtain ⟨long, hlong, blong⟩ := modN_ex (cellAt xs 12 0) 4 (by decide)
  obtain ⟨base, hbase⟩ : ∃ b : Int, (if (half : Int) = 0 then 8192 else 18446744073709551556) = b := ⟨_, rfl⟩
  obtain ⟨A, hA⟩ : ∃ A : Nat, (if a0 = 2 ∧ (sort = 0 ∨ sort = 2 ∨ sort = 3) then 1 else a0) = A := ⟨_, rfl⟩
  have bA : A < 3 := by rw [← hA]; split <;> omega
  obtain ⟨low, hlow⟩ : ∃ l : Int, topm (cellAt xs 8 0) = l := ⟨_, rfl⟩
  obtain ⟨left, hleft⟩ : ∃ l : Int, (if 0 < A then (times : Int) else topm (cellAt xs 9 0)) = l := ⟨_, rfl⟩
  k_with "binaryOp Mod int int" => k_dflt (refine modN_use (by with_reducible assumption) (by decide) ?_)
  k_with "binaryOp Mod int int" => ((with_reducible show wpAny _ _ (binaryOp _ _ (Value.int 18446744073709551616 _)) _ _ _); k_dflt (refine topm_use ?_))
  k_with "binaryOp Pow int int" => ((with_reducible show wpAny _ _ (binaryOp _ _ (Value.int 64 _)) _ _ _); k_dflt (refine pow64_use ?_))
  k_with "binaryOp Pow int int" => ((with_reducible show wpAny _ _ (binaryOp _ _ (Value.int (Nat.cast _) _)) _ _ _); k_dflt (refine pow2_use (by omega) ?_))
  k_with "eval Name" => k_dflt (refine' ldLoc (by k_asm) (ldm (by assumption) (by exact rfl)) ?_)
  k_with "eval Name" => ((with_reducible show wpAny _ _ (eval (Expr.Name (Str.ofString "_law_cell") _) _) _ _ _); k_dflt (refine' nameX_K ?zF ?zX ?zT ?ze ?_ ?za ?zb; (case zF => k_asm); (case zX => k_asm); (case zT => k_asm); (case za => rfl); (case zb => rfl); (case ze => k_is); k_whole))
  k_with "eval Name" => ((with_reducible show wpAny _ _ (eval (Expr.Name (Str.ofString "script") _) _) _ _ _); k_dflt (refine' nameX_C ?zN ?zc ?zm ?zd ?_ ?za ?zb; (case za => rfl); (case zb => rfl); (case zN => k_asm); (case zc => rfl); (case zm => k_mem); (case zd => with_reducible assumption); k_whole))
  k_with "eval IfExp" => k_dflt (
    (fail_if_success (have := hq))
    rename Fr _ _ _ _ => FF
    rename News _ _ _ _ => NN
    apply joinI base
    (case F => exact FF); (case N => exact NN)
    (case hw =>
      intro q hq
      k_steps
      all_goals refine retI hq (by assumption) (by assumption) ?_
      all_goals first | exact (if_pos (by assumption)).symm.trans hbase | exact (if_neg (by assumption)).symm.trans hbase)
    (intro t9 h9 tk9 F9 N9; (try dsimp only); (try k_fold)))
  k_with "call ref" => k_dflt (
      with_reducible show wpAny _ _ (call (Value.ref 598) _) _ _ _
      refine' useB (c_row _ _ _ ?hn _) ?k1 ?k2 ?k3 ?k4 ?k5 ?k6 ?kl ?ki ?k7 ?k8 ?_
      walk_at "my useB"
      (case hn => omega)
      intro D row vs n h9 tk9 rl r8 rI l1 F9 N9
      (try dsimp only)
      (try k_lt l1)
      (try k_fold))
  k_with "subscriptTail" => k_dflt (
    refine menu_list (ws := [Str.ofString "movs", Str.ofString "cmps", Str.ofString "stos", Str.ofString "lods", Str.ofString "scas"]) (so := sortStr sort) (by k_asm) (.head _) ?zW (show sort < 5 by omega) (by decide) (menu_sort (by assumption)) ?_
    (case zW => repeat constructor)
    intro t)
  k_with "binaryOp Add str str" => k_dflt (
    refine told_use (by assumption) (by assumption) ?_
    intro t' k
    (try dsimp only)
    (try k_fold))
  k_with "exec If" => k_dflt (
    (fail_if_success (have := hq))
    rename Fr _ _ _ _ => FF
    rename News _ _ _ _ => NN
    apply joinStmt (Str.ofString "ahead") (A : Int)
    (case _F => exact FF); (case _N => exact NN)
    (case hw =>
      intro q hq
      k_with "compareOp In int ref" => k_dflt (refine in_tuple_ints (ns := [0, 2, 3]) (News.isTup (by k_asm) (.head _)) (by repeat constructor) ?_)
      k_steps
      all_goals (rename Fr _ _ _ _ => FF; rename News _ _ _ _ => NN)
      all_goals first
        | exact stmt_set hq FF (News.tail' NN) (ah1 hA (by assumption) (by assumption))
        | exact stmt_kept hq FF (News.tail' NN) (ah2 hA (by assumption)) ⟨_, rfl⟩
        | exact stmt_kept hq FF NN (ah3 hA (by assumption)) ⟨_, rfl⟩)
    (intro t9 h9 tk9 F9 N9
     obtain ⟨mZ, hmZ, FZ9⟩ := fr_cut F9
     obtain ⟨_, a0⟩ : ∃ t, mZ (Str.ofString "sort") = some (.int (sort : Int) t) := ⟨_, (hmZ _).trans rfl⟩
     obtain ⟨_, a1⟩ : ∃ t, mZ (Str.ofString "width") = some (.int ((2 ^ e : Nat) : Int) t) := ⟨_, (hmZ _).trans rfl⟩
     obtain ⟨_, a2⟩ : ∃ t, mZ (Str.ofString "ahead") = some (.int (A : Int) t) := ⟨_, (hmZ _).trans rfl⟩
     obtain ⟨_, a3⟩ : ∃ t, mZ (Str.ofString "down") = some (.int (down : Int) t) := ⟨_, (hmZ _).trans rfl⟩
     obtain ⟨_, a4⟩ : ∃ t, mZ (Str.ofString "source") = some (.int (48 + (src : Int)) t) := ⟨_, (hmZ _).trans rfl⟩
     obtain ⟨_, a5⟩ : ∃ t, mZ (Str.ofString "goal") = some (.int (48 + (goal : Int)) t) := ⟨_, (hmZ _).trans rfl⟩
     obtain ⟨_, a6⟩ : ∃ t, mZ (Str.ofString "times") = some (.int (times : Int) t) := ⟨_, (hmZ _).trans rfl⟩
     obtain ⟨_, a7⟩ : ∃ t, mZ (Str.ofString "told") = some (.str (toldStr sort e) t) := ⟨_, (hmZ _).trans rfl⟩
     clear hmZ F9
     (try dsimp only)
     (try k_fold)))
  k_with "subscriptTail" => k_dflt (
    refine menu_list (ws := [Str.ofString "", Str.ofString "rep", Str.ofString "repne"]) (so := prefStr A) (by k_asm) (.head _) ?zV (show A < 3 by assumption) (by decide) (menu_pref (by assumption)) ?_
    (case zV => repeat constructor)
    intro t)
  k_with "eval IfExp" => k_dflt (
    (fail_if_success (have := hq))
    rename Fr _ _ _ _ => FF
    rename News _ _ _ _ => NN
    apply joinI left
    (case F => exact FF); (case N => exact NN)
    (case hw =>
      intro q hq
      k_steps
      all_goals refine retI hq (by assumption) (by assumption) ?_
      all_goals first | exact (if_pos (by omega)).symm.trans hleft | exact (if_neg (by omega)).symm.trans hleft)
    (intro t9 h9 tk9 F9 N9; (try dsimp only); (try k_fold)))
  k_with "binaryOp FloorDiv int int" => k_dflt (refine floordiv_int (pw2_ne _) ?_ (Or.inl (PyProof.noPylong_of_log2 (pw2_log (k6n (by assumption))))))
  k_with "binaryOp Pow int int" => ((with_reducible show wpAny _ _ (binaryOp _ (Value.int 2 _) (Value.int _ _)) _ _ _); k_dflt (refine pow2k_use (by assumption) (k6 (by assumption)) ?_))
  k_with "setItem ref int" => k_dflt (
    apply law_set
    (case F => k_asm); (case N => k_asm); (case U => k_updF); (case hi => assumption)
    (case hl => first | assumption | (show (List.map _ (rangeKs 0 16)).length = 16; rw [List.length_map]; rfl))
    (case hk => decide)
    (intro h9 vs9 ws9 W9 F9 N9 I9 L9; (try dsimp only); (try k_fold); (try clear hI8 hL8)))
  k_steps
  rename Fr _ _ _ _ => FF
  rename News _ _ _ _ => NN
  rename IntsAre vs9 _ => I9
  rename IntsAre _ (List.map (fun k' => (Int.fdiv _ _).fmod 2) _) => I6
  obtain ⟨f0, f1, f2, f3, f4, f5, h6⟩ := six_tup I6
  subst h6
  subst W9
  rename _ = List.set _ (Int.toNat 6) _ => w3
  subst w3
  rename _ = List.set _ (Int.toNat 1) _ => w2
  subst w2
  rename _ = List.set _ (Int.toNat 0) _ => w1
  subst w1
  refine' hRR _ _ _ _ _ _ _ _ ⟨_, _, _⟩ _ _ _ _ (List.map (fun k' => topm (cellAt xs 10 0 * (k' + 3) + k')) (rangeKs 0 (16 - 0 : Int).toNat)) _ _ _ _ _ _ _ _ _ _ _ base (down : Int) (8 * 2 ^ e) (128 * 256 ^ (2 ^ e - 1)) (1 + (long : Int)) sort e A (2 ^ e) ⟨48 + (src : Int), 48 + (goal : Int), left, topm (cellAt xs 8 0), ⟨_, _, _, _, _, _⟩, row⟩ _ _ _ _ _ _ _ _ _ FF (news9 NN) ?S9 ?V9 ?ret9
  case V9 => constructor <;> first | exact rfl | exact ldm (by assumption) (by exact rfl)
  case' S9 => constructor
  case i1 => exact .head _
  case i2 => exact .tail _ (.head _)
  case i3 => exact .tail _ (.tail _ (.head _))
  case i4 => exact .tail _ (.tail _ (.tail _ (.head _)))
  case i5 => exact .tail _ (.tail _ (.tail _ (.tail _ (.head _))))
  case i6 => exact .tail _ (.tail _ (.tail _ (.tail _ (.tail _ (.head _)))))
  case i7 => exact .tail _ (.tail _ (.tail _ (.tail _ (.tail _ (.tail _ (.head _))))))
  case i8 => exact .tail _ (.tail _ (.tail _ (.tail _ (.tail _ (.tail _ (.tail _ (.head _)))))))
  case i9 => exact .tail _ (.tail _ (.tail _ (.tail _ (.tail _ (.tail _ (.tail _ (.tail _ (.head _))))))))
  case n0 => k_ne
  case n1 => exact kinds_ne NN (.head _) (.tail _ (.tail _ (.head _)))
  case n2 => exact kinds_ne NN (.head _) (.tail _ (.tail _ (.tail _ (.tail _ (.tail _ (.tail _ (.tail _ (.tail _ (.tail _ (.head _))))))))))
  case n3 => k_ne
  case n4 => k_ne
  case n5 => k_ne
  case n6 => k_ne
  case n7 => k_ne
  case n8 => k_ne
  case cT => with_reducible assumption
  case cB => with_reducible assumption
  case cR => with_reducible assumption
  case hI => exact regs_m I9
  case hl => rw [List.length_map]; rfl
  case hR => exact rI
  case hl2 => exact rl
  case h8 => exact r8
  case hs => show sort < 5; omega
  case he => show e < 4; omega
  case hA => exact bA
  case hz => exact sizeW_e (by omega)
  case hsz => exact rfl
  case hd => (try dsimp only); omega
  case hlo => constructor <;> omega
  case r1 => (try dsimp only); omega
  case r2 => (try dsimp only); omega
  case r3 => exact left_ok btm hleft
  case b0 => exact (base_ok hbase).1
  case b1 => exact (base_ok hbase).2
  case ret9 => exact hret
set_option maxHeartbeats 8000000 in
theorem test : PySem.Challenge.rw_nn0059_01.Holds := by
  k_with_none
  k_with "execs cons" => (refine toks_succ ?_; intro tkU)
  k_with "storeName" => with_reducible first | (refine store_toks ?_; intro tkU) | (refine store_add ?_; intro tkU)
  k_with "call type:range" => ((rename Fr _ _ _ _ => F'); (rename News _ _ _ _ => N'); (with_unfolding_all refine range1_rows F' N' ?_; intro _ _ _ _ _ _ _ _ _))
  refine Mine.hd (by rfl) (by rfl) (by rfl) ?_
  k_go0
  all_goals try k_fold
  rename Fr _ _ _ _ => F0
  rename News _ _ _ _ => N0
  rename Heap.IsList _ _ _ => hL
  rename IntsAre _ _ => hI
  rename ¬ _ < _ => hn
  refine cut_law (by rfl : defOf vw (Str.ofString "law") = some (_, _)) F0 (by k_asm) (by k_asm) (by k_asm) (by passes_own) fun RR hRR => law_walk (by rfl : defOf vw (Str.ofString "law") = some (_, _)) F0 (by k_asm) (by k_asm) (by k_asm) N0 (by assumption) (by assumption) (by assumption) (by assumption) (by assumption) hL hI hn hRR ?_
  intro m' nw' h' tk' F9 N9
  k_steps

end Mine
theorem PySem.Challenge.cw_nn0059_01_holds : PySem.Challenge.rw_nn0059_01.Holds :=
  Mine.test
